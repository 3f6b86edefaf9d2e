import PyProof.Rows.All
import Wide.All
import OpenK.AllK
import Wide.FinOn
import PySem.Challenge.RW_tworooms_k00_names_hands_and_numbers
import KE.KStateDown
import HandS.Head0
import HandS.Head1
import HandS.Head2
import HandS.HeadEnd
import HandS.HeadHook1
import HandS.HeadHook2
import HandS.HeadHook3
import HandS.HeadHook4
import HandS.HeadWalk
import HandS.EndTab
import HandS.ExcField
import HandS.Words
import HandS.ForMost
import HandS.ForExc
import HandS.CallSlots
import HandS.Wide
import HandS.IsInst
import HandS.Defaults
import HandS.TryMany
import HandS.More
import HandS.Flow
import HandS.TupAny
import HandS.Conv
import HandS.WrittenGet
import HandS.Style
import HandS.ExcCtx
import HandS.HotCalls
import HandS.ExcInit
import HandS.ExcIs
import KE.KExcIs
import HandS.ExcInitHot
import HandS.Property
import HandS.FStr
import HandS.Text
import HandS.DictComp
import HandS.RaiseMore
import HandS.WideBits
import PyProof.StrBlock2
import HandS.SortOrd
import HandS.SortRule
import HandS.Keys
import KE.KSortTupAny
import Flt.Ops
import PyProof.FString5
import KE.KDictZip
import PyProof.Draws
import PyProof.EnumMake
import HandS.MakeKwOnly
set_option Elab.async false
set_option linter.all false
set_option maxRecDepth 100000
set_option maxHeartbeats 4000000
namespace T2
open PySem PySem.Spec PyProof.Rows L2
/-! ### what is asked of the head, and its hook -/
theorem map3 {α β γ δ : Type} {o : Option α} {f : α → β} {g : α → γ} {h : α → δ} {a : β} {b : γ} {c : δ} (h1 : o.map (fun s => (f s, g s)) = some (a, b)) (h2 : o.map (fun s => h s) = some c) : o.map (fun s => (f s, g s, h s)) = some (a, b, c) := by
  cases o with
  | none => cases h1
  | some s =>
    cases h1
    cases h2
    rfl
def memB (x : Str) : List Str → Bool
  | [] => false
  | y :: r => if y = x then true else memB x r
def oexB (K : PySem.W.Frag) (C : Addr) : Bool := match K.lookup C with
  | some ⟨.type t, _, .cls cd, sl⟩ => (match cd.mro, sl.toList with
    | .ref C' :: bm, [_, _, _, _, some (.builtin n), _] => decide (t = "type") && (decide (C' = C) && (decide (n = "ValueError.__new__") && (!cd.hasDel && (cd.hasDict && PySem.HandSPX.refsVE bm))))
    | _, _ => false)
  | _ => false
def excB (K : PySem.W.Frag) (D : Addr) : Bool := decide (PySem.W.findIn K (.ref D) "__class__" = some (some (.builtin "object.__class__"))) && (decide (PySem.W.specialIn K (.builtin "object.__class__") "__get__" = some (some (.builtin "getset_descriptor.__get__"))) &&
  (decide (PySem.W.takesIn K (.builtin "object.__class__") = some true) && decide (PySem.W.mroIn K D (.type "object") = some true)))
/-- a class x of exceptions; fs: what its objects may keep -/
def xclB (K : PySem.W.Frag) (x : Str) (fs : List Str) : Bool := oexB K (He.ga K x) && (decide (PySem.W.findIn K (.ref (He.ga K x)) "__setattr__" = some (some (.builtin "object.__setattr__"))) && (decide (PySem.W.typeIn K (.ref (He.ga K x)) = some (.type "type")) && (PySem.W.keepIn K (.ref (He.ga K x)) &&
  (xfB K (He.ga K x) && (excB K (He.ga K x) && fs.all fun f => decide (PySem.W.findIn K (.ref (He.ga K x)) f = some none))))))
/-- a class x of the text's objects; fs: what its objects keep -/
def objB (K : PySem.W.Frag) (x : Str) (fs : List Str) : Bool := PySem.W.plainGet K (He.ga K x) Str.empty && (PySem.W.hasDictIn K (He.ga K x) && (PySem.W.plainOver K (He.ga K x) && (decide (PySem.W.findIn K (.ref (He.ga K x)) "__setattr__" = some (some (.builtin "object.__setattr__"))) &&
  fs.all fun f => decide (PySem.W.findIn K (.ref (He.ga K x)) f = some none))))
def methB (K : PySem.W.Frag) (c m : Str) : Bool := decide (PySem.W.findIn K (.ref (He.ga K c)) m = some (some (.ref (He.ma K (He.ga K c) m)))) && (PySem.W.isFn K (.ref (He.ma K (He.ga K c) m)) && PySem.W.keepIn K (.ref (He.ma K (He.ga K c) m)))
def mkB (K : PySem.W.Frag) (c : Str) : Bool := PySem.W.makesIn K (He.ga K c) && (decide (PySem.W.findIn K (.ref (He.ga K c)) "__init__" = some (some (.ref (He.ma K (He.ga K c) "__init__")))) && (PySem.W.isFn K (.ref (He.ma K (He.ga K c) "__init__")) && PySem.W.keepIn K (.ref (He.ga K c))))
/-- where a property's getter stands -/
def gtA (K : PySem.W.Frag) (c f : Str) : Addr := match PySem.W.recIn K (He.ma K (He.ga K c) f) "property" with
  | some (.ref g :: _) => g
  | _ => 0
def prB (K : PySem.W.Frag) (c f : Str) : Bool := decide (PySem.W.findIn K (.ref (He.ga K c)) f = some (some (.ref (He.ma K (He.ga K c) f)))) && (decide (PySem.W.specialIn K (.ref (He.ma K (He.ga K c) f)) "__get__" = some (some (.builtin "property.__get__"))) &&
  (decide (PySem.W.takesIn K (.ref (He.ma K (He.ga K c) f)) = some true) && (match PySem.W.recIn K (He.ma K (He.ga K c) f) "property" with
  | some (.ref _ :: _) => true
  | _ => false)))
structure GetD where
  c : Str
  f : Str
  d : He.DefD
def fnWA (K : PySem.W.Frag) (a : Addr) : He.FnW := match K.lookup a with
  | some ⟨_, _, .func fd, _⟩ => some (fd.name, fd.qualname, fd.params, fd.body, fd.scope, fd.globals, fd.closure, fd.builtins)
  | _ => none
def okA (K : PySem.W.Frag) (a : Addr) (d : He.DefD) : Bool := PySem.W.keepIn K (.ref a) && (match K.lookup a with
  | some ⟨_, _, .func fd, _⟩ => PySem.W.codeIn K fd.code d.qual && (He.dflB K fd.defaults (d.dvs K) && He.kwdB K fd.kwdefaults (d.kws K))
  | _ => false)
theorem funA {K : PySem.W.Frag} {a : Addr} {d : He.DefD} (e : fnWA K a = d.val) (c : okA K a d = true) : ∃ fd, FunD K d.name d.qual d.params d.body d.scope (d.dvs K) (d.kws K) a fd := by
  obtain ⟨kp, c2⟩ := He.ba c
  unfold fnWA at e
  cases q : K.lookup a with
  | none =>
    rw [q] at c2
    cases c2
  | some o =>
    obtain ⟨oc, od, dt, osl⟩ := o
    rw [q] at c2 e
    cases dt with
    | func fd =>
      obtain ⟨n1, n2, n3, n4, n5, n6, n7, n8, n9, n10, n11, n12, n13, n14, n15⟩ := fd
      have e2 : (some (n1, n2, n3, n4, n5, n6, n7, n15) : He.FnW) = some (d.name, d.qual, d.params, .stmts d.body, d.scope, mainGlobals, [], builtinsNs) := e
      simp only [Option.some.injEq, Prod.mk.injEq] at e2
      obtain ⟨h1, h2, h3, h4, h5, h6, h7, h8⟩ := e2
      subst h1 h2 h3 h4 h5 h6 h7 h8
      have c3 : (PySem.W.codeIn K n13 d.qual && (He.dflB K n8 (d.dvs K) && He.kwdB K n9 (d.kws K))) = true := c2
      obtain ⟨k1, k2⟩ := He.ba c3
      obtain ⟨k3, k4⟩ := He.ba k2
      exact ⟨_, ⟨oc, od, n8, n9, n10, n11, n12, n13, n14, osl, rfl, q, k1, He.dflB_ok k3, He.kwdB_ok k4⟩, kp⟩
    | _ => cases c2
structure SaysY (fa : List He.Fa) (fn : List He.DefD) (pr : List GetD) (ex : PySem.W.Frag → Bool) (w : World) (h : Heap) (K : PySem.W.Frag) : Prop where
  x : He.SaysX fa fn [] [] ex w h K
  p : ∀ (i : Nat) (q : GetD), pr[i]? = some q → ∃ fd, FunD K q.d.name q.d.qual q.d.params q.d.body q.d.scope (q.d.dvs K) (q.d.kws K) (gtA K q.c q.f) fd
abbrev AlY : Type := He.AlX × Bool × List He.FnW
def obsY (n : Nat) (fa : List He.Fa) (fn : List He.DefD) (pr : List GetD) (ex : PySem.W.Frag → Bool) (g : Addr → Option Obj) : AlY :=
  (He.obsX n fa fn [] [] ex g, pr.all fun q => okA (He.frT g (He.asD g n)) (gtA (He.frT g (He.asD g n)) q.c q.f) q.d, pr.map fun q => fnWA (He.frT g (He.asD g n)) (gtA (He.frT g (He.asD g n)) q.c q.f))
theorem map_get {α β : Type} {f g : α → β} : ∀ {l : List α}, l.map f = l.map g → ∀ x ∈ l, f x = g x
  | [], _, x, h => by cases h
  | a :: r, e, x, h => by
    rw [List.map_cons, List.map_cons] at e
    obtain ⟨e1, e2⟩ := List.cons.inj e
    rcases List.mem_cons.mp h with rfl | h
    · exact e1
    · exact map_get e2 x h
def hookY (n : Nat) (fa : List He.Fa) (fn : List He.DefD) (pr : List GetD) (ex : PySem.W.Frag → Bool) : PySem.W.Hook where
  α := AlY
  obs := fun s => obsY n fa fn pr ex s.heap.get?
  val := fun w => (He.valX fn [] w, true, pr.map fun q => q.d.val)
  says := fun w h => ∃ K : PySem.W.Frag, K.In h ∧ SaysY fa fn pr ex w h K
  of := fun _ _ e => ⟨_, He.frT_in, He.saysX_of (congrArg (fun z : AlY => z.1) e), fun i q hq =>
    funA (map_get (congrArg (fun z : AlY => z.2.2) e) q (List.mem_of_getElem? hq)) (List.all_eq_true.mp (congrArg (fun z : AlY => z.2.1) e) q (List.mem_of_getElem? hq))⟩
  keeps := fun _ _ _ ⟨K, hK, c⟩ k => ⟨K, PySem.W.Frag.In.keeps hK k, ⟨⟨c.x.t, c.x.more, c.x.hd, c.x.out, fun p hp => k _ _ (c.x.empty p hp)⟩, c.p⟩⟩
theorem obsY_eq {n : Nat} {fa : List He.Fa} {fn : List He.DefD} {pr : List GetD} {ex : PySem.W.Frag → Bool} {g : Addr → Option Obj} {s : Shared} (h : ∀ a, g a = s.heap.get? a) : obsY n fa fn pr ex g = (hookY n fa fn pr ex).obs s := by
  have e : g = s.heap.get? := funext h
  rw [e] <;> rfl
/-- x names a class; is: which of the classes are it or below it -/
def subB (K : PySem.W.Frag) (cs : List Str) (x : Str) (is : Str → Bool) : Bool := cs.all fun c => decide (PySem.W.kitOne K (.ref (He.ga K c)) (.ref (He.ga K x)) = some (is c)) && decide (PySem.W.exmOne K (.ref (He.ga K c)) (.ref (He.ga K x)) = some (is c))
/-- .. a built-in class -/
def subV (K : PySem.W.Frag) (cs : List Str) (n : String) (is : Str → Bool) : Bool := cs.all fun c => decide (PySem.W.kitOne K (.ref (He.ga K c)) (.type n) = some (is c)) && decide (PySem.W.exmOne K (.ref (He.ga K c)) (.type n) = some (is c))
/-- a tuple of texts among the text's constants -/
def valS : List Str → List Value → Bool
  | [], [] => true
  | y :: ys, .str z _ :: vs => decide (z = y) && valS ys vs
  | _, _ => false
def ctpB (K : PySem.W.Frag) (x : Str) (ys : List Str) : Bool := match K.lookup (He.ga K x) with
  | some o => decide (o.cls = .type "tuple") && (match o.data with
    | .seq its _ => Nat.ble its.size 1000 && valS ys its.toList
    | _ => false)
  | none => false
end T2

set_option maxRecDepth 100000
set_option maxHeartbeats 4000000
namespace K00Y
open PySem PySem.Spec PyProof.Rows L2 T2
def isX_BadRow : Str → Bool := fun c => memB c ["BadRow"]
def isX_NothingDone : Str → Bool := fun c => memB c ["NothingDone"]
def isX_BadDeed : Str → Bool := fun c => memB c ["BadDeed"]
def isX_ComesBack : Str → Bool := fun c => memB c ["ComesBack"]
def isX_SelfTaking : Str → Bool := fun c => memB c ["SelfTaking"]
def isX_Occupied : Str → Bool := fun c => memB c ["Occupied"]
def isX_GameOver : Str → Bool := fun c => memB c ["GameOver"]
def isX_Falls : Str → Bool := fun c => memB c ["Falls"]
def isX_Stands : Str → Bool := fun c => memB c ["Stands"]
def isX_NoStone : Str → Bool := fun c => memB c ["NoStone"]
def isX_NotRight : Str → Bool := fun c => memB c ["NotRight"]
def isX_BadMap : Str → Bool := fun c => memB c ["BadMap"]
def isX_BadTree : Str → Bool := fun c => memB c ["BadTree"]
def isX_BadText : Str → Bool := fun c => memB c ["BadText"]
def isX_BadSigns : Str → Bool := fun c => memB c ["BadSigns"]
def isX_Repeated : Str → Bool := fun c => memB c ["Repeated"]
def isX_SelfTie : Str → Bool := fun c => memB c ["SelfTie"]
def isX_NoPlace : Str → Bool := fun c => memB c ["NoPlace"]
def isX_NoEntry : Str → Bool := fun c => memB c ["NoEntry"]
def isX_TooMany : Str → Bool := fun c => memB c ["TooMany"]
def isX_BadName : Str → Bool := fun c => memB c ["BadName"]
def isX_NoHand : Str → Bool := fun c => memB c ["NoHand"]
def isX_BadNumber : Str → Bool := fun c => memB c ["BadNumber"]
def isX_TworoomsError : Str → Bool := fun c => memB c ["TworoomsError", "BadNumber", "NoHand", "BadName", "TooMany", "NoEntry", "NoPlace", "SelfTie", "Repeated", "BadSigns", "BadText", "BadTree", "BadMap", "NotRight", "NoStone", "Stands", "Falls", "GameOver", "Occupied", "SelfTaking", "ComesBack", "BadDeed", "NothingDone", "BadRow"]
def isX_ValueError : Str → Bool := fun c => memB c ["ValueError", "TworoomsError", "BadNumber", "NoHand", "BadName", "TooMany", "NoEntry", "NoPlace", "SelfTie", "Repeated", "BadSigns", "BadText", "BadTree", "BadMap", "NotRight", "NoStone", "Stands", "Falls", "GameOver", "Occupied", "SelfTaking", "ComesBack", "BadDeed", "NothingDone", "BadRow"]
def top (i : Nat) : Stmt := PySem.Challenge.pw_tworooms_k00_names_hands_and_numbers.main.body.getD i (.Pass ⟨0, 0, 0, 0⟩)
def inner (s : Stmt) (j : Nat) : Stmt := match s with
  | .ClassDef _ _ _ b _ _ _ _ _ _ _ => b.getD j (.Pass ⟨0, 0, 0, 0⟩)
  | _ => .Pass ⟨0, 0, 0, 0⟩
def cs : List Str := ["NoHand", "BadNumber"]
def ofl : List Str := []
def os : List Str := []
def d_mixed : He.DefD := ⟨("_law_mixed", none), "_law_mixed", "_law_mixed", defArgs (top 51), defBody (top 51), defScope (top 51), [], []⟩
def d_take : He.DefD := ⟨("_law_take", none), "_law_take", "_law_take", defArgs (top 52), defBody (top 52), defScope (top 52), [], []⟩
def d_pick : He.DefD := ⟨("_law_pick", none), "_law_pick", "_law_pick", defArgs (top 53), defBody (top 53), defScope (top 53), [], []⟩
def d_chance : He.DefD := ⟨("_law_chance", none), "_law_chance", "_law_chance", defArgs (top 54), defBody (top 54), defScope (top 54), [], []⟩
def d_number : He.DefD := ⟨("_law_number", none), "_law_number", "_law_number", defArgs (top 55), defBody (top 55), defScope (top 55), [], []⟩
def d_size : He.DefD := ⟨("_law_size", none), "_law_size", "_law_size", defArgs (top 56), defBody (top 56), defScope (top 56), [], []⟩
def d_shuffled : He.DefD := ⟨("_law_shuffled", none), "_law_shuffled", "_law_shuffled", defArgs (top 57), defBody (top 57), defScope (top 57), [], []⟩
def d_store : He.DefD := ⟨("_law_store", none), "_law_store", "_law_store", defArgs (top 50), defBody (top 50), defScope (top 50), [], []⟩
def d_same : He.DefD := ⟨("_law_same", none), "_law_same", "_law_same", defArgs (top 58), defBody (top 58), defScope (top 58), [], []⟩
def d_same_rows : He.DefD := ⟨("_law_same_rows", none), "_law_same_rows", "_law_same_rows", defArgs (top 59), defBody (top 59), defScope (top 59), [], []⟩
def d_signs_of_texts : He.DefD := ⟨("_law_signs_of_texts", none), "_law_signs_of_texts", "_law_signs_of_texts", defArgs (top 61), defBody (top 61), defScope (top 61), [], []⟩
def d_text : He.DefD := ⟨("_law_text", none), "_law_text", "_law_text", defArgs (top 62), defBody (top 62), defScope (top 62), [], []⟩
def d_name : He.DefD := ⟨("_law_name", none), "_law_name", "_law_name", defArgs (top 63), defBody (top 63), defScope (top 63), [], []⟩
def d_bad_name : He.DefD := ⟨("_law_bad_name", none), "_law_bad_name", "_law_bad_name", defArgs (top 64), defBody (top 64), defScope (top 64), [], []⟩
def d_kinds : He.DefD := ⟨("_law_kinds", none), "_law_kinds", "_law_kinds", defArgs (top 65), defBody (top 65), defScope (top 65), [], []⟩
def d_due : He.DefD := ⟨("_law_due", none), "_law_due", "_law_due", defArgs (top 66), defBody (top 66), defScope (top 66), [], []⟩
def d_named : He.DefD := ⟨("_law_named", none), "_law_named", "_law_named", defArgs (top 67), defBody (top 67), defScope (top 67), [], []⟩
def d_any_text : He.DefD := ⟨("_law_any_text", none), "_law_any_text", "_law_any_text", defArgs (top 68), defBody (top 68), defScope (top 68), [], []⟩
def d_near : He.DefD := ⟨("_law_near", none), "_law_near", "_law_near", defArgs (top 69), defBody (top 69), defScope (top 69), [], []⟩
def d_m_other_hand : He.DefD := ⟨("other_hand", none), "other_hand", "other_hand", defArgs (top 41), defBody (top 41), defScope (top 41), [], []⟩
def d_m_sign_of : He.DefD := ⟨("sign_of", none), "sign_of", "sign_of", defArgs (top 42), defBody (top 42), defScope (top 42), [], []⟩
def d_m_hand_of : He.DefD := ⟨("hand_of", none), "hand_of", "hand_of", defArgs (top 43), defBody (top 43), defScope (top 43), [], []⟩
def d_m_is_letter : He.DefD := ⟨("is_letter", none), "is_letter", "is_letter", defArgs (top 44), defBody (top 44), defScope (top 44), [], []⟩
def d_m_is_digit : He.DefD := ⟨("is_digit", none), "is_digit", "is_digit", defArgs (top 45), defBody (top 45), defScope (top 45), [], []⟩
def d_m_is_name : He.DefD := ⟨("is_name", none), "is_name", "is_name", defArgs (top 46), defBody (top 46), defScope (top 46), [], []⟩
def d_m_is_number : He.DefD := ⟨("is_number", none), "is_number", "is_number", defArgs (top 47), defBody (top 47), defScope (top 47), [], []⟩
def d_m_check_number : He.DefD := ⟨("check_number", none), "check_number", "check_number", defArgs (top 48), defBody (top 48), defScope (top 48), [], []⟩
def d_told_other : He.DefD := ⟨("_law_told_other", none), "_law_told_other", "_law_told_other", defArgs (top 70), defBody (top 70), defScope (top 70), [], []⟩
def d_told_sign : He.DefD := ⟨("_law_told_sign", none), "_law_told_sign", "_law_told_sign", defArgs (top 71), defBody (top 71), defScope (top 71), [], []⟩
def d_told_check : He.DefD := ⟨("_law_told_check", none), "_law_told_check", "_law_told_check", defArgs (top 72), defBody (top 72), defScope (top 72), [], []⟩
def d_text_good : He.DefD := ⟨("_law_text_good", none), "_law_text_good", "_law_text_good", defArgs (top 73), defBody (top 73), defScope (top 73), [], []⟩
def d_number_good : He.DefD := ⟨("_law_number_good", none), "_law_number_good", "_law_number_good", defArgs (top 74), defBody (top 74), defScope (top 74), [], []⟩
def d_constants : He.DefD := ⟨("_law_constants", none), "_law_constants", "_law_constants", defArgs (top 75), defBody (top 75), defScope (top 75), [], []⟩
def d_law : He.DefD := ⟨("law", none), "law", "law", defArgs (top 76), defBody (top 76), defScope (top 76), [], []⟩
def d_same_dicts : He.DefD := ⟨("_law_same_dicts", none), "_law_same_dicts", "_law_same_dicts", defArgs (top 60), defBody (top 60), defScope (top 60), [], []⟩
def d_init_NoHand : He.DefD := ⟨("NoHand", some "__init__"), "__init__", "NoHand.__init__", defArgs (inner (top 3) 0), defBody (inner (top 3) 0), defScope (inner (top 3) 0), [], []⟩
def d_init_BadNumber : He.DefD := ⟨("BadNumber", some "__init__"), "__init__", "BadNumber.__init__", defArgs (inner (top 2) 0), defBody (inner (top 2) 0), defScope (inner (top 2) 0), [], []⟩
def fn : List He.DefD := [d_mixed, d_take, d_pick, d_chance, d_number, d_size, d_shuffled, d_store, d_same, d_same_rows, d_signs_of_texts, d_text, d_name, d_bad_name, d_kinds, d_due, d_named, d_any_text, d_near, d_m_other_hand, d_m_sign_of, d_m_hand_of, d_m_is_letter, d_m_is_digit, d_m_is_name, d_m_is_number, d_m_check_number, d_told_other, d_told_sign, d_told_check, d_text_good, d_number_good, d_constants, d_law, d_same_dicts, d_init_NoHand, d_init_BadNumber]
def gt : List GetD := []
def fa : List He.Fa := [.glo "_law_mixed", .glo "_law_take", .glo "_law_pick", .glo "_law_chance", .glo "_law_number", .glo "_law_size", .glo "_law_shuffled", .glo "_law_store", .glo "_law_same", .glo "_law_same_rows", .glo "_law_signs_of_texts", .glo "_law_text", .glo "_law_name", .glo "_law_bad_name", .glo "_law_kinds", .glo "_law_due", .glo "_law_named", .glo "_law_any_text", .glo "_law_near", .glo "other_hand", .glo "sign_of", .glo "hand_of", .glo "is_letter", .glo "is_digit", .glo "is_name", .glo "is_number", .glo "check_number", .glo "_law_told_other", .glo "_law_told_sign", .glo "_law_told_check", .glo "_law_text_good", .glo "_law_number_good", .glo "_law_constants", .glo "law", .glo "_law_same_dicts", .glo "NoHand", .glo "BadNumber", .glo "BadRow", .glo "NothingDone", .glo "BadDeed", .glo "ComesBack", .glo "SelfTaking", .glo "Occupied", .glo "GameOver", .glo "Falls", .glo "Stands", .glo "NoStone", .glo "NotRight", .glo "BadMap", .glo "BadTree", .glo "BadText", .glo "BadSigns", .glo "Repeated", .glo "SelfTie", .glo "NoPlace", .glo "NoEntry", .glo "TooMany", .glo "BadName", .glo "TworoomsError", .free "len", .free "abs", .free "max", .free "min", .free "int", .free "list", .free "tuple", .free "all", .free "any", .free "range", .free "isinstance", .free "bool", .free "str", .free "dict", .free "sorted", .free "enumerate", .free "zip", .free "sum", .free "ord", .free "set", .free "iter", .free "reversed", .free "repr", .free "ValueError", .str "LIGHT" "light", .str "DARK" "dark", .int "LONGEST_NAME" 6, .int "MOST_ROWS" 60, .int "MOST_SETS" 150, .int "MOST_BOARDS" 400, .int "MOST_BUDGET" 400, .int "MOST_DEPTH" 12, .int "MOST_NODES" 60, .int "MOST_DEEDS" 60, .int "MOST_TIES" 60, .int "MOST_PLACES" 20, .str "FREE" ".", .str "PASS" "-", .glo "HANDS"]
def fl_NoHand : List Str := ["hand", "value", "what"]
def fl_BadNumber : List Str := ["what", "value", "hand"]
def ex (K : PySem.W.Frag) : Bool := (xclB K "NoHand" fl_NoHand && (xclB K "BadNumber" fl_BadNumber && (subB K cs "BadRow" isX_BadRow && (subB K cs "NothingDone" isX_NothingDone && (subB K cs "BadDeed" isX_BadDeed && (subB K cs "ComesBack" isX_ComesBack && (subB K cs "SelfTaking" isX_SelfTaking && (subB K cs "Occupied" isX_Occupied && (subB K cs "GameOver" isX_GameOver && (subB K cs "Falls" isX_Falls && (subB K cs "Stands" isX_Stands && (subB K cs "NoStone" isX_NoStone && (subB K cs "NotRight" isX_NotRight && (subB K cs "BadMap" isX_BadMap && (subB K cs "BadTree" isX_BadTree && (subB K cs "BadText" isX_BadText && (subB K cs "BadSigns" isX_BadSigns && (subB K cs "Repeated" isX_Repeated && (subB K cs "SelfTie" isX_SelfTie && (subB K cs "NoPlace" isX_NoPlace && (subB K cs "NoEntry" isX_NoEntry && (subB K cs "TooMany" isX_TooMany && (subB K cs "BadName" isX_BadName && (subB K cs "NoHand" isX_NoHand && (subB K cs "BadNumber" isX_BadNumber && (subB K cs "TworoomsError" isX_TworoomsError && (subV K cs "ValueError" isX_ValueError && ((decide (PySem.W.findIn K (.ref (He.ga K "NoHand")) "__init__" = some (some (.ref (He.ma K (He.ga K "NoHand") "__init__")))) && decide (PySem.W.typeIn K (.ref (He.ma K (He.ga K "NoHand") "__init__")) = some (.type "function"))) && ((decide (PySem.W.findIn K (.ref (He.ga K "BadNumber")) "__init__" = some (some (.ref (He.ma K (He.ga K "BadNumber") "__init__")))) && decide (PySem.W.typeIn K (.ref (He.ma K (He.ga K "BadNumber") "__init__")) = some (.type "function"))) && (ctpB K "HANDS" ["dark", "light"] && true))))))))))))))))))))))))))))))
def loose0 : List Str := ["__name__", "TworoomsError", "BadNumber", "NoHand", "BadName", "TooMany", "NoEntry", "NoPlace", "SelfTie", "Repeated", "BadSigns", "BadText", "BadTree", "BadMap", "NotRight", "NoStone", "Stands", "Falls", "GameOver", "Occupied", "SelfTaking", "ComesBack", "BadDeed", "NothingDone", "BadRow", "DARK", "LIGHT", "HANDS", "PASS", "FREE"]
def loose1 : List Str := ["MOST_PLACES", "MOST_TIES", "MOST_DEEDS", "MOST_NODES", "MOST_DEPTH", "MOST_BUDGET", "MOST_BOARDS", "MOST_SETS", "MOST_ROWS", "LONGEST_NAME", "other_hand", "sign_of", "hand_of", "is_letter", "is_digit", "is_name", "is_number", "check_number", "_law_store", "_law_mixed", "_law_take", "_law_pick", "_law_chance", "_law_number", "_law_size", "_law_shuffled", "_law_same", "_law_same_rows", "_law_same_dicts", "_law_signs_of_texts"]
def loose2 : List Str := ["_law_text", "_law_name", "_law_bad_name", "_law_kinds", "_law_due", "_law_named", "_law_any_text", "_law_near", "_law_told_other", "_law_told_sign", "_law_told_check", "_law_text_good", "_law_number_good", "_law_constants"]
def loose : List Str := loose0 ++ loose1 ++ loose2
abbrev R : PySem.W.OpenRow := PySem.W.OpenLaw.row PySem.Challenge.rw_tworooms_k00_names_hands_and_numbers
def hk : PySem.W.Hook := hookY 5 fa fn gt ex
def ob (s : PySem.W.SharedT) : AlY := obsY 5 fa fn gt ex (HandSHeadRun.getT s)
theorem ob_eq (s : PySem.W.SharedT) : ob s = hk.obs s.abs := obsY_eq (HandSHeadRun.getT_eq s)
open HandSHeadRun PySem.W PySem.Calls in
theorem run1 (w : World) : ∀ os : OsState, (endF (stepQ (denQ tabQ) R.prog w) 8000 R.prog w os).map (fun s => (looksF R.prog (boot_heap w.params) s.abs, seenQ (PySem.W.view R.prog [76]) loose (importedModules R.prog.main.body) (fun s => xlAt (PySem.W.view R.prog [76]) [] s && recOk R.toRowW.records s) s.abs)) = some (true, openGood (PySem.W.view R.prog [76]) loose) := by
  intro os
  kernel_rfl
open HandSHeadRun PySem.W PySem.Calls in
theorem run2 (w : World) : ∀ os : OsState, (endF (stepQ (denQ tabQ) R.prog w) 8000 R.prog w os).map (fun s => ob s) = some (hk.val w) := by
  intro os
  kernel_rfl
theorem run (w : World) : HandSHeadRun.RunEq R (PySem.W.view R.prog [76]) hk ob 8000 loose w := fun os => map3 (run1 w os) (run2 w os)
end K00Y

set_option maxRecDepth 100000
set_option maxHeartbeats 4000000
namespace T2
open PySem PySem.Spec PyProof.Rows L2
abbrev St := L2.St

/-- data as trees; raw: a reference to something that may change, told in Mu -/
inductive D where
  | non | bl (b : Bool) | int (i : Int) | str (s : Str)
  | lst (xs : List D) | tup (xs : List D)
  | dct (kvs : List (Key × D))
  | dcf (kvs : List (Key × D))
  | obj (c : Str) (fs : List (Str × D))
  | raw (a : Addr)
  | scr (xs : List D)
  | exc (a ca : Addr) (dx : Option Addr) (c : Str) (fs : List (Str × D))
  /-- a tuple of the text's constants -/
  | ctp (xs : List D)

abbrev FE := List (Str × D)
inductive MO where
  | lst (xs : List D)
  | dct (kvs : List (Key × D))
  | ins (c : Str) (fs : FE)
  /-- a dict with tuples as keys (what it holds is not told) -/
  | dts (ks : List (List Key))
abbrev Mu := Addr → Option MO
def mset (μ : Mu) (a : Addr) (m : MO) : Mu := fun b => if b = a then some m else μ b
theorem mset_same {μ : Mu} {a : Addr} {m : MO} : mset μ a m a = some m := if_pos rfl
theorem mset_ne {μ : Mu} {a b : Addr} {m : MO} (h : b ≠ a) : mset μ a m b = μ b := if_neg h
theorem mset_mset {μ : Mu} {a : Addr} {m m' : MO} : mset (mset μ a m) a m' = mset μ a m' := by
  funext b; unfold mset; split <;> rfl
abbrev Env := List (Option D)

/-- the classes by name; those of exceptions -/
structure CT where
  cls : Str → Option Addr
  xcls : Str → Option Addr

mutual
def Rep (K : PySem.W.Frag) (C : CT) (F : Hp) : D → V → Prop
  | .non, v => v = .non
  | .bl b, v => v = .bl b
  | .int i, v => v = .int i
  | .str s, v => v = .str s
  | .lst ds, v => ∃ a xs, v = .ref a ∧ F a = some (.lst xs) ∧ RepL K C F ds xs
  | .scr ds, v => ∃ a xs, v = .ref a ∧ SqL K F a xs ∧ RepL K C F ds xs
  | .tup ds, v => ∃ a xs, v = .ref a ∧ F a = some (.tup xs) ∧ RepL K C F ds xs
  | .ctp ds, v => ∃ a xs, v = .ref a ∧ SqT K (fun _ => none) a xs ∧ RepL K C F ds xs
  | .dct ks, v => ∃ a xs, v = .ref a ∧ F a = some (.dK xs) ∧ RepK K C F ks xs
  | .dcf ks, v => ∃ a o xs, v = .ref a ∧ F a = some (.frz o (.dK xs)) ∧ RepK K C F ks xs
  | .obj c fs, v => ∃ a ca dx xs, v = .ref a ∧ C.cls c = some ca ∧ F a = some (.ins ca dx xs) ∧ RepF K C F fs xs
  | .raw a, v => v = .ref a
  | .exc a ca dd c fs, v => v = .ref a ∧ C.xcls c = some ca ∧ ((fs = [] ∧ dd = none) ∨ ∃ dx xs, dd = some dx ∧ F dx = some (.xd xs) ∧ RepF K C F fs xs)
def RepL (K : PySem.W.Frag) (C : CT) (F : Hp) : List D → List V → Prop
  | [], xs => xs = []
  | d :: ds, xs => ∃ x r, xs = x :: r ∧ Rep K C F d x ∧ RepL K C F ds r
def RepK (K : PySem.W.Frag) (C : CT) (F : Hp) : List (Key × D) → List (Key × V) → Prop
  | [], xs => xs = []
  | (k, d) :: ds, xs => ∃ x r, xs = (k, x) :: r ∧ Rep K C F d x ∧ RepK K C F ds r
def RepF (K : PySem.W.Frag) (C : CT) (F : Hp) : List (Str × D) → List (Str × V) → Prop
  | [], xs => xs = []
  | (k, d) :: ds, xs => ∃ x r, xs = (k, x) :: r ∧ Rep K C F d x ∧ RepF K C F ds r
end

def Sub (F G : Hp) : Prop := ∀ a o, F a = some o → G a = some o
theorem Sub.refl (F : Hp) : Sub F F := fun _ _ h => h
theorem Sub.trans {F G H : Hp} (a : Sub F G) (b : Sub G H) : Sub F H := fun x o h => b x o (a x o h)
theorem Sub.new {H : Hp} {p : Addr} {o : HO} (h : H p = none) : Sub H (upd H p o) := fun a u e => by
  rw [upd_ne (ne_of_none e h)]
  exact e
theorem Sub.rd {F G : Hp} (s : Sub F G) {a : Addr} {u : HO} (h : Rd F a u) : Rd G a u := by
  rcases h with h | ⟨o, h⟩
  · exact .inl (s a _ h)
  · exact .inr ⟨o, s a _ h⟩
theorem Sub.sqL {K : PySem.W.Frag} {F G : Hp} (s : Sub F G) {a : Addr} {xs : List V} (h : SqL K F a xs) : SqL K G a xs := h.elim (fun h => .inl (s.rd h)) .inr
theorem Sub.sqT {K : PySem.W.Frag} {F G : Hp} (s : Sub F G) {a : Addr} {xs : List V} (h : SqT K F a xs) : SqT K G a xs := h.elim (fun h => .inl (s.rd h)) .inr

section
variable {K : PySem.W.Frag} {C : CT} {F G : Hp}
mutual
theorem Rep.mono (s : Sub F G) : ∀ {d : D} {v : V}, Rep K C F d v → Rep K C G d v
  | .non, _, h => h
  | .bl _, _, h => h
  | .int _, _, h => h
  | .str _, _, h => h
  | .raw _, _, h => h
  | .lst ds, v, h => by
    unfold Rep at h ⊢
    obtain ⟨a, xs, e, q, r⟩ := h
    exact ⟨a, xs, e, s _ _ q, RepL.mono s r⟩
  | .scr ds, v, h => by
    unfold Rep at h ⊢
    obtain ⟨a, xs, e, q, r⟩ := h
    exact ⟨a, xs, e, s.sqL q, RepL.mono s r⟩
  | .tup ds, v, h => by
    unfold Rep at h ⊢
    obtain ⟨a, xs, e, q, r⟩ := h
    exact ⟨a, xs, e, s _ _ q, RepL.mono s r⟩
  | .ctp ds, v, h => by
    unfold Rep at h ⊢
    obtain ⟨a, xs, e, q, r⟩ := h
    exact ⟨a, xs, e, q, RepL.mono s r⟩
  | .dct ds, v, h => by
    unfold Rep at h ⊢
    obtain ⟨a, xs, e, q, r⟩ := h
    exact ⟨a, xs, e, s _ _ q, RepK.mono s r⟩
  | .dcf ds, v, h => by
    unfold Rep at h ⊢
    obtain ⟨a, o, xs, e, q, r⟩ := h
    exact ⟨a, o, xs, e, s _ _ q, RepK.mono s r⟩
  | .obj c ds, v, h => by
    unfold Rep at h ⊢
    obtain ⟨a, ca, dx, xs, e, hc, q, r⟩ := h
    exact ⟨a, ca, dx, xs, e, hc, s _ _ q, RepF.mono s r⟩
  | .exc a ca dd c ds, v, h => by
    unfold Rep at h ⊢
    obtain ⟨e, hc, q⟩ := h
    refine ⟨e, hc, ?_⟩
    rcases q with q | ⟨dx, xs, e2, q, r⟩
    · exact .inl q
    · exact .inr ⟨dx, xs, e2, s _ _ q, RepF.mono s r⟩
theorem RepL.mono (s : Sub F G) : ∀ {ds : List D} {xs : List V}, RepL K C F ds xs → RepL K C G ds xs
  | [], _, h => h
  | d :: ds, xs, h => by
    unfold RepL at h ⊢
    obtain ⟨x, r, e, h1, h2⟩ := h
    exact ⟨x, r, e, Rep.mono s h1, RepL.mono s h2⟩
theorem RepK.mono (s : Sub F G) : ∀ {ds : List (Key × D)} {xs : List (Key × V)}, RepK K C F ds xs → RepK K C G ds xs
  | [], _, h => h
  | (k, d) :: ds, xs, h => by
    unfold RepK at h ⊢
    obtain ⟨x, r, e, h1, h2⟩ := h
    exact ⟨x, r, e, Rep.mono s h1, RepK.mono s h2⟩
theorem RepF.mono (s : Sub F G) : ∀ {ds : List (Str × D)} {xs : List (Str × V)}, RepF K C F ds xs → RepF K C G ds xs
  | [], _, h => h
  | (k, d) :: ds, xs, h => by
    unfold RepF at h ⊢
    obtain ⟨x, r, e, h1, h2⟩ := h
    exact ⟨x, r, e, Rep.mono s h1, RepF.mono s h2⟩
end
theorem RepL.nil : RepL K C F [] [] := by unfold RepL; rfl
theorem RepL.cons {d : D} {v : V} {ds : List D} {xs : List V} (h : Rep K C F d v) (t : RepL K C F ds xs) : RepL K C F (d :: ds) (v :: xs) := by
  unfold RepL; exact ⟨v, xs, rfl, h, t⟩
theorem RepL.len : ∀ {ds : List D} {xs : List V}, RepL K C F ds xs → xs.length = ds.length
  | [], _, h => by unfold RepL at h; rw [h]; rfl
  | d :: ds, _, h => by
    unfold RepL at h
    obtain ⟨x, r, e, _, t⟩ := h
    rw [e, List.length_cons, List.length_cons, t.len]
theorem RepL.get : ∀ {ds : List D} {xs : List V} {i : Nat} {v : V}, RepL K C F ds xs → xs[i]? = some v → ∃ d, ds[i]? = some d ∧ Rep K C F d v
  | [], _, i, v, h, e => by unfold RepL at h; rw [h] at e; simp at e
  | d :: ds, _, 0, v, h, e => by
    unfold RepL at h
    obtain ⟨x, r, e', h1, t⟩ := h
    rw [e'] at e
    have := Option.some.inj e
    exact ⟨d, rfl, this ▸ h1⟩
  | d :: ds, _, i + 1, v, h, e => by
    unfold RepL at h
    obtain ⟨x, r, e', h1, t⟩ := h
    rw [e'] at e
    exact RepL.get (i := i) t e
theorem RepL.at : ∀ {ds : List D} {xs : List V} {i : Nat} {d : D}, RepL K C F ds xs → ds[i]? = some d → ∃ v, xs[i]? = some v ∧ Rep K C F d v
  | [], _, i, v, h, e => by simp at e
  | d :: ds, _, 0, v, h, e => by
    unfold RepL at h
    obtain ⟨x, r, e', h1, t⟩ := h
    subst e'
    have := Option.some.inj e
    exact ⟨x, rfl, this ▸ h1⟩
  | d :: ds, _, i + 1, v, h, e => by
    unfold RepL at h
    obtain ⟨x, r, e', h1, t⟩ := h
    subst e'
    exact RepL.at (i := i) t e
theorem RepL.append : ∀ {ds es : List D} {xs ys : List V}, RepL K C F ds xs → RepL K C F es ys → RepL K C F (ds ++ es) (xs ++ ys)
  | [], _, _, _, h, t => by unfold RepL at h; subst h; exact t
  | d :: ds, _, _, _, h, t => by
    unfold RepL at h
    obtain ⟨x, r, e', h1, h2⟩ := h
    subst e'
    exact RepL.cons h1 (h2.append t)
theorem RepL.set : ∀ {ds : List D} {xs : List V} {d : D} {v : V} (i : Nat), RepL K C F ds xs → Rep K C F d v → RepL K C F (ds.set i d) (xs.set i v)
  | [], _, _, _, _, h, _ => by unfold RepL at h; subst h; exact RepL.nil
  | d :: ds, _, _, _, 0, h, q => by
    unfold RepL at h
    obtain ⟨x, r, e', h1, h2⟩ := h
    subst e'
    exact RepL.cons q h2
  | d :: ds, _, _, _, i + 1, h, q => by
    unfold RepL at h
    obtain ⟨x, r, e', h1, h2⟩ := h
    subst e'
    exact RepL.cons h1 (RepL.set i h2 q)
end

/-- a changing object lies as Mu tells -/
def MRep (K : PySem.W.Frag) (C : CT) (F H : Hp) (a : Addr) : MO → Prop
  | .lst ds => ∃ xs, H a = some (.lst xs) ∧ RepL K C F ds xs
  | .dct ks => ∃ xs, H a = some (.dK xs) ∧ RepK K C F ks xs
  | .ins c fs => ∃ ca dx xs, C.cls c = some ca ∧ H a = some (.ins ca dx xs) ∧ RepF K C F fs xs
  | .dts ks => ∃ xs : List (List Key × V), H a = some (.dT xs) ∧ xs.map (·.1) = ks

/-- F: what never changes any more; Mu: what may change -/
structure Wd (K : PySem.W.Frag) (C : CT) (L F : Hp) (μ : Mu) (H : Hp) : Prop where
  sub : Sub F H
  lk : Sub L H
  mu : ∀ a m, μ a = some m → F a = none ∧ MRep K C F H a m
  ml : ∀ a m, μ a = some m → L a = none
  dj : ∀ a o, L a = some o → F a = none
structure Rl (K : PySem.W.Frag) (C : CT) (L F : Hp) (ρ : Env) (μ : Mu) (σ : St) (H : Hp) : Prop where
  wd : Wd K C L F μ H
  len : ρ.length = σ.length
  env : ∀ (i : Nat) (d : D), ρ[i]? = some (some d) → ∃ v, σ[i]? = some (some v) ∧ Rep K C F d v

section
variable {K : PySem.W.Frag} {C : CT} {L F G H H' : Hp} {μ : Mu} {ρ : Env} {σ : St}
theorem MRep.mono {a : Addr} {m : MO} (s : Sub F G) (h : H a = H' a) (r : MRep K C F H a m) : MRep K C G H' a m := by
  cases m with
  | lst ds => obtain ⟨xs, e, q⟩ := r; exact ⟨xs, h ▸ e, q.mono s⟩
  | dct ds => obtain ⟨xs, e, q⟩ := r; exact ⟨xs, h ▸ e, q.mono s⟩
  | ins c fs => obtain ⟨ca, dx, xs, e0, e, q⟩ := r; exact ⟨ca, dx, xs, e0, h ▸ e, q.mono s⟩
  | dts ks => obtain ⟨xs, e, q⟩ := r; exact ⟨xs, h ▸ e, q⟩
theorem MRep.some {a : Addr} {m : MO} (r : MRep K C F H a m) : ∃ o, H a = some o := by
  cases m with
  | lst ds => obtain ⟨xs, e, q⟩ := r; exact ⟨_, e⟩
  | dct ds => obtain ⟨xs, e, q⟩ := r; exact ⟨_, e⟩
  | ins c fs => obtain ⟨ca, dx, xs, e0, e, q⟩ := r; exact ⟨_, e⟩
  | dts ks => obtain ⟨xs, e, q⟩ := r; exact ⟨_, e⟩
theorem Wd.fresh (w : Wd K C L F μ H) {p : Addr} (h : H p = none) : μ p = none ∧ F p = none := by
  constructor
  · cases e : μ p with
    | none => rfl
    | some m =>
      obtain ⟨o, q⟩ := (w.mu p m e).2.some
      rw [h] at q; cases q
  · cases e : F p with
    | none => rfl
    | some m =>
      have := w.sub p m e
      rw [h] at this; cases this
/-- a new object that never changes -/
theorem Wd.frz (w : Wd K C L F μ H) {p : Addr} {o : HO} (h : H p = none) : Wd K C L (upd F p o) μ (upd H p o) where
  sub := fun a u e => by
    by_cases ha : a = p
    · subst ha; rw [upd_same] at e ⊢; exact e
    · rw [upd_ne ha] at e ⊢; exact w.sub a u e
  lk := fun a u e => by rw [upd_ne (ne_of_none (w.lk a u e) h)]; exact w.lk a u e
  ml := w.ml
  dj := fun a u e => by rw [upd_ne (ne_of_none (w.lk a u e) h)]; exact w.dj a u e
  mu := fun a m e => by
    obtain ⟨h1, h2⟩ := w.mu a m e
    have ha : a ≠ p := fun z => by subst z; rw [(w.fresh h).1] at e; cases e
    exact ⟨by rw [upd_ne ha]; exact h1, h2.mono (Sub.new (w.fresh h).2) (by rw [upd_ne ha])⟩
/-- a new object that nobody tracks -/
theorem Wd.junk (w : Wd K C L F μ H) {p : Addr} {o : HO} (h : H p = none) : Wd K C L F μ (upd H p o) where
  sub := fun a u e => by rw [upd_ne (ne_of_none (w.sub a u e) h)]; exact w.sub a u e
  lk := fun a u e => by rw [upd_ne (ne_of_none (w.lk a u e) h)]; exact w.lk a u e
  ml := w.ml
  dj := w.dj
  mu := fun a m e => by
    obtain ⟨h1, h2⟩ := w.mu a m e
    have ha : a ≠ p := fun z => by subst z; rw [(w.fresh h).1] at e; cases e
    exact ⟨h1, h2.mono (Sub.refl _) (by rw [upd_ne ha])⟩
/-- a new object that may change -/
theorem Wd.new (w : Wd K C L F μ H) {p : Addr} {o : HO} {m : MO} (h : H p = none) (r : MRep K C F (upd H p o) p m) : Wd K C L F (mset μ p m) (upd H p o) where
  sub := (w.junk h).sub
  lk := (w.junk h).lk
  dj := w.dj
  ml := fun a m' e => by
    by_cases ha : a = p
    · subst ha
      cases q : L a with
      | none => rfl
      | some u => have := w.lk a u q; rw [h] at this; cases this
    · rw [mset_ne ha] at e
      exact w.ml a m' e
  mu := fun a m' e => by
    by_cases ha : a = p
    · subst ha
      rw [mset_same] at e
      cases e
      exact ⟨(w.fresh h).2, r⟩
    · rw [mset_ne ha] at e
      exact (w.junk h).mu a m' e
/-- an object that changes -/
theorem Wd.put (w : Wd K C L F μ H) {p : Addr} {o : HO} {m0 m : MO} (h : μ p = some m0) (r : MRep K C F (upd H p o) p m) : Wd K C L F (mset μ p m) (upd H p o) where
  sub := fun a u e => by
    have ha : a ≠ p := fun z => by subst z; rw [(w.mu a m0 h).1] at e; cases e
    rw [upd_ne ha]; exact w.sub a u e
  lk := fun a u e => by
    have ha : a ≠ p := fun z => by subst z; rw [w.ml a m0 h] at e; cases e
    rw [upd_ne ha]; exact w.lk a u e
  dj := w.dj
  ml := fun a m' e => by
    by_cases ha : a = p
    · subst ha; exact w.ml a m0 h
    · rw [mset_ne ha] at e
      exact w.ml a m' e
  mu := fun a m' e => by
    by_cases ha : a = p
    · subst ha
      rw [mset_same] at e
      cases e
      exact ⟨(w.mu a m0 h).1, r⟩
    · rw [mset_ne ha] at e
      obtain ⟨h1, h2⟩ := w.mu a m' e
      exact ⟨h1, h2.mono (Sub.refl _) (by rw [upd_ne ha])⟩
/-- locked: a new object that the others don't see -/
theorem Wd.lock (w : Wd K C L F μ H) {p : Addr} {o : HO} (h : H p = none) : Wd K C (upd L p o) F μ (upd H p o) where
  sub := (w.junk h).sub
  mu := (w.junk h).mu
  dj := fun a u e => by
    by_cases ha : a = p
    · subst ha; exact (w.fresh h).2
    · rw [upd_ne ha] at e; exact w.dj a u e
  lk := fun a u e => by
    by_cases ha : a = p
    · subst ha; rw [upd_same] at e ⊢; exact e
    · rw [upd_ne ha] at e ⊢; exact w.lk a u e
  ml := fun a m e => by
    have ha : a ≠ p := fun z => by subst z; rw [(w.fresh h).1] at e; cases e
    rw [upd_ne ha]; exact w.ml a m e
/-- .. it is changed -/
theorem Wd.relock {o : HO} {p : Addr} {u : HO} (w : Wd K C (upd L p o) F μ H) : Wd K C (upd L p u) F μ (upd H p u) where
  dj := fun a v e => by
    by_cases ha : a = p
    · subst ha; exact w.dj a _ upd_same
    · rw [upd_ne ha] at e; exact w.dj a v (by rw [upd_ne ha]; exact e)
  sub := fun a v e => by
    have ha : a ≠ p := fun z => by subst z; rw [w.dj a _ upd_same] at e; cases e
    rw [upd_ne ha]; exact w.sub a v e
  lk := fun a v e => by
    by_cases ha : a = p
    · subst ha; rw [upd_same] at e ⊢; exact e
    · rw [upd_ne ha] at e ⊢
      exact w.lk a v (by rw [upd_ne ha]; exact e)
  ml := fun a m e => by
    have h := w.ml a m e
    by_cases ha : a = p
    · subst ha; rw [upd_same] at h; cases h
    · rw [upd_ne ha] at h ⊢; exact h
  mu := fun a m e => by
    have h := w.ml a m e
    have ha : a ≠ p := fun z => by subst z; rw [upd_same] at h; cases h
    obtain ⟨h1, h2⟩ := w.mu a m e
    exact ⟨h1, h2.mono (Sub.refl _) (by rw [upd_ne ha])⟩
/-- the lock's object handed out: never changed any more -/
theorem Wd.unlockF {o : HO} {p : Addr} (w : Wd K C (upd L p o) F μ H) (hL : L p = none) : Wd K C L (upd F p o) μ H where
  dj := fun a v e => by
    have ha : a ≠ p := fun z => by subst z; rw [hL] at e; cases e
    rw [upd_ne ha]; exact w.dj a v (by rw [upd_ne ha]; exact e)
  sub := fun a v e => by
    by_cases ha : a = p
    · subst ha; rw [upd_same] at e; cases e; exact w.lk a _ upd_same
    · rw [upd_ne ha] at e; exact w.sub a v e
  lk := fun a v e => by
    have ha : a ≠ p := fun z => by subst z; rw [hL] at e; cases e
    exact w.lk a v (by rw [upd_ne ha]; exact e)
  ml := fun a m e => by
    have h := w.ml a m e
    by_cases ha : a = p
    · subst ha; exact hL
    · rw [upd_ne ha] at h; exact h
  mu := fun a m e => by
    have h := w.ml a m e
    have ha : a ≠ p := fun z => by subst z; rw [upd_same] at h; cases h
    obtain ⟨h1, h2⟩ := w.mu a m e
    have hs : Sub F (upd F p o) := fun b u q => by
      by_cases hb : b = p
      · subst hb
        rw [upd_same]
        have := w.sub b u q
        rw [w.lk b _ upd_same] at this
        rw [this]
      · rw [upd_ne hb]; exact q
    exact ⟨by rw [upd_ne ha]; exact h1, h2.mono hs rfl⟩
/-- .. or one that may change -/
theorem Wd.unlockM {o : HO} {p : Addr} {m : MO} (w : Wd K C (upd L p o) F μ H) (hL : L p = none) (r : MRep K C F H p m) : Wd K C L F (mset μ p m) H where
  dj := fun a v e => by
    have ha : a ≠ p := fun z => by subst z; rw [hL] at e; cases e
    exact w.dj a v (by rw [upd_ne ha]; exact e)
  sub := w.sub
  lk := fun a v e => by
    have ha : a ≠ p := fun z => by subst z; rw [hL] at e; cases e
    exact w.lk a v (by rw [upd_ne ha]; exact e)
  ml := fun a m' e => by
    by_cases ha : a = p
    · subst ha; exact hL
    · rw [mset_ne ha] at e
      have h := w.ml a m' e
      rw [upd_ne ha] at h; exact h
  mu := fun a m' e => by
    by_cases ha : a = p
    · subst ha; rw [mset_same] at e; cases e; exact ⟨w.dj a _ upd_same, r⟩
    · rw [mset_ne ha] at e; exact w.mu a m' e
theorem Wd.lockNone {o : HO} {p : Addr} (w : Wd K C (upd L p o) F μ H) : μ p = none := by
  cases e : μ p with
  | none => rfl
  | some m => have h := w.ml p m e; rw [upd_same] at h; cases h
theorem Rl.to {G : Hp} {μ' : Mu} (r : Rl K C L F ρ μ σ H) (s : Sub F G) (w : Wd K C L G μ' H') : Rl K C L G ρ μ' σ H' :=
  ⟨w, r.len, fun i d e => by obtain ⟨v, h1, h2⟩ := r.env i d e; exact ⟨v, h1, h2.mono s⟩⟩
theorem Rl.to' {L' G : Hp} {μ' : Mu} (r : Rl K C L F ρ μ σ H) (s : Sub F G) (w : Wd K C L' G μ' H') : Rl K C L' G ρ μ' σ H' :=
  ⟨w, r.len, fun i d e => by obtain ⟨v, h1, h2⟩ := r.env i d e; exact ⟨v, h1, h2.mono s⟩⟩
theorem Rl.set {d : D} {v : V} (r : Rl K C L F ρ μ σ H) (i : Nat) (h : Rep K C F d v) : Rl K C L F (ρ.set i (some d)) μ (σ.set i (some v)) H :=
  ⟨r.wd, by rw [List.length_set, List.length_set]; exact r.len, fun j d' e => by
    by_cases hj : j = i
    · subst hj
      by_cases hl : j < ρ.length
      · rw [List.getElem?_set_self hl] at e
        cases e
        exact ⟨v, by rw [List.getElem?_set_self (r.len ▸ hl)], h⟩
      · rw [List.getElem?_eq_none (by rw [List.length_set]; omega)] at e
        cases e
    · rw [List.getElem?_set_ne (Ne.symm hj)] at e ⊢
      exact r.env j d' e⟩
end

/-! ### readings over data -/
abbrev PQ := D → Mu → Prop
/-- an exception's class, its attributes -/
abbrev PX := Str → FE → Mu → Prop
abbrev WE := Env → Mu → PQ → PX → Prop
abbrev WA := Env → Mu → (List D → Mu → Prop) → PX → Prop
abbrev WT := Env → Mu → (Bool → Mu → Prop) → PX → Prop
structure KS where
  nx : Env → Mu → Prop
  rt : PQ
  bk : Env → Mu → Prop := fun _ _ => False
  ct : Env → Mu → Prop := fun _ _ => False
  ex : Env → PX
abbrev WS := KS → Env → Mu → Prop

/-- the exception of that class lies so -/
def XRep (K : PySem.W.Frag) (C : CT) (F H : Hp) (c : Str) (fs : FE) (cls : Value) (dx : Option Addr) : Prop :=
  ∃ ca, C.xcls c = some ca ∧ cls = .ref ca ∧ ((fs = [] ∧ dx = none) ∨ ∃ d xs, dx = some d ∧ F d = some (.xd xs) ∧ RepF K C F fs xs)

section
variable (K : PySem.W.Frag) (C : CT)
def upQ (L F : Hp) (Q0 : PQ) (Q : VK) : Prop := ∀ d μ', Q0 d μ' → ∀ F' H' v, Sub F F' → Wd K C L F' μ' H' → Rep K C F' d v → Q v H'
def upX (L F : Hp) (σ : St) (E0 : PX) (W : WX) : Prop := ∀ c fs μ', E0 c fs μ' → ∀ F' H' cls dx, Sub F F' → Wd K C L F' μ' H' → XRep K C F' H' c fs cls dx → W cls dx σ H'
def upE (W : WX) (w : WE) : TE := fun σ H Q => ∃ L F ρ μ Q0 E0, Rl K C L F ρ μ σ H ∧ w ρ μ Q0 E0 ∧ upQ K C L F Q0 Q ∧ upX K C L F σ E0 W
def upT (W : WX) (w : WT) : TT := fun σ H Q => ∃ L F ρ μ Q0 E0, Rl K C L F ρ μ σ H ∧ w ρ μ Q0 E0 ∧ (∀ b μ', Q0 b μ' → ∀ F' H', Sub F F' → Wd K C L F' μ' H' → Q b H') ∧ upX K C L F σ E0 W
def upA (W : WX) (w : WA) : TA := fun σ H Q => ∃ L F ρ μ Q0 E0, Rl K C L F ρ μ σ H ∧ w ρ μ Q0 E0 ∧ (∀ ds μ', Q0 ds μ' → ∀ F' H' vs, Sub F F' → Wd K C L F' μ' H' → RepL K C F' ds vs → Q vs H') ∧ upX K C L F σ E0 W
end
structure UpK (K : PySem.W.Frag) (C : CT) (W : WX) (L F : Hp) (k : KS) (B : Ends) : Prop where
  nx : ∀ ρ' μ', k.nx ρ' μ' → ∀ F' σ' H', Sub F F' → Rl K C L F' ρ' μ' σ' H' → B.nx σ' H'
  bk : ∀ ρ' μ', k.bk ρ' μ' → ∀ F' σ' H', Sub F F' → Rl K C L F' ρ' μ' σ' H' → B.bk σ' H'
  ct : ∀ ρ' μ', k.ct ρ' μ' → ∀ F' σ' H', Sub F F' → Rl K C L F' ρ' μ' σ' H' → B.ct σ' H'
  rt : ∀ d μ', k.rt d μ' → ∀ F' H' v, Sub F F' → Wd K C L F' μ' H' → Rep K C F' d v → B.rt v H'
  ex : ∀ c fs ρ' μ', k.ex ρ' c fs μ' → ∀ F' σ' H' cls dx, Sub F F' → Rl K C L F' ρ' μ' σ' H' → XRep K C F' H' c fs cls dx → W cls dx σ' H'
def upS (K : PySem.W.Frag) (C : CT) (W : WX) (w : WS) : TS := fun B σ H => ∃ L F ρ μ k, Rl K C L F ρ μ σ H ∧ w k ρ μ ∧ UpK K C W L F k B
end T2

set_option maxRecDepth 100000
set_option maxHeartbeats 4000000
namespace T2
open PySem PySem.Spec PyProof.Rows L2

theorem PE.imp {X : Cx} {e : Expr} {t t' : TE} (h : PE X e t) (i : ∀ σ H Q, t' σ H Q → t σ H Q) : PE X e t' := ⟨fun pins s σ H Q I q => h.run pins s σ H Q I (i σ H Q q)⟩
theorem PT.imp {X : Cx} {e : Expr} {t t' : TT} (h : PT X e t) (i : ∀ σ H Q, t' σ H Q → t σ H Q) : PT X e t' := ⟨fun pins s σ H Q I q => h.run pins s σ H Q I (i σ H Q q)⟩
theorem PW.imp {X : Cx} {e : Expr} {t t' : TT} (h : PW X e t) (i : ∀ σ H Q, t' σ H Q → t σ H Q) : PW X e t' := ⟨fun wh pins s σ H Q I q => h.run wh pins s σ H Q I (i σ H Q q)⟩
theorem PA.imp {X : Cx} {e : List Expr} {t t' : TA} (h : PA X e t) (i : ∀ σ H Q, t' σ H Q → t σ H Q) : PA X e t' := ⟨fun pos pins s σ H Q I q => h.run pos pins s σ H Q I (i σ H Q q)⟩
theorem PS.imp {X : Cx} {e : Stmt} {t t' : TS} (h : PS X e t) (i : ∀ B σ H, t' B σ H → t B σ H) : PS X e t' := ⟨fun pins s σ H B I q => h.run pins s σ H B I (i B σ H q)⟩
theorem PSs.imp {X : Cx} {e : List Stmt} {t t' : TS} (h : PSs X e t) (i : ∀ B σ H, t' B σ H → t B σ H) : PSs X e t' := ⟨fun pins s σ H B I q => h.run pins s σ H B I (i B σ H q)⟩
theorem OpR.imp {X : Cx} {f : Value → Value → Sem Value} {r r' : R2} (h : OpR X f r) (i : ∀ x y H Q, r' x y H Q → r x y H Q) : OpR X f r' := fun pins s σ H x y v u Q I rx ry q => h pins s σ H x y v u Q I rx ry (i _ _ _ _ q)

/-! ### lists, dicts by value -/
def getM (μ : Mu) : D → Option (List D)
  | .lst ds => some ds
  | .raw a => match μ a with
    | some (.lst ds) => some ds
    | _ => none
  | _ => none
def getL (μ : Mu) : D → Option (List D)
  | .lst ds => some ds
  | .scr ds => some ds
  | .raw a => match μ a with
    | some (.lst ds) => some ds
    | _ => none
  | _ => none
def getS (μ : Mu) : D → Option (List D)
  | .tup ds => some ds
  | .ctp ds => some ds
  | d => getL μ d
def getK (μ : Mu) : D → Option (List (Key × D))
  | .dct ks => some ks
  | .dcf ks => some ks
  | .raw a => match μ a with
    | some (.dct ks) => some ks
    | _ => none
  | _ => none
def truth (μ : Mu) : D → Option Bool
  | .non => some false
  | .bl b => some b
  | .int i => some (i != 0)
  | .str s => some ((s.length : Int) != 0)
  | .tup ds => some (!ds.isEmpty)
  | .ctp ds => some (!ds.isEmpty)
  | .dct ks => some (!ks.isEmpty)
  | .dcf _ => none
  | d => match getL μ d with
    | some ds => some (!ds.isEmpty)
    | none => match getK μ d with
      | some ks => some (!ks.isEmpty)
      | none => none

section
variable {K : PySem.W.Frag} {C : CT} {F H : Hp} {μ : Mu} {d : D} {v : V}
theorem Rep.lst {ds : List D} (h : Rep K C F (.lst ds) v) : ∃ a xs, v = .ref a ∧ F a = some (.lst xs) ∧ RepL K C F ds xs := by unfold Rep at h; exact h
theorem Rep.scr {ds : List D} (h : Rep K C F (.scr ds) v) : ∃ a xs, v = .ref a ∧ SqL K F a xs ∧ RepL K C F ds xs := by unfold Rep at h; exact h
theorem Rep.tupP {ds : List D} (h : Rep K C F (.tup ds) v) : ∃ a xs, v = .ref a ∧ F a = some (.tup xs) ∧ RepL K C F ds xs := by unfold Rep at h; exact h
theorem Rep.tup {ds : List D} (h : Rep K C F (.tup ds) v) : ∃ a xs, v = .ref a ∧ SqT K F a xs ∧ RepL K C F ds xs := by
  obtain ⟨a, xs, e, q, r⟩ := h.tupP
  exact ⟨a, xs, e, .of q, r⟩
theorem Rep.ctp {ds : List D} (h : Rep K C F (.ctp ds) v) : ∃ a xs, v = .ref a ∧ SqT K F a xs ∧ RepL K C F ds xs := by
  unfold Rep at h
  obtain ⟨a, xs, e, q, r⟩ := h
  exact ⟨a, xs, e, Sub.sqT (F := fun _ => none) (fun _ _ z => by cases z) q, r⟩
theorem Rep.raw {a : Addr} (h : Rep K C F (.raw a) v) : v = .ref a := by unfold Rep at h; exact h
theorem Rep.int {i : Int} (h : Rep K C F (.int i) v) : v = .int i := by unfold Rep at h; exact h
theorem Rep.str {i : Str} (h : Rep K C F (.str i) v) : v = .str i := by unfold Rep at h; exact h
theorem Rep.bl {i : Bool} (h : Rep K C F (.bl i) v) : v = .bl i := by unfold Rep at h; exact h
theorem Rep.non (h : Rep K C F .non v) : v = .non := by unfold Rep at h; exact h
theorem Rep.dct {ks : List (Key × D)} (h : Rep K C F (.dct ks) v) : ∃ a xs, v = .ref a ∧ F a = some (.dK xs) ∧ RepK K C F ks xs := by unfold Rep at h; exact h
theorem Rep.dcf {ks : List (Key × D)} (h : Rep K C F (.dcf ks) v) : ∃ a o xs, v = .ref a ∧ F a = some (.frz o (.dK xs)) ∧ RepK K C F ks xs := by unfold Rep at h; exact h
theorem Rep.ofDcf {ks : List (Key × D)} {a : Addr} {o : Obj} {xs : List (Key × V)} (h : F a = some (.frz o (.dK xs))) (r : RepK K C F ks xs) : Rep K C F (.dcf ks) (.ref a) := by unfold Rep; exact ⟨a, o, xs, rfl, h, r⟩
theorem Rep.ofInt {i : Int} : Rep K C F (.int i) (.int i) := by unfold Rep; rfl
theorem Rep.ofStr {i : Str} : Rep K C F (.str i) (.str i) := by unfold Rep; rfl
theorem Rep.ofBl {i : Bool} : Rep K C F (.bl i) (.bl i) := by unfold Rep; rfl
theorem Rep.ofNon : Rep K C F .non .non := by unfold Rep; rfl
theorem Rep.ofRaw {a : Addr} : Rep K C F (.raw a) (.ref a) := by unfold Rep; rfl
theorem Rep.ofLst {ds : List D} {a : Addr} {xs : List V} (h : F a = some (.lst xs)) (r : RepL K C F ds xs) : Rep K C F (.lst ds) (.ref a) := by unfold Rep; exact ⟨a, xs, rfl, h, r⟩
theorem Rep.ofTup {ds : List D} {a : Addr} {xs : List V} (h : F a = some (.tup xs)) (r : RepL K C F ds xs) : Rep K C F (.tup ds) (.ref a) := by unfold Rep; exact ⟨a, xs, rfl, h, r⟩
theorem Rep.ofDct {ks : List (Key × D)} {a : Addr} {xs : List (Key × V)} (h : F a = some (.dK xs)) (r : RepK K C F ks xs) : Rep K C F (.dct ks) (.ref a) := by unfold Rep; exact ⟨a, xs, rfl, h, r⟩
theorem Wd.raw {a : Addr} {ds : List D} (w : Wd K C L F μ H) (h : μ a = some (.lst ds)) : ∃ xs, H a = some (.lst xs) ∧ RepL K C F ds xs := (w.mu a _ h).2
theorem Wd.rawK {a : Addr} {ks : List (Key × D)} (w : Wd K C L F μ H) (h : μ a = some (.dct ks)) : ∃ xs, H a = some (.dK xs) ∧ RepK K C F ks xs := (w.mu a _ h).2
theorem Wd.getL {ds : List D} (w : Wd K C L F μ H) (r : Rep K C F d v) (h : T2.getL μ d = some ds) : ∃ a xs, v = .ref a ∧ SqL K H a xs ∧ RepL K C F ds xs := by
  cases d with
  | lst es =>
    cases h
    obtain ⟨a, xs, e, q, r⟩ := r.lst
    exact ⟨a, xs, e, .of (w.sub _ _ q), r⟩
  | scr es =>
    cases h
    obtain ⟨a, xs, e, q, r⟩ := r.scr
    exact ⟨a, xs, e, w.sub.sqL q, r⟩
  | raw a =>
    simp only [T2.getL] at h
    split at h
    · rename_i es e
      cases h
      obtain ⟨xs, e1, e2⟩ := w.raw e
      exact ⟨a, xs, r.raw, .of e1, e2⟩
    · cases h
  | _ => cases h
theorem Wd.getM {ds : List D} (w : Wd K C L F μ H) (r : Rep K C F d v) (h : T2.getM μ d = some ds) : ∃ a xs, v = .ref a ∧ H a = some (.lst xs) ∧ RepL K C F ds xs := by
  cases d with
  | lst es =>
    cases h
    obtain ⟨a, xs, e, q, r⟩ := r.lst
    exact ⟨a, xs, e, w.sub _ _ q, r⟩
  | raw a =>
    simp only [T2.getM] at h
    split at h
    · rename_i es e
      cases h
      obtain ⟨xs, e1, e2⟩ := w.raw e
      exact ⟨a, xs, r.raw, e1, e2⟩
    · cases h
  | _ => cases h
theorem Wd.getS {ds : List D} (w : Wd K C L F μ H) (r : Rep K C F d v) (h : T2.getS μ d = some ds) : ∃ a xs, v = .ref a ∧ (SqL K H a xs ∨ SqT K H a xs) ∧ RepL K C F ds xs := by
  cases d with
  | tup es =>
    cases h
    obtain ⟨a, xs, e, q, r⟩ := r.tup
    exact ⟨a, xs, e, .inr (w.sub.sqT q), r⟩
  | ctp es =>
    cases h
    obtain ⟨a, xs, e, q, r⟩ := r.ctp
    exact ⟨a, xs, e, .inr (w.sub.sqT q), r⟩
  | lst es => obtain ⟨a, xs, e, q, r⟩ := w.getL r h; exact ⟨a, xs, e, .inl q, r⟩
  | raw a => obtain ⟨a, xs, e, q, r⟩ := w.getL r h; exact ⟨a, xs, e, .inl q, r⟩
  | scr a => obtain ⟨a, xs, e, q, r⟩ := w.getL r h; exact ⟨a, xs, e, .inl q, r⟩
  | _ => cases h
theorem Wd.getK {ks : List (Key × D)} (w : Wd K C L F μ H) (r : Rep K C F d v) (h : T2.getK μ d = some ks) : ∃ a xs, v = .ref a ∧ Rd H a (.dK xs) ∧ RepK K C F ks xs := by
  cases d with
  | dct es =>
    cases h
    obtain ⟨a, xs, e, q, r⟩ := r.dct
    exact ⟨a, xs, e, .inl (w.sub _ _ q), r⟩
  | dcf es =>
    cases h
    obtain ⟨a, o, xs, e, q, r⟩ := r.dcf
    exact ⟨a, xs, e, .inr ⟨o, w.sub _ _ q⟩, r⟩
  | raw a =>
    simp only [T2.getK] at h
    split at h
    · rename_i es e
      cases h
      obtain ⟨xs, e1, e2⟩ := w.rawK e
      exact ⟨a, xs, r.raw, .inl e1, e2⟩
    · cases h
  | _ => cases h
theorem DGet.kR {H : Hp} {a : Addr} {kvs : List (Key × V)} {k : Key} (e : Rd H a (.dK kvs)) : DGet H a (kV k) (valV kvs k) := .inl ⟨kvs, k, e, rfl, rfl⟩
theorem RepL.isEmpty {ds : List D} {xs : List V} (r : RepL K C F ds xs) : xs.isEmpty = ds.isEmpty := by
  have := r.len
  cases ds <;> cases xs <;> simp_all
theorem RepK.len : ∀ {ds : List (Key × D)} {xs : List (Key × V)}, RepK K C F ds xs → xs.length = ds.length
  | [], _, h => by unfold RepK at h; rw [h]; rfl
  | (k, d) :: ds, _, h => by
    unfold RepK at h
    obtain ⟨x, r, e, _, t⟩ := h
    rw [e, List.length_cons, List.length_cons, t.len]
theorem RepK.isEmpty {ds : List (Key × D)} {xs : List (Key × V)} (r : RepK K C F ds xs) : xs.isEmpty = ds.isEmpty := by
  have := r.len
  cases ds <;> cases xs <;> simp_all
end

/-! ### what a context gives -/
/-- N: the slots; sc: the names' kinds; k: how many calls deep it may still go; W: what is wished of an exception -/
structure XOk (X : Cx) (N : List Str) (sc : Scope) (k : Nat) (W : WX) : Prop where
  eN : X.N = N
  eS : X.env.scope = sc
  nd : N.Nodup
  calm : X.calm = true
  room : Room k X.A
  tk : L2N.Takes X W

section
variable {X : Cx} {C : CT} {W : WX} {a b c : Expr} {wa wb wc : WE} {pos : Pos}
/-! ### names, constants -/
def wVar (i : Nat) : WE := fun ρ μ Q _ => ∃ d, ρ[i]? = some (some d) ∧ Q d μ
def wC (d : D) : WE := fun _ μ Q _ => Q d μ
theorem up_var {i : Nat} {x : Str} (h : PE X (.Name x pos) (tVar i)) : PE X (.Name x pos) (upE X.K C W (wVar i)) := PE.imp h fun σ H Q ⟨L, F, ρ, μ, Q0, E0, r, ⟨d, e, q⟩, uq, _⟩ => by
  obtain ⟨v, e1, e2⟩ := r.env i d e
  exact ⟨v, e1, uq d μ q F H v (Sub.refl F) r.wd e2⟩
theorem up_c {d : D} {v : V} (h : PE X a (tC v)) (hr : ∀ F, Rep X.K C F d v) : PE X a (upE X.K C W (wC d)) := PE.imp h fun σ H Q ⟨L, F, ρ, μ, Q0, E0, r, q, uq, _⟩ =>
  uq d μ q F H v (Sub.refl F) r.wd (hr F)

/-! ### two-place operations -/
abbrev G2 := D → D → Mu → PQ → Prop
def OpD (X : Cx) (C : CT) (f : Value → Value → Sem Value) (g : G2) : Prop :=
  ∃ r : R2, OpR X f r ∧ ∀ L F μ H x y v u Q0 Q, Wd X.K C L F μ H → Rep X.K C F x v → Rep X.K C F y u → g x y μ Q0 → upQ X.K C L F Q0 Q → r v u H Q
def wOp (g : G2) (wa wb : WE) : WE := fun ρ μ Q E => wa ρ μ (fun x μ1 => wb ρ μ1 (fun y μ2 => g x y μ2 Q) E) E
theorem upX.mono {K : PySem.W.Frag} {F F' : Hp} {σ : St} {E0 : PX} (s : Sub F F') (h : upX K C L F σ E0 W) : upX K C L F' σ E0 W := fun c fs μ' q G H' cls dx s' => h c fs μ' q G H' cls dx (s.trans s')
theorem upQ.mono {K : PySem.W.Frag} {F F' : Hp} {Q0 : PQ} {Q : VK} (s : Sub F F') (h : upQ K C L F Q0 Q) : upQ K C L F' Q0 Q := fun c μ' q G H' v s' => h c μ' q G H' v (s.trans s')
theorem up_two {r : R2} {g : G2} (hr : ∀ L F μ H x y v u Q0 Q, Wd X.K C L F μ H → Rep X.K C F x v → Rep X.K C F y u → g x y μ Q0 → upQ X.K C L F Q0 Q → r v u H Q) :
    ∀ σ H Q, upE X.K C W (wOp g wa wb) σ H Q → tOp r (upE X.K C W wa) (upE X.K C W wb) σ H Q := fun σ H Q ⟨L, F, ρ, μ, Q0, E0, rl, q, uq, ux⟩ => by
  refine ⟨L, F, ρ, μ, _, E0, rl, q, fun d1 μ1 q1 F1 H1 v1 s1 w1 r1 => ?_, ux⟩
  refine ⟨L, F1, ρ, μ1, _, E0, rl.to s1 w1, q1, fun d2 μ2 q2 F2 H2 v2 s2 w2 r2 => ?_, ux.mono s1⟩
  exact hr L F2 μ2 H2 d1 d2 v1 v2 Q0 Q w2 (r1.mono s2) r2 q2 (uq.mono (s1.trans s2))
theorem up_op {op : Operator} {g : G2} (ho : OpD X C (binaryOp op) g) (ha : PE X a (upE X.K C W wa)) (hb : PE X b (upE X.K C W wb)) : PE X (.BinOp a op b pos) (upE X.K C W (wOp g wa wb)) := by
  obtain ⟨r, h1, h2⟩ := ho
  exact PE.imp (pe_op h1 ha hb) (up_two h2)
theorem up_cmp {op : CmpOp} {g : G2} (ho : OpD X C (compareOp op) g) (ha : PE X a (upE X.K C W wa)) (hb : PE X b (upE X.K C W wb)) (hm : behindInMarks op b = false) : PE X (.Compare a [op] [b] pos) (upE X.K C W (wOp g wa wb)) := by
  obtain ⟨r, h1, h2⟩ := ho
  exact PE.imp (pe_cmpR h1 ha hb hm) (up_two h2)
/-- a test by a value that is a bool -/
def wTB (w : WE) : WT := fun ρ μ Q E => w ρ μ (fun d μ' => ∃ b, d = .bl b ∧ Q b μ') E
theorem upT_of {w : WE} {e : Expr} {t : TE} (h : PT X e (tTest t)) (i : ∀ σ H Q, upE X.K C W w σ H Q → t σ H Q) : PT X e (upT X.K C W (wTB w)) := PT.imp h fun σ H Q ⟨L, F, ρ, μ, Q0, E0, rl, q, uq, ux⟩ => by
  refine i σ H _ ⟨L, F, ρ, μ, _, E0, rl, q, fun d1 μ1 q1 F1 H1 v1 s1 w1 r1 => ?_, ux⟩
  obtain ⟨b, e, q⟩ := q1
  subst e
  exact ⟨b, r1.bl, uq b μ1 q F1 H1 s1 w1⟩
theorem upT_cmp {op : CmpOp} {g : G2} (ho : OpD X C (compareOp op) g) (ha : PE X a (upE X.K C W wa)) (hb : PE X b (upE X.K C W wb)) (hm : behindInMarks op b = false) : PT X (.Compare a [op] [b] pos) (upT X.K C W (wTB (wOp g wa wb))) := by
  obtain ⟨r, h1, h2⟩ := ho
  exact upT_of (pt_cmpR h1 ha hb hm) (up_two h2)
/-- a op b op' c -/
def wChain (g g' : G2) (wa wb wc : WE) : WE := fun ρ μ Q E => wa ρ μ (fun x μ1 => wb ρ μ1 (fun y μ2 => g x y μ2 fun z μ3 => ∃ k, z = .bl k ∧ (k = true → wc ρ μ3 (fun u μ4 => g' y u μ4 Q) E) ∧ (k = false → Q (.bl false) μ3)) E) E
theorem up_chain0 {r r' : R2} {g g' : G2} (hr : ∀ L F μ H x y v u Q0 Q, Wd X.K C L F μ H → Rep X.K C F x v → Rep X.K C F y u → g x y μ Q0 → upQ X.K C L F Q0 Q → r v u H Q)
    (hr' : ∀ L F μ H x y v u Q0 Q, Wd X.K C L F μ H → Rep X.K C F x v → Rep X.K C F y u → g' x y μ Q0 → upQ X.K C L F Q0 Q → r' v u H Q) :
    ∀ σ H Q, upE X.K C W (wChain g g' wa wb wc) σ H Q → tChain r r' (upE X.K C W wa) (upE X.K C W wb) (upE X.K C W wc) σ H Q := fun σ H Q ⟨L, F, ρ, μ, Q0, E0, rl, q, uq, ux⟩ => by
  refine ⟨L, F, ρ, μ, _, E0, rl, q, fun d1 μ1 q1 F1 H1 v1 s1 w1 r1 => ?_, ux⟩
  refine ⟨L, F1, ρ, μ1, _, E0, rl.to s1 w1, q1, fun d2 μ2 q2 F2 H2 v2 s2 w2 r2 => ?_, ux.mono s1⟩
  refine hr L F2 μ2 H2 d1 d2 v1 v2 _ _ w2 (r1.mono s2) r2 q2 fun d3 μ3 q3 F3 H3 v3 s3 w3 r3 => ?_
  obtain ⟨k, e, qt, qf⟩ := q3
  subst e
  refine ⟨k, r3.bl, ?_⟩
  cases k with
  | false => exact uq _ _ (qf rfl) F3 H3 _ ((s1.trans s2).trans s3) w3 .ofBl
  | true =>
    refine ⟨L, F3, ρ, μ3, _, E0, rl.to ((s1.trans s2).trans s3) w3, qt rfl, fun d4 μ4 q4 F4 H4 v4 s4 w4 r4 => ?_, ux.mono ((s1.trans s2).trans s3)⟩
    exact hr' L F4 μ4 H4 d2 d4 v2 v4 Q0 Q w4 ((r2.mono s3).mono s4) r4 q4 (uq.mono (((s1.trans s2).trans s3).trans s4))
theorem up_chain {op op' : CmpOp} {g g' : G2} (ho : OpD X C (compareOp op) g) (ho' : OpD X C (compareOp op') g') (ha : PE X a (upE X.K C W wa)) (hb : PE X b (upE X.K C W wb)) (hc : PE X c (upE X.K C W wc)) (hm : lastMarks [op, op'] [b, c] = false) :
    PE X (.Compare a [op, op'] [b, c] pos) (upE X.K C W (wChain g g' wa wb wc)) := by
  obtain ⟨r, h1, h2⟩ := ho
  obtain ⟨r', h1', h2'⟩ := ho'
  exact PE.imp (pe_chain h1 h1' ha hb hc hm) (up_chain0 h2 h2')
theorem upT_chain {op op' : CmpOp} {g g' : G2} (ho : OpD X C (compareOp op) g) (ho' : OpD X C (compareOp op') g') (ha : PE X a (upE X.K C W wa)) (hb : PE X b (upE X.K C W wb)) (hc : PE X c (upE X.K C W wc)) (hm : lastMarks [op, op'] [b, c] = false) :
    PT X (.Compare a [op, op'] [b, c] pos) (upT X.K C W (wTB (wChain g g' wa wb wc))) := by
  obtain ⟨r, h1, h2⟩ := ho
  obtain ⟨r', h1', h2'⟩ := ho'
  exact upT_of (pt_chain h1 h1' ha hb hc hm) (up_chain0 h2 h2')
end
end T2

set_option maxRecDepth 100000
set_option maxHeartbeats 4000000
namespace T2
open PySem PySem.Spec PyProof.Rows L2
section
variable {X : Cx} {C : CT} {W : WX} {a b c : Expr} {wa wb wc : WE} {ta tb tc : WT} {pos : Pos} {rest : List Expr}

/-! ### truth -/
def truthOk (μ : Mu) (d : D) (b : Bool) : Prop := truth μ d = some b ∧ ∀ s, d = .str s → s.length ≤ sizeLine
def wTru (w : WE) : WT := fun ρ μ Q E => w ρ μ (fun d μ' => ∃ b, truthOk μ' d b ∧ Q b μ') E
theorem upT_tru0 {K : PySem.W.Frag} {F : Hp} {μ : Mu} {H : Hp} {d : D} {v : V} {b : Bool} (wd : Wd K C L F μ H) (r : Rep K C F d v) (h : truthOk μ d b) : TruV K v H b := by
  obtain ⟨h, hs⟩ := h
  cases d with
  | non => cases h; rw [r.non]; rfl
  | bl b => cases h; rw [r.bl]; rfl
  | int i => cases h; rw [r.int]; rfl
  | str s => cases h; rw [r.str]; exact ⟨hs s rfl, rfl⟩
  | tup ds =>
    cases h
    obtain ⟨a, xs, e, q, r⟩ := r.tup
    rw [e, ← r.isEmpty]
    exact .inr (.inl ⟨xs, wd.sub.sqT q, rfl⟩)
  | ctp ds =>
    cases h
    obtain ⟨a, xs, e, q, r⟩ := r.ctp
    rw [e, ← r.isEmpty]
    exact .inr (.inl ⟨xs, wd.sub.sqT q, rfl⟩)
  | dct ks =>
    cases h
    obtain ⟨a, xs, e, q, r⟩ := r.dct
    rw [e, ← r.isEmpty]
    exact .inr (.inr ⟨xs, wd.sub _ _ q, rfl⟩)
  | lst ds =>
    cases h
    obtain ⟨a, xs, e, q, r⟩ := r.lst
    rw [e, ← r.isEmpty]
    exact .inl ⟨xs, .of (wd.sub _ _ q), rfl⟩
  | scr ds =>
    cases h
    obtain ⟨a, xs, e, q, r⟩ := r.scr
    rw [e, ← r.isEmpty]
    exact .inl ⟨xs, wd.sub.sqL q, rfl⟩
  | obj c fs => simp [truth, getL, getK] at h
  | dcf ks => simp [truth] at h
  | exc a ca dx c fs => simp [truth, getL, getK] at h
  | raw a =>
    simp only [truth] at h
    split at h
    · rename_i ds e
      cases h
      obtain ⟨a', xs, e', q, r'⟩ := wd.getL r e
      rw [e', ← r'.isEmpty]
      exact .inl ⟨xs, q, rfl⟩
    · split at h
      · rename_i ds e
        cases h
        simp only [T2.getK] at e
        split at e
        · rename_i ks' e3
          cases e
          obtain ⟨xs, q, r'⟩ := wd.rawK e3
          rw [r.raw, ← r'.isEmpty]
          exact .inr (.inr ⟨xs, q, rfl⟩)
        · cases e
      · cases h
theorem upT_tru (ha : PE X a (upE X.K C W wa)) (he : ∀ whole, isTrue a X.env whole = (do let v ← whole; standAt a.pos; holding [v] (truthy v))) : PT X a (upT X.K C W (wTru wa)) :=
  PT.imp (pt_truth ha he) fun σ H Q ⟨L, F, ρ, μ, Q0, E0, rl, q, uq, ux⟩ => by
    refine ⟨L, F, ρ, μ, _, E0, rl, q, fun d1 μ1 q1 F1 H1 v1 s1 w1 r1 => ?_, ux⟩
    obtain ⟨b, hb, q⟩ := q1
    exact ⟨b, upT_tru0 w1 r1 hb, uq b μ1 q F1 H1 s1 w1⟩
def wNotT (t : WT) : WT := fun ρ μ Q E => t ρ μ (fun b μ' => Q (!b) μ') E
theorem upT_not (h : PT X a (upT X.K C W ta)) : PT X (.UnaryOp .Not a pos) (upT X.K C W (wNotT ta)) :=
  PT.imp (pt_not h) fun σ H Q ⟨L, F, ρ, μ, Q0, E0, rl, q, uq, ux⟩ => ⟨L, F, ρ, μ, _, E0, rl, q, fun b μ1 q1 F1 H1 s1 w1 => uq (!b) μ1 q1 F1 H1 s1 w1, ux⟩
def wAndT (t u : WT) : WT := fun ρ μ Q E => t ρ μ (fun b μ' => (b = true → u ρ μ' Q E) ∧ (b = false → Q false μ')) E
def wOrT (t u : WT) : WT := fun ρ μ Q E => t ρ μ (fun b μ' => (b = true → Q true μ') ∧ (b = false → u ρ μ' Q E)) E
theorem upT_and1 (h : PT X a (upT X.K C W ta)) : PW X (.BoolOp .And [a] pos) (upT X.K C W ta) := pw_and1 h
theorem upT_or1 (h : PT X a (upT X.K C W ta)) : PW X (.BoolOp .Or [a] pos) (upT X.K C W ta) := pw_or1 h
theorem upT_and (h : PT X a (upT X.K C W ta)) (h2 : PW X (.BoolOp .And (b :: rest) pos) (upT X.K C W tb)) : PW X (.BoolOp .And (a :: b :: rest) pos) (upT X.K C W (wAndT ta tb)) :=
  PW.imp (pw_and h h2) fun σ H Q ⟨L, F, ρ, μ, Q0, E0, rl, q, uq, ux⟩ => by
    refine ⟨L, F, ρ, μ, _, E0, rl, q, fun k μ1 q1 F1 H1 s1 w1 => ?_, ux⟩
    cases k with
    | true => exact ⟨L, F1, ρ, μ1, Q0, E0, rl.to s1 w1, q1.1 rfl, fun k2 μ2 q2 F2 H2 s2 w2 => uq k2 μ2 q2 F2 H2 (s1.trans s2) w2, ux.mono s1⟩
    | false => exact uq false μ1 (q1.2 rfl) F1 H1 s1 w1
theorem upT_or (h : PT X a (upT X.K C W ta)) (h2 : PW X (.BoolOp .Or (b :: rest) pos) (upT X.K C W tb)) : PW X (.BoolOp .Or (a :: b :: rest) pos) (upT X.K C W (wOrT ta tb)) :=
  PW.imp (pw_or h h2) fun σ H Q ⟨L, F, ρ, μ, Q0, E0, rl, q, uq, ux⟩ => by
    refine ⟨L, F, ρ, μ, _, E0, rl, q, fun k μ1 q1 F1 H1 s1 w1 => ?_, ux⟩
    cases k with
    | false => exact ⟨L, F1, ρ, μ1, Q0, E0, rl.to s1 w1, q1.2 rfl, fun k2 μ2 q2 F2 H2 s2 w2 => uq k2 μ2 q2 F2 H2 (s1.trans s2) w2, ux.mono s1⟩
    | true => exact uq true μ1 (q1.1 rfl) F1 H1 s1 w1
/-! .. as values -/
def wAnd (wa wb : WE) : WE := fun ρ μ Q E => wa ρ μ (fun x μ1 => ∃ k, truthOk μ1 x k ∧ (k = true → wb ρ μ1 Q E) ∧ (k = false → Q x μ1)) E
def wOr (wa wb : WE) : WE := fun ρ μ Q E => wa ρ μ (fun x μ1 => ∃ k, truthOk μ1 x k ∧ (k = true → Q x μ1) ∧ (k = false → wb ρ μ1 Q E)) E
def wNot (wa : WE) : WE := fun ρ μ Q E => wa ρ μ (fun x μ1 => ∃ k, truthOk μ1 x k ∧ Q (.bl (!k)) μ1) E
def wIf (t : WT) (wa wb : WE) : WE := fun ρ μ Q E => t ρ μ (fun k μ1 => (k = true → wa ρ μ1 Q E) ∧ (k = false → wb ρ μ1 Q E)) E
theorem up_bool1 {op} (h : PE X a (upE X.K C W wa)) : PE X (.BoolOp op [a] pos) (upE X.K C W wa) := pe_one h
theorem up_and (h : PE X a (upE X.K C W wa)) (h2 : PE X (.BoolOp .And (b :: rest) pos) (upE X.K C W wb)) : PE X (.BoolOp .And (a :: b :: rest) pos) (upE X.K C W (wAnd wa wb)) :=
  PE.imp (pe_andT h h2) fun σ H Q ⟨L, F, ρ, μ, Q0, E0, rl, q, uq, ux⟩ => by
    refine ⟨L, F, ρ, μ, _, E0, rl, q, fun d1 μ1 q1 F1 H1 v1 s1 w1 r1 => ?_, ux⟩
    obtain ⟨k, hk, qt, qf⟩ := q1
    refine ⟨k, upT_tru0 w1 r1 hk, ?_⟩
    cases k with
    | true => exact ⟨L, F1, ρ, μ1, Q0, E0, rl.to s1 w1, qt rfl, uq.mono s1, ux.mono s1⟩
    | false => exact uq _ _ (qf rfl) F1 H1 v1 s1 w1 r1
theorem up_or (h : PE X a (upE X.K C W wa)) (h2 : PE X (.BoolOp .Or (b :: rest) pos) (upE X.K C W wb)) : PE X (.BoolOp .Or (a :: b :: rest) pos) (upE X.K C W (wOr wa wb)) :=
  PE.imp (pe_orT h h2) fun σ H Q ⟨L, F, ρ, μ, Q0, E0, rl, q, uq, ux⟩ => by
    refine ⟨L, F, ρ, μ, _, E0, rl, q, fun d1 μ1 q1 F1 H1 v1 s1 w1 r1 => ?_, ux⟩
    obtain ⟨k, hk, qt, qf⟩ := q1
    refine ⟨k, upT_tru0 w1 r1 hk, ?_⟩
    cases k with
    | false => exact ⟨L, F1, ρ, μ1, Q0, E0, rl.to s1 w1, qf rfl, uq.mono s1, ux.mono s1⟩
    | true => exact uq _ _ (qt rfl) F1 H1 v1 s1 w1 r1
theorem up_not (h : PE X a (upE X.K C W wa)) : PE X (.UnaryOp .Not a pos) (upE X.K C W (wNot wa)) :=
  PE.imp (pe_notT h) fun σ H Q ⟨L, F, ρ, μ, Q0, E0, rl, q, uq, ux⟩ => by
    refine ⟨L, F, ρ, μ, _, E0, rl, q, fun d1 μ1 q1 F1 H1 v1 s1 w1 r1 => ?_, ux⟩
    obtain ⟨k, hk, q⟩ := q1
    exact ⟨k, upT_tru0 w1 r1 hk, uq _ _ q F1 H1 _ s1 w1 .ofBl⟩
theorem up_if (h : PT X c (upT X.K C W tc)) (ha : PE X a (upE X.K C W wa)) (hb : PE X b (upE X.K C W wb)) : PE X (.IfExp c a b pos) (upE X.K C W (wIf tc wa wb)) :=
  PE.imp (pe_ifExp h ha hb) fun σ H Q ⟨L, F, ρ, μ, Q0, E0, rl, q, uq, ux⟩ => by
    refine ⟨L, F, ρ, μ, _, E0, rl, q, fun k μ1 q1 F1 H1 s1 w1 => ?_, ux⟩
    cases k with
    | true => exact ⟨L, F1, ρ, μ1, Q0, E0, rl.to s1 w1, q1.1 rfl, uq.mono s1, ux.mono s1⟩
    | false => exact ⟨L, F1, ρ, μ1, Q0, E0, rl.to s1 w1, q1.2 rfl, uq.mono s1, ux.mono s1⟩

/-! ### argument lists, displays -/
variable {es : List Expr} {was : WA}
def wNil : WA := fun _ μ Q _ => Q [] μ
def wCons (wa : WE) (was : WA) : WA := fun ρ μ Q E => wa ρ μ (fun x μ1 => was ρ μ1 (fun xs μ2 => Q (x :: xs) μ2) E) E
theorem up_nil : PA X [] (upA X.K C W wNil) := PA.imp pa_nil fun σ H Q ⟨L, F, ρ, μ, Q0, E0, rl, q, uq, ux⟩ => uq [] μ q F H [] (Sub.refl F) rl.wd .nil
theorem up_cons (ha : PE X a (upE X.K C W wa)) (hr : PA X es (upA X.K C W was)) (hs : starEach (a :: es) X.env = (false, eval a X.env) :: starEach es X.env) : PA X (a :: es) (upA X.K C W (wCons wa was)) :=
  PA.imp (pa_cons ha hr hs) fun σ H Q ⟨L, F, ρ, μ, Q0, E0, rl, q, uq, ux⟩ => by
    refine ⟨L, F, ρ, μ, _, E0, rl, q, fun d1 μ1 q1 F1 H1 v1 s1 w1 r1 => ?_, ux⟩
    refine ⟨L, F1, ρ, μ1, _, E0, rl.to s1 w1, q1, fun ds μ2 q2 F2 H2 vs s2 w2 r2 => ?_, ux.mono s1⟩
    exact uq (d1 :: ds) μ2 q2 F2 H2 (v1 :: vs) (s1.trans s2) w2 (.cons (r1.mono s2) r2)
/-- (a, b, ..) -/
def wTup (was : WA) : WE := fun ρ μ Q E => was ρ μ (fun ds μ' => ds.length ≤ sizeLine ∧ Q (.tup ds) μ') E
/-- [a, b, ..], never changed -/
def wLst (was : WA) : WE := fun ρ μ Q E => was ρ μ (fun ds μ' => ds.length ≤ sizeLine ∧ Q (.lst ds) μ') E
/-- .. that may change -/
def wLstM (was : WA) : WE := fun ρ μ Q E => was ρ μ (fun ds μ' => ds.length ≤ sizeLine ∧ ∀ a, μ' a = none → Q (.raw a) (mset μ' a (.lst ds))) E
theorem up_tup {k} (h : PA X es (upA X.K C W was)) : PE X (.Tuple es k pos) (upE X.K C W (wTup was)) :=
  PE.imp (pe_tup h) fun σ H Q ⟨L, F, ρ, μ, Q0, E0, rl, q, uq, ux⟩ => by
    refine ⟨L, F, ρ, μ, _, E0, rl, q, fun ds μ1 q1 F1 H1 vs s1 w1 r1 => ?_, ux⟩
    refine ⟨by rw [r1.len]; exact q1.1, fun p hp => ?_⟩
    have hf := (w1.fresh hp).2
    exact uq _ _ q1.2 (upd F1 p (.tup vs)) _ _ (s1.trans (Sub.new hf)) (w1.frz hp) (.ofTup upd_same (r1.mono (Sub.new hf)))
theorem up_lst (h : PA X es (upA X.K C W was)) : PE X (.List es pos) (upE X.K C W (wLst was)) :=
  PE.imp (pe_lst h) fun σ H Q ⟨L, F, ρ, μ, Q0, E0, rl, q, uq, ux⟩ => by
    refine ⟨L, F, ρ, μ, _, E0, rl, q, fun ds μ1 q1 F1 H1 vs s1 w1 r1 => ?_, ux⟩
    refine ⟨by rw [r1.len]; exact q1.1, fun p hp => ?_⟩
    have hf := (w1.fresh hp).2
    exact uq _ _ q1.2 (upd F1 p (.lst vs)) _ _ (s1.trans (Sub.new hf)) (w1.frz hp) (.ofLst upd_same (r1.mono (Sub.new hf)))
theorem up_lstM (h : PA X es (upA X.K C W was)) : PE X (.List es pos) (upE X.K C W (wLstM was)) :=
  PE.imp (pe_lst h) fun σ H Q ⟨L, F, ρ, μ, Q0, E0, rl, q, uq, ux⟩ => by
    refine ⟨L, F, ρ, μ, _, E0, rl, q, fun ds μ1 q1 F1 H1 vs s1 w1 r1 => ?_, ux⟩
    refine ⟨by rw [r1.len]; exact q1.1, fun p hp => ?_⟩
    exact uq _ _ (q1.2 p (w1.fresh hp).1) F1 _ _ s1 (w1.new hp ⟨vs, upd_same, r1⟩) .ofRaw

/-! ### one-place operations -/
abbrev G1 := D → Mu → PQ → Prop
def wUn (g : G1) (wa : WE) : WE := fun ρ μ Q E => wa ρ μ (fun x μ1 => g x μ1 Q) E
def gNeg : G1 := fun x μ Q => ∃ i, x = .int i ∧ Q (.int (-i)) μ
theorem up_neg (h : PE X a (upE X.K C W wa)) : PE X (.UnaryOp .USub a pos) (upE X.K C W (wUn gNeg wa)) :=
  PE.imp (pe_un un_neg h) fun σ H Q ⟨L, F, ρ, μ, Q0, E0, rl, q, uq, ux⟩ => by
    refine ⟨L, F, ρ, μ, _, E0, rl, q, fun d1 μ1 q1 F1 H1 v1 s1 w1 r1 => ?_, ux⟩
    obtain ⟨i, rfl, q⟩ := q1
    exact ⟨i, r1.int, uq _ _ q F1 H1 _ s1 w1 .ofInt⟩

/-! ### subscripts -/
theorem RepL.atI {K : PySem.W.Frag} {F : Hp} {ds : List D} {xs : List V} {i : Int} {d : D} (r : RepL K C F ds xs) (h : L2.atI ds i = some d) : ∃ v, L2.atI xs i = some v ∧ Rep K C F d v := by
  unfold L2.atI at h ⊢
  rw [r.len]
  cases e : ixN ds.length i with
  | none => rw [e] at h; cases h
  | some j =>
    rw [e] at h
    exact r.at h
/-- d[k] with texts and ints as keys -/
def keyOf : D → Option Key
  | .int i => some (.inl i)
  | .str s => some (.inr s)
  | _ => none
def look (ks : List (Key × D)) (k : Key) : Option D := (ks.find? fun kv => decide (kv.1 = k)).map (·.2)
theorem RepK.look {K : PySem.W.Frag} {F : Hp} {k : Key} : ∀ {ks : List (Key × D)} {xs : List (Key × V)}, RepK K C F ks xs →
    (∀ d, look ks k = some d → ∃ v, valV xs k = some v ∧ Rep K C F d v) ∧ (look ks k = none → valV xs k = none)
  | [], _, h => by unfold RepK at h; subst h; exact ⟨fun d e => (nomatch e), fun _ => rfl⟩
  | (k', d') :: ks, _, h => by
    unfold RepK at h
    obtain ⟨x, r, e, h1, h2⟩ := h
    subst e
    have ih := RepK.look (k := k) h2
    unfold T2.look valV at ih ⊢
    by_cases hk : k' = k
    · subst hk
      simp only [List.find?_cons, decide_true, Option.map_some]
      exact ⟨fun d e => ⟨x, rfl, by cases e; exact h1⟩, fun e => (nomatch e)⟩
    · simp only [List.find?_cons, decide_eq_false hk]
      exact ih
theorem keyOf_kV {K : PySem.W.Frag} {F : Hp} {d : D} {v : V} {k : Key} (r : Rep K C F d v) (h : keyOf d = some k) : v = kV k := by
  cases d with
  | int i => cases h; exact r.int
  | str i => cases h; exact r.str
  | _ => cases h
def gIx : G2 := fun x y μ Q =>
  (∃ ds i d, getS μ x = some ds ∧ y = .int i ∧ atI ds i = some d ∧ Q d μ) ∨
  (∃ ks k d, getK μ x = some ks ∧ keyOf y = some k ∧ look ks k = some d ∧ Q d μ) ∨
  (∃ s i c, x = .str s ∧ y = .int i ∧ s.length ≤ sizeLine ∧ atI s.cps.toList i = some c ∧ Q (.str ⟨#[c]⟩) μ)
theorem ix_dict (hu : X.A.units + 1 < cLine) : IxR X (fun x y H Q => ∃ a v, x = .ref a ∧ DGet H a y (some v) ∧ Q v H) := by
  intro value slice pins s σ H x y v u Q I rx ry h hs
  obtain ⟨p, z, rfl, g, q⟩ := h
  obtain rfl : v = Value.ref p := rx
  exact PyProof.Rows.tail_any (dict_typeIs I g) PySem.F.slot_dict_getitem.lookup (d_getItem hu I g ry fun w' s3 I3 rw' => ⟨z, H, I3, rw', q⟩) hs
theorem up_ix (hu : X.A.units + 1 < cLine) (ha : PE X a (upE X.K C W wa)) (hb : PE X b (upE X.K C W wb)) (hs : PlainIx b) : PE X (.Subscript a b pos) (upE X.K C W (wOp gIx wa wb)) :=
  PE.imp (pe_ix (ix_seq.or (ix_dict hu)) ha hb hs) (up_two fun L F μ H x y v u Q0 Q wd rx ry q uq => by
    rcases q with ⟨ds, i, d, e, rfl, hd, q⟩ | ⟨ks, k, d, hk, hy, hd, q⟩ | ⟨s, i, c, rfl, rfl, hl, hc, q⟩
    · cases ry.int
      obtain ⟨p, xs, rfl, hp, rl⟩ := wd.getS rx e
      obtain ⟨w, hw, rw'⟩ := rl.atI hd
      rcases hp with hp | hp
      · exact .inl (.inl ⟨p, xs, i, w, rfl, rfl, hp, hw, uq _ _ q F H w (Sub.refl F) wd rw'⟩)
      · exact .inl (.inr (.inl ⟨p, xs, i, w, rfl, rfl, hp, hw, uq _ _ q F H w (Sub.refl F) wd rw'⟩))
    · obtain ⟨p, xs, rfl, hp, rk⟩ := wd.getK rx hk
      cases keyOf_kV ry hy
      obtain ⟨w, hw, rw'⟩ := rk.look.1 d hd
      exact .inr ⟨p, w, rfl, hw ▸ DGet.kR hp, uq _ _ q F H w (Sub.refl F) wd rw'⟩
    · cases rx.str
      cases ry.int
      exact .inl (.inr (.inr ⟨s, i, c, rfl, rfl, hl, hc, uq _ _ q F H _ (Sub.refl F) wd .ofStr⟩)))

/-! ### the operators -/
theorem opd_of {f : Value → Value → Sem Value} {g g' : G2} (h : OpD X C f g) (i : ∀ x y μ Q, g' x y μ Q → g x y μ Q) : OpD X C f g' := by
  obtain ⟨r, h1, h2⟩ := h
  exact ⟨r, h1, fun L F μ H x y v u Q0 Q wd rx ry q uq => h2 L F μ H x y v u Q0 Q wd rx ry (i _ _ _ _ q) uq⟩
theorem opd_or {f : Value → Value → Sem Value} {g g' : G2} (h : OpD X C f g) (h' : OpD X C f g') : OpD X C f (fun x y μ Q => g x y μ Q ∨ g' x y μ Q) := by
  obtain ⟨r, h1, h2⟩ := h
  obtain ⟨r', h1', h2'⟩ := h'
  refine ⟨_, h1.or h1', fun L F μ H x y v u Q0 Q wd rx ry q uq => ?_⟩
  rcases q with q | q
  · exact .inl (h2 L F μ H x y v u Q0 Q wd rx ry q uq)
  · exact .inr (h2' L F μ H x y v u Q0 Q wd rx ry q uq)
theorem opd_int {f : Value → Value → Sem Value} {R : Int → Int → Prop} {h : Int → Int → Int} (o : OpR X f (rI R fun i j => .int (h i j))) : OpD X C f (fun x y μ Q => ∃ i j, x = .int i ∧ y = .int j ∧ R i j ∧ Q (.int (h i j)) μ) :=
  ⟨_, o, fun L F μ H x y v u Q0 Q wd rx ry q uq => by
    obtain ⟨i, j, rfl, rfl, c, q⟩ := q
    exact ⟨i, j, rx.int, ry.int, c, uq _ _ q F H _ (Sub.refl F) wd .ofInt⟩⟩
theorem opd_int0 {f : Value → Value → Sem Value} {h : Int → Int → Int} (o : OpR X f (rI0 fun i j => .int (h i j))) : OpD X C f (fun x y μ Q => ∃ i j, x = .int i ∧ y = .int j ∧ Q (.int (h i j)) μ) :=
  ⟨_, o, fun L F μ H x y v u Q0 Q wd rx ry q uq => by
    obtain ⟨i, j, rfl, rfl, q⟩ := q
    exact ⟨i, j, rx.int, ry.int, uq _ _ q F H _ (Sub.refl F) wd .ofInt⟩⟩
theorem opd_cmp0 {f : Value → Value → Sem Value} {h : Int → Int → Bool} (o : OpR X f (rI0 fun i j => .bl (h i j))) : OpD X C f (fun x y μ Q => ∃ i j, x = .int i ∧ y = .int j ∧ Q (.bl (h i j)) μ) :=
  ⟨_, o, fun L F μ H x y v u Q0 Q wd rx ry q uq => by
    obtain ⟨i, j, rfl, rfl, q⟩ := q
    exact ⟨i, j, rx.int, ry.int, uq _ _ q F H _ (Sub.refl F) wd .ofBl⟩⟩
def gAdd : G2 := fun x y μ Q =>
  (∃ i j, x = .int i ∧ y = .int j ∧ Q (.int (i + j)) μ) ∨
  (∃ i j, x = .str i ∧ y = .str j ∧ i.length + j.length ≤ sizeLine ∧ Q (.str (i ++ j)) μ) ∨
  (∃ i j, getM μ x = some i ∧ getM μ y = some j ∧ i.length + j.length ≤ sizeLine ∧ Q (.lst (i ++ j)) μ) ∨
  (∃ i j, x = .tup i ∧ y = .tup j ∧ i.length + j.length ≤ sizeLine ∧ Q (.tup (i ++ j)) μ)
theorem opd_add : OpD X C (binaryOp .Add) gAdd := by
  refine opd_or (opd_int0 op_add) (opd_or ⟨_, op_add_str, fun L F μ H x y v u Q0 Q wd rx ry q uq => ?_⟩ (opd_or ⟨_, op_cat, fun L F μ H x y v u Q0 Q wd rx ry q uq => ?_⟩ ⟨_, op_catA, fun L F μ H x y v u Q0 Q wd rx ry q uq => ?_⟩))
  · obtain ⟨i, j, rfl, rfl, c, q⟩ := q
    exact ⟨i, j, rx.str, ry.str, c, uq _ _ q F H _ (Sub.refl F) wd .ofStr⟩
  · obtain ⟨i, j, ei, ej, c, q⟩ := q
    obtain ⟨p, xs, rfl, hp, rp⟩ := wd.getM rx ei
    obtain ⟨p2, ys, rfl, hp2, rp2⟩ := wd.getM ry ej
    refine ⟨p, p2, xs, ys, rfl, rfl, hp, hp2, by rw [rp.len, rp2.len]; exact c, fun l hl => ?_⟩
    have hf := (wd.fresh hl).2
    exact uq _ _ q (upd F l (.lst (xs ++ ys))) _ _ (Sub.new hf) (wd.frz hl) (.ofLst upd_same ((rp.append rp2).mono (Sub.new hf)))
  · obtain ⟨i, j, rfl, rfl, c, q⟩ := q
    obtain ⟨p, xs, rfl, hp, rp⟩ := rx.tupP
    obtain ⟨p2, ys, rfl, hp2, rp2⟩ := ry.tupP
    refine ⟨p, p2, xs, ys, rfl, rfl, wd.sub.sqT (.of hp), wd.sub.sqT (.of hp2), by rw [rp.len, rp2.len]; exact c, fun e => ?_, fun _ e => ?_, fun _ _ l hl => ?_⟩
    · subst e
      have : i = [] := List.length_eq_zero_iff.mp rp.len.symm
      subst this
      exact uq _ _ q F H _ (Sub.refl F) wd (.ofTup hp2 rp2)
    · subst e
      have : j = [] := List.length_eq_zero_iff.mp rp2.len.symm
      subst this
      rw [List.append_nil] at q
      exact uq _ _ q F H _ (Sub.refl F) wd (.ofTup hp rp)
    · have hf := (wd.fresh hl).2
      exact uq _ _ q (upd F l (.tup (xs ++ ys))) _ _ (Sub.new hf) (wd.frz hl) (.ofTup upd_same ((rp.append rp2).mono (Sub.new hf)))
def gSub : G2 := fun x y μ Q => ∃ i j, x = .int i ∧ y = .int j ∧ Q (.int (i - j)) μ
theorem opd_sub : OpD X C (binaryOp .Sub) gSub := opd_int0 op_sub
def gMod : G2 := fun x y μ Q => ∃ i j, x = .int i ∧ y = .int j ∧ 0 < j ∧ Q (.int (i % j)) μ
theorem opd_mod : OpD X C (binaryOp .Mod) gMod := opd_int op_mod
def gDiv : G2 := fun x y μ Q => ∃ i j, x = .int i ∧ y = .int j ∧ CDivW i j ∧ Q (.int (i / j)) μ
theorem opd_div : OpD X C (binaryOp .FloorDiv) gDiv := opd_int op_fdivW
def gPow : G2 := fun x y μ Q => ∃ i j, x = .int i ∧ y = .int j ∧ CPow i j ∧ Q (.int (i ^ j.toNat)) μ
theorem opd_pow : OpD X C (binaryOp .Pow) gPow := opd_int op_pow
theorem RepL.rep {K : PySem.W.Frag} {F : Hp} {ds : List D} {xs : List V} (r : RepL K C F ds xs) : ∀ n : Nat, RepL K C F (List.replicate n ds).flatten (List.replicate n xs).flatten
  | 0 => .nil
  | n + 1 => by rw [List.replicate_succ, List.replicate_succ, List.flatten_cons, List.flatten_cons]; exact r.append (r.rep n)
end
end T2

set_option maxRecDepth 100000
set_option maxHeartbeats 4000000
namespace T2
open PySem PySem.Spec PyProof.Rows L2
section
variable {X : Cx} {C : CT} {W : WX} {a b c : Expr} {wa wb wc : WE} {pos : Pos}
/-! ### comparisons -/
def sv : D → Option V
  | .non => some .non
  | .bl b => some (.bl b)
  | .int i => some (.int i)
  | .str s => some (.str s)
  | _ => none
theorem Rep.sv {K : PySem.W.Frag} {F : Hp} {d : D} {v u : V} (r : Rep K C F d v) (h : T2.sv d = some u) : v = u := by
  cases d with
  | non => cases h; exact r.non
  | bl b => cases h; exact r.bl
  | int b => cases h; exact r.int
  | str b => cases h; exact r.str
  | _ => cases h
def gEq : G2 := fun x y μ Q => ∃ u v, sv x = some u ∧ sv y = some v ∧ scal u v = true ∧ Q (.bl (decide (u = v))) μ
def gNe : G2 := fun x y μ Q => ∃ u v, sv x = some u ∧ sv y = some v ∧ scal u v = true ∧ Q (.bl (!decide (u = v))) μ
theorem opd_eq : OpD X C (compareOp .Eq) gEq := ⟨_, op_eq, fun L F μ H x y v u Q0 Q wd rx ry q uq => by
  obtain ⟨a, b, ha, hb, hs, q⟩ := q
  cases rx.sv ha
  cases ry.sv hb
  exact ⟨hs, uq _ _ q F H _ (Sub.refl F) wd .ofBl⟩⟩
theorem opd_ne : OpD X C (compareOp .NotEq) gNe := ⟨_, op_ne, fun L F μ H x y v u Q0 Q wd rx ry q uq => by
  obtain ⟨a, b, ha, hb, hs, q⟩ := q
  cases rx.sv ha
  cases ry.sv hb
  exact ⟨hs, uq _ _ q F H _ (Sub.refl F) wd .ofBl⟩⟩
def gCmp (p : Int → Int → Bool) (q : Str → Str → Bool) : G2 := fun x y μ Q =>
  (∃ i j, x = .int i ∧ y = .int j ∧ Q (.bl (p i j)) μ) ∨ (∃ i j, x = .str i ∧ y = .str j ∧ Q (.bl (q i j)) μ)
theorem opd_cmpS {f : Value → Value → Sem Value} {h : Str → Str → Bool} (o : OpR X f (fun x y H Q => ∃ i j, x = .str i ∧ y = .str j ∧ Q (.bl (h i j)) H)) : OpD X C f (fun x y μ Q => ∃ i j, x = .str i ∧ y = .str j ∧ Q (.bl (h i j)) μ) :=
  ⟨_, o, fun L F μ H x y v u Q0 Q wd rx ry q uq => by
    obtain ⟨i, j, rfl, rfl, q⟩ := q
    exact ⟨i, j, rx.str, ry.str, uq _ _ q F H _ (Sub.refl F) wd .ofBl⟩⟩
def sLt (i j : Str) : Bool := decide (i.cps.toList < j.cps.toList)
def gLt : G2 := gCmp (fun i j => decide (i < j)) sLt
def gLe : G2 := gCmp (fun i j => decide (i ≤ j)) (fun i j => !sLt j i)
def gGt : G2 := gCmp (fun i j => decide (j < i)) (fun i j => sLt j i)
def gGe : G2 := gCmp (fun i j => decide (j ≤ i)) (fun i j => !sLt i j)
theorem opd_lt : OpD X C (compareOp .Lt) gLt := opd_or (opd_cmp0 op_lt) (opd_cmpS op_lt_str)
theorem opd_le : OpD X C (compareOp .LtE) gLe := opd_or (opd_cmp0 op_le) (opd_cmpS op_le_str)
theorem opd_gt : OpD X C (compareOp .Gt) gGt := opd_or (opd_cmp0 op_gt) (opd_cmpS op_gt_str)
theorem opd_ge : OpD X C (compareOp .GtE) gGe := opd_or (opd_cmp0 op_ge) (opd_cmpS op_ge_str)
def isNon : D → Bool
  | .non => true
  | _ => false
theorem Rep.isNon {K : PySem.W.Frag} {F : Hp} {d : D} {v : V} (r : Rep K C F d v) : decide (v = .non) = T2.isNon d := by
  cases d with
  | non => cases r.non; rfl
  | bl b => cases r.bl; rfl
  | int b => cases r.int; rfl
  | str b => cases r.str; rfl
  | raw b => cases r.raw; rfl
  | lst b => obtain ⟨_, _, e, _⟩ := r.lst; subst e; rfl
  | scr b => obtain ⟨_, _, e, _⟩ := r.scr; subst e; rfl
  | tup b => obtain ⟨_, _, e, _⟩ := r.tup; subst e; rfl
  | ctp b => obtain ⟨_, _, e, _⟩ := r.ctp; subst e; rfl
  | dct b => obtain ⟨_, _, e, _⟩ := r.dct; subst e; rfl
  | dcf b => obtain ⟨_, _, _, e, _⟩ := r.dcf; subst e; rfl
  | obj c b => unfold Rep at r; obtain ⟨_, _, _, _, e, _⟩ := r; subst e; rfl
  | exc a ca dx c b => unfold Rep at r; obtain ⟨e, _⟩ := r; subst e; rfl
def gIs : G2 := fun x y μ Q => y = .non ∧ Q (.bl (isNon x)) μ
def gIsNot : G2 := fun x y μ Q => y = .non ∧ Q (.bl (!isNon x)) μ
theorem opd_is : OpD X C (compareOp .Is) gIs := ⟨_, op_isN, fun L F μ H x y v u Q0 Q wd rx ry q uq => by
  obtain ⟨rfl, q⟩ := q
  refine ⟨ry.non, ?_⟩
  rw [rx.isNon]
  exact uq _ _ q F H _ (Sub.refl F) wd .ofBl⟩
theorem opd_isnot : OpD X C (compareOp .IsNot) gIsNot := ⟨_, op_notN, fun L F μ H x y v u Q0 Q wd rx ry q uq => by
  obtain ⟨rfl, q⟩ := q
  refine ⟨ry.non, ?_⟩
  rw [rx.isNon]
  exact uq _ _ q F H _ (Sub.refl F) wd .ofBl⟩
/-- flat values, == as items of a list -/
def eqS : D → D → Bool
  | .non, .non => true
  | .bl a, .bl b => a == b
  | .bl a, .int b => (if a then 1 else 0) == b
  | .int a, .bl b => a == (if b then 1 else 0)
  | .int a, .int b => a == b
  | .str a, .str b => a == b
  | _, _ => false
def flat : D → Bool
  | .non => true
  | .bl _ => true
  | .int _ => true
  | .str _ => true
  | _ => false
theorem Rep.flat {K : PySem.W.Frag} {F : Hp} {d : D} {v : V} (r : Rep K C F d v) (h : T2.flat d = true) : flatV v = true := by
  cases d with
  | non => cases r.non; rfl
  | bl b => cases r.bl; rfl
  | int b => cases r.int; rfl
  | str b => cases r.str; rfl
  | _ => cases h
theorem Rep.eqS {K : PySem.W.Frag} {F : Hp} {d e : D} {v u : V} (r : Rep K C F d v) (q : Rep K C F e u) (h : T2.flat d = true) (h' : T2.flat e = true) : eqV v u = T2.eqS d e := by
  cases d with
  | non => cases r.non; cases e with
    | non => cases q.non; rfl
    | bl b => cases q.bl; rfl
    | int b => cases q.int; rfl
    | str b => cases q.str; rfl
    | _ => cases h'
  | bl b => cases r.bl; cases e with
    | non => cases q.non; rfl
    | bl b => cases q.bl; rfl
    | int b => cases q.int; rfl
    | str b => cases q.str; rfl
    | _ => cases h'
  | int b => cases r.int; cases e with
    | non => cases q.non; rfl
    | bl b => cases q.bl; rfl
    | int b => cases q.int; rfl
    | str b => cases q.str; rfl
    | _ => cases h'
  | str b => cases r.str; cases e with
    | non => cases q.non; rfl
    | bl b => cases q.bl; rfl
    | int b => cases q.int; rfl
    | str b => cases q.str; rfl
    | _ => cases h'
  | _ => cases h
theorem RepL.flats {K : PySem.W.Frag} {F : Hp} : ∀ {ds : List D} {xs : List V}, RepL K C F ds xs → ds.all T2.flat = true → xs.all flatV = true
  | [], _, h, _ => by unfold RepL at h; subst h; rfl
  | d :: ds, _, h, e => by
    unfold RepL at h
    obtain ⟨x, r, e', h1, h2⟩ := h
    subst e'
    rw [List.all_cons, Bool.and_eq_true] at e ⊢
    exact ⟨h1.flat e.1, h2.flats e.2⟩
theorem RepL.inV {K : PySem.W.Frag} {F : Hp} {e : D} {u : V} (q : Rep K C F e u) (h' : T2.flat e = true) : ∀ {ds : List D} {xs : List V}, RepL K C F ds xs → ds.all T2.flat = true → L2.inV u xs = ds.any fun d => T2.eqS d e
  | [], _, h, _ => by unfold RepL at h; subst h; rfl
  | d :: ds, _, h, f => by
    unfold RepL at h
    obtain ⟨x, r, e', h1, h2⟩ := h
    subst e'
    rw [List.all_cons, Bool.and_eq_true] at f
    have ih := RepL.inV q h' h2 f.2
    unfold L2.inV at ih ⊢
    rw [List.any_cons, List.any_cons, ih, h1.eqS q f.1 h']
def keysT : List D → Option (List Key)
  | [] => some []
  | d :: ds => match keyOf d, keysT ds with
    | some k, some ks => some (k :: ks)
    | _, _ => none
theorem RepL.keysT {K : PySem.W.Frag} {F : Hp} : ∀ {ds : List D} {xs : List V} {ks : List Key}, RepL K C F ds xs → T2.keysT ds = some ks → xs = ks.map kV
  | [], _, _, h, e => by
    unfold RepL at h
    cases e
    exact h
  | d :: ds, _, ks, h, e => by
    unfold RepL at h
    obtain ⟨x, r, rfl, h1, h2⟩ := h
    unfold T2.keysT at e
    split at e
    · rename_i k ks' e1 e2
      cases e
      rw [keyOf_kV h1 e1, RepL.keysT h2 e2]
      rfl
    · cases e
def hasK (ks : List (List Key)) (k : List Key) : Bool := ks.any fun x => decide (x = k)
theorem hasK_iff {ks : List (List Key)} {k : List Key} : hasK ks k = true ↔ k ∈ ks := by
  unfold hasK
  rw [List.any_eq_true]
  constructor
  · rintro ⟨x, h, e⟩
    exact of_decide_eq_true e ▸ h
  · exact fun h => ⟨k, h, decide_eq_true rfl⟩
theorem valV_keys {xs : List (List Key × V)} {k : List Key} : (valV xs k).isSome = hasK (xs.map Prod.fst) k := by
  rw [← valV_any, hasK, List.any_map]
  rfl
def gIn (n : Bool) : G2 := fun x y μ Q =>
  (∃ ds, getS μ y = some ds ∧ flat x = true ∧ ds.all flat = true ∧ Q (.bl (n ^^ ds.any fun d => eqS d x)) μ) ∨
  (∃ ks k, getK μ y = some ks ∧ keyOf x = some k ∧ Q (.bl (n ^^ (look ks k).isSome)) μ) ∨
  (∃ s c, x = .str ⟨#[c]⟩ ∧ y = .str s ∧ Q (.bl (n ^^ decide (c ∈ s.cps.toList))) μ) ∨
  (∃ (a : Addr) (ks : List (List Key)) (ds : List D) (k : List Key), y = .raw a ∧ μ a = some (.dts ks) ∧ x = .tup ds ∧ keysT ds = some k ∧ Q (.bl (n ^^ hasK ks k)) μ)
theorem op_inDict (hu : X.A.units + 1 < cLine) : OpR X (compareOp .In) (fun y x H Q => ∃ a o, x = .ref a ∧ DGet H a y o ∧ Q (.bl o.isSome) H) := by
  intro pins s σ H y x v u Q I ry rx h
  obtain ⟨a, o, rfl, g, q⟩ := h
  obtain rfl : u = Value.ref a := rx
  exact d_in hu I g ry fun s3 I3 => ⟨.bl o.isSome, H, I3, rfl, q⟩
theorem RepK.dget {K : PySem.W.Frag} {F H : Hp} {ks : List (Key × D)} {xs : List (Key × V)} {k : Key} {p : Addr} (rk : RepK K C F ks xs) (hp : Rd H p (.dK xs)) : ∃ o : Option V, DGet H p (kV k) o ∧ o.isSome = (T2.look ks k).isSome := by
  have h := rk.look (k := k)
  refine ⟨valV xs k, DGet.kR hp, ?_⟩
  cases e : T2.look ks k with
  | none => rw [h.2 e]; rfl
  | some d => obtain ⟨v, hv, _⟩ := h.1 d e; rw [hv]; rfl
theorem opd_in (hu : X.A.units + 1 < cLine) : OpD X C (compareOp .In) (gIn false) := by
  refine opd_or ⟨_, op_in_seq, fun L F μ H x y v u Q0 Q wd rx ry q uq => ?_⟩ (opd_or ⟨_, op_inDict hu, fun L F μ H x y v u Q0 Q wd rx ry q uq => ?_⟩ (opd_or ⟨_, op_in_sign, fun L F μ H x y v u Q0 Q wd rx ry q uq => ?_⟩ ⟨_, op_inDict hu, fun L F μ H x y v u Q0 Q wd rx ry q uq => ?_⟩))
  · obtain ⟨ds, e, fx, fd, q⟩ := q
    obtain ⟨p, xs, rfl, hp, rl⟩ := wd.getS ry e
    refine ⟨p, xs, rfl, hp, rx.flat fx, rl.flats fd, ?_⟩
    rw [if_neg Bool.false_ne_true, rl.inV rx fx fd]
    rw [Bool.false_xor] at q
    exact uq _ _ q F H _ (Sub.refl F) wd .ofBl
  · obtain ⟨ks, k, e, ek, q⟩ := q
    obtain ⟨p, xs, rfl, hp, rk⟩ := wd.getK ry e
    cases keyOf_kV rx ek
    obtain ⟨o, hg, ho⟩ := rk.dget (k := k) hp
    refine ⟨p, o, rfl, hg, ?_⟩
    rw [ho]
    rw [Bool.false_xor] at q
    exact uq _ _ q F H _ (Sub.refl F) wd .ofBl
  · obtain ⟨s, c, rfl, rfl, q⟩ := q
    rw [Bool.false_xor] at q
    exact ⟨c, s, rx.str, ry.str, uq _ _ q F H _ (Sub.refl F) wd .ofBl⟩
  · obtain ⟨a, ks, ds, k, rfl, hm, rfl, hk, q⟩ := q
    obtain ⟨p, ys, rfl, hp, rl⟩ := rx.tupP
    cases rl.keysT hk
    obtain ⟨xs, hx, rfl⟩ := (wd.mu _ _ hm).2
    refine ⟨a, _, ry.raw, DGet.t hx (wd.sub _ _ hp), ?_⟩
    rw [valV_keys]
    rw [Bool.false_xor] at q
    exact uq _ _ q F H _ (Sub.refl F) wd .ofBl
end
end T2

set_option maxRecDepth 100000
set_option maxHeartbeats 4000000
namespace T2
open PySem PySem.Spec PyProof.Rows L2
theorem op_notInDict {X : Cx} (hu : X.A.units + 1 < cLine) : OpR X (compareOp .NotIn) (fun y x H Q => ∃ a o, x = .ref a ∧ DGet H a y o ∧ Q (.bl (!o.isSome)) H) := by
  intro pins s σ H y x v u Q I ry rx h
  obtain ⟨a, o, rfl, g, q⟩ := h
  obtain rfl : u = Value.ref a := rx
  exact d_notIn hu I g ry fun s3 I3 => ⟨.bl (!o.isSome), H, I3, rfl, q⟩
theorem opd_notin {X : Cx} {C : CT} (hu : X.A.units + 1 < cLine) : OpD X C (compareOp .NotIn) (gIn true) := by
  refine opd_or ⟨_, op_notIn_seq, fun L F μ H x y v u Q0 Q wd rx ry q uq => ?_⟩ (opd_or ⟨_, op_notInDict hu, fun L F μ H x y v u Q0 Q wd rx ry q uq => ?_⟩ (opd_or ⟨_, op_notIn_sign, fun L F μ H x y v u Q0 Q wd rx ry q uq => ?_⟩ ⟨_, op_notInDict hu, fun L F μ H x y v u Q0 Q wd rx ry q uq => ?_⟩))
  · obtain ⟨ds, e, fx, fd, q⟩ := q
    obtain ⟨p, xs, rfl, hp, rl⟩ := wd.getS ry e
    refine ⟨p, xs, rfl, hp, rx.flat fx, rl.flats fd, ?_⟩
    rw [if_pos rfl, rl.inV rx fx fd]
    rw [Bool.true_xor] at q
    exact uq _ _ q F H _ (Sub.refl F) wd .ofBl
  · obtain ⟨ks, k, e, ek, q⟩ := q
    obtain ⟨p, xs, rfl, hp, rk⟩ := wd.getK ry e
    cases keyOf_kV rx ek
    obtain ⟨o, hg, ho⟩ := rk.dget (k := k) hp
    refine ⟨p, o, rfl, hg, ?_⟩
    rw [ho]
    rw [Bool.true_xor] at q
    exact uq _ _ q F H _ (Sub.refl F) wd .ofBl
  · obtain ⟨s, c, rfl, rfl, q⟩ := q
    rw [Bool.true_xor] at q
    exact ⟨c, s, rx.str, ry.str, uq _ _ q F H _ (Sub.refl F) wd .ofBl⟩
  · obtain ⟨a, ks, ds, k, rfl, hm, rfl, hk, q⟩ := q
    obtain ⟨p, ys, rfl, hp, rl⟩ := rx.tupP
    cases rl.keysT hk
    obtain ⟨xs, hx, rfl⟩ := (wd.mu _ _ hm).2
    refine ⟨a, _, ry.raw, DGet.t hx (wd.sub _ _ hp), ?_⟩
    rw [valV_keys]
    rw [Bool.true_xor] at q
    exact uq _ _ q F H _ (Sub.refl F) wd .ofBl

theorem takesN {X : Cx} : L2N.Takes X (fun _ _ _ _ => False) := fun _ _ ⟨_, _, _, _, _, _, _, _, _, _, _, _, _, _, _, _, z⟩ => z.elim
theorem passLN {X : Cx} : Passes (L2N.CX X.prog X.w) X E0 := fun _ _ _ _ _ _ _ ⟨_, _, _, _, _, _, _, _, _, _, _, _, z⟩ => z.elim
/-! ### calls of the text's own -/
abbrev SpD := List D → Mu → PQ → PX → Prop
def upXE (K : PySem.W.Frag) (C : CT) (L F : Hp) (E0 : PX) (E : XK) : Prop := ∀ c fs μ', E0 c fs μ' → ∀ F' H' cls dx, Sub F F' → Wd K C L F' μ' H' → XRep K C F' H' c fs cls dx → E cls dx H'
def liftSp (K : PySem.W.Frag) (C : CT) (sp : SpD) : Sp := fun vs H Q E => ∃ L F μ ds Q0 E0, RepL K C F ds vs ∧ Wd K C L F μ H ∧ sp ds μ Q0 E0 ∧ upQ K C L F Q0 Q ∧ upXE K C L F E0 E
/-- called with n values and the keywords ks, it keeps sp -/
def RunAt (P : Program) (w : World) (K : PySem.W.Frag) (mg : Str → Option Value) (base : Heap) (C : CT) (k : Nat) (f : Addr) (n : Nat) (ks : List Str) (sp : SpD) : Prop :=
  ∀ (A : Around) (outer : List PySem.Env) (s : Shared) (H : Hp) (us ws : List Value) (vs zs : List V) (Q : VK) (E : XK), Room k A → Env0 P w K mg base A outer s H → K.In s.heap → Vals vs us → Vals zs ws → vs.length = n → zs.length = ks.length →
    liftSp K C sp (vs ++ zs) H Q E → codeAny (model P w) A (.call (.ref f) ⟨us, ks.zip ws⟩) (CR (L2N.CX P w) outer P w H s Q E) s
theorem RunAt.mono {P : Program} {w : World} {K : PySem.W.Frag} {mg : Str → Option Value} {base : Heap} {C : CT} {j k : Nat} {f : Addr} {n : Nat} {ks : List Str} {sp : SpD} (h : RunAt P w K mg base C j f n ks sp) (hk : j ≤ k) : RunAt P w K mg base C k f n ks sp :=
  fun A outer s H us ws vs zs Q E hr => h A outer s H us ws vs zs Q E (hr.mono hk)
structure FnAt (P : Program) (w : World) (K : PySem.W.Frag) (mg : Str → Option Value) (base : Heap) (C : CT) (k : Nat) (x : Str) (n : Nat) (ks : List Str) (sp : SpD) : Prop where
  ex : ∃ f, mg x = some (.ref f) ∧ PySem.W.keepIn K (.ref f) = true ∧ RunAt P w K mg base C k f n ks sp
theorem FnAt.mono {P : Program} {w : World} {K : PySem.W.Frag} {mg : Str → Option Value} {base : Heap} {C : CT} {j k : Nat} {x : Str} {n : Nat} {ks : List Str} {sp : SpD} (h : FnAt P w K mg base C j x n ks sp) (hk : j ≤ k) : FnAt P w K mg base C k x n ks sp := by
  obtain ⟨f, h1, h2, h3⟩ := h.ex
  exact ⟨f, h1, h2, h3.mono hk⟩
section
variable {X : Cx} {C : CT} {W : WX} {a b c e : Expr} {es : List Expr} {wa wb wc : WE} {was wks : WA} {p pos : Pos} {k n : Nat} {ks : List Str} {sp : SpD} {x : Str} {f : Addr}
theorem run_at {pins : List (Addr × Obj)} {σ : St} {H : Hp} {s : Shared} {Q : VK} {us ws : List Value} {vs zs : List V} (R : RunAt X.prog X.w X.K X.mg X.base C k f n ks sp) (hr : Room k X.A) (tk : L2N.Takes X W)
    (I : Inv X pins σ H s) (r : Vals vs us) (rz : Vals zs ws) (h1 : vs.length = n) (h2 : zs.length = ks.length) (h : liftSp X.K C sp (vs ++ zs) H Q (L2.WE W σ)) : wpAny (model X.prog X.w) X.A (call (.ref f) us (ks.zip ws)) (EP X pins σ Q) X.xe s := by
  refine wpAny_call (codeAny_mono (R X.A X.stack s H us ws vs zs Q (L2.WE W σ) hr I.env0 I.kIn r rz h1 h2 h) fun r s' hq => ?_)
  cases r with
  | error e => exact L2N.passAt tk σ pins H s e s' I hq
  | ok fl =>
    cases fl with
    | ret u => exact I.after hq
    | next => exact False.elim hq
    | brk => exact False.elim hq
    | cont => exact False.elim hq
def wCall (n : Nat) (sp : SpD) (was : WA) : WE := fun ρ μ Q E => was ρ μ (fun ds μ1 => ds.length = n ∧ sp ds μ1 Q E) E
def wCallK (n m : Nat) (sp : SpD) (was wks : WA) : WE := fun ρ μ Q E => was ρ μ (fun ds μ1 => wks ρ μ1 (fun es μ2 => ds.length = n ∧ es.length = m ∧ sp (ds ++ es) μ2 Q E) E) E
theorem upXE_of {K : PySem.W.Frag} {F : Hp} {σ : St} {E0 : PX} (h : upX K C L F σ E0 W) : upXE K C L F E0 (L2.WE W σ) := h
theorem up_call (F : FnAt X.prog X.w X.K X.mg X.base C k x n [] sp) (hr : Room k X.A) (tk : L2N.Takes X W) (hg : Gl X x) (ha : PA X (e :: es) (upA X.K C W was)) (hdb : (x == ("__debug__" : Str)) = false)
    (he : starEach (e :: es) X.env = (false, eval e X.env) :: starEach es X.env) (hpl : (backTo pos (starEach es X.env)).any (·.1) = false) :
    PE X (.Call (.Name x p) (e :: es) [] pos) (upE X.K C W (wCall n sp was)) := by
  obtain ⟨f, hm, hk, R⟩ := F.ex
  refine ⟨fun pins s σ H Q I h => ?_⟩
  obtain ⟨L, F0, ρ, μ, Q0, E0, rl, q, uq, ux⟩ := h
  refine wpAny_Call_Name_kw (ld_glob I hg hm ?_ hdb)
  refine PySem.W.callWith_K (h₀ := X.base) I.ok.mod.kin hk (thn (ha.run pos pins s σ H (fun vs H' => ∃ F' ds μ', Sub F0 F' ∧ Wd X.K C L F' μ' H' ∧ RepL X.K C F' ds vs ∧ ds.length = n ∧ sp ds μ' Q0 E0) I
    ⟨L, F0, ρ, μ, _, E0, rl, q, fun ds μ1 q1 F1 H1 vs s1 w1 r1 => ⟨F1, ds, μ1, s1, w1, r1, q1.1, q1.2⟩, ux⟩) fun us s1 ⟨vs, H1, I1, r, F1, ds, μ1, s1', w1, r1, hl, q1⟩ => ⟨I1.kIn, ?_⟩) he hpl
  have := run_at (us := us) (ws := []) (vs := vs) (zs := []) (Q := Q) R hr tk I1 r .nil (by rw [r1.len]; exact hl) rfl (by
    rw [List.append_nil]
    exact ⟨L, F1, μ1, ds, Q0, E0, r1, w1, q1, uq.mono s1', ux.mono s1'⟩)
  exact this
theorem up_call0 (F : FnAt X.prog X.w X.K X.mg X.base C k x 0 [] sp) (hr : Room k X.A) (tk : L2N.Takes X W) (hg : Gl X x) (hdb : (x == ("__debug__" : Str)) = false) :
    PE X (.Call (.Name x p) [] [] pos) (upE X.K C W (wCall 0 sp wNil)) := by
  obtain ⟨f, hm, hk, R⟩ := F.ex
  refine ⟨fun pins s σ H Q I h => ?_⟩
  obtain ⟨L, F0, ρ, μ, Q0, E0, rl, q, uq, ux⟩ := h
  refine wpAny_Call_Name_kw (ld_glob I hg hm ?_ hdb)
  have := run_at (us := []) (ws := []) (vs := []) (zs := []) (Q := Q) R hr tk I .nil .nil rfl rfl ⟨L, F0, μ, [], Q0, E0, .nil, rl.wd, q.2, uq, ux⟩
  exact PySem.W.callWith_K0 I.kIn hk this
/-! keywords -/
def upK (X : Cx) (C : CT) (W : WX) (kws : List Keyword) (wks : WA) : Prop := PK X kws (upA X.K C W wks)
theorem up_knil : PK X [] (upA X.K C W wNil) :=
  ⟨fun pos pins s σ H Q I h => pk_nil.run pos pins s σ H Q I (by obtain ⟨L, F, ρ, μ, Q0, E0, rl, q, uq, ux⟩ := h; exact uq [] μ q F H [] (Sub.refl F) rl.wd .nil)⟩
theorem up_kcons {nm : Option Str} {kws : List Keyword} {kpos : Pos} (ha : PE X e (upE X.K C W wa)) (hr : PK X kws (upA X.K C W wks)) : PK X (⟨nm, e, kpos⟩ :: kws) (upA X.K C W (wCons wa wks)) :=
  ⟨fun pos pins s σ H Q I h => (pk_cons ha hr).run pos pins s σ H Q I (by
    obtain ⟨L, F, ρ, μ, Q0, E0, rl, q, uq, ux⟩ := h
    refine ⟨L, F, ρ, μ, _, E0, rl, q, fun d1 μ1 q1 F1 H1 v1 s1 w1 r1 => ?_, ux⟩
    refine ⟨L, F1, ρ, μ1, _, E0, rl.to s1 w1, q1, fun ds μ2 q2 F2 H2 vs s2 w2 r2 => ?_, ux.mono s1⟩
    exact uq (d1 :: ds) μ2 q2 F2 H2 (v1 :: vs) (s1.trans s2) w2 (.cons (r1.mono s2) r2))⟩
theorem up_callK {kws : List Keyword} (F : FnAt X.prog X.w X.K X.mg X.base C k x n ks sp) (hr : Room k X.A) (tk : L2N.Takes X W) (hg : Gl X x) (ha : PA X (e :: es) (upA X.K C W was)) (hkw : PK X kws (upA X.K C W wks)) (hdb : (x == ("__debug__" : Str)) = false)
    (hall : (backToKw pos (keywordEach kws X.env)).all (·.1.isSome) = true) (hks : (backToKw pos (keywordEach kws X.env)).filterMap (·.1) = ks)
    (he : starEach (e :: es) X.env = (false, eval e X.env) :: starEach es X.env) (hpl : ((backTo pos (starEach (e :: es) X.env)).any (·.1) || (backToKw pos (keywordEach kws X.env)).any (·.1.isNone)) = false) :
    PE X (.Call (.Name x p) (e :: es) kws pos) (upE X.K C W (wCallK n ks.length sp was wks)) := by
  obtain ⟨f, hm, hk, R⟩ := F.ex
  refine ⟨fun pins s σ H Q I h => ?_⟩
  obtain ⟨L, F0, ρ, μ, Q0, E0, rl, q, uq, ux⟩ := h
  refine wpAny_Call_Name_kw (ld_glob I hg hm ?_ hdb)
  refine PySem.W.callWith_KW (h₀ := X.base) I.ok.mod.kin hk hall (thn (ha.run pos pins s σ H (fun vs H' => ∃ F' ds μ', Sub F0 F' ∧ Wd X.K C L F' μ' H' ∧ RepL X.K C F' ds vs ∧ wks ρ μ' (fun es μ2 => ds.length = n ∧ es.length = ks.length ∧ sp (ds ++ es) μ2 Q0 E0) E0) I
    ⟨L, F0, ρ, μ, _, E0, rl, q, fun ds μ1 q1 F1 H1 vs s1 w1 r1 => ⟨F1, ds, μ1, s1, w1, r1, q1⟩, ux⟩) fun us s1 ⟨vs, H1, I1, r, F1, ds, μ1, s1', w1, r1, q1⟩ => ?_) hpl he
  refine thn (hkw.run pos pins s1 σ H1 (fun zs H' => ∃ F' es μ', Sub F1 F' ∧ Wd X.K C L F' μ' H' ∧ RepL X.K C F' es zs ∧ ds.length = n ∧ es.length = ks.length ∧ sp (ds ++ es) μ' Q0 E0) I1
    ⟨L, F1, ρ, μ1, _, E0, rl.to s1' w1, q1, fun es μ2 q2 F2 H2 zs s2 w2 r2 => ⟨F2, es, μ2, s2, w2, r2, q2⟩, ux.mono s1'⟩) fun ws s2 ⟨zs, H2, I2, rz, F2, es2, μ2, s2', w2, r2, hl1, hl2, q2⟩ => ⟨I2.kIn, ?_⟩
  rw [hks]
  have := run_at (us := us) (ws := ws) (vs := vs) (zs := zs) (Q := Q) R hr tk I2 r rz (by rw [r1.len]; exact hl1) (by rw [r2.len]; exact hl2) ⟨L, F2, μ2, ds ++ es2, Q0, E0, (r1.mono s2').append r2, w2, q2, uq.mono (s1'.trans s2'), ux.mono (s1'.trans s2')⟩
  exact this
theorem up_callK0 {kws : List Keyword} (F : FnAt X.prog X.w X.K X.mg X.base C k x 0 ks sp) (hr : Room k X.A) (tk : L2N.Takes X W) (hg : Gl X x) (hkw : PK X kws (upA X.K C W wks)) (hdb : (x == ("__debug__" : Str)) = false)
    (hall : (backToKw pos (keywordEach kws X.env)).all (·.1.isSome) = true) (hks : (backToKw pos (keywordEach kws X.env)).filterMap (·.1) = ks)
    (hpl : ((backTo pos (starEach [] X.env)).any (·.1) || (backToKw pos (keywordEach kws X.env)).any (·.1.isNone)) = false) :
    PE X (.Call (.Name x p) [] kws pos) (upE X.K C W (wCallK 0 ks.length sp wNil wks)) := by
  obtain ⟨f, hm, hk, R⟩ := F.ex
  refine ⟨fun pins s σ H Q I h => ?_⟩
  obtain ⟨L, F0, ρ, μ, Q0, E0, rl, q, uq, ux⟩ := h
  refine wpAny_Call_Name_kw (ld_glob I hg hm ?_ hdb)
  refine PySem.W.callWith_KW0 (h₀ := X.base) I.ok.mod.kin hk hall ?_ hpl
  refine thn (hkw.run pos pins s σ H (fun zs H' => ∃ F' es μ', Sub F0 F' ∧ Wd X.K C L F' μ' H' ∧ RepL X.K C F' es zs ∧ es.length = ks.length ∧ sp es μ' Q0 E0) I
    ⟨L, F0, ρ, μ, _, E0, rl, q, fun es μ2 q2 F2 H2 zs s2 w2 r2 => ⟨F2, es, μ2, s2, w2, r2, q2.2.1, q2.2.2⟩, ux⟩) fun ws s2 ⟨zs, H2, I2, rz, F2, es2, μ2, s2', w2, r2, hl2, q2⟩ => ⟨I2.kIn, ?_⟩
  rw [hks]
  have := run_at (us := []) (ws := ws) (vs := []) (zs := zs) (Q := Q) R hr tk I2 .nil rz rfl (by rw [r2.len]; exact hl2) ⟨L, F2, μ2, es2, Q0, E0, r2, w2, q2, uq.mono s2', ux.mono s2'⟩
  exact this

/-! ### built-in functions and types, called with values -/
abbrev GC := List D → Mu → PQ → Prop
def CallD (X : Cx) (C : CT) (f : Value) (g : GC) : Prop :=
  ∃ r, CallR X f r ∧ ∀ L F μ H xs vs Q0 Q, Wd X.K C L F μ H → RepL X.K C F xs vs → g xs μ Q0 → upQ X.K C L F Q0 Q → r vs H Q
def wCB (g : GC) (was : WA) : WE := fun ρ μ Q E => was ρ μ (fun ds μ1 => g ds μ1 Q) E
theorem up_cb0 {g : GC} {r : List V → Hp → VK → Prop} (hr : ∀ L F μ H xs vs Q0 Q, Wd X.K C L F μ H → RepL X.K C F xs vs → g xs μ Q0 → upQ X.K C L F Q0 Q → r vs H Q) :
    ∀ σ H Q, upE X.K C W (wCB g was) σ H Q → tCB r (upA X.K C W was) σ H Q := fun σ H Q ⟨L, F, ρ, μ, Q0, E0, rl, q, uq, ux⟩ => by
  refine ⟨L, F, ρ, μ, _, E0, rl, q, fun ds μ1 q1 F1 H1 vs s1 w1 r1 => ?_, ux⟩
  exact hr L F1 μ1 H1 ds vs Q0 Q w1 r1 q1 (uq.mono s1)
theorem up_callB {id : String} {g : GC} (hc : CallD X C (.builtin id) g) (hg : Gl X x) (hm : X.mg x = none) (hv : bootBuiltins x = some (.builtin id)) (ha : PA X (e :: es) (upA X.K C W was)) (hn : x ≠ "__name__") (hdb : (x == ("__debug__" : Str)) = false)
    (he : starEach (e :: es) X.env = (false, eval e X.env) :: starEach es X.env) (hpl : (backTo pos (starEach es X.env)).any (·.1) = false) : PE X (.Call (.Name x p) (e :: es) [] pos) (upE X.K C W (wCB g was)) := by
  obtain ⟨r, h1, h2⟩ := hc
  exact PE.imp (pe_callB h1 hg hm hv ha hn hdb he hpl) (up_cb0 h2)
theorem up_callTy {id : String} {g : GC} (hc : CallD X C (.type id) g) (hg : Gl X x) (hm : X.mg x = none) (hv : bootBuiltins x = some (.type id)) (ha : PA X (e :: es) (upA X.K C W was)) (hn : x ≠ "__name__") (hdb : (x == ("__debug__" : Str)) = false)
    (he : starEach (e :: es) X.env = (false, eval e X.env) :: starEach es X.env) (hpl : (backTo pos (starEach es X.env)).any (·.1) = false) : PE X (.Call (.Name x p) (e :: es) [] pos) (upE X.K C W (wCB g was)) := by
  obtain ⟨r, h1, h2⟩ := hc
  exact PE.imp (pe_callTy h1 hg hm hv ha hn hdb he hpl) (up_cb0 h2)
theorem RepL.one {K : PySem.W.Frag} {F : Hp} {d : D} {vs : List V} (h : RepL K C F [d] vs) : ∃ v, vs = [v] ∧ Rep K C F d v := by
  unfold RepL at h
  obtain ⟨x, r, e, h1, h2⟩ := h
  unfold RepL at h2
  subst h2
  exact ⟨x, e, h1⟩
theorem RepL.two {K : PySem.W.Frag} {F : Hp} {d d2 : D} {vs : List V} (h : RepL K C F [d, d2] vs) : ∃ v v2, vs = [v, v2] ∧ Rep K C F d v ∧ Rep K C F d2 v2 := by
  unfold RepL at h
  obtain ⟨x, r, e, h1, h2⟩ := h
  obtain ⟨v, e2, h3⟩ := h2.one
  subst e2
  exact ⟨x, v, e, h1, h3⟩
def gLen : GC := fun xs μ Q => ∃ x, xs = [x] ∧ ((∃ ds, getS μ x = some ds ∧ Q (.int ds.length) μ) ∨ (∃ s, x = .str s ∧ s.length ≤ sizeLine ∧ Q (.int s.length) μ) ∨ (∃ ks, getK μ x = some ks ∧ Q (.int ks.length) μ))
theorem call_lenR : CallR X (.builtin "len") (fun xs H Q => ∃ a kvs, xs = [V.ref a] ∧ Rd H a (.dK kvs) ∧ Q (.int kvs.length) H) := by
  intro pins s σ H xs us Q I r h
  obtain ⟨a, kvs, rfl, ha, q⟩ := h
  obtain ⟨u, rfl, ru⟩ := vals1 r
  cases ru
  exact d_len I ha fun t s' I' => ⟨.int kvs.length, H, I', ⟨t, rfl⟩, q⟩
theorem CallR.or {f : Value} {r r' : List V → Hp → VK → Prop} (h : CallR X f r) (h' : CallR X f r') : CallR X f (fun xs H Q => r xs H Q ∨ r' xs H Q) := by
  intro pins s σ H xs us Q I rx q
  rcases q with q | q
  · exact h pins s σ H xs us Q I rx q
  · exact h' pins s σ H xs us Q I rx q
theorem cad_len : CallD X C (.builtin "len") gLen := ⟨_, CallR.or call_len call_lenR, fun L F μ H xs vs Q0 Q wd rx q uq => by
  obtain ⟨x, rfl, q⟩ := q
  obtain ⟨v, rfl, r⟩ := rx.one
  rcases q with ⟨ds, e, q⟩ | ⟨s, rfl, hl, q⟩ | ⟨ks, e, q⟩
  · obtain ⟨p, ys, rfl, hp, rl⟩ := wd.getS r e
    refine .inl ⟨_, ds.length, rfl, ?_, uq _ _ q F H _ (Sub.refl F) wd .ofInt⟩
    rcases hp with hp | hp
    · exact .inl ⟨ys, hp, rl.len.symm⟩
    · exact .inr ⟨ys, hp, rl.len.symm⟩
  · cases r.str
    exact .inl ⟨_, s.length, rfl, ⟨hl, rfl⟩, uq _ _ q F H _ (Sub.refl F) wd .ofInt⟩
  · obtain ⟨p, ys, rfl, hp, rk⟩ := wd.getK r e
    refine .inr ⟨p, ys, rfl, hp, ?_⟩
    rw [rk.len]
    exact uq _ _ q F H _ (Sub.refl F) wd .ofInt⟩
def gAbs : GC := fun xs μ Q => ∃ i, xs = [.int i] ∧ Q (.int (if i < 0 then -i else i)) μ
theorem cad_abs : CallD X C (.builtin "abs") gAbs := ⟨_, call_abs, fun L F μ H xs vs Q0 Q wd rx q uq => by
  obtain ⟨x, rfl, q⟩ := q
  obtain ⟨v, rfl, r⟩ := rx.one
  exact ⟨x, by rw [r.int], uq _ _ q F H _ (Sub.refl F) wd .ofInt⟩⟩
def gMax : GC := fun xs μ Q => ∃ i j, xs = [.int i, .int j] ∧ Q (.int (if j > i then j else i)) μ
theorem cad_max (hc : X.calm = true) : CallD X C (.builtin "max") gMax := ⟨_, call_max2 hc, fun L F μ H xs vs Q0 Q wd rx q uq => by
  obtain ⟨i, j, rfl, q⟩ := q
  obtain ⟨v, u, rfl, r, r2⟩ := rx.two
  exact ⟨i, j, by rw [r.int, r2.int], uq _ _ q F H _ (Sub.refl F) wd .ofInt⟩⟩
def gMin : GC := fun xs μ Q => ∃ i j, xs = [.int i, .int j] ∧ Q (.int (if j < i then j else i)) μ
theorem cad_min (hc : X.calm = true) : CallD X C (.builtin "min") gMin := ⟨_, call_min2 hc, fun L F μ H xs vs Q0 Q wd rx q uq => by
  obtain ⟨i, j, rfl, q⟩ := q
  obtain ⟨v, u, rfl, r, r2⟩ := rx.two
  exact ⟨i, j, by rw [r.int, r2.int], uq _ _ q F H _ (Sub.refl F) wd .ofInt⟩⟩
def gInt : GC := fun xs μ Q => (∃ i, xs = [.int i] ∧ Q (.int i) μ) ∨ (∃ b, xs = [.bl b] ∧ Q (.int (if b then 1 else 0)) μ) ∨ (∃ s n, xs = [.str s] ∧ PySem.intText? s = some n ∧ s.length ≤ 640 ∧ Q (.int n) μ)
theorem cad_int : CallD X C (.type "int") gInt := ⟨_, CallR.or call_int1 call_int_str, fun L F μ H xs vs Q0 Q wd rx q uq => by
  rcases q with ⟨i, rfl, q⟩ | ⟨i, rfl, q⟩ | ⟨i, n, rfl, h1, h2, q⟩
  · obtain ⟨v, rfl, r⟩ := rx.one
    exact .inl (.inl ⟨i, by rw [r.int], uq _ _ q F H _ (Sub.refl F) wd .ofInt⟩)
  · obtain ⟨v, rfl, r⟩ := rx.one
    exact .inl (.inr ⟨i, by rw [r.bl], uq _ _ q F H _ (Sub.refl F) wd .ofInt⟩)
  · obtain ⟨v, rfl, r⟩ := rx.one
    exact .inr ⟨i, n, by rw [r.str], h1, h2, uq _ _ q F H _ (Sub.refl F) wd .ofInt⟩⟩
/-- list(x): never changed | that may change -/
def gList : GC := fun xs μ Q => ∃ x ds, xs = [x] ∧ getS μ x = some ds ∧ Q (.lst ds) μ
def gListM : GC := fun xs μ Q => ∃ x ds, xs = [x] ∧ getS μ x = some ds ∧ ∀ a, μ a = none → Q (.raw a) (mset μ a (.lst ds))
theorem cad_list : CallD X C (.type "list") gList := ⟨_, call_list_of, fun L F μ H xs vs Q0 Q wd rx q uq => by
  obtain ⟨x, ds, rfl, e, q⟩ := q
  obtain ⟨v, rfl, r⟩ := rx.one
  obtain ⟨p, ys, rfl, hp, rl⟩ := wd.getS r e
  refine ⟨p, ys, rfl, hp, fun l hl => ?_⟩
  have hf := (wd.fresh hl).2
  exact uq _ _ q (upd F l (.lst ys)) _ _ (Sub.new hf) (wd.frz hl) (.ofLst upd_same (rl.mono (Sub.new hf)))⟩
theorem cad_listM : CallD X C (.type "list") gListM := ⟨_, call_list_of, fun L F μ H xs vs Q0 Q wd rx q uq => by
  obtain ⟨x, ds, rfl, e, q⟩ := q
  obtain ⟨v, rfl, r⟩ := rx.one
  obtain ⟨p, ys, rfl, hp, rl⟩ := wd.getS r e
  refine ⟨p, ys, rfl, hp, fun l hl => ?_⟩
  exact uq _ _ (q l (wd.fresh hl).1) F _ _ (Sub.refl F) (wd.new hl ⟨ys, upd_same, rl⟩) .ofRaw⟩
def gTuple : GC := fun xs μ Q => ∃ x ds, xs = [x] ∧ ((getL μ x = some ds ∨ x = .tup ds) ∧ Q (.tup ds) μ)
theorem cad_tuple : CallD X C (.type "tuple") gTuple := ⟨_, call_tuple_of, fun L F μ H xs vs Q0 Q wd rx q uq => by
  obtain ⟨x, ds, rfl, e, q⟩ := q
  obtain ⟨v, rfl, r⟩ := rx.one
  rcases e with e | rfl
  rotate_left
  · obtain ⟨p, ys, rfl, hp, rl⟩ := r.tupP
    exact ⟨p, ys, rfl, .inr ⟨wd.sub.sqT (.of hp), uq _ _ q F H _ (Sub.refl F) wd (.ofTup hp rl)⟩⟩
  · obtain ⟨p, ys, rfl, hp, rl⟩ := wd.getL r e
    refine ⟨p, ys, rfl, .inl ⟨hp, fun l hl => ?_⟩⟩
    have hf := (wd.fresh hl).2
    exact uq _ _ q (upd F l (.tup ys)) _ _ (Sub.new hf) (wd.frz hl) (.ofTup upd_same (rl.mono (Sub.new hf)))⟩
/-- the bools of a list -/
def bools : List D → Option (List Bool)
  | [] => some []
  | .bl b :: ds => (bools ds).map (b :: ·)
  | _ :: _ => none
theorem RepL.bools {K : PySem.W.Frag} {F : Hp} : ∀ {ds : List D} {xs : List V} {bs : List Bool}, RepL K C F ds xs → T2.bools ds = some bs → xs = bs.map V.bl
  | [], _, bs, h, e => by cases e; unfold RepL at h; exact h
  | d :: ds, _, bs, h, e => by
    unfold RepL at h
    obtain ⟨x, r, e', h1, h2⟩ := h
    cases d with
    | bl b =>
      simp only [T2.bools] at e
      cases q : T2.bools ds with
      | none => rw [q] at e; cases e
      | some cs =>
        rw [q] at e
        cases e
        rw [e', h1.bl, h2.bools q]
        rfl
    | _ => cases e
def gAll : GC := fun xs μ Q => ∃ x ds bs, xs = [x] ∧ getL μ x = some ds ∧ bools ds = some bs ∧ Q (.bl (bs.all id)) μ
def gAny : GC := fun xs μ Q => ∃ x ds bs, xs = [x] ∧ getL μ x = some ds ∧ bools ds = some bs ∧ Q (.bl (bs.any id)) μ
theorem cad_all (hc : X.calm = true) : CallD X C (.builtin "all") gAll := ⟨_, cr_all hc, fun L F μ H xs vs Q0 Q wd rx q uq => by
  obtain ⟨x, ds, bs, rfl, e, eb, q⟩ := q
  obtain ⟨v, rfl, r⟩ := rx.one
  obtain ⟨p, ys, rfl, hp, rl⟩ := wd.getL r e
  exact ⟨p, bs, rfl, rl.bools eb ▸ hp, uq _ _ q F H _ (Sub.refl F) wd .ofBl⟩⟩
theorem cad_any (hc : X.calm = true) : CallD X C (.builtin "any") gAny := ⟨_, cr_any hc, fun L F μ H xs vs Q0 Q wd rx q uq => by
  obtain ⟨x, ds, bs, rfl, e, eb, q⟩ := q
  obtain ⟨v, rfl, r⟩ := rx.one
  obtain ⟨p, ys, rfl, hp, rl⟩ := wd.getL r e
  exact ⟨p, bs, rfl, rl.bools eb ▸ hp, uq _ _ q F H _ (Sub.refl F) wd .ofBl⟩⟩
end
end T2

set_option maxRecDepth 100000
set_option maxHeartbeats 4000000
namespace T2
open PySem PySem.Spec PyProof.Rows L2
section
variable {X : Cx} {C : CT} {W : WX} {a b c e o : Expr} {es : List Expr} {wa wb wc wo : WE} {was wks : WA} {p pos apos cpos p2 : Pos} {x : Str}
/-! ### isinstance with the built-in types -/
inductive Ty | int | bool | str | list | tuple | dict
def Ty.s : Ty → String
  | .int => "int" | .bool => "bool" | .str => "str" | .list => "list" | .tuple => "tuple" | .dict => "dict"
def tyn (μ : Mu) : D → Option String
  | .non => some "NoneType"
  | .bl _ => some "bool"
  | .int _ => some "int"
  | .str _ => some "str"
  | .lst _ => some "list"
  | .tup _ => some "tuple"
  | .ctp _ => some "tuple"
  | .dct _ => some "dict"
  | .dcf _ => some "dict"
  | .raw a => match μ a with
    | some (.lst _) => some "list"
    | some (.dct _) => some "dict"
    | _ => none
  | _ => none
def isTy : String → Ty → Bool
  | "bool", .int => true
  | s, t => s == t.s
theorem isTy_ok : ∀ s ∈ ["NoneType", "bool", "int", "str", "list", "tuple", "dict"], ∀ t : Ty, kitB s t.s = some (isTy s t) := by
  intro s hs t
  simp only [List.mem_cons, List.not_mem_nil, or_false] at hs
  rcases hs with rfl | rfl | rfl | rfl | rfl | rfl | rfl <;> cases t <;> decide +kernel
theorem tyn_mem {μ : Mu} {d : D} {s : String} (h : tyn μ d = some s) : s ∈ ["NoneType", "bool", "int", "str", "list", "tuple", "dict"] := by
  cases d with
  | raw a =>
    simp only [tyn] at h
    split at h <;> first | (cases h; decide) | cases h
  | scr a => cases h
  | obj a b => cases h
  | exc a ca dx c fs => cases h
  | _ => cases h; decide
theorem Wd.tyx {K : PySem.W.Frag} {F H : Hp} {μ : Mu} {d : D} {v : V} {s : String} (wd : Wd K C L F μ H) (r : Rep K C F d v) (h : tyn μ d = some s) : TyX K H v (.type s) := by
  cases d with
  | non => cases h; cases r.non; exact .base .non
  | bl b => cases h; cases r.bl; exact .base (.bl _)
  | int b => cases h; cases r.int; exact .base (.int _)
  | str b => cases h; cases r.str; exact .base (.str _)
  | lst b => cases h; obtain ⟨a, xs, rfl, q, _⟩ := r.lst; exact .base (.lst (wd.sub _ _ q))
  | tup b =>
    cases h
    obtain ⟨a, xs, rfl, q, _⟩ := r.tup
    rcases q with (q | ⟨o, q⟩) | ⟨o, its, n, q, cl, _⟩
    · exact .base (.tup (wd.sub _ _ q))
    · exact .fTuple (wd.sub _ _ q)
    · exact .kTuple q cl
  | ctp b =>
    cases h
    obtain ⟨a, xs, rfl, q, _⟩ := r.ctp
    rcases q with (q | ⟨o, q⟩) | ⟨o, its, n, q, cl, _⟩
    · exact .base (.tup (wd.sub _ _ q))
    · exact .fTuple (wd.sub _ _ q)
    · exact .kTuple q cl
  | dct b => cases h; obtain ⟨a, xs, rfl, q, _⟩ := r.dct; exact .base (.dK (wd.sub _ _ q))
  | dcf b => cases h; obtain ⟨a, o, xs, rfl, q, _⟩ := r.dcf; exact .fDict (wd.sub _ _ q)
  | raw a =>
    cases r.raw
    simp only [tyn] at h
    split at h
    · rename_i e; cases h; obtain ⟨xs, q, _⟩ := wd.raw e; exact .base (.lst q)
    · rename_i e; cases h; obtain ⟨xs, q, _⟩ := wd.rawK e; exact .base (.dK q)
    · cases h
  | scr a => cases h
  | obj a b => cases h
  | exc a ca dx c fs => cases h
def wIsi (t : Ty) (wa : WE) : WE := fun ρ μ Q E => wa ρ μ (fun d μ1 => ∃ s, tyn μ1 d = some s ∧ Q (.bl (isTy s t)) μ1) E
theorem up_isi {t : Ty} {tv : Str} {p3 : Pos} (hg : Gl X "isinstance") (hm : X.mg "isinstance" = none) (ha : PE X a (upE X.K C W wa)) (ht : PE X (.Name tv p3) (tC (.ty t.s)))
    (he : starEach [a, .Name tv p3] X.env = (false, eval a X.env) :: starEach [.Name tv p3] X.env) :
    PE X (.Call (.Name "isinstance" p) [a, .Name tv p3] [] pos) (upE X.K C W (wIsi t wa)) := by
  have h := pe_callB (pos := pos) (p := p) call_isi hg hm (by decide +kernel) (pa_cons ha (pa_cons ht pa_nil) he) (by decide) (by decide) he rfl
  refine PE.imp h fun σ H Q ⟨L, F, ρ, μ, Q0, E0, rl, q, uq, ux⟩ => ?_
  refine ⟨L, F, ρ, μ, _, E0, rl, q, fun d1 μ1 q1 F1 H1 v1 s1 w1 r1 => ?_, ux⟩
  obtain ⟨s, hs, q⟩ := q1
  exact ⟨v1, .ty t.s, .type s, .type t.s, isTy s t, rfl, .ty _, w1.tyx r1 hs, kit_ty (isTy_ok s (tyn_mem hs) t), uq _ _ q F1 H1 _ s1 w1 .ofBl⟩

/-! ### slices -/
def cutD (xs : List D) (lo hi : Option Int) : List D := (xs.drop (HT.sIx xs.length 0 lo)).take (HT.sIx xs.length xs.length hi - HT.sIx xs.length 0 lo)
abbrev WO := Env → Mu → (Option Int → Mu → Prop) → PX → Prop
def wNoP : WO := fun _ μ Q _ => Q none μ
def wPart (wa : WE) : WO := fun ρ μ Q E => wa ρ μ (fun d μ1 => ∃ i, d = .int i ∧ Q (some i) μ1) E
def upO (K : PySem.W.Frag) (C : CT) (W : WX) (w : WO) : TO := fun σ H Q => ∃ L F ρ μ Q0 E0, Rl K C L F ρ μ σ H ∧ w ρ μ Q0 E0 ∧ (∀ b μ', Q0 b μ' → ∀ F' H', Sub F F' → Wd K C L F' μ' H' → Q b H') ∧ upX K C L F σ E0 W
theorem PO.imp {e : Option Expr} {t t' : TO} (h : PO X e t) (i : ∀ σ H Q, t' σ H Q → t σ H Q) : PO X e t' := ⟨fun pins s σ H Q I q => h.run pins s σ H Q I (i σ H Q q)⟩
theorem up_noP : PO X none (upO X.K C W wNoP) := PO.imp po_none fun σ H Q ⟨L, F, ρ, μ, Q0, E0, rl, q, uq, ux⟩ => uq none μ q F H (Sub.refl F) rl.wd
theorem up_part (ha : PE X a (upE X.K C W wa)) : PO X (some a) (upO X.K C W (wPart wa)) := PO.imp (po_some ha) fun σ H Q ⟨L, F, ρ, μ, Q0, E0, rl, q, uq, ux⟩ => by
  refine ⟨L, F, ρ, μ, _, E0, rl, q, fun d1 μ1 q1 F1 H1 v1 s1 w1 r1 => ?_, ux⟩
  obtain ⟨i, rfl, q⟩ := q1
  exact ⟨i, r1.int, uq _ _ q F1 H1 s1 w1⟩
theorem RepL.drop {K : PySem.W.Frag} {F : Hp} : ∀ {ds : List D} {xs : List V} (n : Nat), RepL K C F ds xs → RepL K C F (ds.drop n) (xs.drop n)
  | _, _, 0, h => h
  | [], _, n + 1, h => by unfold RepL at h; subst h; exact .nil
  | d :: ds, _, n + 1, h => by
    unfold RepL at h
    obtain ⟨x, r, e, h1, h2⟩ := h
    subst e
    exact RepL.drop n h2
theorem RepL.take {K : PySem.W.Frag} {F : Hp} : ∀ {ds : List D} {xs : List V} (n : Nat), RepL K C F ds xs → RepL K C F (ds.take n) (xs.take n)
  | _, _, 0, h => .nil
  | [], _, n + 1, h => by unfold RepL at h; subst h; exact .nil
  | d :: ds, _, n + 1, h => by
    unfold RepL at h
    obtain ⟨x, r, e, h1, h2⟩ := h
    subst e
    exact .cons h1 (RepL.take n h2)
theorem RepL.cut {K : PySem.W.Frag} {F : Hp} {ds : List D} {xs : List V} (h : RepL K C F ds xs) (lo hi : Option Int) : RepL K C F (cutD ds lo hi) (cutV xs lo hi) := by
  unfold cutD cutV
  rw [h.len]
  exact (h.drop _).take _
theorem RepL.reverse {K : PySem.W.Frag} {F : Hp} : ∀ {ds : List D} {xs : List V}, RepL K C F ds xs → RepL K C F ds.reverse xs.reverse
  | [], _, h => by unfold RepL at h; subst h; exact .nil
  | d :: ds, _, h => by
    unfold RepL at h
    obtain ⟨x, r, e, h1, h2⟩ := h
    subst e
    rw [List.reverse_cons, List.reverse_cons]
    exact (RepL.reverse h2).append (.cons h1 .nil)
/-- x[::-1] -/
def gRev : G1 := fun x μ Q => ∃ ds, getL μ x = some ds ∧ Q (.lst ds.reverse) μ
theorem up_rev {k p1 p3 : _} (ha : PE X a (upE X.K C W wa)) : PE X (.Subscript a (.Slice none none (some (.UnaryOp .USub (.Constant (.int 1) k p1) p2)) p3) pos) (upE X.K C W (wUn gRev wa)) :=
  PE.imp (pe_revL ha) fun σ H Q ⟨L, F, ρ, μ, Q0, E0, rl, q, uq, ux⟩ => by
    refine ⟨L, F, ρ, μ, _, E0, rl, q, fun d1 μ1 q1 F1 H1 v1 s1 w1 r1 => ?_, ux⟩
    obtain ⟨ds, e, q⟩ := q1
    obtain ⟨p, ys, rfl, hp, rl'⟩ := w1.getL r1 e
    refine ⟨p, ys, rfl, hp, fun l hl => ?_⟩
    have hf := (w1.fresh hl).2
    exact uq _ _ q (upd F1 l (.lst ys.reverse)) _ _ (s1.trans (Sub.new hf)) (w1.frz hl) (.ofLst upd_same (rl'.reverse.mono (Sub.new hf)))
/-- x[lo:hi] -/
def gSl : D → Option Int → Option Int → Mu → PQ → Prop := fun x lo hi μ Q =>
  (∃ s, x = .str s ∧ s.length ≤ sizeLine ∧ Q (.str (cutS s lo hi)) μ) ∨ (∃ ds, getL μ x = some ds ∧ Q (.lst (cutD ds lo hi)) μ) ∨ (∃ ds, x = .tup ds ∧ Q (.tup (cutD ds lo hi)) μ)
def wSl (g : D → Option Int → Option Int → Mu → PQ → Prop) (wa : WE) (wl wh : WO) : WE := fun ρ μ Q E => wa ρ μ (fun x μ1 => wl ρ μ1 (fun lo μ2 => wh ρ μ2 (fun hi μ3 => g x lo hi μ3 Q) E) E) E
theorem up_sl {lo hi : Option Expr} {wl wh : WO} (ha : PE X a (upE X.K C W wa)) (hl : PO X lo (upO X.K C W wl)) (hh : PO X hi (upO X.K C W wh)) : PE X (.Subscript a (.Slice lo hi none p2) pos) (upE X.K C W (wSl gSl wa wl wh)) :=
  PE.imp (pe_slice (sl_str.or (sl_list.or sl_tupA)) ha hl hh) fun σ H Q ⟨L, F, ρ, μ, Q0, E0, rl, q, uq, ux⟩ => by
    refine ⟨L, F, ρ, μ, _, E0, rl, q, fun d1 μ1 q1 F1 H1 v1 s1 w1 r1 => ?_, ux⟩
    refine ⟨L, F1, ρ, μ1, _, E0, rl.to s1 w1, q1, fun lo μ2 q2 F2 H2 s2 w2 => ?_, ux.mono s1⟩
    refine ⟨L, F2, ρ, μ2, _, E0, rl.to (s1.trans s2) w2, q2, fun hi μ3 q3 F3 H3 s3 w3 => ?_, ux.mono (s1.trans s2)⟩
    have r3 := r1.mono (s2.trans s3)
    have uq3 := uq.mono ((s1.trans s2).trans s3)
    rcases q3 with ⟨s, rfl, h, q⟩ | ⟨ds, e, q⟩ | ⟨ds, rfl, q⟩
    · exact .inl ⟨s, r3.str, h, uq3 _ _ q F3 H3 _ (Sub.refl _) w3 .ofStr⟩
    · obtain ⟨p, ys, rfl, hp, rl'⟩ := w3.getL r3 e
      refine .inr (.inl ⟨p, ys, rfl, hp, fun l hl => ?_⟩)
      have hf := (w3.fresh hl).2
      exact uq3 _ _ q (upd F3 l (.lst (cutV ys lo hi))) _ _ (Sub.new hf) (w3.frz hl) (.ofLst upd_same ((rl'.cut lo hi).mono (Sub.new hf)))
    · obtain ⟨p, ys, rfl, hp, rl'⟩ := r3.tupP
      refine .inr (.inr ⟨p, ys, rfl, w3.sub.sqT (.of hp), fun hw => ?_, fun _ l hl => ?_⟩)
      · have ec : cutD ds lo hi = ds := by
          unfold cutD
          rw [← rl'.len, hw.1, hw.2, List.drop_zero, Nat.sub_zero]
          exact List.take_of_length_le (Nat.le_of_eq rl'.len.symm)
        rw [ec] at q
        exact uq3 _ _ q F3 H3 _ (Sub.refl _) w3 (.ofTup hp rl')
      · have hf := (w3.fresh hl).2
        exact uq3 _ _ q (upd F3 l (.tup (cutV ys lo hi))) _ _ (Sub.new hf) (w3.frz hl) (.ofTup upd_same ((rl'.cut lo hi).mono (Sub.new hf)))

/-! ### methods of built-in types -/
abbrev GM := D → List D → Mu → PQ → Prop
/-- the built-in type whose method is asked; tuples of the program only by their own rule -/
def tym (μ : Mu) : D → Option String
  | .str _ => some "str"
  | .dct _ => some "dict"
  | .raw a => match μ a with
    | some (.lst _) => some "list"
    | some (.dct _) => some "dict"
    | _ => none
  | .lst _ => some "list"
  | _ => none
theorem Wd.tyv {K : PySem.W.Frag} {F H : Hp} {μ : Mu} {d : D} {v : V} {s : String} (wd : Wd K C L F μ H) (r : Rep K C F d v) (h : tym μ d = some s) : tyV K s v H := by
  cases d with
  | str b => cases h; cases r.str; rfl
  | lst b => cases h; obtain ⟨a, xs, rfl, q, _⟩ := r.lst; exact .inl ⟨rfl, xs, .of (wd.sub _ _ q)⟩
  | dct b => cases h; obtain ⟨a, xs, rfl, q, _⟩ := r.dct; exact .inr (.inr (.inl ⟨rfl, .inl ⟨xs, wd.sub _ _ q⟩⟩))
  | raw a =>
    cases r.raw
    simp only [tym] at h
    split at h
    · rename_i e; cases h; obtain ⟨xs, q, _⟩ := wd.raw e; exact .inl ⟨rfl, xs, .of q⟩
    · rename_i e; cases h; obtain ⟨xs, q, _⟩ := wd.rawK e; exact .inr (.inr (.inl ⟨rfl, .inl ⟨xs, q⟩⟩))
    · cases h
  | _ => cases h
def MtD (X : Cx) (C : CT) (id : String) (g : GM) : Prop :=
  ∃ r, MtR X id r ∧ ∀ L F μ H x v xs vs Q0 Q, Wd X.K C L F μ H → Rep X.K C F x v → RepL X.K C F xs vs → g x xs μ Q0 → upQ X.K C L F Q0 Q → r v vs H Q
def wMt (T : String) (g : GM) (wo : WE) (was : WA) : WE := fun ρ μ Q E => wo ρ μ (fun x μ1 => tym μ1 x = some T ∧ was ρ μ1 (fun xs μ2 => g x xs μ2 Q) E) E
theorem up_bm {T id : String} {name : Str} {g : GM} (pa : PlainAttrs T) (slot : Slot T name id) (hty : typeOf (.builtin id) = pure (.type "method_descriptor")) (hm : MtD X C id g) (ho : PE X o (upE X.K C W wo)) (ha : PA X (e :: es) (upA X.K C W was))
    (hbase : attributeBase o name X.env (eval o X.env) = eval o X.env)
    (hfew : ((backTo cpos (starEach (e :: es) X.env)).all (fun x => !x.1) && (backToKw cpos (keywordEach [] X.env)).all (fun x => x.1.isSome)
      && decide ((e :: es).length + ([] : List Keyword).length + (if ([] : List Keyword).isEmpty then 0 else 1) < 30)) = true)
    (hline : (apos.endLine == cpos.line) = true) (hs : starEach (e :: es) X.env = (false, eval e X.env) :: starEach es X.env) (hplain : (backTo cpos (starEach es X.env)).any (·.1) = false) :
    PE X (.Call (.Attribute o name apos) (e :: es) [] cpos) (upE X.K C W (wMt T g wo was)) := by
  obtain ⟨r, h1, h2⟩ := hm
  refine PE.imp (pe_bm pa slot hty h1 ho ha hbase hfew hline hs hplain) fun σ H Q ⟨L, F, ρ, μ, Q0, E0, rl, q, uq, ux⟩ => ?_
  refine ⟨L, F, ρ, μ, _, E0, rl, q, fun d1 μ1 q1 F1 H1 v1 s1 w1 r1 => ⟨w1.tyv r1 q1.1, ?_⟩, ux⟩
  refine ⟨L, F1, ρ, μ1, _, E0, rl.to s1 w1, q1.2, fun ds μ2 q2 F2 H2 vs s2 w2 r2 => ?_, ux.mono s1⟩
  exact h2 L F2 μ2 H2 d1 v1 ds vs Q0 Q w2 (r1.mono s2) r2 q2 (uq.mono (s1.trans s2))
theorem up_bm0 {T id : String} {name : Str} {g : GM} (pa : PlainAttrs T) (slot : Slot T name id) (hty : typeOf (.builtin id) = pure (.type "method_descriptor")) (hm : MtD X C id g) (ho : PE X o (upE X.K C W wo))
    (hbase : attributeBase o name X.env (eval o X.env) = eval o X.env) (hline : (apos.endLine == cpos.line) = true) : PE X (.Call (.Attribute o name apos) [] [] cpos) (upE X.K C W (wMt T g wo wNil)) := by
  obtain ⟨r, h1, h2⟩ := hm
  refine PE.imp (pe_bm0 pa slot hty h1 ho hbase hline) fun σ H Q ⟨L, F, ρ, μ, Q0, E0, rl, q, uq, ux⟩ => ?_
  refine ⟨L, F, ρ, μ, _, E0, rl, q, fun d1 μ1 q1 F1 H1 v1 s1 w1 r1 => ⟨w1.tyv r1 q1.1, ?_⟩, ux⟩
  exact h2 L F1 μ1 H1 d1 v1 [] [] Q0 Q w1 r1 .nil q1.2 (uq.mono s1)
def gAppend : GM := fun x xs μ Q => ∃ a ds d, x = .raw a ∧ xs = [d] ∧ μ a = some (.lst ds) ∧ ds.length < sizeLine ∧ Q .non (mset μ a (.lst (ds ++ [d])))
theorem mtd_append : MtD X C "list.append" gAppend := ⟨_, mt_append, fun L F μ H x v xs vs Q0 Q wd rx rv q uq => by
  obtain ⟨a, ds, d, rfl, rfl, hm, hl, q⟩ := q
  obtain ⟨u, rfl, ru⟩ := rv.one
  obtain ⟨ys, hy, ry⟩ := wd.raw hm
  refine ⟨a, ys, u, rx.raw, rfl, hy, by rw [ry.len]; exact hl, ?_⟩
  exact uq _ _ q F _ _ (Sub.refl F) (wd.put hm ⟨_, upd_same, ry.append (.cons ru .nil)⟩) .ofNon⟩
def gGet : GM := fun x xs μ Q => ∃ ks y k, getK μ x = some ks ∧ keyOf y = some k ∧ ((xs = [y] ∧ Q ((look ks k).getD .non) μ) ∨ (∃ z, xs = [y, z] ∧ Q ((look ks k).getD z) μ))
theorem mt_get (hu : X.A.units + 1 < cLine) : MtR X "dict.get" (fun x xs H Q => ∃ a y o, x = .ref a ∧ DGet H a y o ∧ ((xs = [y] ∧ Q (o.getD .non) H) ∨ ∃ z, xs = [y, z] ∧ Q (o.getD z) H)) := by
  intro pins s σ H x xs v us Q I rx rv h
  obtain ⟨a, y, o, rfl, g, h⟩ := h
  obtain rfl : v = Value.ref a := rx
  rcases h with ⟨rfl, q⟩ | ⟨z, rfl, q⟩
  · obtain ⟨u, rfl, ru⟩ := vals1 rv
    exact d_get1 hu I g ru fun w' s' I' rw' => ⟨_, H, I', rw', q⟩
  · obtain ⟨u, u2, rfl, ru, ru2⟩ := vals2 rv
    exact d_get2 hu I g ru ru2 fun w' s' I' rw' => ⟨_, H, I', rw', q⟩
theorem mtd_get (hu : X.A.units + 1 < cLine) : MtD X C "dict.get" gGet := ⟨_, mt_get hu, fun L F μ H x v xs vs Q0 Q wd rx rv q uq => by
  obtain ⟨ks, y, k, hk, hy, q⟩ := q
  obtain ⟨p, ys, rfl, hp, rk⟩ := wd.getK rx hk
  have hl := rk.look (k := k)
  rcases q with ⟨rfl, q⟩ | ⟨z, rfl, q⟩
  · obtain ⟨u, rfl, ru⟩ := rv.one
    cases keyOf_kV ru hy
    refine ⟨p, _, valV ys k, rfl, DGet.kR hp, .inl ⟨rfl, ?_⟩⟩
    cases e : look ks k with
    | none =>
      rw [hl.2 e]
      rw [e] at q
      exact uq _ _ q F H _ (Sub.refl F) wd .ofNon
    | some d =>
      obtain ⟨v, hv, rv⟩ := hl.1 d e
      rw [hv]
      rw [e] at q
      exact uq _ _ q F H _ (Sub.refl F) wd rv
  · obtain ⟨u, u2, rfl, ru, ru2⟩ := rv.two
    cases keyOf_kV ru hy
    refine ⟨p, _, valV ys k, rfl, DGet.kR hp, .inr ⟨u2, rfl, ?_⟩⟩
    cases e : look ks k with
    | none =>
      rw [hl.2 e]
      rw [e] at q
      exact uq _ _ q F H _ (Sub.refl F) wd ru2
    | some d =>
      obtain ⟨v, hv, rv⟩ := hl.1 d e
      rw [hv]
      rw [e] at q
      exact uq _ _ q F H _ (Sub.refl F) wd rv⟩

/-! ### dict displays -/
def kput (ks : List (Key × D)) (k : Key) (d : D) : List (Key × D) :=
  if (ks.any fun kv => decide (kv.1 = k)) = true then ks.map (fun kv => if kv.1 = k then (kv.1, d) else kv) else ks ++ [(k, d)]
def kmerge (ks more : List (Key × D)) : List (Key × D) := more.foldl (fun acc kv => kput acc kv.1 kv.2) ks
theorem RepK.append {K : PySem.W.Frag} {F : Hp} : ∀ {ds es : List (Key × D)} {xs ys : List (Key × V)}, RepK K C F ds xs → RepK K C F es ys → RepK K C F (ds ++ es) (xs ++ ys)
  | [], _, _, _, h, t => by unfold RepK at h; subst h; exact t
  | (k, d) :: ds, _, _, _, h, t => by
    unfold RepK at h
    obtain ⟨x, r, e', h1, h2⟩ := h
    subst e'
    have := h2.append t
    rw [List.cons_append, List.cons_append]
    unfold RepK
    exact ⟨_, _, rfl, h1, this⟩
theorem RepK.nil {K : PySem.W.Frag} {F : Hp} : RepK K C F [] [] := by unfold RepK; rfl
theorem RepK.cons {K : PySem.W.Frag} {F : Hp} {k : Key} {d : D} {v : V} {ds : List (Key × D)} {xs : List (Key × V)} (h : Rep K C F d v) (t : RepK K C F ds xs) : RepK K C F ((k, d) :: ds) ((k, v) :: xs) := by
  unfold RepK; exact ⟨v, xs, rfl, h, t⟩
theorem RepK.any {K : PySem.W.Frag} {F : Hp} {k : Key} : ∀ {ds : List (Key × D)} {xs : List (Key × V)}, RepK K C F ds xs → (xs.any fun kv => decide (kv.1 = k)) = ds.any fun kv => decide (kv.1 = k)
  | [], _, h => by unfold RepK at h; subst h; rfl
  | (k', d) :: ds, _, h => by
    unfold RepK at h
    obtain ⟨x, r, e', h1, h2⟩ := h
    subst e'
    rw [List.any_cons, List.any_cons, h2.any]
theorem RepK.mapput {K : PySem.W.Frag} {F : Hp} {k : Key} {d : D} {v : V} (rv : Rep K C F d v) : ∀ {ds : List (Key × D)} {xs : List (Key × V)}, RepK K C F ds xs →
    RepK K C F (ds.map fun kv => if kv.1 = k then (kv.1, d) else kv) (xs.map fun kv => if kv.1 = k then (kv.1, v) else kv)
  | [], _, h => by unfold RepK at h; subst h; exact .nil
  | (k', d') :: ds, _, h => by
    unfold RepK at h
    obtain ⟨x, r, e', h1, h2⟩ := h
    subst e'
    rw [List.map_cons, List.map_cons]
    by_cases hk : k' = k
    · simp only [hk, if_true]
      exact .cons rv (RepK.mapput rv h2)
    · simp only [hk, if_false]
      exact .cons h1 (RepK.mapput rv h2)
theorem RepK.put {K : PySem.W.Frag} {F : Hp} {k : Key} {d : D} {v : V} {ds : List (Key × D)} {xs : List (Key × V)} (h : RepK K C F ds xs) (rv : Rep K C F d v) : RepK K C F (kput ds k d) (putK xs k v) := by
  unfold kput putK
  rw [h.any]
  split
  · exact h.mapput rv
  · exact h.append (.cons rv .nil)
theorem RepK.merge {K : PySem.W.Frag} {F : Hp} : ∀ {es ds : List (Key × D)} {ys xs : List (Key × V)}, RepK K C F es ys → RepK K C F ds xs → RepK K C F (kmerge ds es) (mergeK xs ys)
  | [], _, _, _, h, t => by unfold RepK at h; subst h; exact t
  | (k, d) :: es, ds, _, xs, h, t => by
    unfold RepK at h
    obtain ⟨x, r, e', h1, h2⟩ := h
    subst e'
    unfold kmerge mergeK
    rw [List.foldl_cons, List.foldl_cons]
    exact RepK.merge h2 (t.put h1)
end
end T2

set_option maxRecDepth 100000
set_option maxHeartbeats 4000000
namespace T2
open PySem PySem.Spec PyProof.Rows L2

/-! ### what a loop walks -/
/-- J goes through ds, as long as g stands -/
structure SrcOk (K : PySem.W.Frag) (C : CT) (J : It) (F : Hp) (g : Mu → Prop) (ds : List D) : Prop where
  stop : ∀ L G μ H, Sub F G → Wd K C L G μ H → g μ → J.stop ds.length H
  go : ∀ (i : Nat) L G μ H, i < ds.length → Sub F G → Wd K C L G μ H → g μ → J.go i H
  yld : ∀ (i : Nat) L G μ H x H' d, Sub F G → Wd K C L G μ H → g μ → ds[i]? = some d → J.yld i H x H' → ∃ G', Sub G G' ∧ Wd K C L G' μ H' ∧ Rep K C G' d x
abbrev WI := Env → Mu → (List D → (Mu → Prop) → Mu → Prop) → PX → Prop
def upI (K : PySem.W.Frag) (C : CT) (W : WX) (wi : WI) : TI := fun σ H R => ∃ L F ρ μ Q0 E0, Rl K C L F ρ μ σ H ∧ wi ρ μ Q0 E0 ∧
  (∀ ds g μ', Q0 ds g μ' → ∀ F' H' J, Sub F F' → Wd K C L F' μ' H' → SrcOk K C J F' g ds → R J H') ∧ upX K C L F σ E0 W
theorem PI.imp {X : Cx} {tg e : Expr} {t t' : TI} (h : PI X tg e t) (i : ∀ σ H R, t' σ H R → t σ H R) : PI X tg e t' := ⟨fun pins s σ H Q I q => h.run pins s σ H Q I (i σ H Q q)⟩
theorem PG.imp {X : Cx} {tg : Expr} {t t' : TG} (h : PG X tg t) (i : ∀ v σ H R, t' v σ H R → t v σ H R) : PG X tg t' := ⟨fun pins s σ H v u Q I r q => h.run pins s σ H v u Q I r (i v σ H Q q)⟩
def iAny (K : PySem.W.Frag) (te : TE) : TI := fun σ H R => te σ H fun x H1 =>
  (∃ a, x = .ref a ∧ (∃ xs, SqL K H1 a xs) ∧ R (Itl K a) H1) ∨ (∃ a, x = .ref a ∧ (∃ xs, SqT K H1 a xs) ∧ R (Itt K a) H1) ∨ (∃ s, x = .str s ∧ R (Its s) H1) ∨ (∃ d o kvs, x = .ref d ∧ H1 d = some (.frz o (.dK kvs)) ∧ R (Itk d o kvs) H1)
theorem pi_any {X : Cx} {tg e : Expr} {te : TE} (he : PE X e te) : PI X tg e (iAny X.K te) := by
  constructor
  intro pins s σ H R I h
  refine thn (he.run pins s σ H _ I h) ?_
  rintro v s1 ⟨x, H1, I1, r1, hq⟩
  rcases hq with ⟨a, rfl, ⟨xs, hs⟩, q⟩ | ⟨a, rfl, ⟨xs, hs⟩, q⟩ | ⟨z, rfl, q⟩ | ⟨d, o, kvs, rfl, hd, q⟩
  · obtain rfl : v = Value.ref a := r1
    obtain ⟨its, _, pl, _⟩ := I1.list hs
    refine wpAny_pyIter_list pl.isList ?_
    have st : (fun (i : Nat) (h : Heap) => h.IsListIter s1.heap.objs.size a i) 0 (s1.heap.push { cls := .type "list_iterator", data := .fields #[.ref a, .int 0 0] }) := ⟨_, Heap.get?_push_size _ rfl, rfl, rfl⟩
    exact pi_one (tk := s1.toks) I1 _ (turn_list a _) st q
  · obtain rfl : v = Value.ref a := r1
    obtain ⟨its, _, pl, _⟩ := I1.tuple hs
    refine wpAny_pyIter_tuple (show s1.heap.IsTuple a its.toArray from pl) ?_
    exact pi_one (tk := s1.toks) I1 _ (turn_tuple a _) ⟨_, Heap.get?_push_size _ rfl, rfl, rfl⟩ q
  · obtain ⟨t, rfl⟩ := (show ∃ t, v = Value.str z t from r1)
    cases ha : z.cps.all (· < 128)
    · refine wpAny_pyIter_wide ha ?_
      exact pi_one (tk := s1.toks) I1 _ (turn_str _ z t "str_iterator" (.inr rfl)) ⟨_, Heap.get?_push_size _ rfl, rfl, rfl⟩ q
    · refine wpAny_pyIter_ascii ha ?_
      exact pi_one (tk := s1.toks) I1 _ (turn_str _ z t "str_ascii_iterator" (.inl rfl)) ⟨_, Heap.get?_push_size _ rfl, rfl, rfl⟩ q
  · obtain rfl : v = Value.ref d := r1
    obtain ⟨hs, hgd, hx, es, ep, vs, hdt, hsz, kv, hm⟩ := I1.frzK hd
    refine iter_keys hs hgd hx hdt (pi_one (tk := s1.toks) I1 _ (turn_keys _ hdt) ⟨_, Heap.get?_push_size _ rfl, rfl, ?_⟩ q)
    rw [hsz] <;> rfl
/-- the signs of a text -/
def signs (s : Str) : List D := s.cps.toList.map fun c => .str ⟨#[c]⟩
def keyD : Key → D
  | .inl i => .int i
  | .inr s => .str s
/-- what is gone through: its items, and what must stay for it -/
def wIt (wa : WE) : WI := fun ρ μ Q E => wa ρ μ (fun x μ1 => (∃ ds, getS μ1 x = some ds ∧ Q ds (fun μ' => getS μ' x = some ds) μ1) ∨ (∃ s, x = .str s ∧ Q (signs s) (fun _ => True) μ1) ∨ (∃ ks, x = .dcf ks ∧ Q (ks.map fun k => keyD k.1) (fun _ => True) μ1)) E
section
variable {X : Cx} {C : CT} {W : WX} {tg a b c e o : Expr} {es : List Expr} {wa wb wc wo : WE} {was wks : WA} {p pos apos cpos p2 : Pos} {x : Str}
theorem src_list {K : PySem.W.Frag} {F : Hp} {x : D} {ds : List D} {a : Addr} (r : Rep K C F x (.ref a)) (he : ∀ μ, T2.getS μ x = some ds → T2.getL μ x = some ds) : SrcOk K C (Itl K a) F (fun μ' => T2.getS μ' x = some ds) ds where
  stop := fun L G μ H s w h => by
    obtain ⟨p, xs, e1, e2, e3⟩ := w.getL (r.mono s) (he μ h)
    cases e1
    exact ⟨xs, e2, Nat.le_of_eq e3.len⟩
  go := fun i L G μ H hi s w h => by
    obtain ⟨p, xs, e1, e2, e3⟩ := w.getL (r.mono s) (he μ h)
    cases e1
    have hi' : i < xs.length := by rw [e3.len]; exact hi
    exact ⟨xs, xs[i], e2, List.getElem?_eq_getElem hi'⟩
  yld := fun i L G μ H v H' d s w h hd hy => by
    obtain ⟨p, xs, e1, e2, e3⟩ := w.getL (r.mono s) (he μ h)
    cases e1
    obtain ⟨rfl, hx⟩ := hy
    obtain ⟨u, hu, ru⟩ := e3.at hd
    have := (hx xs e2).symm.trans hu
    cases this
    exact ⟨G, Sub.refl G, w, ru⟩
theorem src_tup {K : PySem.W.Frag} {F : Hp} {ds : List D} {a : Addr} (r : Rep K C F (.tup ds) (.ref a)) {g : Mu → Prop} : SrcOk K C (Itt K a) F g ds where
  stop := fun L G μ H s w h => by
    obtain ⟨p, xs, e1, e2, e3⟩ := (r.mono s).tup
    cases e1
    exact ⟨xs, w.sub.sqT e2, Nat.le_of_eq e3.len⟩
  go := fun i L G μ H hi s w h => by
    obtain ⟨p, xs, e1, e2, e3⟩ := (r.mono s).tup
    cases e1
    have hi' : i < xs.length := by rw [e3.len]; exact hi
    exact ⟨xs, xs[i], w.sub.sqT e2, List.getElem?_eq_getElem hi'⟩
  yld := fun i L G μ H v H' d s w h hd hy => by
    obtain ⟨p, xs, e1, e2, e3⟩ := (r.mono s).tup
    cases e1
    obtain ⟨rfl, hx⟩ := hy
    obtain ⟨u, hu, ru⟩ := e3.at hd
    have := (hx xs (w.sub.sqT e2)).symm.trans hu
    cases this
    exact ⟨G, Sub.refl G, w, ru⟩
theorem src_ctp {K : PySem.W.Frag} {F : Hp} {ds : List D} {a : Addr} (r : Rep K C F (.ctp ds) (.ref a)) {g : Mu → Prop} : SrcOk K C (Itt K a) F g ds where
  stop := fun L G μ H s w h => by
    obtain ⟨p, xs, e1, e2, e3⟩ := (r.mono s).ctp
    cases e1
    exact ⟨xs, w.sub.sqT e2, Nat.le_of_eq e3.len⟩
  go := fun i L G μ H hi s w h => by
    obtain ⟨p, xs, e1, e2, e3⟩ := (r.mono s).ctp
    cases e1
    have hi' : i < xs.length := by rw [e3.len]; exact hi
    exact ⟨xs, xs[i], w.sub.sqT e2, List.getElem?_eq_getElem hi'⟩
  yld := fun i L G μ H v H' d s w h hd hy => by
    obtain ⟨p, xs, e1, e2, e3⟩ := (r.mono s).ctp
    cases e1
    obtain ⟨rfl, hx⟩ := hy
    obtain ⟨u, hu, ru⟩ := e3.at hd
    have := (hx xs (w.sub.sqT e2)).symm.trans hu
    cases this
    exact ⟨G, Sub.refl G, w, ru⟩
theorem src_str {K : PySem.W.Frag} {F : Hp} {z : Str} {g : Mu → Prop} : SrcOk K C (Its z) F g (signs z) where
  stop := fun L G μ H s w h => by
    show z.cps.size ≤ (signs z).length
    unfold signs
    rw [List.length_map, Array.length_toList]
    exact Nat.le_refl _
  go := fun i L G μ H hi s w h => by
    unfold signs at hi
    rw [List.length_map, Array.length_toList] at hi
    exact hi
  yld := fun i L G μ H v H' d s w h hd hy => by
    obtain ⟨rfl, c, hc, rfl⟩ := hy
    unfold signs at hd
    rw [List.getElem?_map, Array.getElem?_toList, hc] at hd
    cases hd
    exact ⟨G, Sub.refl G, w, .ofStr⟩
theorem rep_key {K : PySem.W.Frag} {F : Hp} : ∀ k : Key, Rep K C F (keyD k) (kV k)
  | .inl _ => .ofInt
  | .inr _ => .ofStr
theorem RepK.at_ {K : PySem.W.Frag} {F : Hp} : ∀ {ks : List (Key × D)} {xs : List (Key × V)} {i : Nat} {k : Key} {v : V}, RepK K C F ks xs → xs[i]? = some (k, v) → ∃ d, ks[i]? = some (k, d)
  | [], _, i, k, v, h, e => by unfold RepK at h; subst h; simp at e
  | (k', d') :: ks, _, 0, k, v, h, e => by
    unfold RepK at h
    obtain ⟨x, r, e', h1, h2⟩ := h
    subst e'
    cases e
    exact ⟨d', rfl⟩
  | (k', d') :: ks, _, i + 1, k, v, h, e => by
    unfold RepK at h
    obtain ⟨x, r, e', h1, h2⟩ := h
    subst e'
    exact RepK.at_ (i := i) h2 e
theorem src_keys {K : PySem.W.Frag} {F : Hp} {ks : List (Key × D)} {a : Addr} {o : Obj} {xs : List (Key × V)} (h : F a = some (.frz o (.dK xs))) (r : RepK K C F ks xs) : SrcOk K C (Itk a o xs) F (fun _ => True) (ks.map fun k => keyD k.1) where
  stop := fun L G μ H s w _ => ⟨w.sub _ _ (s _ _ h), by rw [List.length_map]; exact Nat.le_of_eq r.len⟩
  go := fun i L G μ H hi s w _ => ⟨w.sub _ _ (s _ _ h), by rw [r.len, ← List.length_map (fun k : Key × D => keyD k.1)]; exact hi⟩
  yld := fun i L G μ H v H' d s w _ hd hy => by
    obtain ⟨rfl, k, u, e, rfl⟩ := hy
    obtain ⟨d0, e0⟩ := r.at_ e
    rw [List.getElem?_map, e0] at hd
    cases hd
    exact ⟨G, Sub.refl G, w, rep_key k⟩
theorem up_it (ha : PE X a (upE X.K C W wa)) : PI X tg a (upI X.K C W (wIt wa)) := PI.imp (pi_any ha) fun σ H R ⟨L, F, ρ, μ, Q0, E0, rl, q, uq, ux⟩ => by
  refine ⟨L, F, ρ, μ, _, E0, rl, q, fun d1 μ1 q1 F1 H1 v1 s1 w1 r1 => ?_, ux⟩
  rcases q1 with ⟨ds, e, q⟩ | ⟨z, rfl, q⟩ | ⟨ks, rfl, q⟩
  · obtain ⟨p, xs, rfl, hp, rl'⟩ := w1.getS r1 e
    cases d1 with
    | tup es =>
      cases e
      obtain ⟨p', xs', e', hp', _⟩ := r1.tup
      cases e'
      exact .inr (.inl ⟨p, rfl, ⟨xs', w1.sub.sqT hp'⟩, uq _ _ _ q F1 H1 _ s1 w1 (src_tup r1)⟩)
    | ctp es =>
      cases e
      obtain ⟨p', xs', e', hp', _⟩ := r1.ctp
      cases e'
      exact .inr (.inl ⟨p, rfl, ⟨xs', w1.sub.sqT hp'⟩, uq _ _ _ q F1 H1 _ s1 w1 (src_ctp r1)⟩)
    | _ =>
      obtain ⟨p', xs', e', hp', _⟩ := w1.getL r1 (by first | exact e | (cases e))
      cases e'
      exact .inl ⟨p, rfl, ⟨xs', hp'⟩, uq _ _ _ q F1 H1 _ s1 w1 (src_list r1 fun μ h => h)⟩
  · cases r1.str
    exact .inr (.inr (.inl ⟨z, rfl, uq _ _ _ q F1 H1 _ s1 w1 src_str⟩))
  · obtain ⟨p, o, xs, rfl, hp, rk⟩ := r1.dcf
    exact .inr (.inr (.inr ⟨p, o, xs, rfl, w1.sub _ _ hp, uq _ _ _ q F1 H1 _ s1 w1 (src_keys hp rk)⟩))
/-- range(n), range(a, b) -/
def rngD (lo : Int) (n : Nat) : List D := (List.range n).map fun (i : Nat) => .int (lo + (i : Int))
theorem src_rng {K : PySem.W.Frag} {F : Hp} {lo : Int} {n : Nat} {g : Mu → Prop} : SrcOk K C (Itr lo n) F g (rngD lo n) where
  stop := fun L G μ H s w h => by
    show n ≤ (rngD lo n).length
    unfold rngD
    rw [List.length_map, List.length_range]
    exact Nat.le_refl _
  go := fun i L G μ H hi s w h => by
    unfold rngD at hi
    rw [List.length_map, List.length_range] at hi
    exact hi
  yld := fun i L G μ H v H' d s w h hd hy => by
    obtain ⟨rfl, rfl⟩ := hy
    unfold rngD at hd
    rw [List.getElem?_map] at hd
    cases e : (List.range n)[i]? with
    | none => rw [e] at hd; cases hd
    | some j =>
      rw [e] at hd
      cases hd
      obtain ⟨h1, h2⟩ := List.getElem?_eq_some_iff.mp e
      rw [List.getElem_range] at h2
      subst h2
      exact ⟨G, Sub.refl G, w, .ofInt⟩
def wRng1 (wa : WE) : WI := fun ρ μ Q E => wa ρ μ (fun d μ1 => ∃ j, d = .int j ∧ -(2 ^ 62) ≤ j ∧ j < 2 ^ 62 ∧ Q (rngD 0 j.toNat) (fun _ => True) μ1) E
def wRng2 (wa wb : WE) : WI := fun ρ μ Q E => wa ρ μ (fun d μ1 => wb ρ μ1 (fun d2 μ2 => ∃ i j, d = .int i ∧ d2 = .int j ∧ (-(2 ^ 62) ≤ i ∧ i < 2 ^ 62 ∧ -(2 ^ 62) ≤ j ∧ j < 2 ^ 62) ∧ Q (rngD i (j - i).toNat) (fun _ => True) μ2) E) E
theorem up_rng1 (hg : Gl X "range") (hm : X.mg "range" = none) (ha : PE X a (upE X.K C W wa)) (hs : starEach [a] X.env = [(false, eval a X.env)]) : PI X tg (.Call (.Name "range" p) [a] [] pos) (upI X.K C W (wRng1 wa)) :=
  PI.imp (pi_range1 hg hm (pa_cons ha pa_nil hs) hs) fun σ H R ⟨L, F, ρ, μ, Q0, E0, rl, q, uq, ux⟩ => by
    refine ⟨L, F, ρ, μ, _, E0, rl, q, fun d μ1 q1 F1 H1 v s1 w1 r1 => ?_, ux⟩
    obtain ⟨j, rfl, h1, h2, q⟩ := q1
    exact ⟨j, by rw [r1.int], h1, h2, uq _ _ _ q F1 H1 _ s1 w1 src_rng⟩
theorem up_rng2 (hg : Gl X "range") (hm : X.mg "range" = none) (ha : PE X a (upE X.K C W wa)) (hb : PE X b (upE X.K C W wb)) (hs : starEach [a, b] X.env = [(false, eval a X.env), (false, eval b X.env)]) (hs2 : starEach [b] X.env = [(false, eval b X.env)]) :
    PI X tg (.Call (.Name "range" p) [a, b] [] pos) (upI X.K C W (wRng2 wa wb)) :=
  PI.imp (pi_range2 hg hm (pa_cons ha (pa_cons hb pa_nil hs2) (by rw [hs, hs2])) hs hs2) fun σ H R ⟨L, F, ρ, μ, Q0, E0, rl, q, uq, ux⟩ => by
    refine ⟨L, F, ρ, μ, _, E0, rl, q, fun d μ1 q1 F1 H1 v s1 w1 r1 => ?_, ux⟩
    refine ⟨L, F1, ρ, μ1, _, E0, rl.to s1 w1, q1, fun d2 μ2 q2 F2 H2 v2 s2 w2 r2 => ?_, ux.mono s1⟩
    obtain ⟨i, j, rfl, rfl, hb, q⟩ := q2
    exact ⟨i, j, by rw [r1.int, r2.int], hb, uq _ _ _ q F2 H2 _ (s1.trans s2) w2 src_rng⟩

/-! ### targets -/
abbrev WG := D → Env → Mu → (Env → Prop) → Prop
def upG (K : PySem.W.Frag) (C : CT) (g : WG) : TG := fun v σ H Q => ∃ L F ρ μ d Q0, Rl K C L F ρ μ σ H ∧ Rep K C F d v ∧ g d ρ μ Q0 ∧ (∀ ρ', Q0 ρ' → ∀ σ', Rl K C L F ρ' μ σ' H → Q σ' H)
def wgName (i : Nat) : WG := fun d ρ μ Q => Q (ρ.set i (some d))
theorem up_gname {i : Nat} (h : PG X tg (gName i)) : PG X tg (upG X.K C (wgName i)) := PG.imp h fun v σ H Q ⟨L, F, ρ, μ, d, Q0, rl, r, q, uq⟩ => uq _ q _ (rl.set i r)
/-- several names, by a tuple or a list -/
def setAll : List Nat → List D → Env → Env
  | i :: is, d :: ds, ρ => setAll is ds (ρ.set i (some d))
  | _, _, ρ => ρ
def setV : List Nat → List V → St → St
  | i :: is, v :: vs, σ => setV is vs (σ.set i (some v))
  | _, _, σ => σ
def wgTup (is : List Nat) : WG := fun d ρ μ Q => ∃ ds, getS μ d = some ds ∧ ds.length = is.length ∧ Q (setAll is ds ρ)
def gNames : List Nat → TGs
  | [] => gNil
  | i :: is => gCons (gName i) (gNames is)
theorem gNames_ok : ∀ {is : List Nat} {vs : List V} {σ : St} {H : Hp} {Q : St → Hp → Prop}, vs.length = is.length → Q (setV is vs σ) H → gNames is vs σ H Q
  | [], [], σ, H, Q, _, q => ⟨rfl, q⟩
  | i :: is, v :: vs, σ, H, Q, h, q => ⟨v, vs, rfl, gNames_ok (by simpa using h) q⟩
  | [], _ :: _, σ, H, Q, h, _ => by cases h
  | _ :: _, [], σ, H, Q, h, _ => by cases h
theorem Rl.setAll {K : PySem.W.Frag} {L F H : Hp} {μ : Mu} : ∀ {is : List Nat} {ds : List D} {vs : List V} {ρ : Env} {σ : St}, Rl K C L F ρ μ σ H → RepL K C F ds vs → Rl K C L F (T2.setAll is ds ρ) μ (setV is vs σ) H
  | [], _, _, _, _, r, _ => r
  | i :: is, [], vs, ρ, σ, r, h => by unfold RepL at h; subst h; exact r
  | i :: is, d :: ds, vs, ρ, σ, r, h => by
    unfold RepL at h
    obtain ⟨x, rr, e, h1, h2⟩ := h
    subst e
    have q := Rl.setAll (is := is) (r.set i h1) h2
    exact q
end
end T2

set_option maxRecDepth 100000
set_option maxHeartbeats 4000000
namespace T2
open PySem PySem.Spec PyProof.Rows L2
section
variable {X : Cx} {C : CT} {W : WX} {tg a b c e o : Expr} {es : List Expr} {wa wb wc wo : WE} {was wks : WA} {p pos apos cpos p2 : Pos} {x : Str}
/-! ### list comprehensions -/
def wNever : PX := fun _ _ _ => False
/-- from the items ds on, acc is made -/
def lcLoop (gd : Mu → Prop) (g : WG) (tt : WT) (te : WE) (ρ : Env) (Q : List D → Mu → Prop) : List D → List D → Mu → Prop
  | [], acc, μ => gd μ ∧ Q acc μ
  | d :: ds, acc, μ => gd μ ∧ g d ρ μ fun ρ1 => tt ρ1 μ (fun k μ1 => (k = true → te ρ1 μ1 (fun y μ2 => acc.length < sizeLine ∧ lcLoop gd g tt te ρ Q ds (acc ++ [y]) μ2) wNever) ∧ (k = false → lcLoop gd g tt te ρ Q ds acc μ1)) wNever
/-- [te for g in wi if tt]: never changed | that may change -/
def wLc (wi : WI) (g : WG) (tt : WT) (te : WE) : WE := fun ρ μ Q E => wi ρ μ (fun ds gd μ1 => lcLoop gd g tt te ρ (fun acc μ2 => Q (.lst acc) μ2) ds [] μ1) E
def wLcM (wi : WI) (g : WG) (tt : WT) (te : WE) : WE := fun ρ μ Q E => wi ρ μ (fun ds gd μ1 => lcLoop gd g tt te ρ (fun acc μ2 => ∀ a, μ2 a = none → Q (.raw a) (mset μ2 a (.lst acc))) ds [] μ1) E
def upTs (X : Cx) (C : CT) (W : WX) (ifs : List Expr) (tt : WT) : Prop := PTs X ifs (upT X.K C W tt)
def wYes : WT := fun _ μ Q _ => Q true μ
theorem PTs.imp {ifs : List Expr} {t t' : TT} (h : PTs X ifs t) (i : ∀ σ H Q, t' σ H Q → t σ H Q) : PTs X ifs t' := ⟨fun pins s σ H Q I q => h.run pins s σ H Q I (i σ H Q q)⟩
theorem up_yes : PTs X [] (upT X.K C W wYes) := PTs.imp pts_nil fun σ H Q ⟨L, F, ρ, μ, Q0, E0, rl, q, uq, ux⟩ => uq true μ q F H (Sub.refl F) rl.wd
theorem up_one {t : WT} (h : PT X a (upT X.K C W t)) : PTs X [a] (upT X.K C W t) := pts_one h
/-- a target that stores into the slots vs alone, whatever stood there -/
def Tgt (K : PySem.W.Frag) (C : CT) (g : WG) (tg : TG) (vs : List Nat) : Prop :=
  ∀ (L F : Hp) (ρ : Env) (μ : Mu) (σ : St) (H : Hp) (d : D) (v : V) (Q0 : Env → Prop) (Q : St → Hp → Prop), Rl K C L F ρ μ σ H → Rep K C F d v → g d ρ μ Q0 →
    (∀ ρ', Q0 ρ' → ∀ σ', Rl K C L F ρ' μ σ' H → wipe σ' vs = wipe σ vs → Q σ' H) → tg v (wipe σ vs) H Q
theorem tgt_name {K : PySem.W.Frag} {i : Nat} : Tgt K C (wgName i) (gName i) [i] := fun L F ρ μ σ H d v Q0 Q rl r q uq => by
  have e : (wipe σ [i]).set i (some v) = σ.set i (some v) := by
    show ((σ.set i none).set i (some v)) = _
    rw [List.set_set]
  show Q ((wipe σ [i]).set i (some v)) H
  rw [e]
  refine uq _ q _ (rl.set i r) ?_
  show (σ.set i (some v)).set i none = σ.set i none
  rw [List.set_set]
theorem Wd.lNone {K : PySem.W.Frag} {L F H : Hp} {μ : Mu} (w : Wd K C L F μ H) {a : Addr} (h : H a = none) : L a = none := by
  cases e : L a with
  | none => rfl
  | some o => have := w.lk a o e; rw [h] at this; cases this
abbrev WNo : WX := fun _ _ _ _ => False
theorem upX_no {K : PySem.W.Frag} {L F : Hp} {σ : St} {W' : WX} : upX K C L F σ wNever W' := fun c fs μ' h => h.elim
theorem up_lc0 {wi : WI} {g : WG} {tgr : TG} {tt : WT} {te : WE} {vs : List Nat} {w0 : WE} {Qd : PQ → List D → Mu → Prop} (tok : Tgt X.K C g tgr vs)
    (hw : ∀ ρ μ Q E, w0 ρ μ Q E → wi ρ μ (fun ds gd μ1 => lcLoop gd g tt te ρ (Qd Q) ds [] μ1) E)
    (fin : ∀ Q0 Q L F F' μ' H' D0 acc accV, Qd Q0 acc μ' → upQ X.K C L F Q0 Q → Sub F F' → Wd X.K C (upd L D0 (.lst accV)) F' μ' H' → RepL X.K C F' acc accV → L D0 = none → Q (.ref D0) H') :
    ∀ σ H Q, upE X.K C W w0 σ H Q → tLc (upI X.K C W wi) tgr (upT X.K C WNo tt) (upE X.K C WNo te) vs σ H Q := fun σ H Q ⟨L, F, ρ, μ, Q0, E0, rl, q, uq, ux⟩ => by
  refine ⟨L, F, ρ, μ, _, E0, rl, hw _ _ _ _ q, fun ds gd μ1 q1 F1 H1 J s1 w1 src => ?_, ux⟩
  intro D0 hD
  have hL := w1.lNone hD
  refine ⟨fun i m H => m = ds.length - i ∧ i ≤ ds.length ∧ ∃ acc accV F2 μ2, Sub F1 F2 ∧ Wd X.K C (upd L D0 (.lst accV)) F2 μ2 H ∧ RepL X.K C F2 acc accV ∧ lcLoop gd g tt te ρ (Qd Q0) (ds.drop i) acc μ2,
    ⟨ds.length, rfl, Nat.zero_le _, [], [], F1, μ1, Sub.refl F1, w1.lock hD, .nil, q1⟩, ?_⟩
  rintro i m H2 ⟨rfl, hi, acc, accV, F2, μ2, s2, w2, r2, lp⟩
  by_cases hlt : i < ds.length
  · rw [List.drop_eq_getElem_cons hlt] at lp
    obtain ⟨hg, lp⟩ := lp
    refine .inr ⟨src.go i _ F2 μ2 H2 hlt s2 w2 hg, fun H' => ∃ acc accV F2 μ2, Sub F1 F2 ∧ Wd X.K C (upd L D0 (.lst accV)) F2 μ2 H' ∧ RepL X.K C F2 acc accV ∧ lcLoop gd g tt te ρ (Qd Q0) (ds.drop (i + 1)) acc μ2,
      fun H' hn => ⟨ds.length - (i + 1), by omega, rfl, hlt, hn⟩, fun x H3 hy => ?_⟩
    obtain ⟨G, sG, wG, rG⟩ := src.yld i _ F2 μ2 H2 x H3 _ s2 w2 hg (List.getElem?_eq_getElem hlt) hy
    have rlG := rl.to' ((s1.trans s2).trans sG) wG
    refine tok _ G ρ μ2 σ H3 _ x _ _ rlG rG lp fun ρ1 q3 σ3 rl3 hwp => ⟨hwp, ?_⟩
    refine ⟨_, G, ρ1, μ2, _, wNever, rl3, q3, fun k μ4 q4 F4 H4 s4 w4 => ?_, upX_no⟩
    cases k with
    | false =>
      exact ⟨acc, accV, F4, μ4, (s2.trans sG).trans s4, w4, (r2.mono sG).mono s4, q4.2 rfl⟩
    | true =>
      refine ⟨_, F4, ρ1, μ4, _, wNever, rl3.to s4 w4, q4.1 rfl, fun d5 μ5 q5 F5 H5 v5 s5 w5 r5 => ?_, upX_no⟩
      refine ⟨accV, w5.lk D0 _ upd_same, by rw [r2.len]; exact q5.1, ?_⟩
      exact ⟨acc ++ [d5], accV ++ [v5], F5, μ5, ((s2.trans sG).trans s4).trans s5, w5.relock, (((r2.mono sG).mono s4).mono s5).append (.cons r5 .nil), q5.2⟩
  · have e : i = ds.length := by omega
    subst e
    rw [List.drop_length] at lp
    obtain ⟨hg, lp⟩ := lp
    exact .inl ⟨src.stop _ F2 μ2 H2 s2 w2 hg, fin Q0 Q L F F2 μ2 H2 D0 acc accV lp uq (s1.trans s2) w2 r2 hL⟩
theorem up_lcF {wi : WI} {g : WG} {tgr : TG} {tt : WT} {te : WE} {vs : List Nat} (tok : Tgt X.K C g tgr vs) : ∀ σ H Q, upE X.K C W (wLc wi g tt te) σ H Q → tLc (upI X.K C W wi) tgr (upT X.K C WNo tt) (upE X.K C WNo te) vs σ H Q :=
  up_lc0 (Qd := fun Q acc μ2 => Q (.lst acc) μ2) tok (fun _ _ _ _ h => h) fun Q0 Q L F F' μ' H' D0 acc accV q uq s w r hL =>
    uq _ _ q (upd F' D0 (.lst accV)) H' _ (s.trans (Sub.new (w.dj D0 _ upd_same))) (w.unlockF hL) (.ofLst upd_same (r.mono (Sub.new (w.dj D0 _ upd_same))))
theorem up_lcM {wi : WI} {g : WG} {tgr : TG} {tt : WT} {te : WE} {vs : List Nat} (tok : Tgt X.K C g tgr vs) : ∀ σ H Q, upE X.K C W (wLcM wi g tt te) σ H Q → tLc (upI X.K C W wi) tgr (upT X.K C WNo tt) (upE X.K C WNo te) vs σ H Q :=
  up_lc0 (Qd := fun Q acc μ2 => ∀ a, μ2 a = none → Q (.raw a) (mset μ2 a (.lst acc))) tok (fun _ _ _ _ h => h) fun Q0 Q L F F' μ' H' D0 acc accV q uq s w r hL =>
    uq _ _ (q D0 w.lockNone) F' H' _ s (w.unlockM hL ⟨accV, w.lk D0 _ upd_same, r⟩) .ofRaw
end
end T2

set_option maxRecDepth 100000
set_option maxHeartbeats 4000000
namespace T2
open PySem PySem.Spec PyProof.Rows L2
theorem UpK.mono {K : PySem.W.Frag} {C : CT} {W : WX} {L F G : Hp} {k : KS} {B : Ends} (u : UpK K C W L F k B) (s : Sub F G) : UpK K C W L G k B :=
  ⟨fun ρ' μ' h F' σ' H' s' => u.nx ρ' μ' h F' σ' H' (s.trans s'), fun ρ' μ' h F' σ' H' s' => u.bk ρ' μ' h F' σ' H' (s.trans s'), fun ρ' μ' h F' σ' H' s' => u.ct ρ' μ' h F' σ' H' (s.trans s'),
    fun d μ' h F' H' v s' => u.rt d μ' h F' H' v (s.trans s'), fun c fs ρ' μ' h F' σ' H' cls dx s' => u.ex c fs ρ' μ' h F' σ' H' cls dx (s.trans s')⟩
theorem UpK.x {K : PySem.W.Frag} {C : CT} {W : WX} {L F H : Hp} {k : KS} {B : Ends} {ρ : Env} {μ : Mu} {σ : St} (u : UpK K C W L F k B) (r : Rl K C L F ρ μ σ H) : upX K C L F σ (k.ex ρ) W := fun c fs μ' h F' H' cls dx s w x =>
  u.ex c fs ρ μ' h F' σ H' cls dx s (r.to s w) x
section
variable {X : Cx} {C : CT} {W : WX} {tg a b c e o : Expr} {es : List Expr} {wa wb wc wo we : WE} {was wks : WA} {wt : WT} {p pos apos cpos p2 pos' : Pos} {x : Str} {st : Stmt} {rest sts : List Stmt} {w w2 : WS} {i : Nat}
def wNext : WS := fun k ρ μ => k.nx ρ μ
def wSeq (w w2 : WS) : WS := fun k ρ μ => w { k with nx := fun ρ' μ' => w2 k ρ' μ' } ρ μ
theorem us_nil : PSs X [] (upS X.K C W wNext) := PSs.imp pss_nil fun B σ H ⟨L, F, ρ, μ, k, rl, q, u⟩ => u.nx ρ μ q F σ H (Sub.refl F) rl
theorem us_cons (h : PS X st (upS X.K C W w)) (h2 : PSs X rest (upS X.K C W w2)) : PSs X (st :: rest) (upS X.K C W (wSeq w w2)) := PSs.imp (pss_cons h h2) fun B σ H ⟨L, F, ρ, μ, k, rl, q, u⟩ =>
  ⟨L, F, ρ, μ, _, rl, q, fun ρ' μ' h F' σ' H' s r => ⟨L, F', ρ', μ', k, r, h, u.mono s⟩, u.bk, u.ct, u.rt, u.ex⟩
theorem us_pass : PS X (.Pass pos) (upS X.K C W wNext) := PS.imp ps_pass fun B σ H ⟨L, F, ρ, μ, k, rl, q, u⟩ => u.nx ρ μ q F σ H (Sub.refl F) rl
def wBreak : WS := fun k ρ μ => k.bk ρ μ
def wCont : WS := fun k ρ μ => k.ct ρ μ
theorem us_break : PS X (.Break pos) (upS X.K C W wBreak) := PS.imp ps_break fun B σ H ⟨L, F, ρ, μ, k, rl, q, u⟩ => u.bk ρ μ q F σ H (Sub.refl F) rl
theorem us_cont : PS X (.Continue pos) (upS X.K C W wCont) := PS.imp ps_continue fun B σ H ⟨L, F, ρ, μ, k, rl, q, u⟩ => u.ct ρ μ q F σ H (Sub.refl F) rl
def wDrop (we : WE) : WS := fun k ρ μ => we ρ μ (fun _ μ1 => k.nx ρ μ1) (k.ex ρ)
theorem us_expr (h : PE X e (upE X.K C W we)) (hs : swapsWith e none pos.line X.env = pure false) : PS X (.Expr e pos) (upS X.K C W (wDrop we)) := PS.imp (ps_expr h hs) fun B σ H ⟨L, F, ρ, μ, k, rl, q, u⟩ =>
  ⟨L, F, ρ, μ, _, _, rl, q, fun d μ' h F' H' v s w r => u.nx ρ μ' h F' σ H' s (rl.to s w), u.x rl⟩
/-- at a return: what changed may be given up, what is handed out may be told as a tree -/
def Frz (μ : Mu) (d : D) (μ' : Mu) (d' : D) : Prop := ∀ (K : PySem.W.Frag) (C : CT) (L F H : Hp) (v : V), Wd K C L F μ H → Rep K C F d v → ∃ F', Sub F F' ∧ Wd K C L F' μ' H ∧ Rep K C F' d' v
theorem Frz.refl (μ : Mu) (d : D) : Frz μ d μ d := fun K C L F H v w r => ⟨F, Sub.refl F, w, r⟩
theorem Frz.trans {μ μ1 μ2 : Mu} {d d1 d2 : D} (h : Frz μ d μ1 d1) (h2 : Frz μ1 d1 μ2 d2) : Frz μ d μ2 d2 := fun K C L F H v w r => by
  obtain ⟨F1, s1, w1, r1⟩ := h K C L F H v w r
  obtain ⟨F2, s2, w2, r2⟩ := h2 K C L F1 H v w1 r1
  exact ⟨F2, s1.trans s2, w2, r2⟩
def Less (μ' μ : Mu) : Prop := ∀ a m, μ' a = some m → μ a = some m
theorem Wd.less {K : PySem.W.Frag} {L F H : Hp} {μ μ' : Mu} (w : Wd K C L F μ H) (h : Less μ' μ) : Wd K C L F μ' H := ⟨w.sub, w.lk, fun a m e => w.mu a m (h a m e), fun a m e => w.ml a m (h a m e), w.dj⟩
theorem Frz.less {μ μ' : Mu} {d : D} (h : Less μ' μ) : Frz μ d μ' d := fun K C L F H v w r => ⟨F, Sub.refl F, w.less h, r⟩
theorem Frz.lst {μ μ' : Mu} {a : Addr} {ds : List D} (h : μ a = some (.lst ds)) (hl : ∀ b m, μ' b = some m → μ b = some m ∧ b ≠ a) : Frz μ (.raw a) μ' (.lst ds) := fun K C L F H v w r => by
  obtain ⟨xs, h1, h2⟩ := w.raw h
  have hF := (w.mu a _ h).1
  have hL := w.ml a _ h
  have s : Sub F (upd F a (.lst xs)) := Sub.new hF
  refine ⟨upd F a (.lst xs), s, ⟨fun b o e => ?_, w.lk, fun b m e => ?_, fun b m e => w.ml b m (hl b m e).1, fun b o e => ?_⟩, ?_⟩
  · by_cases hb : b = a
    · subst hb; rw [upd_same] at e; cases e; exact h1
    · rw [upd_ne hb] at e; exact w.sub b o e
  · obtain ⟨e1, hb⟩ := hl b m e
    obtain ⟨m1, m2⟩ := w.mu b m e1
    exact ⟨by rw [upd_ne hb]; exact m1, m2.mono s rfl⟩
  · have hb : b ≠ a := fun z => by subst z; rw [hL] at e; cases e
    rw [upd_ne hb]; exact w.dj b o e
  · rw [r.raw]
    exact .ofLst upd_same (h2.mono s)
theorem Frz.dct {μ μ' : Mu} {a : Addr} {ds : List (Key × D)} (h : μ a = some (.dct ds)) (hl : ∀ b m, μ' b = some m → μ b = some m ∧ b ≠ a) : Frz μ (.raw a) μ' (.dct ds) := fun K C L F H v w r => by
  obtain ⟨xs, h1, h2⟩ := w.rawK h
  have hF := (w.mu a _ h).1
  have hL := w.ml a _ h
  have s : Sub F (upd F a (.dK xs)) := Sub.new hF
  refine ⟨upd F a (.dK xs), s, ⟨fun b o e => ?_, w.lk, fun b m e => ?_, fun b m e => w.ml b m (hl b m e).1, fun b o e => ?_⟩, ?_⟩
  · by_cases hb : b = a
    · subst hb; rw [upd_same] at e; cases e; exact h1
    · rw [upd_ne hb] at e; exact w.sub b o e
  · obtain ⟨e1, hb⟩ := hl b m e
    obtain ⟨m1, m2⟩ := w.mu b m e1
    exact ⟨by rw [upd_ne hb]; exact m1, m2.mono s rfl⟩
  · have hb : b ≠ a := fun z => by subst z; rw [hL] at e; cases e
    rw [upd_ne hb]; exact w.dj b o e
  · rw [r.raw]
    exact .ofDct upd_same (h2.mono s)
def wRet (we : WE) : WS := fun k ρ μ => we ρ μ (fun d μ1 => ∃ d' μ', Frz μ1 d μ' d' ∧ k.rt d' μ') (k.ex ρ)
theorem us_ret (h : PE X e (upE X.K C W we)) : PS X (.Return (some e) pos) (upS X.K C W (wRet we)) := PS.imp (ps_ret h) fun B σ H ⟨L, F, ρ, μ, k, rl, q, u⟩ =>
  ⟨L, F, ρ, μ, _, _, rl, q, fun d μ' h F' H' v s w r => by
    obtain ⟨d', μ'', fz, q⟩ := h
    obtain ⟨F2, s2, w2, r2⟩ := fz X.K C L F' H' v w r
    exact u.rt d' μ'' q F2 H' v (s.trans s2) w2 r2, u.x rl⟩
def wRetN : WS := fun k ρ μ => ∃ μ', Less μ' μ ∧ k.rt .non μ'
theorem us_retN : PS X (.Return none pos) (upS X.K C W wRetN) := PS.imp ps_retN fun B σ H ⟨L, F, ρ, μ, k, rl, ⟨μ', hl, q⟩, u⟩ => u.rt .non μ' q F H _ (Sub.refl F) (rl.wd.less hl) .ofNon
def wIfS (t : WT) (w w2 : WS) : WS := fun k ρ μ => t ρ μ (fun b μ1 => (b = true → w k ρ μ1) ∧ (b = false → w2 k ρ μ1)) (k.ex ρ)
theorem us_if {b1 b2 : List Stmt} (hc : PT X c (upT X.K C W wt)) (ha : PSs X b1 (upS X.K C W w)) (hb : PSs X b2 (upS X.K C W w2)) : PS X (.If c b1 b2 pos) (upS X.K C W (wIfS wt w w2)) := PS.imp (ps_if hc ha hb) fun B σ H ⟨L, F, ρ, μ, k, rl, q, u⟩ => by
  refine ⟨L, F, ρ, μ, _, _, rl, q, fun b μ' h F' H' s w => ?_, u.x rl⟩
  cases b with
  | true => exact ⟨L, F', ρ, μ', k, rl.to s w, h.1 rfl, u.mono s⟩
  | false => exact ⟨L, F', ρ, μ', k, rl.to s w, h.2 rfl, u.mono s⟩
/-- name = e -/
def wAsg (i : Nat) (we : WE) : WS := fun k ρ μ => we ρ μ (fun d μ1 => k.nx (ρ.set i (some d)) μ1) (k.ex ρ)
theorem us_asg0 (h : PS X st (tAsg (upE X.K C W we) (gName i))) : PS X st (upS X.K C W (wAsg i we)) := PS.imp h fun B σ H ⟨L, F, ρ, μ, k, rl, q, u⟩ =>
  ⟨L, F, ρ, μ, _, _, rl, q, fun d μ' h F' H' v s w r => u.nx _ μ' h F' _ H' s ((rl.to s w).set i r), u.x rl⟩
/-- targets = e -/
def wAsgG (g : WG) (we : WE) : WS := fun k ρ μ => we ρ μ (fun d μ1 => g d ρ μ1 fun ρ1 => k.nx ρ1 μ1) (k.ex ρ)
theorem us_asgG {g : WG} (h : PS X st (tAsg (upE X.K C W we) (upG X.K C g))) : PS X st (upS X.K C W (wAsgG g we)) := PS.imp h fun B σ H ⟨L, F, ρ, μ, k, rl, q, u⟩ =>
  ⟨L, F, ρ, μ, _, _, rl, q, fun d μ' h F' H' v s w r => ⟨L, F', ρ, μ', d, _, rl.to s w, r, h, fun ρ' q σ' rl' => u.nx ρ' μ' q F' σ' H' s rl'⟩, u.x rl⟩
/-- o[i] = e -/
abbrev GSet := D → D → D → Mu → (Mu → Prop) → Prop
def SetD (X : Cx) (C : CT) (g : GSet) : Prop := ∃ t, PSet X t ∧ ∀ L F μ H x y z v u w Q0 (Q : Hp → Prop), Wd X.K C L F μ H → Rep X.K C F x v → Rep X.K C F y u → Rep X.K C F z w → g x y z μ Q0 → (∀ μ', Q0 μ' → ∀ F' H', Sub F F' → Wd X.K C L F' μ' H' → Q H') → t v u w H Q
def wSet (g : GSet) (wo wi we : WE) : WS := fun k ρ μ => we ρ μ (fun z μ1 => wo ρ μ1 (fun x μ2 => wi ρ μ2 (fun y μ3 => g x y z μ3 fun μ4 => k.nx ρ μ4) (k.ex ρ)) (k.ex ρ)) (k.ex ρ)
theorem us_set0 {g : GSet} {t : TSet} (hg : ∀ L F μ H x y z v u w Q0 (Q : Hp → Prop), Wd X.K C L F μ H → Rep X.K C F x v → Rep X.K C F y u → Rep X.K C F z w → g x y z μ Q0 → (∀ μ', Q0 μ' → ∀ F' H', Sub F F' → Wd X.K C L F' μ' H' → Q H') → t v u w H Q)
    (h : PS X st (tAsg (upE X.K C W we) (L2.gSub (upE X.K C W wa) (upE X.K C W wb) t))) : PS X st (upS X.K C W (wSet g wa wb we)) := PS.imp h fun B σ H ⟨L, F, ρ, μ, k, rl, q, u⟩ => by
  refine ⟨L, F, ρ, μ, _, _, rl, q, fun z μ1 q1 F1 H1 v1 s1 w1 r1 => ?_, u.x rl⟩
  refine ⟨L, F1, ρ, μ1, _, _, rl.to s1 w1, q1, fun x μ2 q2 F2 H2 v2 s2 w2 r2 => ?_, (u.x rl).mono s1⟩
  refine ⟨L, F2, ρ, μ2, _, _, rl.to (s1.trans s2) w2, q2, fun y μ3 q3 F3 H3 v3 s3 w3 r3 => ?_, (u.x rl).mono (s1.trans s2)⟩
  exact hg L F3 μ3 H3 x y z v2 v3 v1 _ _ w3 (r2.mono s3) r3 ((r1.mono s2).mono s3) q3 fun μ4 q4 F4 H4 s4 w4 => u.nx ρ μ4 q4 F4 σ H4 (((s1.trans s2).trans s3).trans s4) (rl.to (((s1.trans s2).trans s3).trans s4) w4)
theorem PSet.or {t t' : TSet} (h : PSet X t) (h' : PSet X t') : PSet X (fun o i v H Q => t o i v H Q ∨ t' o i v H Q) := by
  intro pins s σ H o i v ov iv u Q I ro ri rv q
  rcases q with q | q
  · exact h pins s σ H o i v ov iv u Q I ro ri rv q
  · exact h' pins s σ H o i v ov iv u Q I ro ri rv q
theorem set_dict (hu : X.A.units + 1 < cLine) : PSet X (fun o i v H Q => ∃ a H4, o = .ref a ∧ DPut H a i v H4 ∧ Q H4) := by
  intro pins s σ H o i v ov iv u Q I ro ri rv h
  obtain ⟨a, H4, rfl, g, q⟩ := h
  obtain rfl : ov = Value.ref a := ro
  exact d_setItem hu I g ri rv fun s4 I4 => ⟨H4, I4, q⟩
def gSet : GSet := fun x y z μ Q =>
  (∃ a ds i j, x = .raw a ∧ μ a = some (.lst ds) ∧ y = .int i ∧ ixN ds.length i = some j ∧ Q (mset μ a (.lst (ds.set j z)))) ∨
  (∃ a ks k, x = .raw a ∧ μ a = some (.dct ks) ∧ keyOf y = some k ∧ ks.length < sizeLine ∧ Q (mset μ a (.dct (kput ks k z)))) ∨
  (∃ (a : Addr) (ks : List (List Key)) (ds : List D) (k : List Key), x = .raw a ∧ μ a = some (.dts ks) ∧ y = .tup ds ∧ keysT ds = some k ∧ ks.length < sizeLine ∧ Q (mset μ a (.dts (if hasK ks k = true then ks else ks ++ [k]))))
theorem putK_keys {xs : List (List Key × V)} {k : List Key} {v : V} : (putK xs k v).map (·.1) = if hasK (xs.map Prod.fst) k = true then xs.map Prod.fst else xs.map Prod.fst ++ [k] := by
  unfold putK
  rw [valV_any, valV_keys]
  by_cases q : hasK (xs.map Prod.fst) k = true
  · rw [if_pos q, if_pos q, List.map_map]
    refine List.map_congr_left fun x _ => ?_
    show (if x.1 = k then (x.1, v) else x).1 = x.1
    split <;> rfl
  · rw [if_neg q, if_neg q, List.map_append]
    rfl
theorem setd (hu : X.A.units + 1 < cLine) : SetD X C gSet := ⟨_, PSet.or set_list (PSet.or (set_dict hu) (set_dict hu)), fun L F μ H x y z v u w Q0 Q wd rx ry rz q uq => by
  rcases q with ⟨a, ds, i, j, rfl, hm, rfl, hj, q⟩ | ⟨a, ks, k, rfl, hm, hk, hl, q⟩ | ⟨a, ks, ds, k, rfl, hm, rfl, hk, hl, q⟩
  · obtain ⟨xs, h1, h2⟩ := wd.raw hm
    refine .inl ⟨a, xs, i, j, rx.raw, ry.int, h1, by rw [h2.len]; exact hj, ?_⟩
    exact uq _ q F _ (Sub.refl F) (wd.put hm ⟨_, upd_same, h2.set j rz⟩)
  · obtain ⟨xs, h1, h2⟩ := wd.rawK hm
    cases keyOf_kV ry hk
    refine .inr (.inl ⟨a, _, rx.raw, DPut.k h1 (by rw [h2.len]; exact hl), ?_⟩)
    exact uq _ q F _ (Sub.refl F) (wd.put hm ⟨_, upd_same, h2.put rz⟩)
  · obtain ⟨p, ys, rfl, hp, rl⟩ := ry.tupP
    cases rl.keysT hk
    obtain ⟨xs, hx, rfl⟩ := (wd.mu _ _ hm).2
    refine .inr (.inr ⟨a, _, rx.raw, DPut.t hx (wd.sub _ _ hp) (by rw [List.length_map] at hl; exact hl), ?_⟩)
    exact uq _ q F _ (Sub.refl F) (wd.put hm ⟨_, upd_same, putK_keys⟩)⟩
/-! ### loops -/
def forLoop (gd : Mu → Prop) (g : WG) (w : WS) (k : KS) : List D → Env → Mu → Prop
  | [], ρ, μ => gd μ ∧ k.nx ρ μ
  | d :: ds, ρ, μ => gd μ ∧ g d ρ μ fun ρ1 => w { k with nx := forLoop gd g w k ds, ct := forLoop gd g w k ds, bk := k.nx } ρ1 μ
def wFor (wi : WI) (g : WG) (w : WS) : WS := fun k ρ μ => wi ρ μ (fun ds gd μ1 => forLoop gd g w k ds ρ μ1) (k.ex ρ)
theorem us_for {iter : Expr} {body : List Stmt} {wi : WI} {g : WG} (hp : PassesOwn (model X.prog X.w) X.A X.env X.xe) (hc : X.calm = true) (hi : PI X tg iter (upI X.K C W wi)) (hg : PG X tg (upG X.K C g)) (hb : PSs X body (upS X.K C W w))
    (hs : ∀ x, foldedSetIterable iter X.env x = pure x) : PS X (.For tg iter body [] pos) (upS X.K C W (wFor wi g w)) := PS.imp (ps_for hp hc hi hg hb hs) fun B σ H ⟨L, F, ρ, μ, k, rl, q, u⟩ => by
  refine ⟨L, F, ρ, μ, _, _, rl, q, fun ds gd μ1 q1 F1 H1 J s1 w1 src => ?_, u.x rl⟩
  refine ⟨fun i m σ H => m = ds.length - i ∧ i ≤ ds.length ∧ ∃ F2 ρ2 μ2, Sub F1 F2 ∧ Rl X.K C L F2 ρ2 μ2 σ H ∧ forLoop gd g w k (ds.drop i) ρ2 μ2,
    ⟨ds.length, rfl, Nat.zero_le _, F1, ρ, μ1, Sub.refl F1, rl.to s1 w1, q1⟩, ?_⟩
  rintro i m σ2 H2 ⟨rfl, hi, F2, ρ2, μ2, s2, r2, lp⟩
  by_cases hlt : i < ds.length
  · rw [List.drop_eq_getElem_cons hlt] at lp
    obtain ⟨hgd, lp⟩ := lp
    refine .inr ⟨src.go i _ F2 μ2 H2 hlt s2 r2.wd hgd, fun σ' H' => ∃ F2 ρ2 μ2, Sub F1 F2 ∧ Rl X.K C L F2 ρ2 μ2 σ' H' ∧ forLoop gd g w k (ds.drop (i + 1)) ρ2 μ2,
      fun σ' H' hn => ⟨ds.length - (i + 1), by omega, rfl, hlt, hn⟩, fun x H3 hy => ?_⟩
    obtain ⟨G, sG, wG, rG⟩ := src.yld i _ F2 μ2 H2 x H3 _ s2 r2.wd hgd (List.getElem?_eq_getElem hlt) hy
    refine ⟨L, G, ρ2, μ2, _, _, r2.to sG wG, rG, lp, fun ρ3 q3 σ3 rl3 => ?_⟩
    refine ⟨L, G, ρ3, μ2, _, rl3, q3, ?_⟩
    have ug := u.mono ((s1.trans s2).trans sG)
    exact ⟨fun ρ' μ' h F' σ' H' s r => ⟨F', ρ', μ', (s2.trans sG).trans s, r, h⟩, ug.nx, fun ρ' μ' h F' σ' H' s r => ⟨F', ρ', μ', (s2.trans sG).trans s, r, h⟩, ug.rt, ug.ex⟩
  · have e : i = ds.length := by omega
    subst e
    rw [List.drop_length] at lp
    obtain ⟨hgd, lp⟩ := lp
    exact .inl ⟨src.stop _ F2 μ2 H2 s2 r2.wd hgd, u.nx ρ2 μ2 lp F2 σ2 H2 (s1.trans s2) r2⟩
def wWhile (t : WT) (w : WS) : WS := fun k ρ μ => ∃ I : Nat → Env → Mu → Prop, (∃ m, I m ρ μ) ∧ ∀ m ρ μ, I m ρ μ →
  t ρ μ (fun b μ1 => (b = true → w { k with nx := fun ρ' μ' => ∃ m', m' < m ∧ I m' ρ' μ', ct := fun ρ' μ' => ∃ m', m' < m ∧ I m' ρ' μ', bk := k.nx } ρ μ1) ∧ (b = false → k.nx ρ μ1)) (k.ex ρ)
theorem us_while {body : List Stmt} (hp : PassesOwn (model X.prog X.w) X.A X.env X.xe) (hc : PT X c (upT X.K C W wt)) (hb : PSs X body (upS X.K C W w)) : PS X (.While c body [] pos) (upS X.K C W (wWhile wt w)) := PS.imp (ps_while hp hc hb) fun B σ H ⟨L, F, ρ, μ, k, rl, ⟨I, ⟨m0, i0⟩, hI⟩, u⟩ => by
  refine ⟨fun m σ H => ∃ F2 ρ2 μ2, Sub F F2 ∧ Rl X.K C L F2 ρ2 μ2 σ H ∧ I m ρ2 μ2, ⟨m0, F, ρ, μ, Sub.refl F, rl, i0⟩, ?_⟩
  rintro m σ2 H2 ⟨F2, ρ2, μ2, s2, r2, i2⟩
  refine ⟨L, F2, ρ2, μ2, _, _, r2, hI m ρ2 μ2 i2, fun b μ3 q3 F3 H3 s3 w3 => ?_, (u.mono s2).x r2⟩
  cases b with
  | true =>
    refine ⟨fun σ' H' => ∃ m', m' < m ∧ ∃ F2 ρ2 μ2, Sub F F2 ∧ Rl X.K C L F2 ρ2 μ2 σ' H' ∧ I m' ρ2 μ2, fun σ' H' h => h, ?_⟩
    have ug := u.mono (s2.trans s3)
    refine ⟨L, F3, ρ2, μ3, _, r2.to s3 w3, q3.1 rfl, ?_⟩
    exact ⟨fun ρ' μ' ⟨m', hm, h⟩ F' σ' H' s r => ⟨m', hm, F', ρ', μ', (s2.trans s3).trans s, r, h⟩, ug.nx, fun ρ' μ' ⟨m', hm, h⟩ F' σ' H' s r => ⟨m', hm, F', ρ', μ', (s2.trans s3).trans s, r, h⟩, ug.rt, ug.ex⟩
  | false => exact u.nx ρ2 μ3 (q3.2 rfl) F3 σ2 H3 (s2.trans s3) (r2.to s3 w3)
end
end T2

set_option maxRecDepth 100000
set_option maxHeartbeats 4000000
namespace T2
open PySem PySem.Spec PyProof.Rows L2
/-- an exception class of the text -/
structure XCls (K : PySem.W.Frag) (mg : Str → Option Value) (c : Str) (ca : Addr) (fs : List Str) : Prop where
  g : mg c = some (.ref ca)
  o : OexC K ca
  f : XfC K ca
  e : ExcC K ca
  no : ∀ f ∈ fs, PySem.W.findIn K (.ref ca) f = some none
/-- .. whose __init__ keeps its arguments -/
structure XMk (P : Program) (w : World) (K : PySem.W.Frag) (mg : Str → Option Value) (base : Heap) (C : CT) (k : Nat) (c : Str) (fs : List Str) : Prop where
  ex : ∃ ca fI fd ps sp, C.xcls c = some ca ∧ XCls K mg c ca fs ∧ PySem.W.findIn K (.ref ca) "__init__" = some (some (.ref fI)) ∧ PySem.W.typeIn K (.ref fI) = some (.type "function") ∧
    FnOk P w K mg base (L2N.CX P w) k fI fd ps sp ∧ Binds K fd ps [] ∧ ∀ (vs : List V) (H : Hp) (Q : VK) (a : Addr), vs.length = fs.length → H a = some (exo a ca none) →
      (∀ dx, H dx = none → dx ≠ a → Q .non (upd (upd H dx (exd dx (fs.zip vs).reverse)) a (exo a ca (some dx)))) → sp (.ref a :: vs) H Q E0
theorem XMk.mono {P : Program} {w : World} {K : PySem.W.Frag} {mg : Str → Option Value} {base : Heap} {C : CT} {j k : Nat} {c : Str} {fs : List Str} (h : XMk P w K mg base C j c fs) (hk : j ≤ k) : XMk P w K mg base C k c fs := by
  obtain ⟨ca, fI, fd, ps, sp, h1, h2, h3, h4, h5, h6⟩ := h.ex
  exact ⟨ca, fI, fd, ps, sp, h1, h2, h3, h4, h5.mono hk, h6⟩
section
variable {P : Program} {w : World} {K : PySem.W.Frag} {mg : Str → Option Value} {base : Heap}
theorem upd_swap {H : Hp} {a b : Addr} {o u : HO} (h : a ≠ b) : upd (upd H a o) b u = upd (upd H b u) a o := by
  funext c
  unfold upd
  by_cases h1 : c = a
  · subst h1
    rw [if_neg h, if_pos rfl, if_pos rfl]
  · by_cases h2 : c = b
    · subst h2
      rw [if_pos rfl, if_neg h1, if_pos rfl]
    · rw [if_neg h2, if_neg h1, if_neg h1, if_neg h2]
/-- __init__ with one argument that is kept -/
theorem xmk1 {C : CT} {c f p : Str} {ca fI : Addr} {fd : FuncData} {qual : Str} {params : Arguments} {body : List Stmt} {scope : Scope} {dvs : List V} {kws : List (Str × V)} (hc : C.xcls c = some ca) (x : XCls K mg c ca [f])
    (i1 : PySem.W.findIn K (.ref ca) "__init__" = some (some (.ref fI))) (i2 : PySem.W.typeIn K (.ref fI) = some (.type "function")) (F : FunD K "__init__" qual params body scope dvs kws fI fd) (S : FnScope ["self", p] ["self", p] scope)
    (hb : ∃ q1 q2 q3 q4, body = [.Assign [.Attribute (.Name "self" q1) f q2] (.Name p q3) q4]) (hbi : Binds K fd ["self", p] []) (hp1 : (p == ("__debug__" : Str)) = false) (hp2 : (p == ("__classdict__" : Str)) = false) : XMk P w K mg base C 1 c [f] := by
  obtain ⟨q1, q2, q3, q4, rfl⟩ := hb
  have vis : ∀ y ∈ (["self", p] : List Str), Vis scope y := fun y hy => (S.par y hy).elim .inl fun h => .inr (.inl h)
  refine ⟨ca, fI, fd, ["self", p], fun vs H Q E => ∃ a v, vs = [.ref a, v] ∧ H a = some (exo a ca none) ∧ ∀ dx, H dx = none → dx ≠ a → Q .non (upd (upd H dx (exd dx [(f, v)])) a (exo a ca (some dx))), hc, x, i1, i2, ?_, hbi, ?_⟩
  · refine F.ok S (fun vs H Q E h => ?_) fun cdv A outer s H vs Q E hr h => ?_
    · obtain ⟨a, v, rfl, _⟩ := h
      rfl
    · obtain ⟨a, v, rfl, ha, q⟩ := h
      refine ⟨_, pss_one (ps_ost (pe_var (i := 0) rfl (vis _ List.mem_cons_self)) (pe_var (i := 1) rfl (vis _ (List.mem_cons_of_mem _ List.mem_cons_self)) hp1 hp2)), ?_⟩
      exact ⟨v, rfl, .ref a, rfl, a, ca, rfl, x.o, x.no f List.mem_cons_self, .inl ⟨ha, fun dx hn hne => q dx hn hne⟩⟩
  · intro vs H Q a hl ha q
    match vs, hl with
    | [v], _ => exact ⟨a, v, rfl, ha, q⟩
/-- .. with two -/
theorem xmk2 {C : CT} {c f f2 p p2 : Str} {ca fI : Addr} {fd : FuncData} {qual : Str} {params : Arguments} {body : List Stmt} {scope : Scope} {dvs : List V} {kws : List (Str × V)} (hc : C.xcls c = some ca) (x : XCls K mg c ca [f, f2])
    (i1 : PySem.W.findIn K (.ref ca) "__init__" = some (some (.ref fI))) (i2 : PySem.W.typeIn K (.ref fI) = some (.type "function")) (F : FunD K "__init__" qual params body scope dvs kws fI fd) (S : FnScope ["self", p, p2] ["self", p, p2] scope)
    (hb : ∃ q1 q2 q3 q4 r1 r2 r3 r4, body = [.Assign [.Attribute (.Name "self" q1) f q2] (.Name p q3) q4, .Assign [.Attribute (.Name "self" r1) f2 r2] (.Name p2 r3) r4]) (hbi : Binds K fd ["self", p, p2] [])
    (hp1 : (p == ("__debug__" : Str)) = false) (hp2 : (p == ("__classdict__" : Str)) = false) (hp3 : (p2 == ("__debug__" : Str)) = false) (hp4 : (p2 == ("__classdict__" : Str)) = false) : XMk P w K mg base C 1 c [f, f2] := by
  obtain ⟨q1, q2, q3, q4, r1, r2, r3, r4, rfl⟩ := hb
  have vis : ∀ y ∈ (["self", p, p2] : List Str), Vis scope y := fun y hy => (S.par y hy).elim .inl fun h => .inr (.inl h)
  refine ⟨ca, fI, fd, ["self", p, p2], fun vs H Q E => ∃ a v v2, vs = [.ref a, v, v2] ∧ H a = some (exo a ca none) ∧ ∀ dx, H dx = none → dx ≠ a → Q .non (upd (upd H dx (exd dx [(f2, v2), (f, v)])) a (exo a ca (some dx))), hc, x, i1, i2, ?_, hbi, ?_⟩
  · refine F.ok S (fun vs H Q E h => ?_) fun cdv A outer s H vs Q E hr h => ?_
    · obtain ⟨a, v, v2, rfl, _⟩ := h
      rfl
    · obtain ⟨a, v, v2, rfl, ha, q⟩ := h
      refine ⟨_, pss_cons (ps_ost (pe_var (i := 0) rfl (vis _ (by simp))) (pe_var (i := 1) rfl (vis _ (by simp)) hp1 hp2)) (pss_one (ps_ost (pe_var (i := 0) rfl (vis _ (by simp))) (pe_var (i := 2) rfl (vis _ (by simp)) hp3 hp4))), ?_⟩
      refine ⟨v, rfl, .ref a, rfl, a, ca, rfl, x.o, x.no f (by simp), .inl ⟨ha, fun dx hn hne => ?_⟩⟩
      refine ⟨v2, rfl, .ref a, rfl, a, ca, rfl, x.o, x.no f2 (by simp), .inr ⟨dx, [(f, v)], upd_same, ?_, by show 1 ≤ 900; decide, ?_⟩⟩
      · rw [upd_ne hne, upd_same]
      · have e : upd (upd (upd H dx (exd dx [(f, v)])) a (exo a ca (some dx))) dx (exd dx [(f2, v2), (f, v)]) = upd (upd H dx (exd dx [(f2, v2), (f, v)])) a (exo a ca (some dx)) := by
          rw [upd_swap hne.symm, upd_upd]
        show Q V.non (upd (upd (upd H dx (exd dx [(f, v)])) a (exo a ca (some dx))) dx (exd dx [(f2, v2), (f, v)]))
        rw [e]
        exact q dx hn hne
  · intro vs H Q a hl ha q
    match vs, hl with
    | [v, v2], _ => exact ⟨a, v, v2, rfl, ha, q⟩
end
section
variable {X : Cx} {C : CT} {W : WX} {tg a b c e o : Expr} {es : List Expr} {wa wb wc wo we : WE} {was wks : WA} {wt : WT} {p pos apos cpos p2 pos' : Pos} {x n : Str} {st : Stmt} {rest sts : List Stmt} {w w2 : WS} {i k : Nat} {fs : List Str}
theorem RepF.append {K : PySem.W.Frag} {F : Hp} : ∀ {ds es : FE} {xs ys : List (Str × V)}, RepF K C F ds xs → RepF K C F es ys → RepF K C F (ds ++ es) (xs ++ ys)
  | [], _, _, _, h, t => by unfold RepF at h; subst h; exact t
  | (k, d) :: ds, _, _, _, h, t => by
    unfold RepF at h
    obtain ⟨x, r, e', h1, h2⟩ := h
    subst e'
    have := h2.append t
    rw [List.cons_append, List.cons_append]
    unfold RepF
    exact ⟨_, _, rfl, h1, this⟩
theorem RepF.nil {K : PySem.W.Frag} {F : Hp} : RepF K C F [] [] := by unfold RepF; rfl
theorem RepF.cons {K : PySem.W.Frag} {F : Hp} {k : Str} {d : D} {v : V} {ds : FE} {xs : List (Str × V)} (h : Rep K C F d v) (t : RepF K C F ds xs) : RepF K C F ((k, d) :: ds) ((k, v) :: xs) := by
  unfold RepF; exact ⟨v, xs, rfl, h, t⟩
theorem RepF.rev {K : PySem.W.Frag} {F : Hp} : ∀ {ds : FE} {xs : List (Str × V)}, RepF K C F ds xs → RepF K C F ds.reverse xs.reverse
  | [], _, h => by unfold RepF at h; subst h; exact .nil
  | (k, d) :: ds, _, h => by
    unfold RepF at h
    obtain ⟨x, r, e', h1, h2⟩ := h
    subst e'
    rw [List.reverse_cons, List.reverse_cons]
    exact h2.rev.append (.cons h1 .nil)
theorem RepF.zip {K : PySem.W.Frag} {F : Hp} : ∀ {fs : List Str} {ds : List D} {xs : List V}, RepL K C F ds xs → RepF K C F (fs.zip ds) (fs.zip xs)
  | [], _, _, _ => by rw [List.zip_nil_left, List.zip_nil_left]; exact .nil
  | f :: fs, [], _, h => by unfold RepL at h; subst h; exact .nil
  | f :: fs, d :: ds, _, h => by
    unfold RepL at h
    obtain ⟨x, r, e', h1, h2⟩ := h
    subst e'
    exact .cons h1 (RepF.zip h2)
theorem RepF.lookup {K : PySem.W.Frag} {F : Hp} {f : Str} : ∀ {ds : FE} {xs : List (Str × V)} {d : D}, RepF K C F ds xs → ds.lookup f = some d → ∃ v, xs.lookup f = some v ∧ Rep K C F d v
  | [], _, d, _, e => by cases e
  | (k, d') :: ds, _, d, h, e => by
    unfold RepF at h
    obtain ⟨x, r, e', h1, h2⟩ := h
    subst e'
    rw [List.lookup_cons] at e ⊢
    cases q : f == k with
    | true =>
      rw [q] at e
      cases e
      exact ⟨x, rfl, h1⟩
    | false =>
      rw [q] at e
      exact h2.lookup e
/-- C(e, ..), where nothing is handled: the new exception's context is None -/
theorem pmk_oexN {CX : CXT} {fI Ca : Addr} {fd : FuncData} {ps : List Str} {sp : Sp} {ta : TA} (T : OexC X.K Ca) (iC : PySem.W.findIn X.K (.ref Ca) "__init__" = some (some (.ref fI))) (tI : PySem.W.typeIn X.K (.ref fI) = some (.type "function"))
    (F1 : FnOk X.prog X.w X.K X.mg X.base CX k fI fd ps sp) (hr : Room (k + 1) X.A) (hb : Binds X.K fd ps []) (hx : Passes CX X (fun _ _ _ => False)) (hg : Gl X x) (hm : X.mg x = some (.ref Ca)) (ha : PA X (e :: es) ta)
    (hdb : (x == ("__debug__" : Str)) = false) (he : starEach (e :: es) X.env = (false, eval e X.env) :: starEach es X.env) (hpl : (backTo pos (starEach es X.env)).any (·.1) = false) :
    L2N.PMk X (.Call (.Name x p) (e :: es) [] pos) (tMkO Ca sp [] ta) := by
  intro pins s σ H Q I h
  obtain ⟨_, _, _, _, bm, _, _, _, _, _, _, _, _, _, _, hC, hbm⟩ := T.cls
  refine wpAny_Call_Name_kw (ld_glob I hg hm ?_ hdb)
  refine PySem.W.callWith_K (h₀ := X.base) I.ok.mod.kin T.kC (thn (ha.run pos pins s σ H _ I h) fun us s1 ⟨vs, H1, I1, r1, hz, q1⟩ => ⟨I1.kIn, ?_⟩) he hpl
  show wpAny _ _ (call (.ref Ca) us) _ _ _
  obtain ⟨hp, g, dr, tk, os⟩ := s1
  have hsz : hp.objs.size ≤ hp.objs.size + 1 := Nat.le_succ _
  have hq := q1 (hp.objs.size + 1) (I1.hok.fresh hsz)
  rw [List.append_nil] at hq
  have kk : ∀ b o, hp.get? b = some o → ((hp.push (PySem.W.kdv_tup us)).push (PySem.HandSPX.excO Ca hp.objs.size)).get? b = some o := fun b o e => Heap.get?_push_of_some _ (Heap.get?_push_of_some _ e)
  have hget : ((hp.push (PySem.W.kdv_tup us)).push (PySem.HandSPX.excO Ca hp.objs.size)).get? (hp.objs.size + 1) = some (PySem.HandSPX.excO Ca hp.objs.size) := by heap_get
  have I2 := I1.laid (t' := tk) (a := hp.objs.size + 1) (o := exo (hp.objs.size + 1) Ca none) (h' := (hp.push (PySem.W.kdv_tup us)).push (PySem.HandSPX.excO Ca hp.objs.size)) kk hsz (exo_ok hget)
  have r2 : Vals (V.ref (hp.objs.size + 1) :: vs) (Value.ref (hp.objs.size + 1) :: us) := .cons rfl r1
  have hl : (Value.ref (hp.objs.size + 1) :: us).length = ps.length := r2.length.symm.trans (F1.len _ _ _ _ hq)
  have hus : us.length ≤ sizeLine := by
    rw [← Paired.length r1, sizeLine_eq]
    omega
  have b2 := hb _ (Value.ref (hp.objs.size + 1) :: us) I2.kIn (by rw [List.append_nil]; exact hl)
  rw [List.append_nil] at b2
  refine wpAny_call (PySem.HandSPX.call_own F.excBase_ValueError (fun Y => PySem.HandSPX.refsVE_contains Y bm hbm) (I1.kIn _ _ hC) (PySem.W.looks_findIn I1.kIn iC) (fun self => PySem.W.bind_fn I1.kIn self tI) hus
    (codeAny_mono (F1.run _ X.stack _ _ ⟨Value.ref (hp.objs.size + 1) :: us, []⟩ (Value.ref (hp.objs.size + 1) :: us) _ _ (fun _ _ _ => False) (hr.make Ca us []) (I2.env0.make Ca us []) b2 r2 hq) fun r s' hq' => ?_))
  cases r with
  | error er => exact hx pins σ _ _ er s' I2 hq'
  | ok fl =>
    cases fl with
    | ret u =>
      obtain ⟨v, H2, os2, bare2, un2, hok2, rv, ev, d, fs, ea, ed, hd1, q2⟩ := hq'
      subst ev
      obtain ⟨h2, g2, d2, t2, os'⟩ := s'
      obtain ⟨t0, G, J, kG, ge, hoe, na⟩ := mk_end0 (d2 := d2) (t2 := t2) I1 hsz kk un2 hok2 os2 bare2 ea ed hd1
      exact ⟨rv, hp.objs.size + 1, _, _, ⟨G, g2, d2, t2, os'⟩, _, .ref Ca, some d, rfl, J, kG, ge, hoe, ⟨rfl, rfl, fun vs hv => by cases hv; rfl⟩, rfl, rfl, na, rfl, bare2, raises_own T.exC T.tyC, q2⟩
    | next => exact False.elim hq'
    | brk => exact False.elim hq'
    | cont => exact False.elim hq'
/-- raise C(..) -/
def wRaise (c : Str) (fs : List Str) (was : WA) : WS := fun k ρ μ => was ρ μ (fun ds μ1 => ds.length = fs.length ∧ k.ex ρ c (fs.zip ds).reverse μ1) (k.ex ρ)
theorem us_raise (M : XMk X.prog X.w X.K X.mg X.base C k x fs) (hfs : fs.length ≤ 1000 ∧ fs ≠ []) (hr : Room (k + 1) X.A) (hc : X.calm = true) (tk : L2N.Takes X W) (hg : Gl X x) (ha : PA X (e :: es) (upA X.K C W was)) (hdb : (x == ("__debug__" : Str)) = false)
    (he : starEach (e :: es) X.env = (false, eval e X.env) :: starEach es X.env) (hpl : (backTo pos (starEach es X.env)).any (·.1) = false) :
    PS X (.Raise (some (.Call (.Name x p) (e :: es) [] pos)) none pos') (upS X.K C W (wRaise x fs was)) := by
  obtain ⟨ca, fI, fd, ps, sp, h1, hx, h3, h4, h5, h6, h7⟩ := M.ex
  refine PS.imp (L2N.ps_raise hc tk (pmk_oexN hx.o h3 h4 h5 hr h6 passLN hg hx.g ha hdb he hpl)) fun B σ H ⟨L, F, ρ, μ, k, rl, q, u⟩ => ?_
  refine ⟨L, F, ρ, μ, _, _, rl, q, fun ds μ1 q1 F1 H1 vs s1 w1 r1 => ?_, u.x rl⟩
  obtain ⟨hl, q1⟩ := q1
  refine ⟨by rw [r1.len, hl]; exact hfs.1, fun a hn => ?_⟩
  rw [List.append_nil]
  refine h7 vs _ _ a (by rw [r1.len, hl]) upd_same fun dx hd hne => ?_
  have hd1 : H1 dx = none := by rw [upd_ne hne] at hd; exact hd
  refine ⟨rfl, dx, (fs.zip vs).reverse, upd_same, by rw [upd_ne hne, upd_same], hd1, ?_⟩
  have eH : upd (del (upd (upd (upd H1 a (exo a ca none)) dx (exd dx (fs.zip vs).reverse)) a (exo a ca (some dx))) a) dx (.xd (fs.zip vs).reverse) = upd H1 dx (.xd (fs.zip vs).reverse) := by
    funext b
    unfold upd del
    by_cases hb : b = dx
    · rw [if_pos hb, if_pos hb]
    · rw [if_neg hb, if_neg hb]
      by_cases hba : b = a
      · rw [if_pos hba, hba, hn]
      · rw [if_neg hba]
        show (if b = a then some (exo a ca (some dx)) else if b = dx then some (exd dx (fs.zip vs).reverse) else if b = a then some (exo a ca none) else H1 b) = H1 b
        rw [if_neg hba, if_neg hb, if_neg hba]
  rw [eH]
  have sF : Sub F1 (upd F1 dx (.xd (fs.zip vs).reverse)) := Sub.new (w1.fresh hd1).2
  exact u.ex x _ ρ μ1 q1 (upd F1 dx (.xd (fs.zip vs).reverse)) σ _ _ _ (s1.trans sF) (rl.to (s1.trans sF) (w1.frz hd1)) ⟨ca, h1, rfl, .inr ⟨dx, _, rfl, upd_same, ((RepF.zip r1).rev).mono sF⟩⟩

/-! ### an exception that is caught -/
/-- the names' slots are forgotten -/
theorem Rl.unset {K : PySem.W.Frag} {L F H : Hp} {ρ : Env} {μ : Mu} {σ : St} (r : Rl K C L F ρ μ σ H) (i : Nat) : Rl K C L F (ρ.set i none) μ (σ.set i none) H :=
  ⟨r.wd, by rw [List.length_set, List.length_set]; exact r.len, fun j d' e => by
    by_cases hj : j = i
    · subst hj
      by_cases hl : j < ρ.length
      · rw [List.getElem?_set_self hl] at e; cases e
      · rw [List.getElem?_eq_none (by rw [List.length_set]; omega)] at e; cases e
    · rw [List.getElem?_set_ne (Ne.symm hj)] at e ⊢
      exact r.env j d' e⟩
/-- e.f of the exception (a, ca, dx) that the suite holds -/
def wXf (a ca : Addr) (dx : Option Addr) (f : Str) (we : WE) : WE := fun ρ μ Q E => we ρ μ (fun d μ1 => ∃ c fs v, d = .exc a ca dx c fs ∧ fs.lookup f = some v ∧ Q v μ1) E
theorem Rep.exc {K : PySem.W.Frag} {F : Hp} {a ca : Addr} {dd : Option Addr} {c : Str} {fs : FE} {v : V} (h : Rep K C F (.exc a ca dd c fs) v) : v = .ref a ∧ C.xcls c = some ca ∧ ((fs = [] ∧ dd = none) ∨ ∃ dx xs, dd = some dx ∧ F dx = some (.xd xs) ∧ RepF K C F fs xs) := by unfold Rep at h; exact h
theorem Rep.ofExc {K : PySem.W.Frag} {F : Hp} {a ca : Addr} {dd : Option Addr} {c : Str} {fs : FE} (h1 : C.xcls c = some ca) (h2 : (fs = [] ∧ dd = none) ∨ ∃ dx xs, dd = some dx ∧ F dx = some (.xd xs) ∧ RepF K C F fs xs) : Rep K C F (.exc a ca dd c fs) (.ref a) := by unfold Rep; exact ⟨rfl, h1, h2⟩
theorem up_xf {a0 ca : Addr} {oe : Obj} {dx : Option Addr} {pn : List (Addr × Obj)} {f : Str} (T : XfC X.K ca) (hno : PySem.W.findIn X.K (.ref ca) f = some none) (hz : Zc (.ref ca) dx oe) (hf : ∃ vs, oe.data = .fields vs)
    (he : PE (X.suite a0 ((a0, oe) :: pn)) e (upE X.K C W we)) (hb : attributeBase e f X.env (eval e X.env) = eval e X.env) : PE (X.suite a0 ((a0, oe) :: pn)) (.Attribute e f pos) (upE X.K C W (wXf a0 ca dx f we)) :=
  PE.imp (pe_xf T hno hz hf he hb) fun σ H Q ⟨L, F, ρ, μ, Q0, E0, rl, q, uq, ux⟩ => by
    refine ⟨L, F, ρ, μ, _, E0, rl, q, fun d1 μ1 q1 F1 H1 v1 s1 w1 r1 => ?_, ux⟩
    obtain ⟨c, fs, v, rfl, hv, q⟩ := q1
    obtain ⟨e1, e2, e3⟩ := r1.exc
    rcases e3 with ⟨rfl, _⟩ | ⟨dd, xs, e4, e5, e6⟩
    · cases hv
    · obtain ⟨u, hu, ru⟩ := e6.lookup hv
      exact ⟨e1, rfl, dd, xs, u, e4, w1.sub _ _ e5, hu, uq _ _ q F1 H1 _ s1 w1 ru⟩
/-- isinstance(e, C) of it -/
def wXi (a ca : Addr) (dx : Option Addr) (is : Str → Bool) (we : WE) : WE := fun ρ μ Q E => we ρ μ (fun d μ1 => ∃ c fs, d = .exc a ca dx c fs ∧ Q (.bl (is c)) μ1) E
theorem call_isX {X : Cx} {a D : Addr} {oe : Obj} {dx : Option Addr} {cv : V} {cu : Value} {b : Bool} (hpn : (a, oe) ∈ X.pn) (C : ExcC X.K D) (hz : Zc (.ref D) dx oe) (hf : ∃ vs, oe.data = .fields vs) (hcv : ∀ u, RelV cv u → u = cu) (hb : PySem.W.kitOne X.K (.ref D) cu = some b) :
    CallR X (.builtin "isinstance") (fun xs H Q => xs = [.ref a, cv] ∧ (∀ dd, dx = some dd → ∃ fs, H dd = some (.xd fs)) ∧ Q (.bl b) H) := by
  intro pins s σ H xs us Q I r h
  obtain ⟨rfl, hd, q⟩ := h
  obtain ⟨u1, u2, rfl, r1, r2⟩ := vals2 r
  obtain rfl : u1 = Value.ref a := r1
  have e2 := hcv _ r2
  subst e2
  obtain ⟨hget, _⟩ := I.pin (a, oe) (List.mem_append.mpr (.inl hpn))
  obtain ⟨vs, hv⟩ := hf
  have hcl : (PySem.W.clsIn X.K D).isSome = true := by
    have h := C.hd
    unfold PySem.W.hasDictIn at h
    cases e : PySem.W.clsIn X.K D with
    | none => rw [e] at h; cases h
    | some z => rfl
  cases dx with
  | none =>
    have J : PySem.W.InstAt s.heap a oe D none := ⟨hget, hz.1, by unfold PySem.W.notCls; rw [hv] <;> rfl, by rw [hz.2]; trivial⟩
    exact PySem.W.kia_one (PySem.W.kitx_exc hcl C.hg C.hk C.hs C.ha C.hn C.ht C.hm) I.kIn J hb (fun z => nomatch z) fun tk => ⟨.bl b, H, I.kept (t' := tk) fun _ _ z => z, rfl, q⟩
  | some dd =>
    obtain ⟨fs, hfs⟩ := hd dd rfl
    obtain ⟨mA, hns, hr⟩ : ObjOk X.prog X.w H s.heap dd (.xd fs) := I.hok dd _ hfs
    obtain ⟨od, ho, hl⟩ := lookIn_ns hns
    have J : PySem.W.InstAt s.heap a oe D (some od) := ⟨hget, hz.1, by unfold PySem.W.notCls; rw [hv] <;> rfl, by rw [hz.2]; exact ho⟩
    exact PySem.W.kia_one (PySem.W.kitx_exc hcl C.hg C.hk C.hs C.ha C.hn C.ht C.hm) I.kIn J hb (fun z => nomatch z) fun tk => ⟨.bl b, H, I.kept (t' := tk) fun _ _ z => z, rfl, q⟩
theorem up_xi {a0 ca : Addr} {oe : Obj} {dx : Option Addr} {cv : V} {cu : Value} {is : Str → Bool} {tv : Str} {p3 : Pos} (hpn : (a0, oe) ∈ X.pn) (T : ExcC X.K ca) (hz : Zc (.ref ca) dx oe) (hf : ∃ vs, oe.data = .fields vs) (hcv : ∀ u, RelV cv u → u = cu)
    (hi : ∀ c, C.xcls c = some ca → PySem.W.kitOne X.K (.ref ca) cu = some (is c)) (hg : Gl X "isinstance") (hm : X.mg "isinstance" = none) (ha : PE X a (upE X.K C W wa)) (ht : PE X (.Name tv p3) (tC cv))
    (he : starEach [a, .Name tv p3] X.env = (false, eval a X.env) :: starEach [.Name tv p3] X.env) :
    PE X (.Call (.Name "isinstance" p) [a, .Name tv p3] [] pos) (upE X.K C W (wXi a0 ca dx is wa)) := by
  constructor
  intro pins s σ H Q I h
  cases hk : PySem.W.kitOne X.K (.ref ca) cu with
  | none =>
    have hno : ∀ c, C.xcls c ≠ some ca := fun c e => by rw [hi c e] at hk; cases hk
    have hP : PE X (.Call (.Name "isinstance" p) [a, .Name tv p3] [] pos) (tCB (fun _ _ _ => False) (tCons (upE X.K C W wa) (tCons (tC cv) tNil))) :=
      pe_callB (id := "isinstance") (fun _ _ _ _ _ _ _ _ _ z => z.elim) hg hm (by decide +kernel) (pa_cons ha (pa_cons ht pa_nil) he) (by decide) (by decide) he rfl
    refine hP.run pins s σ H Q I ?_
    obtain ⟨L, F, ρ, μ, Q0, E0, rl, q, uq, ux⟩ := h
    refine ⟨L, F, ρ, μ, _, E0, rl, q, fun d1 μ1 q1 F1 H1 v1 s1 w1 r1 => ?_, ux⟩
    obtain ⟨c, fs, rfl, q⟩ := q1
    exact hno c r1.exc.2.1
  | some b =>
    have hP := pe_callB (pos := pos) (p := p) (call_isX hpn T hz hf hcv hk) hg hm (by decide +kernel) (pa_cons ha (pa_cons ht pa_nil) he) (by decide) (by decide) he rfl
    refine hP.run pins s σ H Q I ?_
    obtain ⟨L, F, ρ, μ, Q0, E0, rl, q, uq, ux⟩ := h
    refine ⟨L, F, ρ, μ, _, E0, rl, q, fun d1 μ1 q1 F1 H1 v1 s1 w1 r1 => ?_, ux⟩
    obtain ⟨c, fs, rfl, q⟩ := q1
    obtain ⟨e1, e2, e3⟩ := r1.exc
    subst e1
    refine ⟨rfl, fun dd hd => ?_, ?_⟩
    · rcases e3 with ⟨_, rfl⟩ | ⟨dd', xs, e4, e5, _⟩
      · cases hd
      · rw [e4] at hd
        cases hd
        exact ⟨xs, w1.sub _ _ e5⟩
    · have := hi c e2
      rw [hk] at this
      cases this
      exact uq _ _ q F1 H1 _ s1 w1 .ofBl
/-- try: w except c as (slot i): ws -/
def wTry (is : Str → Bool) (i : Nat) (w : WS) (ws : Addr → Addr → Option Addr → WS) : WS := fun k ρ μ => w { k with ex := fun ρ' c fs μ' =>
  (is c = true → ∀ a ca dx, ws a ca dx { nx := fun ρ2 μ2 => k.nx (ρ2.set i none) μ2, rt := k.rt, bk := fun ρ2 μ2 => k.bk (ρ2.set i none) μ2, ct := fun ρ2 μ2 => k.ct (ρ2.set i none) μ2, ex := fun _ => wNever } (ρ'.set i (some (.exc a ca dx c fs))) μ') ∧
  (is c = false → k.ex ρ' c fs μ') } ρ μ
theorem us_try {body suite : List Stmt} {b0 : Stmt} {np : Pos} {cu : Value} {is : Str → Bool} {ws : Addr → Addr → Option Addr → WS} (hs : X.stack = X.env :: X.outer) (hf : X.env.frame = some X.env.locals) (hN : X.N.Nodup) (hi : X.N[i]? = some n) (hln : X.env.kindOf n = some .local)
    (hc : Names X x cu) (tk : L2N.Takes X W) (his : ∀ c ca, C.xcls c = some ca → PySem.W.exmOne X.K (.ref ca) cu = some (is c))
    (hb : ∀ (W' : WX) (pn : List (Addr × Obj)) (xe : Value → Shared → Prop), L2N.Takes (X.tr pn xe) W' → PassesOwn (model X.prog X.w) X.A X.env xe → PSs (X.tr pn xe) body (upS X.K C W' w))
    (hsu : ∀ (a : Addr) (oe : Obj) (ca : Addr) (dx : Option Addr) (pn : List (Addr × Obj)), (∃ c, C.xcls c = some ca ∧ is c = true) → L2N.Zn (.ref ca) dx oe → (∃ vs, oe.data = .fields vs) → PSs (X.suite a ((a, oe) :: pn)) (b0 :: suite) (upS X.K C WNo (ws a ca dx))) :
    PS X (.Try body [.ExceptHandler (some (.Name x np)) (some n) (b0 :: suite) pos'] [] [] pos) (upS X.K C W (wTry is i w ws)) := by
  refine PS.imp (L2N.ps_try_as (tb := fun W' => upS X.K C W' w) (ts := fun a cls dx B σ H => ∃ ca, cls = .ref ca ∧ (∃ c, C.xcls c = some ca ∧ is c = true) ∧ upS X.K C WNo (ws a ca dx) B σ H) hs hf hN hi hln hc tk hb fun a oe cls dx pn hz hd => ?_) fun B σ H ⟨L, F, ρ, μ, k, rl, q, u⟩ => ?_
  · constructor
    intro pins s σ H B I h
    obtain ⟨ca, rfl, hx, h⟩ := h
    exact (hsu a oe ca dx pn hx hz hd).run pins s σ H B I h
  · refine ⟨L, F, ρ, μ, _, rl, q, u.nx, u.bk, u.ct, u.rt, fun c fs ρ' μ' h F' σ' H' cls dx s r x => ?_⟩
    obtain ⟨ca, h1, rfl, hx⟩ := x
    refine ⟨is c, his c ca h1, fun e a ha => ?_, fun e => ?_⟩
    · have hr : Rep X.K C F' (.exc a ca dx c fs) (.ref a) := .ofExc h1 (by
        rcases hx with hx | ⟨d, xs, h2, h3, h4⟩
        · exact .inl hx
        · exact .inr ⟨d, xs, h2, h3, h4⟩)
      refine ⟨ca, rfl, ⟨c, h1, e⟩, L, F', _, μ', _, r.set i hr, h.1 e a ca dx, ?_⟩
      have ug := u.mono s
      exact ⟨fun ρ2 μ2 q F2 σ2 H2 s2 r2 => ug.nx _ μ2 q F2 _ H2 s2 (r2.unset i), fun ρ2 μ2 q F2 σ2 H2 s2 r2 => ug.bk _ μ2 q F2 _ H2 s2 (r2.unset i), fun ρ2 μ2 q F2 σ2 H2 s2 r2 => ug.ct _ μ2 q F2 _ H2 s2 (r2.unset i), ug.rt, fun _ _ _ _ z => z.elim⟩
    · exact u.ex c fs ρ' μ' (h.2 e) F' σ' H' _ dx s r ⟨ca, h1, rfl, hx⟩
end
end T2

set_option maxRecDepth 100000
set_option maxHeartbeats 4000000
namespace T2
open PySem PySem.Spec PyProof.Rows L2
/-! ### while an exception is handled: a comprehension over a range -/
/-- the block's context, the exception still held -/
abbrev blkH (X : Cx) (s : Shared) (H : Hp) (scope : Scope) (ce : PySem.Env) (fp : List Addr) : Cx := { X.blk s H scope ce fp with pn := X.pn }
theorem ok_blkH {X : Cx} {s : Shared} {H : Hp} {scope : Scope} {ce : PySem.Env} {fp : List Addr} (o : (X.blk s H scope ce fp).Ok) : (blkH X s H scope ce fp).Ok :=
  ⟨o.mod, o.kind, o.glob, o.blt, o.above, o.inj, o.has, o.cab, o.hd, o.frames, o.stk, o.exf, o.bs, o.bsz, o.noex, o.exfs, o.funs, o.frf⟩
theorem inv_blkH {X : Cx} {pins : List (Addr × Obj)} {σ σ' : St} {H : Hp} {s s4 : Shared} {scope : Scope} {ce : PySem.Env} {fp : List Addr} (I : Inv X pins σ H s) (J : Inv (X.blk s H scope ce fp) [] σ' H s4)
    (k : ∀ b o, s.heap.get? b = some o → s4.heap.get? b = some o) (hL : s.heap.get? ce.locals = none) : Inv (blkH X s H scope ce fp) [] σ' H s4 :=
  ⟨ok_blkH J.ok, J.os, J.bare, J.base, J.loc, J.cell, J.free, J.freeC, fun p hp => by
    have hp' : p ∈ X.pn := by
      have : p ∈ X.pn ++ ([] : List (Addr × Obj)) := hp
      rwa [List.append_nil] at this
    obtain ⟨p1, p2, p3, p4, p5⟩ := I.pin p (List.mem_append_left _ hp')
    refine ⟨k _ _ p1, p2, fun z => ?_, fun hm => ?_, p5⟩
    · rw [z, hL] at p1
      cases p1
    · exact (List.mem_cons.mp (I.stkSub p.1 hm)).elim p3 p4, J.hok, J.len⟩
section
variable {X : Cx}
theorem lc_coreH {pins : List (Addr × Obj)} {s : Shared} {σ : St} {H : Hp} {Q : VK} {elt tg iter : Expr} {ifs : List Expr} {scope : Scope} {own : List (Str × Nat)} {pos pos' : Pos} {wi : TI} {g : TG} {tt : TT} {te : TE} {use : Option (Value → Sem Unit)} {Qf : Value → Shared → Prop}
    (hc : L2H.HotC X) (hN : X.N.Nodup) (I : Inv X pins σ H s) (hi : L2H.PIH X tg iter wi) (ok : BlkOk X.N X.env.scope scope own)
    (hg : ∀ (s : Shared) (H : Hp) (C : Addr) (cl : List (Str × Addr)) (fp : List Addr), PG (blkH X s H scope (compEnvC scope cl C X.env) fp) tg g) (ht : ∀ (s : Shared) (H : Hp) (C : Addr) (cl : List (Str × Addr)) (fp : List Addr), PTs (blkH X s H scope (compEnvC scope cl C X.env) fp) ifs tt)
    (he : ∀ (s : Shared) (H : Hp) (C : Addr) (cl : List (Str × Addr)) (fp : List Addr), PE (blkH X s H scope (compEnvC scope cl C X.env) fp) elt te) (hs : ∀ x, foldedSetIterable iter X.env x = pure x)
    (h : tLc wi g tt te (own.map (·.2)) σ H Q)
    (hRR : ∀ D C s' m H', Inv X pins σ H' s' → Q (.ref D) H' → s'.heap.Ns C m → FpOk X pins H' C → compPost (model X.prog X.w) X.A X.xe use Qf (.ref D) C (.ok .next) s') :
    wpAny (model X.prog X.w) X.A (comprehension (.ListComp elt [⟨tg, iter, ifs, 0⟩] scope pos) scope X.env pos' (newList []) false (eval iter X.env) use) Qf X.xe s := by
  have hfree : ∀ y ∈ scope.names, y.2 = .free → ∃ c, X.env.cells.lookup y.1 = some c := fun y hy e => I.ok.has _ ((ok.free y hy e).imp id id)
  refine wpAny_comprehension_free (use := use) rfl hs (closure_ok hfree) ok.kind (fun y hy e => by rw [ok.uniq y hy, e]) (thn (hi.run pins s σ H _ I h) fun xv s1 hx => thn hx fun itv s2 h2 => ?_)
  obtain ⟨it, fp, tn, J, H2, e, I2, T, st2, f2, q⟩ := h2
  subst e
  refine wpAny_newObj_type (newEnv_comp ?_) (by show 0 ≤ sizeLine; decide)
  -- the new list at D
  generalize hD : s2.heap.objs.size = D
  obtain ⟨W, ⟨m0, w0⟩, turn⟩ := q D (I2.hok.fresh (Nat.le_of_eq hD))
  generalize hs3 : ({ s2 with heap := s2.heap.push { cls := .type "list", data := .seq ([] : List Value).toArray } } : Shared) = s3
  have h3 : s3.heap = s2.heap.push { cls := .type "list", data := .seq ([] : List Value).toArray } := by rw [← hs3]
  have I3 : Inv X pins σ (upd H2 D (.lst [])) s3 := by
    rw [← hs3]
    refine I2.laid (t' := s2.toks) (fun b o e => Heap.get?_push_of_some _ e) (Nat.le_of_eq hD) ⟨Nat.zero_le _, [], 0, .nil, ?_⟩
    rw [← hD]
    exact Heap.get?_push_size _ rfl
  have f3 : ∀ b ∈ fp, FpOk X pins (upd H2 D (.lst [])) b ∧ b < s3.heap.objs.size := fun b hb => by
    obtain ⟨o, e, _⟩ := T.obj _ _ st2 b hb
    have hlt : b < s2.heap.objs.size := Heap.lt_size e
    refine ⟨⟨?_, (f2 b hb).2⟩, by rw [h3, Heap.size_push]; exact Nat.lt_succ_of_lt hlt⟩
    rw [upd_ne (by rw [← hD]; exact Nat.ne_of_lt hlt)]
    exact (f2 b hb).1
  have st3 : tn 0 s3.heap := T.keep _ _ _ st2 fun b _ o e => by rw [h3]; exact Heap.get?_push_of_some _ e
  have J4 := block_start I3 ok hN f3
  have pg := hg s3 (upd H2 D (.lst [])) s3.heap.objs.size (cellsFrom (s3.heap.objs.size + 1) scope.names (cloFrom X.env.cells scope.names [])) fp
  have pt := ht s3 (upd H2 D (.lst [])) s3.heap.objs.size (cellsFrom (s3.heap.objs.size + 1) scope.names (cloFrom X.env.cells scope.names [])) fp
  have pe := he s3 (upd H2 D (.lst [])) s3.heap.objs.size (cellsFrom (s3.heap.objs.size + 1) scope.names (cloFrom X.env.cells scope.names [])) fp
  show codeAny _ _ (.compStart (.ListComp elt [⟨tg, iter, ifs, 0⟩] scope pos) 0 (.ref it) (.ref D) (compEnvC scope (cellsFrom (s3.heap.objs.size + 1) scope.names (cloFrom X.env.cells scope.names [])) s3.heap.objs.size X.env)) (compPost (model X.prog X.w) X.A X.xe use Qf (.ref D) s3.heap.objs.size) { s3 with heap := pushCells (s3.heap.push { cls := .type "dict", data := .dict #[] }) scope.names }
  have nfp : ∀ b ∈ fp, (upd H2 D (.lst [])) b = none := fun b hb => (f3 b hb).1.1
  generalize hce : compEnvC scope (cellsFrom (s3.heap.objs.size + 1) scope.names (cloFrom X.env.cells scope.names [])) s3.heap.objs.size X.env = ce at J4 pg pt pe ⊢
  have cL : ce.locals = s3.heap.objs.size := by subst hce; rfl
  generalize hH3 : upd H2 D (.lst []) = H3 at I3 J4 pg pt pe w0 nfp f3
  generalize hs4 : ({ s3 with heap := pushCells (s3.heap.push { cls := .type "dict", data := .dict #[] }) scope.names } : Shared) = s4 at J4 ⊢
  have k4 : ∀ b o, s3.heap.get? b = some o → s4.heap.get? b = some o := fun b o e => by rw [← hs4]; exact pushCells_keeps _ _ _ _ (Heap.get?_push_of_some _ e)
  have I4 := inv_blkH I3 J4 k4 (by
    rw [cL]
    cases e : s3.heap.get? s3.heap.objs.size with
    | none => rfl
    | some o => exact absurd (Heap.lt_size e) (Nat.lt_irrefl _))
  have st4 : tn 0 s4.heap := T.keep _ _ _ st3 fun b _ o e => k4 b o e
  have hcB : L2H.HotC (blkH X s3 H3 scope ce fp) := by
    obtain ⟨p, h1, h2⟩ := hc
    exact ⟨p, h1, h2⟩
  have stat : ∀ {σ' : St} {H' : Hp} {s' : Shared}, Inv (blkH X s3 H3 scope ce fp) [] σ' H' s' → (∀ b ∈ fp, H' b = none) → ∀ b ∈ fp, FpOk (blkH X s3 H3 scope ce fp) [] H' b := fun {σ' H' s'} I' hn b hb =>
    ⟨hn b hb, (I'.ok.exf b hb).1, I'.ok.exfs b hb, .inl hb, fun x c e => (I'.ok.exf b hb).2 x c e, fun p hp => (f2 b hb).2.2.2.2.2 p (List.mem_append_left _ (by
      have : p ∈ X.pn ++ ([] : List (Addr × Obj)) := hp
      rwa [List.append_nil] at this))⟩
  have loop : codeAny (model X.prog X.w) X.A (.compLoop (.ListComp elt [⟨tg, iter, ifs, 0⟩] scope pos) 0 (.ref it) (.ref D) ce) (compPost (model X.prog X.w) X.A X.xe use Qf (.ref D) s3.heap.objs.size) s4 := by
    refine compLoop_any (fun n s' => ∃ i H', Inv (blkH X s3 H3 scope ce fp) [] (wipe σ (own.map (·.2))) H' s' ∧ tn i s'.heap ∧ (∀ b ∈ fp, H' b = none) ∧ W i n H') ?_ m0 ⟨0, H3, I4, st4, nfp, w0⟩
    rintro n s5 ⟨i, H5, I5, st5, n5, w5⟩
    rcases turn i n H5 w5 with ⟨stop, qq⟩ | ⟨go, Nx, hNx, step⟩
    · refine thnF (T.done (blkH X s3 H3 scope ce fp) rfl rfl rfl hcB i [] s5 _ H5 (fun _ _ => False) I5 (stat I5 n5) st5 stop) fun r s6 ⟨hr, I6⟩ => ?_
      subst hr
      have nC : H5 s3.heap.objs.size = none := cL ▸ (show H5 ce.locals = none from I6.free)
      obtain ⟨m, hn, _⟩ := I6.loc
      have hn : s6.heap.Ns ce.locals m := hn
      rw [cL] at hn
      exact hRR D s3.heap.objs.size s6 m H5 (I3.call' (ch := fp) I6.os I6.base I6.hok I6.bare fun b hb => ⟨(f3 b hb).1.2.2.2.1, (f3 b hb).1.2.1, (f3 b hb).1.2.2.2.2.1, (f3 b hb).1.2.2.2.2.2⟩) qq hn (I3.fpOk (Nat.le_refl _) nC)
    · refine thnF (T.item (blkH X s3 H3 scope ce fp) rfl rfl rfl hcB i [] s5 _ H5 (fun _ _ => False) I5 (stat I5 n5) st5 go) fun r s6 ⟨u, hr, h6⟩ => ?_
      subst hr
      refine thnF h6 fun _ s7 ⟨x, H7, I7, r7, y7, st7, n7⟩ => ?_
      refine thnF (pg.run _ s7 _ H7 x u _ (I7.pinned (stat I7 n7) (T.obj _ _ st7)) r7 (step x H7 y7)) fun _ s8 ⟨σ8, H8, I8, hw8, q8⟩ => ?_
      refine thnF (pt.run _ s8 σ8 H8 _ I8 q8) fun b s9 ⟨H9, I9, q9⟩ => ?_
      have fin : ∀ {s' : Shared} {H' : Hp}, Inv (blkH X s3 H3 scope ce fp) ([] ++ pinsAt fp s7.heap) σ8 H' s' → Nx H' → ∃ m, m < n ∧ ∃ i H', Inv (blkH X s3 H3 scope ce fp) [] (wipe σ (own.map (·.2))) H' s' ∧ tn i s'.heap ∧ (∀ b ∈ fp, H' b = none) ∧ W i m H' := fun {s' H'} I' nx => by
        obtain ⟨m', hm, w'⟩ := hNx H' nx
        have held : ∀ b ∈ fp, ∀ o, s7.heap.get? b = some o → s'.heap.get? b = some o ∧ H' b = none := fun b hb o e => by
          obtain ⟨z1, z2, _⟩ := I'.pin (b, o) (List.mem_append_right _ (List.mem_append_right _ (mem_pinsAt hb e)))
          exact ⟨z1, z2⟩
        have hl : (wipe σ (own.map (·.2))).length = σ8.length := by rw [← hw8, wipe_length]
        refine ⟨m', hm, i + 1, H', (I'.unpinned (pins := [])).weak hl (fun j v e => ?_), T.keep _ _ _ st7 fun b hb o e => (held b hb o e).1, fun b hb => ?_, w'⟩
        · rw [← hw8] at e
          exact (wipe_some e).1
        · obtain ⟨o, e, _⟩ := T.obj _ _ st7 b hb
          exact (held b hb o e).2
      cases b with
      | false =>
        simp only [Bool.false_eq_true, if_false] at q9 ⊢
        exact fin I9 q9
      | true =>
        simp only [if_true] at q9 ⊢
        refine thnF (pe.run _ s9 σ8 H9 _ I9 q9) fun z s10 ⟨yv, H10, I10, r10, acc, hD10, hz10, nx⟩ => ?_
        exact app_ok (X := blkH X s3 H3 scope ce fp) I10 hD10 hz10 r10 fun s11 I11 => fin I11 nx
  exact codeAny_compStart_list loop (T.self X.A 0 _ _ _ st4 loop)
theorem pe_lcH {elt tg iter : Expr} {ifs : List Expr} {scope : Scope} {own : List (Str × Nat)} {pos : Pos} {wi : TI} {g : TG} {tt : TT} {te : TE} (hc : L2H.HotC X) (hN : X.N.Nodup) (hi : L2H.PIH X tg iter wi) (ok : BlkOk X.N X.env.scope scope own)
    (hg : ∀ (s : Shared) (H : Hp) (C : Addr) (cl : List (Str × Addr)) (fp : List Addr), PG (blkH X s H scope (compEnvC scope cl C X.env) fp) tg g) (ht : ∀ (s : Shared) (H : Hp) (C : Addr) (cl : List (Str × Addr)) (fp : List Addr), PTs (blkH X s H scope (compEnvC scope cl C X.env) fp) ifs tt)
    (he : ∀ (s : Shared) (H : Hp) (C : Addr) (cl : List (Str × Addr)) (fp : List Addr), PE (blkH X s H scope (compEnvC scope cl C X.env) fp) elt te) (hs : ∀ x, foldedSetIterable iter X.env x = pure x) :
    PE X (.ListComp elt [⟨tg, iter, ifs, 0⟩] scope pos) (tLc wi g tt te (own.map (·.2))) := by
  refine ⟨fun pins s σ H Q I h => ?_⟩
  rw [eval_ListComp]
  refine lc_coreH hc hN I hi ok hg ht he hs h fun D C s' m H' I' q hn f => ⟨m, hn, fun h'' sb => ?_⟩
  obtain ⟨f0, f1, f2, f3, f4, f5⟩ := f
  exact ⟨.ref D, H', I'.turned (t' := s'.toks) (fun b o hb e => (sb.2 b hb).trans e) f0 f1 f3 f4 f5, rfl, q⟩
end
section
variable {X : Cx} {C : CT} {W : WX} {tg a : Expr} {wa : WE} {p pos : Pos}
theorem PIH.imp {iter : Expr} {wi wi' : TI} (h : L2H.PIH X tg iter wi) (i : ∀ σ H R, wi' σ H R → wi σ H R) : L2H.PIH X tg iter wi' := ⟨fun pins s σ H R I q => h.run pins s σ H R I (i σ H R q)⟩
theorem up_rng1H (hg : Gl X "range") (hm : X.mg "range" = none) (ha : PE X a (upE X.K C W wa)) (hs : starEach [a] X.env = [(false, eval a X.env)]) : L2H.PIH X tg (.Call (.Name "range" p) [a] [] pos) (upI X.K C W (wRng1 wa)) :=
  PIH.imp (L2H.pi_range1H hg hm (pa_cons ha pa_nil hs) hs) fun σ H R ⟨L, F, ρ, μ, Q0, E0, rl, q, uq, ux⟩ => by
    refine ⟨L, F, ρ, μ, _, E0, rl, q, fun d μ1 q1 F1 H1 v s1 w1 r1 => ?_, ux⟩
    obtain ⟨j, rfl, h1, h2, q⟩ := q1
    exact ⟨j, by rw [r1.int], h1, h2, uq _ _ _ q F1 H1 _ s1 w1 src_rng⟩
end
/-! ### a def that is handed the caught exception -/
/-- what it keeps: the exception's class and fields, then its wish -/
abbrev SpX := Str → List (Str × D) → Mu → PQ → Prop
structure FnX (P : Program) (w : World) (K : PySem.W.Frag) (mg : Str → Option Value) (base : Heap) (C : CT) (k : Nat) (x : Str) (sp : SpX) : Prop where
  ex : ∃ f, mg x = some (.ref f) ∧ PySem.W.keepIn K (.ref f) = true ∧
    ∀ (A : Around) (outer : List PySem.Env) (s : Shared) (H : Hp) (Q : VK) (E : XK) (p : Addr × Obj) (ca : Addr) (dx : Option Addr) (c : Str) (fs : List (Str × D)) (L F : Hp) (μ : Mu) (Q0 : PQ), L2H.RoomH k A → L2H.Hot1 A p → L2H.PinOk outer H s p → L2N.Zn (.ref ca) dx p.2 →
      Env0 P w K mg base A outer s H → K.In s.heap → Rep K C F (.exc p.1 ca dx c fs) (.ref p.1) → Wd K C L F μ H → sp c fs μ Q0 → upQ K C L F Q0 Q → codeAny (model P w) A (.call (.ref f) ⟨[.ref p.1], []⟩) (CR (L2N.CX P w) outer P w H s Q E) s
theorem FnX.mono {P : Program} {w : World} {K : PySem.W.Frag} {mg : Str → Option Value} {base : Heap} {C : CT} {j k : Nat} {x : Str} {sp : SpX} (h : FnX P w K mg base C j x sp) (hk : j ≤ k) : FnX P w K mg base C k x sp := by
  obtain ⟨f, h1, h2, h3⟩ := h.ex
  exact ⟨f, h1, h2, fun A outer s H Q E p ca dx c fs L F μ Q0 hr => h3 A outer s H Q E p ca dx c fs L F μ Q0 (hr.mono hk)⟩
def wCallX (a0 ca : Addr) (dx : Option Addr) (sp : SpX) (we : WE) : WE := fun ρ μ Q E => we ρ μ (fun d μ1 => ∃ c fs, d = .exc a0 ca dx c fs ∧ sp c fs μ1 Q) E
section
variable {X : Cx} {C : CT} {W : WX} {e : Expr} {we : WE} {p pos : Pos} {x : Str} {k : Nat} {sp : SpX}
theorem up_callX {a0 ca : Addr} {oe : Obj} {dx : Option Addr} (F : FnX X.prog X.w X.K X.mg X.base C k x sp) (hr : L2H.RoomH k X.A) (hh : X.A.handled = some (.ref a0)) (hpn : (a0, oe) ∈ X.pn) (hz : L2N.Zn (.ref ca) dx oe) (hf : ∃ vs, oe.data = .fields vs)
    (tk : L2N.Takes X W) (hg : Gl X x) (he : PE X e (upE X.K C W we)) (hdb : (x == ("__debug__" : Str)) = false) (hst : starEach [e] X.env = [(false, eval e X.env)]) :
    PE X (.Call (.Name x p) [e] [] pos) (upE X.K C W (wCallX a0 ca dx sp we)) := by
  obtain ⟨f, hm, hk, R⟩ := F.ex
  constructor
  intro pins s σ H Q I h
  refine wpAny_Call_Name_kw (ld_glob I hg hm ?_ hdb)
  have ha := pa_cons he pa_nil hst
  obtain ⟨L, F0, ρ, μ, Q0, E0, rl, q, uq, ux⟩ := h
  refine PySem.W.callWith_K (h₀ := X.base) I.ok.mod.kin hk (thn (ha.run pos pins s σ H (fun vs H1 => ∃ F1 μ1 d v, vs = [v] ∧ Sub F0 F1 ∧ Wd X.K C L F1 μ1 H1 ∧ Rep X.K C F1 d v ∧ ∃ c fs, d = .exc a0 ca dx c fs ∧ sp c fs μ1 Q0) I ?_) fun us s1 ⟨vs, H1, I1, r, q1⟩ => ⟨I1.kIn, ?_⟩) hst rfl
  · exact ⟨L, F0, ρ, μ, _, E0, rl, q, fun d μ1 q1 F1 H1 v s1 w1 r1 => ⟨F1, μ1, d, v, rfl, s1, w1, r1, q1⟩, ux⟩
  · obtain ⟨F1, μ1, d, v, rfl, s01, w1, rd, c, fs, rfl, hs⟩ := q1
    have hv := rd.exc.1
    subst hv
    cases r with
    | cons ru rn =>
      cases rn
      obtain rfl := (show _ = Value.ref a0 from ru)
      have P1 := I1.pin (a0, oe) (List.mem_append_left _ hpn)
      obtain ⟨vs0, hd0⟩ := hf
      refine wpAny_call (codeAny_mono (R X.A X.stack s1 H1 Q (L2.WE W σ) (a0, oe) ca dx c fs L F1 μ1 Q0 hr ⟨hh, vs0, hd0, hz.2.2 vs0 hd0⟩ ⟨P1.1, P1.2.1, fun hm => (List.mem_cons.mp (I1.stkSub a0 hm)).elim P1.2.2.1 P1.2.2.2.1, P1.2.2.2.2⟩ hz I1.env0 I1.kIn rd w1 hs (uq.mono s01)) fun r s' hq => ?_)
      cases r with
      | error er => exact L2N.passAt tk σ pins H1 s1 er s' I1 hq
      | ok fl =>
        cases fl with
        | ret u => exact I1.after hq
        | next => exact False.elim hq
        | brk => exact False.elim hq
        | cont => exact False.elim hq
end
end T2

set_option maxRecDepth 100000
set_option maxHeartbeats 4000000
namespace T2
open PySem PySem.Spec PyProof.Rows L2
/-! ### several except clauses, each with its name -/
abbrev Cl := Value × Nat × (Addr → Value → Option Addr → TS)
def wAsM (K : PySem.W.Frag) (Wout : WX) (D : Ends) : List Cl → WX
  | [] => Wout
  | (c, i, ts) :: r => wAs K c i ts (wAsM K Wout D r) D
inductive HdsAs (X : Cx) : List ExceptHandler → List Cl → Prop
  | nil : HdsAs X [] []
  | cons {x n : Str} {c : Value} {i : Nat} {ts : Addr → Value → Option Addr → TS} {b0 : Stmt} {suite : List Stmt} {np p : Pos} {hds : List ExceptHandler} {l : List Cl} (hi : X.N[i]? = some n) (hln : X.env.kindOf n = some .local) (hc : Names X x c)
      (hsu : ∀ (a : Addr) (oe : Obj) (cls : Value) (d : Option Addr) (pn : List (Addr × Obj)), L2N.Zn cls d oe → (∃ vs, oe.data = .fields vs) → PSs (X.suite a ((a, oe) :: pn)) (b0 :: suite) (ts a cls d)) (r : HdsAs X hds l) :
      HdsAs X (.ExceptHandler (some (.Name x np)) (some n) (b0 :: suite) p :: hds) ((c, i, ts) :: l)
section
variable {X : Cx} {body : List Stmt} {h0 : ExceptHandler} {hds : List ExceptHandler} {l : List Cl} {pos : Pos} {tb : WX → TS} {Wout : WX}
theorem ps_tryM (hs : X.stack = X.env :: X.outer) (hf : X.env.frame = some X.env.locals) (hN : X.N.Nodup) (tk : L2N.Takes X Wout)
    (hb : ∀ (W : WX) (pn : List (Addr × Obj)) (xe : Value → Shared → Prop), L2N.Takes (X.tr pn xe) W → PassesOwn (model X.prog X.w) X.A X.env xe → PSs (X.tr pn xe) body (tb W))
    (hh : HdsAs X (h0 :: hds) l) : PS X (.Try body (h0 :: hds) [] [] pos) (fun D σ H => tb (wAsM X.K Wout D l) D σ H) := by
  constructor
  intro pins s σ H D I h
  have ok := I.ok
  have fr : X.A.frames = some (X.env :: X.outer) := by rw [ok.frames, hs]
  apply wpAny_Try_except
  refine wpAny_mono ((hb (wAsM X.K Wout D l) (X.pn ++ pins) (fun e t1 => wpAny (model X.prog X.w) X.A (noteFrame e X.env) (fun _ t2 => wpAny (model X.prog X.w) X.A (setFlight e none) (fun _ t3 => wpAny (model X.prog X.w) X.A (handleBy e X.env (h0 :: hds)) (SP X pins D) X.xe t3) X.xe t2) X.xe t1)
    (fun u t xx => ?_) PassesOwn.looking).run [] s σ H D (I.toTry _) h) (fun f t hsp => ?_) fun _ _ z => z
  · obtain ⟨a, B, sI, pins', ρ, G, cls, d, rfl, J0, nb, up, sky, na, os, ag, w⟩ := xx
    have J : Inv X pins ρ G sI := J0.ofTry ok
    refine L2N.Sky.land L2N.Zn.steady fr hf (show Sky B (X.env :: X.outer) a (L2N.Zn cls d) X.env.locals t.heap from hs ▸ sky) fun h3 fl up3 => ?_
    have J3 : Inv X pins ρ G { t with heap := h3 } := J.landed nb fl.1 (up.trans up3) os ag
    obtain ⟨o3, v3, e3, z3, d3⟩ := fl.there
    have nfr : a ∉ frs (X.env :: X.outer) := fun hm => by
      obtain ⟨_, o', e', q⟩ := fl.2.2.1.mem hm
      rw [e3] at e'
      cases e'
      exact q _ d3
    have nL : a ≠ X.env.locals := fun z => nfr (List.mem_filterMap.mpr ⟨X.env, List.mem_cons_self, by rw [hf, z]⟩)
    have nF : a ∉ X.fs := fun hm => by
      obtain ⟨e, he, q⟩ := List.mem_filterMap.mp hm
      exact nfr (List.mem_filterMap.mpr ⟨e, List.mem_cons_of_mem _ he, q⟩)
    have S3 := J3.suite e3 d3 na nL nF
    suffices go : ∀ {hs' : List ExceptHandler} {l' : List Cl}, HdsAs X hs' l' → wAsM X.K Wout D l' cls d ρ G → wpAny (model X.prog X.w) X.A (handleBy (.ref a) X.env hs') (SP X pins D) X.xe { t with heap := h3 } from go hh w
    intro hs' l' hk
    induction hk with
    | nil =>
      intro w
      apply wpAny_handleBy_nil
      obtain ⟨_, _, _, oe, vs, T, _, _, he, _, hd, h1, _⟩ := id fl
      unfold PySem.passOn
      refine wpAny_bind (wpAny_field he hd h1 ?_)
      have ne : ¬ ((Value.ref T == Value.none) = true) := by simp
      rw [if_neg ne]
      have last : wpAny (model X.prog X.w) X.A (setFlight (.ref a) X.env.frame) (fun _ t4 => wpAny (model X.prog X.w) X.A (throw (.ref a) : Sem Flow) (SP X pins D) X.xe t4) X.xe { t with heap := h3 } := by
        rw [hf]
        refine HandSPX.setFlight_upZ fl fun h4 hh4 up4 => wpAny_throw (tk _ _ ⟨a, B, sI, pins, ρ, G, cls, d, rfl, J, nb, (up.trans up3).trans up4, .inr (.inr (hs ▸ hh4)), na, os, ag, w⟩)
      first | exact wpAny_bind (wpAny_pure (wpAny_bind last)) | exact wpAny_bind last
    | @cons x n c i ts b0 suite np p hds2 l2 hi hln hc hsu r ih =>
      intro w
      obtain ⟨b, hb1, yes, no⟩ := w
      refine wpAny_handleBy_cons (codeAny_handlers_test ?_) (fun q => by cases q)
      have LM := PySem.W.exm_one (M := model X.prog X.w) J3.kIn (fun A Q E s' k q => wpAny_typeOf_ref (k _ _ e3) (by rw [z3.1]; exact q) : PySem.W.Looks (model X.prog X.w) h3 (typeOf (.ref a)) cls) hb1
      have named : ∀ {Q : Value → Shared → Prop} {E : Value → Shared → Prop}, Q c { t with heap := h3 } → wpAny (model X.prog X.w) (X.A.mark (some (.ref a))) (eval (.Name x np) X.env) Q E { t with heap := h3 } := fun {Q E} q => by
        obtain ⟨hg, hdb, hm | ⟨hm, hv, hn⟩⟩ := hc
        · exact ld_glob (X := X.suite a ((a, o3) :: (X.pn ++ pins))) S3 hg hm q hdb
        · exact ld_blt (X := X.suite a ((a, o3) :: (X.pn ++ pins))) S3 hg hm hv q hn hdb
      refine named (LM.here ?_)
      cases b with
      | false =>
        show wpAny _ X.A (handleBy (.ref a) X.env hds2) _ _ _
        exact ih (no rfl)
      | true =>
        apply codeAny_handlers_suite_as
        refine HandSPX.lands_againZ fl fun h4 fl4 up4 => ?_
        have J4 : Inv X pins ρ G { t with heap := h4 } := J.landed nb fl4.1 ((up.trans up3).trans up4) os ag
        obtain ⟨o4, v4, e4, z4, d4⟩ := fl4.there
        refine store_ok (X := X.suite a ((a, o4) :: (X.pn ++ pins))) (v := .ref a) (J4.suite e4 d4 na nL nF) hN hi (.inl hln) rfl (fun s5 S5 => ?_) (.inr hln)
        refine wpAny_mono ((hsu a o4 cls d (X.pn ++ pins) z4 ⟨_, d4⟩).run [] s5 _ G _ S5 (yes rfl a na)) (fun f s6 hsp => ?_) fun _ _ z => z.elim
        have goes : ∀ {σ6 : St} {H6 : Hp} {Q : Shared → Prop}, Inv (X.suite a ((a, o4) :: (X.pn ++ pins))) [] σ6 H6 s6 → (∀ s7, Inv X pins (σ6.set i none) H6 s7 → Q s7) →
            wpAny (model X.prog X.w) X.A (do bindName X.env n .none; unbindBehindTheSuite X.env n p) (fun _ s7 => Q s7) X.xe s6 := fun S6 hq => gone_ok (S6.unsuite ok) hN hi hln hq
        cases f with
        | next =>
          obtain ⟨_, _, S6, q6⟩ := hsp
          exact goes S6 fun s7 J7 => ⟨_, _, J7, q6⟩
        | brk =>
          obtain ⟨_, _, S6, q6⟩ := hsp
          exact goes S6 fun s7 J7 => ⟨_, _, J7, q6⟩
        | cont =>
          obtain ⟨_, _, S6, q6⟩ := hsp
          exact goes S6 fun s7 J7 => ⟨_, _, J7, q6⟩
        | ret u =>
          obtain ⟨_, _, _, S6, r6, q6⟩ := hsp
          exact goes S6 fun s7 J7 => ⟨_, _, _, J7, r6, q6⟩
  · cases f with
    | next =>
      obtain ⟨_, _, J, q⟩ := hsp
      exact wpAny_execs_nil ⟨_, _, J.ofTry ok, q⟩
    | brk =>
      obtain ⟨_, _, J, q⟩ := hsp
      exact ⟨_, _, J.ofTry ok, q⟩
    | cont =>
      obtain ⟨_, _, J, q⟩ := hsp
      exact ⟨_, _, J.ofTry ok, q⟩
    | ret u =>
      obtain ⟨_, _, _, J, r, q⟩ := hsp
      exact ⟨_, _, _, J.ofTry ok, r, q⟩
end
/-! .. over trees -/
abbrev ClD := (Str → Bool) × Nat × (Addr → Addr → Option Addr → WS)
def exM (k : KS) : List ClD → Env → PX
  | [], ρ => k.ex ρ
  | (is, i, ws) :: r, ρ => fun c fs μ => (is c = true → ∀ a ca dx, ws a ca dx { nx := fun ρ2 μ2 => k.nx (ρ2.set i none) μ2, rt := k.rt, bk := fun ρ2 μ2 => k.bk (ρ2.set i none) μ2, ct := fun ρ2 μ2 => k.ct (ρ2.set i none) μ2, ex := fun _ => wNever } (ρ.set i (some (.exc a ca dx c fs))) μ) ∧
    (is c = false → exM k r ρ c fs μ)
def wTryM (cl : List ClD) (w : WS) : WS := fun k ρ μ => w { k with ex := exM k cl } ρ μ
inductive HdD (X : Cx) (C : CT) : List ExceptHandler → List ClD → Prop
  | nil : HdD X C [] []
  | cons {x n : Str} {cu : Value} {i : Nat} {is : Str → Bool} {ws : Addr → Addr → Option Addr → WS} {b0 : Stmt} {suite : List Stmt} {np p : Pos} {hds : List ExceptHandler} {l : List ClD} (hi : X.N[i]? = some n) (hln : X.env.kindOf n = some .local) (hc : Names X x cu)
      (his : ∀ c ca, C.xcls c = some ca → PySem.W.exmOne X.K (.ref ca) cu = some (is c))
      (hsu : ∀ (a : Addr) (oe : Obj) (ca : Addr) (dx : Option Addr) (pn : List (Addr × Obj)), (∃ c, C.xcls c = some ca ∧ is c = true) → L2N.Zn (.ref ca) dx oe → (∃ vs, oe.data = .fields vs) → PSs (X.suite a ((a, oe) :: pn)) (b0 :: suite) (upS X.K C WNo (ws a ca dx)))
      (r : HdD X C hds l) : HdD X C (.ExceptHandler (some (.Name x np)) (some n) (b0 :: suite) p :: hds) ((is, i, ws) :: l)
/-- the clauses below, their readings above -/
theorem HdD.as {X : Cx} {C : CT} {W : WX} {hds : List ExceptHandler} {cl : List ClD} (h : HdD X C hds cl) : ∃ l : List Cl, HdsAs X hds l ∧ ∀ (L F : Hp) (D : Ends) (k : KS), UpK X.K C W L F k D → ∀ c fs ρ μ, exM k cl ρ c fs μ → ∀ F' σ H cls dx, Sub F F' → Rl X.K C L F' ρ μ σ H → XRep X.K C F' H c fs cls dx → wAsM X.K W D l cls dx σ H := by
  induction h with
  | nil => exact ⟨[], .nil, fun L F D k u c fs ρ μ h F' σ H cls dx s r x => u.ex c fs ρ μ h F' σ H cls dx s r x⟩
  | @cons x n cu i is ws b0 suite np p hds2 l2 hi hln hc his hsu r ih =>
    obtain ⟨l, h1, h2⟩ := ih
    refine ⟨(cu, i, fun a cls dx B σ H => ∃ ca, cls = .ref ca ∧ (∃ c, C.xcls c = some ca ∧ is c = true) ∧ upS X.K C WNo (ws a ca dx) B σ H) :: l, .cons hi hln hc (fun a oe cls dx pn hz hd => ?_) h1, fun L F D k u c fs ρ μ h F' σ H cls dx s r x => ?_⟩
    · constructor
      intro pins s σ H B I h
      obtain ⟨ca, rfl, hx, h⟩ := h
      exact (hsu a oe ca dx pn hx hz hd).run pins s σ H B I h
    · have x0 := x
      obtain ⟨ca, g1, rfl, hx⟩ := x
      refine ⟨is c, his c ca g1, fun e a ha => ?_, fun e => h2 L F D k u c fs ρ μ (h.2 e) F' σ H _ dx s r x0⟩
      have hr : Rep X.K C F' (.exc a ca dx c fs) (.ref a) := .ofExc g1 (by
        rcases hx with hx | ⟨d, xs, g2, g3, g4⟩
        · exact .inl hx
        · exact .inr ⟨d, xs, g2, g3, g4⟩)
      refine ⟨ca, rfl, ⟨c, g1, e⟩, L, F', _, μ, _, r.set i hr, h.1 e a ca dx, ?_⟩
      have ug := u.mono s
      exact ⟨fun ρ2 μ2 q F2 σ2 H2 s2 r2 => ug.nx _ μ2 q F2 _ H2 s2 (r2.unset i), fun ρ2 μ2 q F2 σ2 H2 s2 r2 => ug.bk _ μ2 q F2 _ H2 s2 (r2.unset i), fun ρ2 μ2 q F2 σ2 H2 s2 r2 => ug.ct _ μ2 q F2 _ H2 s2 (r2.unset i), ug.rt, fun _ _ _ _ z => z.elim⟩
theorem us_tryM {X : Cx} {C : CT} {W : WX} {w : WS} {body : List Stmt} {h0 : ExceptHandler} {hds : List ExceptHandler} {cl : List ClD} {pos : Pos} (hs : X.stack = X.env :: X.outer) (hf : X.env.frame = some X.env.locals) (hN : X.N.Nodup) (tk : L2N.Takes X W)
    (hb : ∀ (W' : WX) (pn : List (Addr × Obj)) (xe : Value → Shared → Prop), L2N.Takes (X.tr pn xe) W' → PassesOwn (model X.prog X.w) X.A X.env xe → PSs (X.tr pn xe) body (upS X.K C W' w))
    (hh : HdD X C (h0 :: hds) cl) : PS X (.Try body (h0 :: hds) [] [] pos) (upS X.K C W (wTryM cl w)) := by
  obtain ⟨l, h1, h2⟩ := hh.as (W := W)
  exact PS.imp (ps_tryM hs hf hN tk (tb := fun W' => upS X.K C W' w) hb h1) fun B σ H ⟨L, F, ρ, μ, k, rl, q, u⟩ =>
    ⟨L, F, ρ, μ, _, rl, q, u.nx, u.bk, u.ct, u.rt, fun c fs ρ' μ' h F' σ' H' cls dx s r x => h2 L F B k u c fs ρ' μ' h F' σ' H' cls dx s r x⟩
end T2

set_option maxRecDepth 100000
set_option maxHeartbeats 4000000
namespace T2
open PySem PySem.Spec PyProof.Rows L2
section
variable {X : Cx} {C : CT} {W : WX} {tg a b c e o : Expr} {es : List Expr} {wa wb wc wo we : WE} {was wks : WA} {wt : WT} {p pos apos cpos p2 pos' : Pos} {x n : Str}
/-! ### {k: v, ..} -/
def wPairs : List (WE × WE) → Env → Mu → (List (D × D) → Mu → Prop) → PX → Prop
  | [], _, μ, Q, _ => Q [] μ
  | (k, v) :: r, ρ, μ, Q, E => k ρ μ (fun x μ1 => v ρ μ1 (fun y μ2 => wPairs r ρ μ2 (fun ps μ3 => Q ((x, y) :: ps) μ3) E) E) E
def keysOf : List (D × D) → Option (List (Key × D))
  | [] => some []
  | (x, y) :: r => match keyOf x, keysOf r with
    | some k, some ks => some ((k, y) :: ks)
    | _, _ => none
def wDict (ps : List (WE × WE)) : WE := fun ρ μ Q E => wPairs ps ρ μ (fun xs μ1 => ∃ ks, keysOf xs = some ks ∧ ks.length ≤ 15 ∧ Q (.dct (kmerge [] ks)) μ1) E
def wDictM (ps : List (WE × WE)) : WE := fun ρ μ Q E => wPairs ps ρ μ (fun xs μ1 => ∃ ks, keysOf xs = some ks ∧ ks.length ≤ 15 ∧ ∀ a, μ1 a = none → Q (.raw a) (mset μ1 a (.dct (kmerge [] ks)))) E
def RepP (K : PySem.W.Frag) (C : CT) (F : Hp) : List (D × D) → List (V × V) → Prop := Paired fun p q => Rep K C F p.1 q.1 ∧ Rep K C F p.2 q.2
theorem RepP.mono {K : PySem.W.Frag} {F G : Hp} (s : Sub F G) {ds : List (D × D)} {vs : List (V × V)} (h : RepP K C F ds vs) : RepP K C G ds vs := Paired.mapP h fun _ _ h => ⟨h.1.mono s, h.2.mono s⟩
theorem RepP.keys {K : PySem.W.Frag} {F : Hp} : ∀ {ds : List (D × D)} {vs : List (V × V)} {ks : List (Key × D)}, RepP K C F ds vs → keysOf ds = some ks → ∃ kvs : List (Key × V), vs = kvs.map (fun kv => (kV kv.1, kv.2)) ∧ RepK K C F ks kvs
  | _, _, ks, .nil, e => by cases e; exact ⟨[], rfl, .nil⟩
  | _, _, ks, .cons (a := (x, y)) (b := (u, v)) h t, e => by
    unfold keysOf at e
    split at e
    · rename_i k ks' e1 e2
      cases e
      obtain ⟨kvs, rfl, r⟩ := RepP.keys t e2
      have := keyOf_kV h.1 e1
      dsimp only at this
      subst this
      exact ⟨(k, v) :: kvs, rfl, .cons h.2 r⟩
    · cases e
theorem up_pairs {W : WX} : ∀ (ps : List (WE × WE)) (σ : St) (L F : Hp) (ρ : Env) (μ : Mu) (H : Hp) (Q0 : List (D × D) → Mu → Prop) (E0 : PX) (Q : List (V × V) → Hp → Prop), Rl X.K C L F ρ μ σ H → wPairs ps ρ μ Q0 E0 →
    (∀ ds μ', Q0 ds μ' → ∀ F' H' vs, Sub F F' → Wd X.K C L F' μ' H' → RepP X.K C F' ds vs → Q vs H') → upX X.K C L F σ E0 W → tPairs (ps.map fun q => (upE X.K C W q.1, upE X.K C W q.2)) σ H Q
  | [], σ, L, F, ρ, μ, H, Q0, E0, Q, rl, q, uq, ux => uq [] μ q F H [] (Sub.refl F) rl.wd .nil
  | (k, v) :: r, σ, L, F, ρ, μ, H, Q0, E0, Q, rl, q, uq, ux => by
    refine ⟨L, F, ρ, μ, _, E0, rl, q, fun d1 μ1 q1 F1 H1 v1 s1 w1 r1 => ?_, ux⟩
    refine ⟨L, F1, ρ, μ1, _, E0, rl.to s1 w1, q1, fun d2 μ2 q2 F2 H2 v2 s2 w2 r2 => ?_, ux.mono s1⟩
    refine up_pairs r σ L F2 ρ μ2 H2 _ E0 _ (rl.to (s1.trans s2) w2) q2 (fun ds μ3 q3 F3 H3 vs s3 w3 r3 => ?_) (ux.mono (s1.trans s2))
    exact uq _ μ3 q3 F3 H3 _ ((s1.trans s2).trans s3) w3 (.cons ⟨(r1.mono s2).mono s3, r2.mono s3⟩ r3)
theorem RepL.len0 {α : Type} {xs : List α} (h : xs = []) : xs.length = 0 := by rw [h]; rfl
theorem up_disp0 {ps : List (WE × WE)} {w0 : WE} {keys : List (Option Expr)} {values : List Expr} {Qd : PQ → List (Key × D) → Mu → Prop} (h : PPs X pos keys values (ps.map fun q => (upE X.K C W q.1, upE X.K C W q.2)))
    (hall : keys.all (·.isSome) = true) (hl : keys.length = values.length) (h0 : keys ≠ []) (h15 : keys.length ≤ 15)
    (hw : ∀ ρ μ Q E, w0 ρ μ Q E → wPairs ps ρ μ (fun xs μ1 => ∃ ks, keysOf xs = some ks ∧ ks.length ≤ 15 ∧ Qd Q ks μ1) E)
    (fin : ∀ Q0 Q L F F' μ' H' p ks kvs, Qd Q0 ks μ' → upQ X.K C L F Q0 Q → Sub F F' → Wd X.K C (upd L p (.dK (mergeK [] kvs))) F' μ' H' → RepK X.K C F' (kmerge [] ks) (mergeK [] kvs) → L p = none → Q (.ref p) H') :
    PE X (.Dict keys values pos) (upE X.K C W w0) :=
  PE.imp (pe_disp h hall hl h0 h15) fun σ H Q ⟨L, F, ρ, μ, Q0, E0, rl, q, uq, ux⟩ => by
    intro p hp
    have hL := rl.wd.lNone hp
    refine up_pairs ps σ (upd L p (.dK [])) F ρ μ (upd H p (.dK [])) _ E0 _ (rl.to' (Sub.refl F) (rl.wd.lock hp)) (hw _ _ _ _ q) (fun ds μ1 q1 F1 H1 vs s1 w1 r1 => ?_) (fun c fs μ' h F' H' cls dx s w x => ?_)
    · obtain ⟨ks, hk, hlen, q1⟩ := q1
      obtain ⟨kvs, rfl, rk⟩ := r1.keys hk
      refine ⟨w1.lk p _ upd_same, kvs, rfl, by rw [rk.len]; exact hlen, ?_⟩
      exact fin Q0 Q L F F1 μ1 _ p ks kvs q1 uq s1 w1.relock (RepK.merge rk .nil) hL
    · refine ux c fs μ' h F' H' cls dx s ⟨w.sub, fun a o e => ?_, w.mu, fun a m e => ?_, fun a o e => ?_⟩ x
      · exact w.lk a o (by rw [upd_ne (fun z => by subst z; rw [hL] at e; cases e)]; exact e)
      · have := w.ml a m e
        by_cases ha : a = p
        · subst ha; exact hL
        · rw [upd_ne ha] at this; exact this
      · exact w.dj a o (by rw [upd_ne (fun z => by subst z; rw [hL] at e; cases e)]; exact e)
theorem up_dict {ps : List (WE × WE)} {keys : List (Option Expr)} {values : List Expr} (h : PPs X pos keys values (ps.map fun q => (upE X.K C W q.1, upE X.K C W q.2))) (hall : keys.all (·.isSome) = true) (hl : keys.length = values.length) (h0 : keys ≠ []) (h15 : keys.length ≤ 15) :
    PE X (.Dict keys values pos) (upE X.K C W (wDict ps)) :=
  up_disp0 (Qd := fun Q ks μ1 => Q (.dct (kmerge [] ks)) μ1) h hall hl h0 h15 (fun _ _ _ _ h => h) fun Q0 Q L F F' μ' H' p ks kvs q uq s w r hL => by
    have sF : Sub F' (upd F' p (.dK (mergeK [] kvs))) := Sub.new (w.dj p _ upd_same)
    exact uq _ _ q _ H' _ (s.trans sF) (w.unlockF hL) (.ofDct upd_same (r.mono sF))
theorem up_dictM {ps : List (WE × WE)} {keys : List (Option Expr)} {values : List Expr} (h : PPs X pos keys values (ps.map fun q => (upE X.K C W q.1, upE X.K C W q.2))) (hall : keys.all (·.isSome) = true) (hl : keys.length = values.length) (h0 : keys ≠ []) (h15 : keys.length ≤ 15) :
    PE X (.Dict keys values pos) (upE X.K C W (wDictM ps)) :=
  up_disp0 (Qd := fun Q ks μ1 => ∀ a, μ1 a = none → Q (.raw a) (mset μ1 a (.dct (kmerge [] ks)))) h hall hl h0 h15 (fun _ _ _ _ h => h) fun Q0 Q L F F' μ' H' p ks kvs q uq s w r hL =>
    uq _ _ (q p w.lockNone) F' H' _ s (w.unlockM hL ⟨_, w.lk p _ upd_same, r⟩) .ofRaw
def wDict0M : WE := fun _ μ Q _ => ∀ a, μ a = none → Q (.raw a) (mset μ a (.dct []))
theorem up_dict0M : PE X (.Dict [] [] pos) (upE X.K C W wDict0M) := PE.imp pe_dnewK fun σ H Q ⟨L, F, ρ, μ, Q0, E0, rl, q, uq, ux⟩ => fun p hp =>
  uq _ _ (q p (rl.wd.fresh hp).1) F _ _ (Sub.refl F) (rl.wd.new hp ⟨[], upd_same, .nil⟩) .ofRaw
def wDict0T : WE := fun _ μ Q _ => ∀ a, μ a = none → Q (.raw a) (mset μ a (.dts []))
theorem up_dict0T : PE X (.Dict [] [] pos) (upE X.K C W wDict0T) := PE.imp pe_dnewT fun σ H Q ⟨L, F, ρ, μ, Q0, E0, rl, q, uq, ux⟩ => fun p hp =>
  uq _ _ (q p (rl.wd.fresh hp).1) F _ _ (Sub.refl F) (rl.wd.new hp ⟨[], upd_same, rfl⟩) .ofRaw
def wDict0 : WE := fun _ μ Q _ => Q (.dct []) μ
theorem up_dict0 : PE X (.Dict [] [] pos) (upE X.K C W wDict0) := PE.imp pe_dnewK fun σ H Q ⟨L, F, ρ, μ, Q0, E0, rl, q, uq, ux⟩ => fun p hp =>
  uq _ _ q (upd F p (.dK [])) _ _ (Sub.new (rl.wd.fresh hp).2) (rl.wd.frz hp) (.ofDct upd_same .nil)
end

/-! ### what the syntax must be -/
def notStar : Expr → Bool
  | .Starred .. => false
  | _ => true
theorem star_cons {e : Expr} {es : List Expr} {env : PySem.Env} (h : notStar e = true) : starEach (e :: es) env = (false, eval e env) :: starEach es env := by
  cases e <;> first | rfl | cases h
theorem star_any {env : PySem.Env} {pos : Pos} : ∀ {es : List Expr}, es.all notStar = true → (backTo pos (starEach es env)).any (·.1) = false
  | [], _ => rfl
  | e :: es, h => by
    rw [List.all_cons, Bool.and_eq_true] at h
    rw [star_cons h.1]
    have := star_any (env := env) (pos := pos) h.2
    unfold backTo at this ⊢
    rw [List.map_cons, List.any_cons, this]
    rfl
theorem star_all {env : PySem.Env} {pos : Pos} : ∀ {es : List Expr}, es.all notStar = true → (backTo pos (starEach es env)).all (fun x => !x.1) = true
  | [], _ => rfl
  | e :: es, h => by
    rw [List.all_cons, Bool.and_eq_true] at h
    rw [star_cons h.1]
    have := star_all (env := env) (pos := pos) h.2
    unfold backTo at this ⊢
    rw [List.map_cons, List.all_cons, this]
    rfl
def plainIx : Expr → Bool
  | .Slice .. => false
  | _ => true
theorem plainIx_ok {b : Expr} (h : plainIx b = true) : PlainIx b := fun o i => by cases b <;> first | rfl | cases h
def plainT : Expr → Bool
  | .UnaryOp .Not _ _ => false
  | .BoolOp .. => false
  | .IfExp .. => false
  | .Compare .. => false
  | _ => true
theorem plainT_ok {e : Expr} {env : PySem.Env} (h : plainT e = true) : ∀ whole, isTrue e env whole = (do let v ← whole; standAt e.pos; holding [v] (truthy v)) := fun whole => by
  cases e with
  | UnaryOp op a p => cases op <;> first | rfl | cases h
  | _ => first | rfl | cases h
def plainBase : Expr → Bool
  | .Call .. => false
  | _ => true
theorem plainBase_ok {o : Expr} {f : Str} {env : PySem.Env} (h : plainBase o = true) : attributeBase o f env (eval o env) = eval o env := by
  cases o <;> first | rfl | cases h
def plainSet : Expr → Bool
  | .Set .. => false
  | _ => true
theorem plainSet_ok {o : Expr} {env : PySem.Env} (h : plainSet o = true) : ∀ x, foldedSetIterable o env x = pure x := fun x => by
  cases o <;> first | rfl | cases h
def plainSw : Expr → Bool
  | .ListComp .. => false
  | .SetComp .. => false
  | .DictComp .. => false
  | _ => true
theorem plainSw_ok {o : Expr} {t : Option Expr} {l : Nat} {env : PySem.Env} (h : plainSw o = true) : swapsWith o t l env = pure false := by
  cases o <;> first | rfl | cases h
/-- the names that no rule may meet -/
def okName (x : Str) : Bool := !(x == ("__debug__" : Str)) && !(x == ("__classdict__" : Str)) && !(x == ("__name__" : Str))
theorem okName_ok {x : Str} (h : okName x = true) : (x == ("__debug__" : Str)) = false ∧ (x == ("__classdict__" : Str)) = false ∧ x ≠ "__name__" := by
  unfold okName at h
  simp only [Bool.and_eq_true, Bool.not_eq_true'] at h
  refine ⟨h.1.1, h.1.2, fun e => ?_⟩
  rw [e] at h
  exact absurd h.2 (by decide)
def visB (sc : Scope) (x : Str) : Bool := match sc.names.lookup x with
  | some .local => true
  | some .cell => true
  | some .free => true
  | _ => false
theorem visB_ok {sc : Scope} {x : Str} (h : visB sc x = true) : Vis sc x := by
  unfold visB at h
  split at h
  · exact .inl (by assumption)
  · exact .inr (.inl (by assumption))
  · exact .inr (.inr (by assumption))
  · cases h
def locB (sc : Scope) (x : Str) : Bool := match sc.names.lookup x with
  | some .local => true
  | _ => false
theorem locB_ok {sc : Scope} {x : Str} (h : locB sc x = true) : sc.names.lookup x = some .local := by
  unfold locB at h
  split at h
  · assumption
  · cases h
def glB (sc : Scope) (x : Str) : Bool := match sc.names.lookup x with
  | some .globalImplicit => true
  | _ => false
theorem glB_ok {X : Cx} {sc : Scope} {x : Str} (hs : X.env.scope = sc) (h : glB sc x = true) : Gl X x := by
  unfold glB at h
  split at h
  · subst hs; assumption
  · cases h
end T2

set_option maxRecDepth 100000
set_option maxHeartbeats 4000000
namespace T2
open PySem PySem.Spec PyProof.Rows L2
/-! ### objects of the text's own classes -/
def getO (μ : Mu) : D → Option (Str × FE)
  | .obj c fs => some (c, fs)
  | .raw a => match μ a with
    | some (.ins c fs) => some (c, fs)
    | _ => none
  | _ => none
section
variable {K : PySem.W.Frag} {C : CT} {L F G H : Hp} {μ : Mu} {d : D} {v : V}
theorem Rep.obj {c : Str} {fs : FE} (h : Rep K C F (.obj c fs) v) : ∃ a ca dx xs, v = .ref a ∧ C.cls c = some ca ∧ F a = some (.ins ca dx xs) ∧ RepF K C F fs xs := by unfold Rep at h; exact h
theorem Wd.getO {c : Str} {fs : FE} (w : Wd K C L F μ H) (r : Rep K C F d v) (h : T2.getO μ d = some (c, fs)) : ∃ a ca dx xs, v = .ref a ∧ C.cls c = some ca ∧ H a = some (.ins ca dx xs) ∧ RepF K C F fs xs := by
  cases d with
  | obj c' fs' =>
    cases h
    obtain ⟨a, ca, dx, xs, e, hc, q, r⟩ := r.obj
    exact ⟨a, ca, dx, xs, e, hc, w.sub _ _ q, r⟩
  | raw a =>
    simp only [T2.getO] at h
    split at h
    · rename_i c' fs' e
      cases h
      obtain ⟨ca, dx, xs, e0, e1, e2⟩ := (w.mu a _ e).2
      exact ⟨a, ca, dx, xs, r.raw, e0, e1, e2⟩
    · cases h
  | _ => cases h
theorem RepF.look2 {f : Str} : ∀ {fs : FE} {xs : List (Str × V)}, RepF K C F fs xs → (∀ d, fs.lookup f = some d → ∃ v, xs.lookup f = some v ∧ Rep K C F d v) ∧ (fs.lookup f = none → xs.lookup f = none)
  | [], _, h => by unfold RepF at h; subst h; exact ⟨fun d e => (nomatch e), fun _ => rfl⟩
  | (k', d') :: fs, _, h => by
    unfold RepF at h
    obtain ⟨x, r, e, h1, h2⟩ := h
    subst e
    have ih := RepF.look2 (f := f) h2
    by_cases hk : f = k'
    · subst hk
      simp only [List.lookup_cons, beq_self_eq_true]
      exact ⟨fun d e => ⟨x, rfl, by cases e; exact h1⟩, fun e => (nomatch e)⟩
    · simp only [List.lookup_cons, beq_eq_false_iff_ne.mpr hk]
      exact ih
theorem RepF.len : ∀ {fs : FE} {xs : List (Str × V)}, RepF K C F fs xs → xs.length = fs.length
  | [], _, h => by unfold RepF at h; rw [h]; rfl
  | (k, d) :: ds, _, h => by
    unfold RepF at h
    obtain ⟨x, r, e, _, t⟩ := h
    rw [e, List.length_cons, List.length_cons, RepF.len t]
def putFD (f : Str) (d : D) : FE → FE
  | [] => [(f, d)]
  | (g, x) :: r => if g = f then (g, d) :: r else (g, x) :: putFD f d r
theorem RepF.put {f : Str} (hd : Rep K C F d v) : ∀ {fs : FE} {xs : List (Str × V)}, RepF K C F fs xs → RepF K C F (putFD f d fs) (putF f v xs)
  | [], _, h => by
    unfold RepF at h
    subst h
    unfold putFD putF RepF
    exact ⟨v, [], rfl, hd, by unfold RepF; rfl⟩
  | (k', d') :: fs, _, h => by
    unfold RepF at h
    obtain ⟨x, r, e, h1, h2⟩ := h
    subst e
    unfold putFD putF
    by_cases hk : k' = f
    · rw [if_pos hk, if_pos hk]
      unfold RepF
      exact ⟨v, r, rfl, hd, h2⟩
    · rw [if_neg hk, if_neg hk]
      unfold RepF
      exact ⟨x, _, rfl, h1, RepF.put hd h2⟩
/-- an object that is not changed any more -/
def mdel (μ : Mu) (a : Addr) : Mu := fun b => if b = a then none else μ b
theorem mdel_ne {a b : Addr} (h : b ≠ a) : mdel μ a b = μ b := if_neg h
theorem mdel_same {a : Addr} : mdel μ a a = none := if_pos rfl
theorem Wd.stop (w : Wd K C L F μ H) {a : Addr} {m : MO} {o : HO} (h : μ a = some m) (ho : H a = some o) : Wd K C L (upd F a o) (mdel μ a) H where
  sub := fun b u e => by
    by_cases hb : b = a
    · subst hb; rw [upd_same] at e; rw [ho]; exact e
    · rw [upd_ne hb] at e; exact w.sub b u e
  lk := w.lk
  dj := fun b u e => by
    have hb : b ≠ a := fun z => by subst z; rw [w.ml b m h] at e; cases e
    rw [upd_ne hb]; exact w.dj b u e
  ml := fun b m' e => by
    by_cases hb : b = a
    · subst hb; rw [mdel_same] at e; cases e
    · rw [mdel_ne hb] at e; exact w.ml b m' e
  mu := fun b m' e => by
    by_cases hb : b = a
    · subst hb; rw [mdel_same] at e; cases e
    · rw [mdel_ne hb] at e
      obtain ⟨h1, h2⟩ := w.mu b m' e
      refine ⟨by rw [upd_ne hb]; exact h1, h2.mono (fun x u q => ?_) rfl⟩
      have hx : x ≠ a := fun z => by subst z; rw [(w.mu x m h).1] at q; cases q
      rw [upd_ne hx]; exact q
end
section
variable {X : Cx} {C : CT} {W : WX} {tg a b c e o value : Expr} {es : List Expr} {wa wb wc wo we : WE} {was wks : WA} {p pos apos cpos p2 pos' : Pos} {x n m f : Str} {k : Nat} {sp : SpD}
def wFld (f : Str) (we : WE) : WE := fun ρ μ Q E => we ρ μ (fun x μ1 => ∃ c fs v, getO μ1 x = some (c, fs) ∧ fs.lookup f = some v ∧ Q v μ1) E
theorem up_fld (hc : ∀ c ca, C.cls c = some ca → Cls X.K ca ∧ NoAttr X.K ca f) (ha : PE X a (upE X.K C W wa)) (hb : attributeBase a f X.env (eval a X.env) = eval a X.env) : PE X (.Attribute a f pos) (upE X.K C W (wFld f wa)) :=
  PE.imp (pe_fld ha hb) fun σ H Q ⟨L, F, ρ, μ, Q0, E0, rl, q, uq, ux⟩ => by
    refine ⟨L, F, ρ, μ, _, E0, rl, q, fun d1 μ1 q1 F1 H1 v1 s1 w1 r1 => ?_, ux⟩
    obtain ⟨c, fs, d, e, hl, q⟩ := q1
    obtain ⟨p, ca, dx, xs, rfl, h1, h2, h3⟩ := w1.getO r1 e
    obtain ⟨v, hv, rv⟩ := h3.look2.1 d hl
    obtain ⟨g1, g2⟩ := hc c ca h1
    exact ⟨p, ca, dx, xs, v, rfl, h2, g1, g2, hv, uq _ _ q F1 H1 v s1 w1 rv⟩
def wSetF (f : Str) (wo we : WE) : WS := fun k ρ μ => we ρ μ (fun y μ1 => wo ρ μ1 (fun x μ2 => ∃ a c fs, x = .raw a ∧ μ2 a = some (.ins c fs) ∧ fs.length < 1000 ∧ k.nx ρ (mset μ2 a (.ins c (putFD f y fs)))) (k.ex ρ)) (k.ex ρ)
theorem us_fld (hc : ∀ c ca, C.cls c = some ca → Cls X.K ca ∧ NoAttr X.K ca f) (ho : PE X o (upE X.K C W wo)) (he : PE X value (upE X.K C W we)) (hs : swapsWith value (some (.Attribute o f pos')) pos.line X.env = pure false) :
    PS X (.Assign [.Attribute o f pos'] value pos) (upS X.K C W (wSetF f wo we)) := PS.imp (ps_fld ho he hs) fun B σ H ⟨L, F, ρ, μ, k, rl, q, u⟩ => by
  refine ⟨L, F, ρ, μ, _, _, rl, q, fun d1 μ1 q1 F1 H1 v1 s1 w1 r1 => ?_, u.x rl⟩
  refine ⟨L, F1, ρ, μ1, _, _, rl.to s1 w1, q1, fun d2 μ2 q2 F2 H2 v2 s2 w2 r2 => ?_, (u.mono s1).x (rl.to s1 w1)⟩
  obtain ⟨a, c, fs, rfl, hm, hl, q⟩ := q2
  obtain ⟨ca, dx, xs, h1, h2, h3⟩ := (w2.mu a _ hm).2
  obtain ⟨g1, g2⟩ := hc c ca h1
  refine ⟨a, ca, dx, xs, r2.raw, h2, g1, g2, by rw [h3.len]; exact hl, ?_⟩
  have w3 := w2.put hm (o := .ins ca dx (putF f v1 xs)) (m := .ins c (putFD f d1 fs)) ⟨ca, dx, _, h1, upd_same, h3.put (r1.mono s2)⟩
  exact u.nx _ _ q F2 _ _ (s1.trans s2) (rl.to (s1.trans s2) w3)
/-! methods, properties, constructors -/
structure MethAt (P : Program) (w : World) (K : PySem.W.Frag) (mg : Str → Option Value) (base : Heap) (C : CT) (k : Nat) (c m : Str) (n : Nat) (sp : SpD) : Prop where
  ex : ∃ ca f, C.cls c = some ca ∧ Cls K ca ∧ Meth K ca m f ∧ RunAt P w K mg base C k f (n + 1) [] sp
theorem MethAt.mono {P : Program} {w : World} {K : PySem.W.Frag} {mg : Str → Option Value} {base : Heap} {C : CT} {j k : Nat} {c m : Str} {n : Nat} {sp : SpD} (h : MethAt P w K mg base C j c m n sp) (hk : j ≤ k) : MethAt P w K mg base C k c m n sp := by
  obtain ⟨ca, f, h1, h2, h3, h4⟩ := h.ex
  exact ⟨ca, f, h1, h2, h3, h4.mono hk⟩
def wMeth (c m : Str) (n : Nat) (sp : SpD) (wo : WE) (was : WA) : WE := fun ρ μ Q E => wo ρ μ (fun x μ1 => (∃ fs, getO μ1 x = some (c, fs) ∧ fs.lookup m = none) ∧ was ρ μ1 (fun ds μ2 => ds.length = n ∧ sp (x :: ds) μ2 Q E) E) E
theorem up_meth {cn : Str} {nn : Nat} {pl : Sem Bool} (F : MethAt X.prog X.w X.K X.mg X.base C k cn m nn sp) (hr : Room k X.A) (tk : L2N.Takes X W) (ho : PE X o (upE X.K C W wo)) (ha : PA X (e :: es) (upA X.K C W was))
    (hst : starEach (e :: es) X.env = (false, eval e X.env) :: starEach es X.env) (hpl : (backTo pos (starEach es X.env)).any (·.1) = false)
    (ht : eval (.Call (.Attribute o m apos) (e :: es) [] pos) X.env = (do
      let ov ← eval o X.env
      standAt apos.atName
      let (f, first) ← holding [ov] (getMethod ov m pl)
      callWith pos f first (backTo pos (starEach (e :: es) X.env)) (backToKw pos (keywordEach [] X.env)))) :
    PE X (.Call (.Attribute o m apos) (e :: es) [] pos) (upE X.K C W (wMeth cn m nn sp wo was)) := by
  obtain ⟨ca, f, hc, hcl, hm, R⟩ := F.ex
  refine ⟨fun pins s σ H Q I h => ?_⟩
  obtain ⟨L, F0, ρ, μ, Q0, E0, rl, q, uq, ux⟩ := h
  refine PySem.W.methodCall_KW (pl := pl) (thn (ho.run pins s σ H (fun v H' => ∃ F' d μ', Sub F0 F' ∧ Wd X.K C L F' μ' H' ∧ Rep X.K C F' d v ∧ (∃ fs, getO μ' d = some (cn, fs) ∧ fs.lookup m = none) ∧ was ρ μ' (fun ds μ2 => ds.length = nn ∧ sp (d :: ds) μ2 Q0 E0) E0) I
    ⟨L, F0, ρ, μ, _, E0, rl, q, fun d1 μ1 q1 F1 H1 v1 s1 w1 r1 => ⟨F1, d1, μ1, s1, w1, r1, q1⟩, ux⟩) fun u s1 ⟨v, H1, I1, rx, F1, d1, μ1, sb1, w1, r1, ⟨fs, hg, hl⟩, q1⟩ => ?_) ht
  obtain ⟨a, ca', dx, xs, rfl, h1, h2, h3⟩ := w1.getO r1 hg
  rw [hc] at h1
  cases h1
  obtain rfl : u = Value.ref a := rx
  refine getmeth_ok I1 h2 hcl hm (h3.look2.2 hl) ?_
  refine PySem.W.callWith_K (first := [.ref a]) (h₀ := X.base) I1.ok.mod.kin hm.kp (thn (ha.run pos pins s1 σ H1 (fun vs H' => ∃ F' ds μ', Sub F1 F' ∧ Wd X.K C L F' μ' H' ∧ RepL X.K C F' ds vs ∧ ds.length = nn ∧ sp (d1 :: ds) μ' Q0 E0) I1
    ⟨L, F1, ρ, μ1, _, E0, rl.to sb1 w1, q1, fun ds μ2 q2 F2 H2 vs s2 w2 r2 => ⟨F2, ds, μ2, s2, w2, r2, q2.1, q2.2⟩, ux.mono sb1⟩) fun us s2 ⟨vs, H2, I2, r, F2, ds, μ2, sb2, w2, r2, hl2, q2⟩ => ⟨I2.kIn, ?_⟩) hst hpl
  have := run_at (us := .ref a :: us) (ws := []) (vs := .ref a :: vs) (zs := []) (Q := Q) R hr tk I2 (.cons rfl r) .nil (by rw [List.length_cons, r2.len, hl2]) rfl (by
    rw [List.append_nil]
    exact ⟨L, F2, μ2, d1 :: ds, Q0, E0, .cons (r1.mono sb2) r2, w2, q2, uq.mono (sb1.trans sb2), ux.mono (sb1.trans sb2)⟩)
  exact this
theorem up_meth0 {cn : Str} {pl : Sem Bool} (F : MethAt X.prog X.w X.K X.mg X.base C k cn m 0 sp) (hr : Room k X.A) (tk : L2N.Takes X W) (ho : PE X o (upE X.K C W wo))
    (ht : eval (.Call (.Attribute o m apos) [] [] pos) X.env = (do
      let ov ← eval o X.env
      standAt apos.atName
      let (f, first) ← holding [ov] (getMethod ov m pl)
      callWith pos f first (backTo pos (starEach [] X.env)) (backToKw pos (keywordEach [] X.env)))) :
    PE X (.Call (.Attribute o m apos) [] [] pos) (upE X.K C W (wMeth cn m 0 sp wo wNil)) := by
  obtain ⟨ca, f, hc, hcl, hm, R⟩ := F.ex
  refine ⟨fun pins s σ H Q I h => ?_⟩
  obtain ⟨L, F0, ρ, μ, Q0, E0, rl, q, uq, ux⟩ := h
  refine PySem.W.methodCall_KW (pl := pl) (thn (ho.run pins s σ H (fun v H' => ∃ F' d μ', Sub F0 F' ∧ Wd X.K C L F' μ' H' ∧ Rep X.K C F' d v ∧ (∃ fs, getO μ' d = some (cn, fs) ∧ fs.lookup m = none) ∧ sp [d] μ' Q0 E0) I
    ⟨L, F0, ρ, μ, _, E0, rl, q, fun d1 μ1 q1 F1 H1 v1 s1 w1 r1 => ⟨F1, d1, μ1, s1, w1, r1, q1.1, q1.2.2⟩, ux⟩) fun u s1 ⟨v, H1, I1, rx, F1, d1, μ1, sb1, w1, r1, ⟨fs, hg, hl⟩, q1⟩ => ?_) ht
  obtain ⟨a, ca', dx, xs, rfl, h1, h2, h3⟩ := w1.getO r1 hg
  rw [hc] at h1
  cases h1
  obtain rfl : u = Value.ref a := rx
  refine getmeth_ok I1 h2 hcl hm (h3.look2.2 hl) ?_
  have := run_at (us := [.ref a]) (ws := []) (vs := [.ref a]) (zs := []) (Q := Q) R hr tk I1 (.cons rfl .nil) .nil rfl rfl ⟨L, F1, μ1, [d1], Q0, E0, .cons r1 .nil, w1, q1, uq.mono sb1, ux.mono sb1⟩
  exact PySem.W.callWith_K0 (first := [.ref a]) I1.kIn hm.kp this
structure PropAt (P : Program) (w : World) (K : PySem.W.Frag) (mg : Str → Option Value) (base : Heap) (C : CT) (k : Nat) (c f : Str) (sp : SpD) : Prop where
  ex : ∃ ca p g, C.cls c = some ca ∧ Cls K ca ∧ PropOf K ca f p g ∧ RunAt P w K mg base C k g 1 [] sp
theorem PropAt.mono {P : Program} {w : World} {K : PySem.W.Frag} {mg : Str → Option Value} {base : Heap} {C : CT} {j k : Nat} {c f : Str} {sp : SpD} (h : PropAt P w K mg base C j c f sp) (hk : j ≤ k) : PropAt P w K mg base C k c f sp := by
  obtain ⟨ca, p, g, h1, h2, h3, h4⟩ := h.ex
  exact ⟨ca, p, g, h1, h2, h3, h4.mono hk⟩
def wProp (c : Str) (sp : SpD) (we : WE) : WE := fun ρ μ Q E => we ρ μ (fun x μ1 => (∃ fs, getO μ1 x = some (c, fs)) ∧ sp [x] μ1 Q (fun _ _ _ => False)) E
theorem no_cx0 {P : Program} {w : World} {st : List PySem.Env} {H : Hp} {s : Shared} {e : Value} {s' : Shared} (z : L2N.CX P w st H s (fun _ _ _ => False) e s') : False := by
  obtain ⟨a, B, H', cls, d, _, _, _, _, _, _, _, h⟩ := z
  exact h
theorem up_prop {cn : Str} (F : PropAt X.prog X.w X.K X.mg X.base C k cn f sp) (hr : Room (k + 1) X.A) (ha : PE X a (upE X.K C W wa)) (hab : attributeBase a f X.env (eval a X.env) = eval a X.env) : PE X (.Attribute a f pos) (upE X.K C W (wProp cn sp wa)) := by
  obtain ⟨ca, p, g, hc, hcl, hp, R⟩ := F.ex
  refine ⟨fun pins s σ H Q I h => ?_⟩
  obtain ⟨L, F0, ρ, μ, Q0, E0, rl, q, uq, ux⟩ := h
  refine attr_of hab (thn (ha.run pins s σ H (fun v H' => ∃ F' d μ', Sub F0 F' ∧ Wd X.K C L F' μ' H' ∧ Rep X.K C F' d v ∧ (∃ fs, getO μ' d = some (cn, fs)) ∧ sp [d] μ' Q0 (fun _ _ _ => False)) I
    ⟨L, F0, ρ, μ, _, E0, rl, q, fun d1 μ1 q1 F1 H1 v1 s1 w1 r1 => ⟨F1, d1, μ1, s1, w1, r1, q1⟩, ux⟩) fun u s1 ⟨v, H1, I1, rx, F1, d1, μ1, sb1, w1, r1, ⟨fs, hg⟩, q1⟩ => ?_)
  obtain ⟨b, ca', dx, xs, rfl, h1, h2, h3⟩ := w1.getO r1 hg
  rw [hc] at h1
  cases h1
  obtain rfl : u = Value.ref b := rx
  obtain ⟨mA, O, _, _, _, _⟩ := ins_get I1.hok h2
  obtain ⟨od, J, _⟩ := O.look
  obtain ⟨rest, hrec⟩ := hp.rec_
  have I2 := I1.tok (s1.toks + 1)
  have hcc : (PySem.W.clsIn X.K ca).isSome = true := by
    obtain ⟨cd, hc, _⟩ := PySem.W.any_some hcl.hd
    rw [hc]
    rfl
  refine PySem.W.get_bind I1.kIn J (PySem.W.plainGet_of (hcl.get f)).1 (PySem.W.findObj_data hcc hp.at_ hp.get hp.tak) (PySem.W.plainGet_of (hcl.get f)).2 (wpAny_call (PySem.W.prop_get (s := { s1 with toks := s1.toks + 1 }) I1.kIn hrec ?_))
  refine codeAny_mono (R X.A.in1 X.stack { s1 with toks := s1.toks + 1 } H1 [.ref b] [] [.ref b] [] Q (fun _ _ _ => False) hr.in1 I2.env0.in1 I2.kIn (.cons rfl .nil) .nil rfl rfl
    ⟨L, F1, μ1, [d1], Q0, fun _ _ _ => False, .cons r1 .nil, w1, q1, uq.mono sb1, fun _ _ _ z => z.elim⟩) fun r s' hq => ?_
  cases r with
  | error er => exact False.elim (no_cx0 hq)
  | ok fl =>
    cases fl with
    | ret u =>
      obtain ⟨v, H', I3, rv, q3⟩ := I2.after hq
      show wpAny _ _ (handedOut u) _ _ _
      rw [PySem.W.handedOut_of (handed_of rv)]
      exact wpAny_pure ⟨v, H', I3, rv, q3⟩
    | next => exact False.elim hq
    | brk => exact False.elim hq
    | cont => exact False.elim hq
structure MakeAt (P : Program) (w : World) (K : PySem.W.Frag) (mg : Str → Option Value) (base : Heap) (C : CT) (k : Nat) (x : Str) (n : Nat) (sp : SpD) : Prop where
  ex : ∃ ca f, mg x = some (.ref ca) ∧ C.cls x = some ca ∧ Mk K ca f ∧ RunAt P w K mg base C k f (n + 1) [] sp
theorem MakeAt.mono {P : Program} {w : World} {K : PySem.W.Frag} {mg : Str → Option Value} {base : Heap} {C : CT} {j k : Nat} {x : Str} {n : Nat} {sp : SpD} (h : MakeAt P w K mg base C j x n sp) (hk : j ≤ k) : MakeAt P w K mg base C k x n sp := by
  obtain ⟨ca, f, h1, h2, h3, h4⟩ := h.ex
  exact ⟨ca, f, h1, h2, h3, h4.mono hk⟩
/-- a new object, fz: never changed once it is made -/
def spMk (fz : Bool) (x : Str) (sp : SpD) : SpD := fun ds μ Q E => ∀ a, μ a = none → sp (.raw a :: ds) (mset μ a (.ins x [])) (fun d μ' => d = .non ∧ (if fz = true then ∃ fs, μ' a = some (.ins x fs) ∧ Q (.obj x fs) (mdel μ' a) else Q (.raw a) μ')) E
theorem run_mk {fz : Bool} {nn : Nat} {pins : List (Addr × Obj)} {σ : St} {H1 : Hp} {s1 : Shared} {Q : VK} {us : List Value} {vs : List V} {L F1 : Hp} {μ1 : Mu} {ds : List D} {Q0 : PQ} {E0 : PX} {ca ff : Addr} (hc : C.cls x = some ca) (M : Mk X.K ca ff) (R : RunAt X.prog X.w X.K X.mg X.base C k ff (nn + 1) [] sp)
    (hr : Room (k + 1) X.A) (tk : L2N.Takes X W) (I1 : Inv X pins σ H1 s1) (r : Vals vs us) (w1 : Wd X.K C L F1 μ1 H1) (r1 : RepL X.K C F1 ds vs) (hl : ds.length = nn) (q1 : spMk fz x sp ds μ1 Q0 E0) (uq : upQ X.K C L F1 Q0 Q) (ux : upX X.K C L F1 σ E0 W) :
    wpAny (model X.prog X.w) X.A (call (.ref ca) us) (EP X pins σ Q) X.xe s1 := by
  have I2 := Inv.made (C := ca) I1
  have hdx : H1 s1.heap.objs.size = none := I1.hok.fresh (Nat.le_refl _)
  have hx : H1 (s1.heap.objs.size + 1) = none := I1.hok.fresh (Nat.le_succ _)
  have hx2 : (upd H1 s1.heap.objs.size (.own (s1.heap.objs.size + 1))) (s1.heap.objs.size + 1) = none := by rw [upd_ne (Nat.succ_ne_self _)]; exact hx
  have wj := w1.junk hdx (o := .own (s1.heap.objs.size + 1))
  have wn := wj.new (o := .ins ca s1.heap.objs.size []) (m := .ins x []) hx2 ⟨ca, s1.heap.objs.size, [], hc, upd_same, by unfold RepF; rfl⟩
  have q2 := q1 (s1.heap.objs.size + 1) (wj.fresh hx2).1
  refine wpAny_call (make_map (f := ff) I1.kIn M.makes M.init (beq_iff_eq.mp M.fn) (codeAny_mono (R _ X.stack _ _ (.ref (s1.heap.objs.size + 1) :: us) [] (.ref (s1.heap.objs.size + 1) :: vs) [] (fun v H2 => v = .non ∧ Q (.ref (s1.heap.objs.size + 1)) H2) (L2.WE W σ) (hr.make ca us [])
    (I2.env0.make ca us []) I2.kIn (.cons rfl r) .nil (by rw [List.length_cons, r1.len, hl]) rfl ?_) fun r s' hq' => ?_))
  · rw [List.append_nil]
    refine ⟨L, F1, _, .raw (s1.heap.objs.size + 1) :: ds, _, E0, .cons .ofRaw r1, wn, q2, fun d μ' q F' H' v s w rv => ?_, ux⟩
    obtain ⟨rfl, q⟩ := q
    refine ⟨rv.non, ?_⟩
    cases fz with
    | false => exact uq _ _ q F' H' _ s w .ofRaw
    | true =>
      obtain ⟨fs, hm, q⟩ := q
      obtain ⟨ca', dx', xs, c1, c2, c3⟩ := (w.mu _ _ hm).2
      have hn := (w.mu _ _ hm).1
      have hsub : Sub F' (upd F' (s1.heap.objs.size + 1) (.ins ca' dx' xs)) := fun b u e => by
        have : b ≠ s1.heap.objs.size + 1 := fun z => by subst z; rw [hn] at e; cases e
        rw [upd_ne this]; exact e
      exact uq _ _ q _ H' _ (s.trans hsub) (w.stop hm c2) (by unfold Rep; exact ⟨_, ca', dx', xs, rfl, c1, upd_same, c3.mono hsub⟩)
  · cases r with
    | error e => exact L2N.passAt tk σ pins _ _ e s' I2 hq'
    | ok fl =>
      cases fl with
      | ret u =>
        obtain ⟨v, H', I3, rv, ev, q3⟩ := I2.after hq'
        subst ev
        exact ⟨rv, ⟨V.ref (s1.heap.objs.size + 1), H', I3, rfl, q3⟩⟩
      | next => exact False.elim hq'
      | brk => exact False.elim hq'
      | cont => exact False.elim hq'
theorem up_make {fz : Bool} {nn : Nat} (F : MakeAt X.prog X.w X.K X.mg X.base C k x nn sp) (hr : Room (k + 1) X.A) (tk : L2N.Takes X W) (hg : Gl X x) (ha : PA X (e :: es) (upA X.K C W was)) (hdb : (x == ("__debug__" : Str)) = false)
    (he : starEach (e :: es) X.env = (false, eval e X.env) :: starEach es X.env) (hpl : (backTo pos (starEach es X.env)).any (·.1) = false) :
    PE X (.Call (.Name x p) (e :: es) [] pos) (upE X.K C W (wCall nn (spMk fz x sp) was)) := by
  obtain ⟨ca, ff, hm, hc, M, R⟩ := F.ex
  refine ⟨fun pins s σ H Q I h => ?_⟩
  obtain ⟨L, F0, ρ, μ, Q0, E0, rl, q, uq, ux⟩ := h
  refine wpAny_Call_Name_kw (ld_glob I hg hm ?_ hdb)
  refine PySem.W.callWith_K (h₀ := X.base) I.ok.mod.kin M.kp (thn (ha.run pos pins s σ H (fun vs H' => ∃ F' ds μ', Sub F0 F' ∧ Wd X.K C L F' μ' H' ∧ RepL X.K C F' ds vs ∧ ds.length = nn ∧ spMk fz x sp ds μ' Q0 E0) I
    ⟨L, F0, ρ, μ, _, E0, rl, q, fun ds μ1 q1 F1 H1 vs s1 w1 r1 => ⟨F1, ds, μ1, s1, w1, r1, q1.1, q1.2⟩, ux⟩) fun us s1 ⟨vs, H1, I1, r, F1, ds, μ1, s1', w1, r1, hl, q1⟩ => ⟨I1.kIn, ?_⟩) he hpl
  exact run_mk hc M R hr tk I1 r w1 r1 hl q1 (uq.mono s1') (ux.mono s1')
theorem up_make0 {fz : Bool} (F : MakeAt X.prog X.w X.K X.mg X.base C k x 0 sp) (hr : Room (k + 1) X.A) (tk : L2N.Takes X W) (hg : Gl X x) (hdb : (x == ("__debug__" : Str)) = false) :
    PE X (.Call (.Name x p) [] [] pos) (upE X.K C W (wCall 0 (spMk fz x sp) wNil)) := by
  obtain ⟨ca, ff, hm, hc, M, R⟩ := F.ex
  refine ⟨fun pins s σ H Q I h => ?_⟩
  obtain ⟨L, F0, ρ, μ, Q0, E0, rl, q, uq, ux⟩ := h
  refine wpAny_Call_Name_kw (ld_glob I hg hm ?_ hdb)
  exact PySem.W.callWith_K0 I.kIn M.kp (run_mk (us := []) (vs := []) (ds := []) hc M R hr tk I .nil rl.wd .nil rfl q.2 uq ux)
end
end T2

set_option maxRecDepth 100000
set_option maxHeartbeats 4000000
namespace T2
open PySem PySem.Spec PyProof.Rows L2
/-! ### texts -/
theorem RepL.strs {K : PySem.W.Frag} {C : CT} {F : Hp} : ∀ {ys : List Str} {vs : List V}, RepL K C F (ys.map D.str) vs → vs = ys.map V.str
  | [], _, h => by unfold RepL at h; exact h
  | y :: ys, _, h => by
    rw [List.map_cons] at h
    unfold RepL at h
    obtain ⟨x, r, e, h1, h2⟩ := h
    rw [e, h1.str, RepL.strs h2]
    rfl
theorem RepL.ints {K : PySem.W.Frag} {C : CT} {F : Hp} : ∀ {ys : List Int} {vs : List V}, RepL K C F (ys.map D.int) vs → vs = ys.map V.int
  | [], _, h => by unfold RepL at h; exact h
  | y :: ys, _, h => by
    rw [List.map_cons] at h
    unfold RepL at h
    obtain ⟨x, r, e, h1, h2⟩ := h
    rw [e, h1.int, RepL.ints h2]
    rfl
theorem RepL.ofStrs {K : PySem.W.Frag} {C : CT} {F : Hp} : ∀ {ys : List Str}, RepL K C F (ys.map D.str) (ys.map V.str)
  | [] => .nil
  | y :: ys => .cons .ofStr RepL.ofStrs
theorem RepL.ofInts {K : PySem.W.Frag} {C : CT} {F : Hp} : ∀ {ys : List Int}, RepL K C F (ys.map D.int) (ys.map V.int)
  | [] => .nil
  | y :: ys => .cons .ofInt RepL.ofInts
section
variable {X : Cx} {C : CT} {W : WX}
theorem op_mul_str : OpR X (binaryOp .Mult) (fun x y H Q => ∃ s n, x = .str s ∧ y = .int n ∧ MulOk s n ∧ Q (.str (Txt.mul s n)) H) := by
  intro pins σ' σ H x y v u Q I rx ry h
  obtain ⟨i, j, rfl, rfl, hz, q⟩ := h
  obtain ⟨t, rfl⟩ := rx
  obtain ⟨t', rfl⟩ := ry
  exact SB.mul hz (fun t' tk => ⟨.str (Txt.mul i j), H, I.tok _, ⟨_, rfl⟩, q⟩)
theorem opd_mul_str : OpD X C (binaryOp .Mult) (fun x y μ Q => ∃ s n, x = .str s ∧ y = .int n ∧ MulOk s n ∧ Q (.str (Txt.mul s n)) μ) :=
  ⟨_, op_mul_str, fun L F μ H x y v u Q0 Q wd rx ry q uq => by
    obtain ⟨i, j, rfl, rfl, c, q⟩ := q
    exact ⟨i, j, rx.str, ry.int, c, uq _ _ q F H _ (Sub.refl F) wd .ofStr⟩⟩
theorem RepL.repF {K : PySem.W.Frag} {F : Hp} {ds : List D} {xs : List V} (h : RepL K C F ds xs) : ∀ n : Nat, RepL K C F (List.replicate n ds).flatten (List.replicate n xs).flatten
  | 0 => .nil
  | n + 1 => by
    rw [List.replicate_succ, List.replicate_succ, List.flatten_cons, List.flatten_cons]
    exact h.append (RepL.repF h n)
theorem opd_rep : OpD X C (binaryOp .Mult) (fun x y μ Q => ∃ ds k, getM μ x = some ds ∧ y = .int k ∧ -(2 ^ 63) ≤ k ∧ k < 2 ^ 63 ∧ ds.length * k.toNat ≤ sizeLine ∧ Q (.lst (List.replicate k.toNat ds).flatten) μ) :=
  ⟨_, op_rep, fun L F μ H x y v u Q0 Q wd rx ry q uq => by
    obtain ⟨ds, k, e, rfl, h1, h2, h3, q⟩ := q
    obtain ⟨p, xs, rfl, hp, rl⟩ := wd.getM rx e
    refine ⟨p, k, xs, rfl, ry.int, hp, h1, h2, by rw [rl.len]; exact h3, fun l hl => ?_⟩
    have hf := (wd.fresh hl).2
    exact uq _ _ q (upd F l (.lst (List.replicate k.toNat xs).flatten)) _ _ (Sub.new hf) (wd.frz hl) (.ofLst upd_same ((rl.repF _).mono (Sub.new hf)))⟩
def gMul : G2 := fun x y μ Q =>
  (∃ i j, x = .int i ∧ y = .int j ∧ CMulX i j ∧ Q (.int (i * j)) μ) ∨
  (∃ s n, x = .str s ∧ y = .int n ∧ MulOk s n ∧ Q (.str (Txt.mul s n)) μ) ∨
  (∃ ds k, getM μ x = some ds ∧ y = .int k ∧ -(2 ^ 63) ≤ k ∧ k < 2 ^ 63 ∧ ds.length * k.toNat ≤ sizeLine ∧ Q (.lst (List.replicate k.toNat ds).flatten) μ)
theorem opd_mul : OpD X C (binaryOp .Mult) gMul := opd_or (opd_int op_mulX) (opd_or opd_mul_str opd_rep)
def gJoin : GM := fun x xs μ Q => ∃ (a : Str) (ys : List Str) (d : D), x = .str a ∧ xs = [d] ∧ getS μ d = some (ys.map D.str) ∧ (ys.map (·.length)).sum + ys.length * a.length ≤ 16777216 ∧ Q (.str (Txt.join a ys)) μ
theorem mtd_join : MtD X C "str.join" gJoin := ⟨_, mt_join, fun L F μ H x v xs vs Q0 Q wd rx rv q uq => by
  obtain ⟨a, ys, d, rfl, rfl, e, hl, q⟩ := q
  obtain ⟨u, rfl, ru⟩ := rv.one
  obtain ⟨p, zs, rfl, hp, rl⟩ := wd.getS ru e
  cases rl.strs
  exact ⟨a, p, ys, rx.str, rfl, hp, hl, uq _ _ q F H _ (Sub.refl F) wd .ofStr⟩⟩
def gSplit : GM := fun x xs μ Q => ∃ a b, x = .str a ∧ xs = [.str b] ∧ (b.length == 0) = false ∧ a.length + 2 ≤ sizeLine ∧ Q (.lst ((Txt.split a b).map D.str)) μ
theorem mtd_split : MtD X C "str.split" gSplit := ⟨_, mt_split, fun L F μ H x v xs vs Q0 Q wd rx rv q uq => by
  obtain ⟨a, b, rfl, rfl, h1, h2, q⟩ := q
  obtain ⟨u, rfl, ru⟩ := rv.one
  refine ⟨a, b, rx.str, by rw [ru.str], h1, h2, fun l hl => ?_⟩
  have hf := (wd.fresh hl).2
  exact uq _ _ q (upd F l (.lst ((Txt.split a b).map V.str))) _ _ (Sub.new hf) (wd.frz hl) (.ofLst upd_same RepL.ofStrs)⟩
def gPop : GM := fun x xs μ Q => ∃ a ds d, x = .raw a ∧ xs = [] ∧ μ a = some (.lst ds) ∧ ds[ds.length - 1]? = some d ∧ Q d (mset μ a (.lst ds.dropLast))
def gStr : GC := fun xs μ Q => (∃ i : Int, xs = [.int i] ∧ i.natAbs.log2 < 1920 ∧ Q (.str (toString i)) μ) ∨ (∃ a, xs = [.str a] ∧ Q (.str a) μ)
theorem cad_str : CallD X C (.type "str") gStr := ⟨_, CallR.or call_str_int SkE.call_str_str, fun L F μ H xs vs Q0 Q wd rx q uq => by
  rcases q with ⟨i, rfl, h, q⟩ | ⟨i, rfl, q⟩
  · obtain ⟨v, rfl, r⟩ := rx.one
    exact .inl ⟨i, by rw [r.int], h, uq _ _ q F H _ (Sub.refl F) wd .ofStr⟩
  · obtain ⟨v, rfl, r⟩ := rx.one
    exact .inr ⟨i, by rw [r.str], uq _ _ q F H _ (Sub.refl F) wd .ofStr⟩⟩
def gOrd : GC := fun xs μ Q => ∃ x : Str, xs = [.str x] ∧ x.length = 1 ∧ Q (.int (x.cps.getD 0 0 : Nat)) μ
theorem cad_ord : CallD X C (.builtin "ord") gOrd := ⟨_, call_ord, fun L F μ H xs vs Q0 Q wd rx q uq => by
  obtain ⟨x, rfl, h, q⟩ := q
  obtain ⟨v, rfl, r⟩ := rx.one
  exact ⟨x, by rw [r.str], h, uq _ _ q F H _ (Sub.refl F) wd .ofInt⟩⟩
def gSum : GC := fun xs μ Q => ∃ (x : D) (ns : List Int), xs = [x] ∧ getL μ x = some (ns.map D.int) ∧ Q (.int ns.sum) μ
theorem cad_sum (hc : X.calm = true) : CallD X C (.builtin "sum") gSum := ⟨_, cr_sum hc, fun L F μ H xs vs Q0 Q wd rx q uq => by
  obtain ⟨x, ns, rfl, e, q⟩ := q
  obtain ⟨v, rfl, r⟩ := rx.one
  obtain ⟨p, ys, rfl, hp, rl⟩ := wd.getL r e
  cases rl.ints
  exact ⟨p, ns, rfl, hp, uq _ _ q F H _ (Sub.refl F) wd .ofInt⟩⟩
/-- sorted(texts), never changed | that may change -/
def gSorted : GC := fun xs μ Q => ∃ (x : D) (ys : List Str), xs = [x] ∧ getL μ x = some (ys.map D.str) ∧ ys.length < 64 ∧ ∀ zs : List Str, zs.Perm ys → sortedS zs = true → Q (.lst (zs.map D.str)) μ
def gSortedM : GC := fun xs μ Q => ∃ (x : D) (ys : List Str), xs = [x] ∧ getL μ x = some (ys.map D.str) ∧ ys.length < 64 ∧ ∀ zs : List Str, zs.Perm ys → sortedS zs = true → ∀ a, μ a = none → Q (.raw a) (mset μ a (.lst (zs.map D.str)))
theorem cad_sorted : CallD X C (.builtin "sorted") gSorted := ⟨_, cr_sortedS, fun L F μ H xs vs Q0 Q wd rx q uq => by
  obtain ⟨x, ys, rfl, e, hl, q⟩ := q
  obtain ⟨v, rfl, r⟩ := rx.one
  obtain ⟨p, ws, rfl, hp, rl⟩ := wd.getL r e
  cases rl.strs
  refine ⟨p, ys, rfl, hp, hl, fun zs l hz hs hn => ?_⟩
  have hf := (wd.fresh hn).2
  exact uq _ _ (q zs hz hs) (upd F l (.lst (zs.map V.str))) _ _ (Sub.new hf) (wd.frz hn) (.ofLst upd_same RepL.ofStrs)⟩
theorem cad_sortedM : CallD X C (.builtin "sorted") gSortedM := ⟨_, cr_sortedS, fun L F μ H xs vs Q0 Q wd rx q uq => by
  obtain ⟨x, ys, rfl, e, hl, q⟩ := q
  obtain ⟨v, rfl, r⟩ := rx.one
  obtain ⟨p, ws, rfl, hp, rl⟩ := wd.getL r e
  cases rl.strs
  refine ⟨p, ys, rfl, hp, hl, fun zs l hz hs hn => ?_⟩
  exact uq _ _ (q zs hz hs l (wd.fresh hn).1) F _ _ (Sub.refl F) (wd.new hn ⟨_, upd_same, RepL.ofStrs⟩) .ofRaw⟩
/-! f-strings -/
def wFmt (we : WE) : WE := fun ρ μ Q E => we ρ μ (fun x μ1 => (∃ y : Str, x = .str y ∧ y.length ≤ sizeLine ∧ Q (.str y) μ1) ∨ ∃ i : Int, x = .int i ∧ i.natAbs.log2 < 1920 ∧ Q (.str (toString i)) μ1) E
theorem up_fmt {e : Expr} {we : WE} {pos : Pos} (h : PE X e (upE X.K C W we)) : PE X (.FormattedValue e (-1) none pos) (upE X.K C W (wFmt we)) := PE.imp (pe_fmt h) fun σ H Q ⟨L, F, ρ, μ, Q0, E0, rl, q, uq, ux⟩ => by
  refine ⟨L, F, ρ, μ, _, E0, rl, q, fun d1 μ1 q1 F1 H1 v1 s1 w1 r1 => ?_, ux⟩
  rcases q1 with ⟨y, rfl, h, q⟩ | ⟨i, rfl, h, q⟩
  · exact .inl ⟨y, r1.str, h, uq _ _ q F1 H1 _ s1 w1 .ofStr⟩
  · exact .inr ⟨i, r1.int, h, uq _ _ q F1 H1 _ s1 w1 .ofStr⟩
def wJs : List WE → Str → Env → Mu → (Str → Mu → Prop) → PX → Prop
  | [], acc, _, μ, Q, _ => Q acc μ
  | w :: ws, acc, ρ, μ, Q, E => w ρ μ (fun x μ1 => ∃ y : Str, x = .str y ∧ (acc ++ y).length ≤ sizeLine ∧ wJs ws (acc ++ y) ρ μ1 Q E) E
def wJoined (ws : List WE) : WE := fun ρ μ Q E => wJs ws Str.empty ρ μ (fun out μ1 => Q (.str out) μ1) E
theorem up_js0 {σ : St} {L : Hp} {ρ : Env} {E0 : PX} {Q0 : Str → Mu → Prop} {Q : Str → Hp → Prop} : ∀ {ws : List WE} {acc : Str} {F H : Hp} {μ : Mu}, Rl X.K C L F ρ μ σ H → wJs ws acc ρ μ Q0 E0 →
    (∀ s μ', Q0 s μ' → ∀ F' H', Sub F F' → Wd X.K C L F' μ' H' → Q s H') → upX X.K C L F σ E0 W → tJs (ws.map fun w => upE X.K C W w) acc σ H Q
  | [], acc, F, H, μ, rl, q, uq, ux => uq acc μ q F H (Sub.refl F) rl.wd
  | w :: ws, acc, F, H, μ, rl, q, uq, ux => by
    refine ⟨L, F, ρ, μ, _, E0, rl, q, fun d1 μ1 q1 F1 H1 v1 s1 w1 r1 => ?_, ux⟩
    obtain ⟨y, rfl, hl, q⟩ := q1
    exact ⟨y, r1.str, hl, up_js0 (rl.to s1 w1) q (fun s μ' q' F' H' s' => uq s μ' q' F' H' (s1.trans s')) (ux.mono s1)⟩
end
/-! comprehensions with several names -/
theorem wipe_get (σ : St) (j : Nat) : ∀ is : List Nat, (wipe σ is)[j]? = if j ∈ is then (if j < σ.length then some none else none) else σ[j]?
  | [] => by simp [wipe]
  | i :: is => by
    show ((wipe σ is).set i none)[j]? = _
    rw [List.getElem?_set, wipe_length, wipe_get σ j is]
    by_cases h : i = j
    · subst h
      simp
    · have h' : ¬ j = i := fun e => h e.symm
      simp [h, h']
theorem setV_out {j : Nat} : ∀ {is : List Nat} {vs : List V} {σ : St}, j ∉ is → (setV is vs σ)[j]? = σ[j]?
  | [], vs, σ, _ => by cases vs <;> rfl
  | i :: is, [], σ, _ => rfl
  | i :: is, v :: vs, σ, h => by
    show (setV is vs (σ.set i (some v)))[j]? = _
    rw [setV_out fun e => h (List.mem_cons_of_mem _ e), List.getElem?_set]
    rw [if_neg fun e => h (by rw [e]; exact List.mem_cons_self)]
theorem setV_len : ∀ {is : List Nat} {vs : List V} {σ : St}, (setV is vs σ).length = σ.length
  | [], vs, σ => by cases vs <;> rfl
  | i :: is, [], σ => rfl
  | i :: is, v :: vs, σ => by
    show (setV is vs (σ.set i (some v))).length = _
    rw [setV_len, List.length_set]
theorem setV_same : ∀ {is : List Nat} {vs : List V} {σ σ' : St}, σ.length = σ'.length → vs.length = is.length → (∀ j, j ∉ is → σ[j]? = σ'[j]?) → setV is vs σ = setV is vs σ'
  | [], [], σ, σ', _, _, h => List.ext_getElem? fun j => h j (by simp)
  | [], _ :: _, _, _, _, e, _ => by cases e
  | _ :: _, [], _, _, _, e, _ => by cases e
  | i :: is, v :: vs, σ, σ', hl, e, h => by
    show setV is vs (σ.set i (some v)) = setV is vs (σ'.set i (some v))
    refine setV_same (by rw [List.length_set, List.length_set]; exact hl) (by simpa using e) fun j hj => ?_
    rw [List.getElem?_set, List.getElem?_set, hl]
    by_cases hi : i = j
    · rw [if_pos hi, if_pos hi]
    · rw [if_neg hi, if_neg hi]
      exact h j fun z => by
        rcases List.mem_cons.mp z with z | z
        · exact hi z.symm
        · exact hj z
def wgT (is : List Nat) : WG := fun d ρ μ Q => ∃ ds, d = .tup ds ∧ ds.length = is.length ∧ Q (setAll is ds ρ)
theorem tgt_tup {K : PySem.W.Frag} {C : CT} {is : List Nat} : Tgt K C (wgT is) (gTup K is.length (gNames is)) is := fun L F ρ μ σ H d v Q0 Q rl r q uq => by
  obtain ⟨ds, rfl, hl, q⟩ := q
  obtain ⟨a, xs, rfl, hq, rx⟩ := r.tup
  have hxl : xs.length = is.length := by rw [rx.len]; exact hl
  have e : setV is xs (wipe σ is) = setV is xs σ := setV_same (wipe_length σ is) hxl fun j hj => by rw [wipe_get, if_neg hj]
  refine ⟨a, xs, rfl, rl.wd.sub.sqT hq, hxl, gNames_ok hxl ?_⟩
  rw [e]
  refine uq _ q _ (rl.setAll rx) ?_
  refine List.ext_getElem? fun j => ?_
  rw [wipe_get, wipe_get, setV_len]
  by_cases hj : j ∈ is
  · rw [if_pos hj, if_pos hj]
  · rw [if_neg hj, if_neg hj, setV_out hj]
end T2

set_option maxRecDepth 100000
set_option maxHeartbeats 4000000
namespace T2
open PySem PySem.Spec PyProof.Rows L2
section
variable {X : Cx} {C : CT} {W : WX}
/-! ### dict comprehensions -/
def dcLoop (gd : Mu → Prop) (g : WG) (tt : WT) (tk tv : WE) (ρ : Env) (Q : List (Key × D) → Mu → Prop) : List D → List (Key × D) → Mu → Prop
  | [], acc, μ => gd μ ∧ Q acc μ
  | d :: ds, acc, μ => gd μ ∧ g d ρ μ fun ρ1 => tt ρ1 μ (fun k μ1 => (k = true → tk ρ1 μ1 (fun y μ2 => tv ρ1 μ2 (fun z μ3 => ∃ kk, keyOf y = some kk ∧ acc.length < sizeLine ∧ dcLoop gd g tt tk tv ρ Q ds (kput acc kk z) μ3) wNever) wNever) ∧ (k = false → dcLoop gd g tt tk tv ρ Q ds acc μ1)) wNever
/-- {tk: tv for g in wi if tt}: never changed | that may change -/
def wDc (wi : WI) (g : WG) (tt : WT) (tk tv : WE) : WE := fun ρ μ Q E => wi ρ μ (fun ds gd μ1 => dcLoop gd g tt tk tv ρ (fun acc μ2 => Q (.dct acc) μ2) ds [] μ1) E
def wDcM (wi : WI) (g : WG) (tt : WT) (tk tv : WE) : WE := fun ρ μ Q E => wi ρ μ (fun ds gd μ1 => dcLoop gd g tt tk tv ρ (fun acc μ2 => ∀ a, μ2 a = none → Q (.raw a) (mset μ2 a (.dct acc))) ds [] μ1) E
theorem up_dc0 {wi : WI} {g : WG} {tgr : TG} {tt : WT} {tk tv : WE} {vs : List Nat} {w0 : WE} {Qd : PQ → List (Key × D) → Mu → Prop} (tok : Tgt X.K C g tgr vs)
    (hw : ∀ ρ μ Q E, w0 ρ μ Q E → wi ρ μ (fun ds gd μ1 => dcLoop gd g tt tk tv ρ (Qd Q) ds [] μ1) E)
    (fin : ∀ Q0 Q L F F' μ' H' D0 acc accV, Qd Q0 acc μ' → upQ X.K C L F Q0 Q → Sub F F' → Wd X.K C (upd L D0 (.dK accV)) F' μ' H' → RepK X.K C F' acc accV → L D0 = none → Q (.ref D0) H') :
    ∀ σ H Q, upE X.K C W w0 σ H Q → tDc (upI X.K C W wi) tgr (upT X.K C WNo tt) (upE X.K C WNo tk) (upE X.K C WNo tv) vs σ H Q := fun σ H Q ⟨L, F, ρ, μ, Q0, E0, rl, q, uq, ux⟩ => by
  refine ⟨L, F, ρ, μ, _, E0, rl, hw _ _ _ _ q, fun ds gd μ1 q1 F1 H1 J s1 w1 src => ?_, ux⟩
  intro D0 hD
  have hL := w1.lNone hD
  refine ⟨fun i m H => m = ds.length - i ∧ i ≤ ds.length ∧ ∃ acc accV F2 μ2, Sub F1 F2 ∧ Wd X.K C (upd L D0 (.dK accV)) F2 μ2 H ∧ RepK X.K C F2 acc accV ∧ dcLoop gd g tt tk tv ρ (Qd Q0) (ds.drop i) acc μ2,
    ⟨ds.length, rfl, Nat.zero_le _, [], [], F1, μ1, Sub.refl F1, w1.lock hD, by unfold RepK; rfl, q1⟩, ?_⟩
  rintro i m H2 ⟨rfl, hi, acc, accV, F2, μ2, s2, w2, r2, lp⟩
  by_cases hlt : i < ds.length
  · rw [List.drop_eq_getElem_cons hlt] at lp
    obtain ⟨hg, lp⟩ := lp
    refine .inr ⟨src.go i _ F2 μ2 H2 hlt s2 w2 hg, fun H' => ∃ acc accV F2 μ2, Sub F1 F2 ∧ Wd X.K C (upd L D0 (.dK accV)) F2 μ2 H' ∧ RepK X.K C F2 acc accV ∧ dcLoop gd g tt tk tv ρ (Qd Q0) (ds.drop (i + 1)) acc μ2,
      fun H' hn => ⟨ds.length - (i + 1), by omega, rfl, hlt, hn⟩, fun x H3 hy => ?_⟩
    obtain ⟨G, sG, wG, rG⟩ := src.yld i _ F2 μ2 H2 x H3 _ s2 w2 hg (List.getElem?_eq_getElem hlt) hy
    have rlG := rl.to' ((s1.trans s2).trans sG) wG
    refine tok _ G ρ μ2 σ H3 _ x _ _ rlG rG lp fun ρ1 q3 σ3 rl3 hwp => ⟨hwp, ?_⟩
    refine ⟨_, G, ρ1, μ2, _, wNever, rl3, q3, fun k μ4 q4 F4 H4 s4 w4 => ?_, upX_no⟩
    cases k with
    | false =>
      exact ⟨acc, accV, F4, μ4, (s2.trans sG).trans s4, w4, (r2.mono sG).mono s4, q4.2 rfl⟩
    | true =>
      refine ⟨_, F4, ρ1, μ4, _, wNever, rl3.to s4 w4, q4.1 rfl, fun d5 μ5 q5 F5 H5 v5 s5 w5 r5 => ?_, upX_no⟩
      refine ⟨_, F5, ρ1, μ5, _, wNever, (rl3.to s4 w4).to s5 w5, q5, fun d6 μ6 q6 F6 H6 v6 s6 w6 r6 => ?_, upX_no⟩
      obtain ⟨kk, hk, hl, q6⟩ := q6
      have r26 := (((r2.mono sG).mono s4).mono s5).mono s6
      refine ⟨accV, kk, keyOf_kV r5 hk, w6.lk D0 _ upd_same, by rw [r2.len]; exact hl, ?_⟩
      exact ⟨kput acc kk d6, putK accV kk v6, F6, μ6, (((s2.trans sG).trans s4).trans s5).trans s6, w6.relock, r26.put r6, q6⟩
  · have e : i = ds.length := by omega
    subst e
    rw [List.drop_length] at lp
    obtain ⟨hg, lp⟩ := lp
    exact .inl ⟨src.stop _ F2 μ2 H2 s2 w2 hg, fin Q0 Q L F F2 μ2 H2 D0 acc accV lp uq (s1.trans s2) w2 r2 hL⟩
theorem up_dcF {wi : WI} {g : WG} {tgr : TG} {tt : WT} {tk tv : WE} {vs : List Nat} (tok : Tgt X.K C g tgr vs) : ∀ σ H Q, upE X.K C W (wDc wi g tt tk tv) σ H Q → tDc (upI X.K C W wi) tgr (upT X.K C WNo tt) (upE X.K C WNo tk) (upE X.K C WNo tv) vs σ H Q :=
  up_dc0 (Qd := fun Q acc μ2 => Q (.dct acc) μ2) tok (fun _ _ _ _ h => h) fun Q0 Q L F F' μ' H' D0 acc accV q uq s w r hL =>
    uq _ _ q (upd F' D0 (.dK accV)) H' _ (s.trans (Sub.new (w.dj D0 _ upd_same))) (w.unlockF hL) (.ofDct upd_same (r.mono (Sub.new (w.dj D0 _ upd_same))))
theorem up_dcM {wi : WI} {g : WG} {tgr : TG} {tt : WT} {tk tv : WE} {vs : List Nat} (tok : Tgt X.K C g tgr vs) : ∀ σ H Q, upE X.K C W (wDcM wi g tt tk tv) σ H Q → tDc (upI X.K C W wi) tgr (upT X.K C WNo tt) (upE X.K C WNo tk) (upE X.K C WNo tv) vs σ H Q :=
  up_dc0 (Qd := fun Q acc μ2 => ∀ a, μ2 a = none → Q (.raw a) (mset μ2 a (.dct acc))) tok (fun _ _ _ _ h => h) fun Q0 Q L F F' μ' H' D0 acc accV q uq s w r hL =>
    uq _ _ (q D0 w.lockNone) F' H' _ s (w.unlockM hL ⟨accV, w.lk D0 _ upd_same, r⟩) .ofRaw
/-! ### a dict that is never changed any more, and may be walked -/
theorem pe_lockD {e : Expr} {t : TE} (h : PE X e t) : PE X e (fun σ H Q => t σ H fun v H1 => ∃ a kvs, v = .ref a ∧ H1 a = some (.dK kvs) ∧ ∀ od, Q v (upd H1 a (.frz od (.dK kvs)))) := by
  refine ⟨fun pins s σ H Q I hw => ?_⟩
  refine thn (h.run pins s σ H _ I hw) fun v s1 ⟨x, H1, I1, r, a, kvs, e1, e2, q⟩ => ?_
  obtain ⟨od, I2⟩ := I1.lock e2 trivial
  exact ⟨x, _, I2, r, q od⟩
def wLk (we : WE) : WE := fun ρ μ Q E => we ρ μ (fun d μ1 => ∃ a ks, d = .raw a ∧ μ1 a = some (.dct ks) ∧ Q (.dcf ks) (mdel μ1 a)) E
theorem Wd.stopZ {K : PySem.W.Frag} {L F H : Hp} {μ : Mu} (w : Wd K C L F μ H) {a : Addr} {m : MO} {o : HO} (h : μ a = some m) : Wd K C L (upd F a o) (mdel μ a) (upd H a o) where
  sub := fun b u e => by
    by_cases hb : b = a
    · subst hb; rw [upd_same] at e ⊢; exact e
    · rw [upd_ne hb] at e ⊢; exact w.sub b u e
  lk := fun b u e => by
    have hb : b ≠ a := fun z => by subst z; rw [w.ml b m h] at e; cases e
    rw [upd_ne hb]; exact w.lk b u e
  dj := fun b u e => by
    have hb : b ≠ a := fun z => by subst z; rw [w.ml b m h] at e; cases e
    rw [upd_ne hb]; exact w.dj b u e
  ml := fun b m' e => by
    by_cases hb : b = a
    · subst hb; rw [mdel_same] at e; cases e
    · rw [mdel_ne hb] at e; exact w.ml b m' e
  mu := fun b m' e => by
    by_cases hb : b = a
    · subst hb; rw [mdel_same] at e; cases e
    · rw [mdel_ne hb] at e
      obtain ⟨h1, h2⟩ := w.mu b m' e
      refine ⟨by rw [upd_ne hb]; exact h1, h2.mono (fun x u q => ?_) (by rw [upd_ne hb])⟩
      have hx : x ≠ a := fun z => by subst z; rw [(w.mu x m h).1] at q; cases q
      rw [upd_ne hx]; exact q
theorem up_lk {e : Expr} {we : WE} (h : PE X e (upE X.K C W we)) : PE X e (upE X.K C W (wLk we)) := PE.imp (pe_lockD h) fun σ H Q ⟨L, F, ρ, μ, Q0, E0, rl, q, uq, ux⟩ => by
  refine ⟨L, F, ρ, μ, _, E0, rl, q, fun d1 μ1 q1 F1 H1 v1 s1 w1 r1 => ?_, ux⟩
  obtain ⟨a, ks, rfl, hm, q⟩ := q1
  obtain ⟨xs, h1, h2⟩ := w1.rawK hm
  have e := r1.raw
  subst e
  have hn := (w1.mu a _ hm).1
  refine ⟨a, xs, rfl, h1, fun od => ?_⟩
  have hs : Sub F1 (upd F1 a (.frz od (.dK xs))) := Sub.new hn
  exact uq _ _ q _ _ _ (s1.trans hs) (w1.stopZ hm) (.ofDcf upd_same (h2.mono hs))
/-! ### enumerate(xs) -/
def enumD : Nat → List D → List D
  | _, [] => []
  | i, d :: ds => .tup [.int (i : Int), d] :: enumD (i + 1) ds
theorem enumD_len : ∀ (i : Nat) (ds : List D), (enumD i ds).length = ds.length
  | _, [] => rfl
  | i, d :: ds => by
    show (enumD (i + 1) ds).length + 1 = ds.length + 1
    rw [enumD_len]
theorem enumD_get : ∀ (i : Nat) (ds : List D) (j : Nat), (enumD i ds)[j]? = (ds[j]?).map fun d => .tup [.int ((i + j : Nat) : Int), d]
  | _, [], j => rfl
  | i, d :: ds, 0 => rfl
  | i, d :: ds, j + 1 => by
    show (enumD (i + 1) ds)[j]? = (ds[j]?).map _
    rw [enumD_get, show i + 1 + j = i + (j + 1) by omega]
theorem src_enum {K : PySem.W.Frag} {F : Hp} {x : D} {ds : List D} {a : Addr} (r : Rep K C F x (.ref a)) : SrcOk K C (Ite K a) F (fun μ' => T2.getL μ' x = some ds) (enumD 0 ds) where
  stop := fun L G μ H s w h => by
    obtain ⟨p, xs, e1, e2, e3⟩ := w.getL (r.mono s) h
    cases e1
    exact ⟨xs, e2, by rw [enumD_len]; exact Nat.le_of_eq e3.len⟩
  go := fun i L G μ H hi s w h => by
    obtain ⟨p, xs, e1, e2, e3⟩ := w.getL (r.mono s) h
    cases e1
    have hi' : i < xs.length := by rw [e3.len, ← enumD_len 0 ds]; exact hi
    exact ⟨xs, xs[i], e2, List.getElem?_eq_getElem hi'⟩
  yld := fun i L G μ H v H' d s w h hd hy => by
    obtain ⟨p, xs, e1, e2, e3⟩ := w.getL (r.mono s) h
    cases e1
    obtain ⟨T, y, rfl, hT, rfl, hx⟩ := hy
    rw [enumD_get] at hd
    cases q : ds[i]? with
    | none => rw [q] at hd; cases hd
    | some d0 =>
      rw [q] at hd
      cases hd
      obtain ⟨u, hu, ru⟩ := e3.at q
      have := (hx xs e2).symm.trans hu
      cases this
      have hf := (w.fresh hT).2
      refine ⟨upd G T (.tup [.int (i : Nat), y]), Sub.new hf, w.frz hT, .ofTup upd_same ?_⟩
      rw [Nat.zero_add]
      exact .cons .ofInt (.cons (ru.mono (Sub.new hf)) .nil)
def wEnum (wa : WE) : WI := fun ρ μ Q E => wa ρ μ (fun x μ1 => ∃ ds, getL μ1 x = some ds ∧ Q (enumD 0 ds) (fun μ' => getL μ' x = some ds) μ1) E
theorem up_enum {elts : List Expr} {kk p pos tpos a : _} {wa : WE} (hg : Gl X "enumerate") (hm : X.mg "enumerate" = none) (ha : PE X a (upE X.K C W wa)) (hs : starEach [a] X.env = [(false, eval a X.env)]) : PI X (.Tuple elts kk tpos) (.Call (.Name "enumerate" p) [a] [] pos) (upI X.K C W (wEnum wa)) :=
  PI.imp (pi_enum hg hm (pa_cons ha pa_nil hs) hs) fun σ H R ⟨L, F, ρ, μ, Q0, E0, rl, q, uq, ux⟩ => by
    refine ⟨L, F, ρ, μ, _, E0, rl, q, fun d μ1 q1 F1 H1 v s1 w1 r1 => ?_, ux⟩
    obtain ⟨ds, e, q⟩ := q1
    obtain ⟨p, xs, rfl, hp, rl'⟩ := w1.getL r1 e
    exact ⟨p, xs, rfl, hp, uq _ _ _ q F1 H1 _ s1 w1 (src_enum r1)⟩
end
end T2

set_option maxRecDepth 100000
set_option maxHeartbeats 4000000
/-! sorted of pairs of texts -/
namespace SrtO
open PySem PySem.Spec PyProof.Rows
def ltS (a b : PySem.Str) : Bool := decide (a.cps.toList < b.cps.toList)
theorem str_ext {a b : PySem.Str} (h : a.cps.toList = b.cps.toList) : a = b := by
  cases a; cases b
  congr
  exact Array.toList_inj.mp h
theorem ltS_irr (a : PySem.Str) : ltS a a = false := decide_eq_false (List.lt_irrefl _)
theorem ltS_tr {a b c : PySem.Str} (h1 : ltS a b = true) (h2 : ltS b c = true) : ltS a c = true :=
  decide_eq_true (List.lt_trans (of_decide_eq_true h1) (of_decide_eq_true h2))
theorem ltS_tri {a b : PySem.Str} (h1 : ltS a b = false) (h2 : ltS b a = false) : a = b :=
  str_ext (List.le_antisymm (List.not_lt.mp (of_decide_eq_false h2)) (List.not_lt.mp (of_decide_eq_false h1)))
def lexS (p q : PySem.Str × PySem.Str) : Bool := if p.1 = q.1 then ltS p.2 q.2 else ltS p.1 q.1
theorem lexS_iff {p q : PySem.Str × PySem.Str} : lexS p q = true ↔ ltS p.1 q.1 = true ∨ (p.1 = q.1 ∧ ltS p.2 q.2 = true) := by
  unfold lexS
  by_cases e : p.1 = q.1
  · rw [if_pos e, e, ltS_irr]
    simp
  · rw [if_neg e]
    simp [e]
theorem lexS_asym {p q : PySem.Str × PySem.Str} (h : lexS p q = true) : lexS q p = false := by
  cases z : lexS q p with
  | false => rfl
  | true =>
    rcases lexS_iff.mp h with a | ⟨a, a'⟩ <;> rcases lexS_iff.mp z with b | ⟨b, b'⟩
    · exact absurd (ltS_tr a b) (by rw [ltS_irr]; decide)
    · rw [b, ltS_irr] at a; cases a
    · rw [a, ltS_irr] at b; cases b
    · exact absurd (ltS_tr a' b') (by rw [ltS_irr]; decide)
theorem lexS_tri {p q : PySem.Str × PySem.Str} (h1 : lexS p q = false) (h2 : lexS q p = false) : p = q := by
  unfold lexS at h1 h2
  by_cases e : p.1 = q.1
  · rw [if_pos e] at h1
    rw [if_pos e.symm] at h2
    exact Prod.ext e (ltS_tri h1 h2)
  · rw [if_neg e] at h1
    rw [if_neg (fun z => e z.symm)] at h2
    exact absurd (ltS_tri h1 h2) e
theorem lexS_tr {p q r : PySem.Str × PySem.Str} (h1 : lexS p q = true) (h2 : lexS q r = true) : lexS p r = true := by
  rcases lexS_iff.mp h1 with a | ⟨a, a'⟩ <;> rcases lexS_iff.mp h2 with b | ⟨b, b'⟩
  · exact lexS_iff.mpr (.inl (ltS_tr a b))
  · exact lexS_iff.mpr (.inl (b ▸ a))
  · exact lexS_iff.mpr (.inl (a.symm ▸ b))
  · exact lexS_iff.mpr (.inr ⟨a.trans b, ltS_tr a' b'⟩)
theorem swo_lexS {α : Type} (k : α → PySem.Str × PySem.Str) : Swo fun v u => lexS (k v) (k u) := by
  refine ⟨fun x y h => lexS_asym h, fun x y z h1 h2 => ?_⟩
  cases q : lexS (k z) (k x) with
  | false => rfl
  | true =>
    cases q2 : lexS (k x) (k y) with
    | true =>
      rw [lexS_tr q q2] at h2
      cases h2
    | false =>
      rw [lexS_tri q2 h1] at q
      exact q.symm.trans h2
section
variable {prog : Program} {w : World} {A : Around} {E : Value → Shared → Prop} {s : Shared}
def IsPairS (h : Heap) (v : Value) (x y : PySem.Str) : Prop := ∃ a o t u n, v = .ref a ∧ h.get? a = some o ∧ o.cls = .type "tuple" ∧ o.data = .seq #[.str x t, .str y u] n
theorem IsPairS.keeps {h h' : Heap} {v : Value} {x y : PySem.Str} (p : IsPairS h v x y) (k : ∀ b o, h.get? b = some o → o.cls = .type "tuple" → h'.get? b = some o) : IsPairS h' v x y := by
  obtain ⟨a, o, t, u, n, e, ho, hc, hd⟩ := p
  exact ⟨a, o, t, u, n, e, k _ _ ho hc, hc, hd⟩
theorem firsts_ofS {h : Heap} : ∀ {vs : List Value}, (∀ v ∈ vs, ∃ x y, IsPairS h v x y) → ∃ fs : List Value, PySem.W.KatTups h vs fs ∧ fs.length = vs.length ∧ ∀ f ∈ fs, ∃ x t, f = Value.str x t
  | [], _ => ⟨[], PySem.W.KatTups.nil, rfl, fun _ hm => by simp at hm⟩
  | v :: vs, hp => by
    obtain ⟨fs, h1, h2, h3⟩ := firsts_ofS (vs := vs) fun v' hm => hp v' (List.mem_cons_of_mem _ hm)
    obtain ⟨x, y, a, o, t, u, n, e, ho, hc, hd⟩ := hp v (List.mem_cons_self ..)
    subst e
    refine ⟨.str x t :: fs, PySem.W.KatTups.cons ho hc hd rfl h1, by rw [List.length_cons, List.length_cons, h2], fun f hm => ?_⟩
    rcases List.mem_cons.mp hm with rfl | hm
    · exact ⟨x, t, rfl⟩
    · exact h3 f hm
theorem pair_cmpS {vs : List Value} {k : Value → PySem.Str × PySem.Str} (hp : ∀ v ∈ vs, IsPairS s.heap v (k v).1 (k v).2) : Cmp prog w A s (tuples' true) (fun p => p.1 ∈ vs) (lt2 fun v u => lexS (k v) (k u)) := by
  intro p q hm hm'
  have h1 := hp _ hm
  have h2 := hp _ hm'
  show wpAny (model prog w) A (keyLt' (tuples' true) p.1 q.1) (fun r s' => s' = s ∧ r = lexS (k p.1) (k q.1)) (fun _ _ => False) s
  unfold lexS
  generalize (k p.1).1 = x at h1 ⊢
  generalize (k p.1).2 = y at h1 ⊢
  generalize (k q.1).1 = x' at h2 ⊢
  generalize (k q.1).2 = y' at h2 ⊢
  obtain ⟨a, o, t, u, n, e, ho, hc, hd⟩ := h1
  obtain ⟨a', o', t', u', n', e', ho', hc', hd'⟩ := h2
  rw [e, e']
  refine PySem.W.kat_lt ho hd ho' hd' ?_
  show PySem.W.KatLex prog w A true (decide (2 < 2)) _ [(.str x t, .str x' t'), (.str y u, .str y' u')] 0 s
  refine PySem.W.kat_cons (SeqAt.EqAt.str_str x t x' t' prog w _ _ ?_)
  refine PySem.W.kat_go (fun e1 => ?_) (fun e1 => ?_)
  · have ex : x = x' := by simpa using e1
    refine PySem.W.kat_yes (PySem.W.kat_cons (SeqAt.EqAt.str_str y u y' u' prog w _ _ ?_))
    refine PySem.W.kat_go (fun e2 => ?_) (fun e2 => ?_)
    · have ey : y = y' := by simpa using e2
      have e3 : (if x = x' then ltS y y' else ltS x x') = false := by
        rw [if_pos ex, ey]
        exact ltS_irr _
      exact PySem.W.kat_yes (PySem.W.kat_nil ⟨rfl, e3.symm⟩)
    · have e3 : (if x = x' then ltS y y' else ltS x x') = ltS y y' := if_pos ex
      refine PySem.W.kat_no (PyProof.Rows.oneLt_any_str ?_)
      exact (show s = s ∧ ltS y y' = (if x = x' then ltS y y' else ltS x x') from ⟨rfl, e3.symm⟩)
  · have ex : ¬ x = x' := by simpa using e1
    have e3 : (if x = x' then ltS y y' else ltS x x') = ltS x x' := if_neg ex
    exact PySem.W.kat_no (PyProof.Rows.oneLt_any_str (show s = s ∧ ltS x x' = (if x = x' then ltS y y' else ltS x x') from ⟨rfl, e3.symm⟩))
theorem pairs_sortableS {a : Addr} {vs : List Value} {k : Value → PySem.Str × PySem.Str} (h0 : 0 < vs.length) (hp : ∀ v ∈ vs, IsPairS s.heap v (k v).1 (k v).2) (ha : ∀ o, s.heap.get? a = some o → o.cls ≠ .type "tuple") : SortableO prog w A s a vs fun v u => lexS (k v) (k u) := by
  intro h' keep
  have hp' : ∀ v ∈ vs, IsPairS h' v (k v).1 (k v).2 := fun v hm => (hp v hm).keeps fun b o e c => keep b o (fun z => by subst z; exact ha o e c) e
  obtain ⟨fs, h1, h2, h3⟩ := firsts_ofS fun v hm => ⟨_, _, hp' v hm⟩
  refine ⟨tuples' true, fun Q E hq => ?_, pair_cmpS hp'⟩
  refine PySem.W.kat_kind (T := .type "str") h1 (by omega) (fun f hm => ?_) (by rfl) ?_
  · obtain ⟨x, t, rfl⟩ := h3 f hm
    exact PySem.W.Looks.now
  · have e : (Value.type "str" != Value.type "tuple") = true := by first | decide +kernel | rfl | decide
    rw [e]
    exact hq
/-- sorted(l) of pairs of texts -/
theorem sorted_pairsS {l : Addr} {vs : List Value} {k : Value → PySem.Str × PySem.Str} {Q : Value → Shared → Prop} (hl : s.heap.IsList l vs.toArray) (hz : vs.length ≤ sizeLine) (hp : ∀ v ∈ vs, IsPairS s.heap v (k v).1 (k v).2)
    (h : ∀ (h' : Heap) (d : Addr) (out : List Value), Srtd (fun v u => lexS (k v) (k u)) out → Stb (fun v u => lexS (k v) (k u)) out vs → (∀ b o, s.heap.get? b = some o → h'.get? b = some o) → s.heap.objs.size ≤ d → (∃ n, h'.get? d = some (seqObj "list" out.toArray n)) → Q (.ref d) { s with heap := h' }) :
    wpAny (model prog w) A (call (.builtin "sorted") [.ref l]) Q E s := by
  refine sorted_ord (swo_lexS k) hl hz (fun h2 h₁ a ha kk => ?_) fun out hs hb => ?_
  · refine pairs_sortableS (s := { s with heap := h₁ }) (by omega) (fun v hm => (hp v hm).keeps fun b o e _ => (kk b o e).2) fun o e => ?_
    have e' : some o = some (seqObj "list" vs.toArray 0) := e.symm.trans ha
    cases e'
    intro c
    exact absurd (Value.type.inj c) (by decide)
  · exact h _ _ out hs hb (fun b o e => sortedAll_old e) (Nat.le_succ _) (sortedAll_at s.heap vs out.toArray)
end
end SrtO
namespace L2
open PySem PySem.Spec PyProof.Rows
abbrev ZP := Addr × PySem.Str × PySem.Str
def rSortedPS (K : PySem.W.Frag) : List V → Hp → VK → Prop := fun vs H Q => ∃ (a : Addr) (zs : List ZP), vs = [V.ref a] ∧ SqL K H a (zs.map fun z => V.ref z.1) ∧ (∀ z ∈ zs, SqT K H z.1 [.str z.2.1, .str z.2.2]) ∧
  ∀ (ys : List ZP) p, ys.Perm zs → ys.Pairwise (fun z y => SrtO.lexS y.2 z.2 = false) → H p = none → Q (.ref p) (upd H p (.lst (ys.map fun z => V.ref z.1)))
/-- the pair of texts that stands there -/
def keyPS (h : Heap) : Value → PySem.Str × PySem.Str
  | .ref a => match h.get? a with
    | some o => match o.data with
      | .seq xs _ => match xs.toList with
        | [.str x _, .str y _] => (x, y)
        | _ => (Str.empty, Str.empty)
      | _ => (Str.empty, Str.empty)
    | none => (Str.empty, Str.empty)
  | _ => (Str.empty, Str.empty)
theorem keyPS_at {h : Heap} {v : Value} {x y : PySem.Str} (p : SrtO.IsPairS h v x y) : keyPS h v = (x, y) := by
  obtain ⟨a, o, t, u, n, rfl, ho, hc, hd⟩ := p
  simp only [keyPS, ho, hd]
theorem vals_refsP : ∀ {as : List Addr} {vs : List Value}, Vals (as.map V.ref) vs → vs = as.map Value.ref
  | [], vs, h => by cases h; rfl
  | a :: as, vs, h => by
    cases h with
    | cons e r =>
      have e : _ = Value.ref a := e
      rw [e, vals_refsP r]
      rfl
section
variable {X : Cx}
theorem cr_sortedPS : CallR X (.builtin "sorted") (rSortedPS X.K) := by
  intro pins s σ H vs us Q I r h
  obtain ⟨a, zs, rfl, hs, hx, q⟩ := h
  obtain ⟨its, rv, hl, hz⟩ := I.list hs
  obtain ⟨u, rfl, ru⟩ := vals1 r
  obtain rfl : u = Value.ref a := ru
  have ei : its = zs.map fun z => Value.ref z.1 := by
    have e := vals_refsP (as := zs.map (·.1)) (vs := its) (by rw [List.map_map]; exact rv)
    rw [List.map_map] at e
    exact e
  have pr : ∀ z ∈ zs, SrtO.IsPairS s.heap (Value.ref z.1) z.2.1 z.2.2 := fun z hm => by
    obtain ⟨it, r2, ⟨o, ho, hc, n, hd⟩, _⟩ := I.tuple (hx z hm)
    obtain ⟨u1, u2, rfl, ri, rj⟩ := vals2 r2
    obtain ⟨t1, rfl⟩ := ri
    obtain ⟨t2, rfl⟩ := rj
    exact ⟨z.1, o, t1, t2, n, rfl, ho, hc, hd⟩
  refine SrtO.sorted_pairsS (k := keyPS s.heap) hl.isList (by rw [← rv.length]; exact hz) (fun v hv => ?_) fun h' d out h1 h2 kp hd hn => ?_
  · rw [ei] at hv
    obtain ⟨z, hm, rfl⟩ := List.mem_map.mp hv
    rw [keyPS_at (pr z hm)]
    exact pr z hm
  · obtain ⟨ys, hp, rfl⟩ := perm_lift (fun z : ZP => Value.ref z.1) (h2.perm.trans (by rw [ei])) zs rfl
    obtain ⟨n, hn⟩ := hn
    have e3 : (ys.map fun z => Value.ref z.1).map backV = ys.map fun z => V.ref z.1 := by
      rw [List.map_map]
      rfl
    have h3 : ∀ u ∈ (ys.map fun z => Value.ref z.1), ∃ a, u = Value.ref a := fun u hu => by
      obtain ⟨z, _, rfl⟩ := List.mem_map.mp hu
      exact ⟨_, rfl⟩
    have vb := vals_back h3
    rw [e3] at vb
    refine ⟨.ref d, upd H d (.lst (ys.map fun z => V.ref z.1)), I.laid (t' := s.toks) kp hd ⟨?_, _, n, vb, hn⟩, rfl, q ys d hp ?_ (I.hok.fresh hd)⟩
    · rw [List.length_map, hp.length_eq]
      rw [List.length_map] at hz
      exact hz
    · have h4 := List.pairwise_map.mp h1
      refine h4.imp_of_mem fun {x y} mx my e => ?_
      have e' : SrtO.lexS (keyPS s.heap (.ref y.1)) (keyPS s.heap (.ref x.1)) = false := e
      rw [keyPS_at (pr y (hp.mem_iff.mp my)), keyPS_at (pr x (hp.mem_iff.mp mx))] at e'
      exact e'
end
end L2
namespace T2
open PySem PySem.Spec PyProof.Rows L2
def pD (p : PySem.Str × PySem.Str) : D := .tup [.str p.1, .str p.2]
/-- sorted: texts, pairs of texts -/
def SrtP (qs ps : List (PySem.Str × PySem.Str)) : Prop := qs.Perm ps ∧ qs.Pairwise (fun z y => SrtO.lexS y z = false)
def gSortP : GC := fun xs μ Q => ∃ (x : D) (ps : List (PySem.Str × PySem.Str)), xs = [x] ∧ getL μ x = some (ps.map pD) ∧ ∀ qs, SrtP qs ps → Q (.lst (qs.map pD)) μ
def gSortPM : GC := fun xs μ Q => ∃ (x : D) (ps : List (PySem.Str × PySem.Str)), xs = [x] ∧ getL μ x = some (ps.map pD) ∧ ∀ qs, SrtP qs ps → ∀ a, μ a = none → Q (.raw a) (mset μ a (.lst (qs.map pD)))
section
variable {K : PySem.W.Frag} {C : CT} {F : Hp}
theorem RepL.pairs : ∀ {ps : List (PySem.Str × PySem.Str)} {vs : List V}, RepL K C F (ps.map pD) vs → ∃ zs : List ZP, zs.map (·.2) = ps ∧ vs = zs.map (fun z => V.ref z.1) ∧ ∀ z ∈ zs, F z.1 = some (.tup [.str z.2.1, .str z.2.2])
  | [], _, h => by unfold RepL at h; exact ⟨[], rfl, h, fun z hm => absurd hm (by simp)⟩
  | p :: ps, _, h => by
    rw [List.map_cons] at h
    unfold RepL at h
    obtain ⟨x, r, rfl, h1, h2⟩ := h
    obtain ⟨zs, e1, rfl, h3⟩ := RepL.pairs h2
    unfold pD at h1
    obtain ⟨a, xs, rfl, hq, hr⟩ := h1.tupP
    obtain rfl := RepL.strs (ys := [p.1, p.2]) hr
    refine ⟨(a, p) :: zs, by rw [List.map_cons, e1], rfl, fun z hm => ?_⟩
    rcases List.mem_cons.mp hm with rfl | hm
    · exact hq
    · exact h3 z hm
theorem RepL.ofPairs : ∀ {zs : List ZP}, (∀ z ∈ zs, F z.1 = some (.tup [.str z.2.1, .str z.2.2])) → RepL K C F ((zs.map (·.2)).map pD) (zs.map fun z => V.ref z.1)
  | [], _ => by unfold RepL; rfl
  | z :: zs, h => by
    rw [List.map_cons, List.map_cons, List.map_cons]
    refine RepL.cons ?_ (RepL.ofPairs fun y hm => h y (List.mem_cons_of_mem _ hm))
    exact Rep.ofTup (h z (List.mem_cons_self ..)) (RepL.ofStrs (ys := [z.2.1, z.2.2]))
end
section
variable {X : Cx} {C : CT}
theorem cad_sortP : CallD X C (.builtin "sorted") gSortP := ⟨_, cr_sortedPS, fun L F μ H xs vs Q0 Q wd rx q uq => by
  obtain ⟨x, ps, rfl, e, q⟩ := q
  obtain ⟨v, rfl, r⟩ := rx.one
  obtain ⟨p, ws, rfl, hp, rl⟩ := wd.getL r e
  obtain ⟨zs, rfl, rfl, hz⟩ := rl.pairs
  refine ⟨p, zs, rfl, hp, fun z hm => .of (wd.sub _ _ (hz z hm)), fun ys l hy hs hn => ?_⟩
  have hf := (wd.fresh hn).2
  exact uq _ _ (q (ys.map (·.2)) ⟨hy.map _, List.pairwise_map.mpr hs⟩) (upd F l (.lst (ys.map fun z => V.ref z.1))) _ _ (Sub.new hf) (wd.frz hn) (.ofLst upd_same (RepL.ofPairs fun z hm => Sub.new hf _ _ (hz z (hy.mem_iff.mp hm))))⟩
theorem cad_sortPM : CallD X C (.builtin "sorted") gSortPM := ⟨_, cr_sortedPS, fun L F μ H xs vs Q0 Q wd rx q uq => by
  obtain ⟨x, ps, rfl, e, q⟩ := q
  obtain ⟨v, rfl, r⟩ := rx.one
  obtain ⟨p, ws, rfl, hp, rl⟩ := wd.getL r e
  obtain ⟨zs, rfl, rfl, hz⟩ := rl.pairs
  refine ⟨p, zs, rfl, hp, fun z hm => .of (wd.sub _ _ (hz z hm)), fun ys l hy hs hn => ?_⟩
  exact uq _ _ (q (ys.map (·.2)) ⟨hy.map _, List.pairwise_map.mpr hs⟩ l (wd.fresh hn).1) F _ _ (Sub.refl F) (wd.new hn ⟨_, upd_same, RepL.ofPairs fun z hm => hz z (hy.mem_iff.mp hm)⟩) .ofRaw⟩
theorem CallD.or {f : Value} {g g' : GC} (h : CallD X C f g) (h' : CallD X C f g') : CallD X C f (fun xs μ Q => g xs μ Q ∨ g' xs μ Q) := by
  obtain ⟨r, hr, k⟩ := h
  obtain ⟨r', hr', k'⟩ := h'
  exact ⟨_, T2.CallR.or hr hr', fun L F μ H xs vs Q0 Q wd rx q uq => q.elim (fun q => .inl (k L F μ H xs vs Q0 Q wd rx q uq)) fun q => .inr (k' L F μ H xs vs Q0 Q wd rx q uq)⟩
def gSortB : GC := fun xs μ Q => gSorted xs μ Q ∨ gSortP xs μ Q
def gSortBM : GC := fun xs μ Q => gSortedM xs μ Q ∨ gSortPM xs μ Q
theorem cad_sortB : CallD X C (.builtin "sorted") gSortB := cad_sorted.or cad_sortP
theorem cad_sortBM : CallD X C (.builtin "sorted") gSortBM := cad_sortedM.or cad_sortPM
end
end T2

set_option maxRecDepth 100000
set_option maxHeartbeats 4000000
/-! max, min of two texts -/
namespace L2
open PySem PySem.Spec PyProof.Rows
section
variable {prog : Program} {w : World} {A : Around} {E : Value → Shared → Prop} {s : Shared} {Q : Value → Shared → Prop} {a b : Value}
inductive StrV : Value → Prop
  | str (x t) : StrV (.str x t)
def ltW : Value → Value → Bool
  | .str a _, .str b _ => SrtO.ltS a b
  | _, _ => false
theorem lt_strW (ha : StrV a) (hb : StrV b) (h : Q (.bool (ltW a b)) s) : wpAny (model prog w) A (richCompare .Lt a b) Q E s := by
  cases ha; cases hb
  exact (PyProof.Rows.lt_str h : wpAny (model prog w) A (compareOp .Lt (.str _ _) (.str _ _)) Q E s)
theorem gt_strW (ha : StrV a) (hb : StrV b) (h : Q (.bool (ltW b a)) s) : wpAny (model prog w) A (richCompare .Gt a b) Q E s := by
  cases ha; cases hb
  exact (PySem.P.gt_str h : wpAny (model prog w) A (compareOp .Gt (.str _ _) (.str _ _)) Q E s)
end
theorem cmpOf_ltW {prog : Program} {w : World} {A : Around} (vs : Array Value) (hn : ∀ v ∈ vs, StrV v) :
    CmpOf prog w A .Lt (fun i v => vs[i]? = some v) (fun i j => ltW (vs.getD i .none) (vs.getD j .none)) := fun i j vi vj s Q E hi hj h => by
  have e1 : vs.getD i .none = vi := by simp [Array.getD_eq_getD_getElem?, hi]
  have e2 : vs.getD j .none = vj := by simp [Array.getD_eq_getD_getElem?, hj]
  simp only [e1, e2] at h
  exact lt_strW (hn _ (Array.mem_of_getElem? hi)) (hn _ (Array.mem_of_getElem? hj)) h
theorem cmpOf_gtW {prog : Program} {w : World} {A : Around} (vs : Array Value) (hn : ∀ v ∈ vs, StrV v) :
    CmpOf prog w A .Gt (fun i v => vs[i]? = some v) (fun i j => ltW (vs.getD j .none) (vs.getD i .none)) := fun i j vi vj s Q E hi hj h => by
  have e1 : vs.getD i .none = vi := by simp [Array.getD_eq_getD_getElem?, hi]
  have e2 : vs.getD j .none = vj := by simp [Array.getD_eq_getD_getElem?, hj]
  simp only [e1, e2] at h
  exact gt_strW (hn _ (Array.mem_of_getElem? hi)) (hn _ (Array.mem_of_getElem? hj)) h
theorem max_two_strW {prog : Program} {w : World} {A : Around} {E : Value → Shared → Prop} {s : Shared} {Q : Value → Shared → Prop} {a b : Value} (hh : A.handled = none) (ha : StrV a) (hb : StrV b)
    (h : ∀ h' tk, (∀ c o, s.heap.get? c = some o → h'.get? c = some o) → Q (if ltW a b then b else a) { s with heap := h', toks := tk }) :
    wpAny (model prog w) A (call (.builtin "max") [a, b]) Q E s := by
  have hT : (s.heap.push { cls := .type "tuple", data := .seq #[a, b] }).IsTuple s.heap.objs.size #[a, b] := ⟨_, Heap.get?_push_size _ rfl, rfl, 0, rfl⟩
  refine call_max_two (wpAny_pyIter_tuple hT ?_)
  have hsz : (s.heap.push { cls := .type "tuple", data := .seq #[a, b] }).objs.size = s.heap.objs.size + 1 := Heap.size_push ..
  refine ⟨_, [_, s.heap.objs.size], [_], _, _, _, _, rfl, Walks.tuple (A := A.in1) hh _ s.heap.objs.size (by rw [hsz]; exact Nat.ne_of_lt (Nat.lt_succ_self _)) #[a, b],
    ⟨⟨_, Heap.get?_push_size _ rfl, rfl, rfl⟩, hT.push _⟩, fun c hc => ?_, by simp, cmpOf_gtW #[a, b] (by simp [ha, hb]), fun v h' tk hP hk => ?_⟩
  · show c < ((s.heap.push _).push _).objs.size
    rw [Heap.size_push, hsz]
    rcases List.mem_cons.mp hc with rfl | hc
    · rw [hsz]; exact Nat.lt_succ_self _
    · rcases List.mem_cons.mp hc with rfl | hc
      · exact Nat.lt_succ_of_lt (Nat.lt_succ_self _)
      · cases hc
  · have hold : ∀ c o, s.heap.get? c = some o → h'.get? c = some o := fun c o e => by
      refine hk c o (fun hm => ?_) (Heap.get?_push_of_some _ (Heap.get?_push_of_some _ e))
      rcases List.mem_cons.mp hm with e1 | hm
      · have := Heap.lt_size e; rw [e1, hsz] at this; exact Nat.lt_irrefl _ (Nat.lt_of_succ_lt this)
      · cases hm
    have := h h' tk hold
    have hv : v = if ltW a b then b else a := by
      cases hc : ltW a b <;> simp [argBest, hc] at hP <;> simp [hP]
    rw [hv]; exact this
theorem min_two_strW {prog : Program} {w : World} {A : Around} {E : Value → Shared → Prop} {s : Shared} {Q : Value → Shared → Prop} {a b : Value} (hh : A.handled = none) (ha : StrV a) (hb : StrV b)
    (h : ∀ h' tk, (∀ c o, s.heap.get? c = some o → h'.get? c = some o) → Q (if ltW b a then b else a) { s with heap := h', toks := tk }) :
    wpAny (model prog w) A (call (.builtin "min") [a, b]) Q E s := by
  have hT : (s.heap.push { cls := .type "tuple", data := .seq #[a, b] }).IsTuple s.heap.objs.size #[a, b] := ⟨_, Heap.get?_push_size _ rfl, rfl, 0, rfl⟩
  refine call_min_two (wpAny_pyIter_tuple hT ?_)
  have hsz : (s.heap.push { cls := .type "tuple", data := .seq #[a, b] }).objs.size = s.heap.objs.size + 1 := Heap.size_push ..
  refine ⟨_, [_, s.heap.objs.size], [_], _, _, _, _, rfl, Walks.tuple (A := A.in1) hh _ s.heap.objs.size (by rw [hsz]; exact Nat.ne_of_lt (Nat.lt_succ_self _)) #[a, b],
    ⟨⟨_, Heap.get?_push_size _ rfl, rfl, rfl⟩, hT.push _⟩, fun c hc => ?_, by simp, cmpOf_ltW #[a, b] (by simp [ha, hb]), fun v h' tk hP hk => ?_⟩
  · show c < ((s.heap.push _).push _).objs.size
    rw [Heap.size_push, hsz]
    rcases List.mem_cons.mp hc with rfl | hc
    · rw [hsz]; exact Nat.lt_succ_self _
    · rcases List.mem_cons.mp hc with rfl | hc
      · exact Nat.lt_succ_of_lt (Nat.lt_succ_self _)
      · cases hc
  · have hold : ∀ c o, s.heap.get? c = some o → h'.get? c = some o := fun c o e => by
      refine hk c o (fun hm => ?_) (Heap.get?_push_of_some _ (Heap.get?_push_of_some _ e))
      rcases List.mem_cons.mp hm with e1 | hm
      · have := Heap.lt_size e; rw [e1, hsz] at this; exact Nat.lt_irrefl _ (Nat.lt_of_succ_lt this)
      · cases hm
    have := h h' tk hold
    have hv : v = if ltW b a then b else a := by
      cases hc : ltW b a <;> simp [argBest, hc] at hP <;> simp [hP]
    rw [hv]; exact this
section
variable {X : Cx}
theorem call_max2S (hc : X.calm = true) : CallR X (.builtin "max") (fun xs H Q => ∃ x y : PySem.Str, xs = [.str x, .str y] ∧ Q (.str (if SrtO.ltS x y = true then y else x)) H) := by
  intro pins s σ H xs us Q I r h
  obtain ⟨x, y, rfl, q⟩ := h
  obtain ⟨u, w', rfl, ⟨t, rfl⟩, ⟨t', rfl⟩⟩ := vals2 r
  refine max_two_strW (I.ok.hd hc) (.str x t) (.str y t') fun h' tk k => ⟨_, H, I.kept k, ?_, q⟩
  show RelV (.str (if SrtO.ltS x y = true then y else x)) (if SrtO.ltS x y = true then Value.str y t' else Value.str x t)
  by_cases hj : SrtO.ltS x y = true
  · rw [if_pos hj, if_pos hj]; exact ⟨_, rfl⟩
  · rw [if_neg hj, if_neg hj]; exact ⟨_, rfl⟩
theorem call_min2S (hc : X.calm = true) : CallR X (.builtin "min") (fun xs H Q => ∃ x y : PySem.Str, xs = [.str x, .str y] ∧ Q (.str (if SrtO.ltS y x = true then y else x)) H) := by
  intro pins s σ H xs us Q I r h
  obtain ⟨x, y, rfl, q⟩ := h
  obtain ⟨u, w', rfl, ⟨t, rfl⟩, ⟨t', rfl⟩⟩ := vals2 r
  refine min_two_strW (I.ok.hd hc) (.str x t) (.str y t') fun h' tk k => ⟨_, H, I.kept k, ?_, q⟩
  show RelV (.str (if SrtO.ltS y x = true then y else x)) (if SrtO.ltS y x = true then Value.str y t' else Value.str x t)
  by_cases hj : SrtO.ltS y x = true
  · rw [if_pos hj, if_pos hj]; exact ⟨_, rfl⟩
  · rw [if_neg hj, if_neg hj]; exact ⟨_, rfl⟩
end
end L2
namespace T2
open PySem PySem.Spec PyProof.Rows L2
section
variable {X : Cx} {C : CT}
def gMaxS : GC := fun xs μ Q => ∃ x y : PySem.Str, xs = [.str x, .str y] ∧ Q (.str (if SrtO.ltS x y = true then y else x)) μ
def gMinS : GC := fun xs μ Q => ∃ x y : PySem.Str, xs = [.str x, .str y] ∧ Q (.str (if SrtO.ltS y x = true then y else x)) μ
theorem cad_maxS (hc : X.calm = true) : CallD X C (.builtin "max") gMaxS := ⟨_, call_max2S hc, fun L F μ H xs vs Q0 Q wd rx q uq => by
  obtain ⟨i, j, rfl, q⟩ := q
  obtain ⟨v, u, rfl, r, r2⟩ := rx.two
  exact ⟨i, j, by rw [r.str, r2.str], uq _ _ q F H _ (Sub.refl F) wd .ofStr⟩⟩
theorem cad_minS (hc : X.calm = true) : CallD X C (.builtin "min") gMinS := ⟨_, call_min2S hc, fun L F μ H xs vs Q0 Q wd rx q uq => by
  obtain ⟨i, j, rfl, q⟩ := q
  obtain ⟨v, u, rfl, r, r2⟩ := rx.two
  exact ⟨i, j, by rw [r.str, r2.str], uq _ _ q F H _ (Sub.refl F) wd .ofStr⟩⟩
def gMaxB : GC := fun xs μ Q => gMax xs μ Q ∨ gMaxS xs μ Q
def gMinB : GC := fun xs μ Q => gMin xs μ Q ∨ gMinS xs μ Q
theorem cad_maxB (hc : X.calm = true) : CallD X C (.builtin "max") gMaxB := (cad_max hc).or (cad_maxS hc)
theorem cad_minB (hc : X.calm = true) : CallD X C (.builtin "min") gMinB := (cad_min hc).or (cad_minS hc)
end
end T2

set_option maxRecDepth 100000
set_option maxHeartbeats 4000000
/-! zip over two things that are drawn from, whatever they are -/
namespace ZD
open PySem PySem.Spec PyProof.Rows
open PySem (IsPair IsZip)
structure Ap (z TI TO i1 i2 : Addr) (fp1 fp2 : List Addr) : Prop where
  TIz : TI ≠ z
  TOz : TO ≠ z
  i1z : i1 ≠ z
  i2z : i2 ≠ z
  TITO : TI ≠ TO
  TIi1 : TI ≠ i1
  TIi2 : TI ≠ i2
  TOi1 : TO ≠ i1
  TOi2 : TO ≠ i2
  z1 : z ∉ fp1
  z2 : z ∉ fp2
  t1 : TO ∉ fp1
  t2 : TO ∉ fp2
  i12 : i1 ∉ fp2
  i21 : i2 ∉ fp1
section
variable {prog : Program} {w : World} {A : Around} {E : Value → Shared → Prop} {s : Shared} {z TI TO i1 i2 : Addr} {fp1 fp2 : List Addr} {n1 n2 k1 k2 : Nat} {P1 P2 : Nat → Value → Prop} {St1 St2 : Nat → Heap → Prop} {a b : Value}
theorem ne_fp {c d : Addr} {l : List Addr} (h : d ∉ l) (hc : c ∈ l) : c ≠ d := fun e => h (e ▸ hc)
theorem next_item {Q : Value → Shared → Prop} (D1 : Draws prog w A i1 fp1 n1 P1 St1) (D2 : Draws prog w A i2 fp2 n2 P2 St2) (D : Ap z TI TO i1 i2 fp1 fp2)
    (hz : IsZip s.heap z TI TO .none) (hTI : IsPair s.heap TI (.ref i1) (.ref i2)) (hTO : IsPair s.heap TO a b) (h1 : St1 k1 s.heap) (h2 : St2 k2 s.heap) (l1 : k1 < n1) (l2 : k2 < n2)
    (hQ : ∀ x y h' tk, P1 k1 x → P2 k2 y → IsZip h' z TI TO (rawInt s.heap.objs.size) → IsPair h' TO x y → St1 (k1 + 1) h' → St2 (k2 + 1) h' → IsPair h' s.heap.objs.size x y → h'.objs.size = s.heap.objs.size + 1 →
      (∀ c o, c ≠ z → c ≠ TO → c ≠ i1 → c ≠ i2 → s.heap.get? c = some o → h'.get? c = some o) → Q (.ref s.heap.objs.size) { s with heap := h', toks := tk }) :
    wpAny (model prog w) A (Builtin.«zip.__next__» ⟨[.ref z], []⟩) (fun fin s' => ∃ v, fin = .done (.ret v) ∧ Q v s') E s := by
  obtain ⟨hp, g, d, tk0, os⟩ := s
  show wpAny _ _ (field (.ref z) 2 >>= _) _ _ _
  refine wpAny_bind (wpAny_field hz rfl (x := .bool false) rfl ?_)
  show wpAny _ _ (field (.ref z) 3 >>= _) _ _ _
  refine wpAny_bind (wpAny_field hz rfl (x := .ref TI) rfl ?_)
  refine wpAny_bind (wpAny_seqItems hTI rfl ?_)
  show wpAny _ _ (Builtin.SmallTypes.ownedTupleIsFree (.ref z) >>= _) _ _ _
  refine wpAny_bind ?_
  unfold Builtin.SmallTypes.ownedTupleIsFree
  refine wpAny_bind (wpAny_field hz rfl (x := .none) rfl (wpAny_pure ?_))
  simp only [if_true]
  refine wpAny_bind (wpAny_rule ?_)
  refine wpAny_bind (wpAny_field hz rfl (x := .ref TO) rfl ?_)
  refine wpAny_bind (wpAny_setField_rec hz (by simp) fun h₁ hz₁ hs₁ => ?_)
  replace hz₁ : IsZip h₁ z TI TO .ellipsis := hz₁
  replace hs₁ : Heap.SameBut z hp h₁ := hs₁
  refine wpAny_bind ?_
  simp only [List.zipIdx_cons, List.zipIdx_nil, List.forIn_cons, List.forIn_nil]
  refine wpAny_bind (wpAny_bind (wpAny_onRaise ?_))
  show wpAny _ _ (Builtin.SmallTypes.nextOf (.ref i1) >>= _) _ _ _
  refine wpAny_bind (D1.item k1 ⟨h₁, g, d, tk0, os⟩ _ _ l1 (D1.frame _ _ _ h1 fun c hc o e => hs₁.extBut _ _ (ne_fp D.z1 hc) e) fun x h₂ tk1 px h1₂ hs₂ => wpAny_pure ?_)
  replace hs₂ : Heap.SameBut i1 h₁ h₂ := hs₂
  have hTO₂ : IsPair h₂ TO a b := hs₂.extBut _ _ D.TOi1 (hs₁.extBut _ _ D.TOz hTO)
  refine wpAny_bind (wpAny_seqItems (s := ⟨h₂, g, d, tk1, os⟩) hTO₂ rfl ?_)
  refine wpAny_bind (wpAny_updateSeq_pair (s := ⟨h₂, g, d, tk1, os⟩) hTO₂ fun h₃ hTO₃ hs₃ => ?_)
  replace hTO₃ : IsPair h₃ TO x b := hTO₃
  replace hs₃ : Heap.SameBut TO h₂ h₃ := hs₃
  refine wpAny_bind (wpAny_letGo (wpAny_pure ?_))
  refine wpAny_bind (wpAny_bind (wpAny_onRaise ?_))
  show wpAny _ _ (Builtin.SmallTypes.nextOf (.ref i2) >>= _) _ _ _
  refine wpAny_bind (D2.item k2 ⟨h₃, g, d, tk1, os⟩ _ _ l2 (D2.frame _ _ _ h2 fun c hc o e => hs₃.extBut _ _ (ne_fp D.t2 hc) (hs₂.extBut _ _ (ne_fp D.i12 hc) (hs₁.extBut _ _ (ne_fp D.z2 hc) e))) fun y h₄ tk2 py h2₄ hs₄ => wpAny_pure ?_)
  replace hs₄ : Heap.SameBut i2 h₃ h₄ := hs₄
  have hTO₄ : IsPair h₄ TO x b := hs₄.extBut _ _ D.TOi2 hTO₃
  refine wpAny_bind (wpAny_seqItems (s := ⟨h₄, g, d, tk2, os⟩) hTO₄ rfl ?_)
  refine wpAny_bind (wpAny_updateSeq_pair (s := ⟨h₄, g, d, tk2, os⟩) hTO₄ fun h₅ hTO₅ hs₅ => ?_)
  replace hTO₅ : IsPair h₅ TO x y := hTO₅
  replace hs₅ : Heap.SameBut TO h₄ h₅ := hs₅
  refine wpAny_bind (wpAny_letGo (wpAny_pure (wpAny_pure ?_)))
  refine wpAny_bind (wpAny_seqItems (s := ⟨h₅, g, d, tk2, os⟩) hTO₅ rfl ?_)
  refine wpAny_bind (wpAny_newTuple ?_)
  have hsz : h₅.objs.size = hp.objs.size := by rw [hs₅.1, hs₄.1, hs₃.1, hs₂.1, hs₁.1]
  have hz₅ : IsZip h₅ z TI TO .ellipsis := hs₅.extBut _ _ D.TOz.symm (hs₄.extBut _ _ D.i2z.symm (hs₃.extBut _ _ D.TOz.symm (hs₂.extBut _ _ D.i1z.symm hz₁)))
  have hk₅ : ∀ c o, c ≠ z → c ≠ TO → c ≠ i1 → c ≠ i2 → hp.get? c = some o → h₅.get? c = some o := fun c o c1 c2 c3 c4 e =>
    hs₅.extBut _ _ c2 (hs₄.extBut _ _ c4 (hs₃.extBut _ _ c2 (hs₂.extBut _ _ c3 (hs₁.extBut _ _ c1 e))))
  have h1₅ : St1 (k1 + 1) h₅ := D1.frame _ _ _ h1₂ fun c hc o e => hs₅.extBut _ _ (ne_fp D.t1 hc) (hs₄.extBut _ _ (ne_fp D.i21 hc) (hs₃.extBut _ _ (ne_fp D.t1 hc) e))
  have h2₅ : St2 (k2 + 1) h₅ := D2.frame _ _ _ h2₄ fun c hc o e => hs₅.extBut _ _ (ne_fp D.t2 hc) e
  have hzlt : z < h₅.objs.size := Heap.lt_size hz₅
  show wpAny _ _ (Builtin.SmallTypes.ownedTupleHandOut (.ref z) (.ref h₅.objs.size) >>= _) _ _ _
  refine wpAny_bind ?_
  unfold Builtin.SmallTypes.ownedTupleHandOut
  have hz₆ : IsZip (h₅.push { cls := .type "tuple", data := .seq #[x, y] }) z TI TO .ellipsis := Heap.get?_push_of_some _ hz₅
  refine wpAny_bind (wpAny_setField_rec hz₆ (by simp) fun h₇ hz₇ hs₇ => ?_)
  replace hz₇ : IsZip h₇ z TI TO (rawInt h₅.objs.size) := hz₇
  refine wpAny_setField_rec hz₇ (by simp) fun h₈ hz₈ hs₈ => ?_
  replace hz₈ : IsZip h₈ z TI TO (rawInt h₅.objs.size) := hz₈
  have up : ∀ c o, c ≠ z → h₅.get? c = some o → h₈.get? c = some o := fun c o c1 e => hs₈.extBut _ _ c1 (hs₇.extBut _ _ c1 (Heap.get?_push_of_some _ e))
  have hT₈ : IsPair h₈ h₅.objs.size x y := hs₈.extBut _ _ (Nat.ne_of_gt hzlt) (hs₇.extBut _ _ (Nat.ne_of_gt hzlt) (Heap.get?_push_size _ rfl))
  have hz8 : h₈.objs.size = h₅.objs.size + 1 := by rw [hs₈.1, hs₇.1, Heap.size_push]
  rw [hsz] at hz₈ hT₈ hz8
  refine wpAny_pure ⟨_, rfl, ?_⟩
  show Q (.ref h₅.objs.size) _
  rw [hsz]
  exact hQ x y h₈ tk2 px py hz₈ (up _ _ D.TOz hTO₅) (D1.frame _ _ _ h1₅ fun c hc o e => up _ _ (ne_fp D.z1 hc) e) (D2.frame _ _ _ h2₅ fun c hc o e => up _ _ (ne_fp D.z2 hc) e) hT₈ hz8 fun c o c1 c2 c3 c4 e => up c o c1 (hk₅ c o c1 c2 c3 c4 e)
theorem next_end {Q : Fin → Shared → Prop} (D1 : Draws prog w A i1 fp1 n1 P1 St1) (D2 : Draws prog w A i2 fp2 n2 P2 St2) (D : Ap z TI TO i1 i2 fp1 fp2)
    (hz : IsZip s.heap z TI TO .none) (hTI : IsPair s.heap TI (.ref i1) (.ref i2)) (hTO : IsPair s.heap TO a b) (h1 : St1 k1 s.heap) (h2 : St2 k2 s.heap) (he : k1 = n1 ∨ (k1 < n1 ∧ k2 = n2))
    (hE : ∀ h' e tk, (∀ c o, c ≠ z → c ≠ TO → c ≠ i1 → c ≠ i2 → s.heap.get? c = some o → h'.get? c = some o) → (∃ o, h'.get? e = some o ∧ o.cls = .type "StopIteration") → E (.ref e) { s with heap := h', toks := tk }) :
    wpAny (model prog w) A (Builtin.«zip.__next__» ⟨[.ref z], []⟩) Q E s := by
  obtain ⟨hp, g, d, tk0, os⟩ := s
  show wpAny _ _ (field (.ref z) 2 >>= _) _ _ _
  refine wpAny_bind (wpAny_field hz rfl (x := .bool false) rfl ?_)
  show wpAny _ _ (field (.ref z) 3 >>= _) _ _ _
  refine wpAny_bind (wpAny_field hz rfl (x := .ref TI) rfl ?_)
  refine wpAny_bind (wpAny_seqItems hTI rfl ?_)
  show wpAny _ _ (Builtin.SmallTypes.ownedTupleIsFree (.ref z) >>= _) _ _ _
  refine wpAny_bind ?_
  unfold Builtin.SmallTypes.ownedTupleIsFree
  refine wpAny_bind (wpAny_field hz rfl (x := .none) rfl (wpAny_pure ?_))
  simp only [if_true]
  refine wpAny_bind (wpAny_rule ?_)
  refine wpAny_bind (wpAny_field hz rfl (x := .ref TO) rfl ?_)
  refine wpAny_bind (wpAny_setField_rec hz (by simp) fun h₁ hz₁ hs₁ => ?_)
  replace hz₁ : IsZip h₁ z TI TO .ellipsis := hz₁
  replace hs₁ : Heap.SameBut z hp h₁ := hs₁
  refine wpAny_bind ?_
  simp only [List.zipIdx_cons, List.zipIdx_nil, List.forIn_cons, List.forIn_nil]
  refine wpAny_bind (wpAny_bind (wpAny_onRaise ?_))
  show wpAny _ _ (Builtin.SmallTypes.nextOf (.ref i1) >>= _) _ _ _
  rcases he with rfl | ⟨l1, rfl⟩
  · refine wpAny_bind (D1.done ⟨h₁, g, d, tk0, os⟩ _ _ (D1.frame _ _ _ h1 fun c hc o e => hs₁.extBut _ _ (ne_fp D.z1 hc) e) fun h₂ e hs₂ he => ?_)
    replace hs₂ : Heap.ExtBut i1 h₁ h₂ := hs₂
    obtain ⟨oe, hoe, hce⟩ := he
    have hz₂ : IsZip h₂ z TI TO .ellipsis := hs₂ _ _ D.i1z.symm hz₁
    have hez : e ≠ z := fun x => by subst x; rw [hz₂] at hoe; cases hoe; simp at hce
    refine wpAny_setField_rec (s := ⟨h₂, g, d, tk0, os⟩) hz₂ (by simp) fun h₃ _ hs₃ => hE h₃ e tk0 (fun c o c1 _ c3 _ x => hs₃.extBut _ _ c1 (hs₂ _ _ c3 (hs₁.extBut _ _ c1 x))) ⟨oe, hs₃.extBut _ _ hez hoe, hce⟩
  · refine wpAny_bind (D1.item k1 ⟨h₁, g, d, tk0, os⟩ _ _ l1 (D1.frame _ _ _ h1 fun c hc o e => hs₁.extBut _ _ (ne_fp D.z1 hc) e) fun x h₂ tk1 px h1₂ hs₂ => wpAny_pure ?_)
    replace hs₂ : Heap.SameBut i1 h₁ h₂ := hs₂
    have hTO₂ : IsPair h₂ TO a b := hs₂.extBut _ _ D.TOi1 (hs₁.extBut _ _ D.TOz hTO)
    refine wpAny_bind (wpAny_seqItems (s := ⟨h₂, g, d, tk1, os⟩) hTO₂ rfl ?_)
    refine wpAny_bind (wpAny_updateSeq_pair (s := ⟨h₂, g, d, tk1, os⟩) hTO₂ fun h₃ hTO₃ hs₃ => ?_)
    replace hs₃ : Heap.SameBut TO h₂ h₃ := hs₃
    refine wpAny_bind (wpAny_letGo (wpAny_pure ?_))
    refine wpAny_bind (wpAny_bind (wpAny_onRaise ?_))
    show wpAny _ _ (Builtin.SmallTypes.nextOf (.ref i2) >>= _) _ _ _
    refine wpAny_bind (D2.done ⟨h₃, g, d, tk1, os⟩ _ _ (D2.frame _ _ _ h2 fun c hc o e => hs₃.extBut _ _ (ne_fp D.t2 hc) (hs₂.extBut _ _ (ne_fp D.i12 hc) (hs₁.extBut _ _ (ne_fp D.z2 hc) e))) fun h₄ e hs₄ he => ?_)
    replace hs₄ : Heap.ExtBut i2 h₃ h₄ := hs₄
    obtain ⟨oe, hoe, hce⟩ := he
    have hz₄ : IsZip h₄ z TI TO .ellipsis := hs₄ _ _ D.i2z.symm (hs₃.extBut _ _ D.TOz.symm (hs₂.extBut _ _ D.i1z.symm hz₁))
    have hez : e ≠ z := fun x => by subst x; rw [hz₄] at hoe; cases hoe; simp at hce
    refine wpAny_setField_rec (s := ⟨h₄, g, d, tk1, os⟩) hz₄ (by simp) fun h₅ _ hs₅ => hE h₅ e tk1 (fun c o c1 c2 c3 c4 x => hs₅.extBut _ _ c1 (hs₄ _ _ c4 (hs₃.extBut _ _ c2 (hs₂.extBut _ _ c3 (hs₁.extBut _ _ c1 x))))) ⟨oe, hs₅.extBut _ _ hez hoe, hce⟩
theorem next_item_held {T : Addr} {f : Bool} {oT : Obj} {Q : Value → Shared → Prop} (D1 : Draws prog w A i1 fp1 n1 P1 St1) (D2 : Draws prog w A i2 fp2 n2 P2 St2) (D : Ap z TI TO i1 i2 fp1 fp2)
    (hz : IsZipHeld s.heap z TI TO T f) (hT : s.heap.get? T = some oT) (hTI : IsPair s.heap TI (.ref i1) (.ref i2)) (h1 : St1 k1 s.heap) (h2 : St2 k2 s.heap) (l1 : k1 < n1) (l2 : k2 < n2)
    (hQ : ∀ x y h' tk, P1 k1 x → P2 k2 y → IsZipHeld h' z TI TO T true → St1 (k1 + 1) h' → St2 (k2 + 1) h' → IsPair h' s.heap.objs.size x y → h'.objs.size = s.heap.objs.size + 1 →
      (∀ c o, c ≠ z → c ≠ i1 → c ≠ i2 → s.heap.get? c = some o → h'.get? c = some o) → Q (.ref s.heap.objs.size) { s with heap := h', toks := tk }) :
    wpAny (model prog w) A (Builtin.«zip.__next__» ⟨[.ref z], []⟩) (fun fin s' => ∃ v, fin = .done (.ret v) ∧ Q v s') E s := by
  obtain ⟨hp, g, d, tk0, os⟩ := s
  show wpAny _ _ (field (.ref z) 2 >>= _) _ _ _
  refine wpAny_bind (wpAny_field hz rfl (x := .bool false) rfl ?_)
  show wpAny _ _ (field (.ref z) 3 >>= _) _ _ _
  refine wpAny_bind (wpAny_field hz rfl (x := .ref TI) rfl ?_)
  refine wpAny_bind (wpAny_seqItems hTI rfl ?_)
  show wpAny _ _ (Builtin.SmallTypes.ownedTupleIsFree (.ref z) >>= _) _ _ _
  refine wpAny_bind (wpAny_tupleHeld_zip hz hT fun h₁ hz₁ hs₁ => ?_)
  replace hs₁ : Heap.SameBut z hp h₁ := hs₁
  simp only [Bool.false_eq_true, if_false]
  refine wpAny_bind ?_
  rw [← Array.forIn_toList]
  simp only [List.forIn_cons, List.forIn_nil]
  refine wpAny_bind (wpAny_bind (wpAny_holding ?_))
  show wpAny _ _ (Builtin.SmallTypes.nextOf (.ref i1) >>= _) _ _ _
  refine wpAny_bind (D1.item k1 ⟨h₁, g, d, tk0, os⟩ _ _ l1 (D1.frame _ _ _ h1 fun c hc o e => hs₁.extBut _ _ (ne_fp D.z1 hc) e) fun x h₂ tk1 px h1₂ hs₂ => wpAny_pure ?_)
  replace hs₂ : Heap.SameBut i1 h₁ h₂ := hs₂
  refine wpAny_pure ?_
  refine wpAny_bind (wpAny_bind (wpAny_holding ?_))
  show wpAny _ _ (Builtin.SmallTypes.nextOf (.ref i2) >>= _) _ _ _
  refine wpAny_bind (D2.item k2 ⟨h₂, g, d, tk1, os⟩ _ _ l2 (D2.frame _ _ _ h2 fun c hc o e => hs₂.extBut _ _ (ne_fp D.i12 hc) (hs₁.extBut _ _ (ne_fp D.z2 hc) e)) fun y h₃ tk2 py h2₃ hs₃ => wpAny_pure ?_)
  replace hs₃ : Heap.SameBut i2 h₂ h₃ := hs₃
  refine wpAny_pure (wpAny_pure ?_)
  show wpAny _ _ (newTuple [x, y] >>= _) _ _ _
  refine wpAny_bind (wpAny_newTuple ?_)
  have hsz : h₃.objs.size = hp.objs.size := by rw [hs₃.1, hs₂.1, hs₁.1]
  have hz₃ : IsZipHeld h₃ z TI TO T true := hs₃.extBut _ _ D.i2z.symm (hs₂.extBut _ _ D.i1z.symm hz₁)
  have hk : ∀ c o, c ≠ z → c ≠ i1 → c ≠ i2 → hp.get? c = some o → h₃.get? c = some o := fun c o c1 c2 c3 e => hs₃.extBut _ _ c3 (hs₂.extBut _ _ c2 (hs₁.extBut _ _ c1 e))
  have h1₃ : St1 (k1 + 1) h₃ := D1.frame _ _ _ h1₂ fun c hc o e => hs₃.extBut _ _ (ne_fp D.i21 hc) e
  refine wpAny_pure ⟨_, rfl, ?_⟩
  show Q (.ref h₃.objs.size) _
  have hpp : IsPair (h₃.push { cls := .type "tuple", data := .seq #[x, y] }) h₃.objs.size x y := Heap.get?_push_size _ rfl
  have hz4 : (h₃.push { cls := .type "tuple", data := .seq #[x, y] }).objs.size = h₃.objs.size + 1 := Heap.size_push ..
  rw [hsz] at hpp hz4 ⊢
  exact hQ x y _ tk2 px py (Heap.get?_push_of_some _ hz₃) (D1.frame _ _ _ h1₃ fun c hc o e => Heap.get?_push_of_some _ e) (D2.frame _ _ _ h2₃ fun c hc o e => Heap.get?_push_of_some _ e) hpp hz4 fun c o c1 c2 c3 e => Heap.get?_push_of_some _ (hk c o c1 c2 c3 e)
theorem next_end_held {T : Addr} {f : Bool} {oT : Obj} {Q : Fin → Shared → Prop} (D1 : Draws prog w A i1 fp1 n1 P1 St1) (D2 : Draws prog w A i2 fp2 n2 P2 St2) (D : Ap z TI TO i1 i2 fp1 fp2)
    (hz : IsZipHeld s.heap z TI TO T f) (hT : s.heap.get? T = some oT) (hTI : IsPair s.heap TI (.ref i1) (.ref i2)) (h1 : St1 k1 s.heap) (h2 : St2 k2 s.heap) (he : k1 = n1 ∨ (k1 < n1 ∧ k2 = n2))
    (hE : ∀ h' e tk, (∀ c o, c ≠ z → c ≠ i1 → c ≠ i2 → s.heap.get? c = some o → h'.get? c = some o) → (∃ o, h'.get? e = some o ∧ o.cls = .type "StopIteration") → E (.ref e) { s with heap := h', toks := tk }) :
    wpAny (model prog w) A (Builtin.«zip.__next__» ⟨[.ref z], []⟩) Q E s := by
  obtain ⟨hp, g, d, tk0, os⟩ := s
  show wpAny _ _ (field (.ref z) 2 >>= _) _ _ _
  refine wpAny_bind (wpAny_field hz rfl (x := .bool false) rfl ?_)
  show wpAny _ _ (field (.ref z) 3 >>= _) _ _ _
  refine wpAny_bind (wpAny_field hz rfl (x := .ref TI) rfl ?_)
  refine wpAny_bind (wpAny_seqItems hTI rfl ?_)
  show wpAny _ _ (Builtin.SmallTypes.ownedTupleIsFree (.ref z) >>= _) _ _ _
  refine wpAny_bind (wpAny_tupleHeld_zip hz hT fun h₁ hz₁ hs₁ => ?_)
  replace hs₁ : Heap.SameBut z hp h₁ := hs₁
  simp only [Bool.false_eq_true, if_false]
  refine wpAny_bind ?_
  rw [← Array.forIn_toList]
  simp only [List.forIn_cons, List.forIn_nil]
  refine wpAny_bind (wpAny_bind (wpAny_holding ?_))
  show wpAny _ _ (Builtin.SmallTypes.nextOf (.ref i1) >>= _) _ _ _
  rcases he with rfl | ⟨l1, rfl⟩
  · refine wpAny_bind (D1.done ⟨h₁, g, d, tk0, os⟩ _ _ (D1.frame _ _ _ h1 fun c hc o e => hs₁.extBut _ _ (ne_fp D.z1 hc) e) fun h₂ e hs₂ he => ?_)
    exact hE h₂ e tk0 (fun c o c1 c2 _ x => hs₂ _ _ c2 (hs₁.extBut _ _ c1 x)) he
  · refine wpAny_bind (D1.item k1 ⟨h₁, g, d, tk0, os⟩ _ _ l1 (D1.frame _ _ _ h1 fun c hc o e => hs₁.extBut _ _ (ne_fp D.z1 hc) e) fun x h₂ tk1 px h1₂ hs₂ => wpAny_pure ?_)
    replace hs₂ : Heap.SameBut i1 h₁ h₂ := hs₂
    refine wpAny_pure ?_
    refine wpAny_bind (wpAny_bind (wpAny_holding ?_))
    show wpAny _ _ (Builtin.SmallTypes.nextOf (.ref i2) >>= _) _ _ _
    refine wpAny_bind (D2.done ⟨h₂, g, d, tk1, os⟩ _ _ (D2.frame _ _ _ h2 fun c hc o e => hs₂.extBut _ _ (ne_fp D.i12 hc) (hs₁.extBut _ _ (ne_fp D.z2 hc) e)) fun h₃ e hs₃ he => ?_)
    exact hE h₃ e tk1 (fun c o c1 c2 c3 x => hs₃ _ _ c3 (hs₂.extBut _ _ c2 (hs₁.extBut _ _ c1 x))) he
end
end ZD

set_option maxRecDepth 100000
set_option maxHeartbeats 4000000
namespace ZD
open PySem PySem.Spec PyProof.Rows
open PySem (IsPair IsZip)
section
variable {prog : Program} {w : World} {A : Around} {E : Value → Shared → Prop} {s : Shared} {z TI TO i1 i2 : Addr} {fp1 fp2 : List Addr} {n1 n2 k1 k2 : Nat} {P1 P2 : Nat → Value → Prop} {St1 St2 : Nat → Heap → Prop} {a b : Value}
/-- drawn from wherever one stands -/
abbrev DA (prog : Program) (w : World) (it : Addr) (fp : List Addr) (n : Nat) (P : Nat → Value → Prop) (St : Nat → Heap → Prop) : Prop := ∀ A : Around, A.handled = none → Draws prog w A it fp n P St
theorem pyNext_item {Q : Option Value → Shared → Prop} (hh : A.handled = none) (D1 : DA prog w i1 fp1 n1 P1 St1) (D2 : DA prog w i2 fp2 n2 P2 St2) (D : Ap z TI TO i1 i2 fp1 fp2)
    (hz : IsZip s.heap z TI TO .none) (hTI : IsPair s.heap TI (.ref i1) (.ref i2)) (hTO : IsPair s.heap TO a b) (h1 : St1 k1 s.heap) (h2 : St2 k2 s.heap) (l1 : k1 < n1) (l2 : k2 < n2)
    (hQ : ∀ x y h' tk, P1 k1 x → P2 k2 y → IsZip h' z TI TO (rawInt s.heap.objs.size) → IsPair h' TO x y → St1 (k1 + 1) h' → St2 (k2 + 1) h' → IsPair h' s.heap.objs.size x y → h'.objs.size = s.heap.objs.size + 1 →
      (∀ c o, c ≠ z → c ≠ TO → c ≠ i1 → c ≠ i2 → s.heap.get? c = some o → h'.get? c = some o) → Q (some (.ref s.heap.objs.size)) { s with heap := h', toks := tk }) :
    wpAny (model prog w) A (pyNext (.ref z)) Q E s := by
  have hT : s.TypeIs (.ref z) "zip" := ⟨_, hz, rfl⟩
  unfold pyNext
  exact wpAny_bind (wpAny_attempt (wpAny_callSpecial?_slot (name := Str.ofString "__next__") hT F.slot_zip_next
    (wpAny_call_entry F.slot_zip_next hT F.entry_zip_next
      (next_item (D1 _ hh) (D2 _ hh) D hz hTI hTO h1 h2 l1 l2 fun x y h' tk p1 p2 a1 a2 a3 a4 a5 a6 a7 => wpAny_pure (hQ x y h' tk p1 p2 a1 a2 a3 a4 a5 a6 a7)) (F.args_zip_next_1 _))))
theorem pyNext_end {Q : Option Value → Shared → Prop} (hh : A.handled = none) (D1 : DA prog w i1 fp1 n1 P1 St1) (D2 : DA prog w i2 fp2 n2 P2 St2) (D : Ap z TI TO i1 i2 fp1 fp2)
    (hz : IsZip s.heap z TI TO .none) (hTI : IsPair s.heap TI (.ref i1) (.ref i2)) (hTO : IsPair s.heap TO a b) (h1 : St1 k1 s.heap) (h2 : St2 k2 s.heap) (he : k1 = n1 ∨ (k1 < n1 ∧ k2 = n2))
    (hQ : ∀ h' tk, (∀ c o, c ≠ z → c ≠ TO → c ≠ i1 → c ≠ i2 → s.heap.get? c = some o → h'.get? c = some o) → Q none { s with heap := h', toks := tk }) : wpAny (model prog w) A (pyNext (.ref z)) Q E s := by
  have hT : s.TypeIs (.ref z) "zip" := ⟨_, hz, rfl⟩
  unfold pyNext
  refine wpAny_bind (wpAny_attempt (wpAny_callSpecial?_slot (name := Str.ofString "__next__") hT F.slot_zip_next
    (wpAny_call_entry F.slot_zip_next hT F.entry_zip_next (next_end (D1 _ hh) (D2 _ hh) D hz hTI hTO h1 h2 he fun h' e tk hk he => ?_) (F.args_zip_next_1 _))))
  obtain ⟨o, ho, hc⟩ := he
  refine wpAny_bind (wpAny_isInstance (T := "StopIteration") (b := true) ⟨o, ho, hc⟩ isSubtype_stop ?_)
  exact wpAny_pure (hQ _ _ hk)
theorem pyNext_item_held {T : Addr} {f : Bool} {oT : Obj} {Q : Option Value → Shared → Prop} (hh : A.handled = none) (D1 : DA prog w i1 fp1 n1 P1 St1) (D2 : DA prog w i2 fp2 n2 P2 St2) (D : Ap z TI TO i1 i2 fp1 fp2)
    (hz : IsZipHeld s.heap z TI TO T f) (hT : s.heap.get? T = some oT) (hTI : IsPair s.heap TI (.ref i1) (.ref i2)) (h1 : St1 k1 s.heap) (h2 : St2 k2 s.heap) (l1 : k1 < n1) (l2 : k2 < n2)
    (hQ : ∀ x y h' tk, P1 k1 x → P2 k2 y → IsZipHeld h' z TI TO T true → St1 (k1 + 1) h' → St2 (k2 + 1) h' → IsPair h' s.heap.objs.size x y → h'.objs.size = s.heap.objs.size + 1 →
      (∀ c o, c ≠ z → c ≠ i1 → c ≠ i2 → s.heap.get? c = some o → h'.get? c = some o) → Q (some (.ref s.heap.objs.size)) { s with heap := h', toks := tk }) :
    wpAny (model prog w) A (pyNext (.ref z)) Q E s := by
  have hTy : s.TypeIs (.ref z) "zip" := ⟨_, hz, rfl⟩
  unfold pyNext
  exact wpAny_bind (wpAny_attempt (wpAny_callSpecial?_slot (name := Str.ofString "__next__") hTy F.slot_zip_next
    (wpAny_call_entry F.slot_zip_next hTy F.entry_zip_next
      (next_item_held (D1 _ hh) (D2 _ hh) D hz hT hTI h1 h2 l1 l2 fun x y h' tk p1 p2 a1 a3 a4 a5 a6 a7 => wpAny_pure (hQ x y h' tk p1 p2 a1 a3 a4 a5 a6 a7)) (F.args_zip_next_1 _))))
theorem pyNext_end_held {T : Addr} {f : Bool} {oT : Obj} {Q : Option Value → Shared → Prop} (hh : A.handled = none) (D1 : DA prog w i1 fp1 n1 P1 St1) (D2 : DA prog w i2 fp2 n2 P2 St2) (D : Ap z TI TO i1 i2 fp1 fp2)
    (hz : IsZipHeld s.heap z TI TO T f) (hT : s.heap.get? T = some oT) (hTI : IsPair s.heap TI (.ref i1) (.ref i2)) (h1 : St1 k1 s.heap) (h2 : St2 k2 s.heap) (he : k1 = n1 ∨ (k1 < n1 ∧ k2 = n2))
    (hQ : ∀ h' tk, (∀ c o, c ≠ z → c ≠ i1 → c ≠ i2 → s.heap.get? c = some o → h'.get? c = some o) → Q none { s with heap := h', toks := tk }) : wpAny (model prog w) A (pyNext (.ref z)) Q E s := by
  have hTy : s.TypeIs (.ref z) "zip" := ⟨_, hz, rfl⟩
  unfold pyNext
  refine wpAny_bind (wpAny_attempt (wpAny_callSpecial?_slot (name := Str.ofString "__next__") hTy F.slot_zip_next
    (wpAny_call_entry F.slot_zip_next hTy F.entry_zip_next (next_end_held (D1 _ hh) (D2 _ hh) D hz hT hTI h1 h2 he fun h' e tk hk he => ?_) (F.args_zip_next_1 _))))
  obtain ⟨o, ho, hc⟩ := he
  refine wpAny_bind (wpAny_isInstance (T := "StopIteration") (b := true) ⟨o, ho, hc⟩ isSubtype_stop ?_)
  exact wpAny_pure (hQ _ _ hk)
end
/-! zip(a list, a text) -/
abbrev H1 (h : Heap) (l1 : Addr) : Heap := h.push { cls := .type "list_iterator", data := .fields #[.ref l1, .int 0 0] }
abbrev H2 (h : Heap) (l1 : Addr) (x : Str) (t : Tok) : Heap := (H1 h l1).push { cls := .type (strIterType x), data := .fields #[.str x t, .int 0 0] }
abbrev H3 (h : Heap) (l1 : Addr) (x : Str) (t : Tok) : Heap := (H2 h l1 x t).push { cls := .type "tuple", data := .seq #[.ref h.objs.size, .ref (H1 h l1).objs.size] }
abbrev H4 (h : Heap) (l1 : Addr) (x : Str) (t : Tok) : Heap := (H3 h l1 x t).push { cls := .type "tuple", data := .seq #[.none, .none] }
abbrev H5 (h : Heap) (l1 : Addr) (x : Str) (t : Tok) : Heap := (H4 h l1 x t).push { cls := .type "zip", data := .fields #[.none, .bool false, .bool false, .ref (H2 h l1 x t).objs.size, .ref (H3 h l1 x t).objs.size] }
theorem meets_new (l1 : Addr) (xs : Array Value) (x : Str) (t : Tok) :
    Meets (Builtin.«zip.__new__» ⟨[.type "zip", .ref l1, .str x t], []⟩) (fun _ R s => s.heap.IsList l1 xs ∧
      R (.ok (.ret (.ref (H4 s.heap l1 x t).objs.size))) { s with heap := H5 s.heap l1 x t }) :=
  .of_wp fun prog w A R s h => by
    obtain ⟨hp, g, d, tk, os⟩ := s; obtain ⟨hl1, h⟩ := h
    have hsub := sub_zip
    have hL1 : Heap.IsList (Shared.heap ⟨hp, g, d, tk, os⟩) l1 xs := hl1
    wp_walk using wpAny_pyIter_list hL1, wpAny_pyIter_strU
    exact ⟨_, rfl, h⟩
end ZD

set_option maxRecDepth 100000
set_option maxHeartbeats 4000000
namespace ZD
open PySem PySem.Spec PyProof.Rows
open PySem (IsPair IsZip)
section
variable {prog : Program} {w : World} {z TI TO i1 i2 : Addr} {fp1 fp2 : List Addr} {n1 n2 : Nat} {P1 P2 : Nat → Value → Prop} {St1 St2 : Nat → Heap → Prop}
theorem pairArg (D1 : DA prog w i1 fp1 n1 P1 St1) (D2 : DA prog w i2 fp2 n2 P2 St2) (D : Ap z TI TO i1 i2 fp1 fp2) (m1 : i1 ∈ fp1) (m2 : i2 ∈ fp2)
    (t1 : ∀ h, St1 0 h → ∀ b ∈ fp1, ∃ o, h.get? b = some o) (t2 : ∀ h, St2 0 h → ∀ b ∈ fp2, ∃ o, h.get? b = some o) (hA0 : ∃ A : Around, A.handled = none) :
    PairArg prog w "zip" z (z :: TI :: TO :: (fp1 ++ fp2)) [z, TO, i1, i2] (min n1 n2) (fun i k v => P1 i k ∧ P2 i v)
      (fun h => IsZip h z TI TO .none ∧ IsPair h TI (.ref i1) (.ref i2) ∧ (∃ a b, IsPair h TO a b) ∧ St1 0 h ∧ St2 0 h) where
  type := fun s ok => ⟨_, ok.1, rfl⟩
  notDict := by decide
  keep := fun h h' ok hk => by
    obtain ⟨hz, hTI, ⟨a, b, hTO⟩, h1, h2⟩ := ok
    obtain ⟨A, hA⟩ := hA0
    exact ⟨hk _ _ hz, hk _ _ hTI, ⟨a, b, hk _ _ hTO⟩, (D1 A hA).frame _ _ _ h1 fun c _ o e => hk _ o e, (D2 A hA).frame _ _ _ h2 fun c _ o e => hk _ o e⟩
  there := fun h ok b hb => by
    obtain ⟨hz, hTI, ⟨a, c, hTO⟩, h1, h2⟩ := ok
    simp only [List.mem_cons, List.mem_append] at hb
    rcases hb with rfl | rfl | rfl | hb | hb
    · exact ⟨_, hz⟩
    · exact ⟨_, hTI⟩
    · exact ⟨_, hTO⟩
    · exact t1 h h1 b hb
    · exact t2 h h2 b hb
  sub := fun b hb => by
    simp only [List.mem_cons, List.not_mem_nil, or_false] at hb
    simp only [List.mem_cons, List.mem_append]
    rcases hb with rfl | rfl | rfl | rfl
    · exact .inl rfl
    · exact .inr (.inr (.inl rfl))
    · exact .inr (.inr (.inr (.inl m1)))
    · exact .inr (.inr (.inr (.inr m2)))
  noKeys := fun A s Q E hA ok h => getAttrOr_miss_zip ok.1 rfl rfl rfl zip_no_keys (by decide +kernel) hA h
  iter := fun A s d Q E hA ok hd hdf h => by
    obtain ⟨hz, hTI, ⟨a, b, hTO⟩, h1, h2⟩ := ok
    simp only [List.mem_cons, List.mem_append, not_or] at hdf
    obtain ⟨dz, dTI, dTO, df1, df2⟩ := hdf
    have di1 : d ≠ i1 := fun e => df1 (e ▸ m1)
    have di2 : d ≠ i2 := fun e => df2 (e ▸ m2)
    refine wpAny_pyIter_zip hz (h z [z, TO, i1, i2] (fun i h => IsPair h TI (.ref i1) (.ref i2) ∧ St1 i h ∧ St2 i h ∧
      ((IsZip h z TI TO .none ∧ ∃ a b, IsPair h TO a b) ∨ ∃ T f oT, IsZipHeld h z TI TO T f ∧ h.get? T = some oT ∧ T ≠ z ∧ T ≠ i1 ∧ T ≠ i2 ∧ T ≠ d)) s.heap s.toks ?_
      ⟨hTI, h1, h2, .inl ⟨hz, a, b, hTO⟩⟩ (fun _ _ e => e) fun b hb => .inl hb)
    exact {
      off := fun hm => by
        simp only [List.mem_cons, List.not_mem_nil, or_false] at hm
        rcases hm with e | e | e | e
        · exact dz e
        · exact dTO e
        · exact di1 e
        · exact di2 e
      frame := fun i h₁ h₂ st hk => by
        obtain ⟨hTI, h1, h2, hz⟩ := st
        refine ⟨hk _ _ (Ne.symm dTI) hTI, (D1 A hA).frame _ _ _ h1 fun c hc o e => hk _ o (ne_fp df1 hc) e, (D2 A hA).frame _ _ _ h2 fun c hc o e => hk _ o (ne_fp df2 hc) e, ?_⟩
        rcases hz with ⟨hz, a, b, hTO⟩ | ⟨T, f, oT, hz, hT, r1, r2, r3, r4⟩
        · exact .inl ⟨hk _ _ (Ne.symm dz) hz, a, b, hk _ _ (Ne.symm dTO) hTO⟩
        · exact .inr ⟨T, f, oT, hk _ _ (Ne.symm dz) hz, hk _ _ r4 hT, r1, r2, r3, r4⟩
      item := fun i s₁ Q₁ E₁ hi st hds hQ => by
        obtain ⟨hTI, h1, h2, hz⟩ := st
        have hix : i < n1 := Nat.lt_of_lt_of_le hi (Nat.min_le_left ..)
        have hiy : i < n2 := Nat.lt_of_lt_of_le hi (Nat.min_le_right ..)
        have lt : ∀ {c o}, s₁.heap.get? c = some o → s₁.heap.objs.size ≠ c := fun e => Nat.ne_of_gt (Heap.lt_size e)
        have n1 : s₁.heap.objs.size ≠ i1 := let ⟨_, e⟩ := (D1 A hA).live _ _ h1; lt e
        have n2 : s₁.heap.objs.size ≠ i2 := let ⟨_, e⟩ := (D2 A hA).live _ _ h2; lt e
        rcases hz with ⟨hz, a, b, hTO⟩ | ⟨T, f, oT, hz, hT, r1, r2, r3, r4⟩
        · refine pyNext_item hA D1 D2 D hz hTI hTO h1 h2 hix hiy fun x y h' tk ex ey a1 a2 a3 a4 a5 a6 hk => ?_
          exact hQ s₁.heap.objs.size _ _ h' tk ⟨ex, ey⟩ (.inl ⟨_, a5, rfl, _, rfl⟩)
            ⟨hk _ _ D.TIz D.TITO D.TIi1 D.TIi2 hTI, a3, a4, .inr ⟨s₁.heap.objs.size, false, _, a1, a5, lt hz, n1, n2, Nat.ne_of_gt hds⟩⟩
            fun c o hc e => hk c o (fun x => hc (by simp [x])) (fun x => hc (by simp [x])) (fun x => hc (by simp [x])) (fun x => hc (by simp [x])) e
        · refine pyNext_item_held hA D1 D2 D hz hT hTI h1 h2 hix hiy fun x y h' tk ex ey a1 a3 a4 a5 a6 hk => ?_
          exact hQ s₁.heap.objs.size _ _ h' tk ⟨ex, ey⟩ (.inl ⟨_, a5, rfl, _, rfl⟩)
            ⟨hk _ _ D.TIz D.TIi1 D.TIi2 hTI, a3, a4, .inr ⟨T, true, oT, a1, hk _ _ r1 r2 r3 hT, r1, r2, r3, r4⟩⟩
            fun c o hc e => hk c o (fun x => hc (by simp [x])) (fun x => hc (by simp [x])) (fun x => hc (by simp [x])) e
      done := fun s₁ Q₁ E₁ st hQ => by
        obtain ⟨hTI, h1, h2, hz⟩ := st
        have hend : min n1 n2 = n1 ∨ (min n1 n2 < n1 ∧ min n1 n2 = n2) := by omega
        rcases hz with ⟨hz, a, b, hTO⟩ | ⟨T, f, oT, hz, hT, r1, r2, r3, r4⟩
        · exact pyNext_end hA D1 D2 D hz hTI hTO h1 h2 hend fun h' tk hk => hQ h' tk fun c o hc e => hk c o (fun x => hc (by simp [x])) (fun x => hc (by simp [x])) (fun x => hc (by simp [x])) (fun x => hc (by simp [x])) e
        · exact pyNext_end_held hA D1 D2 D hz hT hTI h1 h2 hend fun h' tk hk => hQ h' tk fun c o hc e => hk c o (fun x => hc (by simp [x])) (fun x => hc (by simp [x])) (fun x => hc (by simp [x])) e }
end
end ZD

set_option maxRecDepth 100000
set_option maxHeartbeats 4000000
namespace ZD
open PySem PySem.Spec PyProof.Rows
open PySem (IsPair IsZip)
section
variable {prog : Program} {w : World} {A : Around} {E : Value → Shared → Prop} {s : Shared}
/-- what zip(a list, a text) leaves -/
structure Made (h h' : Heap) (l1 : Addr) (x : Str) (t : Tok) : Prop where
  z : IsZip h' (h.objs.size + 4) (h.objs.size + 2) (h.objs.size + 3) .none
  ti : IsPair h' (h.objs.size + 2) (.ref h.objs.size) (.ref (h.objs.size + 1))
  to : IsPair h' (h.objs.size + 3) .none .none
  i1 : h'.IsListIter h.objs.size l1 0
  i2 : h'.IsStrIter (h.objs.size + 1) (strIterType x) x t 0
  sz : h'.objs.size = h.objs.size + 5
  keep : ∀ c o, h.get? c = some o → h'.get? c = some o
theorem call_zip {l1 : Addr} {xs : Array Value} {x : Str} {t : Tok} {Q : Value → Shared → Prop} (hl1 : s.heap.IsList l1 xs)
    (h : ∀ h', Made s.heap h' l1 x t → Q (.ref (s.heap.objs.size + 4)) { s with heap := h' }) :
    wpAny (model prog w) A (call (.type "zip") [.ref l1, .str x t]) Q E s := by
  refine callType_new F.called_zip (by decide) (F.typeCall_zip_2 _ _) (F.newCall_zip_2 _ _) (fun obj => F.args_object_init_3 obj _ _) F.entry_zip_new
    (meets_new l1 xs x t) ⟨hl1, ?_⟩
  have z1 : (H1 s.heap l1).objs.size = s.heap.objs.size + 1 := Heap.size_push ..
  have z2 : (H2 s.heap l1 x t).objs.size = s.heap.objs.size + 2 := by rw [Heap.size_push, z1]
  have z3 : (H3 s.heap l1 x t).objs.size = s.heap.objs.size + 3 := by rw [Heap.size_push, z2]
  have z4 : (H4 s.heap l1 x t).objs.size = s.heap.objs.size + 4 := by rw [Heap.size_push, z3]
  have z5 : (H5 s.heap l1 x t).objs.size = s.heap.objs.size + 5 := by rw [Heap.size_push, z4]
  have g5 : (H5 s.heap l1 x t).get? (H4 s.heap l1 x t).objs.size = some _ := Heap.get?_push_size _ rfl
  have g4 : (H5 s.heap l1 x t).get? (H3 s.heap l1 x t).objs.size = some _ := Heap.get?_push_of_some _ (Heap.get?_push_size _ rfl)
  have g3 : (H5 s.heap l1 x t).get? (H2 s.heap l1 x t).objs.size = some _ := Heap.get?_push_of_some _ (Heap.get?_push_of_some _ (Heap.get?_push_size _ rfl))
  have g2 : (H5 s.heap l1 x t).get? (H1 s.heap l1).objs.size = some _ := Heap.get?_push_of_some _ (Heap.get?_push_of_some _ (Heap.get?_push_of_some _ (Heap.get?_push_size _ rfl)))
  have g1 : (H5 s.heap l1 x t).get? s.heap.objs.size = some _ := Heap.get?_push_of_some _ (Heap.get?_push_of_some _ (Heap.get?_push_of_some _ (Heap.get?_push_of_some _ (Heap.get?_push_size _ rfl))))
  show _ ∧ _
  rw [z2, z3, z4] at g5
  rw [z1, z2] at g3
  rw [z3] at g4
  rw [z1] at g2
  rw [z4]
  exact ⟨⟨_, g5, rfl⟩, h _ ⟨g5, g3, g4, ⟨_, g1, rfl, rfl⟩, ⟨_, g2, rfl, rfl⟩, z5, fun c o x =>
    Heap.get?_push_of_some _ (Heap.get?_push_of_some _ (Heap.get?_push_of_some _ (Heap.get?_push_of_some _ (Heap.get?_push_of_some _ x))))⟩⟩
end
end ZD

set_option maxRecDepth 100000
set_option maxHeartbeats 4000000
namespace ZD
open PySem PySem.Spec PyProof.Rows
open PySem (IsPair IsZip)
section
variable {prog : Program} {w : World} {A : Around} {E : Value → Shared → Prop} {s : Shared}
theorem da_list (it l : Addr) (hne : l ≠ it) (items : Array Value) : DA prog w it [it, l] items.size (fun i v => items[i]? = some v) (fun i h => h.IsListIter it l i ∧ h.IsList l items) := fun _ hh => Draws.list hh it l hne items
theorem da_str (it : Addr) (x : Str) (t : Tok) : DA prog w it [it] x.cps.size (fun i v => ∃ c u, x.cps[i]? = some c ∧ v = .str ⟨#[c]⟩ u) (fun i h => h.IsStrIter it (strIterType x) x t i) := fun A hh => by
  unfold strIterType
  by_cases h : x.cps.all (· < 128) = true
  · rw [if_pos h]
    exact Draws.strAscii hh it x t
  · rw [if_neg h]
    exact Draws.strWide hh it x t
theorem call_dict_rel {K : Type} [DecidableEq K] {knd : PySem.KeyKind prog w K} {T : String} {a : Addr} {fp wr : List Addr} {n : Nat} {Rel : Nat → Value → Value → Prop} {OK : Heap → Prop} {Q : Value → Shared → Prop} (P : PairArg prog w T a fp wr n Rel OK) (hh : A.handled = none) (ok : OK s.heap)
    (hr : ∀ i key v, Rel i key v → ∃ k, knd.is k key = true) (hsz : n ≤ sizeLine)
    (h : ∀ h' tk (kvs : List (K × Value)), kvs.length = n → (∀ j k v, kvs[j]? = some (k, v) → ∃ key, Rel j key v ∧ knd.is k key = true) → h'.DictOf knd s.heap.objs.size (merged [] kvs) → (∀ b o, b ∉ wr → s.heap.get? b = some o → h'.get? b = some o) → Q (.ref s.heap.objs.size) { s with heap := h', toks := tk }) :
    wpAny (model prog w) A (call (.type "dict") [.ref a]) Q E s := by
  refine call_dict_arg P ok fun s₁ hs₁ hdf ok₁ => ?_
  subst hs₁
  refine updateFrom_arg (A := A.in1) (Tab := fun i h => ∃ kvs : List (K × Value), kvs.length = i ∧ (∀ j k v, kvs[j]? = some (k, v) → ∃ key, Rel j key v ∧ knd.is k key = true) ∧ h.DictOf knd s.heap.objs.size (merged [] kvs)) P .none hh ok₁ hdf
    ⟨[], rfl, fun j k v e => by simp at e, Heap.DictOf.new s.heap⟩ (fun _ _ ⟨_, _, _, tb⟩ => tb.lt_size) (fun i h h' wr' hd _ ⟨kvs, e1, e2, tb⟩ hk => ⟨kvs, e1, e2, tb.at' fun o e => hk _ o hd e⟩) ?_ ?_
  · rintro i key v s' Q' E' hi hrel ⟨kvs, e1, e2, tb⟩ _ hQ
    obtain ⟨k, his⟩ := hr i key v hrel
    refine wpAny_dictSet_pairs (hsz := by have := merged_length [] kvs; simp only [List.length_nil] at this; omega) his tb fun h' hm' hs => ?_
    refine hQ h' _ ⟨kvs ++ [(k, v)], by rw [List.length_append, e1] <;> rfl, fun j k' v' e => ?_, ?_⟩ hs
    · by_cases hj : j < kvs.length
      · rw [List.getElem?_append_left hj] at e
        exact e2 j k' v' e
      · rw [List.getElem?_append_right (by omega)] at e
        have : j = i := by
          cases q : j - kvs.length with
          | zero => omega
          | succ m => rw [q] at e; simp at e
        subst this
        rw [e1, Nat.sub_self] at e
        cases e
        exact ⟨key, hrel, his⟩
    · have q := merged_take_succ ([] : List (K × Value)) (kvs ++ [(k, v)]) kvs.length (k, v) (by simp)
      rw [List.take_of_length_le (l := kvs ++ [(k, v)]) (by simp), List.take_left] at q
      rw [q]
      exact hm'
  · rintro h' tk ⟨kvs, e1, e2, tb⟩ hk
    exact ⟨rfl, h h' tk kvs e1 e2 tb fun b o hw e => hk b o (Nat.ne_of_lt (Heap.lt_size e)) hw (Heap.get?_push_of_some _ e)⟩
/-- dict(zip(a list, a text)), the zip made -/
theorem call_dict_zip {K : Type} [DecidableEq K] {knd : PySem.KeyKind prog w K} {h0 : Heap} {l1 : Addr} {xs : Array Value} {x : Str} {t : Tok} {Q : Value → Shared → Prop} (hh : A.handled = none) (M : ZD.Made h0 s.heap l1 x t) (hl1 : s.heap.IsList l1 xs) (hlt : l1 < h0.objs.size)
    (hr : ∀ (i : Nat) (key : Value), xs[i]? = some key → ∃ k, knd.is k key = true) (hsz : min xs.size x.cps.size ≤ sizeLine)
    (h : ∀ h' tk (kvs : List (K × Value)), kvs.length = min xs.size x.cps.size → (∀ (j : Nat) (k : K) (v : Value), kvs[j]? = some (k, v) → ∃ key, (xs[j]? = some key ∧ ∃ c u, x.cps[j]? = some c ∧ v = Value.str ⟨#[c]⟩ u) ∧ knd.is k key = true) → h'.DictOf knd s.heap.objs.size (merged [] kvs) → (∀ b o, h0.get? b = some o → h'.get? b = some o) → Q (.ref s.heap.objs.size) { s with heap := h', toks := tk }) :
    wpAny (model prog w) A (call (.type "dict") [.ref (h0.objs.size + 4)]) Q E s := by
  have n0 : l1 ≠ h0.objs.size := Nat.ne_of_lt hlt
  have n1 : ∀ i, l1 ≠ h0.objs.size + i := fun i => Nat.ne_of_lt (Nat.lt_of_lt_of_le hlt (Nat.le_add_right _ _))
  have m : ∀ i j : Nat, i ≠ j → h0.objs.size + i ≠ h0.objs.size + j := fun i j e q => e (Nat.add_left_cancel q)
  have m0 : ∀ i : Nat, i ≠ 0 → h0.objs.size + i ≠ h0.objs.size := fun i e q => e (Nat.add_left_cancel (q.trans (Nat.add_zero _).symm))
  have P := pairArg (prog := prog) (w := w) (z := h0.objs.size + 4) (TI := h0.objs.size + 2) (TO := h0.objs.size + 3) (da_list h0.objs.size l1 n0 xs) (da_str (h0.objs.size + 1) x t)
    { TIz := m _ _ (by decide), TOz := m _ _ (by decide), i1z := (m0 _ (by decide)).symm, i2z := m _ _ (by decide), TITO := m _ _ (by decide), TIi1 := m0 _ (by decide), TIi2 := m _ _ (by decide), TOi1 := m0 _ (by decide), TOi2 := m _ _ (by decide)
      z1 := by simp only [List.mem_cons, List.not_mem_nil, or_false, not_or]; exact ⟨m0 _ (by decide), (n1 _).symm⟩
      z2 := by simp only [List.mem_cons, List.not_mem_nil, or_false]; exact m _ _ (by decide)
      t1 := by simp only [List.mem_cons, List.not_mem_nil, or_false, not_or]; exact ⟨m0 _ (by decide), (n1 _).symm⟩
      t2 := by simp only [List.mem_cons, List.not_mem_nil, or_false]; exact m _ _ (by decide)
      i12 := by simp only [List.mem_cons, List.not_mem_nil, or_false]; exact (m0 _ (by decide)).symm
      i21 := by simp only [List.mem_cons, List.not_mem_nil, or_false, not_or]; exact ⟨m0 _ (by decide), (n1 _).symm⟩ } (by simp) (by simp)
    (fun h st b hb => by
      obtain ⟨⟨o, ho, _⟩, ⟨o2, ho2, _⟩⟩ := st
      simp only [List.mem_cons, List.not_mem_nil, or_false] at hb
      rcases hb with rfl | rfl
      · exact ⟨o, ho⟩
      · exact ⟨o2, ho2⟩)
    (fun h st b hb => by
      obtain ⟨o, ho, _⟩ := st
      simp only [List.mem_cons, List.not_mem_nil, or_false] at hb
      subst hb
      exact ⟨o, ho⟩) ⟨A, hh⟩
  refine call_dict_rel P hh ⟨M.z, M.ti, ⟨_, _, M.to⟩, ⟨M.i1, hl1⟩, M.i2⟩ (fun i key v e => hr i key e.1) hsz fun h' tk kvs e1 e2 hd hk => h h' tk kvs e1 e2 hd fun b o e => hk b o (fun hm => ?_) (M.keep b o e)
  have := Heap.lt_size e
  simp only [List.mem_cons, List.not_mem_nil, or_false] at hm
  rcases hm with rfl | rfl | rfl | rfl
  · exact Nat.lt_irrefl _ (Nat.lt_of_le_of_lt (Nat.le_add_right _ _) this)
  · exact Nat.lt_irrefl _ (Nat.lt_of_le_of_lt (Nat.le_add_right _ _) this)
  · exact Nat.lt_irrefl _ this
  · exact Nat.lt_irrefl _ (Nat.lt_of_le_of_lt (Nat.le_add_right _ _) this)
end
end ZD

set_option maxRecDepth 100000
set_option maxHeartbeats 4000000
namespace L2
open PySem PySem.Spec PyProof.Rows
/-- the pairs of a list of names and a text's signs -/
def zipKV (ns : List PySem.Str) (x : PySem.Str) : List (Key × V) := ns.zipWith (fun n c => (Sum.inr n, V.str ⟨#[c]⟩)) x.cps.toList
def tDZ (K : PySem.W.Frag) (t : TA) : TE := fun σ H Q => t σ H fun vs H1 => ∃ (a : Addr) (ns : List PySem.Str) (x : PySem.Str), vs = [.ref a, .str x] ∧ SqL K H1 a (ns.map V.str) ∧ ∀ p, H1 p = none → Q (.ref p) (upd H1 p (.dK (mergeK [] (zipKV ns x))))
theorem vals_str_at {ns : List PySem.Str} {its : List Value} (r : Vals (ns.map V.str) its) {i : Nat} {key : Value} (e : its[i]? = some key) : ∃ n t, ns[i]? = some n ∧ key = Value.str n t := by
  have hi : i < ns.length := by
    have l := r.length
    rw [List.length_map] at l
    rw [l]
    exact (List.getElem?_eq_some_iff.mp e).1
  obtain ⟨u, h1, h2⟩ := r.get (i := i) (x := V.str ns[i]) (by rw [List.getElem?_map, List.getElem?_eq_getElem hi]; rfl)
  rw [e] at h1
  cases h1
  obtain ⟨t, rfl⟩ := h2
  exact ⟨ns[i], t, List.getElem?_eq_getElem hi, rfl⟩
theorem kv_of {kv : List (Key × V)} : ∀ {rs : List (Key × Value)}, kv.length = rs.length → (∀ (j : Nat) (k : Key) (v : Value), rs[j]? = some (k, v) → ∃ x, kv[j]? = some (k, x) ∧ RelV x v) → KV kv rs := by
  induction kv with
  | nil =>
    intro rs l h
    cases rs with
    | nil => exact .nil
    | cons => cases l
  | cons y kv ih =>
    intro rs l h
    cases rs with
    | nil => cases l
    | cons q rs =>
      obtain ⟨x, e1, e2⟩ := h 0 q.1 q.2 rfl
      cases e1
      exact .cons ⟨rfl, e2⟩ (ih (Nat.succ.inj l) fun j k v e => h (j + 1) k v e)
section
variable {X : Cx} {p p2 pos pos2 : Pos} {e e2 : Expr} {t : TA}
theorem pe_dictZip (hcalm : X.calm = true) (hg : Gl X "dict") (hm : X.mg "dict" = none) (hg2 : Gl X "zip") (hm2 : X.mg "zip" = none) (ha : PA X [e, e2] t)
    (hse : starEach [Expr.Call (.Name "zip" p2) [e, e2] [] pos2] X.env = [(false, eval (Expr.Call (.Name "zip" p2) [e, e2] [] pos2) X.env)] := by rfl)
    (he : starEach [e, e2] X.env = (false, eval e X.env) :: starEach [e2] X.env := by rfl) (hpl : (backTo pos2 (starEach [e2] X.env)).any (·.1) = false := by rfl) :
    PE X (.Call (.Name "dict" p) [.Call (.Name "zip" p2) [e, e2] [] pos2] [] pos) (tDZ X.K t) := by
  refine ⟨fun pins s σ H Q I h => ?_⟩
  refine wpAny_Call_Name_kw (ld_blt I hg hm (u := .type "dict") (by first | rfl | decide +kernel) ?_ (by decide) (by decide))
  rw [hse]
  refine PySem.callWith_type1 ?_
  rw [if_neg Bool.false_ne_true]
  refine wpAny_Call_Name_kw (ld_blt I hg2 hm2 (u := .type "zip") (by first | rfl | decide +kernel) ?_ (by decide) (by decide))
  refine PyProof.Rows.callWith_type1 (thn (ha.run pos2 pins s σ H _ I h) fun us s1 ⟨vs, H1, I1, r1, a, ns, x, ev, hs, q⟩ => ?_) he hpl
  subst ev
  obtain ⟨u1, u2, rfl, ru, rx⟩ := vals2 r1
  obtain rfl : u1 = Value.ref a := ru
  obtain ⟨tk, rfl⟩ := rx
  obtain ⟨its, rv, pl, hz⟩ := I1.list hs
  refine ZD.call_zip pl.isList fun h' M => ?_
  have hl' : h'.IsList a its.toArray := pl.isList.at fun o e => M.keep _ o e
  have hlt : a < s1.heap.objs.size := by
    obtain ⟨o, n, ho, _⟩ := pl
    exact Heap.lt_size ho
  refine ZD.call_dict_zip (knd := mixKind X.prog X.w) (s := { s1 with heap := h' }) (I.ok.hd hcalm) M hl' hlt (fun i key e => ?_) ?_ fun h2 tk2 kvs e1 e2 hd kp => ?_
  · obtain ⟨n, t, _, rfl⟩ := vals_str_at rv (i := i) (by simpa using e)
    exact ⟨.inr n, kV_is (k := .inr n) ⟨t, rfl⟩⟩
  · have := rv.length
    simp only [List.size_toArray]
    omega
  · have hlv := rv.length
    rw [List.length_map] at hlv
    have rel : KV (zipKV ns x) kvs := by
      refine kv_of ?_ fun j k v e => ?_
      · rw [e1]
        unfold zipKV
        rw [List.length_zipWith, hlv]
        simp
      · obtain ⟨key, ⟨g1, c, u, g2, rfl⟩, g3⟩ := e2 j k v e
        obtain ⟨n, t, hn, rfl⟩ := vals_str_at rv (i := j) (by simpa using g1)
        have ek : k = .inr n := (mixKind X.prog X.w).inj _ _ _ g3 (kV_is (k := .inr n) ⟨t, rfl⟩)
        refine ⟨V.str ⟨#[c]⟩, ?_, ⟨u, rfl⟩⟩
        unfold zipKV
        rw [List.getElem?_zipWith, hn, ek]
        have : x.cps.toList[j]? = some c := by simpa using g2
        rw [this]
    have hm : (h'.objs.size == sysModules) = false := beq_eq_false_iff_ne.mpr (Nat.ne_of_gt (Nat.lt_of_lt_of_le I1.big (by rw [M.sz]; exact Nat.le_add_right _ _)))
    have hlen : (mergeK [] (zipKV ns x)).length ≤ sizeLine := by
      refine Nat.le_trans (length_mergeK _ []) ?_
      rw [List.length_nil, Nat.zero_add]
      unfold zipKV
      rw [List.length_zipWith]
      rw [List.length_map] at hz
      exact Nat.le_trans (Nat.min_le_left ..) hz
    exact ⟨.ref h'.objs.size, upd H1 h'.objs.size (.dK (mergeK [] (zipKV ns x))), I1.laid (t' := tk2) kp (by rw [M.sz]; exact Nat.le_add_right _ _) (show ObjOk X.prog X.w _ _ _ (.dK (mergeK [] (zipKV ns x))) from ⟨hlen, hm, merged [] kvs, KV.merge rel .nil, hd⟩), rfl, q _ (I1.hok.fresh (by rw [M.sz]; exact Nat.le_add_right _ _))⟩
end
end L2

set_option maxRecDepth 100000
set_option maxHeartbeats 4000000
namespace T2
open PySem PySem.Spec PyProof.Rows L2
def zipD (ns : List PySem.Str) (x : PySem.Str) : List (Key × D) := ns.zipWith (fun n c => (Sum.inr n, D.str ⟨#[c]⟩)) x.cps.toList
/-- dict(zip(names, signs)), never changed -/
def wDZ (was : WA) : WE := fun ρ μ Q E => was ρ μ (fun ds μ1 => ∃ (d : D) (ns : List PySem.Str) (x : PySem.Str), ds = [d, .str x] ∧ getL μ1 d = some (ns.map D.str) ∧ Q (.dct (kmerge [] (zipD ns x))) μ1) E
section
variable {K : PySem.W.Frag} {C : CT} {F : Hp}
theorem RepK.zipW : ∀ {ns : List PySem.Str} {cs : List Nat}, RepK K C F (ns.zipWith (fun n c => (Sum.inr n, D.str ⟨#[c]⟩)) cs) (ns.zipWith (fun n c => (Sum.inr n, V.str ⟨#[c]⟩)) cs)
  | [], _ => by rw [List.zipWith_nil_left, List.zipWith_nil_left]; exact .nil
  | _ :: _, [] => by rw [List.zipWith_nil_right, List.zipWith_nil_right]; exact .nil
  | n :: ns, c :: cs => by
    rw [List.zipWith_cons_cons, List.zipWith_cons_cons]
    exact .cons .ofStr RepK.zipW
end
section
variable {X : Cx} {C : CT} {W : WX} {was : WA}
theorem up_dz : ∀ σ H Q, upE X.K C W (wDZ was) σ H Q → tDZ X.K (upA X.K C W was) σ H Q := fun σ H Q ⟨L, F, ρ, μ, Q0, E0, rl, q, uq, ux⟩ => by
  refine ⟨L, F, ρ, μ, _, E0, rl, q, fun ds μ1 q1 F1 H1 vs s1 w1 r1 => ?_, ux⟩
  obtain ⟨d, ns, x, rfl, e, q⟩ := q1
  obtain ⟨v, u, rfl, r, r2⟩ := r1.two
  obtain ⟨a, ys, rfl, hp, rl'⟩ := w1.getL r e
  cases rl'.strs
  refine ⟨a, ns, x, by rw [r2.str], hp, fun p hn => ?_⟩
  have hf := (w1.fresh hn).2
  exact uq _ _ q (upd F1 p (.dK (mergeK [] (zipKV ns x)))) _ _ (s1.trans (Sub.new hf)) (w1.frz hn) (.ofDct upd_same (RepK.merge RepK.zipW .nil))
end
end T2

set_option maxRecDepth 100000
set_option maxHeartbeats 4000000
namespace T2
open PySem PySem.Spec PyProof.Rows L2
/-! ### the translation: from the syntax to the readings -/
/-- one def of the text, as it is called: n values, the keywords ks; m: what it hands out may change -/
structure FunE where
  x : Str
  n : Nat
  ks : List Str
  m : Bool
  sp : SpD
structure MetE where
  c : Str
  m : Str
  n : Nat
  sp : SpD
structure PrpE where
  c : Str
  f : Str
  sp : SpD
structure MakE where
  x : Str
  n : Nat
  sp : SpD
/-- what is known of the text's own names -/
structure Gam where
  funs : List FunE
  consts : List (Str × D)
  raises : List (Str × List Str)
  subs : List (Str × (Str → Bool))
  flds : List Str
  meths : List MetE
  props : List PrpE
  makes : List MakE
  ofl : List Str
  /-- defs that are handed the caught exception -/
  hots : List (Str × SpX)
def biNames : List Str := ["len", "abs", "max", "min", "int", "list", "tuple", "all", "any", "range", "isinstance", "bool", "str", "dict", "sorted", "enumerate", "zip", "sum", "ord", "set", "iter", "reversed", "repr", "ValueError"]
structure SubOk (K : PySem.W.Frag) (mg : Str → Option Value) (C : CT) (x : Str) (is : Str → Bool) : Prop where
  ex : ∃ cv cu, ((mg x = some cu) ∨ (mg x = none ∧ bootBuiltins x = some cu)) ∧ RelV cv cu ∧ (∀ u, RelV cv u → u = cu) ∧
    ∀ c ca, C.xcls c = some ca → PySem.W.kitOne K (.ref ca) cu = some (is c) ∧ PySem.W.exmOne K (.ref ca) cu = some (is c)
structure GamOk (P : Program) (w : World) (K : PySem.W.Frag) (mg : Str → Option Value) (base : Heap) (C : CT) (k : Nat) (G : Gam) : Prop where
  fn : ∀ e ∈ G.funs, FnAt P w K mg base C k e.x e.n e.ks e.sp
  con : ∀ q ∈ G.consts, ∃ u v, mg q.1 = some u ∧ RelV v u ∧ ∀ F, Rep K C F q.2 v
  free : ∀ x ∈ biNames, mg x = none
  rs : ∀ q ∈ G.raises, ∃ j, j + 1 ≤ k ∧ XMk P w K mg base C j q.1 q.2
  sub : ∀ q ∈ G.subs, SubOk K mg C q.1 q.2
  xc : ∀ c ca, C.xcls c = some ca → XfC K ca ∧ ExcC K ca ∧ ∀ f ∈ G.flds, PySem.W.findIn K (.ref ca) f = some none
  mt : ∀ e ∈ G.meths, MethAt P w K mg base C k e.c e.m e.n e.sp
  pr : ∀ e ∈ G.props, ∃ j, j + 1 ≤ k ∧ PropAt P w K mg base C j e.c e.f e.sp
  mke : ∀ e ∈ G.makes, ∃ j, j + 1 ≤ k ∧ MakeAt P w K mg base C j e.x e.n e.sp
  oc : ∀ c ca, C.cls c = some ca → Cls K ca ∧ ∀ f ∈ G.ofl, NoAttr K ca f
  hx : ∀ q ∈ G.hots, ∃ j, j + 1 ≤ k ∧ FnX P w K mg base C j q.1 q.2
/-- where an expression stands; h: the exception that is handled -/
abbrev Hot := Option (Addr × Addr × Option Addr)
structure XO (C : CT) (k : Nat) (G : Gam) (N : List Str) (h : Hot) (sc : Scope) (X : Cx) (W : WX) : Prop where
  g : GamOk X.prog X.w X.K X.mg X.base C k G
  eN : X.N = N
  eS : X.env.scope = sc
  nd : X.N.Nodup
  un : X.A.units + 65 < cLine
  cool : h = none → X.calm = true ∧ Room k X.A
  hot : ∀ a ca dx, h = some (a, ca, dx) → ∃ oe : Obj, (a, oe) ∈ X.pn ∧ L2N.Zn (.ref ca) dx oe ∧ (∃ vs, oe.data = .fields vs) ∧ ExcC X.K ca ∧ X.A.handled = some (.ref a) ∧ L2H.RoomH k X.A ∧
    (G.flds ≠ [] → (∃ (X0 : Cx) (pn : List (Addr × Obj)), X = X0.suite a ((a, oe) :: pn)) ∧ XfC X.K ca ∧ ∀ f ∈ G.flds, PySem.W.findIn X.K (.ref ca) f = some none)
  tk : L2N.Takes X W
def opG : Operator → Option G2
  | .Mult => some gMul
  | .Add => some gAdd
  | .Sub => some gSub
  | .Mod => some gMod
  | .FloorDiv => some gDiv
  | .Pow => some gPow
  | _ => none
theorem opG_ok {X : Cx} {C : CT} {op : Operator} {g : G2} (h : opG op = some g) : OpD X C (binaryOp op) g := by
  cases op <;> first | (cases h; done) | skip
  all_goals first
    | (cases h; exact opd_mul)
    | (cases h; exact opd_add)
    | (cases h; exact opd_sub)
    | (cases h; exact opd_mod)
    | (cases h; exact opd_div)
    | (cases h; exact opd_pow)
def cmpG : CmpOp → Option G2
  | .Eq => some gEq
  | .NotEq => some gNe
  | .Lt => some gLt
  | .LtE => some gLe
  | .Gt => some gGt
  | .GtE => some gGe
  | .Is => some gIs
  | .IsNot => some gIsNot
  | .In => some (gIn false)
  | .NotIn => some (gIn true)
theorem cmpG_ok {X : Cx} {C : CT} (hu : X.A.units + 1 < cLine) {op : CmpOp} {g : G2} (h : cmpG op = some g) : OpD X C (compareOp op) g := by
  cases op <;> cases h
  · exact opd_eq
  · exact opd_ne
  · exact opd_lt
  · exact opd_le
  · exact opd_gt
  · exact opd_ge
  · exact opd_is
  · exact opd_isnot
  · exact opd_in hu
  · exact opd_notin hu
def tyOf (x : Str) : Option Ty :=
  if x = "int" then some .int else if x = "bool" then some .bool else if x = "str" then some .str else if x = "list" then some .list else if x = "tuple" then some .tuple else if x = "dict" then some .dict else none
theorem tyOf_ok {x : Str} {t : Ty} (h : tyOf x = some t) : x ∈ biNames ∧ bootBuiltins x = some (.type t.s) := by
  unfold tyOf at h
  repeat' split at h
  all_goals first | (cases h; done) | skip
  all_goals (subst_vars; cases h; exact ⟨by decide, by decide +kernel⟩)
/-- built-in functions and types as they are called -/
inductive BK | fn (id : String) | ty (id : String)
def BK.v : BK → Value
  | .fn id => .builtin id
  | .ty id => .type id
def biTab (m : Bool) : List (Str × BK × GC) := [("len", .fn "len", gLen), ("abs", .fn "abs", gAbs), ("int", .ty "int", gInt), ("list", .ty "list", if m = true then gListM else gList), ("tuple", .ty "tuple", gTuple), ("str", .ty "str", gStr), ("ord", .fn "ord", gOrd),
  ("sorted", .fn "sorted", if m = true then gSortBM else gSortB)]
def biTabC : List (Str × BK × GC) := [("max", .fn "max", gMaxB), ("min", .fn "min", gMinB), ("all", .fn "all", gAll), ("any", .fn "any", gAny), ("sum", .fn "sum", gSum)]
def lookB {α : Type} (x : Str) : List (Str × α) → Option α
  | [] => none
  | (y, a) :: r => if y = x then some a else lookB x r
theorem lookB_ok {α : Type} {x : Str} {a : α} : ∀ {l : List (Str × α)}, lookB x l = some a → (x, a) ∈ l
  | [], h => by cases h
  | (y, b) :: r, h => by
    unfold lookB at h
    split at h
    · rename_i e; cases h; subst e; exact List.mem_cons_self
    · exact List.mem_cons_of_mem _ (lookB_ok h)
def biCall (calm : Bool) (m : Bool) (x : Str) : Option (BK × GC) := match lookB x (biTab m) with
  | some e => some e
  | none => if calm = true then lookB x biTabC else none
theorem biCall_ok {X : Cx} {C : CT} {calm m : Bool} {x : Str} {b : BK} {g : GC} (hc : calm = true → X.calm = true) (h : biCall calm m x = some (b, g)) : x ∈ biNames ∧ bootBuiltins x = some b.v ∧ CallD X C b.v g := by
  unfold biCall at h
  split at h
  · rename_i e he
    cases h
    have hm := lookB_ok he
    simp only [biTab, List.mem_cons, Prod.mk.injEq, List.not_mem_nil, or_false] at hm
    rcases hm with ⟨rfl, rfl, rfl⟩ | ⟨rfl, rfl, rfl⟩ | ⟨rfl, rfl, rfl⟩ | ⟨rfl, rfl, rfl⟩ | ⟨rfl, rfl, rfl⟩ | ⟨rfl, rfl, rfl⟩ | ⟨rfl, rfl, rfl⟩ | ⟨rfl, rfl, rfl⟩
    · exact ⟨by decide, by decide +kernel, cad_len⟩
    · exact ⟨by decide, by decide +kernel, cad_abs⟩
    · exact ⟨by decide, by decide +kernel, cad_int⟩
    · refine ⟨by decide, by decide +kernel, ?_⟩
      cases m
      · exact cad_list
      · exact cad_listM
    · exact ⟨by decide, by decide +kernel, cad_tuple⟩
    · exact ⟨by decide, by decide +kernel, cad_str⟩
    · exact ⟨by decide, by decide +kernel, cad_ord⟩
    · refine ⟨by decide, by decide +kernel, ?_⟩
      cases m
      · exact cad_sortB
      · exact cad_sortBM
  · split at h
    · rename_i hcm
      have hm := lookB_ok h
      simp only [biTabC, List.mem_cons, Prod.mk.injEq, List.not_mem_nil, or_false] at hm
      rcases hm with ⟨rfl, rfl, rfl⟩ | ⟨rfl, rfl, rfl⟩ | ⟨rfl, rfl, rfl⟩ | ⟨rfl, rfl, rfl⟩ | ⟨rfl, rfl, rfl⟩
      · exact ⟨by decide, by decide +kernel, cad_maxB (hc hcm)⟩
      · exact ⟨by decide, by decide +kernel, cad_minB (hc hcm)⟩
      · exact ⟨by decide, by decide +kernel, cad_all (hc hcm)⟩
      · exact ⟨by decide, by decide +kernel, cad_any (hc hcm)⟩
      · exact ⟨by decide, by decide +kernel, cad_sum (hc hcm)⟩
    · cases h
/-- methods of the built-in types -/
structure MtE where
  T : String
  id : String
  g : GM
def mtCall (x : Str) : Option MtE :=
  if x = "append" then some ⟨"list", "list.append", gAppend⟩
  else if x = "get" then some ⟨"dict", "dict.get", gGet⟩
  else if x = "join" then some ⟨"str", "str.join", gJoin⟩
  else if x = "split" then some ⟨"str", "str.split", gSplit⟩
  else none
theorem mtCall_ok {X : Cx} {C : CT} (hu : X.A.units + 1 < cLine) {x : Str} {m : MtE} (h : mtCall x = some m) : PlainAttrs m.T ∧ Slot m.T x m.id ∧ typeOf (.builtin m.id) = pure (.type "method_descriptor") ∧ MtD X C m.id m.g := by
  unfold mtCall at h
  repeat' split at h
  all_goals first | (cases h; done) | skip
  all_goals subst_vars
  all_goals cases h
  · exact ⟨PySem.F.plainAttrs_list, PySem.F.slot_list_append, PySem.F.type_list_append, mtd_append⟩
  · exact ⟨PySem.F.plainAttrs_dict, PySem.F.slot_dict_get, PySem.F.type_dict_get, mtd_get hu⟩
  · exact ⟨PySem.F.plainAttrs_str, PySem.F.slot_str_join, PySem.F.type_str_join, mtd_join⟩
  · exact ⟨PySem.F.plainAttrs_str, PySem.F.slot_str_split, PySem.F.type_str_split, mtd_split⟩
def constD : Const → Option D
  | .int i => some (.int i)
  | .str s => some (.str s)
  | .bool b => some (.bl b)
  | .none => some .non
  | _ => none
theorem up_const {X : Cx} {C : CT} {W : WX} {c : Const} {j : Nat} {pos : Pos} {d : D} (h : constD c = some d) : PE X (.Constant c j pos) (upE X.K C W (wC d)) := by
  cases c <;> cases h
  · exact up_c pe_non fun F => .ofNon
  · exact up_c pe_bl fun F => .ofBl
  · exact up_c pe_int fun F => .ofInt
  · exact up_c pe_str fun F => .ofStr
end T2

set_option maxRecDepth 100000
set_option maxHeartbeats 4000000
namespace T2
open PySem PySem.Spec PyProof.Rows L2
def slotOf (x : Str) : List Str → Option Nat
  | [] => none
  | y :: r => if y = x then some 0 else (slotOf x r).map (· + 1)
theorem slotOf_ok {x : Str} : ∀ {N : List Str} {i : Nat}, slotOf x N = some i → N[i]? = some x
  | [], i, h => by cases h
  | y :: r, i, h => by
    unfold slotOf at h
    split at h
    · rename_i e; cases h; rw [e]; rfl
    · cases q : slotOf x r with
      | none => rw [q] at h; cases h
      | some j =>
        rw [q] at h
        cases h
        have := slotOf_ok q
        exact this
def lookN {α : Type} (x : Str) : List (Str × α) → Option α
  | [] => none
  | (y, a) :: r => if y = x then some a else lookN x r
theorem lookN_ok {α : Type} {x : Str} {a : α} : ∀ {l : List (Str × α)}, lookN x l = some a → (x, a) ∈ l
  | [], h => by cases h
  | (y, b) :: r, h => by
    unfold lookN at h
    split at h
    · rename_i e; cases h; subst e; exact List.mem_cons_self
    · exact List.mem_cons_of_mem _ (lookN_ok h)
def lookF (x : Str) (n : Nat) (ks : List Str) (m : Bool) : List FunE → Option FunE
  | [] => none
  | e :: r => if e.x = x ∧ e.n = n ∧ e.ks = ks ∧ e.m = m then some e else lookF x n ks m r
theorem lookF_ok {x : Str} {n : Nat} {ks : List Str} {m : Bool} {e : FunE} : ∀ {l : List FunE}, lookF x n ks m l = some e → e ∈ l ∧ e.x = x ∧ e.n = n ∧ e.ks = ks
  | [], h => by cases h
  | f :: r, h => by
    unfold lookF at h
    split at h
    · rename_i q; cases h; exact ⟨List.mem_cons_self, q.1, q.2.1, q.2.2.1⟩
    · obtain ⟨h1, h2⟩ := lookF_ok h
      exact ⟨List.mem_cons_of_mem _ h1, h2⟩
/-- a def's entry; if none hands out a thing that may change, the other one -/
def lookFm (x : Str) (n : Nat) (ks : List Str) (m : Bool) (l : List FunE) : Option FunE := match lookF x n ks m l with
  | some e => some e
  | none => lookF x n ks (!m) l
theorem lookFm_ok {x : Str} {n : Nat} {ks : List Str} {m : Bool} {e : FunE} {l : List FunE} (h : lookFm x n ks m l = some e) : e ∈ l ∧ e.x = x ∧ e.n = n ∧ e.ks = ks := by
  unfold lookFm at h
  split at h
  · cases h; exact lookF_ok (by assumption)
  · exact lookF_ok h
def lookMt (m : Str) (n : Nat) : List MetE → Option MetE
  | [] => none
  | e :: r => if e.m = m ∧ e.n = n then some e else lookMt m n r
theorem lookMt_ok {m : Str} {n : Nat} {e : MetE} : ∀ {l : List MetE}, lookMt m n l = some e → e ∈ l ∧ e.m = m ∧ e.n = n
  | [], h => by cases h
  | a :: r, h => by
    unfold lookMt at h
    split at h
    · rename_i hc; cases h; exact ⟨List.mem_cons_self, hc⟩
    · obtain ⟨h1, h2⟩ := lookMt_ok h; exact ⟨List.mem_cons_of_mem _ h1, h2⟩
def lookPr (f : Str) : List PrpE → Option PrpE
  | [] => none
  | e :: r => if e.f = f then some e else lookPr f r
theorem lookPr_ok {f : Str} {e : PrpE} : ∀ {l : List PrpE}, lookPr f l = some e → e ∈ l ∧ e.f = f
  | [], h => by cases h
  | a :: r, h => by
    unfold lookPr at h
    split at h
    · rename_i hc; cases h; exact ⟨List.mem_cons_self, hc⟩
    · obtain ⟨h1, h2⟩ := lookPr_ok h; exact ⟨List.mem_cons_of_mem _ h1, h2⟩
def lookMk (x : Str) (n : Nat) : List MakE → Option MakE
  | [] => none
  | e :: r => if e.x = x ∧ e.n = n then some e else lookMk x n r
theorem lookMk_ok {x : Str} {n : Nat} {e : MakE} : ∀ {l : List MakE}, lookMk x n l = some e → e ∈ l ∧ e.x = x ∧ e.n = n
  | [], h => by cases h
  | a :: r, h => by
    unfold lookMk at h
    split at h
    · rename_i hc; cases h; exact ⟨List.mem_cons_self, hc⟩
    · obtain ⟨h1, h2⟩ := lookMk_ok h; exact ⟨List.mem_cons_of_mem _ h1, h2⟩
structure Rec where
  e : Bool → Scope → Expr → Option WE
  t : Scope → Expr → Option WT
section
variable (G : Gam) (N : List Str) (h : Hot) (R : Rec)
def trAs (sc : Scope) : List Expr → Option WA
  | [] => some wNil
  | a :: r => match notStar a, R.e false sc a, trAs sc r with
    | true, some wa, some wr => some (wCons wa wr)
    | _, _, _ => none
def trBE (sc : Scope) (op : BoolOp) : List Expr → Option WE
  | [] => none
  | [a] => R.e false sc a
  | a :: b :: r => match R.e false sc a, trBE sc op (b :: r) with
    | some wa, some wr => (match op with
      | .And => some (wAnd wa wr)
      | .Or => some (wOr wa wr))
    | _, _ => none
def trBT (sc : Scope) (op : BoolOp) : List Expr → Option WT
  | [] => none
  | [a] => R.t sc a
  | a :: b :: r => match R.t sc a, trBT sc op (b :: r) with
    | some wa, some wr => (match op with
      | .And => some (wAndT wa wr)
      | .Or => some (wOrT wa wr))
    | _, _ => none
def trKw (sc : Scope) : List Keyword → Option (List Str × WA)
  | [] => some ([], wNil)
  | ⟨some nm, e, _⟩ :: r => match R.e false sc e, trKw sc r with
    | some wa, some (ks, wr) => some (nm :: ks, wCons wa wr)
    | _, _ => none
  | _ => none
def trPs (sc : Scope) : List (Option Expr) → List Expr → Option (List (WE × WE))
  | [], [] => some []
  | some k :: ks, v :: vs => match R.e false sc k, R.e false sc v, trPs sc ks vs with
    | some wk, some wv, some r => some ((wk, wv) :: r)
    | _, _, _ => none
  | _, _ => none
/-- the names of a comprehension's own tuple -/
def namesC (scope : Scope) : List Expr → Option (List (Str × Nat))
  | [] => some []
  | .Name x _ :: r => match slotOf x N, locB scope x, namesC scope r with
    | some i, true, some l => some ((x, i) :: l)
    | _, _, _ => none
  | _ => none
/-- the parts of an f-string -/
def trJ (sc : Scope) : List Expr → Option (List WE)
  | [] => some []
  | .FormattedValue e (-1) none _ :: r => match R.e false sc e, trJ sc r with
    | some w, some ws => some (wFmt w :: ws)
    | _, _ => none
  | .Constant (.str x) k p :: r => match trJ sc r with
    | some ws => some (wC (.str x) :: ws)
    | none => none
  | _ => none
def trO (sc : Scope) : Option Expr → Option WO
  | none => some wNoP
  | some e => (R.e false sc e).map wPart
/-- what a loop goes through (calm alone) -/
def isTup : Expr → Bool
  | .Tuple .. => true
  | _ => false
def trI (sc : Scope) (t : Bool) : Expr → Option WI
  | .Call (.Name f p) [a] [] pos => if f = "range" ∧ glB sc f = true ∧ notStar a = true then (R.e false sc a).map wRng1 else
    if f = "enumerate" ∧ glB sc f = true ∧ notStar a = true then (if t = true then (R.e false sc a).map wEnum else none) else (R.e false sc (.Call (.Name f p) [a] [] pos)).map wIt
  | .Call (.Name f p) [a, b] [] pos => if f = "range" ∧ glB sc f = true ∧ notStar a = true ∧ notStar b = true then (match R.e false sc a, R.e false sc b with
    | some wa, some wb => some (wRng2 wa wb)
    | _, _ => none) else (R.e false sc (.Call (.Name f p) [a, b] [] pos)).map wIt
  | e => (R.e false sc e).map wIt
def trIf (sc : Scope) : List Expr → Option WT
  | [] => some wYes
  | [c] => R.t sc c
  | _ => none
/-- .. while an exception is handled -/
def trIH (sc : Scope) : Expr → Option WI
  | .Call (.Name f p) [a] [] pos => if f = "range" ∧ glB sc f = true ∧ notStar a = true then (R.e false sc a).map wRng1 else none
  | _ => none
def calmB : Bool := match h with
  | none => true
  | some _ => false
def trGlob (sc : Scope) (x : Str) : Option WE := if glB sc x = true then (lookN x G.consts).map wC else none
def stepE (m : Bool) (sc : Scope) : Expr → Option WE
  | .Name x _ => if okName x = true then (match slotOf x N with
    | some i => if visB sc x = true then some (wVar i) else trGlob G sc x
    | none => trGlob G sc x) else none
  | .Constant c _ _ => (constD c).map wC
  | .BinOp a op b _ => match opG op, R.e false sc a, R.e false sc b with
    | some g, some wa, some wb => some (wOp g wa wb)
    | _, _, _ => none
  | .UnaryOp op a _ => match op, R.e false sc a with
    | .Not, some wa => some (wNot wa)
    | .USub, some wa => some (wUn gNeg wa)
    | _, _ => none
  | .Compare a [op] [b] _ => match cmpG op, R.e false sc a, R.e false sc b, behindInMarks op b with
    | some g, some wa, some wb, false => some (wOp g wa wb)
    | _, _, _, _ => none
  | .Compare a [op, op'] [b, c] _ => match cmpG op, cmpG op', R.e false sc a, R.e false sc b, R.e false sc c, lastMarks [op, op'] [b, c] with
    | some g, some g', some wa, some wb, some wc, false => some (wChain g g' wa wb wc)
    | _, _, _, _, _, _ => none
  | .BoolOp op vs _ => trBE R sc op vs
  | .IfExp c a b _ => match R.t sc c, R.e m sc a, R.e m sc b with
    | some wt, some wa, some wb => some (wIf wt wa wb)
    | _, _, _ => none
  | .Tuple es _ _ => (trAs R sc es).map wTup
  | .JoinedStr (v1 :: v2 :: rest) _ => (trJ R sc (v1 :: v2 :: rest)).map wJoined
  | .List es _ => (trAs R sc es).map fun w => if m = true then wLstM w else wLst w
  | .Dict keys values _ => match keys, values with
    | [], [] => some (if m = true then wDict0M else wDict0)
    | _, _ => if keys.length = values.length ∧ keys ≠ [] ∧ keys.length ≤ 15 then (trPs R sc keys values).map fun w => if m = true then wDictM w else wDict w else none
  | .Subscript a (.Slice none none (some (.UnaryOp .USub (.Constant (.int 1) _ _) _)) _) _ => (R.e false sc a).map (wUn gRev)
  | .Subscript a (.Slice lo hi none _) _ => match R.e false sc a, trO R sc lo, trO R sc hi with
    | some wa, some wl, some wh => some (wSl gSl wa wl wh)
    | _, _, _ => none
  | .Subscript a b _ => match plainIx b, R.e false sc a, R.e false sc b with
    | true, some wa, some wb => some (wOp gIx wa wb)
    | _, _, _ => none
  | .Attribute a f _ => (match a, h with
    | .Name x p, some (ea, ca, dx) => (match R.e false sc (.Name x p) with
      | some wa => if f ∈ G.flds then some (wXf ea ca dx f wa) else none
      | none => none)
    | _, _ => none).orElse fun _ =>
    if plainBase a = true then
      (if f ∈ G.ofl then (R.e false sc a).map (wFld f) else
        (match calmB h, lookPr f G.props, R.e false sc a with
        | true, some e, some wa => some (wProp e.c e.sp wa)
        | _, _, _ => none))
    else none
  | .Call (.Name f p) args kws pos =>
    if okName f = true ∧ glB sc f = true then
      (match args, kws with
      | [a, .Name tv p3], [] =>
        if f = "isinstance" then (if notStar a = true ∧ okName tv = true ∧ glB sc tv = true then
          (match lookN tv G.subs, h with
          | some is, some (ea, ca, dx) => (R.e false sc a).map (wXi ea ca dx is)
          | _, _ => match tyOf tv with
            | some t => (R.e false sc a).map (wIsi t)
            | none => none) else none)
        else none
      | [.Name z p2], [] => (match h, lookN f G.hots with
        | some (ea, ca, dx), some sp => (R.e false sc (.Name z p2)).map (wCallX ea ca dx sp)
        | _, _ => none)
      | [.Call (.Name z p2) [a, b] [] pos2], [] =>
        if f = "dict" ∧ z = "zip" ∧ glB sc "zip" = true ∧ calmB h = true ∧ m = false then (trAs R sc [a, b]).map wDZ else none
      | _, _ => none).orElse fun _ =>
      (match kws, biCall (calmB h) m f with
      | [], some (b, g) => if args ≠ [] then (trAs R sc args).map (wCB g) else none
      | _, _ => none).orElse fun _ =>
      if calmB h = true ∧ args.all notStar = true then
        (match trKw R sc kws, trAs R sc args with
        | some (ks, wk), some wa => match lookFm f args.length ks m G.funs with
          | some e => some (match kws with
            | [] => wCall e.n e.sp wa
            | _ => wCallK e.n e.ks.length e.sp wa wk)
          | none => (match kws, lookMk f args.length G.makes with
            | [], some e => some (wCall e.n (spMk (!m) f e.sp) wa)
            | _, _ => none)
        | _, _ => none)
      else none
    else none
  | .Call (.Attribute o mt apos) args [] cpos =>
    (if plainBase o = true ∧ (apos.endLine == cpos.line) = true ∧ args.length < 25 ∧ args.all notStar = true then
      (match mtCall mt, R.e false sc o, trAs R sc args with
      | some e, some wo, some wa => some (wMt e.T e.g wo wa)
      | _, _, _ => none)
    else none).orElse fun _ =>
    if plainBase o = true ∧ (apos.endLine == cpos.line) = true ∧ args.length < 25 ∧ args.all notStar = true ∧ calmB h = true then
      (match lookMt mt args.length G.meths, R.e false sc o, trAs R sc args with
      | some e, some wo, some wa => some (wMeth e.c e.m e.n e.sp wo wa)
      | _, _, _ => none)
    else none
  | .ListComp elt [⟨.Name x p, iter, ifs, 0⟩] scope _ =>
    (match slotOf x N, calmB h with
    | some i, true => if blkC N sc scope [(x, i)] = true ∧ plainSet iter = true ∧ (locB scope x = true ∨ scope.names.lookup x = some .cell) then
        (match trI R sc false iter, trIf R (relS scope sc) ifs, R.e false (relS scope sc) elt with
        | some wi, some wt, some we => some (if m = true then wLcM wi (wgName i) wt we else wLc wi (wgName i) wt we)
        | _, _, _ => none) else none
    | some i, false => if G.flds = [] ∧ blkC N sc scope [(x, i)] = true ∧ plainSet iter = true ∧ (locB scope x = true ∨ scope.names.lookup x = some .cell) then
        (match trIH R sc iter, trIf R (relS scope sc) ifs, R.e false (relS scope sc) elt with
        | some wi, some wt, some we => some (if m = true then wLcM wi (wgName i) wt we else wLc wi (wgName i) wt we)
        | _, _, _ => none) else none
    | _, _ => none)
  | .ListComp elt [⟨.Tuple es _ _, iter, ifs, 0⟩] scope _ =>
    (match namesC N scope es, calmB h with
    | some own, true => if blkC N sc scope own = true ∧ plainSet iter = true then
        (match trI R sc true iter, trIf R (relS scope sc) ifs, R.e false (relS scope sc) elt with
        | some wi, some wt, some we => some (if m = true then wLcM wi (wgT (own.map (·.2))) wt we else wLc wi (wgT (own.map (·.2))) wt we)
        | _, _, _ => none) else none
    | _, _ => none)
  | .DictComp kx vx [⟨.Name x _, iter, ifs, 0⟩] scope _ =>
    (match slotOf x N, calmB h with
    | some i, true => if blkC N sc scope [(x, i)] = true ∧ plainSet iter = true ∧ (locB scope x = true ∨ scope.names.lookup x = some .cell) then
        (match trI R sc false iter, trIf R (relS scope sc) ifs, R.e false (relS scope sc) kx, R.e m (relS scope sc) vx with
        | some wi, some wt, some wk, some wv => some (if m = true then wDcM wi (wgName i) wt wk wv else wDc wi (wgName i) wt wk wv)
        | _, _, _, _ => none) else none
    | _, _ => none)
  | .DictComp kx vx [⟨.Tuple es _ _, iter, ifs, 0⟩] scope _ =>
    (match namesC N scope es, calmB h with
    | some own, true => if blkC N sc scope own = true ∧ plainSet iter = true then
        (match trI R sc true iter, trIf R (relS scope sc) ifs, R.e false (relS scope sc) kx, R.e m (relS scope sc) vx with
        | some wi, some wt, some wk, some wv => some (if m = true then wDcM wi (wgT (own.map (·.2))) wt wk wv else wDc wi (wgT (own.map (·.2))) wt wk wv)
        | _, _, _, _ => none) else none
    | _, _ => none)
  | _ => none
def stepT (sc : Scope) : Expr → Option WT
  | .UnaryOp .Not a _ => (R.t sc a).map wNotT
  | .BoolOp op vs _ => trBT R sc op vs
  | .Compare a [op] [b] _ => match cmpG op, R.e false sc a, R.e false sc b, behindInMarks op b with
    | some g, some wa, some wb, false => some (wTB (wOp g wa wb))
    | _, _, _, _ => none
  | .Compare a [op, op'] [b, c] _ => match cmpG op, cmpG op', R.e false sc a, R.e false sc b, R.e false sc c, lastMarks [op, op'] [b, c] with
    | some g, some g', some wa, some wb, some wc, false => some (wTB (wChain g g' wa wb wc))
    | _, _, _, _, _, _ => none
  | e => if plainT e = true then (R.e false sc e).map wTru else none
end
/-- n: how deep it may go -/
def trN (G : Gam) (N : List Str) (h : Hot) : Nat → Rec
  | 0 => ⟨fun _ _ _ => none, fun _ _ => none⟩
  | n + 1 => ⟨stepE G N h (trN G N h n), stepT (trN G N h n)⟩
end T2

set_option maxRecDepth 100000
set_option maxHeartbeats 4000000
namespace T2
open PySem PySem.Spec PyProof.Rows L2
structure Snd (C : CT) (k : Nat) (G : Gam) (N : List Str) (h : Hot) (R : Rec) : Prop where
  e : ∀ m sc e w, R.e m sc e = some w → ∀ X W, XO C k G N h sc X W → PE X e (upE X.K C W w)
  t : ∀ sc e w, R.t sc e = some w → ∀ X W, XO C k G N h sc X W → PT X e (upT X.K C W w)
section
variable {C : CT} {k : Nat} {G : Gam} {N : List Str} {h : Hot} {R : Rec} {sc : Scope} {X : Cx} {W : WX}
theorem calmB_ok (e : calmB h = true) : h = none := by
  cases h with
  | none => rfl
  | some q => cases e
theorem XO.hu (o : XO C k G N h sc X W) : X.A.units + 1 < cLine := by have := o.un; omega
theorem trAs_ok (S : Snd C k G N h R) (o : XO C k G N h sc X W) : ∀ {es : List Expr} {w : WA}, trAs R sc es = some w → PA X es (upA X.K C W w)
  | [], w, e => by cases e; exact up_nil
  | a :: r, w, e => by
    unfold trAs at e
    split at e
    · rename_i wa wr e1 e2 e3
      cases e
      exact up_cons (S.e _ _ _ _ e2 X W o) (trAs_ok S o e3) (star_cons e1)
    · cases e
theorem trAs_star : ∀ {es : List Expr} {w : WA}, trAs R sc es = some w → es.all notStar = true
  | [], w, e => rfl
  | a :: r, w, e => by
    unfold trAs at e
    split at e
    · rename_i wa wr e1 e2 e3
      rw [List.all_cons, e1, trAs_star e3]
      rfl
    · cases e
theorem trBE_ok (S : Snd C k G N h R) (o : XO C k G N h sc X W) {op : BoolOp} {pos : Pos} : ∀ {es : List Expr} {w : WE}, trBE R sc op es = some w → PE X (.BoolOp op es pos) (upE X.K C W w)
  | [], w, e => by cases e
  | [a], w, e => up_bool1 (S.e _ _ _ _ e X W o)
  | a :: b :: r, w, e => by
    unfold trBE at e
    split at e
    · rename_i wa wr e1 e2
      have h1 := S.e _ _ _ _ e1 X W o
      have h2 := trBE_ok S o (pos := pos) e2
      cases op with
      | And => cases e; exact up_and h1 h2
      | Or => cases e; exact up_or h1 h2
    · cases e
theorem trBT_ok (S : Snd C k G N h R) (o : XO C k G N h sc X W) {op : BoolOp} {pos : Pos} : ∀ {es : List Expr} {w : WT}, trBT R sc op es = some w → PW X (.BoolOp op es pos) (upT X.K C W w)
  | [], w, e => by cases e
  | [a], w, e => by
    have h1 := S.t _ _ _ e X W o
    cases op with
    | And => exact upT_and1 h1
    | Or => exact upT_or1 h1
  | a :: b :: r, w, e => by
    unfold trBT at e
    split at e
    · rename_i wa wr e1 e2
      have h1 := S.t _ _ _ e1 X W o
      have h2 := trBT_ok S o (pos := pos) e2
      cases op with
      | And => cases e; exact upT_and h1 h2
      | Or => cases e; exact upT_or h1 h2
    · cases e
theorem trKw_ok (S : Snd C k G N h R) (o : XO C k G N h sc X W) : ∀ {es : List Keyword} {ks : List Str} {w : WA}, trKw R sc es = some (ks, w) → PK X es (upA X.K C W w) ∧
    (∀ pos, (backToKw pos (keywordEach es X.env)).all (·.1.isSome) = true ∧ (backToKw pos (keywordEach es X.env)).filterMap (·.1) = ks ∧ (backToKw pos (keywordEach es X.env)).any (·.1.isNone) = false)
  | [], ks, w, e => by cases e; exact ⟨up_knil, fun pos => ⟨rfl, rfl, rfl⟩⟩
  | ⟨some nm, a, p⟩ :: r, ks, w, e => by
    unfold trKw at e
    split at e
    · rename_i wa ks' wr e1 e2
      cases e
      obtain ⟨h1, h2⟩ := trKw_ok S o e2
      refine ⟨up_kcons (S.e _ _ _ _ e1 X W o) h1, fun pos => ?_⟩
      obtain ⟨a1, a2, a3⟩ := h2 pos
      refine ⟨?_, ?_, ?_⟩
      · show (true && (backToKw pos (keywordEach r X.env)).all (·.1.isSome)) = true
        rw [a1]; rfl
      · show nm :: (backToKw pos (keywordEach r X.env)).filterMap (·.1) = nm :: ks'
        rw [a2]
      · show (false || (backToKw pos (keywordEach r X.env)).any (·.1.isNone)) = false
        rw [a3]; rfl
    · cases e
  | ⟨none, a, p⟩ :: r, ks, w, e => by cases e
theorem trPs_ok (S : Snd C k G N h R) (o : XO C k G N h sc X W) {pos : Pos} : ∀ {ks : List (Option Expr)} {vs : List Expr} {w : List (WE × WE)}, trPs R sc ks vs = some w → PPs X pos ks vs (w.map fun q => (upE X.K C W q.1, upE X.K C W q.2)) ∧ ks.all (·.isSome) = true
  | [], [], w, e => by cases e; exact ⟨pps_nil, rfl⟩
  | some a :: ks, v :: vs, w, e => by
    unfold trPs at e
    split at e
    · rename_i wk wv r e1 e2 e3
      cases e
      obtain ⟨h1, h2⟩ := trPs_ok S o (pos := pos) e3
      exact ⟨pps_cons (S.e _ _ _ _ e1 X W o) (S.e _ _ _ _ e2 X W o) h1, by rw [List.all_cons, h2]; rfl⟩
    · cases e
  | [], _ :: _, w, e => by cases e
  | none :: _, [], w, e => by cases e
  | some _ :: _, [], w, e => by cases e
  | none :: _, _ :: _, w, e => by cases e
theorem trJ_ok (S : Snd C k G N h R) (o : XO C k G N h sc X W) : ∀ {es : List Expr} {ws : List WE}, trJ R sc es = some ws → PJ X es (ws.map fun w => upE X.K C W w)
  | [], ws, e => by cases e; exact .nil
  | a :: r, ws, e => by
    unfold trJ at e
    split at e
    · rename_i e0; cases e0
    · rename_i e1 p r' e0
      cases e0
      split at e
      · rename_i w ws' h1 h2
        cases e
        exact .cons (up_fmt (S.e _ _ _ _ h1 X W o)) (trJ_ok S o h2)
      · cases e
    · rename_i x kk p r' e0
      cases e0
      split at e
      · rename_i ws' h2
        cases e
        exact .cons (up_c pe_str fun F => .ofStr) (trJ_ok S o h2)
      · cases e
    · cases e
theorem trO_ok (S : Snd C k G N h R) (o : XO C k G N h sc X W) {es : Option Expr} {w : WO} (e : trO R sc es = some w) : PO X es (upO X.K C W w) := by
  cases es with
  | none => cases e; exact up_noP
  | some a =>
    have e : (R.e false sc a).map wPart = some w := e
    cases q : R.e false sc a with
    | none => rw [q] at e; cases e
    | some wa => rw [q] at e; cases e; exact up_part (S.e _ _ _ _ q X W o)
theorem trI_ok (S : Snd C k G N none R) (o : XO C k G N none sc X W) {t : Bool} {tg a : Expr} {w : WI} (e : trI R sc t a = some w) (htg : t = true → ∃ elts kk tpos, tg = .Tuple elts kk tpos) : PI X tg a (upI X.K C W w) := by
  have any : ∀ {a : Expr} {w : WI}, (R.e false sc a).map wIt = some w → PI X tg a (upI X.K C W w) := fun {a w} e => by
    cases q : R.e false sc a with
    | none => rw [q] at e; cases e
    | some wa => rw [q] at e; cases e; exact up_it (S.e _ _ _ _ q X W o)
  have hf : X.mg "range" = none := o.g.free _ (by decide)
  unfold trI at e
  split at e
  · split at e
    · rename_i f p a pos hc
      obtain ⟨rfl, hg, hs⟩ := hc
      cases q : R.e false sc a with
      | none => rw [q] at e; cases e
      | some wa =>
        rw [q] at e
        cases e
        exact up_rng1 (glB_ok o.eS hg) hf (S.e _ _ _ _ q X W o) (by rw [star_cons hs]; rfl)
    · split at e
      · rename_i f p a pos _ hc
        obtain ⟨rfl, hg, hs⟩ := hc
        split at e
        · rename_i ht
          obtain ⟨elts, kk, tpos, rfl⟩ := htg ht
          cases q : R.e false sc a with
          | none => rw [q] at e; cases e
          | some wa =>
            rw [q] at e
            cases e
            exact up_enum (glB_ok o.eS hg) (o.g.free _ (by decide)) (S.e _ _ _ _ q X W o) (by rw [star_cons hs]; rfl)
        · cases e
      · exact any e
  · split at e
    · rename_i f p a b pos hc
      obtain ⟨rfl, hg, hs, hs2⟩ := hc
      split at e
      · rename_i wa wb e1 e2
        cases e
        exact up_rng2 (glB_ok o.eS hg) hf (S.e _ _ _ _ e1 X W o) (S.e _ _ _ _ e2 X W o) (by rw [star_cons hs, star_cons hs2]; rfl) (by rw [star_cons hs2]; rfl)
      · cases e
    · exact any e
  · exact any e
theorem trIf_ok (S : Snd C k G N h R) (o : XO C k G N h sc X W) {ifs : List Expr} {w : WT} (e : trIf R sc ifs = some w) : PTs X ifs (upT X.K C W w) := by
  unfold trIf at e
  split at e
  · cases e; exact up_yes
  · exact up_one (S.t _ _ _ e X W o)
  · cases e
theorem trGlob_ok (o : XO C k G N h sc X W) {x : Str} {pos : Pos} {w : WE} (hx : okName x = true) (e : trGlob G sc x = some w) : PE X (.Name x pos) (upE X.K C W w) := by
  unfold trGlob at e
  split at e
  · rename_i hg
    cases q : lookN x G.consts with
    | none => rw [q] at e; cases e
    | some d =>
      rw [q] at e
      cases e
      obtain ⟨u, v, h1, h2, h3⟩ := o.g.con _ (lookN_ok q)
      exact up_c (pe_glob (glB_ok o.eS hg) h1 h2 (okName_ok hx).1) h3
  · cases e
/-- the name of a class, as a value -/
theorem cls_name (o : XO C k G N h sc X W) {x : Str} {pos : Pos} {cv : V} {cu : Value} (hx : okName x = true) (hg : glB sc x = true) (hm : (X.mg x = some cu) ∨ (X.mg x = none ∧ bootBuiltins x = some cu)) (r : RelV cv cu) : PE X (.Name x pos) (tC cv) := by
  rcases hm with hm | ⟨hm, hb⟩
  · exact pe_glob (glB_ok o.eS hg) hm r (okName_ok hx).1
  · exact pe_bltn (glB_ok o.eS hg) hm hb r (okName_ok hx).2.2 (okName_ok hx).1
end
end T2

set_option maxRecDepth 100000
set_option maxHeartbeats 4000000
namespace T2
open PySem PySem.Spec PyProof.Rows L2
theorem map_some {α β : Type} {o : Option α} {f : α → β} {b : β} (h : o.map f = some b) : ∃ a, o = some a ∧ f a = b := by
  cases o with
  | none => cases h
  | some a => exact ⟨a, rfl, Option.some.inj h⟩
theorem orElse_some {α : Type} {o : Option α} {f : Unit → Option α} {b : α} (h : o.orElse f = some b) : o = some b ∨ f () = some b := by
  cases o with
  | none => exact .inr h
  | some a => exact .inl h
section
variable {C : CT} {k : Nat} {G : Gam} {N : List Str} {h : Hot} {R : Rec} {sc : Scope} {X : Cx} {W : WX}
theorem relS_eq {scope sc : Scope} {env : PySem.Env} {cl : List (Str × Addr)} {A : Addr} (hs : env.scope = sc) : (compEnvC scope cl A env).scope = relS scope sc := by
  subst hs
  rfl
theorem XO.blk (o : XO C k G N none sc X W) {s : Shared} {H : Hp} {scope : Scope} {A : Addr} {cl : List (Str × Addr)} {fp : List Addr} : XO C k G N none (relS scope sc) (X.blk s H scope (compEnvC scope cl A X.env) fp) WNo where
  g := o.g
  eN := o.eN
  eS := relS_eq o.eS
  nd := o.nd
  un := o.un
  cool := o.cool
  hot := fun _ _ _ h => by cases h
  tk := takesN
/-- what the exception that is handled gives -/
theorem XO.hotC (o : XO C k G N h sc X W) {a ca : Addr} {dx : Option Addr} (e : h = some (a, ca, dx)) : L2H.HotC X := by
  obtain ⟨oe, h1, h2, ⟨vs, h3⟩, h4, h5, _⟩ := o.hot _ _ _ e
  exact ⟨(a, oe), ⟨h5, vs, h3, h2.2.2 vs h3⟩, h1⟩
theorem XO.blkX {a ca : Addr} {dx : Option Addr} (o : XO C k G N (some (a, ca, dx)) sc X W) (hf : G.flds = []) {s : Shared} {H : Hp} {scope : Scope} {A : Addr} {cl : List (Str × Addr)} {fp : List Addr} : XO C k G N (some (a, ca, dx)) (relS scope sc) (blkH X s H scope (compEnvC scope cl A X.env) fp) WNo where
  g := o.g
  eN := o.eN
  eS := relS_eq o.eS
  nd := o.nd
  un := o.un
  cool := fun e => by cases e
  hot := fun a' ca' dx' e => by
    obtain ⟨oe, h1, h2, h3, h4, h5, h6, _⟩ := o.hot a' ca' dx' e
    exact ⟨oe, h1, h2, h3, h4, h5, h6, fun z => absurd hf z⟩
  tk := takesN
theorem trIH_ok (S : Snd C k G N h R) (o : XO C k G N h sc X W) {tg a : Expr} {w : WI} (e : trIH R sc a = some w) : L2H.PIH X tg a (upI X.K C W w) := by
  unfold trIH at e
  split at e
  · split at e
    · rename_i f p a pos hc
      obtain ⟨rfl, hg, hs⟩ := hc
      obtain ⟨wa, q, rfl⟩ := map_some e
      exact up_rng1H (glB_ok o.eS hg) (o.g.free _ (by decide)) (S.e _ _ _ _ q X W o) (by rw [star_cons hs]; rfl)
    · cases e
  · cases e
theorem up_compH {a ca : Addr} {dx : Option Addr} (hf : G.flds = []) (S : Snd C k G N (some (a, ca, dx)) R) (o : XO C k G N (some (a, ca, dx)) sc X W) {m : Bool} {elt iter : Expr} {ifs : List Expr} {scope : Scope} {p pos : Pos} {x : Str} {i : Nat} {wi : WI} {wt : WT} {we : WE} (hx : slotOf x N = some i)
    (hb : blkC N sc scope [(x, i)] = true) (hp : plainSet iter = true) (hl : locB scope x = true ∨ scope.names.lookup x = some .cell) (h1 : trIH R sc iter = some wi) (h2 : trIf R (relS scope sc) ifs = some wt) (h3 : R.e false (relS scope sc) elt = some we) :
    PE X (.ListComp elt [⟨.Name x p, iter, ifs, 0⟩] scope pos) (upE X.K C W (if m = true then wLcM wi (wgName i) wt we else wLc wi (wgName i) wt we)) := by
  have hN : X.N[i]? = some x := by rw [o.eN]; exact slotOf_ok hx
  have hpg : ∀ (s : Shared) (H : Hp) (A : Addr) (cl : List (Str × Addr)) (fp : List Addr), PG (blkH X s H scope (compEnvC scope cl A X.env) fp) (.Name x p) (gName i) := fun s H A cl fp => by
    have ob := o.blkX hf (s := s) (H := H) (scope := scope) (A := A) (cl := cl) (fp := fp)
    have hl' : scope.names.lookup x = some .local ∨ scope.names.lookup x = some .cell := hl.elim (fun h => .inl (locB_ok h)) .inr
    have hk : (relS scope sc).names.lookup x = scope.names.lookup x := by
      rcases hl' with h | h
      · rw [h]; exact lookup_relS_keep (by decide) h
      · rw [h]; exact lookup_relS_keep (by decide) h
    refine pg_name o.nd hN ?_ ?_
    · show Loc (blkH X s H scope (compEnvC scope cl A X.env) fp).env.scope x
      rw [ob.eS]
      rcases hl' with h | h
      · exact .inl (hk.trans h)
      · exact .inr (hk.trans h)
    · rcases hl' with h | h
      · refine .inr ?_
        rw [ob.eS]
        exact hk.trans h
      · refine .inl ?_
        show (scope.names.lookup x == some NameKind.cell) = true
        rw [h]; rfl
  refine PE.imp (pe_lcH (tt := upT X.K C WNo wt) (te := upE X.K C WNo we) (o.hotC rfl) o.nd (trIH_ok S o h1) (by rw [o.eN, o.eS]; exact blkOk_by hb) hpg (fun s H A cl fp => trIf_ok S (o.blkX hf) h2) (fun s H A cl fp => S.e _ _ _ _ h3 _ _ (o.blkX hf)) (plainSet_ok hp)) ?_
  cases m with
  | true => exact up_lcM tgt_name
  | false => exact up_lcF tgt_name
theorem up_comp (S : Snd C k G N none R) (o : XO C k G N none sc X W) {m : Bool} {elt iter : Expr} {ifs : List Expr} {scope : Scope} {p : Pos} {x : Str} {i : Nat} {wi : WI} {wt : WT} {we : WE} (hx : slotOf x N = some i)
    (hb : blkC N sc scope [(x, i)] = true) (hp : plainSet iter = true) (hl : locB scope x = true ∨ scope.names.lookup x = some .cell) (h1 : trI R sc false iter = some wi) (h2 : trIf R (relS scope sc) ifs = some wt) (h3 : R.e false (relS scope sc) elt = some we) :
    (∀ σ H Q, upE X.K C W (if m = true then wLcM wi (wgName i) wt we else wLc wi (wgName i) wt we) σ H Q → tLc (upI X.K C W wi) (gName i) (upT X.K C WNo wt) (upE X.K C WNo we) [i] σ H Q) ∧
    PI X (.Name x p) iter (upI X.K C W wi) ∧ BlkOk X.N X.env.scope scope [(x, i)] ∧
    (∀ (s : Shared) (H : Hp) (A : Addr) (cl : List (Str × Addr)) (fp : List Addr), PG (X.blk s H scope (compEnvC scope cl A X.env) fp) (.Name x p) (gName i)) ∧
    (∀ (s : Shared) (H : Hp) (A : Addr) (cl : List (Str × Addr)) (fp : List Addr), PTs (X.blk s H scope (compEnvC scope cl A X.env) fp) ifs (upT X.K C WNo wt)) ∧
    (∀ (s : Shared) (H : Hp) (A : Addr) (cl : List (Str × Addr)) (fp : List Addr), PE (X.blk s H scope (compEnvC scope cl A X.env) fp) elt (upE X.K C WNo we)) ∧ (∀ y, foldedSetIterable iter X.env y = pure y) := by
  have hN : X.N[i]? = some x := by rw [o.eN]; exact slotOf_ok hx
  refine ⟨?_, trI_ok S o h1 (fun z => by cases z), ?_, fun s H A cl fp => ?_, fun s H A cl fp => ?_, fun s H A cl fp => ?_, plainSet_ok hp⟩
  · cases m with
    | true => exact up_lcM tgt_name
    | false => exact up_lcF tgt_name
  · rw [o.eN, o.eS]
    exact blkOk_by hb
  · have ob := o.blk (s := s) (H := H) (scope := scope) (A := A) (cl := cl) (fp := fp)
    have hl' : scope.names.lookup x = some .local ∨ scope.names.lookup x = some .cell := hl.elim (fun h => .inl (locB_ok h)) .inr
    have hk : (relS scope sc).names.lookup x = scope.names.lookup x := by
      rcases hl' with h | h
      · rw [h]; exact lookup_relS_keep (by decide) h
      · rw [h]; exact lookup_relS_keep (by decide) h
    refine pg_name o.nd hN ?_ ?_
    · show Loc (X.blk s H scope (compEnvC scope cl A X.env) fp).env.scope x
      rw [ob.eS]
      rcases hl' with h | h
      · exact .inl (hk.trans h)
      · exact .inr (hk.trans h)
    · rcases hl' with h | h
      · refine .inr ?_
        rw [ob.eS]
        exact hk.trans h
      · refine .inl ?_
        show (scope.names.lookup x == some NameKind.cell) = true
        rw [h]; rfl
  · exact trIf_ok S o.blk h2
  · exact S.e _ _ _ _ h3 _ _ o.blk
theorem namesC_ok (o : XO C k G N none sc X W) {scope : Scope} {s : Shared} {H : Hp} {A : Addr} {cl : List (Str × Addr)} {fp : List Addr} : ∀ {es : List Expr} {own : List (Str × Nat)}, namesC N scope es = some own →
    PGs (X.blk s H scope (compEnvC scope cl A X.env) fp) es (gNames (own.map (·.2))) ∧ (assignEach es (X.blk s H scope (compEnvC scope cl A X.env) fp).env).length = (own.map (·.2)).length ∧ (assignEach es (X.blk s H scope (compEnvC scope cl A X.env) fp).env).findIdx? (·.1) = none
  | [], own, e => by cases e; exact ⟨pgs_nil, rfl, rfl⟩
  | a :: r, own, e => by
    unfold namesC at e
    split at e
    · rename_i e0; cases e0
    · rename_i x p r' e0
      cases e0
      split at e
      · rename_i i l h1 h2 h3
        cases e
        obtain ⟨q1, q2, q3⟩ := namesC_ok o (s := s) (H := H) (A := A) (cl := cl) (fp := fp) h3
        have ob := o.blk (s := s) (H := H) (scope := scope) (A := A) (cl := cl) (fp := fp)
        have hl := locB_ok h2
        have hk : (relS scope sc).names.lookup x = scope.names.lookup x := by rw [hl]; exact lookup_relS_keep (by decide) hl
        refine ⟨pgs_cons (pg_name o.nd (by rw [o.eN]; exact slotOf_ok h1) ?_ (.inr ?_)) q1 rfl, ?_, ?_⟩
        · show Loc (X.blk s H scope (compEnvC scope cl A X.env) fp).env.scope x
          rw [ob.eS]
          exact .inl (hk.trans hl)
        · rw [ob.eS]
          exact hk.trans hl
        · show (assignEach r _).length + 1 = (l.map (·.2)).length + 1
          rw [q2]
        · show ((false, assign (.Name x p) _) :: assignEach r _).findIdx? (·.1) = none
          rw [List.findIdx?_cons, q3]
          rfl
      · cases e
    · cases e
theorem meth_eval {o : Expr} {m : Str} {apos pos : Pos} {es : List Expr} {env : PySem.Env} (h : plainBase o = true) (hline : (apos.endLine == pos.line) = true) (hn : es.length < 25) (hs : es.all notStar = true) : ∃ pl : Sem Bool, eval (.Call (.Attribute o m apos) es [] pos) env = (do
      let ov ← eval o env
      standAt apos.atName
      let (f, first) ← holding [ov] (getMethod ov m pl)
      callWith pos f first (backTo pos (starEach es env)) (backToKw pos (keywordEach [] env))) := by
  have hfew : methodCallForm (es.length + ([] : List Keyword).length) (backTo pos (starEach es env)) (backToKw pos (keywordEach [] env)) = true := by
    show ((backTo pos (starEach es env)).all (fun x => !x.1) && (backToKw pos (keywordEach [] env)).all (fun x => x.1.isSome) && decide (es.length + ([] : List Keyword).length + (if ([] : List Keyword).isEmpty then 0 else 1) < 30)) = true
    rw [star_all hs]
    have : es.length + ([] : List Keyword).length + (if ([] : List Keyword).isEmpty then 0 else 1) < 30 := by
      show es.length + 0 + 0 < 30
      omega
    rw [decide_eq_true this]
    rfl
  have hpos : methodCallPos true o env apos pos = pure pos := by unfold methodCallPos; simp [hline]
  refine ⟨do return (← importBound o env).getD true, ?_⟩
  rw [arm_eval_Call, plainBase_ok h]
  congr 1
  funext ov
  congr 1
  funext _
  unfold methodCall
  rw [hfew, hpos]
  rfl
theorem stepE_ok (S : Snd C k G N h R) : ∀ m sc e w, stepE G N h R m sc e = some w → ∀ X W, XO C k G N h sc X W → PE X e (upE X.K C W w) := by
  intro m sc e w eq X W o
  unfold stepE at eq
  split at eq
  · -- a name
    split at eq
    · rename_i x p hx
      split at eq
      · rename_i i hi
        split at eq
        · rename_i hv
          cases eq
          have hN : X.N[i]? = some x := by rw [o.eN]; exact slotOf_ok hi
          exact up_var (pe_var hN (by rw [o.eS]; exact visB_ok hv) (okName_ok hx).1 (okName_ok hx).2.1)
        · exact trGlob_ok o hx eq
      · exact trGlob_ok o hx eq
    · cases eq
  · obtain ⟨d, h1, rfl⟩ := map_some eq
    exact up_const h1
  · split at eq
    · rename_i h1 h2 h3
      cases eq
      exact up_op (opG_ok h1) (S.e _ _ _ _ h2 X W o) (S.e _ _ _ _ h3 X W o)
    · cases eq
  · split at eq
    · rename_i h2
      cases eq
      exact up_not (S.e _ _ _ _ h2 X W o)
    · rename_i h2
      cases eq
      exact up_neg (S.e _ _ _ _ h2 X W o)
    · cases eq
  · split at eq
    · rename_i h1 h2 h3 h4
      cases eq
      exact up_cmp (cmpG_ok o.hu h1) (S.e _ _ _ _ h2 X W o) (S.e _ _ _ _ h3 X W o) h4
    · cases eq
  · split at eq
    · rename_i h1 h2 h3 h4 h5 h6
      cases eq
      exact up_chain (cmpG_ok o.hu h1) (cmpG_ok o.hu h2) (S.e _ _ _ _ h3 X W o) (S.e _ _ _ _ h4 X W o) (S.e _ _ _ _ h5 X W o) h6
    · cases eq
  · exact trBE_ok S o eq
  · split at eq
    · rename_i h1 h2 h3
      cases eq
      exact up_if (S.t _ _ _ h1 X W o) (S.e _ _ _ _ h2 X W o) (S.e _ _ _ _ h3 X W o)
    · cases eq
  · obtain ⟨d, h1, rfl⟩ := map_some eq
    exact up_tup (trAs_ok S o h1)
  · obtain ⟨d, h1, rfl⟩ := map_some eq
    exact PE.imp (pe_joined (trJ_ok S o h1)) fun σ H Q ⟨L, F, ρ, μ, Q0, E0, rl, q, uq, ux⟩ => up_js0 rl q (fun s μ' q' F' H' s' w => uq _ _ q' F' H' _ s' w .ofStr) ux
  · obtain ⟨d, h1, rfl⟩ := map_some eq
    cases m with
    | true => exact up_lstM (trAs_ok S o h1)
    | false => exact up_lst (trAs_ok S o h1)
  · split at eq
    · cases eq
      cases m with
      | true => exact up_dict0M
      | false => exact up_dict0
    · split at eq
      · rename_i hc
        obtain ⟨d, h1, rfl⟩ := map_some eq
        obtain ⟨h2, h3⟩ := trPs_ok S o h1
        cases m with
        | true => exact up_dictM h2 h3 hc.1 hc.2.1 hc.2.2
        | false => exact up_dict h2 h3 hc.1 hc.2.1 hc.2.2
      · cases eq
  · obtain ⟨d, h1, rfl⟩ := map_some eq
    exact up_rev (S.e _ _ _ _ h1 X W o)
  · split at eq
    · rename_i h1 h2 h3
      cases eq
      exact up_sl (S.e _ _ _ _ h1 X W o) (trO_ok S o h2) (trO_ok S o h3)
    · cases eq
  · split at eq
    · rename_i h1 h2 h3
      cases eq
      exact up_ix o.hu (S.e _ _ _ _ h2 X W o) (S.e _ _ _ _ h3 X W o) (plainIx_ok h1)
    · cases eq
  · -- e.f
    rcases orElse_some eq with eq | eq
    · split at eq
      · split at eq
        · rename_i h2
          split at eq
          · rename_i hf
            cases eq
            obtain ⟨oe, g1, h3, h4, h5, g2, g3, h7⟩ := o.hot _ _ _ rfl
            obtain ⟨⟨X0, pn, rfl⟩, h6, h7⟩ := h7 (fun z => by rw [z] at hf; cases hf)
            exact up_xf (X := X0) h6 (h7 _ hf) h3.zc h4 (S.e _ _ _ _ h2 _ W o) (plainBase_ok rfl)
          · cases eq
        · cases eq
      · cases eq
    · split at eq
      · rename_i hpb
        split at eq
        · rename_i hf
          obtain ⟨wa, h1, rfl⟩ := map_some eq
          exact up_fld (fun c ca hc => ⟨(o.g.oc c ca hc).1, (o.g.oc c ca hc).2 _ hf⟩) (S.e _ _ _ _ h1 X W o) (plainBase_ok hpb)
        · split at eq
          · rename_i e wa hcm h1 h2
            cases eq
            obtain ⟨m1, rfl⟩ := lookPr_ok h1
            obtain ⟨j, hj, F⟩ := o.g.pr e m1
            exact up_prop F ((o.cool (calmB_ok hcm)).2.mono hj) (S.e _ _ _ _ h2 X W o) (plainBase_ok hpb)
          · cases eq
      · cases eq
  · -- calls
    split at eq
    · rename_i f p args kws pos hc
      obtain ⟨hn, hg⟩ := hc
      have hgl := glB_ok o.eS hg
      obtain ⟨n1, n2, n3⟩ := okName_ok hn
      rcases orElse_some eq with eq | eq
      · split at eq
        · split at eq
          · split at eq
            · rename_i a tv p3 hf hc
              subst hf
              obtain ⟨c1, c2, c3⟩ := hc
              have hfree : X.mg "isinstance" = none := o.g.free _ (by decide)
              split at eq
              · rename_i is ea ca dx hs
                obtain ⟨wa, h1, rfl⟩ := map_some eq
                obtain ⟨oe, g1, h3, h4, h6, _⟩ := o.hot ea ca dx rfl
                obtain ⟨cv, cu, m1, m2, m3, m4⟩ := (o.g.sub _ (lookN_ok hs)).ex
                refine up_xi (oe := oe) (cv := cv) (cu := cu) g1 h6 h3.zc h4 m3 (fun c hcx => (m4 c ca hcx).1) hgl hfree (S.e _ _ _ _ h1 X W o) (cls_name o c2 c3 m1 m2) (star_cons c1)
              · split at eq
                · rename_i t ht
                  obtain ⟨wa, h1, rfl⟩ := map_some eq
                  obtain ⟨b1, b2⟩ := tyOf_ok ht
                  exact up_isi hgl hfree (S.e _ _ _ _ h1 X W o) (cls_name o c2 c3 (.inr ⟨o.g.free _ b1, b2⟩) rfl) (star_cons c1)
                · cases eq
            · cases eq
          · cases eq
        · split at eq
          · rename_i z p2 _ _ ea ca dx sp hs _
            obtain ⟨wa, h1, rfl⟩ := map_some eq
            obtain ⟨oe, g1, h3, h4, _, g2, g3, _⟩ := o.hot ea ca dx rfl
            obtain ⟨j, hj, F⟩ := o.g.hx _ (lookN_ok hs)
            exact up_callX F (g3.mono (by omega)) g2 g1 h3 h4 o.tk hgl (S.e _ _ _ _ h1 X W o) n1 rfl
          · cases eq
        · split at eq
          · rename_i hc
            obtain ⟨c1, c2, c3, c4, c5⟩ := hc
            obtain ⟨wa, h1, rfl⟩ := map_some eq
            subst c1 c2
            have hst := trAs_star h1
            rw [List.all_cons, Bool.and_eq_true] at hst
            exact PE.imp (pe_dictZip (o.cool (calmB_ok c4)).1 hgl (o.g.free _ (by decide)) (glB_ok o.eS c3) (o.g.free _ (by decide)) (trAs_ok S o h1) rfl (star_cons hst.1) (star_any hst.2)) up_dz
          · cases eq
        · cases eq
      · rcases orElse_some eq with eq | eq
        · split at eq
          · rename_i b g hb _ _
            split at eq
            · rename_i hne
              obtain ⟨wa, h1, rfl⟩ := map_some eq
              have hcl : calmB h = true → X.calm = true := fun e => (o.cool (calmB_ok e)).1
              obtain ⟨b1, b2, b3⟩ := biCall_ok (C := C) hcl hb
              have hst := trAs_star h1
              have hpa := trAs_ok S o h1
              cases args with
              | nil => exact absurd rfl hne
              | cons a r =>
                rw [List.all_cons, Bool.and_eq_true] at hst
                cases b with
                | fn id => exact up_callB b3 hgl (o.g.free _ b1) b2 hpa n3 n1 (star_cons hst.1) (star_any hst.2)
                | ty id => exact up_callTy b3 hgl (o.g.free _ b1) b2 hpa n3 n1 (star_cons hst.1) (star_any hst.2)
            · cases eq
          · cases eq
        · split at eq
          · rename_i hc
            obtain ⟨hcm, hst⟩ := hc
            have hcool := o.cool (calmB_ok hcm)
            split at eq
            · rename_i ks wk wa hk ha
              split at eq
              · rename_i e he
                cases eq
                obtain ⟨m1, m2, m3, m4⟩ := lookFm_ok he
                have F := o.g.fn e m1
                rw [m2, m3, m4] at F
                have hpa := trAs_ok S o ha
                obtain ⟨k1, k2⟩ := trKw_ok S o hk
                cases kws with
                | nil =>
                  cases hk
                  cases args with
                  | nil =>
                    cases ha
                    rw [m3]
                    exact up_call0 F hcool.2 o.tk hgl n1
                  | cons a r =>
                    rw [List.all_cons, Bool.and_eq_true] at hst
                    rw [m3]
                    exact up_call F hcool.2 o.tk hgl hpa n1 (star_cons hst.1) (star_any hst.2)
                | cons kw kr =>
                  obtain ⟨q1, q2, q3⟩ := k2 pos
                  cases args with
                  | nil =>
                    cases ha
                    rw [m3, m4]
                    exact up_callK0 F hcool.2 o.tk hgl k1 n1 q1 q2 (by rw [q3]; rfl)
                  | cons a r =>
                    have hs2 := star_any (env := X.env) (pos := pos) hst
                    rw [List.all_cons, Bool.and_eq_true] at hst
                    rw [m3, m4]
                    exact up_callK F hcool.2 o.tk hgl hpa k1 n1 q1 q2 (star_cons hst.1) (by rw [q3, hs2]; rfl)
              · cases kws with
                | cons kw kr => cases eq
                | nil =>
                  cases he : lookMk f args.length G.makes with
                  | none => rw [he] at eq; cases eq
                  | some e =>
                    rw [he] at eq
                    cases eq
                    obtain ⟨m1, m2, m3⟩ := lookMk_ok he
                    obtain ⟨j, hj, F⟩ := o.g.mke e m1
                    rw [m2, m3] at F
                    have hpa := trAs_ok S o ha
                    cases args with
                    | nil =>
                      cases ha
                      rw [m3]
                      exact up_make0 F (hcool.2.mono hj) o.tk hgl n1
                    | cons a r =>
                      rw [List.all_cons, Bool.and_eq_true] at hst
                      rw [m3]
                      exact up_make F (hcool.2.mono hj) o.tk hgl hpa n1 (star_cons hst.1) (star_any hst.2)
            · cases eq
          · cases eq
    · cases eq
  · -- methods
    rename_i ob mt apos args cpos
    rcases orElse_some eq with eq | eq
    · split at eq
      · rename_i hc
        obtain ⟨c1, c2, c3, c4⟩ := hc
        split at eq
        · rename_i e wo wa h1 h2 h3
          cases eq
          obtain ⟨m1, m2, m3, m4⟩ := mtCall_ok (C := C) o.hu h1
          have hpa := trAs_ok S o h3
          have hpo := S.e _ _ _ _ h2 X W o
          cases args with
          | nil =>
            cases h3
            exact up_bm0 m1 m2 m3 m4 hpo (plainBase_ok c1) c2
          | cons a r =>
            have hall := star_all (env := X.env) (pos := cpos) c4
            rw [List.all_cons, Bool.and_eq_true] at c4
            refine up_bm m1 m2 m3 m4 hpo hpa (plainBase_ok c1) ?_ c2 (star_cons c4.1) (star_any c4.2)
            rw [hall]
            have : (a :: r).length + ([] : List Keyword).length + (if ([] : List Keyword).isEmpty then 0 else 1) < 30 := by
              show (a :: r).length + 0 + 0 < 30
              omega
            rw [decide_eq_true this]
            rfl
        · cases eq
      · cases eq
    · split at eq
      · rename_i hc
        obtain ⟨c1, c2, c3, c4, c5⟩ := hc
        obtain ⟨pl, ht⟩ := meth_eval (o := ob) (m := mt) (apos := apos) (pos := cpos) (es := args) (env := X.env) c1 c2 c3 c4
        split at eq
        · rename_i e wo wa h1 h2 h3
          cases eq
          have hcool := o.cool (calmB_ok c5)
          obtain ⟨m1, rfl, m3⟩ := lookMt_ok h1
          have F := o.g.mt e m1
          have hpa := trAs_ok S o h3
          have hpo := S.e _ _ _ _ h2 X W o
          cases args with
          | nil =>
            cases h3
            rw [show e.n = 0 from m3] at F ⊢
            exact up_meth0 F hcool.2 o.tk hpo ht
          | cons a r =>
            rw [List.all_cons, Bool.and_eq_true] at c4
            exact up_meth F hcool.2 o.tk hpo hpa (star_cons c4.1) (star_any c4.2) ht
        · cases eq
      · cases eq
  · -- a comprehension
    split at eq
    · rename_i elt x p iter ifs scope pos _ _ i hx hcm
      have := calmB_ok hcm
      subst this
      split at eq
      · rename_i hc
        split at eq
        · rename_i h1 h2 h3
          cases eq
          obtain ⟨q1, q2, q3, q4, q5, q6, q7⟩ := up_comp (p := p) (m := m) S o hx hc.1 hc.2.1 hc.2.2 h1 h2 h3
          exact PE.imp (pe_lc (o.cool rfl).1 o.nd q2 q3 q4 q5 q6 q7) q1
        · cases eq
      · cases eq
    · rename_i elt x p iter ifs scope pos _ _ i hx hcm
      cases h with
      | none => cases hcm
      | some q =>
        obtain ⟨a, ca, dx⟩ := q
        split at eq
        · rename_i hc
          split at eq
          · rename_i h1 h2 h3
            cases eq
            exact up_compH (p := p) (m := m) hc.1 S o hx hc.2.1 hc.2.2.1 hc.2.2.2 h1 h2 h3
          · cases eq
        · cases eq
    · cases eq
  · -- a comprehension over several names
    split at eq
    · rename_i elt es kk tp iter ifs scope pos _ _ own hx hcm
      have := calmB_ok hcm
      subst this
      split at eq
      · rename_i hc
        split at eq
        · rename_i h1 h2 h3
          cases eq
          rename_i wi wt we
          have he : ∀ (s : Shared) (H : Hp) (A : Addr) (cl : List (Str × Addr)) (fp : List Addr), PE (X.blk s H scope (compEnvC scope cl A X.env) fp) elt (upE X.K C WNo we) := fun s H A cl fp => S.e _ _ _ _ h3 _ _ o.blk
          have ht : ∀ (s : Shared) (H : Hp) (A : Addr) (cl : List (Str × Addr)) (fp : List Addr), PTs (X.blk s H scope (compEnvC scope cl A X.env) fp) ifs (upT X.K C WNo wt) := fun s H A cl fp => trIf_ok S o.blk h2
          have hg : ∀ (s : Shared) (H : Hp) (A : Addr) (cl : List (Str × Addr)) (fp : List Addr), PG (X.blk s H scope (compEnvC scope cl A X.env) fp) (.Tuple es kk tp) (gTup X.K (own.map (·.2)).length (gNames (own.map (·.2)))) := fun s H A cl fp => by
            obtain ⟨q1, q2, q3⟩ := namesC_ok o (s := s) (H := H) (A := A) (cl := cl) (fp := fp) hx
            exact pg_tup ((o.blk (s := s) (H := H) (scope := scope) (A := A) (cl := cl) (fp := fp)).cool rfl).1 q1 q2 q3
          have hi := trI_ok S o (tg := .Tuple es kk tp) h1 (fun _ => ⟨_, _, _, rfl⟩)
          refine PE.imp (pe_lc (o.cool rfl).1 o.nd hi (by rw [o.eN, o.eS]; exact blkOk_by hc.1) hg ht he (plainSet_ok hc.2)) ?_
          · cases m with
            | true => exact up_lcM tgt_tup
            | false => exact up_lcF tgt_tup
        · cases eq
      · cases eq
    · cases eq
  · -- a dict comprehension
    split at eq
    · rename_i kx vx x p iter ifs scope pos _ _ i hx hcm
      have := calmB_ok hcm
      subst this
      split at eq
      · rename_i hc
        split at eq
        · rename_i h1 h2 h3 h4
          cases eq
          rename_i wi wt wk wv
          obtain ⟨q1, q2, q3, q4, q5, q6, q7⟩ := up_comp (p := p) (m := false) S o hx hc.1 hc.2.1 hc.2.2 h1 h2 h3
          have he : ∀ (s : Shared) (H : Hp) (A : Addr) (cl : List (Str × Addr)) (fp : List Addr), PE (X.blk s H scope (compEnvC scope cl A X.env) fp) vx (upE X.K C WNo wv) := fun s H A cl fp => S.e _ _ _ _ h4 _ _ o.blk
          refine PE.imp (pe_dc (o.cool rfl).1 o.nd q2 q3 q4 q5 q6 he q7) ?_
          · cases m with
            | true => exact up_dcM tgt_name
            | false => exact up_dcF tgt_name
        · cases eq
      · cases eq
    · cases eq
  · -- a dict comprehension over several names
    split at eq
    · rename_i kx vx es kk tp iter ifs scope pos _ _ own hx hcm
      have := calmB_ok hcm
      subst this
      split at eq
      · rename_i hc
        split at eq
        · rename_i h1 h2 h3 h4
          cases eq
          rename_i wi wt wk wv
          have hk : ∀ (s : Shared) (H : Hp) (A : Addr) (cl : List (Str × Addr)) (fp : List Addr), PE (X.blk s H scope (compEnvC scope cl A X.env) fp) kx (upE X.K C WNo wk) := fun s H A cl fp => S.e _ _ _ _ h3 _ _ o.blk
          have he : ∀ (s : Shared) (H : Hp) (A : Addr) (cl : List (Str × Addr)) (fp : List Addr), PE (X.blk s H scope (compEnvC scope cl A X.env) fp) vx (upE X.K C WNo wv) := fun s H A cl fp => S.e _ _ _ _ h4 _ _ o.blk
          have ht : ∀ (s : Shared) (H : Hp) (A : Addr) (cl : List (Str × Addr)) (fp : List Addr), PTs (X.blk s H scope (compEnvC scope cl A X.env) fp) ifs (upT X.K C WNo wt) := fun s H A cl fp => trIf_ok S o.blk h2
          have hg : ∀ (s : Shared) (H : Hp) (A : Addr) (cl : List (Str × Addr)) (fp : List Addr), PG (X.blk s H scope (compEnvC scope cl A X.env) fp) (.Tuple es kk tp) (gTup X.K (own.map (·.2)).length (gNames (own.map (·.2)))) := fun s H A cl fp => by
            obtain ⟨q1, q2, q3⟩ := namesC_ok o (s := s) (H := H) (A := A) (cl := cl) (fp := fp) hx
            exact pg_tup ((o.blk (s := s) (H := H) (scope := scope) (A := A) (cl := cl) (fp := fp)).cool rfl).1 q1 q2 q3
          have hi := trI_ok S o (tg := .Tuple es kk tp) h1 (fun _ => ⟨_, _, _, rfl⟩)
          refine PE.imp (pe_dc (o.cool rfl).1 o.nd hi (by rw [o.eN, o.eS]; exact blkOk_by hc.1) hg ht hk he (plainSet_ok hc.2)) ?_
          · cases m with
            | true => exact up_dcM tgt_tup
            | false => exact up_dcF tgt_tup
        · cases eq
      · cases eq
    · cases eq
  · cases eq
theorem stepT_ok (S : Snd C k G N h R) : ∀ sc e w, stepT R sc e = some w → ∀ X W, XO C k G N h sc X W → PT X e (upT X.K C W w) := by
  intro sc e w eq X W o
  unfold stepT at eq
  split at eq
  · obtain ⟨d, h1, rfl⟩ := map_some eq
    exact upT_not (S.t _ _ _ h1 X W o)
  · exact (trBT_ok S o eq).pt
  · split at eq
    · rename_i h1 h2 h3 h4
      cases eq
      exact upT_cmp (cmpG_ok o.hu h1) (S.e _ _ _ _ h2 X W o) (S.e _ _ _ _ h3 X W o) h4
    · cases eq
  · split at eq
    · rename_i h1 h2 h3 h4 h5 h6
      cases eq
      exact upT_chain (cmpG_ok o.hu h1) (cmpG_ok o.hu h2) (S.e _ _ _ _ h3 X W o) (S.e _ _ _ _ h4 X W o) (S.e _ _ _ _ h5 X W o) h6
    · cases eq
  · split at eq
    · rename_i hp
      obtain ⟨d, h1, rfl⟩ := map_some eq
      exact upT_tru (S.e _ _ _ _ h1 X W o) (plainT_ok hp)
    · cases eq
theorem trN_ok : ∀ n, Snd C k G N h (trN G N h n)
  | 0 => ⟨fun _ _ _ _ e => (by cases e), fun _ _ _ e => (by cases e)⟩
  | n + 1 => ⟨stepE_ok (trN_ok n), stepT_ok (trN_ok n)⟩
end
end T2

set_option maxRecDepth 100000
set_option maxHeartbeats 4000000
namespace T2
open PySem PySem.Spec PyProof.Rows L2
/-! ### statements, from the syntax -/
def locC (sc : Scope) (x : Str) : Bool := match sc.names.lookup x with
  | some .local => true
  | some .cell => true
  | _ => false
theorem locC_ok {sc : Scope} {x : Str} (h : locC sc x = true) : Loc sc x := by
  unfold locC at h
  split at h
  · exact .inl (by assumption)
  · exact .inr (by assumption)
  · cases h
def cellB (sc : Scope) (x : Str) : Bool := match sc.names.lookup x with
  | some .cell => true
  | _ => false
theorem cellB_ok {sc : Scope} {x : Str} (h : cellB sc x = true) : sc.names.lookup x = some .cell := by
  unfold cellB at h
  split at h
  · assumption
  · cases h
theorem sw_cell {elt : Expr} {gs : List Comprehension} {scope : Scope} {pos py : Pos} {y : Str} {l : Nat} {env : PySem.Env} (hy : env.scope.names.lookup y = some .cell) : swapsWith (.ListComp elt gs scope pos) (some (.Name y py)) l env = pure false := by
  have ky : env.kindOf y = some .cell := hy
  have e : (some NameKind.cell == some NameKind.local) = false := by decide
  unfold swapsWith
  simp only [ky, e, Bool.and_false, Bool.false_and]
def namesT (N : List Str) (sc : Scope) : List Expr → Option (List Nat)
  | [] => some []
  | .Name x _ :: r => match slotOf x N, locC sc x, namesT N sc r with
    | some i, true, some is => some (i :: is)
    | _, _, _ => none
  | _ => none
def trG (N : List Str) (sc : Scope) : Expr → Option WG
  | .Name x _ => match slotOf x N, locC sc x with
    | some i, true => some (wgName i)
    | _, _ => none
  | .Tuple es _ _ => (namesT N sc es).map wgT
  | _ => none
def noCap (scope : Scope) (y : Str) : Bool := !(scope.names.any fun (n, k) => n == y && (k == .local || k == .cell))
def kfB (sc : Scope) : Bool := match sc.kind with
  | .function => true
  | _ => false
/-- x[i] = e: what e hands out may change -/
def subN : Expr → Str
  | .Name x _ => "@" ++ x
  | _ => "@"
/-- .. if it is a display -/
def isDisp : Expr → Bool
  | .List .. => true
  | .Dict .. => true
  | .ListComp .. => true
  | .DictComp .. => true
  | _ => false
/-- a display to be a dict with tuples as keys -/
def trTk : Expr → Option WE
  | .Dict [] [] _ => some wDict0T
  | _ => none
section
variable (G : Gam) (N : List Str) (sc : Scope) (mv : List Str) (mr : Bool) (D0 : Nat)
def trH (S : Hot → List Stmt → Option WS) : List ExceptHandler → Option (List ClD)
  | [] => some []
  | .ExceptHandler (some (.Name x _)) (some n) (b0 :: suite) _ :: r => match lookN x G.subs, okName x, glB sc x, slotOf n N, locB sc n, trH S r with
    | some is, true, true, some i, true, some l => some ((is, i, fun a ca dx => (S (some (a, ca, dx)) (b0 :: suite)).getD fun _ _ _ => False) :: l)
    | _, _, _, _, _, _ => none
  | _ => none
def stepS (S : Hot → List Stmt → Option WS) (h : Hot) : Stmt → Option WS
  | .Pass _ => some wNext
  | .Break _ => some wBreak
  | .Continue _ => some wCont
  | .Expr e _ => if plainSw e = true then ((trN G N h D0).e false sc e).map wDrop else none
  | .Return (some e) _ => ((trN G N h D0).e mr sc e).map wRet
  | .Return none _ => some wRetN
  | .If c b1 b2 _ => match (trN G N h D0).t sc c, S h b1, S h b2 with
    | some t, some w, some w2 => some (wIfS t w w2)
    | _, _, _ => none
  | .While c b [] _ => match (trN G N h D0).t sc c, S h b with
    | some t, some w => some (wWhile t w)
    | _, _ => none
  | .For tg iter b [] _ => match calmB h, plainSet iter, trG N sc tg, trI (trN G N h D0) sc (isTup tg) iter, S h b with
    | true, true, some g, some wi, some w => some (wFor wi g w)
    | _, _, _, _, _ => none
  | .Assign [.Name x px] (.ListComp elt [⟨.Name y p, iter, ifs, 0⟩] scope cpos) _ =>
    (match slotOf x N, slotOf y N, calmB h with
    | some i, some j, true =>
      if blkC N sc scope [(y, j)] = true ∧ plainSet iter = true ∧ (locB scope y = true ∨ scope.names.lookup y = some .cell) ∧ locB sc x = true ∧ (px.line == cpos.line) = true ∧ noCap scope x = true ∧ kfB sc = true then
        (match trI (trN G N h D0) sc false iter, trIf (trN G N h D0) (relS scope sc) ifs, (trN G N h D0).e false (relS scope sc) elt with
        | some wi, some wt, some we => some (wAsg i (if memB x mv = true then wLcM wi (wgName j) wt we else wLc wi (wgName j) wt we))
        | _, _, _ => none) else
      if cellB sc x = true then ((trN G N h D0).e (memB x mv) sc (.ListComp elt [⟨.Name y p, iter, ifs, 0⟩] scope cpos)).map (wAsg i) else none
    | _, _, _ => none)
  | .Assign [.Name x px] e _ => match slotOf x N, locC sc x, plainSw e, (if memB ("#" ++ x) mv = true then trTk e else if memB ("!" ++ x) mv = true then ((trN G N h D0).e true sc e).map wLk else (trN G N h D0).e (memB x mv) sc e) with
    | some i, true, true, some w => some (wAsg i w)
    | _, _, _, _ => none
  | .Assign [.Subscript o i _] e _ => match plainSw e, (trN G N h D0).e (memB (subN o) mv && isDisp e) sc e, (trN G N h D0).e false sc o, (trN G N h D0).e false sc i, i with
    | _, _, _, _, .Slice .. => none
    | true, some we, some wo, some wi, _ => some (wSet gSet wo wi we)
    | _, _, _, _, _ => none
  | .Assign [.Attribute o f _] e _ => if f ∈ G.ofl ∧ plainSw e = true then
      (match (if memB ("!" ++ f) mv = true then ((trN G N h D0).e true sc e).map wLk else (trN G N h D0).e (memB f mv) sc e), (trN G N h D0).e false sc o with
      | some we, some wo => some (wSetF f wo we)
      | _, _ => none) else none
  | .Assign [.Tuple es _ _] e _ => match e, calmB h, plainSw e, namesT N sc es, (trN G N h D0).e false sc e with
    | .Tuple .., _, _, _, _ => none
    | _, true, true, some is, some we => some (wAsgG (wgT is) we)
    | _, _, _, _, _ => none
  | .Raise (some (.Call (.Name x p) (a :: r) [] _)) none _ => match calmB h, lookN x G.raises, okName x, glB sc x, (a :: r).all notStar, trAs (trN G N h D0) sc (a :: r) with
    | true, some fs, true, true, true, some was => if fs.length ≤ 1000 ∧ fs ≠ [] then some (wRaise x fs was) else none
    | _, _, _, _, _, _ => none
  | .Try body [.ExceptHandler (some (.Name x np)) (some n) (b0 :: suite) _] [] [] _ => match h, lookN x G.subs, okName x, glB sc x, slotOf n N, locB sc n, S none body with
    | none, some is, true, true, some i, true, some w => some (wTry is i w fun a ca dx => (S (some (a, ca, dx)) (b0 :: suite)).getD fun _ _ _ => False)
    | _, _, _, _, _, _, _ => none
  | .Try body (h0 :: hds) [] [] _ => match h, trH G N sc S (h0 :: hds), S none body with
    | none, some cl, some w => some (wTryM cl w)
    | _, _, _ => none
  | _ => none
def trSN : Nat → Hot → List Stmt → Option WS
  | 0, _, _ => none
  | _ + 1, _, [] => some wNext
  | n + 1, h, [st] => stepS G N sc mv mr D0 (trSN n) h st
  | n + 1, h, st :: b :: r => match stepS G N sc mv mr D0 (trSN n) h st, trSN n h (b :: r) with
    | some w, some w2 => some (wSeq w w2)
    | _, _ => none
end
structure XSt (C : CT) (k : Nat) (G : Gam) (N : List Str) (h : Hot) (sc : Scope) (X : Cx) (W : WX) : Prop where
  o : XO C k G N h sc X W
  fn : ∀ x, X.fn x = true
  st : X.stack = X.env :: X.outer
  fr : X.env.frame = some X.env.locals
  po : PassesOwn (model X.prog X.w) X.A X.env X.xe
section
variable {C : CT} {k : Nat} {G : Gam} {N : List Str} {h : Hot} {sc : Scope} {X : Cx} {W : WX} {mv : List Str} {mr : Bool} {D0 : Nat}
theorem namesT_ok (hN : X.N.Nodup) (eN : X.N = N) (eS : X.env.scope = sc) (fn : ∀ x, X.fn x = true) : ∀ {es : List Expr} {is : List Nat}, namesT N sc es = some is →
    PGs X es (gNames is) ∧ (assignEach es X.env).length = is.length ∧ (assignEach es X.env).findIdx? (·.1) = none
  | [], is, e => by cases e; exact ⟨pgs_nil, rfl, rfl⟩
  | a :: r, is, e => by
    unfold namesT at e
    split at e
    · rename_i e0; cases e0
    · rename_i x p r' e0
      cases e0
      split at e
      · rename_i i is' h1 h2 h3
        cases e
        obtain ⟨q1, q2, q3⟩ := namesT_ok hN eN eS fn h3
        refine ⟨pgs_cons (pg_name hN (by rw [eN]; exact slotOf_ok h1) (by rw [eS]; exact locC_ok h2) (.inl (fn x))) q1 rfl, ?_, ?_⟩
        · show (assignEach r X.env).length + 1 = is'.length + 1
          rw [q2]
        · show ((false, assign (.Name x p) X.env) :: assignEach r X.env).findIdx? (·.1) = none
          rw [List.findIdx?_cons, q3]
          rfl
      · cases e
    · cases e
theorem up_gtup {tg : Expr} {is : List Nat} (h : PG X tg (gTup X.K is.length (gNames is))) : PG X tg (upG X.K C (wgT is)) := PG.imp h fun v σ H Q ⟨L, F, ρ, μ, d, Q0, rl, r, ⟨ds, e, hl, q⟩, uq⟩ => by
  subst e
  obtain ⟨a, xs, rfl, hq, rx⟩ := r.tup
  exact ⟨a, xs, rfl, rl.wd.sub.sqT hq, by rw [rx.len]; exact hl, gNames_ok (by rw [rx.len]; exact hl) (uq _ q _ (rl.setAll rx))⟩
theorem trG_ok (x : XSt C k G N none sc X W) {tg : Expr} {g : WG} (e : trG N sc tg = some g) : PG X tg (upG X.K C g) := by
  unfold trG at e
  split at e
  · split at e
    · rename_i i h1 h2
      cases e
      exact up_gname (pg_name x.o.nd (by rw [x.o.eN]; exact slotOf_ok h1) (by rw [x.o.eS]; exact locC_ok h2) (.inl (x.fn _)))
    · cases e
  · obtain ⟨is, h1, rfl⟩ := map_some e
    obtain ⟨q1, q2, q3⟩ := namesT_ok x.o.nd x.o.eN x.o.eS x.fn h1
    exact up_gtup (pg_tup (x.o.cool rfl).1 q1 q2 q3)
  · cases e
theorem isTup_ok {tg : Expr} (h : isTup tg = true) : ∃ elts kk tpos, tg = .Tuple elts kk tpos := by
  cases tg <;> first | exact ⟨_, _, _, rfl⟩ | cases h
theorem kfB_ok {sc : Scope} (h : kfB sc = true) : sc.kind = .function := by
  unfold kfB at h
  split at h
  · assumption
  · cases h
def SndS (C : CT) (k : Nat) (G : Gam) (N : List Str) (sc : Scope) (S : Hot → List Stmt → Option WS) : Prop := ∀ h sts w, S h sts = some w → ∀ X W, XSt C k G N h sc X W → PSs X sts (upS X.K C W w)
theorem XSt.tr (x : XSt C k G N none sc X W) {W' : WX} {pn : List (Addr × Obj)} {xe : Value → Shared → Prop} (tk : L2N.Takes (X.tr pn xe) W') (po : PassesOwn (model X.prog X.w) X.A X.env xe) : XSt C k G N none sc (X.tr pn xe) W' where
  o := ⟨x.o.g, x.o.eN, x.o.eS, x.o.nd, x.o.un, x.o.cool, fun _ _ _ e => (by cases e), tk⟩
  fn := x.fn
  st := x.st
  fr := x.fr
  po := po
theorem XSt.suite (x : XSt C k G N none sc X W) {a : Addr} {oe : Obj} {ca : Addr} {dx : Option Addr} {pn : List (Addr × Obj)} (hc : ∃ c, C.xcls c = some ca) (hz : L2N.Zn (.ref ca) dx oe) (hf : ∃ vs, oe.data = .fields vs) : XSt C k G N (some (a, ca, dx)) sc (X.suite a ((a, oe) :: pn)) WNo where
  o := ⟨x.o.g, x.o.eN, x.o.eS, x.o.nd, x.o.un, fun e => (by cases e), fun a' ca' dx' e => by
    cases e
    obtain ⟨c, hc⟩ := hc
    obtain ⟨h1, h2, h3⟩ := x.o.g.xc c ca hc
    exact ⟨oe, List.mem_cons_self, hz, hf, h2, rfl, L2H.roomH_mark (x.o.cool rfl).2 _, fun _ => ⟨⟨X, pn, rfl⟩, h1, h3⟩⟩, takesN⟩
  fn := x.fn
  st := x.st
  fr := x.fr
  po := PassesOwn.never
theorem swNone {t e : Expr} {env : PySem.Env} (h : ∀ es k p, e = .Tuple es k p → False) : swappedStores [t] e env = pure none := by
  cases e <;> first | (exact (h _ _ _ rfl).elim) | (cases t <;> rfl)
theorem soleSw {t e : Expr} {l : Nat} {env : PySem.Env} (h : plainSw e = true) : swapsWithSole [t] e l env = pure false := plainSw_ok h
theorem us_never {sts : List Stmt} : PSs X sts (upS X.K C W fun _ _ _ => False) := ⟨fun pins s σ H D I h => by obtain ⟨L, F, ρ, μ, k, rl, q, u⟩ := h; exact q.elim⟩
theorem names_ok (x : XSt C k G N h sc X W) {y : Str} {cv : V} {cu : Value} (m1 : (X.mg y = some cu) ∨ (X.mg y = none ∧ bootBuiltins y = some cu)) (hx : okName y = true) (hg : glB sc y = true) : Names X y cu := by
  refine ⟨glB_ok x.o.eS hg, (okName_ok hx).1, ?_⟩
  rcases m1 with m1 | ⟨m1, m1'⟩
  · exact .inl m1
  · exact .inr ⟨m1, m1', (okName_ok hx).2.2⟩
theorem trH_ok {S : Hot → List Stmt → Option WS} (hS : SndS C k G N sc S) (x : XSt C k G N none sc X W) : ∀ {hds : List ExceptHandler} {cl : List ClD}, trH G N sc S hds = some cl → HdD X C hds cl
  | [], cl, e => by cases e; exact .nil
  | .ExceptHandler (some (.Name y np)) (some n) (b0 :: suite) p :: r, cl, e => by
    unfold trH at e
    split at e
    · rename_i is i l h1 h2 h3 h4 h5 h6
      cases e
      obtain ⟨cv, cu, m1, m2, m3, m4⟩ := (x.o.g.sub _ (lookN_ok h1)).ex
      refine .cons (by rw [x.o.eN]; exact slotOf_ok h4) (by
        show X.env.scope.names.lookup _ = _
        rw [x.o.eS]; exact locB_ok h5) (names_ok x (cv := cv) m1 h2 h3) (fun c ca hc => (m4 c ca hc).2) (fun a oe ca dx pn hc hz hd => ?_) (trH_ok hS x h6)
      obtain ⟨c, hc, _⟩ := hc
      cases e : S (some (a, ca, dx)) (b0 :: suite) with
      | none => exact us_never
      | some w' => exact hS _ _ _ e _ _ (x.suite ⟨c, hc⟩ hz hd)
    · cases e
theorem lk_ok {b : Bool} {m : Bool} {e : Expr} {we : WE} (T : Snd C k G N h (trN G N h D0)) (o : XO C k G N h sc X W) (eq : (if b = true then ((trN G N h D0).e true sc e).map wLk else (trN G N h D0).e m sc e) = some we) : PE X e (upE X.K C W we) := by
  split at eq
  · obtain ⟨w0, h1, rfl⟩ := map_some eq
    exact up_lk (T.e _ _ _ _ h1 X W o)
  · exact T.e _ _ _ _ eq X W o
theorem tk_ok {b b2 : Bool} {m : Bool} {e : Expr} {we : WE} (T : Snd C k G N h (trN G N h D0)) (o : XO C k G N h sc X W) (eq : (if b = true then trTk e else if b2 = true then ((trN G N h D0).e true sc e).map wLk else (trN G N h D0).e m sc e) = some we) : PE X e (upE X.K C W we) := by
  split at eq
  · unfold trTk at eq
    split at eq
    · cases eq
      exact up_dict0T
    · cases eq
  · exact lk_ok T o eq
theorem stepS_ok {S : Hot → List Stmt → Option WS} (hS : SndS C k G N sc S) {st : Stmt} {w : WS} (eq : stepS G N sc mv mr D0 S h st = some w) (x : XSt C k G N h sc X W) : PS X st (upS X.K C W w) := by
  have T := trN_ok (C := C) (k := k) (G := G) (N := N) (h := h) D0
  have o := x.o
  unfold stepS at eq
  split at eq
  · cases eq; exact us_pass
  · cases eq; exact us_break
  · cases eq; exact us_cont
  · split at eq
    · rename_i hp
      obtain ⟨we, h1, rfl⟩ := map_some eq
      exact us_expr (T.e _ _ _ _ h1 X W o) (plainSw_ok hp)
    · cases eq
  · obtain ⟨we, h1, rfl⟩ := map_some eq
    exact us_ret (T.e _ _ _ _ h1 X W o)
  · cases eq; exact us_retN
  · split at eq
    · rename_i h1 h2 h3
      cases eq
      exact us_if (T.t _ _ _ h1 X W o) (hS _ _ _ h2 X W x) (hS _ _ _ h3 X W x)
    · cases eq
  · split at eq
    · rename_i h1 h2
      cases eq
      exact us_while x.po (T.t _ _ _ h1 X W o) (hS _ _ _ h2 X W x)
    · cases eq
  · split at eq
    · rename_i hcm hp hg hi hb
      cases eq
      have := calmB_ok hcm
      subst this
      exact us_for x.po (o.cool rfl).1 (trI_ok T o hi isTup_ok) (trG_ok x hg) (hS _ _ _ hb X W x) (plainSet_ok hp)
    · cases eq
  · -- name = a comprehension
    split at eq
    · rename_i hx hy hcm
      have := calmB_ok hcm
      subst this
      split at eq
      · rename_i hc
        obtain ⟨c1, c2, c3, c4, c5, c6, c7⟩ := hc
        split at eq
        · rename_i h1 h2 h3
          cases eq
          obtain ⟨q1, q2, q3, q4, q5, q6, q7⟩ := up_comp (m := memB _ mv) T o hy c1 c2 c3 h1 h2 h3
          have hl := locB_ok c4
          have hN := slotOf_ok hx
          refine us_asg0 (PS.imp (ps_setLc (o.cool rfl).1 o.nd (by rw [o.eN]; exact hN) (by rw [o.eS]; exact hl) (sw_true (by rw [o.eS]; exact kfB_ok c7) (by rw [o.eS]; exact hl) c5 (by
            unfold noCap at c6
            rw [Bool.not_eq_true'] at c6
            exact c6)) q2 q3 q4 q5 q6 q7) fun B σ H hh => q1 σ H _ hh)
        · cases eq
      · split at eq
        · rename_i hcell
          obtain ⟨we, h1, rfl⟩ := map_some eq
          have hcl := cellB_ok hcell
          exact us_asg0 (ps_set o.nd (by rw [o.eN]; exact slotOf_ok hx) (by rw [o.eS]; exact .inr hcl) (T.e _ _ _ _ h1 X W o) (sw_cell (by rw [o.eS]; exact hcl)) (.inl (x.fn _)))
        · cases eq
    · cases eq
  · split at eq
    · rename_i h1 h2 h3 h4
      cases eq
      exact us_asg0 (ps_set o.nd (by rw [o.eN]; exact slotOf_ok h1) (by rw [o.eS]; exact locC_ok h2) (tk_ok T o h4) (plainSw_ok h3) (.inl (x.fn _)))
    · cases eq
  · -- o[i] = e
    split at eq
    · cases eq
    · rename_i h1 h2 h3 h4 h5
      cases eq
      obtain ⟨t, g1, g2⟩ := setd (X := X) (C := C) o.hu
      have e0 := T.e _ _ _ _ h2 X W o
      have e1 := T.e _ _ _ _ h3 X W o
      have e2 := T.e _ _ _ _ h5 X W o
      refine us_set0 g2 (ps_asg e0 (pg_sub e1 e2 g1 (fun v => ?_)) (soleSw h1) rfl rfl)
      unfold assign
      split
      · exact (h4 _ _ _ _ rfl).elim
      · rfl
    · cases eq
  · -- o.f = e
    split at eq
    · rename_i hc
      split at eq
      · rename_i h1 h2
        cases eq
        have h3 : PE X _ (upE X.K C W _) := lk_ok T o h1
        exact us_fld (fun c ca hcx => ⟨(o.g.oc c ca hcx).1, (o.g.oc c ca hcx).2 _ hc.1⟩) (T.e _ _ _ _ h2 X W o) h3 (plainSw_ok hc.2)
      · cases eq
    · cases eq
  · -- a, b = e
    split at eq
    · cases eq
    · rename_i hnt hcm h1 h2 h3
      cases eq
      have := calmB_ok hcm
      subst this
      obtain ⟨q1, q2, q3⟩ := namesT_ok o.nd o.eN o.eS x.fn h1
      refine us_asgG (ps_asg (T.e _ _ _ _ h3 X W o) (up_gtup (pg_tup (o.cool rfl).1 q1 q2 q3)) (soleSw h2) (swNone hnt) rfl)
    · cases eq
  · -- raise
    split at eq
    · rename_i hcm h1 h2 h3 h4 h5
      have := calmB_ok hcm
      subst this
      split at eq
      · rename_i hc
        cases eq
        obtain ⟨j, hj, M⟩ := o.g.rs _ (lookN_ok h1)
        have hst := h4
        rw [List.all_cons, Bool.and_eq_true] at hst
        exact us_raise M hc ((o.cool rfl).2.mono hj) (o.cool rfl).1 o.tk (glB_ok o.eS h3) (trAs_ok T o h5) (okName_ok h2).1 (star_cons hst.1) (star_any hst.2)
      · cases eq
    · cases eq
  · -- try
    split at eq
    · rename_i h1 h2 h3 h4 h5 h6
      cases eq
      obtain ⟨cv, cu, m1, m2, m3, m4⟩ := (o.g.sub _ (lookN_ok h1)).ex
      refine us_try (cu := cu) x.st x.fr o.nd (by rw [o.eN]; exact slotOf_ok h4) (by
        show X.env.scope.names.lookup _ = _
        rw [o.eS]; exact locB_ok h5) ⟨glB_ok o.eS h3, (okName_ok h2).1, ?_⟩ o.tk (fun c ca hc => (m4 c ca hc).2) (fun W' pn xe tk po => hS _ _ _ h6 _ _ (x.tr tk po)) fun a oe ca dx pn hc hz hd => ?_
      · rcases m1 with m1 | ⟨m1, m1'⟩
        · exact .inl m1
        · exact .inr ⟨m1, m1', (okName_ok h2).2.2⟩
      · obtain ⟨c, hc, _⟩ := hc
        cases e : S (some (a, ca, dx)) (_ :: _) with
        | none => exact us_never
        | some w' => exact hS _ _ _ e _ _ (x.suite ⟨c, hc⟩ hz hd)
    · cases eq
  · split at eq
    · rename_i h1 h2
      cases eq
      exact us_tryM x.st x.fr o.nd o.tk (fun W' pn xe tk po => hS _ _ _ h2 _ _ (x.tr tk po)) (trH_ok hS x h1)
    · cases eq
  · cases eq
theorem trSN_ok : ∀ n, SndS C k G N sc (trSN G N sc mv mr D0 n)
  | 0 => fun h sts w e => by cases e
  | n + 1 => fun h sts w e X W x => by
    unfold trSN at e
    split at e
    · cases e
    · cases e; exact us_nil
    · exact pss_one (stepS_ok (trSN_ok _) e x)
    · split at e
      · rename_i h1 h2
        cases e
        exact us_cons (stepS_ok (trSN_ok _) h1 x) (trSN_ok _ _ _ _ h2 X W x)
      · cases e
end
end T2

set_option maxRecDepth 100000
set_option maxHeartbeats 4000000
namespace T2
open PySem PySem.Spec PyProof.Rows L2
/-! ### a def of the text -/
def startD (N : List Str) (ds : List D) : Env := ds.map some ++ List.replicate (N.length - ds.length) none
def endK (Q : PQ) (E : PX) : KS := { nx := fun _ μ => Q .non μ, rt := Q, bk := fun _ _ => False, ct := fun _ _ => False, ex := fun _ => E }
theorem start_rl {K : PySem.W.Frag} {C : CT} {L F H : Hp} {μ : Mu} {N : List Str} {ds : List D} {vs : List V} (w : Wd K C L F μ H) (r : RepL K C F ds vs) : Rl K C L F (startD N ds) μ (L2.start N vs) H where
  wd := w
  len := by
    unfold startD L2.start
    rw [List.length_append, List.length_append, List.length_map, List.length_map, List.length_replicate, List.length_replicate, r.len]
  env := fun i d e => by
    unfold startD at e
    unfold L2.start
    by_cases hi : i < ds.length
    · rw [List.getElem?_append_left (by rw [List.length_map]; exact hi), List.getElem?_map] at e
      rw [List.getElem?_append_left (by rw [List.length_map, r.len]; exact hi), List.getElem?_map]
      cases q : ds[i]? with
      | none => rw [q] at e; cases e
      | some d' =>
        rw [q] at e
        cases e
        obtain ⟨v, h1, h2⟩ := r.at q
        exact ⟨v, by rw [h1]; rfl, h2⟩
    · rw [List.getElem?_append_right (by rw [List.length_map]; omega), List.getElem?_replicate] at e
      split at e <;> cases e
section
variable {P : Program} {w : World} {K : PySem.W.Frag} {mg : Str → Option Value} {base : Heap} {C : CT} {k : Nat} {G : Gam} {N ps : List Str} {x nm qual : Str} {params : Arguments} {body : List Stmt} {scope : Scope} {dvs : List V} {kws : List (Str × V)} {f : Addr} {fd : FuncData} {sp : SpD} {mv : List Str} {mr : Bool} {D0 n : Nat} {wr : WS}
theorem fnOk (F : FunD K nm qual params body scope dvs kws f fd) (S : FnScope N ps scope) (g : GamOk P w K mg base C k G) (ht : trSN G N scope mv mr D0 n none body = some wr)
    (len : ∀ ds μ Q E, sp ds μ Q E → ds.length = ps.length) (h : ∀ ds μ Q E, sp ds μ Q E → wr (endK Q E) (startD N ds) μ) : FnOk P w K mg base (L2N.CX P w) (k + 1) f fd ps (liftSp K C sp) := by
  refine F.ok S (fun vs H Q E hs => ?_) fun cdv A outer s H vs Q E hr hs => ⟨upS K C (fun cls d _ H => E cls d H) wr, ?_, ?_⟩
  · obtain ⟨L, F0, μ, ds, Q0, E0, r, wd, q, _⟩ := hs
    rw [r.len]
    exact len _ _ _ _ q
  · have X : XSt C k G N none scope (cxOf (L2N.CX P w) P w K mg base N qual scope f cdv A outer s H E) (fun cls d _ H => E cls d H) := {
      o := ⟨g, rfl, rfl, S.nd, by
        have := hr.un
        show (A.deeper (envOfC qual scope s.heap.objs.size f cdv)).units + 65 < cLine
        omega, fun _ => ⟨rfl, hr⟩, fun _ _ _ e => (by cases e), L2N.takes_of rfl rfl rfl rfl⟩
      fn := fun _ => rfl
      st := rfl
      fr := rfl
      po := passes_of rfl }
    exact trSN_ok n none body wr ht _ _ X
  · obtain ⟨L, F0, μ, ds, Q0, E0, r, wd, q, uq, ux⟩ := hs
    refine ⟨L, F0, startD N ds, μ, endK Q0 E0, start_rl wd r, h _ _ _ _ q, ?_⟩
    exact ⟨fun ρ' μ' q F' σ' H' s rl => uq _ _ q F' H' _ s rl.wd .ofNon, fun _ _ q => q.elim, fun _ _ q => q.elim, fun d μ' q F' H' v s w r => uq _ _ q F' H' v s w r, fun c fs ρ' μ' q F' σ' H' cls dx s rl x => ux c fs μ' q F' H' cls dx s rl.wd x⟩
/-- called with every parameter given -/
theorem FnAt.of (hm : mg x = some (.ref f)) (hk : PySem.W.keepIn K (.ref f) = true) (hb : Binds K fd ps []) (F : FnOk P w K mg base (L2N.CX P w) k f fd ps (liftSp K C sp)) : FnAt P w K mg base C k x ps.length [] sp :=
  ⟨f, hm, hk, fun A outer s H us ws vs zs Q E hr e0 hK r rz h1 h2 hs => by
    cases zs with
    | cons => cases h2
    | nil =>
      cases rz
      rw [List.append_nil] at hs
      have := hb s us hK (by rw [List.append_nil, ← r.length]; exact h1)
      rw [List.append_nil] at this
      exact F.run A outer s H _ us vs Q E hr e0 this r hs⟩
/-- called with some of the parameters, by position and by name -/
theorem FnAt.ofK {m : Nat} {ks : List Str} {gv : List Value → List Value → List Value} {gV : List V → List V → List V} {gD : List D → List D} (hm : mg x = some (.ref f)) (hk : PySem.W.keepIn K (.ref f) = true) (hb : KBn K fd ps m ks gv gV)
    (hg : ∀ F ds vs zs, vs.length = m → zs.length = ks.length → RepL K C F ds (vs ++ zs) → RepL K C F (gD ds) (gV vs zs)) (F : FnOk P w K mg base (L2N.CX P w) k f fd ps (liftSp K C sp)) :
    FnAt P w K mg base C k x m ks (fun ds μ Q E => sp (gD ds) μ Q E) :=
  ⟨f, hm, hk, fun A outer s H us ws vs zs Q E hr e0 hK r rz h1 h2 hs => by
    obtain ⟨L, F0, μ, ds, Q0, E0, rl, wd, q, uq, ux⟩ := hs
    exact F.run A outer s H _ _ _ Q E hr e0 (hb.to s us ws hK (by rw [← r.length]; exact h1) (by rw [← rz.length]; exact h2)) (hb.rel r rz) ⟨L, F0, μ, _, Q0, E0, hg F0 ds vs zs h1 h2 rl, wd, q, uq, ux⟩⟩
/-- .. its defaults ds behind -/
theorem FnAt.ofD {m : Nat} {dds : List V} {us0 : List Value} {des : List D} (hm : mg x = some (.ref f)) (hk : PySem.W.keepIn K (.ref f) = true) (hv : Vals dds us0) (hb : Binds K fd ps us0) (hn : m + us0.length = ps.length)
    (hg : ∀ F, RepL K C F des dds) (F : FnOk P w K mg base (L2N.CX P w) k f fd ps (liftSp K C sp)) : FnAt P w K mg base C k x m [] (fun ds μ Q E => sp (ds ++ des) μ Q E) :=
  ⟨f, hm, hk, fun A outer s H us ws vs zs Q E hr e0 hK r rz h1 h2 hs => by
    cases zs with
    | cons => cases h2
    | nil =>
      cases rz
      rw [List.append_nil] at hs
      obtain ⟨L, F0, μ, ds, Q0, E0, rl, wd, q, uq, ux⟩ := hs
      exact F.run A outer s H _ _ _ Q E hr e0 (hb s us hK (by rw [List.length_append, ← r.length, h1]; exact hn)) (r.append hv) ⟨L, F0, μ, _, Q0, E0, rl.append (hg F0), wd, q, uq, ux⟩⟩
/-- nobody may call it -/
theorem FnAt.no {ks : List Str} (hm : mg x = some (.ref f)) (hk : PySem.W.keepIn K (.ref f) = true) : FnAt P w K mg base C k x n ks (fun _ _ _ _ => False) :=
  ⟨f, hm, hk, fun A outer s H us ws vs zs Q E hr e0 hK r rz h1 h2 hs => by
    obtain ⟨L, F0, μ, ds, Q0, E0, rl, wd, q, uq, ux⟩ := hs
    exact q.elim⟩
/-- a method: the object, then every parameter -/
theorem RunAt.of {f : Addr} {fd : FuncData} (hb : Binds K fd ps []) (F : FnOk P w K mg base (L2N.CX P w) k f fd ps (liftSp K C sp)) : RunAt P w K mg base C k f ps.length [] sp :=
  fun A outer s H us ws vs zs Q E hr e0 hK r rz h1 h2 hs => by
    cases zs with
    | cons => cases h2
    | nil =>
      cases rz
      rw [List.append_nil] at hs
      have hl : us.length = ps.length := by rw [← r.length]; exact h1
      have b := hb s us hK (by rw [List.append_nil]; exact hl)
      rw [List.append_nil] at b
      exact F.run A outer s H ⟨us, []⟩ us vs Q E hr e0 b r hs
theorem MethAt.of {c m : Str} {ca f : Addr} {fd : FuncData} (hc : C.cls c = some ca) (hcl : Cls K ca) (hm : Meth K ca m f) (hb : Binds K fd ps []) (hn : ps.length = n + 1) (F : FnOk P w K mg base (L2N.CX P w) k f fd ps (liftSp K C sp)) : MethAt P w K mg base C k c m n sp :=
  ⟨ca, f, hc, hcl, hm, hn ▸ RunAt.of hb F⟩
theorem PropAt.of {c x : Str} {ca p g : Addr} {fd : FuncData} (hc : C.cls c = some ca) (hcl : Cls K ca) (hp : PropOf K ca x p g) (hb : Binds K fd ps []) (hn : ps.length = 1) (F : FnOk P w K mg base (L2N.CX P w) k g fd ps (liftSp K C sp)) : PropAt P w K mg base C k c x sp :=
  ⟨ca, p, g, hc, hcl, hp, hn ▸ RunAt.of hb F⟩
theorem MakeAt.of {c : Str} {ca f : Addr} {fd : FuncData} (hg : mg c = some (.ref ca)) (hc : C.cls c = some ca) (M : Mk K ca f) (hb : Binds K fd ps []) (hn : ps.length = n + 1) (F : FnOk P w K mg base (L2N.CX P w) k f fd ps (liftSp K C sp)) : MakeAt P w K mg base C k c n sp :=
  ⟨ca, f, hg, hc, M, hn ▸ RunAt.of hb F⟩
theorem FnAt.imp {ks : List Str} {sp' : SpD} (h : FnAt P w K mg base C k x n ks sp) (i : ∀ ds μ Q E, sp' ds μ Q E → sp ds μ Q E) : FnAt P w K mg base C k x n ks sp' := by
  obtain ⟨f, h1, h2, h3⟩ := h.ex
  refine ⟨f, h1, h2, fun A outer s H us ws vs zs Q E hr e0 hK r rz l1 l2 hs => ?_⟩
  obtain ⟨L, F0, μ, ds, Q0, E0, rl, wd, q, uq, ux⟩ := hs
  exact h3 A outer s H us ws vs zs Q E hr e0 hK r rz l1 l2 ⟨L, F0, μ, ds, Q0, E0, rl, wd, i _ _ _ _ q, uq, ux⟩
theorem GamOk.mono {j : Nat} (g : GamOk P w K mg base C j G) (h : j ≤ k) : GamOk P w K mg base C k G :=
  ⟨fun e he => (g.fn e he).mono h, g.con, g.free, fun q hq => by obtain ⟨i, hi, M⟩ := g.rs q hq; exact ⟨i, Nat.le_trans hi h, M⟩, g.sub, g.xc,
    fun e he => (g.mt e he).mono h, fun e he => by obtain ⟨i, hi, M⟩ := g.pr e he; exact ⟨i, Nat.le_trans hi h, M⟩, fun e he => by obtain ⟨i, hi, M⟩ := g.mke e he; exact ⟨i, Nat.le_trans hi h, M⟩, g.oc, fun q hq => by obtain ⟨i, hi, M⟩ := g.hx q hq; exact ⟨i, Nat.le_trans hi h, M⟩⟩
/-- a def that is handed the caught exception, walked while it is handled -/
theorem fnX {wx : Addr → Addr → Option Addr → WS} {p1 : Str} {spx : SpX} (F : FunD K nm qual params body scope dvs kws f fd) (S : FnScope N [p1] scope) (hb : Binds K fd [p1] []) (hm : mg x = some (.ref f)) (g : GamOk P w K mg base C k G) (hfl : G.flds = [])
    (ht : ∀ a ca dx, trSN G N scope mv mr D0 n (some (a, ca, dx)) body = some (wx a ca dx)) (h : ∀ a ca dx c fs μ Q, spx c fs μ Q → wx a ca dx (endK Q fun _ _ _ => False) (startD N [.exc a ca dx c fs]) μ) : FnX P w K mg base C (k + 1) x spx := by
  refine ⟨f, hm, F.kp, fun A outer s H Q E p ca dx c fs L F0 μ Q0 hr hot hpin hz e0 hK rp wd hs uq => ?_⟩
  obtain ⟨oc, od, dV, kV, doc, pm, an, cdv, ct, osl, rfl, lk, hcd, _, _⟩ := F.ex
  have b := hb s [.ref p.1] hK rfl
  have lim : s.heap.NoLimit := e0.mod.nolimit.keeps fun b o e => (e0.bs b o e).1
  have hkind : ∀ y ∈ [p1].zip [Value.ref p.1], scope.names.lookup y.1 = some .local ∨ (scope.names.lookup y.1 = some .cell ∧ ((cellsFrom (s.heap.objs.size + 1) scope.names []).lookup y.1).isSome = true) := fun ⟨n, v⟩ hy => by
    rcases S.par n (List.of_mem_zip hy).1 with q | q
    · exact .inl q
    · exact .inr ⟨q, PySem.W.cellsFrom_some _ _ _ (.inl q)⟩
  refine codeAny_call_function hr.depth (hK _ _ lk) rfl S.co S.gen rfl (PySem.W.codeRec_of hK hcd) (b _ _ _ _ ?_)
  refine wpAny_newFunctionEnv_cells S.kind hkind fun env he s1 x => ?_
  subst he
  refine ⟨lim.keeps x.toInCall.keep, codeAny_func ?_⟩
  have I : Inv (L2H.cxH (L2N.CX P w) P w K mg base N qual scope f cdv A outer s H E p) [] (L2.start N [.ref p.1]) H s1 := L2H.inv_startH S hpin e0 rfl (.cons rfl .nil) x
  have hr' := hr.deeper (envOfC qual scope s.heap.objs.size f cdv)
  have X : XSt C k G N (some (p.1, ca, dx)) scope (L2H.cxH (L2N.CX P w) P w K mg base N qual scope f cdv A outer s H E p) (fun cls d _ H => E cls d H) := {
    o := ⟨g, rfl, rfl, S.nd, by
      have := hr'.un
      show (A.deeper (envOfC qual scope s.heap.objs.size f cdv)).units + 65 < cLine
      omega, fun e => (by cases e), fun a' ca' dx' e => by
        cases e
        exact ⟨p.2, List.mem_singleton.mpr rfl, hz, hot.2.imp fun _ z => z.1, (g.xc c ca rp.exc.2.1).2.1, hot.1, hr', fun z => absurd hfl z⟩, L2N.takes_of rfl rfl rfl rfl⟩
    fn := fun _ => rfl
    st := rfl
    fr := rfl
    po := passes_of rfl }
  have ht' := trSN_ok n (some (p.1, ca, dx)) body (wx p.1 ca dx) (ht p.1 ca dx) _ _ X
  refine wpAny_mono (ht'.run [] s1 (L2.start N [.ref p.1]) H { nx := fun _ H' => Q .non H', rt := Q } I ⟨L, F0, startD N [.exc p.1 ca dx c fs], μ, endK Q0 fun _ _ _ => False, start_rl wd (.cons rp .nil), h _ _ _ _ _ _ _ hs, ?_⟩) (fun fl s' hs => ?_) fun e s' hs => hs
  · exact ⟨fun ρ' μ' q F' σ' H' s rl => uq _ _ q F' H' _ s rl.wd .ofNon, fun _ _ q => q.elim, fun _ _ q => q.elim, fun d μ' q F' H' v s w r => uq _ _ q F' H' v s w r, fun _ _ _ _ q => q.elim⟩
  · have fin : ∀ {σ' : St} {H' : Hp} {v : V} {u : Value}, Inv (L2H.cxH (L2N.CX P w) P w K mg base N qual scope f cdv A outer s H E p) [] σ' H' s' → RelV v u → Q v H' → CE outer P w H s Q u s' :=
      fun {σ' H' v u} J rv q => ⟨v, H', J.os, J.bare, J.base, J.hok, rv, q⟩
    cases fl with
    | ret u =>
      obtain ⟨v, σ', H', J, rv, q⟩ := hs
      exact fin J rv q
    | next =>
      obtain ⟨σ', H', J, q⟩ := hs
      exact fin (v := V.non) (u := Value.none) J rfl q
    | brk =>
      obtain ⟨_, _, _, q⟩ := hs
      exact False.elim q
    | cont =>
      obtain ⟨_, _, _, q⟩ := hs
      exact False.elim q
end
end T2

set_option maxRecDepth 100000
set_option maxHeartbeats 4000000
/-! what a def hands out may be told as something that never changes any more -/
namespace T2
open PySem PySem.Spec PyProof.Rows L2
mutual
/-- d' is d with e for some of the references to a -/
inductive Cg (a : Addr) (e : D) : D → D → Prop
  | refl {d : D} : Cg a e d d
  | hit : Cg a e (.raw a) e
  | tup {ds ds' : List D} : CgL a e ds ds' → Cg a e (.tup ds) (.tup ds')
  | lst {ds ds' : List D} : CgL a e ds ds' → Cg a e (.lst ds) (.lst ds')
inductive CgL (a : Addr) (e : D) : List D → List D → Prop
  | nil : CgL a e [] []
  | cons {d d' : D} {ds ds' : List D} : Cg a e d d' → CgL a e ds ds' → CgL a e (d :: ds) (d' :: ds')
end
def frzD : MO → Option D
  | .lst ds => some (.lst ds)
  | .dct ks => some (.dct ks)
  | _ => none
inductive Fz (Q : PQ) : D → Mu → Prop
  | done {d : D} {μ : Mu} : Q d μ → Fz Q d μ
  | step {d d' e : D} {μ : Mu} {a : Addr} {m : MO} : μ a = some m → frzD m = some e → Cg a e d d' → Fz Q d' (mdel μ a) → Fz Q d μ
section
variable {K : PySem.W.Frag} {C : CT} {F : Hp} {a : Addr} {e : D}
mutual
theorem Cg.rep (he : Rep K C F e (.ref a)) : ∀ {d d' : D} {v : V}, Cg a e d d' → Rep K C F d v → Rep K C F d' v
  | _, _, _, .refl, r => r
  | _, _, _, .hit, r => by rw [r.raw]; exact he
  | _, _, _, .tup h, r => by
    obtain ⟨p, xs, rfl, hp, rl⟩ := r.tupP
    exact .ofTup hp (CgL.rep he h rl)
  | _, _, _, .lst h, r => by
    obtain ⟨p, xs, rfl, hp, rl⟩ := r.lst
    exact .ofLst hp (CgL.rep he h rl)
theorem CgL.rep (he : Rep K C F e (.ref a)) : ∀ {ds ds' : List D} {vs : List V}, CgL a e ds ds' → RepL K C F ds vs → RepL K C F ds' vs
  | _, _, _, .nil, r => r
  | _, _, _, .cons h t, r => by
    unfold RepL at r
    obtain ⟨x, r', rfl, h1, h2⟩ := r
    exact RepL.cons (Cg.rep he h h1) (CgL.rep he t h2)
end
theorem Fz.up {L F : Hp} {Q0 : PQ} {Q : VK} (uq : upQ K C L F Q0 Q) : upQ K C L F (Fz Q0) Q := by
  intro d μ' h
  induction h with
  | done q => exact uq _ _ q
  | @step d d' e μ a m h1 h2 c q ih =>
    intro F' H' v s wd r
    obtain ⟨hF, hm⟩ := wd.mu a m h1
    cases m with
    | lst ds =>
      cases h2
      obtain ⟨xs, hx, rl⟩ := hm
      have sF : Sub F' (upd F' a (.lst xs)) := Sub.new hF
      exact ih _ _ v (s.trans sF) (wd.stop h1 hx) (c.rep (.ofLst upd_same (rl.mono sF)) (r.mono sF))
    | dct ks =>
      cases h2
      obtain ⟨xs, hx, rl⟩ := hm
      have sF : Sub F' (upd F' a (.dK xs)) := Sub.new hF
      exact ih _ _ v (s.trans sF) (wd.stop h1 hx) (c.rep (.ofDct upd_same (rl.mono sF)) (r.mono sF))
    | ins c fs => cases h2
    | dts ks => cases h2
end
section
variable {P : Program} {w : World} {K : PySem.W.Frag} {mg : Str → Option Value} {base : Heap} {C : CT} {k : Nat} {G : Gam} {N ps : List Str} {x nm qual : Str} {params : Arguments} {body : List Stmt} {scope : Scope} {dvs : List V} {kws : List (Str × V)} {f : Addr} {fd : FuncData} {sp : SpD} {mv : List Str} {mr : Bool} {D0 n : Nat} {wr : WS}
theorem fnOkF (F : FunD K nm qual params body scope dvs kws f fd) (S : FnScope N ps scope) (g : GamOk P w K mg base C k G) (ht : trSN G N scope mv mr D0 n none body = some wr)
    (len : ∀ ds μ Q E, sp ds μ Q E → ds.length = ps.length) (h : ∀ ds μ Q E, sp ds μ Q E → wr (endK (Fz Q) E) (startD N ds) μ) : FnOk P w K mg base (L2N.CX P w) (k + 1) f fd ps (liftSp K C sp) := by
  refine (fnOk (sp := fun ds μ Q E => ∃ Q1, sp ds μ Q1 E ∧ Q = Fz Q1) F S g ht (fun ds μ Q E ⟨Q1, q, _⟩ => len ds μ Q1 E q) (fun ds μ Q E ⟨Q1, q, e⟩ => e ▸ h ds μ Q1 E q)).imp fun vs H Q E hs => ?_
  obtain ⟨L, F0, μ, ds, Q0, E0, r, wd, q, uq, ux⟩ := hs
  exact ⟨L, F0, μ, ds, Fz Q0, E0, r, wd, ⟨Q0, q, rfl⟩, Fz.up uq, ux⟩
end
end T2

set_option maxRecDepth 100000
set_option maxHeartbeats 4000000
namespace T2
open PySem PySem.Spec PyProof.Rows L2
/-! ### how one goes through a reading -/
section
variable {i j : Nat} {d d2 x y : D} {ρ : Env} {μ : Mu} {Q : PQ} {E : PX} {wa wb wc we : WE} {was wks : WA} {wt wt2 : WT} {w w2 : WS} {k : KS}
theorem i_var (h : ρ[i]? = some (some d)) (q : Q d μ) : wVar i ρ μ Q E := ⟨d, h, q⟩
theorem i_c (q : Q d μ) : wC d ρ μ Q E := q
theorem i_op {g : G2} (h : wa ρ μ (fun x μ1 => wb ρ μ1 (fun y μ2 => g x y μ2 Q) E) E) : wOp g wa wb ρ μ Q E := h
theorem i_chain {g g' : G2} (h : wa ρ μ (fun x μ1 => wb ρ μ1 (fun y μ2 => g x y μ2 fun z μ3 => ∃ k, z = .bl k ∧ (k = true → wc ρ μ3 (fun u μ4 => g' y u μ4 Q) E) ∧ (k = false → Q (.bl false) μ3)) E) E) : wChain g g' wa wb wc ρ μ Q E := h
theorem i_un {g : G1} (h : wa ρ μ (fun x μ1 => g x μ1 Q) E) : wUn g wa ρ μ Q E := h
theorem i_cb {g : GC} (h : was ρ μ (fun ds μ1 => g ds μ1 Q) E) : wCB g was ρ μ Q E := h
theorem i_call {n : Nat} {sp : SpD} (h : was ρ μ (fun ds μ1 => ds.length = n ∧ sp ds μ1 Q E) E) : wCall n sp was ρ μ Q E := h
theorem i_callK {n m : Nat} {sp : SpD} (h : was ρ μ (fun ds μ1 => wks ρ μ1 (fun es μ2 => ds.length = n ∧ es.length = m ∧ sp (ds ++ es) μ2 Q E) E) E) : wCallK n m sp was wks ρ μ Q E := h
theorem i_nil {Q : List D → Mu → Prop} (q : Q [] μ) : wNil ρ μ Q E := q
theorem i_cons {Q : List D → Mu → Prop} (h : wa ρ μ (fun x μ1 => was ρ μ1 (fun xs μ2 => Q (x :: xs) μ2) E) E) : wCons wa was ρ μ Q E := h
theorem i_tup (h : was ρ μ (fun ds μ' => ds.length ≤ sizeLine ∧ Q (.tup ds) μ') E) : wTup was ρ μ Q E := h
theorem i_lst (h : was ρ μ (fun ds μ' => ds.length ≤ sizeLine ∧ Q (.lst ds) μ') E) : wLst was ρ μ Q E := h
theorem i_lstM (h : was ρ μ (fun ds μ' => ds.length ≤ sizeLine ∧ ∀ a, μ' a = none → Q (.raw a) (mset μ' a (.lst ds))) E) : wLstM was ρ μ Q E := h
theorem i_tru {Q : Bool → Mu → Prop} (h : we ρ μ (fun d μ' => ∃ b, truthOk μ' d b ∧ Q b μ') E) : wTru we ρ μ Q E := h
theorem i_tb {Q : Bool → Mu → Prop} (h : we ρ μ (fun d μ' => ∃ b, d = .bl b ∧ Q b μ') E) : wTB we ρ μ Q E := h
theorem i_bl {P : Bool → Prop} {b : Bool} (q : P b) : ∃ b', D.bl b = .bl b' ∧ P b' := ⟨b, rfl, q⟩
theorem i_notT {Q : Bool → Mu → Prop} (h : wt ρ μ (fun b μ' => Q (!b) μ') E) : wNotT wt ρ μ Q E := h
theorem i_andT {Q : Bool → Mu → Prop} (h : wt ρ μ (fun b μ' => (b = true → wt2 ρ μ' Q E) ∧ (b = false → Q false μ')) E) : wAndT wt wt2 ρ μ Q E := h
theorem i_orT {Q : Bool → Mu → Prop} (h : wt ρ μ (fun b μ' => (b = true → Q true μ') ∧ (b = false → wt2 ρ μ' Q E)) E) : wOrT wt wt2 ρ μ Q E := h
theorem i_not (h : wa ρ μ (fun x μ1 => ∃ k, truthOk μ1 x k ∧ Q (.bl (!k)) μ1) E) : wNot wa ρ μ Q E := h
theorem i_and (h : wa ρ μ (fun x μ1 => ∃ k, truthOk μ1 x k ∧ (k = true → wb ρ μ1 Q E) ∧ (k = false → Q x μ1)) E) : wAnd wa wb ρ μ Q E := h
theorem i_or (h : wa ρ μ (fun x μ1 => ∃ k, truthOk μ1 x k ∧ (k = true → Q x μ1) ∧ (k = false → wb ρ μ1 Q E)) E) : wOr wa wb ρ μ Q E := h
theorem i_if (h : wt ρ μ (fun k μ1 => (k = true → wa ρ μ1 Q E) ∧ (k = false → wb ρ μ1 Q E)) E) : wIf wt wa wb ρ μ Q E := h
theorem i_isi {t : Ty} (h : wa ρ μ (fun d μ1 => ∃ s, tyn μ1 d = some s ∧ Q (.bl (isTy s t)) μ1) E) : wIsi t wa ρ μ Q E := h
theorem i_mt {T : String} {g : GM} (h : wa ρ μ (fun x μ1 => tym μ1 x = some T ∧ was ρ μ1 (fun xs μ2 => g x xs μ2 Q) E) E) : wMt T g wa was ρ μ Q E := h
theorem i_yes {Q : Bool → Mu → Prop} (q : Q true μ) : wYes ρ μ Q E := q
/-! tests decided -/
theorem i_dec {p : Prop} [Decidable p] {A B : Prop} (h1 : p → A) (h2 : ¬p → B) : (decide p = true → A) ∧ (decide p = false → B) := ⟨fun h => h1 (of_decide_eq_true h), fun h => h2 (of_decide_eq_false h)⟩
theorem i_ndec {p : Prop} [Decidable p] {A B : Prop} (h1 : ¬p → A) (h2 : p → B) : ((!decide p) = true → A) ∧ ((!decide p) = false → B) := by
  by_cases h : p
  · rw [decide_eq_true h]; exact ⟨fun z => (by cases z), fun _ => h2 h⟩
  · rw [decide_eq_false h]; exact ⟨fun _ => h1 h, fun z => (by cases z)⟩
theorem i_T {A B : Prop} (h : A) : (true = true → A) ∧ (true = false → B) := ⟨fun _ => h, fun z => (by cases z)⟩
theorem i_F {A B : Prop} (h : B) : (false = true → A) ∧ (false = false → B) := ⟨fun z => (by cases z), fun _ => h⟩
theorem i_Tv {b : Bool} {A B : Prop} (e : b = true) (h : A) : (b = true → A) ∧ (b = false → B) := ⟨fun _ => h, fun z => by rw [e] at z; cases z⟩
theorem i_Fv {b : Bool} {A B : Prop} (e : b = false) (h : B) : (b = true → A) ∧ (b = false → B) := ⟨fun z => (by rw [e] at z; cases z), fun _ => h⟩
theorem i_trB {b : Bool} {P : Bool → Prop} (q : P b) : ∃ k, truthOk μ (.bl b) k ∧ P k := ⟨b, ⟨rfl, fun s h => (by cases h)⟩, q⟩
/-! statements -/
theorem i_seq (h : w { nx := fun ρ' μ' => w2 k ρ' μ', rt := k.rt, bk := k.bk, ct := k.ct, ex := k.ex } ρ μ) : wSeq w w2 k ρ μ := h
theorem i_next (h : k.nx ρ μ) : wNext k ρ μ := h
theorem i_asg (h : we ρ μ (fun d μ1 => k.nx (ρ.set i (some d)) μ1) (k.ex ρ)) : wAsg i we k ρ μ := h
theorem i_drop (h : we ρ μ (fun _ μ1 => k.nx ρ μ1) (k.ex ρ)) : wDrop we k ρ μ := h
theorem i_ret (h : we ρ μ (fun d μ1 => ∃ d' μ', Frz μ1 d μ' d' ∧ k.rt d' μ') (k.ex ρ)) : wRet we k ρ μ := h
theorem i_rt {rt : PQ} (q : rt d μ) : ∃ d' μ', Frz μ d μ' d' ∧ rt d' μ' := ⟨d, μ, Frz.refl μ d, q⟩
theorem i_ifS (h : wt ρ μ (fun b μ1 => (b = true → w k ρ μ1) ∧ (b = false → w2 k ρ μ1)) (k.ex ρ)) : wIfS wt w w2 k ρ μ := h
theorem i_asgG {g : WG} (h : we ρ μ (fun d μ1 => g d ρ μ1 fun ρ1 => k.nx ρ1 μ1) (k.ex ρ)) : wAsgG g we k ρ μ := h
theorem i_gT {is : List Nat} {ds : List D} {Q : Env → Prop} (hl : ds.length = is.length) (q : Q (setAll is ds ρ)) : wgT is (.tup ds) ρ μ Q := ⟨ds, rfl, hl, q⟩
theorem i_set {g : GSet} (h : we ρ μ (fun z μ1 => wa ρ μ1 (fun x μ2 => wb ρ μ2 (fun y μ3 => g x y z μ3 fun μ4 => k.nx ρ μ4) (k.ex ρ)) (k.ex ρ)) (k.ex ρ)) : wSet g wa wb we k ρ μ := h
theorem i_for {wi : WI} {g : WG} (h : wi ρ μ (fun ds gd μ1 => forLoop gd g w k ds ρ μ1) (k.ex ρ)) : wFor wi g w k ρ μ := h
/-! values -/
theorem i_addI {a b : Int} (q : Q (.int (a + b)) μ) : gAdd (.int a) (.int b) μ Q := .inl ⟨a, b, rfl, rfl, q⟩
theorem i_subI {a b : Int} (q : Q (.int (a - b)) μ) : gSub (.int a) (.int b) μ Q := ⟨a, b, rfl, rfl, q⟩
theorem i_mulI {a b : Int} (c : CMulX a b) (q : Q (.int (a * b)) μ) : gMul (.int a) (.int b) μ Q := .inl ⟨a, b, rfl, rfl, c, q⟩
theorem i_modI {a b : Int} (c : 0 < b) (q : Q (.int (a % b)) μ) : gMod (.int a) (.int b) μ Q := ⟨a, b, rfl, rfl, c, q⟩
theorem i_divI {a b : Int} (c : CDivW a b) (q : Q (.int (a / b)) μ) : gDiv (.int a) (.int b) μ Q := ⟨a, b, rfl, rfl, c, q⟩
theorem i_powI {a b : Int} (c : CPow a b) (q : Q (.int (a ^ b.toNat)) μ) : gPow (.int a) (.int b) μ Q := ⟨a, b, rfl, rfl, c, q⟩
theorem i_negI {a : Int} (q : Q (.int (-a)) μ) : gNeg (.int a) μ Q := ⟨a, rfl, q⟩
theorem i_eqI {a b : Int} (q : Q (.bl (decide (a = b))) μ) : gEq (.int a) (.int b) μ Q := ⟨.int a, .int b, rfl, rfl, rfl, by
  have e : decide (V.int a = V.int b) = decide (a = b) := by
    by_cases h : a = b
    · rw [h, decide_eq_true rfl, decide_eq_true rfl]
    · rw [decide_eq_false h, decide_eq_false fun z => h (by cases z; rfl)]
  rw [e]; exact q⟩
theorem i_neI {a b : Int} (q : Q (.bl (!decide (a = b))) μ) : gNe (.int a) (.int b) μ Q := ⟨.int a, .int b, rfl, rfl, rfl, by
  have e : decide (V.int a = V.int b) = decide (a = b) := by
    by_cases h : a = b
    · rw [h, decide_eq_true rfl, decide_eq_true rfl]
    · rw [decide_eq_false h, decide_eq_false fun z => h (by cases z; rfl)]
  rw [e]; exact q⟩
theorem i_ltI {a b : Int} (q : Q (.bl (decide (a < b))) μ) : gLt (.int a) (.int b) μ Q := .inl ⟨a, b, rfl, rfl, q⟩
theorem i_leI {a b : Int} (q : Q (.bl (decide (a ≤ b))) μ) : gLe (.int a) (.int b) μ Q := .inl ⟨a, b, rfl, rfl, q⟩
theorem i_gtI {a b : Int} (q : Q (.bl (decide (b < a))) μ) : gGt (.int a) (.int b) μ Q := .inl ⟨a, b, rfl, rfl, q⟩
theorem i_geI {a b : Int} (q : Q (.bl (decide (b ≤ a))) μ) : gGe (.int a) (.int b) μ Q := .inl ⟨a, b, rfl, rfl, q⟩
theorem i_is (q : Q (.bl (isNon x)) μ) : gIs x .non μ Q := ⟨rfl, q⟩
theorem i_isN (q : Q (.bl (!isNon x)) μ) : gIsNot x .non μ Q := ⟨rfl, q⟩
theorem i_ix {ds : List D} {a : Int} (h1 : getS μ x = some ds) (h2 : atI ds a = some d) (q : Q d μ) : gIx x (.int a) μ Q := .inl ⟨ds, a, d, h1, rfl, h2, q⟩
theorem i_ixK {ks : List (Key × D)} {kk : Key} (h1 : getK μ x = some ks) (h0 : keyOf y = some kk) (h2 : look ks kk = some d) (q : Q d μ) : gIx x y μ Q := .inr (.inl ⟨ks, kk, d, h1, h0, h2, q⟩)
theorem i_setL {a : Addr} {ds : List D} {z : D} {n : Int} {j : Nat} {Q : Mu → Prop} (h1 : μ a = some (.lst ds)) (h2 : ixN ds.length n = some j) (q : Q (mset μ a (.lst (ds.set j z)))) : gSet (.raw a) (.int n) z μ Q := .inl ⟨a, ds, n, j, rfl, h1, rfl, h2, q⟩
theorem i_setK {a : Addr} {ks : List (Key × D)} {kk : Key} {z : D} {Q : Mu → Prop} (h1 : μ a = some (.dct ks)) (h0 : keyOf y = some kk) (h2 : ks.length < sizeLine) (q : Q (mset μ a (.dct (kput ks kk z)))) : gSet (.raw a) y z μ Q := .inr (.inl ⟨a, ks, kk, rfl, h1, h0, h2, q⟩)
theorem i_setD {a : Addr} {ks : List (List Key)} {kk : List Key} {ds : List D} {z : D} {Q : Mu → Prop} (h1 : μ a = some (.dts ks)) (h0 : keysT ds = some kk) (h2 : ks.length < sizeLine) (q : Q (mset μ a (.dts (if hasK ks kk = true then ks else ks ++ [kk])))) : gSet (.raw a) (.tup ds) z μ Q := .inr (.inr ⟨a, ks, ds, kk, rfl, h1, rfl, h0, h2, q⟩)
theorem i_dz {was : WA} (h : was ρ μ (fun ds μ1 => ∃ (d : D) (ns : List Str) (x : Str), ds = [d, .str x] ∧ getL μ1 d = some (ns.map D.str) ∧ Q (.dct (kmerge [] (zipD ns x))) μ1) E) : wDZ was ρ μ Q E := h
theorem i_dict0T (q : ∀ a, μ a = none → Q (.raw a) (mset μ a (.dts []))) : wDict0T ρ μ Q E := q
theorem i_inT {n : Bool} {a : Addr} {ks : List (List Key)} {kk : List Key} {ds : List D} (h1 : μ a = some (.dts ks)) (h0 : keysT ds = some kk) (q : Q (.bl (n ^^ hasK ks kk)) μ) : gIn n (.tup ds) (.raw a) μ Q := .inr (.inr (.inr ⟨a, ks, ds, kk, rfl, h1, rfl, h0, q⟩))
theorem i_lenL {ds : List D} (h : getS μ x = some ds) (q : Q (.int ds.length) μ) : gLen [x] μ Q := ⟨x, rfl, .inl ⟨ds, h, q⟩⟩
theorem i_absI {a : Int} (q : Q (.int (if a < 0 then -a else a)) μ) : gAbs [.int a] μ Q := ⟨a, rfl, q⟩
theorem i_intI {a : Int} (q : Q (.int a) μ) : gInt [.int a] μ Q := .inl ⟨a, rfl, q⟩
theorem i_maxI {a b : Int} (q : Q (.int (if b > a then b else a)) μ) : gMaxB [.int a, .int b] μ Q := .inl ⟨a, b, rfl, q⟩
theorem i_maxS {a b : Str} (q : Q (.str (if SrtO.ltS a b = true then b else a)) μ) : gMaxB [.str a, .str b] μ Q := .inr ⟨a, b, rfl, q⟩
theorem i_minI {a b : Int} (q : Q (.int (if b < a then b else a)) μ) : gMinB [.int a, .int b] μ Q := .inl ⟨a, b, rfl, q⟩
theorem i_minS {a b : Str} (q : Q (.str (if SrtO.ltS b a = true then b else a)) μ) : gMinB [.str a, .str b] μ Q := .inr ⟨a, b, rfl, q⟩
theorem i_rev {ds : List D} (q : Q (.lst ds.reverse) μ) : gRev (.lst ds) μ Q := ⟨ds, rfl, q⟩
theorem i_tuple {ds : List D} (h : getL μ x = some ds) (q : Q (.tup ds) μ) : gTuple [x] μ Q := ⟨x, ds, rfl, .inl h, q⟩
theorem i_tupleT {ds : List D} (q : Q (.tup ds) μ) : gTuple [.tup ds] μ Q := ⟨_, ds, rfl, .inr rfl, q⟩
theorem i_listM {ds : List D} (h : getS μ x = some ds) (q : ∀ a, μ a = none → Q (.raw a) (mset μ a (.lst ds))) : gListM [x] μ Q := ⟨x, ds, rfl, h, q⟩
theorem i_modG {a b : Int} (c : 0 < b) (q : ∀ r : Int, 0 ≤ r → r < b → Q (.int r) μ) : gMod (.int a) (.int b) μ Q := i_modI c (q _ (Int.emod_nonneg _ (by omega)) (Int.emod_lt_of_pos _ c))
theorem i_divG {a b : Int} (c : CDivW a b) (h0 : 0 ≤ a) (q : ∀ r : Int, 0 ≤ r → r ≤ a → Q (.int r) μ) : gDiv (.int a) (.int b) μ Q := i_divI c (q _ (Int.ediv_nonneg h0 (by have := c.1; omega)) (by
  have hb : 0 < b := c.1
  exact Int.ediv_le_self b h0))
theorem i_absG {a : Int} (q : ∀ r : Int, 0 ≤ r → r.natAbs = a.natAbs → Q (.int r) μ) : gAbs [.int a] μ Q := i_absI (q _ (by split <;> omega) (by split <;> omega))
theorem getS_raw {a : Addr} {ds : List D} (h : μ a = some (.lst ds)) : getS μ (.raw a) = some ds := by
  simp only [getS, getL, h]
theorem i_revM {a : Addr} {ds : List D} (h : μ a = some (.lst ds)) (q : Q (.lst ds.reverse) μ) : gRev (.raw a) μ Q := ⟨ds, getS_raw h, q⟩
theorem getK_raw {a : Addr} {ds : List (Key × D)} (h : μ a = some (.dct ds)) : getK μ (.raw a) = some ds := by
  simp only [getK, h]
theorem i_ixS {a : Addr} {ds : List D} {n : Int} (h : μ a = some (.lst ds)) (h2 : atI ds n = some d) (q : Q d μ) : gIx (.raw a) (.int n) μ Q := i_ix (getS_raw h) h2 q
theorem i_ixF {ds : List D} {n : Int} (h2 : atI ds n = some d) (q : Q d μ) : gIx (.lst ds) (.int n) μ Q := i_ix rfl h2 q
theorem i_ixT {ds : List D} {n : Int} (h2 : atI ds n = some d) (q : Q d μ) : gIx (.tup ds) (.int n) μ Q := i_ix rfl h2 q
theorem i_lenT {z : Str} (h : z.length ≤ sizeLine) (q : Q (.int z.length) μ) : gLen [.str z] μ Q := ⟨_, rfl, .inr (.inl ⟨z, rfl, h, q⟩)⟩
theorem i_lenF {ds : List D} (q : Q (.int ds.length) μ) : gLen [.lst ds] μ Q := i_lenL rfl q
theorem i_lenS {a : Addr} {ds : List D} (h : μ a = some (.lst ds)) (q : Q (.int ds.length) μ) : gLen [.raw a] μ Q := i_lenL (getS_raw h) q
theorem atI_ok {α : Type} {l : List α} {i : Int} (h0 : 0 ≤ i) (h1 : i < l.length) : ∃ (h : i.toNat < l.length), atI l i = some (l[i.toNat]'h) := by
  have h : i.toNat < l.length := by omega
  refine ⟨h, ?_⟩
  unfold atI ixN
  rw [if_pos h0, if_pos h1]
  exact List.getElem?_eq_getElem h
theorem i_size {xs : List D} {A : Prop} (h : Nat.ble xs.length 1000 = true) (q : A) : xs.length ≤ sizeLine ∧ A := ⟨Nat.le_trans (Nat.le_of_ble_eq_true h) (by decide), q⟩
theorem i_powC {a b : Int} (h0 : 0 ≤ b) (h1 : b ≤ 1000000) (h2 : a.natAbs < 2 ^ 64) (q : Q (.int (a ^ b.toNat)) μ) : gPow (.int a) (.int b) μ Q := i_powI ⟨h0, h1, h2⟩ q
theorem p10_18 : (10 : Int) ^ (18 : Int).toNat = 1000000000000000000 := by decide
theorem p10_20 : (10 : Int) ^ (20 : Int).toNat = 100000000000000000000 := by decide
theorem i_raise {c : Str} {fs : List Str} (h : was ρ μ (fun ds μ1 => ds.length = fs.length ∧ k.ex ρ c (fs.zip ds).reverse μ1) (k.ex ρ)) : wRaise c fs was k ρ μ := h
theorem i_try {is : Str → Bool} {ws : Addr → Addr → Option Addr → WS} (h : w { nx := k.nx, rt := k.rt, bk := k.bk, ct := k.ct, ex := fun ρ' c fs μ' =>
  (is c = true → ∀ a ca dx, ws a ca dx { nx := fun ρ2 μ2 => k.nx (ρ2.set i none) μ2, rt := k.rt, bk := fun ρ2 μ2 => k.bk (ρ2.set i none) μ2, ct := fun ρ2 μ2 => k.ct (ρ2.set i none) μ2, ex := fun _ => wNever } (ρ'.set i (some (.exc a ca dx c fs))) μ') ∧
  (is c = false → k.ex ρ' c fs μ') } ρ μ) : wTry is i w ws k ρ μ := h
theorem i_xf {a ca : Addr} {dx : Option Addr} {f : Str} (h : we ρ μ (fun d μ1 => ∃ c fs v, d = .exc a ca dx c fs ∧ fs.lookup f = some v ∧ Q v μ1) E) : wXf a ca dx f we ρ μ Q E := h
theorem i_xfv {a ca : Addr} {dx : Option Addr} {c f : Str} {fs : FE} {v : D} {P : D → Prop} (h : fs.lookup f = some v) (q : P v) : ∃ c' fs' v', D.exc a ca dx c fs = .exc a ca dx c' fs' ∧ fs'.lookup f = some v' ∧ P v' := ⟨c, fs, v, rfl, h, q⟩
theorem i_xi {a ca : Addr} {dx : Option Addr} {is : Str → Bool} (h : we ρ μ (fun d μ1 => ∃ c fs, d = .exc a ca dx c fs ∧ Q (.bl (is c)) μ1) E) : wXi a ca dx is we ρ μ Q E := h
theorem i_callX {a ca : Addr} {dx : Option Addr} {sp : SpX} (h : we ρ μ (fun d μ1 => ∃ c fs, d = .exc a ca dx c fs ∧ sp c fs μ1 Q) E) : wCallX a ca dx sp we ρ μ Q E := h
theorem i_callXv {a ca : Addr} {dx : Option Addr} {c : Str} {fs : FE} {P : Str → FE → Prop} (q : P c fs) : ∃ c' fs', D.exc a ca dx c fs = .exc a ca dx c' fs' ∧ P c' fs' := ⟨c, fs, rfl, q⟩
theorem i_xiv {a ca : Addr} {dx : Option Addr} {c : Str} {fs : FE} {P : Str → Prop} (q : P c) : ∃ c' fs', D.exc a ca dx c fs = .exc a ca dx c' fs' ∧ P c' := ⟨c, fs, rfl, q⟩
theorem i_isv {P : String → Prop} {s : String} (h : tyn μ d = some s) (q : P s) : ∃ s, tyn μ d = some s ∧ P s := ⟨s, h, q⟩
/-! what is given up at a return -/
theorem less_new {a : Addr} {m : MO} (h : μ a = none) : Less μ (mset μ a m) := fun b m' e => by
  have : b ≠ a := fun z => by subst z; rw [h] at e; cases e
  rw [mset_ne this]; exact e
theorem less_put {μ0 : Mu} {a : Addr} {m : MO} (h : Less μ0 μ) (hn : μ0 a = none) : Less μ0 (mset μ a m) := fun b m' e => by
  have : b ≠ a := fun z => by subst z; rw [hn] at e; cases e
  rw [mset_ne this]; exact h b m' e
theorem less_none {μ0 : Mu} {a : Addr} (h : Less μ0 μ) (hn : μ a = none) : μ0 a = none := by
  cases e : μ0 a with
  | none => rfl
  | some m => have := h a m e; rw [hn] at this; cases this
theorem Less.refl (μ : Mu) : Less μ μ := fun _ _ h => h
theorem i_back {μ0 : Mu} {rt : PQ} (h : Less μ0 μ) (q : rt d μ0) : ∃ d' μ', Frz μ d μ' d' ∧ rt d' μ' := ⟨d, μ0, Frz.less h, q⟩
theorem i_backL {μ0 : Mu} {rt : PQ} {a : Addr} {ds : List D} (h : Less μ0 μ) (hn : μ0 a = none) (ha : μ a = some (.lst ds)) (q : rt (.lst ds) μ0) : ∃ d' μ', Frz μ (.raw a) μ' d' ∧ rt d' μ' := ⟨.lst ds, μ0, Frz.lst ha fun b m e => ⟨h b m e, fun z => by subst z; rw [hn] at e; cases e⟩, q⟩
theorem rng_len {lo : Int} {n : Nat} : (rngD lo n).length = n := by unfold rngD; rw [List.length_map, List.length_range]
theorem rng_get {lo : Int} {n i : Nat} (h : i < (rngD lo n).length) : (rngD lo n)[i] = D.int (lo + (i : Int)) := by
  have e : (rngD lo n)[i]? = some (D.int (lo + (i : Int))) := by
    rw [rng_len] at h
    unfold rngD
    rw [List.getElem?_map, List.getElem?_range h]
    rfl
  rw [List.getElem?_eq_getElem h] at e
  exact Option.some.inj e
theorem rng_drop {lo : Int} {n i : Nat} (h : i < n) : (rngD lo n).drop i = D.int (lo + (i : Int)) :: (rngD lo n).drop (i + 1) := by
  rw [List.drop_eq_getElem_cons (by rw [rng_len]; exact h), rng_get]
theorem rng_nil {lo : Int} {n i : Nat} (h : [] = (rngD lo n).drop i) : n ≤ i := by
  have := congrArg List.length h
  rw [List.length_drop, rng_len, List.length_nil] at this
  omega
theorem rng_cons {lo : Int} {n i : Nat} {d : D} {ds : List D} (h : d :: ds = (rngD lo n).drop i) : i < n ∧ d = .int (lo + (i : Int)) ∧ ds = (rngD lo n).drop (i + 1) := by
  have := congrArg List.length h
  rw [List.length_drop, rng_len, List.length_cons] at this
  have hi : i < n := by omega
  rw [rng_drop hi] at h
  exact ⟨hi, (List.cons.inj h).1, (List.cons.inj h).2⟩
theorem i_dictM {ps : List (WE × WE)} {ρ : Env} {μ : Mu} {Q : PQ} {E : PX} (h : wPairs ps ρ μ (fun xs μ1 => ∃ ks, keysOf xs = some ks ∧ ks.length ≤ 15 ∧ ∀ a, μ1 a = none → Q (.raw a) (mset μ1 a (.dct (kmerge [] ks)))) E) : wDictM ps ρ μ Q E := h
theorem i_dict {ps : List (WE × WE)} {ρ : Env} {μ : Mu} {Q : PQ} {E : PX} (h : wPairs ps ρ μ (fun xs μ1 => ∃ ks, keysOf xs = some ks ∧ ks.length ≤ 15 ∧ Q (.dct (kmerge [] ks)) μ1) E) : wDict ps ρ μ Q E := h
theorem i_sl {ρ : Env} {μ : Mu} {Q : PQ} {E : PX} {wa : WE} {g : D → Option Int → Option Int → Mu → PQ → Prop} {wl wh : WO} (h : wa ρ μ (fun x μ1 => wl ρ μ1 (fun lo μ2 => wh ρ μ2 (fun hi μ3 => g x lo hi μ3 Q) E) E) E) : wSl g wa wl wh ρ μ Q E := h
theorem i_noP {ρ : Env} {μ : Mu} {Q : Option Int → Mu → Prop} {E : PX} (q : Q none μ) : wNoP ρ μ Q E := q
def IsP (d : D) (Q : Option Int → Mu → Prop) (μ : Mu) : Prop := ∃ i, d = .int i ∧ Q (some i) μ
theorem i_part {ρ : Env} {μ : Mu} {Q : Option Int → Mu → Prop} {E : PX} {wa : WE} (h : wa ρ μ (fun d μ1 => IsP d Q μ1) E) : wPart wa ρ μ Q E := h
theorem i_isP {μ : Mu} {Q : Option Int → Mu → Prop} {a : Int} (q : Q (some a) μ) : IsP (.int a) Q μ := ⟨a, rfl, q⟩
theorem i_p0 {ρ : Env} {μ : Mu} {Q : List (D × D) → Mu → Prop} {E : PX} (q : Q [] μ) : wPairs [] ρ μ Q E := q
theorem i_p1 {k v : WE} {r : List (WE × WE)} {ρ : Env} {μ : Mu} {Q : List (D × D) → Mu → Prop} {E : PX} (h : k ρ μ (fun x μ1 => v ρ μ1 (fun y μ2 => wPairs r ρ μ2 (fun ps μ3 => Q ((x, y) :: ps) μ3) E) E) E) : wPairs ((k, v) :: r) ρ μ Q E := h
theorem i_eqB {a b : Bool} {μ : Mu} {Q : PQ} (q : Q (.bl (decide (a = b))) μ) : gEq (.bl a) (.bl b) μ Q := ⟨.bl a, .bl b, rfl, rfl, rfl, by
  have e : decide (V.bl a = V.bl b) = decide (a = b) := by cases a <;> cases b <;> rfl
  rw [e]; exact q⟩
theorem i_eqT {a b : Str} {μ : Mu} {Q : PQ} (q : Q (.bl (decide (a = b))) μ) : gEq (.str a) (.str b) μ Q := ⟨.str a, .str b, rfl, rfl, rfl, by
  have e : decide (V.str a = V.str b) = decide (a = b) := by
    by_cases h : a = b
    · rw [h, decide_eq_true rfl, decide_eq_true rfl]
    · rw [decide_eq_false h, decide_eq_false fun z => h (by cases z; rfl)]
  rw [e]; exact q⟩
theorem i_neT {a b : Str} {μ : Mu} {Q : PQ} (q : Q (.bl (!decide (a = b))) μ) : gNe (.str a) (.str b) μ Q := ⟨.str a, .str b, rfl, rfl, rfl, by
  have e : decide (V.str a = V.str b) = decide (a = b) := by
    by_cases h : a = b
    · rw [h, decide_eq_true rfl, decide_eq_true rfl]
    · rw [decide_eq_false h, decide_eq_false fun z => h (by cases z; rfl)]
  rw [e]; exact q⟩
theorem tymL {a : Addr} {ds : List D} (h : μ a = some (.lst ds)) : tym μ (.raw a) = some "list" := by simp only [tym, h]
theorem tymK {a : Addr} {ds : List (Key × D)} (h : μ a = some (.dct ds)) : tym μ (.raw a) = some "dict" := by simp only [tym, h]
theorem i_lcC {gd : Mu → Prop} {g : WG} {Q : List D → Mu → Prop} {ds acc : List D} (h : gd μ)
    (q : g d ρ μ fun ρ1 => wt ρ1 μ (fun k μ1 => (k = true → we ρ1 μ1 (fun y μ2 => acc.length < sizeLine ∧ lcLoop gd g wt we ρ Q ds (acc ++ [y]) μ2) wNever) ∧ (k = false → lcLoop gd g wt we ρ Q ds acc μ1)) wNever) : lcLoop gd g wt we ρ Q (d :: ds) acc μ := ⟨h, q⟩
theorem i_lcN {gd : Mu → Prop} {g : WG} {Q : List D → Mu → Prop} {acc : List D} (h : gd μ) (q : Q acc μ) : lcLoop gd g wt we ρ Q [] acc μ := ⟨h, q⟩
theorem i_forC {gd : Mu → Prop} {g : WG} {ds : List D} (h : gd μ) (q : g d ρ μ fun ρ1 => w { nx := forLoop gd g w k ds, ct := forLoop gd g w k ds, bk := k.nx, rt := k.rt, ex := k.ex } ρ1 μ) : forLoop gd g w k (d :: ds) ρ μ := ⟨h, q⟩
theorem i_forN {gd : Mu → Prop} {g : WG} (h : gd μ) (q : k.nx ρ μ) : forLoop gd g w k [] ρ μ := ⟨h, q⟩
theorem i_sz2 {xs : List D} {A : Prop} (h : Nat.ble xs.length 1000 = true) (q : A) : xs.length < sizeLine ∧ A := ⟨Nat.lt_of_le_of_lt (Nat.le_of_ble_eq_true h) (by decide), q⟩
/-- a cut: what stands behind w is gone through once -/
theorem i_cut (J : Env → Mu → Prop) (h2 : ∀ ρ' μ', J ρ' μ' → w2 k ρ' μ') (h1 : ∀ nx : Env → Mu → Prop, (∀ ρ' μ', J ρ' μ' → nx ρ' μ') → w { nx := nx, rt := k.rt, bk := k.bk, ct := k.ct, ex := k.ex } ρ μ) : wSeq w w2 k ρ μ := h1 _ h2
/-- two things that may change: a, which stood before, n, which is new -/
structure Two (μ : Mu) (a n : Addr) (μ' : Mu) (o o2 : MO) : Prop where
  ne : n ≠ a
  hn : μ n = none
  h1 : μ' a = some o
  h2 : μ' n = some o2
  h3 : ∀ b m, μ b = some m → b ≠ a → μ' b = some m
theorem Two.new {μ : Mu} {a n : Addr} {o0 o o2 : MO} (h : μ a = some o0) (hn : (mset μ a o) n = none) : Two μ a n (mset (mset μ a o) n o2) o o2 := by
  have ne : n ≠ a := fun z => by subst z; rw [mset_same] at hn; cases hn
  rw [mset_ne ne] at hn
  exact ⟨ne, hn, by rw [mset_ne ne.symm, mset_same], mset_same, fun b m e hb => by
    have : b ≠ n := fun z => by subst z; rw [hn] at e; cases e
    rw [mset_ne this, mset_ne hb]; exact e⟩
theorem Two.a {μ μ' : Mu} {a n : Addr} {o o2 : MO} (T : Two μ a n μ' o o2) (o' : MO) : Two μ a n (mset μ' a o') o' o2 :=
  ⟨T.ne, T.hn, mset_same, by rw [mset_ne T.ne]; exact T.h2, fun b m e hb => by rw [mset_ne hb]; exact T.h3 b m e hb⟩
theorem Two.n {μ μ' : Mu} {a n : Addr} {o o2 : MO} (T : Two μ a n μ' o o2) (o' : MO) : Two μ a n (mset μ' n o') o o' :=
  ⟨T.ne, T.hn, by rw [mset_ne T.ne.symm]; exact T.h1, mset_same, fun b m e hb => by
    have : b ≠ n := fun z => by subst z; rw [T.hn] at e; cases e
    rw [mset_ne this]; exact T.h3 b m e hb⟩
theorem Two.less {μ μ' : Mu} {a n : Addr} {o o2 : MO} (T : Two μ a n μ' o o2) : Less (mset μ a o) μ' := fun b m e => by
  by_cases hb : b = a
  · subst hb; rw [mset_same] at e; cases e; exact T.h1
  · rw [mset_ne hb] at e; exact T.h3 b m e hb
theorem i_setT {μ μ' : Mu} {a n : Addr} {o : MO} {L : List D} {i : Int} {j : Nat} {z : D} {P : Mu → Prop} (T : Two μ a n μ' o (.lst L)) (hj : ixN L.length i = some j) (q : ∀ μ3, Two μ a n μ3 o (.lst (L.set j z)) → P μ3) : gSet (.raw n) (.int i) z μ' P :=
  i_setL T.h2 hj (q _ (T.n _))
theorem i_tryM {cl : List ClD} (h : w { nx := k.nx, rt := k.rt, bk := k.bk, ct := k.ct, ex := exM k cl } ρ μ) : wTryM cl w k ρ μ := h
theorem i_exC {is : Str → Bool} {ws : Addr → Addr → Option Addr → WS} {r : List ClD} {c : Str} {fs : FE} (h : (is c = true → ∀ a ca dx, ws a ca dx { nx := fun ρ2 μ2 => k.nx (ρ2.set i none) μ2, rt := k.rt, bk := fun ρ2 μ2 => k.bk (ρ2.set i none) μ2, ct := fun ρ2 μ2 => k.ct (ρ2.set i none) μ2, ex := fun _ => wNever } (ρ.set i (some (.exc a ca dx c fs))) μ) ∧
    (is c = false → exM k r ρ c fs μ)) : exM k ((is, i, ws) :: r) ρ c fs μ := h
theorem i_exN {c : Str} {fs : FE} (h : k.ex ρ c fs μ) : exM k [] ρ c fs μ := h
theorem i_isvL {P : String → Prop} {a : Addr} {xs : List D} (h : μ a = some (.lst xs)) (q : P "list") : ∃ s, tyn μ (.raw a) = some s ∧ P s := ⟨"list", by simp only [tyn, h], q⟩
/-! a loop by an invariant -/
theorem forLoop_inv {gd : Mu → Prop} {g : WG} (I : List D → Env → Mu → Prop) (hg : ∀ ds ρ μ, I ds ρ μ → gd μ) (hn : ∀ ρ μ, I [] ρ μ → k.nx ρ μ)
    (hs : ∀ d ds ρ μ, I (d :: ds) ρ μ → ∀ nx : Env → Mu → Prop, (∀ ρ' μ', I ds ρ' μ' → nx ρ' μ') → g d ρ μ fun ρ1 => w { nx := nx, ct := nx, bk := k.nx, rt := k.rt, ex := k.ex } ρ1 μ) : ∀ ds ρ μ, I ds ρ μ → forLoop gd g w k ds ρ μ
  | [], ρ, μ, h => ⟨hg _ _ _ h, hn _ _ h⟩
  | d :: ds, ρ, μ, h => ⟨hg _ _ _ h, hs d ds ρ μ h _ fun ρ' μ' h' => forLoop_inv I hg hn hs ds ρ' μ' h'⟩
/-- a comprehension by an invariant -/
theorem lcLoop_inv {gd : Mu → Prop} {g : WG} {tt : WT} {te : WE} {ρ : Env} {Q : List D → Mu → Prop} (I : List D → List D → Mu → Prop) (hg : ∀ ds acc μ, I ds acc μ → gd μ) (hn : ∀ acc μ, I [] acc μ → Q acc μ)
    (hs : ∀ d ds acc μ, I (d :: ds) acc μ → ∀ Z : List D → Mu → Prop, (∀ acc' μ', I ds acc' μ' → Z acc' μ') → g d ρ μ fun ρ1 => tt ρ1 μ (fun k μ1 => (k = true → te ρ1 μ1 (fun y μ2 => acc.length < sizeLine ∧ Z (acc ++ [y]) μ2) wNever) ∧ (k = false → Z acc μ1)) wNever) :
    ∀ ds acc μ, I ds acc μ → lcLoop gd g tt te ρ Q ds acc μ
  | [], acc, μ, h => ⟨hg _ _ _ h, hn _ _ h⟩
  | d :: ds, acc, μ, h => ⟨hg _ _ _ h, hs d ds acc μ h (fun acc' μ' => lcLoop gd g tt te ρ Q ds acc' μ') fun acc' μ' h' => lcLoop_inv I hg hn hs ds acc' μ' h'⟩
theorem i_lc {wi : WI} {g : WG} (h : wi ρ μ (fun ds gd μ1 => lcLoop gd g wt we ρ (fun acc μ2 => Q (.lst acc) μ2) ds [] μ1) E) : wLc wi g wt we ρ μ Q E := h
theorem i_lcM {wi : WI} {g : WG} (h : wi ρ μ (fun ds gd μ1 => lcLoop gd g wt we ρ (fun acc μ2 => ∀ a, μ2 a = none → Q (.raw a) (mset μ2 a (.lst acc))) ds [] μ1) E) : wLcM wi g wt we ρ μ Q E := h
theorem i_it {Q : List D → (Mu → Prop) → Mu → Prop} (h : we ρ μ (fun x μ1 => (∃ ds, getS μ1 x = some ds ∧ Q ds (fun μ' => getS μ' x = some ds) μ1) ∨ (∃ s, x = .str s ∧ Q (signs s) (fun _ => True) μ1) ∨ (∃ ks, x = .dcf ks ∧ Q (ks.map fun k => keyD k.1) (fun _ => True) μ1)) E) : wIt we ρ μ Q E := h
theorem i_itL {ds : List D} {Q : List D → (Mu → Prop) → Mu → Prop} (h : getS μ x = some ds) (q : Q ds (fun μ' => getS μ' x = some ds) μ) : (∃ ds, getS μ x = some ds ∧ Q ds (fun μ' => getS μ' x = some ds) μ) ∨ (∃ s, x = .str s ∧ Q (signs s) (fun _ => True) μ) ∨ (∃ ks, x = .dcf ks ∧ Q (ks.map fun k => keyD k.1) (fun _ => True) μ) := .inl ⟨ds, h, q⟩
theorem i_name {i : Nat} {Q : Env → Prop} (q : Q (ρ.set i (some d))) : wgName i d ρ μ Q := q
theorem i_rng1 {Q : List D → (Mu → Prop) → Mu → Prop} (h : wa ρ μ (fun d μ1 => ∃ j, d = .int j ∧ -(2 ^ 62) ≤ j ∧ j < 2 ^ 62 ∧ Q (rngD 0 j.toNat) (fun _ => True) μ1) E) : wRng1 wa ρ μ Q E := h
/-! objects -/
theorem i_fld {f : Str} (h : we ρ μ (fun x μ1 => ∃ c fs v, getO μ1 x = some (c, fs) ∧ fs.lookup f = some v ∧ Q v μ1) E) : wFld f we ρ μ Q E := h
theorem i_fldO {c f : Str} {fs : FE} {v : D} {P : D → Prop} (h : fs.lookup f = some v) (q : P v) : ∃ c' fs' v', getO μ (.obj c fs) = some (c', fs') ∧ fs'.lookup f = some v' ∧ P v' := ⟨c, fs, v, rfl, h, q⟩
theorem getO_raw {a : Addr} {c : Str} {fs : FE} (h : μ a = some (.ins c fs)) : getO μ (.raw a) = some (c, fs) := by simp only [getO, h]
theorem i_fldR {a : Addr} {c f : Str} {fs : FE} {v : D} {P : D → Prop} (h0 : μ a = some (.ins c fs)) (h : fs.lookup f = some v) (q : P v) : ∃ c' fs' v', getO μ (.raw a) = some (c', fs') ∧ fs'.lookup f = some v' ∧ P v' := ⟨c, fs, v, getO_raw h0, h, q⟩
theorem i_prop {c : Str} {sp : SpD} (h : we ρ μ (fun x μ1 => (∃ fs, getO μ1 x = some (c, fs)) ∧ sp [x] μ1 Q (fun _ _ _ => False)) E) : wProp c sp we ρ μ Q E := h
theorem i_isO {c : Str} {fs : FE} {P : Prop} (q : P) : (∃ fs', getO μ (.obj c fs) = some (c, fs')) ∧ P := ⟨⟨fs, rfl⟩, q⟩
theorem i_isR {a : Addr} {c : Str} {fs : FE} {P : Prop} (h : μ a = some (.ins c fs)) (q : P) : (∃ fs', getO μ (.raw a) = some (c, fs')) ∧ P := ⟨⟨fs, getO_raw h⟩, q⟩
theorem i_meth {c m : Str} {n : Nat} {sp : SpD} (h : wa ρ μ (fun x μ1 => (∃ fs, getO μ1 x = some (c, fs) ∧ fs.lookup m = none) ∧ was ρ μ1 (fun ds μ2 => ds.length = n ∧ sp (x :: ds) μ2 Q E) E) E) : wMeth c m n sp wa was ρ μ Q E := h
theorem i_isOm {c m : Str} {fs : FE} {P : Prop} (h : fs.lookup m = none) (q : P) : (∃ fs', getO μ (.obj c fs) = some (c, fs') ∧ fs'.lookup m = none) ∧ P := ⟨⟨fs, rfl, h⟩, q⟩
theorem i_isRm {a : Addr} {c m : Str} {fs : FE} {P : Prop} (h0 : μ a = some (.ins c fs)) (h : fs.lookup m = none) (q : P) : (∃ fs', getO μ (.raw a) = some (c, fs') ∧ fs'.lookup m = none) ∧ P := ⟨⟨fs, getO_raw h0, h⟩, q⟩
theorem i_setF {f : Str} (h : we ρ μ (fun y μ1 => wa ρ μ1 (fun x μ2 => ∃ a c fs, x = .raw a ∧ μ2 a = some (.ins c fs) ∧ fs.length < 1000 ∧ k.nx ρ (mset μ2 a (.ins c (putFD f y fs)))) (k.ex ρ)) (k.ex ρ)) : wSetF f wa we k ρ μ := h
theorem i_setR {a : Addr} {c : Str} {fs : FE} {P : Addr → Str → FE → Prop} (h0 : μ a = some (.ins c fs)) (h : Nat.blt fs.length 1000 = true) (q : P a c fs) : ∃ a' c' fs', D.raw a = .raw a' ∧ μ a' = some (.ins c' fs') ∧ fs'.length < 1000 ∧ P a' c' fs' := ⟨a, c, fs, rfl, h0, Nat.le_of_ble_eq_true h, q⟩
theorem i_lk (h : we ρ μ (fun d μ1 => ∃ a ks, d = .raw a ∧ μ1 a = some (.dct ks) ∧ Q (.dcf ks) (mdel μ1 a)) E) : wLk we ρ μ Q E := h
theorem i_lkR {a : Addr} {ks : List (Key × D)} {P : Addr → List (Key × D) → Prop} (h0 : μ a = some (.dct ks)) (q : P a ks) : ∃ a' ks', D.raw a = .raw a' ∧ μ a' = some (.dct ks') ∧ P a' ks' := ⟨a, ks, rfl, h0, q⟩
/-! f-strings, dict comprehensions, enumerate -/
theorem i_joined {ws : List WE} (h : wJs ws Str.empty ρ μ (fun out μ1 => Q (.str out) μ1) E) : wJoined ws ρ μ Q E := h
theorem i_js0 {acc : Str} {Q : Str → Mu → Prop} (q : Q acc μ) : wJs [] acc ρ μ Q E := q
theorem i_js1 {ws : List WE} {acc : Str} {Q : Str → Mu → Prop} (h : wa ρ μ (fun x μ1 => ∃ y : Str, x = .str y ∧ (acc ++ y).length ≤ sizeLine ∧ wJs ws (acc ++ y) ρ μ1 Q E) E) : wJs (wa :: ws) acc ρ μ Q E := h
theorem i_fmt (h : we ρ μ (fun x μ1 => (∃ y : Str, x = .str y ∧ y.length ≤ sizeLine ∧ Q (.str y) μ1) ∨ ∃ i : Int, x = .int i ∧ i.natAbs.log2 < 1920 ∧ Q (.str (toString i)) μ1) E) : wFmt we ρ μ Q E := h
theorem i_dc {wi : WI} {g : WG} (h : wi ρ μ (fun ds gd μ1 => dcLoop gd g wt wa wb ρ (fun acc μ2 => Q (.dct acc) μ2) ds [] μ1) E) : wDc wi g wt wa wb ρ μ Q E := h
theorem i_dcM {wi : WI} {g : WG} (h : wi ρ μ (fun ds gd μ1 => dcLoop gd g wt wa wb ρ (fun acc μ2 => ∀ a, μ2 a = none → Q (.raw a) (mset μ2 a (.dct acc))) ds [] μ1) E) : wDcM wi g wt wa wb ρ μ Q E := h
theorem i_enum {Q : List D → (Mu → Prop) → Mu → Prop} (h : wa ρ μ (fun x μ1 => ∃ ds, getL μ1 x = some ds ∧ Q (enumD 0 ds) (fun μ' => getL μ' x = some ds) μ1) E) : wEnum wa ρ μ Q E := h
theorem dcLoop_inv {gd : Mu → Prop} {g : WG} {tt : WT} {tk tv : WE} {ρ : Env} {Q : List (Key × D) → Mu → Prop} (I : List D → List (Key × D) → Mu → Prop) (hg : ∀ ds acc μ, I ds acc μ → gd μ) (hn : ∀ acc μ, I [] acc μ → Q acc μ)
    (hs : ∀ d ds acc μ, I (d :: ds) acc μ → ∀ Z : List (Key × D) → Mu → Prop, (∀ acc' μ', I ds acc' μ' → Z acc' μ') → g d ρ μ fun ρ1 => tt ρ1 μ (fun k μ1 => (k = true → tk ρ1 μ1 (fun y μ2 => tv ρ1 μ2 (fun z μ3 => ∃ kk, keyOf y = some kk ∧ acc.length < sizeLine ∧ Z (kput acc kk z) μ3) wNever) wNever) ∧ (k = false → Z acc μ1)) wNever) :
    ∀ ds acc μ, I ds acc μ → dcLoop gd g tt tk tv ρ Q ds acc μ
  | [], acc, μ, h => ⟨hg _ _ _ h, hn _ _ h⟩
  | d :: ds, acc, μ, h => ⟨hg _ _ _ h, hs d ds acc μ h (fun acc' μ' => dcLoop gd g tt tk tv ρ Q ds acc' μ') fun acc' μ' h' => dcLoop_inv I hg hn hs ds acc' μ' h'⟩
end
end T2

set_option maxRecDepth 100000
set_option maxHeartbeats 4000000
namespace T2
open PySem PySem.Spec PyProof.Rows L2
/-! ### one step of a reading, found by its head -/
class Step (p : Prop) (q : outParam Prop) : Prop where
  go : q → p
class Fork (p : Prop) (q r : outParam Prop) : Prop where
  go : q → r → p
section
variable {i j : Nat} {d d2 x y : D} {ρ : Env} {μ : Mu} {Q : PQ} {E : PX} {wa wb wc we : WE} {was wks : WA} {wt wt2 : WT} {w w2 : WS} {k : KS}
instance si_c  : Step (wC d ρ μ Q E) (Q d μ) := ⟨i_c⟩
instance si_op {g : G2} : Step (wOp g wa wb ρ μ Q E) (wa ρ μ (fun x μ1 => wb ρ μ1 (fun y μ2 => g x y μ2 Q) E) E) := ⟨i_op⟩
instance si_chain {g g' : G2} : Step (wChain g g' wa wb wc ρ μ Q E) (wa ρ μ (fun x μ1 => wb ρ μ1 (fun y μ2 => g x y μ2 fun z μ3 => ∃ k, z = .bl k ∧ (k = true → wc ρ μ3 (fun u μ4 => g' y u μ4 Q) E) ∧ (k = false → Q (.bl false) μ3)) E) E) := ⟨i_chain⟩
instance si_un {g : G1} : Step (wUn g wa ρ μ Q E) (wa ρ μ (fun x μ1 => g x μ1 Q) E) := ⟨i_un⟩
instance si_cb {g : GC} : Step (wCB g was ρ μ Q E) (was ρ μ (fun ds μ1 => g ds μ1 Q) E) := ⟨i_cb⟩
instance si_call {n : Nat} {sp : SpD} : Step (wCall n sp was ρ μ Q E) (was ρ μ (fun ds μ1 => ds.length = n ∧ sp ds μ1 Q E) E) := ⟨i_call⟩
instance si_callK {n m : Nat} {sp : SpD} : Step (wCallK n m sp was wks ρ μ Q E) (was ρ μ (fun ds μ1 => wks ρ μ1 (fun es μ2 => ds.length = n ∧ es.length = m ∧ sp (ds ++ es) μ2 Q E) E) E) := ⟨i_callK⟩
instance si_nil {Q : List D → Mu → Prop} : Step (wNil ρ μ Q E) (Q [] μ) := ⟨i_nil⟩
instance si_cons {Q : List D → Mu → Prop} : Step (wCons wa was ρ μ Q E) (wa ρ μ (fun x μ1 => was ρ μ1 (fun xs μ2 => Q (x :: xs) μ2) E) E) := ⟨i_cons⟩
instance si_tup  : Step (wTup was ρ μ Q E) (was ρ μ (fun ds μ' => ds.length ≤ sizeLine ∧ Q (.tup ds) μ') E) := ⟨i_tup⟩
instance si_lst  : Step (wLst was ρ μ Q E) (was ρ μ (fun ds μ' => ds.length ≤ sizeLine ∧ Q (.lst ds) μ') E) := ⟨i_lst⟩
instance si_lstM  : Step (wLstM was ρ μ Q E) (was ρ μ (fun ds μ' => ds.length ≤ sizeLine ∧ ∀ a, μ' a = none → Q (.raw a) (mset μ' a (.lst ds))) E) := ⟨i_lstM⟩
instance si_tru {Q : Bool → Mu → Prop} : Step (wTru we ρ μ Q E) (we ρ μ (fun d μ' => ∃ b, truthOk μ' d b ∧ Q b μ') E) := ⟨i_tru⟩
instance si_tb {Q : Bool → Mu → Prop} : Step (wTB we ρ μ Q E) (we ρ μ (fun d μ' => ∃ b, d = .bl b ∧ Q b μ') E) := ⟨i_tb⟩
instance si_bl {P : Bool → Prop} {b : Bool} : Step (∃ b', D.bl b = .bl b' ∧ P b') (P b) := ⟨i_bl⟩
instance si_notT {Q : Bool → Mu → Prop} : Step (wNotT wt ρ μ Q E) (wt ρ μ (fun b μ' => Q (!b) μ') E) := ⟨i_notT⟩
instance si_andT {Q : Bool → Mu → Prop} : Step (wAndT wt wt2 ρ μ Q E) (wt ρ μ (fun b μ' => (b = true → wt2 ρ μ' Q E) ∧ (b = false → Q false μ')) E) := ⟨i_andT⟩
instance si_orT {Q : Bool → Mu → Prop} : Step (wOrT wt wt2 ρ μ Q E) (wt ρ μ (fun b μ' => (b = true → Q true μ') ∧ (b = false → wt2 ρ μ' Q E)) E) := ⟨i_orT⟩
instance si_not  : Step (wNot wa ρ μ Q E) (wa ρ μ (fun x μ1 => ∃ k, truthOk μ1 x k ∧ Q (.bl (!k)) μ1) E) := ⟨i_not⟩
instance si_and  : Step (wAnd wa wb ρ μ Q E) (wa ρ μ (fun x μ1 => ∃ k, truthOk μ1 x k ∧ (k = true → wb ρ μ1 Q E) ∧ (k = false → Q x μ1)) E) := ⟨i_and⟩
instance si_or  : Step (wOr wa wb ρ μ Q E) (wa ρ μ (fun x μ1 => ∃ k, truthOk μ1 x k ∧ (k = true → Q x μ1) ∧ (k = false → wb ρ μ1 Q E)) E) := ⟨i_or⟩
instance si_if  : Step (wIf wt wa wb ρ μ Q E) (wt ρ μ (fun k μ1 => (k = true → wa ρ μ1 Q E) ∧ (k = false → wb ρ μ1 Q E)) E) := ⟨i_if⟩
instance si_isi {t : Ty} : Step (wIsi t wa ρ μ Q E) (wa ρ μ (fun d μ1 => ∃ s, tyn μ1 d = some s ∧ Q (.bl (isTy s t)) μ1) E) := ⟨i_isi⟩
instance si_mt {T : String} {g : GM} : Step (wMt T g wa was ρ μ Q E) (wa ρ μ (fun x μ1 => tym μ1 x = some T ∧ was ρ μ1 (fun xs μ2 => g x xs μ2 Q) E) E) := ⟨i_mt⟩
instance si_yes {Q : Bool → Mu → Prop} : Step (wYes ρ μ Q E) (Q true μ) := ⟨i_yes⟩
instance si_T {A B : Prop} : Step ((true = true → A) ∧ (true = false → B)) (A) := ⟨i_T⟩
instance si_F {A B : Prop} : Step ((false = true → A) ∧ (false = false → B)) (B) := ⟨i_F⟩
instance si_trB {b : Bool} {P : Bool → Prop} : Step (∃ k, truthOk μ (.bl b) k ∧ P k) (P b) := ⟨i_trB⟩
instance si_next  : Step (wNext k ρ μ) (k.nx ρ μ) := ⟨i_next⟩
instance si_asg  : Step (wAsg i we k ρ μ) (we ρ μ (fun d μ1 => k.nx (ρ.set i (some d)) μ1) (k.ex ρ)) := ⟨i_asg⟩
instance si_drop  : Step (wDrop we k ρ μ) (we ρ μ (fun _ μ1 => k.nx ρ μ1) (k.ex ρ)) := ⟨i_drop⟩
instance si_ret  : Step (wRet we k ρ μ) (we ρ μ (fun d μ1 => ∃ d' μ', Frz μ1 d μ' d' ∧ k.rt d' μ') (k.ex ρ)) := ⟨i_ret⟩
instance si_ifS  : Step (wIfS wt w w2 k ρ μ) (wt ρ μ (fun b μ1 => (b = true → w k ρ μ1) ∧ (b = false → w2 k ρ μ1)) (k.ex ρ)) := ⟨i_ifS⟩
instance si_asgG {g : WG} : Step (wAsgG g we k ρ μ) (we ρ μ (fun d μ1 => g d ρ μ1 fun ρ1 => k.nx ρ1 μ1) (k.ex ρ)) := ⟨i_asgG⟩
instance si_set {g : GSet} : Step (wSet g wa wb we k ρ μ) (we ρ μ (fun z μ1 => wa ρ μ1 (fun x μ2 => wb ρ μ2 (fun y μ3 => g x y z μ3 fun μ4 => k.nx ρ μ4) (k.ex ρ)) (k.ex ρ)) (k.ex ρ)) := ⟨i_set⟩
instance si_for {wi : WI} {g : WG} : Step (wFor wi g w k ρ μ) (wi ρ μ (fun ds gd μ1 => forLoop gd g w k ds ρ μ1) (k.ex ρ)) := ⟨i_for⟩
instance si_addI {a b : Int} : Step (gAdd (.int a) (.int b) μ Q) (Q (.int (a + b)) μ) := ⟨i_addI⟩
instance si_subI {a b : Int} : Step (gSub (.int a) (.int b) μ Q) (Q (.int (a - b)) μ) := ⟨i_subI⟩
instance si_negI {a : Int} : Step (gNeg (.int a) μ Q) (Q (.int (-a)) μ) := ⟨i_negI⟩
instance si_eqI {a b : Int} : Step (gEq (.int a) (.int b) μ Q) (Q (.bl (decide (a = b))) μ) := ⟨i_eqI⟩
instance si_neI {a b : Int} : Step (gNe (.int a) (.int b) μ Q) (Q (.bl (!decide (a = b))) μ) := ⟨i_neI⟩
instance si_ltI {a b : Int} : Step (gLt (.int a) (.int b) μ Q) (Q (.bl (decide (a < b))) μ) := ⟨i_ltI⟩
instance si_leI {a b : Int} : Step (gLe (.int a) (.int b) μ Q) (Q (.bl (decide (a ≤ b))) μ) := ⟨i_leI⟩
instance si_gtI {a b : Int} : Step (gGt (.int a) (.int b) μ Q) (Q (.bl (decide (b < a))) μ) := ⟨i_gtI⟩
instance si_geI {a b : Int} : Step (gGe (.int a) (.int b) μ Q) (Q (.bl (decide (b ≤ a))) μ) := ⟨i_geI⟩
instance si_is  : Step (gIs x .non μ Q) (Q (.bl (isNon x)) μ) := ⟨i_is⟩
instance si_isN  : Step (gIsNot x .non μ Q) (Q (.bl (!isNon x)) μ) := ⟨i_isN⟩
instance si_dz {was : WA} : Step (wDZ was ρ μ Q E) (was ρ μ (fun ds μ1 => ∃ (d : D) (ns : List Str) (x : Str), ds = [d, .str x] ∧ getL μ1 d = some (ns.map D.str) ∧ Q (.dct (kmerge [] (zipD ns x))) μ1) E) := ⟨i_dz⟩
instance si_dict0T  : Step (wDict0T ρ μ Q E) (∀ a, μ a = none → Q (.raw a) (mset μ a (.dts []))) := ⟨i_dict0T⟩
instance si_absI {a : Int} : Step (gAbs [.int a] μ Q) (Q (.int (if a < 0 then -a else a)) μ) := ⟨i_absI⟩
instance si_intI {a : Int} : Step (gInt [.int a] μ Q) (Q (.int a) μ) := ⟨i_intI⟩
instance si_maxI {a b : Int} : Step (gMaxB [.int a, .int b] μ Q) (Q (.int (if b > a then b else a)) μ) := ⟨i_maxI⟩
instance si_maxS {a b : Str} : Step (gMaxB [.str a, .str b] μ Q) (Q (.str (if SrtO.ltS a b = true then b else a)) μ) := ⟨i_maxS⟩
instance si_minI {a b : Int} : Step (gMinB [.int a, .int b] μ Q) (Q (.int (if b < a then b else a)) μ) := ⟨i_minI⟩
instance si_minS {a b : Str} : Step (gMinB [.str a, .str b] μ Q) (Q (.str (if SrtO.ltS b a = true then b else a)) μ) := ⟨i_minS⟩
instance si_rev {ds : List D} : Step (gRev (.lst ds) μ Q) (Q (.lst ds.reverse) μ) := ⟨i_rev⟩
instance si_tupleT {ds : List D} : Step (gTuple [.tup ds] μ Q) (Q (.tup ds) μ) := ⟨i_tupleT⟩
instance si_lenF {ds : List D} : Step (gLen [.lst ds] μ Q) (Q (.int ds.length) μ) := ⟨i_lenF⟩
instance si_raise {c : Str} {fs : List Str} : Step (wRaise c fs was k ρ μ) (was ρ μ (fun ds μ1 => ds.length = fs.length ∧ k.ex ρ c (fs.zip ds).reverse μ1) (k.ex ρ)) := ⟨i_raise⟩
instance si_try {is : Str → Bool} {ws : Addr → Addr → Option Addr → WS} : Step (wTry is i w ws k ρ μ) (w { nx := k.nx, rt := k.rt, bk := k.bk, ct := k.ct, ex := fun ρ' c fs μ' => (is c = true → ∀ a ca dx, ws a ca dx { nx := fun ρ2 μ2 => k.nx (ρ2.set i none) μ2, rt := k.rt, bk := fun ρ2 μ2 => k.bk (ρ2.set i none) μ2, ct := fun ρ2 μ2 => k.ct (ρ2.set i none) μ2, ex := fun _ => wNever } (ρ'.set i (some (.exc a ca dx c fs))) μ') ∧ (is c = false → k.ex ρ' c fs μ') } ρ μ) := ⟨i_try⟩
instance si_xf {a ca : Addr} {dx : Option Addr} {f : Str} : Step (wXf a ca dx f we ρ μ Q E) (we ρ μ (fun d μ1 => ∃ c fs v, d = .exc a ca dx c fs ∧ fs.lookup f = some v ∧ Q v μ1) E) := ⟨i_xf⟩
instance si_xi {a ca : Addr} {dx : Option Addr} {is : Str → Bool} : Step (wXi a ca dx is we ρ μ Q E) (we ρ μ (fun d μ1 => ∃ c fs, d = .exc a ca dx c fs ∧ Q (.bl (is c)) μ1) E) := ⟨i_xi⟩
instance si_callX {a ca : Addr} {dx : Option Addr} {sp : SpX} : Step (wCallX a ca dx sp we ρ μ Q E) (we ρ μ (fun d μ1 => ∃ c fs, d = .exc a ca dx c fs ∧ sp c fs μ1 Q) E) := ⟨i_callX⟩
instance si_callXv {a ca : Addr} {dx : Option Addr} {c : Str} {fs : FE} {P : Str → FE → Prop} : Step (∃ c' fs', D.exc a ca dx c fs = .exc a ca dx c' fs' ∧ P c' fs') (P c fs) := ⟨i_callXv⟩
instance si_xiv {a ca : Addr} {dx : Option Addr} {c : Str} {fs : FE} {P : Str → Prop} : Step (∃ c' fs', D.exc a ca dx c fs = .exc a ca dx c' fs' ∧ P c') (P c) := ⟨i_xiv⟩
instance si_dictM {ps : List (WE × WE)} {ρ : Env} {μ : Mu} {Q : PQ} {E : PX} : Step (wDictM ps ρ μ Q E) (wPairs ps ρ μ (fun xs μ1 => ∃ ks, keysOf xs = some ks ∧ ks.length ≤ 15 ∧ ∀ a, μ1 a = none → Q (.raw a) (mset μ1 a (.dct (kmerge [] ks)))) E) := ⟨i_dictM⟩
instance si_dict {ps : List (WE × WE)} {ρ : Env} {μ : Mu} {Q : PQ} {E : PX} : Step (wDict ps ρ μ Q E) (wPairs ps ρ μ (fun xs μ1 => ∃ ks, keysOf xs = some ks ∧ ks.length ≤ 15 ∧ Q (.dct (kmerge [] ks)) μ1) E) := ⟨i_dict⟩
instance si_sl {ρ : Env} {μ : Mu} {Q : PQ} {E : PX} {wa : WE} {g : D → Option Int → Option Int → Mu → PQ → Prop} {wl wh : WO} : Step (wSl g wa wl wh ρ μ Q E) (wa ρ μ (fun x μ1 => wl ρ μ1 (fun lo μ2 => wh ρ μ2 (fun hi μ3 => g x lo hi μ3 Q) E) E) E) := ⟨i_sl⟩
instance si_noP {ρ : Env} {μ : Mu} {Q : Option Int → Mu → Prop} {E : PX} : Step (wNoP ρ μ Q E) (Q none μ) := ⟨i_noP⟩
instance si_part {ρ : Env} {μ : Mu} {Q : Option Int → Mu → Prop} {E : PX} {wa : WE} : Step (wPart wa ρ μ Q E) (wa ρ μ (fun d μ1 => IsP d Q μ1) E) := ⟨i_part⟩
instance si_isP {μ : Mu} {Q : Option Int → Mu → Prop} {a : Int} : Step (IsP (.int a) Q μ) (Q (some a) μ) := ⟨i_isP⟩
instance si_p0 {ρ : Env} {μ : Mu} {Q : List (D × D) → Mu → Prop} {E : PX} : Step (wPairs [] ρ μ Q E) (Q [] μ) := ⟨i_p0⟩
instance si_p1 {k v : WE} {r : List (WE × WE)} {ρ : Env} {μ : Mu} {Q : List (D × D) → Mu → Prop} {E : PX} : Step (wPairs ((k, v) :: r) ρ μ Q E) (k ρ μ (fun x μ1 => v ρ μ1 (fun y μ2 => wPairs r ρ μ2 (fun ps μ3 => Q ((x, y) :: ps) μ3) E) E) E) := ⟨i_p1⟩
instance si_eqB {a b : Bool} {μ : Mu} {Q : PQ} : Step (gEq (.bl a) (.bl b) μ Q) (Q (.bl (decide (a = b))) μ) := ⟨i_eqB⟩
instance si_eqT {a b : Str} {μ : Mu} {Q : PQ} : Step (gEq (.str a) (.str b) μ Q) (Q (.bl (decide (a = b))) μ) := ⟨i_eqT⟩
instance si_neT {a b : Str} {μ : Mu} {Q : PQ} : Step (gNe (.str a) (.str b) μ Q) (Q (.bl (!decide (a = b))) μ) := ⟨i_neT⟩
instance si_tryM {cl : List ClD} : Step (wTryM cl w k ρ μ) (w { nx := k.nx, rt := k.rt, bk := k.bk, ct := k.ct, ex := exM k cl } ρ μ) := ⟨i_tryM⟩
instance si_exC {is : Str → Bool} {ws : Addr → Addr → Option Addr → WS} {r : List ClD} {c : Str} {fs : FE} : Step (exM k ((is, i, ws) :: r) ρ c fs μ) ((is c = true → ∀ a ca dx, ws a ca dx { nx := fun ρ2 μ2 => k.nx (ρ2.set i none) μ2, rt := k.rt, bk := fun ρ2 μ2 => k.bk (ρ2.set i none) μ2, ct := fun ρ2 μ2 => k.ct (ρ2.set i none) μ2, ex := fun _ => wNever } (ρ.set i (some (.exc a ca dx c fs))) μ) ∧ (is c = false → exM k r ρ c fs μ)) := ⟨i_exC⟩
instance si_exN {c : Str} {fs : FE} : Step (exM k [] ρ c fs μ) (k.ex ρ c fs μ) := ⟨i_exN⟩
instance si_lc {wi : WI} {g : WG} : Step (wLc wi g wt we ρ μ Q E) (wi ρ μ (fun ds gd μ1 => lcLoop gd g wt we ρ (fun acc μ2 => Q (.lst acc) μ2) ds [] μ1) E) := ⟨i_lc⟩
instance si_lcM {wi : WI} {g : WG} : Step (wLcM wi g wt we ρ μ Q E) (wi ρ μ (fun ds gd μ1 => lcLoop gd g wt we ρ (fun acc μ2 => ∀ a, μ2 a = none → Q (.raw a) (mset μ2 a (.lst acc))) ds [] μ1) E) := ⟨i_lcM⟩
instance si_it {Q : List D → (Mu → Prop) → Mu → Prop} : Step (wIt we ρ μ Q E) (we ρ μ (fun x μ1 => (∃ ds, getS μ1 x = some ds ∧ Q ds (fun μ' => getS μ' x = some ds) μ1) ∨ (∃ s, x = .str s ∧ Q (signs s) (fun _ => True) μ1) ∨ (∃ ks, x = .dcf ks ∧ Q (ks.map fun k => keyD k.1) (fun _ => True) μ1)) E) := ⟨i_it⟩
instance si_name {i : Nat} {Q : Env → Prop} : Step (wgName i d ρ μ Q) (Q (ρ.set i (some d))) := ⟨i_name⟩
instance si_rng1 {Q : List D → (Mu → Prop) → Mu → Prop} : Step (wRng1 wa ρ μ Q E) (wa ρ μ (fun d μ1 => ∃ j, d = .int j ∧ -(2 ^ 62) ≤ j ∧ j < 2 ^ 62 ∧ Q (rngD 0 j.toNat) (fun _ => True) μ1) E) := ⟨i_rng1⟩
instance si_fld {f : Str} : Step (wFld f we ρ μ Q E) (we ρ μ (fun x μ1 => ∃ c fs v, getO μ1 x = some (c, fs) ∧ fs.lookup f = some v ∧ Q v μ1) E) := ⟨i_fld⟩
instance si_prop {c : Str} {sp : SpD} : Step (wProp c sp we ρ μ Q E) (we ρ μ (fun x μ1 => (∃ fs, getO μ1 x = some (c, fs)) ∧ sp [x] μ1 Q (fun _ _ _ => False)) E) := ⟨i_prop⟩
instance si_isO {c : Str} {fs : FE} {P : Prop} : Step ((∃ fs', getO μ (.obj c fs) = some (c, fs')) ∧ P) (P) := ⟨i_isO⟩
instance si_meth {c m : Str} {n : Nat} {sp : SpD} : Step (wMeth c m n sp wa was ρ μ Q E) (wa ρ μ (fun x μ1 => (∃ fs, getO μ1 x = some (c, fs) ∧ fs.lookup m = none) ∧ was ρ μ1 (fun ds μ2 => ds.length = n ∧ sp (x :: ds) μ2 Q E) E) E) := ⟨i_meth⟩
instance si_setF {f : Str} : Step (wSetF f wa we k ρ μ) (we ρ μ (fun y μ1 => wa ρ μ1 (fun x μ2 => ∃ a c fs, x = .raw a ∧ μ2 a = some (.ins c fs) ∧ fs.length < 1000 ∧ k.nx ρ (mset μ2 a (.ins c (putFD f y fs)))) (k.ex ρ)) (k.ex ρ)) := ⟨i_setF⟩
instance si_lk  : Step (wLk we ρ μ Q E) (we ρ μ (fun d μ1 => ∃ a ks, d = .raw a ∧ μ1 a = some (.dct ks) ∧ Q (.dcf ks) (mdel μ1 a)) E) := ⟨i_lk⟩
instance si_joined {ws : List WE} : Step (wJoined ws ρ μ Q E) (wJs ws Str.empty ρ μ (fun out μ1 => Q (.str out) μ1) E) := ⟨i_joined⟩
instance si_js0 {acc : Str} {Q : Str → Mu → Prop} : Step (wJs [] acc ρ μ Q E) (Q acc μ) := ⟨i_js0⟩
instance si_js1 {ws : List WE} {acc : Str} {Q : Str → Mu → Prop} : Step (wJs (wa :: ws) acc ρ μ Q E) (wa ρ μ (fun x μ1 => ∃ y : Str, x = .str y ∧ (acc ++ y).length ≤ sizeLine ∧ wJs ws (acc ++ y) ρ μ1 Q E) E) := ⟨i_js1⟩
instance si_fmt  : Step (wFmt we ρ μ Q E) (we ρ μ (fun x μ1 => (∃ y : Str, x = .str y ∧ y.length ≤ sizeLine ∧ Q (.str y) μ1) ∨ ∃ i : Int, x = .int i ∧ i.natAbs.log2 < 1920 ∧ Q (.str (toString i)) μ1) E) := ⟨i_fmt⟩
instance si_dc {wi : WI} {g : WG} : Step (wDc wi g wt wa wb ρ μ Q E) (wi ρ μ (fun ds gd μ1 => dcLoop gd g wt wa wb ρ (fun acc μ2 => Q (.dct acc) μ2) ds [] μ1) E) := ⟨i_dc⟩
instance si_dcM {wi : WI} {g : WG} : Step (wDcM wi g wt wa wb ρ μ Q E) (wi ρ μ (fun ds gd μ1 => dcLoop gd g wt wa wb ρ (fun acc μ2 => ∀ a, μ2 a = none → Q (.raw a) (mset μ2 a (.dct acc))) ds [] μ1) E) := ⟨i_dcM⟩
instance si_enum {Q : List D → (Mu → Prop) → Mu → Prop} : Step (wEnum wa ρ μ Q E) (wa ρ μ (fun x μ1 => ∃ ds, getL μ1 x = some ds ∧ Q (enumD 0 ds) (fun μ' => getL μ' x = some ds) μ1) E) := ⟨i_enum⟩
instance si_dec {p : Prop} [Decidable p] {A B : Prop} : Fork ((decide p = true → A) ∧ (decide p = false → B)) (p → A) (¬p → B) := ⟨i_dec⟩
instance si_ndec {p : Prop} [Decidable p] {A B : Prop} : Fork (((!decide p) = true → A) ∧ ((!decide p) = false → B)) (¬p → A) (p → B) := ⟨i_ndec⟩
end
end T2

set_option maxRecDepth 100000
set_option maxHeartbeats 4000000
set_option hygiene false
local macro_rules | `(tactic| rotate_left 901) => `(tactic| (repeat' (first | (with_reducible refine Step.go ?_) | (with_reducible refine i_var (by with_unfolding_all apply Eq.refl) ?_) | (with_reducible refine i_seq ?_) | (with_reducible refine i_rt ?_) | (with_reducible refine Fork.go (fun h => ?_) (fun h => ?_)) | (with_reducible refine i_ixS (by with_reducible first | assumption | apply mset_same) (by with_unfolding_all apply Eq.refl) ?_) | (with_reducible refine i_ixF (by with_unfolding_all apply Eq.refl) ?_) | (with_reducible refine i_ixT (by with_unfolding_all apply Eq.refl) ?_) | (with_reducible refine i_xfv (by with_unfolding_all apply Eq.refl) ?_) | (with_reducible refine i_isv (by with_unfolding_all apply Eq.refl) ?_) | (with_reducible refine i_isvL (by with_reducible first | assumption | apply mset_same) ?_) | (with_reducible refine i_Tv (by with_unfolding_all apply Eq.refl) ?_) | (with_reducible refine i_Fv (by with_unfolding_all apply Eq.refl) ?_) | (with_reducible refine i_lcC (by first | apply True.intro | with_unfolding_all apply Eq.refl) ?_) | (with_reducible refine i_lcN (by first | apply True.intro | with_unfolding_all apply Eq.refl) ?_) | (with_reducible refine i_forC (by first | apply True.intro | with_unfolding_all apply Eq.refl) ?_) | (with_reducible refine i_forN (by first | apply True.intro | with_unfolding_all apply Eq.refl) ?_) | (with_reducible refine i_sz2 (by with_unfolding_all apply Eq.refl) ?_) | (with_reducible refine i_size (by with_unfolding_all apply Eq.refl) ?_) | (with_reducible refine i_gT (by with_unfolding_all apply Eq.refl) ?_) | (with_reducible refine i_fldO (by with_unfolding_all apply Eq.refl) ?_) | (with_reducible refine i_fldR (by with_reducible first | assumption | apply mset_same) (by with_unfolding_all apply Eq.refl) ?_) | (with_reducible refine i_isR (by with_reducible first | assumption | apply mset_same) ?_) | (with_reducible refine i_isOm (by with_unfolding_all apply Eq.refl) ?_) | (with_reducible refine i_isRm (by with_reducible first | assumption | apply mset_same) (by with_unfolding_all apply Eq.refl) ?_) | (with_reducible refine i_setR (by with_reducible first | assumption | apply mset_same) (by with_unfolding_all apply Eq.refl) ?_) | (with_reducible refine i_lkR (by with_reducible first | assumption | apply mset_same) ?_) | (with_reducible refine i_powC (by decide) (by decide) (by decide) ?_) | (with_reducible refine i_setL (by with_reducible first | assumption | apply mset_same) (by with_unfolding_all apply Eq.refl) ?_) | (with_reducible refine i_lenS (by with_reducible first | assumption | apply mset_same) ?_))))
namespace T2
open PySem PySem.Spec PyProof.Rows L2
/-! ### bounds by powers of two -/
def Bd (n : Nat) (i : Int) : Prop := i.natAbs < 2 ^ n
def BB : Nat := 1048576
theorem Bd.mono {n m : Nat} {i : Int} (h : Bd n i) (l : n ≤ m) : Bd m i := Nat.lt_of_lt_of_le h (Nat.pow_le_pow_right (by decide) l)
theorem Bd.mul {n m : Nat} {i j : Int} (h : Bd n i) (h2 : Bd m j) (l : n + m ≤ 134217728) : CMulX i j := mulx_ok h h2 l
theorem Bd.nat {n : Nat} {i : Int} (h0 : 0 ≤ i) (h1 : i < 2 ^ n) : Bd n i := by
  obtain ⟨j, rfl⟩ := Int.eq_ofNat_of_zero_le h0
  show j < 2 ^ n
  exact Int.ofNat_lt.mp (by rw [Int.natCast_pow]; exact h1)
theorem Bd.abs {n : Nat} {i j : Int} (h : Bd n i) (e : j.natAbs = i.natAbs) : Bd n j := by unfold Bd; rw [e]; exact h
theorem Bd.le {n : Nat} {i j : Int} (h : Bd n i) (h0 : 0 ≤ j) (h1 : j ≤ i) : Bd n j := Nat.lt_of_le_of_lt (show j.natAbs ≤ i.natAbs by omega) h
theorem Bd.dbl {n : Nat} {i j : Int} (h : Bd n i) (l : j.natAbs ≤ 2 * i.natAbs + 1) : Bd (n + 1) j := by
  unfold Bd at h ⊢
  have e : 2 ^ (n + 1) = 2 * 2 ^ n := by rw [Nat.pow_succ, Nat.mul_comm]
  omega
theorem Bd.ofBits {n : Nat} {i : Int} (h : Builtin.Int.intBits i ≤ n) : Bd n i := by
  unfold Bd
  unfold Builtin.Int.intBits at h
  by_cases e : i = 0
  · subst e; exact Nat.two_pow_pos n
  · rw [if_neg (by simpa using e)] at h
    have := Nat.lt_log2_self (n := i.natAbs)
    exact Nat.lt_of_lt_of_le this (Nat.pow_le_pow_right (by decide) h)
theorem bb2 : BB + 1 + 61 ≤ 134217728 := by decide
/-! ### the hidden chooser -/
/-! _law_mixed -/
def N_mixed : List Str := ["_law_number_here", "_law_turn", "_law_many", "_law_one", "_law_two", "_law_three", "_law_value"]
def P_mixed : List Str := ["_law_number_here", "_law_turn", "_law_many"]
abbrev w_mixed_p0 : WS := (wSeq (wAsg 5 (wOp gMod (wCB gInt (wCons (wOp gAdd (wOp gMul (wVar 4) (wVar 4)) (wVar 3)) wNil)) (wC (.int 18446744073709551557))))
  (wSeq (wAsg 6 (wOp gDiv (wVar 5) (wC (.int 1024))))
  (wSeq (wIfS (wTB (wOp gGt (wVar 2) (wC (.int 1000000)))) (wAsg 6 (wOp gAdd (wOp gMul (wVar 6) (wC (.int 18446744073709551557))) (wOp gMod (wCB gInt (wCons (wOp gAdd (wOp gMul (wVar 5) (wVar 5)) (wVar 4)) wNil)) (wC (.int 18446744073709551557))))) wNext)
  (wRet (wOp gMod (wCB gInt (wCons (wVar 6) wNil)) (wVar 2))))))
def w_mixed  : WS := (wSeq (wAsg 3 (wOp gMod (wCB gInt (wCons (wOp gAdd (wOp gAdd (wOp gMul (wVar 0) (wC (.int 1442695040888963407))) (wOp gMul (wVar 1) (wC (.int 2862933555777941757)))) (wC (.int 3037000493))) wNil)) (wC (.int 2305843009213693951))))
  (wSeq (wAsg 4 (wOp gMod (wCB gInt (wCons (wOp gAdd (wOp gAdd (wOp gMul (wVar 3) (wVar 3)) (wVar 1)) (wC (.int 7))) wNil)) (wC (.int 1000000000000037))))
  w_mixed_p0))
def sp_mixed : SpD := fun ds μ Q _ => ∃ n t m : Int, ds = [.int n, .int t, .int m] ∧ Bd (BB + 1) n ∧ Bd 61 t ∧ 0 < m ∧ ∀ r : Int, 0 ≤ r → r < m → Q (.int r) μ
theorem pf_mixed : ∀ ds μ Q E, sp_mixed ds μ Q E → w_mixed (endK Q E) (startD N_mixed ds) μ := by
  rintro ds μ Q E ⟨n, t, m, rfl, hn, ht, hm, q⟩
  unfold w_mixed
  rotate_left 901
  refine i_mulI (hn.mul (show Bd 61 1442695040888963407 by unfold Bd; decide) bb2) ?_
  rotate_left 901
  refine i_mulI (ht.mul (show Bd 62 2862933555777941757 by unfold Bd; decide) (by decide)) ?_
  rotate_left 901
  refine i_modG (by decide) fun r1 h1 h1' => ?_
  have b1 : Bd 61 r1 := .nat h1 (by omega)
  rotate_left 901
  refine i_mulI (b1.mul b1 (by decide)) ?_
  rotate_left 901
  refine i_modG (by decide) fun r2 h2 h2' => ?_
  have b2 : Bd 61 r2 := .nat h2 (by omega)
  rotate_left 901
  refine i_mulI (b2.mul b2 (by decide)) ?_
  rotate_left 901
  refine i_modG (by decide) fun r3 h3 h3' => ?_
  have b3 : Bd 64 r3 := .nat h3 (by omega)
  rotate_left 901
  refine i_divG ⟨by decide, by decide⟩ h3 fun r4 h4 h4' => ?_
  have b4 : Bd 64 r4 := .nat h4 (by omega)
  rotate_left 901
  · refine i_mulI (b4.mul (show Bd 64 18446744073709551557 by unfold Bd; decide) (by decide)) ?_
    rotate_left 901
    refine i_mulI (b3.mul b3 (by decide)) ?_
    rotate_left 901
    refine i_modG (by decide) fun r5 h5 h5' => ?_
    rotate_left 901
    refine i_modG hm fun r6 h6 h6' => ?_
    rotate_left 901
    exact q _ h6 h6'
  · refine i_modG hm fun r6 h6 h6' => ?_
    rotate_left 901
    exact q _ h6 h6'
theorem mset_self {μ : Mu} {a : Addr} {o : MO} (h : μ a = some o) : mset μ a o = μ := by
  funext b
  unfold mset
  split
  · rename_i e; rw [e, h]
  · rfl
/-- the store: cells, place, value, turn, seed; b: above its turn -/
def StO (b : Int) (o : MO) : Prop := ∃ (cs : List Int) (p v t n : Int), o = .lst [.lst (cs.map D.int), .int p, .int v, .int t, .int n] ∧ (∀ c ∈ cs, Bd BB c) ∧ 0 ≤ p ∧ 0 ≤ v ∧ Bd BB v ∧ 0 ≤ t ∧ t < b ∧ Bd 61 n
theorem StO.mono {b b' : Int} {o : MO} (h : StO b o) (l : b ≤ b') : StO b' o := by
  obtain ⟨cs, p, v, t, n, e, h1, h2, h3, h4, h5, h6, h7⟩ := h
  exact ⟨cs, p, v, t, n, e, h1, h2, h3, h4, h5, by omega, h7⟩
theorem cell_at {cs : List Int} {p : Int} (h0 : 0 ≤ p) (h1 : p < (cs.map D.int).length) : ∃ c ∈ cs, atI (cs.map D.int) p = some (.int c) := by
  obtain ⟨h, e⟩ := atI_ok h0 h1
  refine ⟨cs[p.toNat]'(by rw [List.length_map] at h; exact h), List.getElem_mem _, ?_⟩
  rw [e, List.getElem_map]
def sp_take : SpD := fun ds μ Q _ => ∃ (a : Addr) (o : MO) (b m : Int), ds = [.raw a, .int m] ∧ μ a = some o ∧ StO b o ∧ b < 1000000000000000000 ∧ m < 1000000000000000000000 ∧ ∀ (r : Int) (o' : MO), 0 ≤ r → (r < m ∨ r = 0) → StO (b + 1) o' → Q (.int r) (mset μ a o')
/-! _law_take -/
def N_take : List Str := ["_law_store_here", "_law_many", "_law_value", "_law_number_here", "_law_cell"]
def P_take : List Str := ["_law_store_here", "_law_many"]
abbrev w_take_p0 : WS := (wSeq (wAsg 4 (wOp gIx (wOp gIx (wVar 0) (wC (.int 0))) (wOp gIx (wVar 0) (wC (.int 1)))))
      (wSeq (wSet gSet (wVar 0) (wC (.int 1)) (wOp gAdd (wOp gIx (wVar 0) (wC (.int 1))) (wC (.int 1))))
      (wSeq (wAsg 3 (wOp gMul (wCB gAbs (wCons (wVar 4) wNil)) (wC (.int 2))))
      (wSeq (wIfS (wTB (wOp gLt (wVar 4) (wC (.int 0)))) (wAsg 3 (wOp gAdd (wVar 3) (wC (.int 1)))) wNext)
      (wIfS (wTB (wOp gGe (wCB gAbs (wCons (wVar 4) wNil)) (wOp gPow (wC (.int 10)) (wC (.int 18))))) (wAsg 2 (wCB gAbs (wCons (wVar 4) wNil))) wNext)))))
abbrev w_take_p1 : WS := (wSeq (wIfS (wTB (wOp gEq (wVar 2) (wC (.int 0)))) (wSeq (wSet gSet (wVar 0) (wC (.int 3)) (wOp gAdd (wOp gIx (wVar 0) (wC (.int 3))) (wC (.int 1))))
    (wIfS (wTB (wOp gLt (wOp gIx (wVar 0) (wC (.int 1))) (wCB gLen (wCons (wOp gIx (wVar 0) (wC (.int 0))) wNil)))) w_take_p0 wNext)) wNext)
  (wSeq (wIfS (wTB (wOp gEq (wVar 2) (wC (.int 0)))) (wRet (wCall 3 sp_mixed (wCons (wVar 3) (wCons (wOp gIx (wVar 0) (wC (.int 3))) (wCons (wVar 1) wNil))))) wNext)
  (wSeq (wSet gSet (wVar 0) (wC (.int 2)) (wOp gDiv (wCB gInt (wCons (wVar 2) wNil)) (wVar 1)))
  (wRet (wOp gMod (wCB gInt (wCons (wVar 2) wNil)) (wVar 1))))))
def w_take  : WS := (wSeq (wIfS (wTB (wOp gLt (wVar 1) (wC (.int 2)))) (wRet (wC (.int 0))) wNext)
  (wSeq (wAsg 2 (wOp gIx (wVar 0) (wC (.int 2))))
  (wSeq (wAsg 3 (wOp gIx (wVar 0) (wC (.int 4))))
  w_take_p1)))
theorem pf_take : ∀ ds μ Q E, sp_take ds μ Q E → w_take (endK Q E) (startD N_take ds) μ := by
  rintro ds μ Q E ⟨a, o, b, m, rfl, hμ, ho, hb, hm, q⟩
  have ho' := ho
  obtain ⟨cs, p, v, t, n, rfl, h1, h2, h3, h4, h5, h6, h7⟩ := ho
  unfold w_take
  rotate_left 901
  · have := q 0 _ (Int.le_refl 0) (.inr rfl) (ho'.mono (by omega))
    rw [mset_self hμ] at this
    exact this
  all_goals have hm0 : 0 < m := by omega
  all_goals have hml : m.natAbs.log2 < 9000 := Nat.lt_trans (PySem.Flt.log2_lt_of (k := 70) (by decide) (show m.natAbs < 2 ^ 70 by omega)) (by decide)
  · obtain ⟨c, hc, e⟩ := cell_at h2 h
    have hcb := h1 c hc
    refine i_ixF e ?_
    rotate_left 901
    refine i_mulI (Bd.mul (n := BB) (m := 2) (hcb.abs (by split <;> omega)) (by unfold Bd; decide) (by decide)) ?_
    rotate_left 901
    all_goals first
      | (exfalso; omega)
      | (refine ⟨rfl, _, _, _, rfl, Bd.dbl hcb (by split <;> omega), .nat (by omega) (by omega), by omega, fun r hr0 hr1 => ?_⟩
         rotate_left 901
         rw [mset_mset]
         exact q r _ hr0 (.inl hr1) ⟨cs, p + 1, v, t + 1, n, rfl, h1, by omega, h3, h4, by omega, by omega, h7⟩)
      | (refine i_divG ⟨hm0, hml⟩ (by split <;> omega) fun r1 g1 g2 => ?_
         rotate_left 901
         refine i_modG hm0 fun r2 g3 g4 => ?_
         rotate_left 901
         rw [mset_mset, mset_mset]
         exact q _ _ g3 (.inl g4) ⟨cs, p + 1, r1, t + 1, n, rfl, h1, by omega, g1, Bd.le (hcb.abs (show (if c < 0 then -c else c).natAbs = c.natAbs by split <;> omega)) g1 g2, by omega, by omega, h7⟩)
  · refine ⟨rfl, _, _, _, rfl, h7.mono (by decide), .nat (by omega) (by omega), by omega, fun r hr0 hr1 => ?_⟩
    rotate_left 901
    exact q r _ hr0 (.inl hr1) ⟨cs, p, v, t + 1, n, rfl, h1, h2, h3, h4, by omega, by omega, h7⟩
  · omega
  · omega
  · refine i_divG ⟨hm0, hml⟩ h3 fun r1 g1 g2 => ?_
    rotate_left 901
    refine i_modG hm0 fun r2 g3 g4 => ?_
    rotate_left 901
    exact q _ _ g3 (.inl g4) ⟨cs, p, r1, t, n, rfl, h1, h2, g1, h4.le g1 g2, h5, by omega, h7⟩
end T2


set_option maxRecDepth 100000
set_option maxHeartbeats 4000000
namespace T2
open PySem PySem.Spec PyProof.Rows L2
section
variable {a : Addr} {o : MO} {b m : Int} {μ : Mu} {Q : PQ} {E : PX}
theorem i_take (hμ : μ a = some o) (ho : StO b o) (hb : b < 1000000000000000000) (hm : m < 1000000000000000000000) (q : ∀ (r : Int) (o' : MO), 0 ≤ r → (r < m ∨ r = 0) → StO (b + 1) o' → Q (.int r) (mset μ a o')) :
    [D.raw a, D.int m].length = 2 ∧ sp_take [.raw a, .int m] μ Q E := ⟨rfl, a, o, b, m, rfl, hμ, ho, hb, hm, q⟩
end
/-! _law_chance -/
def N_chance : List Str := ["_law_store_here", "_law_many"]
def P_chance : List Str := ["_law_store_here", "_law_many"]
def w_chance  : WS := (wRet (wOp gEq (wCall 2 sp_take (wCons (wVar 0) (wCons (wVar 1) wNil))) (wC (.int 0))))
/-! _law_pick -/
def N_pick : List Str := ["_law_store_here", "_law_row"]
def P_pick : List Str := ["_law_store_here", "_law_row"]
def w_pick  : WS := (wSeq (wIfS (wTB (wOp gEq (wCB gLen (wCons (wVar 1) wNil)) (wC (.int 0)))) (wRet (wC .non)) wNext)
  (wRet (wOp gIx (wVar 1) (wCall 2 sp_take (wCons (wVar 0) (wCons (wCB gLen (wCons (wVar 1) wNil)) wNil))))))
def sp_chance : SpD := fun ds μ Q _ => ∃ (a : Addr) (o : MO) (b m : Int), ds = [.raw a, .int m] ∧ μ a = some o ∧ StO b o ∧ b < 1000000000000000000 ∧ m < 1000000000000000000000 ∧ ∀ (k : Bool) (o' : MO), StO (b + 1) o' → Q (.bl k) (mset μ a o')
theorem pf_chance : ∀ ds μ Q E, sp_chance ds μ Q E → w_chance (endK Q E) (startD N_chance ds) μ := by
  rintro ds μ Q E ⟨a, o, b, m, rfl, hμ, ho, hb, hm, q⟩
  unfold w_chance
  rotate_left 901
  refine i_take hμ ho hb hm fun r o' h0 h1 ho' => ?_
  rotate_left 901
  exact q _ _ ho'
theorem i_chance {a : Addr} {o : MO} {b m : Int} {μ : Mu} {Q : PQ} {E : PX} (hμ : μ a = some o) (ho : StO b o) (hb : b < 1000000000000000000) (hm : m < 1000000000000000000000) (q : ∀ (k : Bool) (o' : MO), StO (b + 1) o' → Q (.bl k) (mset μ a o')) :
    [D.raw a, D.int m].length = 2 ∧ sp_chance [.raw a, .int m] μ Q E := ⟨rfl, a, o, b, m, rfl, hμ, ho, hb, hm, q⟩
def sp_pick : SpD := fun ds μ Q _ => ∃ (a : Addr) (o : MO) (b : Int) (row : D) (xs : List D), ds = [.raw a, row] ∧ μ a = some o ∧ StO b o ∧ b < 1000000000000000000 ∧ getS μ row = some xs ∧ (∀ o', getS (mset μ a o') row = some xs) ∧ xs.length < 1000000000 ∧
  ((xs = [] → Q .non μ) ∧ ∀ x ∈ xs, ∀ o', StO (b + 1) o' → Q x (mset μ a o'))
theorem pf_pick : ∀ ds μ Q E, sp_pick ds μ Q E → w_pick (endK Q E) (startD N_pick ds) μ := by
  rintro ds μ Q E ⟨a, o, b, row, xs, rfl, hμ, ho, hb, hr, hr2, hl, q1, q2⟩
  unfold w_pick
  rotate_left 901
  refine i_lenL hr ?_
  rotate_left 901
  · exact q1 (List.length_eq_zero_iff.mp (by omega))
  · refine i_lenL hr ?_
    rotate_left 901
    refine i_take hμ ho hb (by omega) fun r o' h0 h1 ho' => ?_
    have hr1 : r < xs.length := by omega
    obtain ⟨hx, e⟩ := atI_ok h0 hr1
    refine i_ix (hr2 o') e ?_
    rotate_left 901
    exact q2 _ (List.getElem_mem _) _ ho'
theorem i_pick {a : Addr} {o : MO} {b : Int} {row : D} {xs : List D} {μ : Mu} {Q : PQ} {E : PX} (hμ : μ a = some o) (ho : StO b o) (hb : b < 1000000000000000000) (hr : getS μ row = some xs) (hr2 : ∀ o', getS (mset μ a o') row = some xs) (hl : xs.length < 1000000000) (hne : xs ≠ [])
    (q : ∀ x ∈ xs, ∀ o', StO (b + 1) o' → Q x (mset μ a o')) : [D.raw a, row].length = 2 ∧ sp_pick [.raw a, row] μ Q E := ⟨rfl, a, o, b, row, xs, rfl, hμ, ho, hb, hr, hr2, hl, fun e => absurd e hne, q⟩
/-! _law_number -/
def N_number : List Str := ["_law_store_here", "_law_low", "_law_high", "_law_kind"]
def P_number : List Str := ["_law_store_here", "_law_low", "_law_high"]
abbrev w_number_p0 : WS := (wSeq (wIfS (wTB (wOp gEq (wVar 3) (wC (.int 1)))) (wRet (wVar 2)) wNext)
  (wSeq (wIfS (wTB (wOp gEq (wVar 3) (wC (.int 2)))) (wSeq (wIfS (wTru (wCall 2 sp_chance (wCons (wVar 0) (wCons (wC (.int 2)) wNil)))) (wRet (wCB gMinB (wCons (wOp gAdd (wVar 1) (wC (.int 1))) (wCons (wVar 2) wNil)))) wNext)
    (wRet (wCB gMaxB (wCons (wOp gSub (wVar 2) (wC (.int 1))) (wCons (wVar 1) wNil))))) wNext)
  (wRet (wOp gAdd (wVar 1) (wCall 2 sp_take (wCons (wVar 0) (wCons (wOp gAdd (wOp gSub (wVar 2) (wVar 1)) (wC (.int 1))) wNil)))))))
def w_number  : WS := (wSeq (wAsg 3 (wCall 2 sp_take (wCons (wVar 0) (wCons (wC (.int 9)) wNil))))
  (wSeq (wIfS (wTB (wOp gEq (wVar 3) (wC (.int 0)))) (wRet (wVar 1)) wNext)
  w_number_p0))
def sp_number : SpD := fun ds μ Q _ => ∃ (a : Addr) (o : MO) (b lo hi : Int), ds = [.raw a, .int lo, .int hi] ∧ μ a = some o ∧ StO b o ∧ b < 100000000000000000 ∧ lo ≤ hi ∧ hi - lo < 300000000000000000000 ∧ ∀ (r : Int) (o' : MO), lo ≤ r → r ≤ hi → StO (b + 2) o' → Q (.int r) (mset μ a o')
theorem pf_number : ∀ ds μ Q E, sp_number ds μ Q E → w_number (endK Q E) (startD N_number ds) μ := by
  rintro ds μ Q E ⟨a, o, b, lo, hi, rfl, hμ, ho, hb, hlh, hm, q⟩
  unfold w_number
  rotate_left 901
  refine i_take hμ ho (by omega) (by decide) fun r o' h0 h1 ho' => ?_
  rotate_left 901
  · exact q _ _ (by omega) (by omega) (ho'.mono (by omega))
  · exact q _ _ (by omega) (by omega) (ho'.mono (by omega))
  · refine i_chance mset_same ho' (by omega) (by decide) fun k o2 ho2 => ?_
    rw [mset_mset]
    cases k
    all_goals rotate_left 901
    · exact q _ _ (by split <;> omega) (by split <;> omega) (ho2.mono (by omega))
    · exact q _ _ (by split <;> omega) (by split <;> omega) (ho2.mono (by omega))
  · refine i_take mset_same ho' (by omega) (by omega) fun r2 o2 g0 g1 ho2 => ?_
    rw [mset_mset]
    rotate_left 901
    exact q _ _ (by omega) (by omega) (ho2.mono (by omega))
theorem i_number {a : Addr} {o : MO} {b lo hi : Int} {μ : Mu} {Q : PQ} {E : PX} (hμ : μ a = some o) (ho : StO b o) (hb : b < 100000000000000000) (hlh : lo ≤ hi) (hm : hi - lo < 300000000000000000000) (q : ∀ (r : Int) (o' : MO), lo ≤ r → r ≤ hi → StO (b + 2) o' → Q (.int r) (mset μ a o')) :
    [D.raw a, D.int lo, D.int hi].length = 3 ∧ sp_number [.raw a, .int lo, .int hi] μ Q E := ⟨rfl, a, o, b, lo, hi, rfl, hμ, ho, hb, hlh, hm, q⟩
/-- not a number of lo .. hi -/
def BadN (lo hi : Int) (d : D) : Prop := (∃ b, d = .bl b) ∨ d = .non ∨ ∃ i, d = .int i ∧ (i < lo ∨ hi < i)
/-! _law_bad_number -/
def N_bad_number : List Str := ["_law_store_here", "_law_low", "_law_high", "_law_kind"]
def P_bad_number : List Str := ["_law_store_here", "_law_low", "_law_high"]
abbrev w_bad_number_p0 : WS := (wSeq (wIfS (wTB (wOp gEq (wVar 3) (wC (.int 5)))) (wRet (wOp gSub (wOp gPow (wC (.int 10)) (wC (.int 20))) (wC (.int 1)))) wNext)
  (wSeq (wIfS (wTB (wOp gEq (wVar 3) (wC (.int 6)))) (wRet (wOp gSub (wC (.int 1)) (wOp gPow (wC (.int 10)) (wC (.int 20))))) wNext)
  (wSeq (wIfS (wTB (wOp gEq (wVar 3) (wC (.int 7)))) (wRet (wOp gSub (wOp gSub (wVar 1) (wC (.int 1))) (wCall 2 sp_take (wCons (wVar 0) (wCons (wOp gPow (wC (.int 10)) (wC (.int 18))) wNil))))) wNext)
  (wRet (wOp gAdd (wOp gAdd (wVar 2) (wC (.int 1))) (wCall 2 sp_take (wCons (wVar 0) (wCons (wOp gPow (wC (.int 10)) (wC (.int 18))) wNil))))))))
def w_bad_number  : WS := (wSeq (wAsg 3 (wCall 2 sp_take (wCons (wVar 0) (wCons (wC (.int 9)) wNil))))
  (wSeq (wIfS (wTB (wOp gLt (wVar 3) (wC (.int 3)))) (wRet (wOp gIx (wLst (wCons (wC (.bl true)) (wCons (wC (.bl false)) (wCons (wC .non) wNil)))) (wVar 3))) wNext)
  (wSeq (wIfS (wTB (wOp gEq (wVar 3) (wC (.int 3)))) (wRet (wOp gSub (wVar 1) (wC (.int 1)))) wNext)
  (wSeq (wIfS (wTB (wOp gEq (wVar 3) (wC (.int 4)))) (wRet (wOp gAdd (wVar 2) (wC (.int 1)))) wNext)
  w_bad_number_p0))))
def sp_bad_number : SpD := fun ds μ Q _ => ∃ (a : Addr) (o : MO) (b lo hi : Int), ds = [.raw a, .int lo, .int hi] ∧ μ a = some o ∧ StO b o ∧ b < 100000000000000000 ∧ -10000000000000000000 ≤ lo ∧ hi ≤ 10000000000000000000 ∧ ∀ (d : D) (o' : MO), BadN lo hi d → StO (b + 2) o' → Q d (mset μ a o')
theorem pf_bad_number : ∀ ds μ Q E, sp_bad_number ds μ Q E → w_bad_number (endK Q E) (startD N_bad_number ds) μ := by
  rintro ds μ Q E ⟨a, o, b, lo, hi, rfl, hμ, ho, hb, hlo, hhi, q⟩
  unfold w_bad_number
  rotate_left 901
  refine i_take hμ ho (by omega) (by decide) fun r o' h0 h1 ho' => ?_
  rotate_left 901
  · obtain rfl | rfl | rfl : r = 0 ∨ r = 1 ∨ r = 2 := by omega
    all_goals rotate_left 901
    · exact q _ _ (.inl ⟨_, rfl⟩) (ho'.mono (by omega))
    · exact q _ _ (.inl ⟨_, rfl⟩) (ho'.mono (by omega))
    · exact q _ _ (.inr (.inl rfl)) (ho'.mono (by omega))
  · exact q _ _ (.inr (.inr ⟨_, rfl, by omega⟩)) (ho'.mono (by omega))
  · exact q _ _ (.inr (.inr ⟨_, rfl, by omega⟩)) (ho'.mono (by omega))
  · exact q _ _ (.inr (.inr ⟨_, rfl, by rw [p10_20]; omega⟩)) (ho'.mono (by omega))
  · exact q _ _ (.inr (.inr ⟨_, rfl, by rw [p10_20]; omega⟩)) (ho'.mono (by omega))
  · refine i_take mset_same ho' (by omega) (by rw [p10_18]; omega) fun r2 o2 g0 g1 ho2 => ?_
    rw [mset_mset]
    rotate_left 901
    exact q _ _ (.inr (.inr ⟨_, rfl, by omega⟩)) (ho2.mono (by omega))
  · refine i_take mset_same ho' (by omega) (by rw [p10_18]; omega) fun r2 o2 g0 g1 ho2 => ?_
    rw [mset_mset]
    rotate_left 901
    exact q _ _ (.inr (.inr ⟨_, rfl, by omega⟩)) (ho2.mono (by omega))
theorem i_bad_number {a : Addr} {o : MO} {b lo hi : Int} {μ : Mu} {Q : PQ} {E : PX} (hμ : μ a = some o) (ho : StO b o) (hb : b < 100000000000000000) (hlo : -10000000000000000000 ≤ lo) (hhi : hi ≤ 10000000000000000000) (q : ∀ (d : D) (o' : MO), BadN lo hi d → StO (b + 2) o' → Q d (mset μ a o')) :
    [D.raw a, D.int lo, D.int hi].length = 3 ∧ sp_bad_number [.raw a, .int lo, .int hi] μ Q E := ⟨rfl, a, o, b, lo, hi, rfl, hμ, ho, hb, hlo, hhi, q⟩
/-! _law_store -/
def N_store : List Str := ["_law_script", "_law_cells", "_law_cell", "_law_seed"]
def P_store : List Str := ["_law_script"]
def w_store  : WS := (wSeq (wAsg 1 (wLc (wIt (wVar 0)) (wgName 2) wYes (wCB gInt (wCons (wVar 2) wNil))))
  (wSeq (wAsg 3 (wOp gAdd (wC (.int 7)) (wCB gLen (wCons (wVar 1) wNil))))
  (wSeq (wFor (wIt (wVar 1)) (wgName 2) (wAsg 3 (wOp gMod (wCB gInt (wCons (wOp gAdd (wOp gMul (wVar 3) (wC (.int 1000003))) (wOp gMod (wCB gInt (wCons (wVar 2) wNil)) (wC (.int 2305843009213693951)))) wNil)) (wC (.int 2305843009213693951)))))
  (wRet (wLstM (wCons (wVar 1) (wCons (wC (.int 0)) (wCons (wC (.int 0)) (wCons (wC (.int 0)) (wCons (wVar 3) wNil))))))))))
def sp_store : SpD := fun ds μ Q _ => ∃ ns : List Int, ds = [.scr (ns.map D.int)] ∧ (∀ z ∈ ns, Bd BB z) ∧ ns.length < sizeLine ∧ ∀ a o, μ a = none → StO 1 o → Q (.raw a) (mset μ a o)
theorem pf_store : ∀ ds μ Q E, sp_store ds μ Q E → w_store (endK Q E) (startD N_store ds) μ := by
  rintro ds μ Q E ⟨ns, rfl, hb, hl, q⟩
  unfold w_store
  rotate_left 901
  refine Or.inl ⟨_, rfl, ?_⟩
  refine lcLoop_inv (fun rem acc μ' => μ' = μ ∧ ∃ xs ys : List Int, xs ++ ys = ns ∧ acc = xs.map D.int ∧ rem = ys.map D.int) (fun _ _ _ _ => rfl) ?_ ?_ _ _ _ ⟨rfl, [], ns, rfl, rfl, rfl⟩
  · rintro acc μ' ⟨rfl, xs, ys, e, rfl, e3⟩
    have : ys = [] := List.map_eq_nil_iff.mp e3.symm
    subst this
    rw [List.append_nil] at e
    subst e
    rotate_left 901
    refine Or.inl ⟨_, rfl, ?_⟩
    refine forLoop_inv (fun rem ρ μ'' => μ'' = μ' ∧ (∃ ys : List Int, rem = ys.map D.int) ∧ ∃ x s, ρ = [some (.scr (xs.map D.int)), some (.lst (xs.map D.int)), x, some (.int s)] ∧ (rem = [] → xs = [] ∨ (0 ≤ s ∧ s < 2305843009213693951)) ∧ (s = 7 + xs.length ∨ (0 ≤ s ∧ s < 2305843009213693951))) (fun _ _ _ _ => rfl) ?_ ?_ _ _ _ ⟨rfl, ⟨xs, rfl⟩, none, _, rfl, ?_, ?_⟩
    · rintro ρ μ2 ⟨rfl, _, x, s, rfl, hs, hs2⟩
      rotate_left 901
      intro a ha
      rotate_left 901
      refine q a _ ha ⟨xs, 0, 0, 0, s, rfl, hb, by decide, by decide, Nat.two_pow_pos _, by decide, by decide, ?_⟩
      rcases hs rfl with e | e
      · subst e
        rcases hs2 with e | e
        · exact .nat (by simp at e; omega) (by simp at e; omega)
        · exact .nat (by omega) (by omega)
      · exact .nat (by omega) (by omega)
    · rintro d ds ρ μ2 ⟨rfl, ⟨ys, e⟩, x, s, rfl, _, hs⟩ nx hnx
      cases ys with
      | nil => cases e
      | cons y ys =>
        cases e
        rotate_left 901
        have hsz : sizeLine < 2 ^ 60 := by decide
        have hB : Bd 61 s := by
          rcases hs with e | e
          · exact .nat (by omega) (by omega)
          · exact .nat (by omega) (by omega)
        refine i_mulI (hB.mul (show Bd 30 1000003 by unfold Bd; decide) (by decide)) ?_
        rotate_left 901
        refine i_modG (by decide) fun r1 g1 g2 => ?_
        rotate_left 901
        refine i_modG (by decide) fun r2 g3 g4 => ?_
        rotate_left 901
        exact hnx _ _ ⟨rfl, ⟨ys, rfl⟩, _, _, rfl, fun _ => .inr ⟨g3, g4⟩, .inr ⟨g3, g4⟩⟩
    · intro e
      exact .inl (List.map_eq_nil_iff.mp e)
    · exact .inl (by rw [List.length_map])
  · rintro d ds acc μ' ⟨rfl, xs, ys, e, rfl, e3⟩ Z hZ
    cases ys with
    | nil => cases e3
    | cons y ys =>
      cases e3
      have hlen : xs.length + (ys.length + 1) = ns.length := by rw [← e, List.length_append, List.length_cons]
      rotate_left 901
      exact ⟨by rw [List.length_map]; omega, hZ _ _ ⟨rfl, xs ++ [y], ys, by rw [List.append_assoc]; exact e, by rw [List.map_append]; rfl, rfl⟩⟩
end T2


set_option maxRecDepth 100000
set_option maxHeartbeats 4000000
namespace T2
open PySem PySem.Spec PyProof.Rows L2
/-! ### are two answers the same -/
/-- scalars -/
def sc4 : D → Bool
  | .non => true
  | .bl _ => true
  | .int _ => true
  | .str _ => true
  | _ => false
def sameS : D → D → Bool
  | .non, .non => true
  | .bl a, .bl b => decide (a = b)
  | .int a, .int b => decide (a = b)
  | .str a, .str b => decide (a = b)
  | _, _ => false
def sameR (xs ys : List D) : Bool := decide (xs.length = ys.length) && (xs.zip ys).all fun q => sameS q.1 q.2
def sp_same0 : SpD := fun ds μ Q _ => ∃ x y, ds = [x, y] ∧ sc4 x = true ∧ sc4 y = true ∧ Q (.bl (sameS x y)) μ
def sp_same_rows : SpD := fun ds μ Q _ => ∃ xs ys, ds = [.tup xs, .tup ys] ∧ xs.length < 1000 ∧ xs.all sc4 = true ∧ ys.all sc4 = true ∧ Q (.bl (sameR xs ys)) μ
def sp_no : SpD := fun _ _ _ _ => False
def sp_same_dicts : SpD := fun _ _ _ _ => False
/-! _law_same -/
def N_same0 : List Str := ["_law_one", "_law_two"]
def P_same0 : List Str := ["_law_one", "_law_two"]
abbrev w_same0_p0 : WS := (wSeq (wIfS (wOrT (wTru (wIsi .str (wVar 0))) (wTru (wIsi .str (wVar 1)))) (wRet (wAnd (wIsi .str (wVar 0)) (wAnd (wIsi .str (wVar 1)) (wOp gEq (wVar 0) (wVar 1))))) wNext)
  (wSeq (wIfS (wOrT (wTru (wIsi .dict (wVar 0))) (wTru (wIsi .dict (wVar 1)))) (wRet (wAnd (wIsi .dict (wVar 0)) (wAnd (wIsi .dict (wVar 1)) (wCall 2 sp_no (wCons (wVar 0) (wCons (wVar 1) wNil)))))) wNext)
  (wSeq (wIfS (wOrT (wAndT (wTru (wIsi .list (wVar 0))) (wTru (wIsi .list (wVar 1)))) (wAndT (wTru (wIsi .tuple (wVar 0))) (wTru (wIsi .tuple (wVar 1))))) (wRet (wCall 2 sp_no (wCons (wVar 0) (wCons (wVar 1) wNil)))) wNext)
  (wRet (wC (.bl false))))))
def w_same0  : WS := (wSeq (wIfS (wOrT (wTB (wOp gIs (wVar 0) (wC .non))) (wTB (wOp gIs (wVar 1) (wC .non)))) (wRet (wAnd (wOp gIs (wVar 0) (wC .non)) (wOp gIs (wVar 1) (wC .non)))) wNext)
  (wSeq (wIfS (wOrT (wTru (wIsi .bool (wVar 0))) (wTru (wIsi .bool (wVar 1)))) (wRet (wAnd (wIsi .bool (wVar 0)) (wAnd (wIsi .bool (wVar 1)) (wOp gEq (wVar 0) (wVar 1))))) wNext)
  (wSeq (wIfS (wOrT (wTru (wIsi .int (wVar 0))) (wTru (wIsi .int (wVar 1)))) (wRet (wAnd (wIsi .int (wVar 0)) (wAnd (wIsi .int (wVar 1)) (wOp gEq (wVar 0) (wVar 1))))) wNext)
  w_same0_p0)))
/-! _law_same -/
def N_same1 : List Str := ["_law_one", "_law_two"]
def P_same1 : List Str := ["_law_one", "_law_two"]
abbrev w_same1_p0 : WS := (wSeq (wIfS (wOrT (wTru (wIsi .str (wVar 0))) (wTru (wIsi .str (wVar 1)))) (wRet (wAnd (wIsi .str (wVar 0)) (wAnd (wIsi .str (wVar 1)) (wOp gEq (wVar 0) (wVar 1))))) wNext)
  (wSeq (wIfS (wOrT (wTru (wIsi .dict (wVar 0))) (wTru (wIsi .dict (wVar 1)))) (wRet (wAnd (wIsi .dict (wVar 0)) (wAnd (wIsi .dict (wVar 1)) (wCall 2 sp_no (wCons (wVar 0) (wCons (wVar 1) wNil)))))) wNext)
  (wSeq (wIfS (wOrT (wAndT (wTru (wIsi .list (wVar 0))) (wTru (wIsi .list (wVar 1)))) (wAndT (wTru (wIsi .tuple (wVar 0))) (wTru (wIsi .tuple (wVar 1))))) (wRet (wCall 2 sp_same_rows (wCons (wVar 0) (wCons (wVar 1) wNil)))) wNext)
  (wRet (wC (.bl false))))))
def w_same1  : WS := (wSeq (wIfS (wOrT (wTB (wOp gIs (wVar 0) (wC .non))) (wTB (wOp gIs (wVar 1) (wC .non)))) (wRet (wAnd (wOp gIs (wVar 0) (wC .non)) (wOp gIs (wVar 1) (wC .non)))) wNext)
  (wSeq (wIfS (wOrT (wTru (wIsi .bool (wVar 0))) (wTru (wIsi .bool (wVar 1)))) (wRet (wAnd (wIsi .bool (wVar 0)) (wAnd (wIsi .bool (wVar 1)) (wOp gEq (wVar 0) (wVar 1))))) wNext)
  (wSeq (wIfS (wOrT (wTru (wIsi .int (wVar 0))) (wTru (wIsi .int (wVar 1)))) (wRet (wAnd (wIsi .int (wVar 0)) (wAnd (wIsi .int (wVar 1)) (wOp gEq (wVar 0) (wVar 1))))) wNext)
  w_same1_p0)))
/-! _law_same_rows -/
def N_same_rows : List Str := ["_law_one", "_law_two", "_law_k"]
def P_same_rows : List Str := ["_law_one", "_law_two"]
def w_same_rows  : WS := (wSeq (wIfS (wTB (wOp gNe (wCB gLen (wCons (wVar 0) wNil)) (wCB gLen (wCons (wVar 1) wNil)))) (wRet (wC (.bl false))) wNext)
  (wSeq (wFor (wRng1 (wCB gLen (wCons (wVar 0) wNil))) (wgName 2) (wIfS (wNotT (wTru (wCall 2 sp_same0 (wCons (wOp gIx (wVar 0) (wVar 2)) (wCons (wOp gIx (wVar 1) (wVar 2)) wNil))))) (wRet (wC (.bl false))) wNext))
  (wRet (wC (.bl true)))))
theorem pf_same0 : ∀ ds μ Q E, sp_same0 ds μ Q E → w_same0 (endK Q E) (startD N_same0 ds) μ := by
  rintro ds μ Q E ⟨x, y, rfl, hx, hy, q⟩
  unfold w_same0
  cases x <;> first | (cases hx; done) | skip
  all_goals (cases y <;> first | (cases hy; done) | skip)
  all_goals rotate_left 901
  all_goals first | exact q | (refine i_eqB ?_; rotate_left 901; exact q) | (refine i_eqT ?_; rotate_left 901; exact q) | skip
def sp_same1 : SpD := fun ds μ Q _ => ∃ xs ys, ds = [.tup xs, .tup ys] ∧ xs.length < 1000 ∧ xs.all sc4 = true ∧ ys.all sc4 = true ∧ Q (.bl (sameR xs ys)) μ
theorem pf_same1 : ∀ ds μ Q E, sp_same1 ds μ Q E → w_same1 (endK Q E) (startD N_same1 ds) μ := by
  rintro ds μ Q E ⟨xs, ys, rfl, hl, hx, hy, q⟩
  unfold w_same1
  rotate_left 901
  refine ⟨rfl, xs, ys, rfl, hl, hx, hy, ?_⟩
  rotate_left 901
  exact q
theorem pf_same_rows : ∀ ds μ Q E, sp_same_rows ds μ Q E → w_same_rows (endK Q E) (startD N_same_rows ds) μ := by
  rintro ds μ Q E ⟨xs, ys, rfl, hl, hx, hy, q⟩
  unfold w_same_rows
  rotate_left 901
  refine i_lenL rfl ?_
  rotate_left 901
  refine i_lenL rfl ?_
  rotate_left 901
  · have e : sameR xs ys = false := by
      unfold sameR
      rw [decide_eq_false fun z => h (by rw [z])]
      rfl
    rw [e] at q
    exact q
  · have hlen : xs.length = ys.length := Int.ofNat.inj h
    refine i_lenL rfl ?_
    refine ⟨_, rfl, by omega, by omega, ?_⟩
    refine forLoop_inv (fun rem ρ μ' => μ' = μ ∧ ∃ i, i ≤ xs.length ∧ rem = (rngD 0 xs.length).drop i ∧ (∃ x, ρ = [some (.tup xs), some (.tup ys), x]) ∧ sameR (xs.take i) (ys.take i) = true) (fun _ _ _ _ => trivial) ?_ ?_ _ _ _ ⟨rfl, 0, Nat.zero_le _, rfl, ⟨none, rfl⟩, rfl⟩
    · rintro ρ μ' ⟨rfl, i, hi, e, ⟨x, rfl⟩, hs⟩
      rotate_left 901
      have hi2 := rng_nil e
      rw [List.take_of_length_le hi2, List.take_of_length_le (by omega)] at hs
      rw [hs] at q
      exact q
    · rintro d ds ρ μ' ⟨rfl, i, hi, e, ⟨x, rfl⟩, hs⟩ nx hnx
      obtain ⟨hi2, e1, e2⟩ := rng_cons e
      rw [Int.zero_add] at e1
      subst e1 e2
      obtain ⟨hx1, ex⟩ := atI_ok (l := xs) (i := (i : Int)) (by omega) (by omega)
      obtain ⟨hy1, ey⟩ := atI_ok (l := ys) (i := (i : Int)) (by omega) (by omega)
      rotate_left 901
      refine i_ixT ex ?_
      rotate_left 901
      refine i_ixT ey ?_
      rotate_left 901
      have hxi : sc4 xs[i] = true := List.all_eq_true.mp hx _ (List.getElem_mem _)
      have hyi : sc4 (ys[i]'(by omega)) = true := List.all_eq_true.mp hy _ (List.getElem_mem _)
      refine ⟨rfl, _, _, rfl, hxi, hyi, ?_⟩
      have et : sameR (xs.take (i + 1)) (ys.take (i + 1)) = sameS xs[i] (ys[i]'(by omega)) := by
        have hs' := hs
        unfold sameR at hs' ⊢
        rw [Bool.and_eq_true] at hs'
        rw [List.take_succ_eq_append_getElem hi2, List.take_succ_eq_append_getElem (show i < ys.length by omega), List.zip_append (by rw [List.length_take, List.length_take]; omega), List.all_append, hs'.2]
        rw [decide_eq_true (by rw [List.length_append, List.length_append, List.length_take, List.length_take]; simp; omega)]
        simp
      cases hb : sameS xs[i] (ys[i]'(by omega)) with
      | true =>
        have hb' : sameS (xs[(i : Int).toNat]'hx1) (ys[(i : Int).toNat]'hy1) = true := hb
        rw [hb']
        rotate_left 901
        exact hnx _ _ ⟨rfl, i + 1, hi2, rfl, ⟨_, rfl⟩, by rw [et, hb]⟩
      | false =>
        have hb' : sameS (xs[(i : Int).toNat]'hx1) (ys[(i : Int).toNat]'hy1) = false := hb
        rw [hb']
        rotate_left 901
        have e : sameR xs ys = false := by
          cases z : sameR xs ys with
          | false => rfl
          | true =>
            unfold sameR at z
            rw [Bool.and_eq_true] at z
            have := List.all_eq_true.mp z.2 (xs[i], ys[i]'(by omega)) (by
              have hz : i < (xs.zip ys).length := by rw [List.length_zip]; omega
              have := List.getElem_mem hz
              rw [List.getElem_zip] at this
              exact this)
            rw [hb] at this
            cases this
        rw [e] at q
        exact q
end T2


set_option maxRecDepth 100000
set_option maxHeartbeats 4000000
namespace T2
open PySem PySem.Spec PyProof.Rows L2
/-! ### are two answers the same: rows within rows -/
/-- a row: a tuple or not, its items -/
def seqK (μ : Mu) : D → Option (Bool × List D)
  | .tup xs => some (true, xs)
  | .ctp xs => some (true, xs)
  | .lst xs => some (false, xs)
  | .raw a => match μ a with
    | some (.lst xs) => some (false, xs)
    | _ => none
  | _ => none
def rowsM (f : D → D → Option Bool) : List D → List D → Option Bool
  | [], [] => some true
  | x :: xs, y :: ys => match f x y, rowsM f xs ys with
    | some b, some c => some (b && c)
    | _, _ => none
  | _, _ => some false
def rowsL (f : D → D → Option Bool) (xs ys : List D) : Option Bool := if xs.length = ys.length then (if xs.length < 1000000 then rowsM f xs ys else none) else some false
def sameM (μ : Mu) : Nat → D → D → Option Bool
  | 0, x, y => if (sc4 x && sc4 y) = true then some (sameS x y) else none
  | n + 1, x, y => if (sc4 x && sc4 y) = true then some (sameS x y) else match seqK μ x, seqK μ y with
    | some (t, xs), some (u, ys) => if t = u then rowsL (sameM μ n) xs ys else some false
    | some _, none => if sc4 y = true then some false else none
    | none, some _ => if sc4 x = true then some false else none
    | none, none => none
def sp_sameN (n : Nat) : SpD := fun ds μ Q _ => ∃ x y b, ds = [x, y] ∧ sameM μ n x y = some b ∧ Q (.bl b) μ
def sp_rowsN (n : Nat) : SpD := fun ds μ Q _ => ∃ x y t u xs ys b, ds = [x, y] ∧ seqK μ x = some (t, xs) ∧ seqK μ y = some (u, ys) ∧ rowsL (sameM μ n) xs ys = some b ∧ Q (.bl b) μ
def sp_rowsP : Nat → SpD
  | 0 => sp_no
  | n + 1 => sp_rowsN n
/-! _law_same -/
def N_same_atN : List Str := ["_law_one", "_law_two"]
def P_same_atN : List Str := ["_law_one", "_law_two"]
def w_same_atN (n : Nat) : WS := (wSeq (wIfS (wOrT (wTB (wOp gIs (wVar 0) (wC .non))) (wTB (wOp gIs (wVar 1) (wC .non)))) (wRet (wAnd (wOp gIs (wVar 0) (wC .non)) (wOp gIs (wVar 1) (wC .non)))) wNext)
  (wSeq (wIfS (wOrT (wTru (wIsi .bool (wVar 0))) (wTru (wIsi .bool (wVar 1)))) (wRet (wAnd (wIsi .bool (wVar 0)) (wAnd (wIsi .bool (wVar 1)) (wOp gEq (wVar 0) (wVar 1))))) wNext)
  (wSeq (wIfS (wOrT (wTru (wIsi .int (wVar 0))) (wTru (wIsi .int (wVar 1)))) (wRet (wAnd (wIsi .int (wVar 0)) (wAnd (wIsi .int (wVar 1)) (wOp gEq (wVar 0) (wVar 1))))) wNext)
  (wSeq (wIfS (wOrT (wTru (wIsi .str (wVar 0))) (wTru (wIsi .str (wVar 1)))) (wRet (wAnd (wIsi .str (wVar 0)) (wAnd (wIsi .str (wVar 1)) (wOp gEq (wVar 0) (wVar 1))))) wNext)
  (wSeq (wIfS (wOrT (wTru (wIsi .dict (wVar 0))) (wTru (wIsi .dict (wVar 1)))) (wRet (wAnd (wIsi .dict (wVar 0)) (wAnd (wIsi .dict (wVar 1)) (wCall 2 sp_no (wCons (wVar 0) (wCons (wVar 1) wNil)))))) wNext)
  (wSeq (wIfS (wOrT (wAndT (wTru (wIsi .list (wVar 0))) (wTru (wIsi .list (wVar 1)))) (wAndT (wTru (wIsi .tuple (wVar 0))) (wTru (wIsi .tuple (wVar 1))))) (wRet (wCall 2 (sp_rowsP n) (wCons (wVar 0) (wCons (wVar 1) wNil)))) wNext)
  (wRet (wC (.bl false)))))))))
/-! _law_same_rows -/
def N_rowsN : List Str := ["_law_one", "_law_two", "_law_k"]
def P_rowsN : List Str := ["_law_one", "_law_two"]
def w_rowsN (n : Nat) : WS := (wSeq (wIfS (wTB (wOp gNe (wCB gLen (wCons (wVar 0) wNil)) (wCB gLen (wCons (wVar 1) wNil)))) (wRet (wC (.bl false))) wNext)
  (wSeq (wFor (wRng1 (wCB gLen (wCons (wVar 0) wNil))) (wgName 2) (wIfS (wNotT (wTru (wCall 2 (sp_sameN n) (wCons (wOp gIx (wVar 0) (wVar 2)) (wCons (wOp gIx (wVar 1) (wVar 2)) wNil))))) (wRet (wC (.bl false))) wNext))
  (wRet (wC (.bl true)))))
theorem seq_cases {μ : Mu} {x : D} {t : Bool} {xs : List D} (h : seqK μ x = some (t, xs)) : (x = .tup xs ∧ t = true) ∨ (x = .lst xs ∧ t = false) ∨ (∃ a, x = .raw a ∧ μ a = some (.lst xs) ∧ t = false) ∨ (x = .ctp xs ∧ t = true) := by
  unfold seqK at h
  split at h
  · cases h; exact .inl ⟨rfl, rfl⟩
  · cases h; exact .inr (.inr (.inr ⟨rfl, rfl⟩))
  · cases h; exact .inr (.inl ⟨rfl, rfl⟩)
  · split at h
    · rename_i e; cases h; exact .inr (.inr (.inl ⟨_, rfl, e, rfl⟩))
    · cases h
  · cases h
theorem same_cases {μ : Mu} {n : Nat} {x y : D} {b : Bool} (h : sameM μ n x y = some b) : (sc4 x = true ∧ sc4 y = true ∧ b = sameS x y) ∨
    (∃ m t xs u ys, n = m + 1 ∧ seqK μ x = some (t, xs) ∧ seqK μ y = some (u, ys) ∧ ((t = u ∧ rowsL (sameM μ m) xs ys = some b) ∨ (t ≠ u ∧ b = false))) ∨
    (∃ t xs, seqK μ x = some (t, xs) ∧ sc4 y = true ∧ b = false) ∨ (∃ t ys, sc4 x = true ∧ seqK μ y = some (t, ys) ∧ b = false) := by
  cases n with
  | zero =>
    unfold sameM at h
    split at h
    · rename_i e
      cases h
      rw [Bool.and_eq_true] at e
      exact .inl ⟨e.1, e.2, rfl⟩
    · cases h
  | succ n =>
    unfold sameM at h
    split at h
    · rename_i e
      cases h
      rw [Bool.and_eq_true] at e
      exact .inl ⟨e.1, e.2, rfl⟩
    · split at h
      · rename_i t xs u ys e1 e2
        refine .inr (.inl ⟨n, t, xs, u, ys, rfl, e1, e2, ?_⟩)
        split at h
        · rename_i e; exact .inl ⟨e, h⟩
        · rename_i e; cases h; exact .inr ⟨e, rfl⟩
      · rename_i t e1 e2
        split at h
        · rename_i e; cases h; exact .inr (.inr (.inl ⟨_, _, e1, e, rfl⟩))
        · cases h
      · rename_i t e1 e2
        split at h
        · rename_i e; cases h; exact .inr (.inr (.inr ⟨_, _, e, e2, rfl⟩))
        · cases h
      · cases h
theorem pf_sameN (n : Nat) : ∀ ds μ Q E, sp_sameN n ds μ Q E → w_same_atN n (endK Q E) (startD N_same_atN ds) μ := by
  rintro ds μ Q E ⟨x, y, b, rfl, hs, q⟩
  unfold w_same_atN
  rcases same_cases hs with ⟨hx, hy, rfl⟩ | ⟨m, t, xs, u, ys, rfl, hx, hy, hb⟩ | ⟨t, xs, hx, hy, rfl⟩ | ⟨t, ys, hx, hy, rfl⟩
  · cases x <;> first | (cases hx; done) | skip
    all_goals (cases y <;> first | (cases hy; done) | skip)
    all_goals rotate_left 901
    all_goals exact q
  · rcases seq_cases hx with ⟨rfl, rfl⟩ | ⟨rfl, rfl⟩ | ⟨a, rfl, ha, rfl⟩ | ⟨rfl, rfl⟩
    all_goals rcases seq_cases hy with ⟨rfl, rfl⟩ | ⟨rfl, rfl⟩ | ⟨a', rfl, ha', rfl⟩ | ⟨rfl, rfl⟩
    all_goals rotate_left 901
    all_goals rcases hb with ⟨hb, hr⟩ | ⟨hb, rfl⟩
    all_goals first
      | (cases hb; done)
      | exact absurd rfl hb
      | exact q
      | (refine ⟨rfl, _, _, _, _, _, _, _, rfl, hx, hy, hr, ?_⟩
         rotate_left 901
         exact q)
  · cases y <;> first | (cases hy; done) | skip
    all_goals rcases seq_cases hx with ⟨rfl, rfl⟩ | ⟨rfl, rfl⟩ | ⟨a, rfl, ha, rfl⟩ | ⟨rfl, rfl⟩
    all_goals rotate_left 901
    all_goals exact q
  · cases x <;> first | (cases hx; done) | skip
    all_goals rcases seq_cases hy with ⟨rfl, rfl⟩ | ⟨rfl, rfl⟩ | ⟨a, rfl, ha, rfl⟩ | ⟨rfl, rfl⟩
    all_goals rotate_left 901
    all_goals exact q
end T2


set_option maxRecDepth 100000
set_option maxHeartbeats 4000000
namespace T2
open PySem PySem.Spec PyProof.Rows L2
theorem seqK_getS {μ : Mu} {x : D} {t : Bool} {xs : List D} (h : seqK μ x = some (t, xs)) : getS μ x = some xs := by
  rcases seq_cases h with ⟨rfl, rfl⟩ | ⟨rfl, rfl⟩ | ⟨a, rfl, ha, rfl⟩ | ⟨rfl, rfl⟩
  · rfl
  · rfl
  · exact getS_raw ha
  · rfl
/-- from the i-th item on -/
theorem rowsM_drop {f : D → D → Option Bool} {xs ys : List D} {i : Nat} {b : Bool} (hl : xs.length = ys.length) (hi : i < xs.length) (h : rowsM f (xs.drop i) (ys.drop i) = some b) :
    ∃ c r, f (xs[i]) (ys[i]'(by omega)) = some c ∧ rowsM f (xs.drop (i + 1)) (ys.drop (i + 1)) = some r ∧ b = (c && r) := by
  rw [List.drop_eq_getElem_cons hi, List.drop_eq_getElem_cons (show i < ys.length by omega)] at h
  unfold rowsM at h
  split at h
  · rename_i c r h1 h2
    cases h
    exact ⟨c, r, h1, h2, rfl⟩
  · cases h
theorem pf_rowsN (n : Nat) : ∀ ds μ Q E, sp_rowsN n ds μ Q E → w_rowsN n (endK Q E) (startD N_rowsN ds) μ := by
  rintro ds μ Q E ⟨x, y, t, u, xs, ys, b, rfl, hx, hy, hb, q⟩
  unfold rowsL at hb
  have gx := seqK_getS hx
  have gy := seqK_getS hy
  unfold w_rowsN
  rotate_left 901
  refine i_lenL gx ?_
  rotate_left 901
  refine i_lenL gy ?_
  rotate_left 901
  · rw [if_neg (fun z => h (by rw [z]))] at hb
    cases hb
    exact q
  · have hl : xs.length = ys.length := Int.ofNat.inj h
    rw [if_pos hl] at hb
    have hl1 : xs.length < 1000000 := by
      split at hb
      · assumption
      · cases hb
    rw [if_pos hl1] at hb
    refine i_lenL gx ?_
    refine ⟨_, rfl, by omega, by omega, ?_⟩
    refine forLoop_inv (fun rem ρ μ' => μ' = μ ∧ ∃ i, i ≤ xs.length ∧ rem = (rngD 0 xs.length).drop i ∧ (∃ z, ρ = [some x, some y, z]) ∧ rowsM (sameM μ n) (xs.drop i) (ys.drop i) = some b) (fun _ _ _ _ => trivial) ?_ ?_ _ _ _ ⟨rfl, 0, Nat.zero_le _, rfl, ⟨none, rfl⟩, hb⟩
    · rintro ρ μ' ⟨rfl, i, hi, e, ⟨z, rfl⟩, hs⟩
      rotate_left 901
      have hi2 := rng_nil e
      rw [List.drop_of_length_le hi2, List.drop_of_length_le (by omega)] at hs
      cases hs
      exact q
    · rintro d ds ρ μ' ⟨rfl, i, hi, e, ⟨z, rfl⟩, hs⟩ nx hnx
      obtain ⟨hi2, e1, e2⟩ := rng_cons e
      rw [Int.zero_add] at e1
      subst e1 e2
      obtain ⟨c, r, h1, h2, rfl⟩ := rowsM_drop hl hi2 hs
      obtain ⟨hx1, ex⟩ := atI_ok (l := xs) (i := (i : Int)) (by omega) (by omega)
      obtain ⟨hy1, ey⟩ := atI_ok (l := ys) (i := (i : Int)) (by omega) (by omega)
      rotate_left 901
      refine i_ix gx ex ?_
      rotate_left 901
      refine i_ix gy ey ?_
      rotate_left 901
      refine ⟨rfl, _, _, c, rfl, h1, ?_⟩
      cases c
      · rotate_left 901
        rw [Bool.false_and] at q
        exact q
      · rotate_left 901
        exact hnx _ _ ⟨rfl, i + 1, hi2, rfl, ⟨_, rfl⟩, by rw [Bool.true_and]; exact h2⟩
end T2


set_option maxRecDepth 100000
set_option maxHeartbeats 4000000
namespace T2
open PySem PySem.Spec PyProof.Rows L2
def sp_same_a0 : SpD := sp_sameN 0
def sp_rows_a0 : SpD := sp_rowsN 0
/-! _law_same -/
def N_same_a0 : List Str := ["_law_one", "_law_two"]
def P_same_a0 : List Str := ["_law_one", "_law_two"]
abbrev w_same_a0_p0 : WS := (wSeq (wIfS (wOrT (wTru (wIsi .str (wVar 0))) (wTru (wIsi .str (wVar 1)))) (wRet (wAnd (wIsi .str (wVar 0)) (wAnd (wIsi .str (wVar 1)) (wOp gEq (wVar 0) (wVar 1))))) wNext)
  (wSeq (wIfS (wOrT (wTru (wIsi .dict (wVar 0))) (wTru (wIsi .dict (wVar 1)))) (wRet (wAnd (wIsi .dict (wVar 0)) (wAnd (wIsi .dict (wVar 1)) (wCall 2 sp_no (wCons (wVar 0) (wCons (wVar 1) wNil)))))) wNext)
  (wSeq (wIfS (wOrT (wAndT (wTru (wIsi .list (wVar 0))) (wTru (wIsi .list (wVar 1)))) (wAndT (wTru (wIsi .tuple (wVar 0))) (wTru (wIsi .tuple (wVar 1))))) (wRet (wCall 2 sp_no (wCons (wVar 0) (wCons (wVar 1) wNil)))) wNext)
  (wRet (wC (.bl false))))))
def w_same_a0  : WS := (wSeq (wIfS (wOrT (wTB (wOp gIs (wVar 0) (wC .non))) (wTB (wOp gIs (wVar 1) (wC .non)))) (wRet (wAnd (wOp gIs (wVar 0) (wC .non)) (wOp gIs (wVar 1) (wC .non)))) wNext)
  (wSeq (wIfS (wOrT (wTru (wIsi .bool (wVar 0))) (wTru (wIsi .bool (wVar 1)))) (wRet (wAnd (wIsi .bool (wVar 0)) (wAnd (wIsi .bool (wVar 1)) (wOp gEq (wVar 0) (wVar 1))))) wNext)
  (wSeq (wIfS (wOrT (wTru (wIsi .int (wVar 0))) (wTru (wIsi .int (wVar 1)))) (wRet (wAnd (wIsi .int (wVar 0)) (wAnd (wIsi .int (wVar 1)) (wOp gEq (wVar 0) (wVar 1))))) wNext)
  w_same_a0_p0)))
/-! _law_same_rows -/
def N_rows_a0 : List Str := ["_law_one", "_law_two", "_law_k"]
def P_rows_a0 : List Str := ["_law_one", "_law_two"]
def w_rows_a0  : WS := (wSeq (wIfS (wTB (wOp gNe (wCB gLen (wCons (wVar 0) wNil)) (wCB gLen (wCons (wVar 1) wNil)))) (wRet (wC (.bl false))) wNext)
  (wSeq (wFor (wRng1 (wCB gLen (wCons (wVar 0) wNil))) (wgName 2) (wIfS (wNotT (wTru (wCall 2 sp_same_a0 (wCons (wOp gIx (wVar 0) (wVar 2)) (wCons (wOp gIx (wVar 1) (wVar 2)) wNil))))) (wRet (wC (.bl false))) wNext))
  (wRet (wC (.bl true)))))
theorem pf_same_a0 : ∀ ds μ Q E, sp_same_a0 ds μ Q E → w_same_a0 (endK Q E) (startD N_same_a0 ds) μ := pf_sameN 0
theorem pf_rows_a0 : ∀ ds μ Q E, sp_rows_a0 ds μ Q E → w_rows_a0 (endK Q E) (startD N_rows_a0 ds) μ := pf_rowsN 0
theorem ln_same_a0 : ∀ ds μ Q E, sp_same_a0 ds μ Q E → ds.length = P_same_a0.length := by
  rintro ds μ Q E ⟨x, y, b, rfl, _⟩
  rfl
theorem ln_rows_a0 : ∀ ds μ Q E, sp_rows_a0 ds μ Q E → ds.length = P_rows_a0.length := by
  rintro ds μ Q E ⟨x, y, t, u, xs, ys, b, rfl, _⟩
  rfl
def sp_same_a1 : SpD := sp_sameN 1
def sp_rows_a1 : SpD := sp_rowsN 1
/-! _law_same -/
def N_same_a1 : List Str := ["_law_one", "_law_two"]
def P_same_a1 : List Str := ["_law_one", "_law_two"]
abbrev w_same_a1_p0 : WS := (wSeq (wIfS (wOrT (wTru (wIsi .str (wVar 0))) (wTru (wIsi .str (wVar 1)))) (wRet (wAnd (wIsi .str (wVar 0)) (wAnd (wIsi .str (wVar 1)) (wOp gEq (wVar 0) (wVar 1))))) wNext)
  (wSeq (wIfS (wOrT (wTru (wIsi .dict (wVar 0))) (wTru (wIsi .dict (wVar 1)))) (wRet (wAnd (wIsi .dict (wVar 0)) (wAnd (wIsi .dict (wVar 1)) (wCall 2 sp_no (wCons (wVar 0) (wCons (wVar 1) wNil)))))) wNext)
  (wSeq (wIfS (wOrT (wAndT (wTru (wIsi .list (wVar 0))) (wTru (wIsi .list (wVar 1)))) (wAndT (wTru (wIsi .tuple (wVar 0))) (wTru (wIsi .tuple (wVar 1))))) (wRet (wCall 2 sp_rows_a0 (wCons (wVar 0) (wCons (wVar 1) wNil)))) wNext)
  (wRet (wC (.bl false))))))
def w_same_a1  : WS := (wSeq (wIfS (wOrT (wTB (wOp gIs (wVar 0) (wC .non))) (wTB (wOp gIs (wVar 1) (wC .non)))) (wRet (wAnd (wOp gIs (wVar 0) (wC .non)) (wOp gIs (wVar 1) (wC .non)))) wNext)
  (wSeq (wIfS (wOrT (wTru (wIsi .bool (wVar 0))) (wTru (wIsi .bool (wVar 1)))) (wRet (wAnd (wIsi .bool (wVar 0)) (wAnd (wIsi .bool (wVar 1)) (wOp gEq (wVar 0) (wVar 1))))) wNext)
  (wSeq (wIfS (wOrT (wTru (wIsi .int (wVar 0))) (wTru (wIsi .int (wVar 1)))) (wRet (wAnd (wIsi .int (wVar 0)) (wAnd (wIsi .int (wVar 1)) (wOp gEq (wVar 0) (wVar 1))))) wNext)
  w_same_a1_p0)))
/-! _law_same_rows -/
def N_rows_a1 : List Str := ["_law_one", "_law_two", "_law_k"]
def P_rows_a1 : List Str := ["_law_one", "_law_two"]
def w_rows_a1  : WS := (wSeq (wIfS (wTB (wOp gNe (wCB gLen (wCons (wVar 0) wNil)) (wCB gLen (wCons (wVar 1) wNil)))) (wRet (wC (.bl false))) wNext)
  (wSeq (wFor (wRng1 (wCB gLen (wCons (wVar 0) wNil))) (wgName 2) (wIfS (wNotT (wTru (wCall 2 sp_same_a1 (wCons (wOp gIx (wVar 0) (wVar 2)) (wCons (wOp gIx (wVar 1) (wVar 2)) wNil))))) (wRet (wC (.bl false))) wNext))
  (wRet (wC (.bl true)))))
theorem pf_same_a1 : ∀ ds μ Q E, sp_same_a1 ds μ Q E → w_same_a1 (endK Q E) (startD N_same_a1 ds) μ := pf_sameN 1
theorem pf_rows_a1 : ∀ ds μ Q E, sp_rows_a1 ds μ Q E → w_rows_a1 (endK Q E) (startD N_rows_a1 ds) μ := pf_rowsN 1
theorem ln_same_a1 : ∀ ds μ Q E, sp_same_a1 ds μ Q E → ds.length = P_same_a1.length := by
  rintro ds μ Q E ⟨x, y, b, rfl, _⟩
  rfl
theorem ln_rows_a1 : ∀ ds μ Q E, sp_rows_a1 ds μ Q E → ds.length = P_rows_a1.length := by
  rintro ds μ Q E ⟨x, y, t, u, xs, ys, b, rfl, _⟩
  rfl
def sp_same_a2 : SpD := sp_sameN 2
def sp_rows_a2 : SpD := sp_rowsN 2
/-! _law_same -/
def N_same_a2 : List Str := ["_law_one", "_law_two"]
def P_same_a2 : List Str := ["_law_one", "_law_two"]
abbrev w_same_a2_p0 : WS := (wSeq (wIfS (wOrT (wTru (wIsi .str (wVar 0))) (wTru (wIsi .str (wVar 1)))) (wRet (wAnd (wIsi .str (wVar 0)) (wAnd (wIsi .str (wVar 1)) (wOp gEq (wVar 0) (wVar 1))))) wNext)
  (wSeq (wIfS (wOrT (wTru (wIsi .dict (wVar 0))) (wTru (wIsi .dict (wVar 1)))) (wRet (wAnd (wIsi .dict (wVar 0)) (wAnd (wIsi .dict (wVar 1)) (wCall 2 sp_no (wCons (wVar 0) (wCons (wVar 1) wNil)))))) wNext)
  (wSeq (wIfS (wOrT (wAndT (wTru (wIsi .list (wVar 0))) (wTru (wIsi .list (wVar 1)))) (wAndT (wTru (wIsi .tuple (wVar 0))) (wTru (wIsi .tuple (wVar 1))))) (wRet (wCall 2 sp_rows_a1 (wCons (wVar 0) (wCons (wVar 1) wNil)))) wNext)
  (wRet (wC (.bl false))))))
def w_same_a2  : WS := (wSeq (wIfS (wOrT (wTB (wOp gIs (wVar 0) (wC .non))) (wTB (wOp gIs (wVar 1) (wC .non)))) (wRet (wAnd (wOp gIs (wVar 0) (wC .non)) (wOp gIs (wVar 1) (wC .non)))) wNext)
  (wSeq (wIfS (wOrT (wTru (wIsi .bool (wVar 0))) (wTru (wIsi .bool (wVar 1)))) (wRet (wAnd (wIsi .bool (wVar 0)) (wAnd (wIsi .bool (wVar 1)) (wOp gEq (wVar 0) (wVar 1))))) wNext)
  (wSeq (wIfS (wOrT (wTru (wIsi .int (wVar 0))) (wTru (wIsi .int (wVar 1)))) (wRet (wAnd (wIsi .int (wVar 0)) (wAnd (wIsi .int (wVar 1)) (wOp gEq (wVar 0) (wVar 1))))) wNext)
  w_same_a2_p0)))
/-! _law_same_rows -/
def N_rows_a2 : List Str := ["_law_one", "_law_two", "_law_k"]
def P_rows_a2 : List Str := ["_law_one", "_law_two"]
def w_rows_a2  : WS := (wSeq (wIfS (wTB (wOp gNe (wCB gLen (wCons (wVar 0) wNil)) (wCB gLen (wCons (wVar 1) wNil)))) (wRet (wC (.bl false))) wNext)
  (wSeq (wFor (wRng1 (wCB gLen (wCons (wVar 0) wNil))) (wgName 2) (wIfS (wNotT (wTru (wCall 2 sp_same_a2 (wCons (wOp gIx (wVar 0) (wVar 2)) (wCons (wOp gIx (wVar 1) (wVar 2)) wNil))))) (wRet (wC (.bl false))) wNext))
  (wRet (wC (.bl true)))))
theorem pf_same_a2 : ∀ ds μ Q E, sp_same_a2 ds μ Q E → w_same_a2 (endK Q E) (startD N_same_a2 ds) μ := pf_sameN 2
theorem pf_rows_a2 : ∀ ds μ Q E, sp_rows_a2 ds μ Q E → w_rows_a2 (endK Q E) (startD N_rows_a2 ds) μ := pf_rowsN 2
theorem ln_same_a2 : ∀ ds μ Q E, sp_same_a2 ds μ Q E → ds.length = P_same_a2.length := by
  rintro ds μ Q E ⟨x, y, b, rfl, _⟩
  rfl
theorem ln_rows_a2 : ∀ ds μ Q E, sp_rows_a2 ds μ Q E → ds.length = P_rows_a2.length := by
  rintro ds μ Q E ⟨x, y, t, u, xs, ys, b, rfl, _⟩
  rfl
def sp_same_a3 : SpD := sp_sameN 3
def sp_rows_a3 : SpD := sp_rowsN 3
/-! _law_same -/
def N_same_a3 : List Str := ["_law_one", "_law_two"]
def P_same_a3 : List Str := ["_law_one", "_law_two"]
abbrev w_same_a3_p0 : WS := (wSeq (wIfS (wOrT (wTru (wIsi .str (wVar 0))) (wTru (wIsi .str (wVar 1)))) (wRet (wAnd (wIsi .str (wVar 0)) (wAnd (wIsi .str (wVar 1)) (wOp gEq (wVar 0) (wVar 1))))) wNext)
  (wSeq (wIfS (wOrT (wTru (wIsi .dict (wVar 0))) (wTru (wIsi .dict (wVar 1)))) (wRet (wAnd (wIsi .dict (wVar 0)) (wAnd (wIsi .dict (wVar 1)) (wCall 2 sp_no (wCons (wVar 0) (wCons (wVar 1) wNil)))))) wNext)
  (wSeq (wIfS (wOrT (wAndT (wTru (wIsi .list (wVar 0))) (wTru (wIsi .list (wVar 1)))) (wAndT (wTru (wIsi .tuple (wVar 0))) (wTru (wIsi .tuple (wVar 1))))) (wRet (wCall 2 sp_rows_a2 (wCons (wVar 0) (wCons (wVar 1) wNil)))) wNext)
  (wRet (wC (.bl false))))))
def w_same_a3  : WS := (wSeq (wIfS (wOrT (wTB (wOp gIs (wVar 0) (wC .non))) (wTB (wOp gIs (wVar 1) (wC .non)))) (wRet (wAnd (wOp gIs (wVar 0) (wC .non)) (wOp gIs (wVar 1) (wC .non)))) wNext)
  (wSeq (wIfS (wOrT (wTru (wIsi .bool (wVar 0))) (wTru (wIsi .bool (wVar 1)))) (wRet (wAnd (wIsi .bool (wVar 0)) (wAnd (wIsi .bool (wVar 1)) (wOp gEq (wVar 0) (wVar 1))))) wNext)
  (wSeq (wIfS (wOrT (wTru (wIsi .int (wVar 0))) (wTru (wIsi .int (wVar 1)))) (wRet (wAnd (wIsi .int (wVar 0)) (wAnd (wIsi .int (wVar 1)) (wOp gEq (wVar 0) (wVar 1))))) wNext)
  w_same_a3_p0)))
/-! _law_same_rows -/
def N_rows_a3 : List Str := ["_law_one", "_law_two", "_law_k"]
def P_rows_a3 : List Str := ["_law_one", "_law_two"]
def w_rows_a3  : WS := (wSeq (wIfS (wTB (wOp gNe (wCB gLen (wCons (wVar 0) wNil)) (wCB gLen (wCons (wVar 1) wNil)))) (wRet (wC (.bl false))) wNext)
  (wSeq (wFor (wRng1 (wCB gLen (wCons (wVar 0) wNil))) (wgName 2) (wIfS (wNotT (wTru (wCall 2 sp_same_a3 (wCons (wOp gIx (wVar 0) (wVar 2)) (wCons (wOp gIx (wVar 1) (wVar 2)) wNil))))) (wRet (wC (.bl false))) wNext))
  (wRet (wC (.bl true)))))
theorem pf_same_a3 : ∀ ds μ Q E, sp_same_a3 ds μ Q E → w_same_a3 (endK Q E) (startD N_same_a3 ds) μ := pf_sameN 3
theorem pf_rows_a3 : ∀ ds μ Q E, sp_rows_a3 ds μ Q E → w_rows_a3 (endK Q E) (startD N_rows_a3 ds) μ := pf_rowsN 3
theorem ln_same_a3 : ∀ ds μ Q E, sp_same_a3 ds μ Q E → ds.length = P_same_a3.length := by
  rintro ds μ Q E ⟨x, y, b, rfl, _⟩
  rfl
theorem ln_rows_a3 : ∀ ds μ Q E, sp_rows_a3 ds μ Q E → ds.length = P_rows_a3.length := by
  rintro ds μ Q E ⟨x, y, t, u, xs, ys, b, rfl, _⟩
  rfl
def sp_same_a4 : SpD := sp_sameN 4
def sp_rows_a4 : SpD := sp_rowsN 4
/-! _law_same -/
def N_same_a4 : List Str := ["_law_one", "_law_two"]
def P_same_a4 : List Str := ["_law_one", "_law_two"]
abbrev w_same_a4_p0 : WS := (wSeq (wIfS (wOrT (wTru (wIsi .str (wVar 0))) (wTru (wIsi .str (wVar 1)))) (wRet (wAnd (wIsi .str (wVar 0)) (wAnd (wIsi .str (wVar 1)) (wOp gEq (wVar 0) (wVar 1))))) wNext)
  (wSeq (wIfS (wOrT (wTru (wIsi .dict (wVar 0))) (wTru (wIsi .dict (wVar 1)))) (wRet (wAnd (wIsi .dict (wVar 0)) (wAnd (wIsi .dict (wVar 1)) (wCall 2 sp_no (wCons (wVar 0) (wCons (wVar 1) wNil)))))) wNext)
  (wSeq (wIfS (wOrT (wAndT (wTru (wIsi .list (wVar 0))) (wTru (wIsi .list (wVar 1)))) (wAndT (wTru (wIsi .tuple (wVar 0))) (wTru (wIsi .tuple (wVar 1))))) (wRet (wCall 2 sp_rows_a3 (wCons (wVar 0) (wCons (wVar 1) wNil)))) wNext)
  (wRet (wC (.bl false))))))
def w_same_a4  : WS := (wSeq (wIfS (wOrT (wTB (wOp gIs (wVar 0) (wC .non))) (wTB (wOp gIs (wVar 1) (wC .non)))) (wRet (wAnd (wOp gIs (wVar 0) (wC .non)) (wOp gIs (wVar 1) (wC .non)))) wNext)
  (wSeq (wIfS (wOrT (wTru (wIsi .bool (wVar 0))) (wTru (wIsi .bool (wVar 1)))) (wRet (wAnd (wIsi .bool (wVar 0)) (wAnd (wIsi .bool (wVar 1)) (wOp gEq (wVar 0) (wVar 1))))) wNext)
  (wSeq (wIfS (wOrT (wTru (wIsi .int (wVar 0))) (wTru (wIsi .int (wVar 1)))) (wRet (wAnd (wIsi .int (wVar 0)) (wAnd (wIsi .int (wVar 1)) (wOp gEq (wVar 0) (wVar 1))))) wNext)
  w_same_a4_p0)))
/-! _law_same_rows -/
def N_rows_a4 : List Str := ["_law_one", "_law_two", "_law_k"]
def P_rows_a4 : List Str := ["_law_one", "_law_two"]
def w_rows_a4  : WS := (wSeq (wIfS (wTB (wOp gNe (wCB gLen (wCons (wVar 0) wNil)) (wCB gLen (wCons (wVar 1) wNil)))) (wRet (wC (.bl false))) wNext)
  (wSeq (wFor (wRng1 (wCB gLen (wCons (wVar 0) wNil))) (wgName 2) (wIfS (wNotT (wTru (wCall 2 sp_same_a4 (wCons (wOp gIx (wVar 0) (wVar 2)) (wCons (wOp gIx (wVar 1) (wVar 2)) wNil))))) (wRet (wC (.bl false))) wNext))
  (wRet (wC (.bl true)))))
theorem pf_same_a4 : ∀ ds μ Q E, sp_same_a4 ds μ Q E → w_same_a4 (endK Q E) (startD N_same_a4 ds) μ := pf_sameN 4
theorem pf_rows_a4 : ∀ ds μ Q E, sp_rows_a4 ds μ Q E → w_rows_a4 (endK Q E) (startD N_rows_a4 ds) μ := pf_rowsN 4
theorem ln_same_a4 : ∀ ds μ Q E, sp_same_a4 ds μ Q E → ds.length = P_same_a4.length := by
  rintro ds μ Q E ⟨x, y, b, rfl, _⟩
  rfl
theorem ln_rows_a4 : ∀ ds μ Q E, sp_rows_a4 ds μ Q E → ds.length = P_rows_a4.length := by
  rintro ds μ Q E ⟨x, y, t, u, xs, ys, b, rfl, _⟩
  rfl
end T2


set_option maxRecDepth 100000
set_option maxHeartbeats 4000000
namespace T2
open PySem PySem.Spec PyProof.Rows L2
/-! ### what the head tells of exceptions' classes -/
theorem oexB_ok {K : PySem.W.Frag} {C : Addr} (h : oexB K C = true) : ∃ nm q N bs bm sn sub ab col dd k0 k1 k2 k3 k5, K.lookup C = some (excClassObj nm q C N bs bm true sn sub ab col dd k0 k1 k2 k3 k5 "ValueError.__new__") ∧ PySem.HandSPX.refsVE bm = true := by
  unfold oexB at h
  split at h
  · rename_i t dd cd sl ho
    split at h
    · rename_i C' bm k0 k1 k2 k3 n k5 hm hs
      obtain ⟨nm, bs, mro, ns, qn, hd, sn, sub, ab, col, del⟩ := cd
      simp only [Bool.and_eq_true, decide_eq_true_eq, Bool.not_eq_true'] at h
      obtain ⟨h1, h2, h3, h4, h5, h6⟩ := h
      dsimp only at hm h4 h5
      subst h1 h2 h3 h4 h5 hm
      have hsl : sl = #[k0, k1, k2, k3, some (.builtin "ValueError.__new__"), k5] := by
        obtain ⟨l⟩ := sl
        simp only at hs
        rw [hs]
      subst hsl
      exact ⟨nm, qn, ns, bs, bm, sn, sub, ab, col, dd, k0, k1, k2, k3, k5, ho, h6⟩
    · cases h
  · cases h
theorem excB_ok {K : PySem.W.Frag} {D : Addr} (x : XfC K D) (h : excB K D = true) : ExcC K D := by
  unfold excB at h
  simp only [Bool.and_eq_true, decide_eq_true_eq] at h
  exact ⟨x.ga, x.gg, x.exC, x.hdC, h.1, h.2.1, h.2.2.1, h.2.2.2⟩
theorem xclB_ok {K : PySem.W.Frag} {mg : Str → Option Value} {x : Str} {fs : List Str} (hg : mg x = some (.ref (He.ga K x))) (h : xclB K x fs = true) : XCls K mg x (He.ga K x) fs := by
  unfold xclB at h
  simp only [Bool.and_eq_true, decide_eq_true_eq] at h
  obtain ⟨h1, h2, h3, h4, h5, h6, h7⟩ := h
  have X := xfB_ok h5
  exact ⟨hg, ⟨oexB_ok h1, h2, X.exC, h3, h4⟩, X, excB_ok X h6, fun f hf => of_decide_eq_true (List.all_eq_true.mp h7 f hf)⟩
def xct (K : PySem.W.Frag) (cs : List Str) (os : List Str := []) : CT := ⟨fun c => if memB c os = true then some (He.ga K c) else none, fun c => if memB c cs = true then some (He.ga K c) else none⟩
theorem memB_ok {x : Str} : ∀ {l : List Str}, memB x l = true → x ∈ l
  | [], h => by cases h
  | y :: r, h => by
    unfold memB at h
    split at h
    · rename_i e; rw [e]; exact List.mem_cons_self
    · exact List.mem_cons_of_mem _ (memB_ok h)
theorem xct_ok {K : PySem.W.Frag} {cs os : List Str} {c : Str} {ca : Addr} (h : (xct K cs os).xcls c = some ca) : c ∈ cs ∧ ca = He.ga K c := by
  have h : (if memB c cs = true then some (He.ga K c) else none) = some ca := h
  split at h
  · rename_i e; cases h; exact ⟨memB_ok e, rfl⟩
  · cases h
theorem xct_cls {K : PySem.W.Frag} {cs os : List Str} {c : Str} {ca : Addr} (h : (xct K cs os).cls c = some ca) : c ∈ os ∧ ca = He.ga K c := by
  have h : (if memB c os = true then some (He.ga K c) else none) = some ca := h
  split at h
  · rename_i e; cases h; exact ⟨memB_ok e, rfl⟩
  · cases h
theorem xct_at {K : PySem.W.Frag} {cs os : List Str} {c : Str} (h : memB c os = true) : (xct K cs os).cls c = some (He.ga K c) := if_pos h
theorem objB_ok {K : PySem.W.Frag} {x : Str} {fs : List Str} (h : objB K x fs = true) : Cls K (He.ga K x) ∧ ∀ f ∈ fs, NoAttr K (He.ga K x) f := by
  unfold objB at h
  simp only [Bool.and_eq_true, decide_eq_true_eq] at h
  obtain ⟨h1, h2, h3, h4, h5⟩ := h
  refine ⟨⟨h1, h2, h3, h4⟩, fun f hf => ?_⟩
  have := List.all_eq_true.mp h5 f hf
  exact of_decide_eq_true (p := PySem.W.findIn K (.ref (He.ga K x)) f = some none) this
theorem methB_ok {K : PySem.W.Frag} {c m : Str} (h : methB K c m = true) : Meth K (He.ga K c) m (He.ma K (He.ga K c) m) := by
  unfold methB at h
  simp only [Bool.and_eq_true, decide_eq_true_eq] at h
  exact ⟨h.1, h.2.1, h.2.2⟩
theorem mkB_ok {K : PySem.W.Frag} {c : Str} (h : mkB K c = true) : Mk K (He.ga K c) (He.ma K (He.ga K c) "__init__") := by
  unfold mkB at h
  simp only [Bool.and_eq_true, decide_eq_true_eq] at h
  exact ⟨h.1, h.2.1, h.2.2.1, h.2.2.2⟩
theorem prB_ok {K : PySem.W.Frag} {c f : Str} (h : prB K c f = true) : PropOf K (He.ga K c) f (He.ma K (He.ga K c) f) (gtA K c f) := by
  unfold prB at h
  simp only [Bool.and_eq_true, decide_eq_true_eq] at h
  obtain ⟨h1, h2, h3, h4⟩ := h
  refine ⟨h1, h2, h3, ?_⟩
  unfold gtA
  split at h4
  · rename_i g r e
    rw [e]
    exact ⟨r, rfl⟩
  · cases h4
/-! ### the head's facts, and the properties' getters -/
theorem subB_ok {K : PySem.W.Frag} {mg : Str → Option Value} {cs os : List Str} {x : Str} {is : Str → Bool} (hg : mg x = some (.ref (He.ga K x))) (h : subB K cs x is = true) : SubOk K mg (xct K cs os) x is :=
  ⟨.ref (He.ga K x), .ref (He.ga K x), .inl hg, rfl, fun u r => r, fun c ca hc => by
    obtain ⟨h1, rfl⟩ := xct_ok hc
    have := List.all_eq_true.mp h c h1
    simp only [Bool.and_eq_true, decide_eq_true_eq] at this
    exact this⟩
theorem subV_ok {K : PySem.W.Frag} {mg : Str → Option Value} {cs os : List Str} {x : Str} {n : String} {is : Str → Bool} (hg : mg x = none) (hb : bootBuiltins x = some (.type n)) (h : subV K cs n is = true) : SubOk K mg (xct K cs os) x is :=
  ⟨.ty n, .type n, .inr ⟨hg, hb⟩, rfl, fun u r => r, fun c ca hc => by
    obtain ⟨h1, rfl⟩ := xct_ok hc
    have := List.all_eq_true.mp h c h1
    simp only [Bool.and_eq_true, decide_eq_true_eq] at this
    exact this⟩
/-! ### a law's tables, put together once -/
structure Bs (P : Program) (w : World) (K : PySem.W.Frag) (mg : Str → Option Value) (base : Heap) (C : CT) (consts : List (Str × D)) (raises : List (Str × List Str)) (subs : List (Str × (Str → Bool))) (flds : List Str) (ofl : List Str) : Prop where
  con : ∀ q ∈ consts, ∃ u v, mg q.1 = some u ∧ RelV v u ∧ ∀ F, Rep K C F q.2 v
  free : ∀ x ∈ biNames, mg x = none
  rs : ∀ q ∈ raises, XMk P w K mg base C 1 q.1 q.2
  sub : ∀ q ∈ subs, SubOk K mg C q.1 q.2
  xc : ∀ c ca, C.xcls c = some ca → XfC K ca ∧ ExcC K ca ∧ ∀ f ∈ flds, PySem.W.findIn K (.ref ca) f = some none
  oc : ∀ c ca, C.cls c = some ca → Cls K ca ∧ ∀ f ∈ ofl, NoAttr K ca f
def AllF (P : Program) (w : World) (K : PySem.W.Frag) (mg : Str → Option Value) (base : Heap) (C : CT) (k : Nat) : List FunE → Prop
  | [] => True
  | e :: r => FnAt P w K mg base C k e.x e.n e.ks e.sp ∧ AllF P w K mg base C k r
theorem AllF.nil {P : Program} {w : World} {K : PySem.W.Frag} {mg : Str → Option Value} {base : Heap} {C : CT} {k : Nat} : AllF P w K mg base C k [] := trivial
theorem AllF.cons {P : Program} {w : World} {K : PySem.W.Frag} {mg : Str → Option Value} {base : Heap} {C : CT} {k : Nat} {e : FunE} {r : List FunE} (h : FnAt P w K mg base C k e.x e.n e.ks e.sp) (t : AllF P w K mg base C k r) : AllF P w K mg base C k (e :: r) := ⟨h, t⟩
theorem AllF.get {P : Program} {w : World} {K : PySem.W.Frag} {mg : Str → Option Value} {base : Heap} {C : CT} {k : Nat} : ∀ {l : List FunE}, AllF P w K mg base C k l → ∀ e ∈ l, FnAt P w K mg base C k e.x e.n e.ks e.sp
  | [], _, e, he => by cases he
  | a :: r, h, e, he => by
    rcases List.mem_cons.mp he with z | z
    · rw [z]; exact h.1
    · exact AllF.get h.2 e z
theorem Bs.gam {P : Program} {w : World} {K : PySem.W.Frag} {mg : Str → Option Value} {base : Heap} {C : CT} {consts : List (Str × D)} {raises : List (Str × List Str)} {subs : List (Str × (Str → Bool))} {flds ofl : List Str} {k : Nat} {fs : List FunE} {ms : List MetE} {ps : List PrpE} {ks : List MakE} {hs : List (Str × SpX)}
    (B : Bs P w K mg base C consts raises subs flds ofl) (hk : 2 ≤ k) (h : AllF P w K mg base C k fs) (hm : ∀ e ∈ ms, MethAt P w K mg base C k e.c e.m e.n e.sp) (hp : ∀ e ∈ ps, ∃ j, j + 1 ≤ k ∧ PropAt P w K mg base C j e.c e.f e.sp) (hmk : ∀ e ∈ ks, ∃ j, j + 1 ≤ k ∧ MakeAt P w K mg base C j e.x e.n e.sp) (hh : ∀ q ∈ hs, ∃ j, j + 1 ≤ k ∧ FnX P w K mg base C j q.1 q.2) :
    GamOk P w K mg base C k ⟨fs, consts, raises, subs, flds, ms, ps, ks, ofl, hs⟩ :=
  ⟨h.get, B.con, B.free, fun q hq => ⟨1, hk, B.rs q hq⟩, B.sub, B.xc, hm, hp, hmk, B.oc, hh⟩
theorem Bs.gamX {P : Program} {w : World} {K : PySem.W.Frag} {mg : Str → Option Value} {base : Heap} {C : CT} {consts : List (Str × D)} {raises : List (Str × List Str)} {subs : List (Str × (Str → Bool))} {flds ofl : List Str} {k : Nat} {fs : List FunE} {ms : List MetE} {ps : List PrpE} {ks : List MakE} {hs : List (Str × SpX)}
    (B : Bs P w K mg base C consts raises subs flds ofl) (hk : 2 ≤ k) (h : AllF P w K mg base C k fs) (hm : ∀ e ∈ ms, MethAt P w K mg base C k e.c e.m e.n e.sp) (hp : ∀ e ∈ ps, ∃ j, j + 1 ≤ k ∧ PropAt P w K mg base C j e.c e.f e.sp) (hmk : ∀ e ∈ ks, ∃ j, j + 1 ≤ k ∧ MakeAt P w K mg base C j e.x e.n e.sp) (hh : ∀ q ∈ hs, ∃ j, j + 1 ≤ k ∧ FnX P w K mg base C j q.1 q.2) :
    GamOk P w K mg base C k ⟨fs, consts, raises, subs, [], ms, ps, ks, ofl, hs⟩ :=
  ⟨h.get, B.con, B.free, fun q hq => ⟨1, hk, B.rs q hq⟩, B.sub, fun c ca h => ⟨(B.xc c ca h).1, (B.xc c ca h).2.1, fun _ z => by cases z⟩, hm, hp, hmk, B.oc, hh⟩
theorem all0 {α : Type} {P : α → Prop} : ∀ e ∈ ([] : List α), P e := fun _ h => by cases h
theorem all1 {α : Type} {P : α → Prop} {a : α} {l : List α} (h : P a) (t : ∀ e ∈ l, P e) : ∀ e ∈ a :: l, P e := fun e he => by
  rcases List.mem_cons.mp he with z | z
  · rw [z]; exact h
  · exact t e z
theorem con_str {K : PySem.W.Frag} {mg : Str → Option Value} {C : CT} {x z : Str} (h : ∃ t, mg x = some (.str z t)) : ∃ u v, mg x = some u ∧ RelV v u ∧ ∀ F, Rep K C F (.str z) v := by
  obtain ⟨t, h⟩ := h
  exact ⟨_, .str z, h, ⟨t, rfl⟩, fun F => .ofStr⟩
theorem con_int {K : PySem.W.Frag} {mg : Str → Option Value} {C : CT} {x : Str} {i : Int} (h : ∃ t, mg x = some (.int i t)) : ∃ u v, mg x = some u ∧ RelV v u ∧ ∀ F, Rep K C F (.int i) v := by
  obtain ⟨t, h⟩ := h
  exact ⟨_, .int i, h, ⟨t, rfl⟩, fun F => .ofInt⟩
theorem valS_ok : ∀ {ys : List Str} {vs : List Value}, valS ys vs = true → Vals (ys.map V.str) vs
  | [], [], _ => .nil
  | y :: ys, v :: vs, h => by
    unfold valS at h
    split at h
    · rename_i e; cases e
    · rename_i y' ys' z t vs' e1 e2
      cases e1
      cases e2
      rw [Bool.and_eq_true, decide_eq_true_eq] at h
      obtain ⟨rfl, h2⟩ := h
      exact .cons ⟨t, rfl⟩ (valS_ok h2)
    · cases h
  | [], _ :: _, h => by cases h
  | _ :: _, [], h => by cases h
theorem con_tup {K : PySem.W.Frag} {mg : Str → Option Value} {C : CT} {x : Str} {ys : List Str} (hg : mg x = some (.ref (He.ga K x))) (h : ctpB K x ys = true) : ∃ u v, mg x = some u ∧ RelV v u ∧ ∀ F, Rep K C F (.ctp (ys.map D.str)) v := by
  unfold ctpB at h
  split at h
  · rename_i o ho
    rw [Bool.and_eq_true, decide_eq_true_eq] at h
    obtain ⟨h1, h2⟩ := h
    split at h2
    · rename_i its n hd
      rw [Bool.and_eq_true] at h2
      refine ⟨_, .ref (He.ga K x), hg, rfl, fun F => ?_⟩
      unfold Rep
      refine ⟨_, ys.map V.str, rfl, .inr ⟨o, its, n, ho, h1, hd, Nat.le_trans (Nat.le_of_ble_eq_true h2.1) (by decide), valS_ok h2.2⟩, ?_⟩
      clear h2
      induction ys with
      | nil => exact .nil
      | cons y ys ih => exact .cons .ofStr ih
    · cases h2
  · cases h
/-- parameters without defaults, some of them by name -/
theorem kbP {K : PySem.W.Frag} {x qual : Str} {params : Arguments} {body : List Stmt} {scope : Scope} {kws : List (Str × V)} {f : Addr} {fd : FuncData} {ps ks : List Str} {n : Nat} (F : FunD K x qual params body scope [] kws f fd)
    (h : ∀ (kV doc pm : Value) (an : Option Addr) (cdv ct : Value) (us ws : List Value), us.length = n → ws.length = ks.length → bindArgs (PySem.W.fnOf x qual params body scope .none kV doc pm an cdv ct) ⟨us, ks.zip ws⟩ = pure (ps.zip (us ++ ws))) :
    KBn K fd ps n ks (fun us ws => us ++ ws) (fun vs zs => vs ++ zs) := by
  obtain ⟨oc, od, dV, kV, doc, pm, an, cdv, ct, osl, rfl, lk, hcd, hD, hK⟩ := F.ex
  rcases hD with ⟨_, rfl⟩ | ⟨e, _⟩
  · exact ⟨fun s us ws _ h1 h2 => .of_eq (h kV doc pm an cdv ct us ws h1 h2), fun r1 r2 => r1.append r2⟩
  · exact absurd rfl e
/-! ### the law's own def, at the head -/
theorem law_sp {K : PySem.W.Frag} {C : CT} {sp : SpD} (h : ∀ (ns : List Int), (∀ z ∈ ns, Bd BB z) → ns.length < sizeLine → ∀ (μ : Mu) (Q : PQ) (E : PX), (∀ μ', Q (.bl true) μ') → sp [.scr (ns.map D.int)] μ Q E) {n : Nat} (hn : n < sizeLine)
    (H : Hp) (a : Addr) (ns : List Int) (hl : ns.length ≤ n) (hb : ∀ z ∈ ns, Builtin.Int.intBits z ≤ 1048576) (hS : SqL K H a (ns.map V.int)) : liftSp K C sp [.ref a] H (fun v _ => v = .bl true) fun _ _ _ => False := by
  have hr : ∀ ns : List Int, RepL K C H (ns.map D.int) (ns.map V.int) := fun ns => by
    induction ns with
    | nil => exact .nil
    | cons i r ih => exact .cons .ofInt ih
  have hw : Wd K C H H (fun _ => none) H ∨ True := .inr trivial
  refine ⟨fun _ => none, H, fun _ => none, [.scr (ns.map D.int)], fun d _ => d = .bl true, fun _ _ _ => False, .cons ?_ .nil, ⟨fun _ _ e => e, fun _ _ e => (by cases e), fun _ _ e => (by cases e), fun _ _ e => (by cases e), fun _ _ e => (by cases e)⟩,
    h ns (fun z hz => Bd.ofBits (hb z hz)) (by omega) _ _ _ fun _ => rfl, fun d μ' e F' H' v s w r => ?_, fun _ _ _ z => z.elim⟩
  · unfold Rep
    exact ⟨a, _, rfl, hS, hr ns⟩
  · subst e
    exact r.bl
end T2

set_option maxRecDepth 100000
set_option maxHeartbeats 4000000
local macro_rules | `(tactic| rotate_left 902) => `(tactic| (repeat' (first | (with_reducible refine Step.go ?_) | (with_reducible refine i_var (by with_unfolding_all apply Eq.refl) ?_) | (with_reducible refine i_seq ?_) | (with_reducible refine Fork.go (fun h => ?_) (fun h => ?_)) | (with_reducible refine i_ixS (by with_reducible first | assumption | apply mset_same) (by with_unfolding_all apply Eq.refl) ?_) | (with_reducible refine i_ixF (by with_unfolding_all apply Eq.refl) ?_) | (with_reducible refine i_ixT (by with_unfolding_all apply Eq.refl) ?_) | (with_reducible refine i_xfv (by with_unfolding_all apply Eq.refl) ?_) | (with_reducible refine i_isv (by with_unfolding_all apply Eq.refl) ?_) | (with_reducible refine i_isvL (by with_reducible first | assumption | apply mset_same) ?_) | (with_reducible refine i_Tv (by with_unfolding_all apply Eq.refl) ?_) | (with_reducible refine i_Fv (by with_unfolding_all apply Eq.refl) ?_) | (with_reducible refine i_lcC (by first | apply True.intro | with_unfolding_all apply Eq.refl) ?_) | (with_reducible refine i_lcN (by first | apply True.intro | with_unfolding_all apply Eq.refl) ?_) | (with_reducible refine i_forC (by first | apply True.intro | with_unfolding_all apply Eq.refl) ?_) | (with_reducible refine i_forN (by first | apply True.intro | with_unfolding_all apply Eq.refl) ?_) | (with_reducible refine i_sz2 (by with_unfolding_all apply Eq.refl) ?_) | (with_reducible refine i_size (by with_unfolding_all apply Eq.refl) ?_) | (with_reducible refine i_gT (by with_unfolding_all apply Eq.refl) ?_) | (with_reducible refine i_fldO (by with_unfolding_all apply Eq.refl) ?_) | (with_reducible refine i_fldR (by with_reducible first | assumption | apply mset_same) (by with_unfolding_all apply Eq.refl) ?_) | (with_reducible refine i_isR (by with_reducible first | assumption | apply mset_same) ?_) | (with_reducible refine i_isOm (by with_unfolding_all apply Eq.refl) ?_) | (with_reducible refine i_isRm (by with_reducible first | assumption | apply mset_same) (by with_unfolding_all apply Eq.refl) ?_) | (with_reducible refine i_setR (by with_reducible first | assumption | apply mset_same) (by with_unfolding_all apply Eq.refl) ?_) | (with_reducible refine i_lkR (by with_reducible first | assumption | apply mset_same) ?_) | (with_reducible refine i_powC (by decide) (by decide) (by decide) ?_) | (with_reducible refine i_setL (by with_reducible first | assumption | apply mset_same) (by with_unfolding_all apply Eq.refl) ?_) | (with_reducible refine i_lenS (by with_reducible first | assumption | apply mset_same) ?_))))
namespace K00
open PySem PySem.Spec PyProof.Rows L2 T2
/-! ### texts of at most so many signs -/
theorem len_add (i j : Str) : (i ++ j).length = i.length + j.length := Array.size_append
theorem cut_len (z : Str) (lo hi : Option Int) : (cutS z lo hi).length ≤ z.length := by
  show (((z.cps.toList.drop _).take _).toArray).size ≤ z.cps.size
  rw [List.size_toArray, List.length_take, List.length_drop, Array.length_toList]
  omega
theorem fold_size (x : Array Nat) : ∀ (n : Nat) (acc : Array Nat), ((List.replicate n x).foldl (· ++ ·) acc).size = acc.size + n * x.size
  | 0, acc => by show acc.size = _; omega
  | n + 1, acc => by
    show ((List.replicate n x).foldl (· ++ ·) (acc ++ x)).size = _
    rw [fold_size x n, Array.size_append, Nat.succ_mul]
    omega
theorem mul_len (x : Str) (n : Int) : (Txt.mul x n).length ≤ x.length * n.toNat := by
  unfold Txt.mul
  split
  · exact Nat.zero_le _
  · rename_i h1
    split
    · rename_i h2
      rw [Bool.or_eq_true, beq_iff_eq, beq_iff_eq] at h2
      rcases h2 with h2 | h2
      · rw [h2]; exact Nat.le_of_eq (Nat.mul_one _).symm
      · rw [h2]; exact Nat.zero_le _
    · show ((List.replicate n.toNat x.cps).foldl (· ++ ·) #[]).size ≤ _
      rw [fold_size]
      show 0 + n.toNat * x.length ≤ _
      rw [Nat.zero_add, Nat.mul_comm]
      exact Nat.le_refl _
theorem mulOk_of {x : Str} {n : Int} {m k : Nat} (hx : x.length ≤ m) (hn : n ≤ k) (h0 : 0 ≤ n) (h : m * k ≤ 16000000) (hk : k ≤ 100000) (hm : m ≤ 100000) : MulOk x n := by
  have hxn : x.length * n.toNat ≤ 16000000 := Nat.le_trans (Nat.mul_le_mul hx (show n.toNat ≤ k by omega)) h
  refine ⟨?_, fun h1 h2 h3 => ?_, fun h1 h2 => ?_⟩
  · rw [Bool.or_eq_false_iff, decide_eq_false_iff_not, decide_eq_false_iff_not]
    exact ⟨by omega, by omega⟩
  · have : (x.length : Int) * n ≤ 16000000 := by
      obtain ⟨j, rfl⟩ := Int.eq_ofNat_of_zero_le h0
      rw [Int.toNat_natCast] at hxn
      have h5 : ((x.length * j : Nat) : Int) ≤ 16000000 := by omega
      rw [Int.natCast_mul] at h5
      exact h5
    have h4 : (2 ^ 63 - 1 : Int) / n ≥ x.length := by
      refine (Int.le_ediv_iff_mul_le (by omega)).mpr ?_
      omega
    omega
  · unfold PySem.Builtin.Str.tooLong
    rw [decide_eq_false_iff_not, sizeLine_eq]
    omega
theorem i_app {a : Addr} {ds : List D} {d : D} {μ : Mu} {Q : PQ} (h : μ a = some (.lst ds)) (hl : ds.length < sizeLine) (q : Q .non (mset μ a (.lst (ds ++ [d])))) : gAppend (.raw a) [d] μ Q := ⟨a, ds, d, rfl, rfl, h, hl, q⟩
section
variable {μ : Mu} {Q : PQ} {E : PX} {i j : Str} {m n : Nat}
theorem i_addB (hi : i.length ≤ m) (hj : j.length ≤ n) (h : m + n ≤ 16000000) (q : ∀ s : Str, s.length ≤ m + n → Q (.str s) μ) : gAdd (.str i) (.str j) μ Q :=
  .inr (.inl ⟨i, j, rfl, rfl, by rw [sizeLine_eq]; omega, q _ (by rw [len_add]; omega)⟩)
theorem i_cutB {lo hi : Option Int} (h : i.length ≤ m) (hm : m ≤ 16000000) (q : ∀ s : Str, s.length ≤ m → Q (.str s) μ) : gSl (.str i) lo hi μ Q :=
  .inl ⟨i, rfl, by rw [sizeLine_eq]; omega, q _ (Nat.le_trans (cut_len i lo hi) h)⟩
theorem i_mulB {k : Int} {kk : Nat} (h : i.length ≤ m) (h0 : 0 ≤ k) (hk : k ≤ kk) (hm : m * kk ≤ 16000000) (h1 : kk ≤ 100000) (h2 : m ≤ 100000) (q : ∀ s : Str, s.length ≤ m * kk → Q (.str s) μ) : gMul (.str i) (.int k) μ Q :=
  .inr (.inl ⟨i, k, rfl, rfl, mulOk_of h hk h0 hm h1 h2, q _ (Nat.le_trans (mul_len i k) (Nat.mul_le_mul h (by omega)))⟩)
theorem i_lenB (h : i.length ≤ 16000000) (q : Q (.int i.length) μ) : gLen [.str i] μ Q := i_lenT (by rw [sizeLine_eq]; omega) q
end
/-! _law_pick -/
def N_pickB : List Str := ["_law_store_here", "_law_row"]
def P_pickB : List Str := ["_law_store_here", "_law_row"]
def w_pickB  : WS := (wSeq (wIfS (wTB (wOp gEq (wCB gLen (wCons (wVar 1) wNil)) (wC (.int 0)))) (wRet (wC .non)) wNext)
  (wRet (wOp gIx (wVar 1) (wCall 2 sp_take (wCons (wVar 0) (wCons (wCB gLen (wCons (wVar 1) wNil)) wNil))))))
/-- a row of things, a text of signs -/
def sp_pickB : SpD := fun ds μ Q _ => ∃ (a : Addr) (o : MO) (b : Int) (row : D), ds = [.raw a, row] ∧ μ a = some o ∧ StO b o ∧ b < 1000000000000000000 ∧
  ((∃ xs : List D, row = .lst xs ∧ xs.length < 1000000000 ∧ xs ≠ [] ∧ ∀ x ∈ xs, ∀ o', StO (b + 1) o' → Q x (mset μ a o')) ∨
   (∃ z : Str, row = .str z ∧ 0 < z.length ∧ z.length ≤ 1000 ∧ ∀ (c : Str) o', c.length = 1 → StO (b + 1) o' → Q (.str c) (mset μ a o')))
theorem pf_pickB : ∀ ds μ Q E, sp_pickB ds μ Q E → w_pickB (endK Q E) (startD N_pickB ds) μ := by
  rintro ds μ Q E ⟨a, o, b, row, rfl, hμ, ho, hb, q⟩
  unfold w_pickB
  rcases q with ⟨xs, rfl, hl, hne, q⟩ | ⟨z, rfl, h0, hl, q⟩
  · rotate_left 901
    · exact absurd (List.length_eq_zero_iff.mp (by omega)) hne
    · refine i_take hμ ho hb (by omega) fun r o' h0 h1 ho' => ?_
      have hr1 : r < xs.length := by omega
      obtain ⟨hx, e⟩ := atI_ok h0 hr1
      refine i_ixF e ?_
      rotate_left 901
      exact q _ (List.getElem_mem _) _ ho'
  · rotate_left 901
    refine i_lenB (by omega) ?_
    rotate_left 901
    · omega
    · refine i_lenB (by omega) ?_
      rotate_left 901
      refine i_take hμ ho hb (by omega) fun r o' g0 g1 ho' => ?_
      have hr1 : r < z.cps.toList.length := by
        rw [Array.length_toList]
        have : (z.length : Int) = z.cps.size := rfl
        omega
      obtain ⟨hx, e⟩ := atI_ok g0 hr1
      refine .inr (.inr ⟨z, r, _, rfl, rfl, by rw [sizeLine_eq]; omega, e, ?_⟩)
      rotate_left 901
      exact q _ _ rfl ho'
section
variable {a : Addr} {o : MO} {b : Int} {μ : Mu} {Q : PQ} {E : PX}
theorem i_pickL {xs : List D} (hμ : μ a = some o) (ho : StO b o) (hb : b < 1000000000000000000) (hl : xs.length < 1000000000) (hne : xs ≠ []) (q : ∀ x ∈ xs, ∀ o', StO (b + 1) o' → Q x (mset μ a o')) : [D.raw a, .lst xs].length = 2 ∧ sp_pickB [.raw a, .lst xs] μ Q E :=
  ⟨rfl, a, o, b, _, rfl, hμ, ho, hb, .inl ⟨xs, rfl, hl, hne, q⟩⟩
theorem i_pickT {z : Str} (hμ : μ a = some o) (ho : StO b o) (hb : b < 1000000000000000000) (h0 : 0 < z.length) (hl : z.length ≤ 1000) (q : ∀ (c : Str) o', c.length = 1 → StO (b + 1) o' → Q (.str c) (mset μ a o')) : [D.raw a, .str z].length = 2 ∧ sp_pickB [.raw a, .str z] μ Q E :=
  ⟨rfl, a, o, b, _, rfl, hμ, ho, hb, .inr ⟨z, rfl, h0, hl, q⟩⟩
end
/-! _law_size -/
def N_size : List Str := ["_law_store_here", "_law_low", "_law_high", "_law_kind"]
def P_size : List Str := ["_law_store_here", "_law_low", "_law_high"]
abbrev w_size_p0 : WS := (wSeq (wIfS (wTB (wOp gLt (wVar 3) (wC (.int 2)))) (wRet (wVar 1)) wNext)
  (wSeq (wIfS (wTB (wOp gEq (wVar 3) (wC (.int 2)))) (wRet (wVar 2)) wNext)
  (wSeq (wIfS (wTB (wOp gLt (wVar 3) (wC (.int 5)))) (wRet (wOp gAdd (wVar 1) (wCall 2 sp_take (wCons (wVar 0) (wCons (wOp gAdd (wOp gSub (wVar 2) (wVar 1)) (wC (.int 1))) wNil))))) wNext)
  (wRet (wOp gAdd (wVar 1) (wCall 2 sp_take (wCons (wVar 0) (wCons (wOp gAdd (wCB gMinB (wCons (wOp gSub (wVar 2) (wVar 1)) (wCons (wC (.int 5)) wNil))) (wC (.int 1))) wNil))))))))
def w_size  : WS := (wSeq (wAsg 3 (wCall 2 sp_take (wCons (wVar 0) (wCons (wC (.int 20)) wNil))))
  w_size_p0)
def sp_size : SpD := fun ds μ Q _ => ∃ (a : Addr) (o : MO) (b lo hi : Int), ds = [.raw a, .int lo, .int hi] ∧ μ a = some o ∧ StO b o ∧ b < 100000000000000000 ∧ lo ≤ hi ∧ hi - lo < 100000000000000000000 ∧ ∀ (r : Int) (o' : MO), lo ≤ r → r ≤ hi → StO (b + 2) o' → Q (.int r) (mset μ a o')
theorem pf_size : ∀ ds μ Q E, sp_size ds μ Q E → w_size (endK Q E) (startD N_size ds) μ := by
  rintro ds μ Q E ⟨a, o, b, lo, hi, rfl, hμ, ho, hb, hlh, hm, q⟩
  unfold w_size
  rotate_left 901
  refine i_take hμ ho (by omega) (by decide) fun r o' h0 h1 ho' => ?_
  rotate_left 901
  · exact q _ _ (by omega) (by omega) (ho'.mono (by omega))
  · exact q _ _ (by omega) (by omega) (ho'.mono (by omega))
  · refine i_take mset_same ho' (by omega) (by omega) fun r2 o2 g0 g1 ho2 => ?_
    rw [mset_mset]
    rotate_left 901
    exact q _ _ (by omega) (by omega) (ho2.mono (by omega))
  · refine i_take mset_same ho' (by omega) (by split <;> omega) fun r2 o2 g0 g1 ho2 => ?_
    rw [mset_mset]
    rotate_left 901
    exact q _ _ (by omega) (by split at g1 <;> omega) (ho2.mono (by omega))
/-! _law_signs_of_texts -/
def N_signs_of_texts : List Str := ["_law_found"]
def P_signs_of_texts : List Str := []
def w_signs_of_texts  : WS := (wSeq (wAsg 0 (wC (.str " !\"#$&'()*+,-./0123456789:;<=>?@ABCDEFGHIJKLMNOPQRSTUVWXYZ[\\]^_")))
  (wRet (wOp gAdd (wVar 0) (wC (.str "`abcdefghijklmnopqrstuvwxyz{|}~")))))
def sp_signs_of_texts : SpD := fun ds μ Q _ => ds = [] ∧ ∀ z : Str, 0 < z.length → z.length ≤ 200 → Q (.str z) μ
theorem pf_signs_of_texts : ∀ ds μ Q E, sp_signs_of_texts ds μ Q E → w_signs_of_texts (endK Q E) (startD N_signs_of_texts ds) μ := by
  rintro ds μ Q E ⟨rfl, q⟩
  unfold w_signs_of_texts
  rotate_left 901
  refine .inr (.inl ⟨_, _, rfl, rfl, by decide +kernel, ?_⟩)
  rotate_left 901
  exact q _ (by decide +kernel) (by decide +kernel)
/-! _law_text -/
def N_text : List Str := ["_law_store_here", "_law_high", "_law_many", "_law_found", "_law_k", "_law_kind"]
def P_text : List Str := ["_law_store_here", "_law_high"]
abbrev w_text_p0 : WS := (wIfS (wTB (wOp gEq (wVar 5) (wC (.int 0)))) (wDrop (wMt "list" gAppend (wVar 3) (wCons (wC (.str "\n")) wNil))) (wIfS (wTB (wOp gEq (wVar 5) (wC (.int 1)))) (wDrop (wMt "list" gAppend (wVar 3) (wCons (wC (.str " ")) wNil))) (wIfS (wTB (wOp gLt (wVar 5) (wC (.int 4)))) (wDrop (wMt "list" gAppend (wVar 3) (wCons (wCall 2 sp_pickB (wCons (wVar 0) (wCons (wC (.str "abd0-.")) wNil))) wNil))) (wDrop (wMt "list" gAppend (wVar 3) (wCons (wCall 2 sp_pickB (wCons (wVar 0) (wCons (wCall 0 sp_signs_of_texts wNil) wNil))) wNil))))))
def w_text  : WS := (wSeq (wAsg 2 (wCall 3 sp_size (wCons (wVar 0) (wCons (wC (.int 0)) (wCons (wVar 1) wNil)))))
  (wSeq (wAsg 3 (wLstM wNil))
  (wSeq (wFor (wRng1 (wVar 2)) (wgName 4) (wSeq (wAsg 5 (wCall 2 sp_take (wCons (wVar 0) (wCons (wC (.int 6)) wNil))))
    w_text_p0))
  (wRet (wMt "str" gJoin (wC (.str "")) (wCons (wVar 3) wNil))))))
/-- a text of at most n signs comes, the turn goes on by k -/
def ToTx (a : Addr) (b k : Int) (n : Nat) (μ : Mu) (Q : PQ) : Prop := ∀ (x : Str) (o' : MO), x.length ≤ n → StO (b + k) o' → Q (.str x) (mset μ a o')
def sp_text : SpD := fun ds μ Q _ => ∃ (a : Addr) (o : MO) (b : Int) (hi : Nat), ds = [.raw a, .int hi] ∧ hi ≤ 30 ∧ μ a = some o ∧ StO b o ∧ b < 10000000000000000 ∧ ToTx a b 70 30 μ Q
def ones (ys : List Str) : Prop := ∀ y ∈ ys, y.length = 1
theorem ones_sum : ∀ {ys : List Str}, ones ys → (ys.map (·.length)).sum = ys.length
  | [], _ => rfl
  | y :: ys, h => by
    rw [List.map_cons, List.sum_cons, ones_sum (ys := ys) fun z hz => h z (List.mem_cons_of_mem _ hz), h y List.mem_cons_self, List.length_cons]
    omega
theorem ones_add {ys : List Str} {y : Str} (h : ones ys) (hy : y.length = 1) : ones (ys ++ [y]) := fun z hz => by
  rcases List.mem_append.mp hz with hz | hz
  · exact h z hz
  · rw [List.mem_singleton.mp hz]; exact hy
theorem join_len {ys : List Str} (h : ones ys) : (Txt.join "" ys).length = ys.length := by
  show (PySem.Builtin.Str.glued "" ys).length = _
  rw [PySem.size_glued, ones_sum h]
  show ys.length + (ys.length - 1) * 0 = _
  omega
theorem pf_text : ∀ ds μ Q E, sp_text ds μ Q E → w_text (endK Q E) (startD N_text ds) μ := by
  rintro ds μ Q E ⟨a, o, b, hi, rfl, hhi, hμ, ho, hb, q⟩
  unfold w_text
  rotate_left 901
  refine ⟨rfl, a, o, b, 0, hi, rfl, hμ, ho, by omega, by omega, by omega, fun many o1 m0 m1 ho1 => ?_⟩
  rotate_left 901
  intro f hf
  rotate_left 901
  have hfa : f ≠ a := fun z => by rw [z, mset_same] at hf; cases hf
  refine ⟨many, rfl, by omega, by omega, ?_⟩
  refine forLoop_inv (fun rem ρ μ' => ∃ (i : Nat) (ys : List Str) (o2 : MO) (x y : Option D), rem = (rngD 0 many.toNat).drop i ∧ i ≤ many.toNat ∧ ys.length = i ∧ ones ys ∧ StO (b + 2 + 2 * i) o2 ∧
    μ' = mset (mset μ a o2) f (.lst (ys.map D.str)) ∧ ρ = [some (.raw a), some (.int hi), some (.int many), some (.raw f), x, y]) (fun _ _ _ _ => trivial) ?_ ?_ _ _ _ ⟨0, [], o1, none, none, rfl, Nat.zero_le _, rfl, fun _ h => by (cases h), by rw [show b + 2 + 2 * ((0 : Nat) : Int) = b + 2 by omega]; exact ho1, rfl, rfl⟩
  · rintro ρ μ' ⟨i, ys, o2, x, y, e, hi1, hl, h1, hs, rfl, rfl⟩
    have hi2 := rng_nil e
    rotate_left 901
    refine ⟨rfl, ?_⟩
    rotate_left 901
    refine ⟨_, ys, _, rfl, rfl, getS_raw mset_same, by rw [ones_sum h1]; show _ + _ * 0 ≤ _; omega, ?_⟩
    rotate_left 902
    refine ⟨_, mset μ a o2, Frz.less (less_put (Less.refl _) ?_), ?_⟩
    · have := hf; unfold mset at this ⊢; rw [if_neg hfa] at this ⊢; exact this
    · exact q _ _ (by rw [join_len h1]; omega) (hs.mono (by omega))
  · rintro d ds ρ μ' ⟨i, ys, o2, x, y, e, hi1, hl, h1, hs, rfl, rfl⟩ nx hnx
    obtain ⟨hi2, e1, e2⟩ := rng_cons e
    subst e1 e2
    have go : ∀ (z : Str) (o3 : MO) (y : Option D), z.length = 1 → StO (b + 2 + 2 * ((i + 1 : Nat) : Int)) o3 → nx [some (.raw a), some (.int hi), some (.int many), some (.raw f), some (.int (0 + (i : Int))), y] (mset (mset μ a o3) f (.lst (ys.map D.str ++ [.str z]))) := fun z o3 y hz h3 =>
      hnx _ _ ⟨i + 1, ys ++ [z], o3, _, _, rfl, by omega, by rw [List.length_append, hl]; rfl, ones_add h1 hz, h3, by rw [List.map_append]; rfl, rfl⟩
    have ha : mset (mset μ a o2) f (.lst (ys.map D.str)) a = some o2 := by rw [mset_ne (Ne.symm hfa)]; exact mset_same
    have sw : ∀ (o2 o3 : MO) (m : MO), mset (mset (mset μ a o2) f m) a o3 = mset (mset μ a o3) f m := fun o2 o3 m => by
      funext c
      unfold mset
      by_cases h1 : c = a
      · subst h1; rw [if_pos rfl, if_neg (Ne.symm hfa), if_pos rfl]
      · rw [if_neg h1]
        by_cases h2 : c = f
        · rw [if_pos h2, if_pos h2]
        · rw [if_neg h2, if_neg h2, if_neg h1, if_neg h1]
    have hll : (ys.map D.str).length < sizeLine := by rw [List.length_map, sizeLine_eq]; omega
    rotate_left 901
    refine i_take ha hs (by omega) (by decide) fun r o3 h0 hr ho3 => ?_
    rw [sw]
    rotate_left 901
    · refine ⟨tymL mset_same, ?_⟩
      rotate_left 901
      refine i_app mset_same hll ?_
      rotate_left 901
      rw [mset_mset]
      exact go _ _ _ rfl (ho3.mono (by omega))
    · refine ⟨tymL mset_same, ?_⟩
      rotate_left 901
      refine i_app mset_same hll ?_
      rotate_left 901
      rw [mset_mset]
      exact go _ _ _ rfl (ho3.mono (by omega))
    · refine ⟨tymL mset_same, ?_⟩
      rotate_left 901
      refine i_pickT (by rw [mset_ne (Ne.symm hfa)]; exact mset_same) ho3 (by omega) (by decide +kernel) (by decide +kernel) fun c o4 hc ho4 => ?_
      rw [sw]
      rotate_left 901
      refine i_app mset_same hll ?_
      rotate_left 901
      rw [mset_mset]
      exact go _ _ _ hc (ho4.mono (by omega))
    · refine ⟨tymL mset_same, ?_⟩
      rotate_left 901
      refine ⟨rfl, rfl, fun z hz1 hz2 => ?_⟩
      rotate_left 901
      refine i_pickT (by rw [mset_ne (Ne.symm hfa)]; exact mset_same) ho3 (by omega) hz1 (by omega) fun c o4 hc ho4 => ?_
      rw [sw]
      rotate_left 901
      refine i_app mset_same hll ?_
      rotate_left 901
      rw [mset_mset]
      exact go _ _ _ hc (ho4.mono (by omega))
end K00


set_option maxRecDepth 100000
set_option maxHeartbeats 4000000
namespace K00
open PySem PySem.Spec PyProof.Rows L2 T2
theorem i_addL {x y : D} {i j : List D} {μ : Mu} {Q : PQ} (h1 : getM μ x = some i) (h2 : getM μ y = some j) (h : i.length + j.length ≤ 16000000) (q : Q (.lst (i ++ j)) μ) : gAdd x y μ Q := .inr (.inr (.inl ⟨i, j, h1, h2, by rw [sizeLine_eq]; omega, q⟩))
/-! _law_name -/
def N_name : List Str := ["_law_store_here", "_law_many", "_law_name_here", "_law_k"]
def P_name : List Str := ["_law_store_here"]
def w_name  : WS := (wSeq (wAsg 1 (wCall 3 sp_number (wCons (wVar 0) (wCons (wC (.int 1)) (wCons (wC (.int 6)) wNil)))))
  (wSeq (wAsg 2 (wCall 2 sp_pickB (wCons (wVar 0) (wCons (wC (.str "abcdefghijklmnopqrstuvwxyz")) wNil))))
  (wSeq (wFor (wRng1 (wOp gSub (wVar 1) (wC (.int 1)))) (wgName 3) (wAsg 2 (wOp gAdd (wVar 2) (wCall 2 sp_pickB (wCons (wVar 0) (wCons (wC (.str "abcdefghijklmnopqrstuvwxyz0123456789")) wNil))))))
  (wRet (wVar 2)))))
def sp_name : SpD := fun ds μ Q _ => ∃ (a : Addr) (o : MO) (b : Int), ds = [.raw a] ∧ μ a = some o ∧ StO b o ∧ b < 10000000000000000 ∧ ∀ (x : Str) (o' : MO), 0 < x.length → x.length ≤ 6 → StO (b + 8) o' → Q (.str x) (mset μ a o')
theorem pf_name : ∀ ds μ Q E, sp_name ds μ Q E → w_name (endK Q E) (startD N_name ds) μ := by
  rintro ds μ Q E ⟨a, o, b, rfl, hμ, ho, hb, q⟩
  unfold w_name
  rotate_left 901
  refine i_number hμ ho (by omega) (by omega) (by omega) fun many o1 m0 m1 ho1 => ?_
  rotate_left 901
  refine i_pickT mset_same ho1 (by omega) (by decide +kernel) (by decide +kernel) fun c o2 hc ho2 => ?_
  rw [mset_mset]
  rotate_left 901
  refine ⟨many - 1, rfl, by omega, by omega, ?_⟩
  refine forLoop_inv (fun rem ρ μ' => ∃ (i : Nat) (z : Str) (o3 : MO) (y : Option D), rem = (rngD 0 (many - 1).toNat).drop i ∧ i ≤ (many - 1).toNat ∧ z.length = 1 + i ∧ StO (b + 3 + i) o3 ∧
    μ' = mset μ a o3 ∧ ρ = [some (.raw a), some (.int many), some (.str z), y]) (fun _ _ _ _ => trivial) ?_ ?_ _ _ _ ⟨0, c, o2, none, rfl, Nat.zero_le _, hc, ho2.mono (by omega), rfl, rfl⟩
  · rintro ρ μ' ⟨i, z, o3, y, e, hi1, hl, hs, rfl, rfl⟩
    rotate_left 901
    exact q _ _ (by omega) (by omega) (hs.mono (by omega))
  · rintro d ds ρ μ' ⟨i, z, o3, y, e, hi1, hl, hs, rfl, rfl⟩ nx hnx
    obtain ⟨hi2, e1, e2⟩ := rng_cons e
    subst e1 e2
    rotate_left 901
    refine i_pickT mset_same hs (by omega) (by decide +kernel) (by decide +kernel) fun c o4 hc ho4 => ?_
    rw [mset_mset]
    rotate_left 901
    refine .inr (.inl ⟨_, _, rfl, rfl, by rw [sizeLine_eq]; omega, ?_⟩)
    rotate_left 901
    exact hnx _ _ ⟨i + 1, _, o4, _, rfl, by omega, by rw [len_add]; omega, ho4.mono (by omega), rfl, rfl⟩
theorem i_name {a : Addr} {o : MO} {b : Int} {μ : Mu} {Q : PQ} {E : PX} (hμ : μ a = some o) (ho : StO b o) (hb : b < 10000000000000000) (q : ∀ (x : Str) (o' : MO), 0 < x.length → x.length ≤ 6 → StO (b + 8) o' → Q (.str x) (mset μ a o')) : [D.raw a].length = 1 ∧ sp_name [.raw a] μ Q E :=
  ⟨rfl, a, o, b, rfl, hμ, ho, hb, q⟩
/-! _law_bad_name -/
def N_bad_name : List Str := ["_law_store_here", "_law_name_here", "_law_at", "_law_kind"]
def P_bad_name : List Str := ["_law_store_here"]
abbrev w_bad_name_p0 : WS := (wSeq (wIfS (wTB (wOp gEq (wVar 3) (wC (.int 5)))) (wRet (wOp gAdd (wSl gSl (wVar 1) wNoP (wPart (wC (.int 5)))) (wCall 2 sp_pickB (wCons (wVar 0) (wCons (wC (.str " \n")) wNil))))) wNext)
  (wSeq (wIfS (wTB (wOp gEq (wVar 3) (wC (.int 6)))) (wRet (wOp gAdd (wCall 2 sp_pickB (wCons (wVar 0) (wCons (wC (.str " \n")) wNil))) (wSl gSl (wVar 1) wNoP (wPart (wC (.int 5)))))) wNext)
  (wSeq (wIfS (wTB (wOp gEq (wVar 3) (wC (.int 7)))) (wRet (wOp gMul (wVar 1) (wC (.int 7)))) wNext)
  (wRet (wCall 2 sp_pickB (wCons (wVar 0) (wCons (wC (.str "0123456789")) wNil)))))))
abbrev w_bad_name_p1 : WS := (wSeq (wIfS (wTB (wOp gEq (wVar 3) (wC (.int 3)))) (wRet (wOp gAdd (wOp gAdd (wSl gSl (wVar 1) wNoP (wPart (wVar 2))) (wCall 2 sp_pickB (wCons (wVar 0) (wCons (wC (.str "ABCXYZ")) wNil)))) (wSl gSl (wVar 1) (wPart (wOp gAdd (wVar 2) (wC (.int 1)))) wNoP))) wNext)
  (wSeq (wIfS (wTB (wOp gEq (wVar 3) (wC (.int 4)))) (wRet (wOp gAdd (wOp gAdd (wOp gAdd (wSl gSl (wVar 1) wNoP (wPart (wVar 2))) (wCall 2 sp_pickB (wCons (wVar 0) (wCons (wC (.str " \n!.:/_-~{[(@\"'&|")) wNil)))) (wSl gSl (wVar 1) (wPart (wOp gAdd (wVar 2) (wC (.int 1)))) wNoP)) (wC (.str "a")))) wNext)
  w_bad_name_p0))
abbrev w_bad_name_p2 : WS := (wSeq (wIfS (wTB (wOp gEq (wVar 3) (wC (.int 0)))) (wRet (wC (.str ""))) wNext)
  (wSeq (wIfS (wTB (wOp gEq (wVar 3) (wC (.int 1)))) (wRet (wOp gAdd (wSl gSl (wOp gAdd (wVar 1) (wC (.str "abcdef0"))) wNoP (wPart (wC (.int 6)))) (wCall 2 sp_pickB (wCons (wVar 0) (wCons (wC (.str "az09")) wNil))))) wNext)
  (wSeq (wIfS (wTB (wOp gEq (wVar 3) (wC (.int 2)))) (wRet (wOp gAdd (wCall 2 sp_pickB (wCons (wVar 0) (wCons (wC (.str "0123456789")) wNil))) (wSl gSl (wVar 1) (wPart (wC (.int 1))) wNoP))) wNext)
  w_bad_name_p1)))
def w_bad_name  : WS := (wSeq (wAsg 1 (wCall 1 sp_name (wCons (wVar 0) wNil)))
  (wSeq (wAsg 2 (wCall 2 sp_take (wCons (wVar 0) (wCons (wCB gLen (wCons (wVar 1) wNil)) wNil))))
  (wSeq (wAsg 3 (wCall 2 sp_take (wCons (wVar 0) (wCons (wC (.int 9)) wNil))))
  w_bad_name_p2)))
def sp_bad_name : SpD := fun ds μ Q _ => ∃ (a : Addr) (o : MO) (b : Int), ds = [.raw a] ∧ μ a = some o ∧ StO b o ∧ b < 1000000000000000 ∧ ToTx a b 11 60 μ Q
theorem pf_bad_name : ∀ ds μ Q E, sp_bad_name ds μ Q E → w_bad_name (endK Q E) (startD N_bad_name ds) μ := by
  rintro ds μ Q E ⟨a, o, b, rfl, hμ, ho, hb, q⟩
  unfold w_bad_name
  rotate_left 901
  refine i_name hμ ho (by omega) fun x o1 x0 x1 ho1 => ?_
  rotate_left 901
  refine i_lenB (by omega) ?_
  rotate_left 901
  refine i_take mset_same ho1 (by omega) (by omega) fun at_ o2 at0 at1 ho2 => ?_
  rw [mset_mset]
  rotate_left 901
  refine i_take mset_same ho2 (by omega) (by omega) fun kd o3 kd0 kd1 ho3 => ?_
  rw [mset_mset]
  rotate_left 901
  · exact q _ _ (by decide +kernel) (ho3.mono (by omega))
  · refine i_addB (m := 6) (n := 7) x1 (show Str.length "abcdef0" ≤ 7 by decide +kernel) (by decide) fun s1 l1 => ?_
    rotate_left 901
    refine i_cutB l1 (by decide) fun s2 l2 => ?_
    rotate_left 901
    refine i_pickT mset_same ho3 (by omega) (by decide +kernel) (by decide +kernel) fun c o4 hc ho4 => ?_
    rw [mset_mset]
    rotate_left 901
    refine i_addB l2 (Nat.le_of_eq hc) (by decide) fun s3 l3 => ?_
    rotate_left 901
    exact q _ _ (by omega) (ho4.mono (by omega))
  · refine i_pickT mset_same ho3 (by omega) (by decide +kernel) (by decide +kernel) fun c o4 hc ho4 => ?_
    rw [mset_mset]
    rotate_left 901
    refine i_cutB x1 (by decide) fun s2 l2 => ?_
    rotate_left 901
    refine i_addB (Nat.le_of_eq hc) l2 (by decide) fun s3 l3 => ?_
    rotate_left 901
    exact q _ _ (by omega) (ho4.mono (by omega))
  · refine i_cutB x1 (by decide) fun s2 l2 => ?_
    rotate_left 901
    refine i_pickT mset_same ho3 (by omega) (by decide +kernel) (by decide +kernel) fun c o4 hc ho4 => ?_
    rw [mset_mset]
    rotate_left 901
    refine i_addB l2 (Nat.le_of_eq hc) (by decide) fun s3 l3 => ?_
    rotate_left 901
    refine i_cutB x1 (by decide) fun s4 l4 => ?_
    rotate_left 901
    refine i_addB l3 l4 (by decide) fun s5 l5 => ?_
    rotate_left 901
    exact q _ _ (by omega) (ho4.mono (by omega))
  · refine i_cutB x1 (by decide) fun s2 l2 => ?_
    rotate_left 901
    refine i_pickT mset_same ho3 (by omega) (by decide +kernel) (by decide +kernel) fun c o4 hc ho4 => ?_
    rw [mset_mset]
    rotate_left 901
    refine i_addB l2 (Nat.le_of_eq hc) (by decide) fun s3 l3 => ?_
    rotate_left 901
    refine i_cutB x1 (by decide) fun s4 l4 => ?_
    rotate_left 901
    refine i_addB l3 l4 (by decide) fun s5 l5 => ?_
    rotate_left 901
    refine i_addB (n := 1) l5 (show Str.length "a" ≤ 1 by decide +kernel) (by decide) fun s6 l6 => ?_
    rotate_left 901
    exact q _ _ (by omega) (ho4.mono (by omega))
  · refine i_cutB x1 (by decide) fun s2 l2 => ?_
    rotate_left 901
    refine i_pickT mset_same ho3 (by omega) (by decide +kernel) (by decide +kernel) fun c o4 hc ho4 => ?_
    rw [mset_mset]
    rotate_left 901
    refine i_addB l2 (Nat.le_of_eq hc) (by decide) fun s3 l3 => ?_
    rotate_left 901
    exact q _ _ (by omega) (ho4.mono (by omega))
  · refine i_pickT mset_same ho3 (by omega) (by decide +kernel) (by decide +kernel) fun c o4 hc ho4 => ?_
    rw [mset_mset]
    rotate_left 901
    refine i_cutB x1 (by decide) fun s2 l2 => ?_
    rotate_left 901
    refine i_addB (Nat.le_of_eq hc) l2 (by decide) fun s3 l3 => ?_
    rotate_left 901
    exact q _ _ (by omega) (ho4.mono (by omega))
  · refine i_mulB (kk := 7) x1 (by decide) (by decide) (by decide) (by decide) (by decide) fun s2 l2 => ?_
    rotate_left 901
    exact q _ _ (by omega) (ho3.mono (by omega))
  · refine i_pickT mset_same ho3 (by omega) (by decide +kernel) (by decide +kernel) fun c o4 hc ho4 => ?_
    rw [mset_mset]
    rotate_left 901
    exact q _ _ (by omega) (ho4.mono (by omega))
/-! _law_any_text -/
def N_any_text : List Str := ["_law_store_here", "_law_kind", "_law_name_here", "_law_at", "_law_odd"]
def P_any_text : List Str := ["_law_store_here"]
abbrev w_any_text_p0 : WS := (wSeq (wIfS (wTB (wOp gEq (wVar 1) (wC (.int 9)))) (wSeq (wAsg 4 (wLst (wCons (wC (.str "")) (wCons (wC (.str "Dark")) (wCons (wC (.str "darkk")) (wCons (wC (.str "ligh")) (wCons (wC (.str " light")) (wCons (wC (.str "dark\n")) (wCons (wC (.str "D")) (wCons (wC (.str "dl")) (wCons (wC (.str "dd")) (wCons (wC (.str ".")) (wCons (wC (.str "-")) (wCons (wC (.str "dark light")) wNil))))))))))))))
    (wRet (wCall 2 sp_pickB (wCons (wVar 0) (wCons (wVar 4) wNil))))) wNext)
  (wRet (wCall 2 sp_text (wCons (wVar 0) (wCons (wC (.int 30)) wNil)))))
abbrev w_any_text_p1 : WS := (wSeq (wIfS (wTB (wOp gLt (wVar 1) (wC (.int 5)))) (wRet (wCall 1 sp_bad_name (wCons (wVar 0) wNil))) wNext)
  (wSeq (wIfS (wTB (wOp gLt (wVar 1) (wC (.int 8)))) (wRet (wOp gAdd (wOp gAdd (wSl gSl (wVar 2) wNoP (wPart (wVar 3))) (wCall 2 sp_pickB (wCons (wVar 0) (wCons (wOp gAdd (wCall 0 sp_signs_of_texts wNil) (wC (.str "\n"))) wNil)))) (wSl gSl (wVar 2) (wPart (wOp gAdd (wVar 3) (wC (.int 1)))) wNoP))) wNext)
  (wSeq (wIfS (wTB (wOp gEq (wVar 1) (wC (.int 8)))) (wRet (wOp gMul (wVar 2) (wCall 3 sp_number (wCons (wVar 0) (wCons (wC (.int 0)) (wCons (wC (.int 3333)) wNil)))))) wNext)
  w_any_text_p0)))
def w_any_text  : WS := (wSeq (wAsg 1 (wCall 2 sp_take (wCons (wVar 0) (wCons (wC (.int 12)) wNil))))
  (wSeq (wAsg 2 (wCall 1 sp_name (wCons (wVar 0) wNil)))
  (wSeq (wAsg 3 (wCall 2 sp_take (wCons (wVar 0) (wCons (wCB gLen (wCons (wVar 2) wNil)) wNil))))
  (wSeq (wIfS (wTB (wOp gLt (wVar 1) (wC (.int 3)))) (wRet (wVar 2)) wNext)
  w_any_text_p1))))
def sp_any_text : SpD := fun ds μ Q _ => ∃ (a : Addr) (o : MO) (b : Int), ds = [.raw a] ∧ μ a = some o ∧ StO b o ∧ b < 100000000000000 ∧ ToTx a b 100 20000 μ Q
theorem pf_any_text : ∀ ds μ Q E, sp_any_text ds μ Q E → w_any_text (endK Q E) (startD N_any_text ds) μ := by
  rintro ds μ Q E ⟨a, o, b, rfl, hμ, ho, hb, q⟩
  unfold w_any_text
  rotate_left 901
  refine i_take hμ ho (by omega) (by omega) fun kd o1 kd0 kd1 ho1 => ?_
  rotate_left 901
  refine i_name mset_same ho1 (by omega) fun x o2 x0 x1 ho2 => ?_
  rw [mset_mset]
  rotate_left 901
  refine i_lenB (by omega) ?_
  rotate_left 901
  refine i_take mset_same ho2 (by omega) (by omega) fun at_ o3 at0 at1 ho3 => ?_
  rw [mset_mset]
  rotate_left 901
  · exact q _ _ (by omega) (ho3.mono (by omega))
  · refine ⟨rfl, a, _, _, rfl, mset_same, ho3, by omega, fun y o4 hy ho4 => ?_⟩
    rw [mset_mset]
    rotate_left 901
    exact q _ _ (by omega) (ho4.mono (by omega))
  · refine i_cutB x1 (by decide) fun s2 l2 => ?_
    rotate_left 901
    refine ⟨rfl, rfl, fun z hz1 hz2 => ?_⟩
    rotate_left 901
    refine .inr (.inl ⟨_, _, rfl, rfl, by rw [sizeLine_eq]; show z.length + 1 ≤ _; omega, ?_⟩)
    rotate_left 901
    refine i_pickT mset_same ho3 (by omega) (by rw [len_add]; omega) (by rw [len_add]; show z.length + 1 ≤ _; omega) fun c o4 hc ho4 => ?_
    rw [mset_mset]
    rotate_left 901
    refine i_addB l2 (Nat.le_of_eq hc) (by decide) fun s3 l3 => ?_
    rotate_left 901
    refine i_cutB x1 (by decide) fun s4 l4 => ?_
    rotate_left 901
    refine i_addB l3 l4 (by decide) fun s5 l5 => ?_
    rotate_left 901
    exact q _ _ (by omega) (ho4.mono (by omega))
  · refine i_number mset_same ho3 (by omega) (by omega) (by omega) fun many o4 m0 m1 ho4 => ?_
    rw [mset_mset]
    rotate_left 901
    refine i_mulB (kk := 3333) x1 m0 (by omega) (by decide) (by decide) (by decide) fun s2 l2 => ?_
    rotate_left 901
    exact q _ _ (by omega) (ho4.mono (by omega))
  · refine i_pickL mset_same ho3 (by omega) (by decide) (by intro z; cases z) fun d hd o4 ho4 => ?_
    rw [mset_mset]
    rotate_left 901
    have hx : ∃ y : Str, d = .str y ∧ y.length ≤ 20 := by
      simp only [List.mem_cons, List.not_mem_nil, or_false] at hd
      rcases hd with rfl | rfl | rfl | rfl | rfl | rfl | rfl | rfl | rfl | rfl | rfl | rfl
      all_goals exact ⟨_, rfl, by decide +kernel⟩
    obtain ⟨y, rfl, hy⟩ := hx
    exact q _ _ (by omega) (ho4.mono (by omega))
  · refine ⟨rfl, a, _, _, 30, rfl, by decide, mset_same, ho3, by omega, fun y o4 hy ho4 => ?_⟩
    rw [mset_mset]
    rotate_left 901
    exact q _ _ (by omega) (ho4.mono (by omega))
/-! _law_near -/
def N_near : List Str := ["_law_store_here", "_law_low", "_law_high", "_law_kind", "_law_spots", "_law_number_here"]
def P_near : List Str := ["_law_store_here", "_law_low", "_law_high"]
abbrev w_near_p0 : WS := (wSeq (wAsg 5 (wCall 2 sp_pickB (wCons (wVar 0) (wCons (wOp gAdd (wVar 4) (wLst (wCons (wCall 3 sp_number (wCons (wVar 0) (wCons (wOp gSub (wC (.int 1)) (wOp gPow (wC (.int 10)) (wC (.int 20)))) (wCons (wOp gSub (wOp gPow (wC (.int 10)) (wC (.int 20))) (wC (.int 1))) wNil)))) wNil))) wNil))))
  (wRet (wTup (wCons (wCB gMaxB (wCons (wOp gSub (wC (.int 1)) (wOp gPow (wC (.int 10)) (wC (.int 20)))) (wCons (wCB gMinB (wCons (wOp gSub (wOp gPow (wC (.int 10)) (wC (.int 20))) (wC (.int 1))) (wCons (wVar 5) wNil))) wNil))) (wCons (wC (.bl true)) wNil)))))
abbrev w_near_p1 : WS := (wSeq (wIfS (wTB (wOp gEq (wVar 3) (wC (.int 3)))) (wRet (wTup (wCons (wCall 2 sp_pickB (wCons (wVar 0) (wCons (wLst (wCons (wC (.str "")) (wCons (wC (.str "0")) (wCons (wC (.str "1")) (wCons (wC (.str "-1")) (wCons (wC (.str "True")) (wCons (wC (.str "None")) (wCons (wC (.str "a")) (wCons (wC (.str "7 ")) wNil))))))))) wNil))) (wCons (wC (.bl false)) wNil)))) wNext)
  (wSeq (wAsg 4 (wLst (wCons (wOp gSub (wVar 1) (wC (.int 1))) (wCons (wVar 1) (wCons (wOp gAdd (wVar 1) (wC (.int 1))) (wCons (wOp gSub (wVar 2) (wC (.int 1))) (wCons (wVar 2) (wCons (wOp gAdd (wVar 2) (wC (.int 1))) (wCons (wC (.int 0)) (wCons (wC (.int 1)) (wCons (wOp gDiv (wCB gInt (wCons (wOp gAdd (wVar 1) (wVar 2)) wNil)) (wC (.int 2))) wNil)))))))))))
  w_near_p0))
def w_near  : WS := (wSeq (wAsg 3 (wCall 2 sp_take (wCons (wVar 0) (wCons (wC (.int 12)) wNil))))
  (wSeq (wIfS (wTB (wOp gLt (wVar 3) (wC (.int 3)))) (wRet (wTup (wCons (wOp gIx (wLst (wCons (wC (.bl true)) (wCons (wC (.bl false)) (wCons (wC .non) wNil)))) (wVar 3)) (wCons (wC (.bl false)) wNil)))) wNext)
  w_near_p1))
def isI : D → Bool
  | .int _ => true
  | _ => false
/-- a thing to ask of: a number of at most 20 digits, a short text, a bool, None -/
def Thing (d : D) : Prop := (∃ i : Int, d = .int i ∧ -100000000000000000000 < i ∧ i < 100000000000000000000) ∨ (∃ b, d = .bl b) ∨ d = .non ∨ ∃ y : Str, d = .str y ∧ y.length ≤ 20
def sp_near : SpD := fun ds μ Q _ => ∃ (a : Addr) (o : MO) (b lo hi : Int), ds = [.raw a, .int lo, .int hi] ∧ μ a = some o ∧ StO b o ∧ b < 100000000000000 ∧ -1000000000000000000000 < lo ∧ lo < 1000000000000000000000 ∧ -1000000000000000000000 < hi ∧ hi < 1000000000000000000000 ∧
  ∀ (d : D) (o' : MO), Thing d → StO (b + 4) o' → Q (.tup [d, .bl (isI d)]) (mset μ a o')
theorem pf_near : ∀ ds μ Q E, sp_near ds μ Q E → w_near (endK Q E) (startD N_near ds) μ := by
  rintro ds μ Q E ⟨a, o, b, lo, hi, rfl, hμ, ho, hb, hl0, hl1, hh0, hh1, q⟩
  unfold w_near
  rotate_left 901
  refine i_take hμ ho (by omega) (by omega) fun kd o1 kd0 kd1 ho1 => ?_
  rotate_left 901
  · obtain rfl | rfl | rfl : kd = 0 ∨ kd = 1 ∨ kd = 2 := by omega
    all_goals rotate_left 901
    · exact q (.bl true) _ (.inr (.inl ⟨_, rfl⟩)) (ho1.mono (by omega))
    · exact q (.bl false) _ (.inr (.inl ⟨_, rfl⟩)) (ho1.mono (by omega))
    · exact q .non _ (.inr (.inr (.inl rfl))) (ho1.mono (by omega))
  · refine i_pickL mset_same ho1 (by omega) (by decide) (by intro z; cases z) fun d hd o4 ho4 => ?_
    rw [mset_mset]
    rotate_left 901
    have hx : ∃ y : Str, d = .str y ∧ y.length ≤ 20 := by
      simp only [List.mem_cons, List.not_mem_nil, or_false] at hd
      rcases hd with rfl | rfl | rfl | rfl | rfl | rfl | rfl | rfl
      all_goals exact ⟨_, rfl, by decide +kernel⟩
    obtain ⟨y, rfl, hy⟩ := hx
    exact q (.str y) _ (.inr (.inr (.inr ⟨y, rfl, hy⟩))) (ho4.mono (by omega))
  · refine i_divI ⟨by decide, by decide⟩ ?_
    rotate_left 901
    refine i_number mset_same ho1 (by omega) (by rw [p10_20]; omega) (by rw [p10_20]; omega) fun many o4 m0 m1 ho4 => ?_
    rw [mset_mset]
    rotate_left 901
    refine i_addL rfl rfl (show 9 + 1 ≤ 16000000 by decide) ?_
    rotate_left 901
    refine i_pickL mset_same ho4 (by omega) (show 10 < 1000000000 by decide) (by intro z; cases z) fun d hd o5 ho5 => ?_
    rw [mset_mset]
    have hx : ∃ j : Int, d = .int j := by
      simp only [List.cons_append, List.nil_append, List.mem_cons, List.not_mem_nil, or_false] at hd
      rcases hd with rfl | rfl | rfl | rfl | rfl | rfl | rfl | rfl | rfl | rfl
      all_goals exact ⟨_, rfl⟩
    obtain ⟨j, rfl⟩ := hx
    rotate_left 901
    rw [p10_20]
    refine q (.int _) _ (.inl ⟨_, rfl, ?_, ?_⟩) (ho5.mono (by omega))
    · split <;> split at * <;> omega
    · split <;> split at * <;> omega
/-! _law_shuffled -/
def N_shuffled : List Str := ["_law_store_here", "_law_row", "_law_kind", "_law_left", "_law_mixed_here", "_law_k", "_law_at"]
def P_shuffled : List Str := ["_law_store_here", "_law_row"]
abbrev w_shuffled_p0 : WS := (wSeq (wIfS (wTB (wOp gEq (wVar 2) (wC (.int 1)))) (wRet (wUn gRev (wCB gList (wCons (wVar 1) wNil)))) wNext)
  (wSeq (wAsg 3 (wCB gList (wCons (wVar 1) wNil)))
  (wSeq (wAsg 4 (wLstM wNil))
  (wSeq (wFor (wRng1 (wCB gLen (wCons (wVar 1) wNil))) (wgName 5) (wSeq (wAsg 6 (wCall 2 sp_take (wCons (wVar 0) (wCons (wCB gLen (wCons (wVar 3) wNil)) wNil))))
    (wSeq (wDrop (wMt "list" gAppend (wVar 4) (wCons (wOp gIx (wVar 3) (wVar 6)) wNil)))
    (wAsg 3 (wOp gAdd (wSl gSl (wVar 3) wNoP (wPart (wVar 6))) (wSl gSl (wVar 3) (wPart (wOp gAdd (wVar 6) (wC (.int 1)))) wNoP))))))
  (wRet (wVar 4))))))
def w_shuffled  : WS := (wSeq (wAsg 2 (wCall 2 sp_take (wCons (wVar 0) (wCons (wC (.int 4)) wNil))))
  (wSeq (wIfS (wTB (wOp gEq (wVar 2) (wC (.int 0)))) (wRet (wCB gList (wCons (wVar 1) wNil))) wNext)
  w_shuffled_p0))
/-- a row in another order: none that is not in it -/
def sp_shuffled : SpD := fun ds μ Q _ => ∃ (a : Addr) (o : MO) (b : Int) (xs : List D), ds = [.raw a, .lst xs] ∧ μ a = some o ∧ StO b o ∧ b < 100000000000000 ∧ xs.length < 100000 ∧
  ∀ (ys : List D) (o' : MO), ys.length = xs.length → (∀ y ∈ ys, y ∈ xs) → StO (b + 1 + xs.length) o' → Q (.lst ys) (mset μ a o')
theorem pf_shuffled : ∀ ds μ Q E, sp_shuffled ds μ Q E → w_shuffled (endK Q E) (startD N_shuffled ds) μ := by
  rintro ds μ Q E ⟨a, o, b, xs, rfl, hμ, ho, hb, hl, q⟩
  unfold w_shuffled
  rotate_left 901
  refine i_take hμ ho (by omega) (by omega) fun kd o1 kd0 kd1 ho1 => ?_
  rotate_left 901
  · refine ⟨_, xs, rfl, rfl, ?_⟩
    rotate_left 901
    exact q _ _ rfl (fun _ h => h) (ho1.mono (by omega))
  · refine ⟨_, xs, rfl, rfl, ?_⟩
    rotate_left 901
    exact q _ _ List.length_reverse (fun _ h => List.mem_reverse.mp h) (ho1.mono (by omega))
  · refine ⟨_, xs, rfl, rfl, ?_⟩
    rotate_left 901
    intro f hf
    have hfa : f ≠ a := fun z => by rw [z, mset_same] at hf; cases hf
    have sw : ∀ (o2 o3 : MO) (m : MO), mset (mset (mset μ a o2) f m) a o3 = mset (mset μ a o3) f m := fun o2 o3 m => by
      funext c
      unfold mset
      by_cases h1 : c = a
      · subst h1; rw [if_pos rfl, if_neg (Ne.symm hfa), if_pos rfl]
      · rw [if_neg h1]
        by_cases h2 : c = f
        · rw [if_pos h2, if_pos h2]
        · rw [if_neg h2, if_neg h2, if_neg h1, if_neg h1]
    rotate_left 901
    refine ⟨xs.length, rfl, by omega, by omega, ?_⟩
    refine forLoop_inv (fun rem ρ μ' => ∃ (i : Nat) (ls ys : List D) (o2 : MO) (x y : Option D), rem = (rngD 0 (xs.length : Int).toNat).drop i ∧ i ≤ xs.length ∧ ls.length = xs.length - i ∧ ys.length = i ∧ (∀ y ∈ ls, y ∈ xs) ∧ (∀ y ∈ ys, y ∈ xs) ∧ StO (b + 1 + i) o2 ∧
      μ' = mset (mset μ a o2) f (.lst ys) ∧ ρ = [some (.raw a), some (.lst xs), some (.int kd), some (.lst ls), some (.raw f), x, y]) (fun _ _ _ _ => trivial) ?_ ?_ _ _ _ ⟨0, xs, [], o1, none, none, rfl, Nat.zero_le _, rfl, rfl, fun _ h => h, fun _ h => by (cases h), ho1.mono (by omega), rfl, rfl⟩
    · rintro ρ μ' ⟨i, ls, ys, o2, x, y, e, hi1, hll, hyl, m1, m2, hs, rfl, rfl⟩
      have hi2 := rng_nil e
      rotate_left 902
      refine i_backL (μ0 := mset μ a o2) (less_put (Less.refl _) ?_) ?_ mset_same ?_
      · have := hf; unfold mset at this ⊢; rw [if_neg hfa] at this ⊢; exact this
      · have := hf; unfold mset at this ⊢; rw [if_neg hfa] at this ⊢; exact this
      · exact q _ _ (by omega) m2 (hs.mono (by omega))
    · rintro d ds ρ μ' ⟨i, ls, ys, o2, x, y, e, hi1, hll, hyl, m1, m2, hs, rfl, rfl⟩ nx hnx
      obtain ⟨hi2, e1, e2⟩ := rng_cons e
      subst e1 e2
      have hi3 : i < xs.length := by omega
      rotate_left 901
      refine i_take (by rw [mset_ne (Ne.symm hfa)]; exact mset_same) hs (by omega) (by omega) fun r o3 h0 hr ho3 => ?_
      rw [sw]
      have hr1 : r < ls.length := by omega
      rotate_left 901
      refine ⟨tymL mset_same, ?_⟩
      rotate_left 901
      obtain ⟨hx, ex⟩ := atI_ok h0 hr1
      refine i_ixF ex ?_
      rotate_left 901
      refine i_app mset_same (by rw [sizeLine_eq]; omega) ?_
      rotate_left 901
      rw [mset_mset]
      refine .inr (.inl ⟨ls, rfl, ?_⟩)
      rotate_left 901
      refine .inr (.inl ⟨ls, rfl, ?_⟩)
      rotate_left 901
      obtain ⟨j, rfl⟩ := Int.eq_ofNat_of_zero_le h0
      have hj : j < ls.length := by omega
      have e3 : T2.cutD ls none (some (j : Int)) = ls.take j := by
        unfold T2.cutD
        rw [HT.sIx_none, HT.sIx_nat, Nat.sub_zero, List.drop_zero, Nat.min_eq_left (by omega)]
      have e4 : T2.cutD ls (some ((j : Int) + 1)) none = ls.drop (j + 1) := by
        unfold T2.cutD
        rw [HT.sIx_none, show ((j : Int) + 1) = ((j + 1 : Nat) : Int) by omega, HT.sIx_nat, Nat.min_eq_left (by omega), List.take_of_length_le (by rw [List.length_drop]; omega)]
      rw [e3, e4]
      refine i_addL rfl rfl (by rw [List.length_take, List.length_drop]; omega) ?_
      rotate_left 901
      refine hnx _ _ ⟨i + 1, _, _, o3, _, _, rfl, by omega, ?_, ?_, ?_, ?_, ho3.mono (by omega), rfl, rfl⟩
      · rw [List.length_append, List.length_take, List.length_drop]; omega
      · rw [List.length_append, hyl]; rfl
      · intro z hz
        rcases List.mem_append.mp hz with hz | hz
        · exact m1 _ (List.mem_of_mem_take hz)
        · exact m1 _ (List.mem_of_mem_drop hz)
      · intro z hz
        rcases List.mem_append.mp hz with hz | hz
        · exact m2 _ hz
        · rw [List.mem_singleton.mp hz]
          exact m1 _ (List.getElem_mem _)
end K00


set_option maxRecDepth 100000
set_option maxHeartbeats 4000000
namespace K00
open PySem PySem.Spec PyProof.Rows L2 T2
/-! ### the program's own defs -/
def isX_TworoomsError : Str → Bool := fun c => memB c ["TworoomsError", "BadNumber", "NoHand", "BadName", "TooMany", "NoEntry", "NoPlace", "SelfTie", "Repeated", "BadSigns", "BadText", "BadTree", "BadMap", "NotRight", "NoStone", "Stands", "Falls", "GameOver", "Occupied", "SelfTaking", "ComesBack", "BadDeed", "NothingDone", "BadRow"]
def isX_BadNumber : Str → Bool := fun c => memB c ["BadNumber"]
def isX_NoHand : Str → Bool := fun c => memB c ["NoHand"]
def isX_BadName : Str → Bool := fun c => memB c ["BadName"]
def isX_TooMany : Str → Bool := fun c => memB c ["TooMany"]
def isX_NoEntry : Str → Bool := fun c => memB c ["NoEntry"]
def isX_NoPlace : Str → Bool := fun c => memB c ["NoPlace"]
def isX_SelfTie : Str → Bool := fun c => memB c ["SelfTie"]
def isX_Repeated : Str → Bool := fun c => memB c ["Repeated"]
def isX_BadSigns : Str → Bool := fun c => memB c ["BadSigns"]
def isX_BadText : Str → Bool := fun c => memB c ["BadText"]
def isX_BadTree : Str → Bool := fun c => memB c ["BadTree"]
def isX_BadMap : Str → Bool := fun c => memB c ["BadMap"]
def isX_NotRight : Str → Bool := fun c => memB c ["NotRight"]
def isX_NoStone : Str → Bool := fun c => memB c ["NoStone"]
def isX_Stands : Str → Bool := fun c => memB c ["Stands"]
def isX_Falls : Str → Bool := fun c => memB c ["Falls"]
def isX_GameOver : Str → Bool := fun c => memB c ["GameOver"]
def isX_Occupied : Str → Bool := fun c => memB c ["Occupied"]
def isX_SelfTaking : Str → Bool := fun c => memB c ["SelfTaking"]
def isX_ComesBack : Str → Bool := fun c => memB c ["ComesBack"]
def isX_BadDeed : Str → Bool := fun c => memB c ["BadDeed"]
def isX_NothingDone : Str → Bool := fun c => memB c ["NothingDone"]
def isX_BadRow : Str → Bool := fun c => memB c ["BadRow"]
def isX_ValueError : Str → Bool := fun c => memB c ["ValueError", "TworoomsError", "BadNumber", "NoHand", "BadName", "TooMany", "NoEntry", "NoPlace", "SelfTie", "Repeated", "BadSigns", "BadText", "BadTree", "BadMap", "NotRight", "NoStone", "Stands", "Falls", "GameOver", "Occupied", "SelfTaking", "ComesBack", "BadDeed", "NothingDone", "BadRow"]
def otherS (x : Str) : Option Str := if x = "dark" then some "light" else if x = "light" then some "dark" else none
def signS (x : Str) : Option Str := if x = "dark" then some "d" else if x = "light" then some "l" else none
def handD (x : Str) : D := if x = "d" then .str "dark" else if x = "l" then .str "light" else .non
/-! other_hand -/
def N_m_other_hand : List Str := ["hand"]
def P_m_other_hand : List Str := ["hand"]
def w_m_other_hand  : WS := (wSeq (wIfS (wTB (wOp gEq (wVar 0) (wC (.str "dark")))) (wRet (wC (.str "light"))) wNext)
  (wSeq (wIfS (wTB (wOp gEq (wVar 0) (wC (.str "light")))) (wRet (wC (.str "dark"))) wNext)
  (wRaise "NoHand" ["hand"] (wCons (wVar 0) wNil))))
/-! sign_of -/
def N_m_sign_of : List Str := ["hand"]
def P_m_sign_of : List Str := ["hand"]
def w_m_sign_of  : WS := (wSeq (wIfS (wTB (wOp gEq (wVar 0) (wC (.str "dark")))) (wRet (wC (.str "d"))) wNext)
  (wSeq (wIfS (wTB (wOp gEq (wVar 0) (wC (.str "light")))) (wRet (wC (.str "l"))) wNext)
  (wRaise "NoHand" ["hand"] (wCons (wVar 0) wNil))))
/-! hand_of -/
def N_m_hand_of : List Str := ["sign"]
def P_m_hand_of : List Str := ["sign"]
def w_m_hand_of  : WS := (wSeq (wIfS (wTB (wOp gEq (wVar 0) (wC (.str "d")))) (wRet (wC (.str "dark"))) wNext)
  (wSeq (wIfS (wTB (wOp gEq (wVar 0) (wC (.str "l")))) (wRet (wC (.str "light"))) wNext)
  (wRet (wC .non))))
def handF (x : Str) : FE := [("hand", .str x)]
def outS (r : Option Str) (x : Str) (Q : PQ) (E : PX) (μ : Mu) : Prop := (∀ y, r = some y → Q (.str y) μ) ∧ (r = none → E "NoHand" (handF x) μ)
def sp_m_other_hand : SpD := fun ds μ Q E => ∃ x : Str, ds = [.str x] ∧ outS (otherS x) x Q E μ
theorem pf_m_other_hand : ∀ ds μ Q E, sp_m_other_hand ds μ Q E → w_m_other_hand (endK Q E) (startD N_m_other_hand ds) μ := by
  rintro ds μ Q E ⟨x, rfl, q1, q2⟩
  unfold w_m_other_hand
  rotate_left 901
  · exact q1 _ (if_pos h)
  · exact q1 _ ((if_neg (by assumption)).trans (if_pos h))
  · exact ⟨rfl, q2 ((if_neg (by assumption)).trans (if_neg h))⟩
def sp_m_sign_of : SpD := fun ds μ Q E => ∃ x : Str, ds = [.str x] ∧ outS (signS x) x Q E μ
theorem pf_m_sign_of : ∀ ds μ Q E, sp_m_sign_of ds μ Q E → w_m_sign_of (endK Q E) (startD N_m_sign_of ds) μ := by
  rintro ds μ Q E ⟨x, rfl, q1, q2⟩
  unfold w_m_sign_of
  rotate_left 901
  · exact q1 _ (if_pos h)
  · exact q1 _ ((if_neg (by assumption)).trans (if_pos h))
  · exact ⟨rfl, q2 ((if_neg (by assumption)).trans (if_neg h))⟩
def sp_m_hand_of : SpD := fun ds μ Q E => ∃ x : Str, ds = [.str x] ∧ Q (handD x) μ
theorem pf_m_hand_of : ∀ ds μ Q E, sp_m_hand_of ds μ Q E → w_m_hand_of (endK Q E) (startD N_m_hand_of ds) μ := by
  rintro ds μ Q E ⟨x, rfl, q⟩
  unfold w_m_hand_of
  rotate_left 901
  · rw [show handD x = .str "dark" from if_pos h] at q
    exact q
  · rw [show handD x = .str "light" from (if_neg (by assumption)).trans (if_pos h)] at q
    exact q
  · rw [show handD x = .non from (if_neg (by assumption)).trans (if_neg h)] at q
    exact q
/-! is_letter -/
def N_m_is_letter : List Str := ["character"]
def P_m_is_letter : List Str := ["character"]
def w_m_is_letter  : WS := (wRet (wChain gLe gLe (wC (.str "a")) (wVar 0) (wC (.str "z"))))
/-! is_digit -/
def N_m_is_digit : List Str := ["character"]
def P_m_is_digit : List Str := ["character"]
def w_m_is_digit  : WS := (wRet (wChain gLe gLe (wC (.str "0")) (wVar 0) (wC (.str "9"))))
def letC (c : Nat) : Bool := decide (97 ≤ c ∧ c ≤ 122)
def digC (c : Nat) : Bool := decide (48 ≤ c ∧ c ≤ 57)
theorem sLt1 (c d : Nat) : sLt ⟨#[c]⟩ ⟨#[d]⟩ = decide (c < d) := by
  unfold sLt
  have : (([c] : List Nat) < [d]) ↔ c < d := by
    constructor
    · intro h
      cases h with
      | rel h => exact h
      | cons h => cases h
    · intro h; exact .rel h
  exact decide_eq_decide.mpr this
theorem i_leT {i j : Str} {μ : Mu} {Q : PQ} (q : Q (.bl (!sLt j i)) μ) : gLe (.str i) (.str j) μ Q := .inr ⟨i, j, rfl, rfl, q⟩
theorem le1 (c d : Nat) : (!sLt ⟨#[c]⟩ ⟨#[d]⟩) = decide (d ≤ c) := by
  rw [sLt1]
  by_cases h : c < d
  · rw [decide_eq_true h, decide_eq_false (by omega)]; rfl
  · rw [decide_eq_false h, decide_eq_true (by omega)]; rfl
theorem sgn (s : String) (c : Nat) (h : Str.ofString s = ⟨#[c]⟩) : ∀ d, (!sLt ⟨#[d]⟩ (Str.ofString s)) = decide (c ≤ d) ∧ (!sLt (Str.ofString s) ⟨#[d]⟩) = decide (d ≤ c) := fun d => by
  rw [h]
  exact ⟨le1 d c, le1 c d⟩
def sp_m_is_letter : SpD := fun ds μ Q _ => ∃ c : Nat, ds = [.str ⟨#[c]⟩] ∧ Q (.bl (letC c)) μ
theorem pf_m_is_letter : ∀ ds μ Q E, sp_m_is_letter ds μ Q E → w_m_is_letter (endK Q E) (startD N_m_is_letter ds) μ := by
  rintro ds μ Q E ⟨c, rfl, q⟩
  unfold w_m_is_letter
  rotate_left 901
  refine i_leT ?_
  rw [(sgn "a" 97 (by decide +kernel) c).1]
  refine ⟨_, rfl, fun h => ?_, fun h => ?_⟩
  · rotate_left 901
    refine i_leT ?_
    rw [(sgn "z" 122 (by decide +kernel) c).2]
    rotate_left 901
    have e : letC c = decide (c ≤ 122) := decide_eq_decide.mpr ⟨fun z => z.2, fun z => ⟨of_decide_eq_true h, z⟩⟩
    rw [e] at q
    exact q
  · rotate_left 901
    have e : letC c = false := decide_eq_false fun z => of_decide_eq_false h z.1
    rw [e] at q
    exact q
def sp_m_is_digit : SpD := fun ds μ Q _ => ∃ c : Nat, ds = [.str ⟨#[c]⟩] ∧ Q (.bl (digC c)) μ
theorem pf_m_is_digit : ∀ ds μ Q E, sp_m_is_digit ds μ Q E → w_m_is_digit (endK Q E) (startD N_m_is_digit ds) μ := by
  rintro ds μ Q E ⟨c, rfl, q⟩
  unfold w_m_is_digit
  rotate_left 901
  refine i_leT ?_
  rw [(sgn "0" 48 (by decide +kernel) c).1]
  refine ⟨_, rfl, fun h => ?_, fun h => ?_⟩
  · rotate_left 901
    refine i_leT ?_
    rw [(sgn "9" 57 (by decide +kernel) c).2]
    rotate_left 901
    have e : digC c = decide (c ≤ 57) := decide_eq_decide.mpr ⟨fun z => z.2, fun z => ⟨of_decide_eq_true h, z⟩⟩
    rw [e] at q
    exact q
  · rotate_left 901
    have e : digC c = false := decide_eq_false fun z => of_decide_eq_false h z.1
    rw [e] at q
    exact q
/-! is_name -/
def N_m_is_name : List Str := ["text", "character"]
def P_m_is_name : List Str := ["text"]
def w_m_is_name  : WS := (wSeq (wIfS (wOrT (wTB (wOp gEq (wCB gLen (wCons (wVar 0) wNil)) (wC (.int 0)))) (wTB (wOp gGt (wCB gLen (wCons (wVar 0) wNil)) (wC (.int 6))))) (wRet (wC (.bl false))) wNext)
  (wSeq (wIfS (wNotT (wTru (wCall 1 sp_m_is_letter (wCons (wOp gIx (wVar 0) (wC (.int 0))) wNil)))) (wRet (wC (.bl false))) wNext)
  (wRet (wCB gAll (wCons (wLc (wIt (wVar 0)) (wgName 1) wYes (wOr (wCall 1 sp_m_is_letter (wCons (wVar 1) wNil)) (wCall 1 sp_m_is_digit (wCons (wVar 1) wNil)))) wNil)))))
def nmC (c : Nat) : Bool := letC c || digC c
def nameB (x : Str) : Bool := match x.cps.toList with
  | [] => false
  | c :: r => decide (x.length ≤ 6) && (letC c && (c :: r).all nmC)
theorem at0 {α : Type} (c : α) (r : List α) : atI (c :: r) 0 = some c := by
  obtain ⟨_, e⟩ := atI_ok (l := c :: r) (i := 0) (by decide) (by show (0 : Int) < ((r.length + 1 : Nat) : Int); omega)
  exact e
theorem bools_map (f : Nat → Bool) : ∀ l : List Nat, bools (l.map fun c => D.bl (f c)) = some (l.map f)
  | [] => rfl
  | c :: l => by
    show (bools (l.map fun c => D.bl (f c))).map _ = _
    rw [bools_map f l]
    rfl
def sp_m_is_name : SpD := fun ds μ Q _ => ∃ x : Str, ds = [.str x] ∧ x.length ≤ 20000 ∧ Q (.bl (nameB x)) μ
theorem pf_m_is_name : ∀ ds μ Q E, sp_m_is_name ds μ Q E → w_m_is_name (endK Q E) (startD N_m_is_name ds) μ := by
  rintro ds μ Q E ⟨x, rfl, hx, q⟩
  unfold w_m_is_name
  rotate_left 901
  refine i_lenB (by omega) ?_
  rotate_left 901
  · have e : nameB x = false := by
      unfold nameB
      have : x.cps.toList = [] := List.length_eq_zero_iff.mp (by rw [Array.length_toList]; show x.length = 0; omega)
      rw [this]
    rw [e] at q
    exact q
  · refine i_lenB (by omega) ?_
    rotate_left 901
    · have e : nameB x = false := by
        unfold nameB
        split
        · rfl
        · rw [decide_eq_false (by omega), Bool.false_and]
      rw [e] at q
      exact q
    · cases hc : x.cps.toList with
      | nil =>
        have : x.length = 0 := by show x.cps.size = 0; rw [← Array.length_toList, hc]; rfl
        omega
      | cons c r =>
        have en : nameB x = (letC c && (c :: r).all nmC) := by
          unfold nameB
          rw [hc]
          show (decide _ && _) = _
          rw [decide_eq_true (by omega), Bool.true_and]
        refine .inr (.inr ⟨x, 0, c, rfl, rfl, by rw [sizeLine_eq]; omega, by rw [hc]; exact at0 c r, ?_⟩)
        rotate_left 901
        refine ⟨rfl, c, rfl, ?_⟩
        cases hl : letC c
        · rotate_left 901
          rw [hl, Bool.false_and] at en
          rw [en] at q
          exact q
        · rotate_left 901
          refine .inr (.inl ⟨x, rfl, ?_⟩)
          refine lcLoop_inv (fun rem acc μ' => μ' = μ ∧ ∃ xs ys : List Nat, xs ++ ys = x.cps.toList ∧ acc = xs.map (fun c => D.bl (nmC c)) ∧ rem = ys.map fun c => D.str ⟨#[c]⟩) (fun _ _ _ _ => trivial) ?_ ?_ _ _ _ ⟨rfl, [], x.cps.toList, rfl, rfl, rfl⟩
          · rintro acc μ' ⟨rfl, xs, ys, e, rfl, e3⟩
            have : ys = [] := List.map_eq_nil_iff.mp e3.symm
            subst this
            rw [List.append_nil] at e
            subst e
            rotate_left 901
            rw [hl, Bool.true_and] at en
            refine ⟨_, _, x.cps.toList.map nmC, rfl, rfl, bools_map _ _, ?_⟩
            rotate_left 901
            rw [List.all_map, hc]
            rw [en] at q
            exact q
          · rintro d ds acc μ' ⟨rfl, xs, ys, e, rfl, e3⟩ Z hZ
            cases ys with
            | nil => cases e3
            | cons y ys =>
              cases e3
              have hlen : xs.length + (ys.length + 1) = x.length := by
                have := congrArg List.length e
                rw [List.length_append, List.length_cons, Array.length_toList] at this
                exact this
              have fin : ∀ b, b = nmC y → (xs.map fun c => D.bl (nmC c)).length < sizeLine ∧ Z ((xs.map fun c => D.bl (nmC c)) ++ [.bl b]) μ' := fun b hb => by
                subst hb
                refine ⟨by rw [List.length_map, sizeLine_eq]; omega, hZ _ _ ⟨rfl, xs ++ [y], ys, by rw [List.append_assoc]; exact e, by rw [List.map_append]; rfl, rfl⟩⟩
              rotate_left 901
              refine ⟨rfl, y, rfl, ?_⟩
              cases h1 : letC y
              · rotate_left 901
                refine ⟨rfl, y, rfl, ?_⟩
                rotate_left 901
                exact fin _ (by unfold nmC; rw [h1]; rfl)
              · rotate_left 901
                exact fin _ (by unfold nmC; rw [h1]; rfl)
/-! ### numbers -/
def sp_m_is_number : SpD := fun ds μ Q _ => ∃ d, ds = [d] ∧ Thing d ∧ Q (.bl (isI d)) μ
/-! is_number -/
def N_m_is_number : List Str := ["value"]
def P_m_is_number : List Str := ["value"]
def w_m_is_number  : WS := (wRet (wAnd (wIsi .int (wVar 0)) (wNot (wIsi .bool (wVar 0)))))
/-! check_number -/
def N_m_check_number : List Str := ["what", "value", "least", "most"]
def P_m_check_number : List Str := ["what", "value", "least", "most"]
def w_m_check_number  : WS := (wSeq (wIfS (wNotT (wTru (wCall 1 sp_m_is_number (wCons (wVar 1) wNil)))) (wRaise "BadNumber" ["what", "value"] (wCons (wVar 0) (wCons (wVar 1) wNil))) wNext)
  (wSeq (wIfS (wOrT (wTB (wOp gLt (wVar 1) (wVar 2))) (wTB (wOp gGt (wVar 1) (wVar 3)))) (wRaise "BadNumber" ["what", "value"] (wCons (wVar 0) (wCons (wVar 1) wNil))) wNext)
  (wRet (wVar 1))))
theorem pf_m_is_number : ∀ ds μ Q E, sp_m_is_number ds μ Q E → w_m_is_number (endK Q E) (startD N_m_is_number ds) μ := by
  rintro ds μ Q E ⟨d, rfl, h, q⟩
  unfold w_m_is_number
  rcases h with ⟨i, rfl, _⟩ | ⟨b, rfl⟩ | rfl | ⟨y, rfl, _⟩
  all_goals rotate_left 901
  all_goals exact q
def inB (lo hi : Int) : D → Bool
  | .int i => decide (lo ≤ i ∧ i ≤ hi)
  | _ => false
def numF (w : Str) (d : D) : FE := [("value", d), ("what", .str w)]
def outN (w : Str) (d : D) (lo hi : Int) (Q : PQ) (E : PX) (μ : Mu) : Prop := (inB lo hi d = true → Q d μ) ∧ (inB lo hi d = false → E "BadNumber" (numF w d) μ)
def sp_m_check_number : SpD := fun ds μ Q E => ∃ w d lo hi, ds = [.str w, d, .int lo, .int hi] ∧ Thing d ∧ outN w d lo hi Q E μ
def sp_m_check_number_least_most : SpD := sp_m_check_number
theorem pf_m_check_number : ∀ ds μ Q E, sp_m_check_number ds μ Q E → w_m_check_number (endK Q E) (startD N_m_check_number ds) μ := by
  rintro ds μ Q E ⟨w, d, lo, hi, rfl, h, q1, q2⟩
  unfold w_m_check_number
  rotate_left 901
  refine ⟨rfl, d, rfl, h, ?_⟩
  rcases h with ⟨i, rfl, _⟩ | ⟨b, rfl⟩ | rfl | ⟨y, rfl, _⟩
  all_goals rotate_left 901
  · exact ⟨rfl, q2 (decide_eq_false (by omega))⟩
  · exact ⟨rfl, q2 (decide_eq_false (by omega))⟩
  · exact q1 (decide_eq_true (by omega))
  · exact ⟨rfl, q2 rfl⟩
  · exact ⟨rfl, q2 rfl⟩
  · exact ⟨rfl, q2 rfl⟩
/-! ### the kinds of what is raised -/
/-! _law_kinds -/
def N_kinds : List Str := ["_law_error", "_law_names", "_law_flags", "_law_k"]
def P_kinds : List Str := ["_law_error"]
def w_kinds (a ca : Addr) (dx : Option Addr) : WS := (wSeq (wAsg 1 (wC (.str "ValueError TworoomsError BadNumber NoHand BadName TooMany NoEntry NoPlace SelfTie Repeated BadSigns")))
  (wSeq (wAsg 1 (wOp gAdd (wVar 1) (wC (.str " BadText BadTree BadMap NotRight NoStone Stands Falls GameOver Occupied SelfTaking ComesBack"))))
  (wSeq (wAsg 1 (wMt "str" gSplit (wOp gAdd (wVar 1) (wC (.str " BadDeed NothingDone BadRow"))) (wCons (wC (.str " ")) wNil)))
  (wSeq (wAsg 2 (wLst (wCons (wXi a ca dx (isX_ValueError) (wVar 0)) (wCons (wXi a ca dx (isX_TworoomsError) (wVar 0)) (wCons (wXi a ca dx (isX_BadNumber) (wVar 0)) wNil)))))
  (wSeq (wAsg 2 (wOp gAdd (wVar 2) (wLst (wCons (wXi a ca dx (isX_NoHand) (wVar 0)) (wCons (wXi a ca dx (isX_BadName) (wVar 0)) (wCons (wXi a ca dx (isX_TooMany) (wVar 0)) wNil))))))
  (wSeq (wAsg 2 (wOp gAdd (wVar 2) (wLst (wCons (wXi a ca dx (isX_NoEntry) (wVar 0)) (wCons (wXi a ca dx (isX_NoPlace) (wVar 0)) (wCons (wXi a ca dx (isX_SelfTie) (wVar 0)) wNil))))))
  (wSeq (wAsg 2 (wOp gAdd (wVar 2) (wLst (wCons (wXi a ca dx (isX_Repeated) (wVar 0)) (wCons (wXi a ca dx (isX_BadSigns) (wVar 0)) (wCons (wXi a ca dx (isX_BadText) (wVar 0)) wNil))))))
  (wSeq (wAsg 2 (wOp gAdd (wVar 2) (wLst (wCons (wXi a ca dx (isX_BadTree) (wVar 0)) (wCons (wXi a ca dx (isX_BadMap) (wVar 0)) (wCons (wXi a ca dx (isX_NotRight) (wVar 0)) wNil))))))
  (wSeq (wAsg 2 (wOp gAdd (wVar 2) (wLst (wCons (wXi a ca dx (isX_NoStone) (wVar 0)) (wCons (wXi a ca dx (isX_Stands) (wVar 0)) (wCons (wXi a ca dx (isX_Falls) (wVar 0)) wNil))))))
  (wSeq (wAsg 2 (wOp gAdd (wVar 2) (wLst (wCons (wXi a ca dx (isX_GameOver) (wVar 0)) (wCons (wXi a ca dx (isX_Occupied) (wVar 0)) (wCons (wXi a ca dx (isX_SelfTaking) (wVar 0)) wNil))))))
  (wSeq (wAsg 2 (wOp gAdd (wVar 2) (wLst (wCons (wXi a ca dx (isX_ComesBack) (wVar 0)) (wCons (wXi a ca dx (isX_BadDeed) (wVar 0)) (wCons (wXi a ca dx (isX_NothingDone) (wVar 0)) wNil))))))
  (wSeq (wAsg 2 (wOp gAdd (wVar 2) (wLst (wCons (wXi a ca dx (isX_BadRow) (wVar 0)) wNil))))
  (wRet (wLc (wRng1 (wCB gLen (wCons (wVar 1) wNil))) (wgName 3) (wTru (wOp gIx (wVar 2) (wVar 3))) (wOp gIx (wVar 1) (wVar 3))))))))))))))))
def kindsD (c : Str) : D := .lst [.str "ValueError", .str "TworoomsError", .str c]
def sp_kinds : SpX := fun c fs μ Q => (c = "NoHand" ∨ c = "BadNumber") ∧ Q (kindsD c) μ
def allK : List Str := ["ValueError", "TworoomsError", "BadNumber", "NoHand", "BadName", "TooMany", "NoEntry", "NoPlace", "SelfTie", "Repeated", "BadSigns", "BadText", "BadTree", "BadMap", "NotRight", "NoStone", "Stands", "Falls", "GameOver", "Occupied", "SelfTaking", "ComesBack", "BadDeed", "NothingDone", "BadRow"]
theorem split_all : Txt.split (Str.ofString "ValueError TworoomsError BadNumber NoHand BadName TooMany NoEntry NoPlace SelfTie Repeated BadSigns" ++ Str.ofString " BadText BadTree BadMap NotRight NoStone Stands Falls GameOver Occupied SelfTaking ComesBack" ++ Str.ofString " BadDeed NothingDone BadRow") (Str.ofString " ") = allK := by decide +kernel
def sel (xs : List Str) (bs : List Bool) : List Str := ((xs.zip bs).filter (·.2)).map (·.1)
theorem sel_snoc {xs : List Str} {bs : List Bool} {x : Str} {b : Bool} (h : xs.length = bs.length) : sel (xs ++ [x]) (bs ++ [b]) = sel xs bs ++ (if b = true then [x] else []) := by
  unfold sel
  rw [List.zip_append h, List.filter_append, List.map_append]
  cases b <;> rfl
theorem take_snoc {α : Type} {xs : List α} {i : Nat} (h : i < xs.length) : xs.take (i + 1) = xs.take i ++ [xs[i]] := by
  rw [List.take_succ, List.getElem?_eq_getElem h]
  rfl
theorem sel_loop {names : List Str} {flags : List Bool} {e : D} {x : Option D} {μ : Mu} {Q : List D → Mu → Prop} (hl : flags.length = names.length) (hs : names.length < 1000) (q : Q ((sel names flags).map D.str) μ) :
    lcLoop (fun _ => True) (wgName 3) (wTru (wOp gIx (wVar 2) (wVar 3))) (wOp gIx (wVar 1) (wVar 3)) [some e, some (.lst (names.map D.str)), some (.lst (flags.map D.bl)), x] Q (rngD 0 names.length) [] μ := by
  refine lcLoop_inv (fun rem acc μ' => μ' = μ ∧ ∃ i, i ≤ names.length ∧ rem = (rngD 0 names.length).drop i ∧ acc = (sel (names.take i) (flags.take i)).map D.str ∧ acc.length ≤ i) (fun _ _ _ _ => trivial) ?_ ?_ _ _ _ ⟨rfl, 0, Nat.zero_le _, rfl, rfl, Nat.le_refl _⟩
  · rintro acc μ' ⟨rfl, i, hi, e, rfl, _⟩
    have := rng_nil e
    rw [List.take_of_length_le (by omega), List.take_of_length_le (by omega)]
    exact q
  · rintro d ds acc μ' ⟨rfl, i, hi, e, rfl, ha⟩ Z hZ
    obtain ⟨hi2, e1, e2⟩ := rng_cons e
    subst e1 e2
    obtain ⟨h1, e1⟩ := atI_ok (l := flags.map D.bl) (i := 0 + (i : Int)) (by omega) (by rw [List.length_map]; omega)
    obtain ⟨h2, e2⟩ := atI_ok (l := names.map D.str) (i := 0 + (i : Int)) (by omega) (by rw [List.length_map]; omega)
    have hif : i < flags.length := by omega
    have i0 : (0 + (i : Int)).toNat = i := by omega
    simp only [List.getElem_map, i0] at e1 e2
    have es := sel_snoc (xs := names.take i) (bs := flags.take i) (x := names[i]) (b := flags[i]) (by rw [List.length_take, List.length_take]; omega)
    rw [← take_snoc hi2, ← take_snoc hif] at es
    rotate_left 901
    refine i_ixF e1 ?_
    cases hb : flags[i]
    · rotate_left 901
      rw [hb] at es
      exact hZ _ _ ⟨rfl, i + 1, hi2, rfl, by rw [es]; show _ = (_ ++ []).map _; rw [List.append_nil], by omega⟩
    · rotate_left 901
      refine i_ixF e2 ?_
      rotate_left 901
      rw [hb] at es
      refine ⟨by rw [sizeLine_eq]; omega, hZ _ _ ⟨rfl, i + 1, hi2, rfl, by rw [es, if_pos rfl, List.map_append]; rfl, by rw [List.length_append]; show _ + 1 ≤ _; omega⟩⟩
def flagsOf (c : Str) : List Bool := [isX_ValueError c, isX_TworoomsError c, isX_BadNumber c, isX_NoHand c, isX_BadName c, isX_TooMany c, isX_NoEntry c, isX_NoPlace c, isX_SelfTie c, isX_Repeated c, isX_BadSigns c, isX_BadText c, isX_BadTree c, isX_BadMap c, isX_NotRight c, isX_NoStone c, isX_Stands c, isX_Falls c, isX_GameOver c, isX_Occupied c, isX_SelfTaking c, isX_ComesBack c, isX_BadDeed c, isX_NothingDone c, isX_BadRow c]
theorem sel_kinds : sel allK (flagsOf "NoHand") = (["ValueError", "TworoomsError", "NoHand"] : List Str) ∧ sel allK (flagsOf "BadNumber") = (["ValueError", "TworoomsError", "BadNumber"] : List Str) := by decide +kernel
theorem pf_kinds : ∀ a ca dx c fs μ Q, sp_kinds c fs μ Q → w_kinds a ca dx (endK Q fun _ _ _ => False) (startD N_kinds [.exc a ca dx c fs]) μ := by
  rintro a ca dx c fs μ Q ⟨hc, q⟩
  unfold w_kinds
  rotate_left 901
  refine .inr (.inl ⟨_, _, rfl, rfl, by decide +kernel, ?_⟩)
  rotate_left 901
  refine .inr (.inl ⟨_, _, rfl, rfl, by decide +kernel, ?_⟩)
  rotate_left 901
  refine ⟨rfl, ?_⟩
  rotate_left 901
  refine ⟨_, _, rfl, rfl, by decide +kernel, by decide +kernel, ?_⟩
  rw [split_all]
  rotate_left 901
  refine i_addL rfl rfl (show 3 + 3 ≤ 16000000 by decide) ?_
  rotate_left 901
  refine i_addL rfl rfl (show 6 + 3 ≤ 16000000 by decide) ?_
  rotate_left 901
  refine i_addL rfl rfl (show 9 + 3 ≤ 16000000 by decide) ?_
  rotate_left 901
  refine i_addL rfl rfl (show 12 + 3 ≤ 16000000 by decide) ?_
  rotate_left 901
  refine i_addL rfl rfl (show 15 + 3 ≤ 16000000 by decide) ?_
  rotate_left 901
  refine i_addL rfl rfl (show 18 + 3 ≤ 16000000 by decide) ?_
  rotate_left 901
  refine i_addL rfl rfl (show 21 + 3 ≤ 16000000 by decide) ?_
  rotate_left 901
  refine i_addL rfl rfl (show 24 + 1 ≤ 16000000 by decide) ?_
  rotate_left 901
  refine ⟨25, rfl, by decide, by decide, ?_⟩
  refine sel_loop (names := allK) (flags := flagsOf c) (e := .exc a ca dx c fs) (x := none) rfl (by decide) ?_
  rotate_left 901
  rcases hc with rfl | rfl
  · rw [sel_kinds.1]; exact q
  · rw [sel_kinds.2]; exact q
end K00


set_option maxRecDepth 100000
set_option maxHeartbeats 4000000
namespace K00
open PySem PySem.Spec PyProof.Rows L2 T2
/-! _law_due -/
def N_due : List Str := ["_law_kind", "_law_values"]
def P_due : List Str := ["_law_kind", "_law_values"]
def w_due  : WS := (wRet (wTup (wCons (wC (.str "raised")) (wCons (wVar 1) (wCons (wLst (wCons (wC (.str "ValueError")) (wCons (wC (.str "TworoomsError")) (wCons (wVar 0) wNil)))) wNil)))))
def raisedD (v : D) (k : Str) : D := .tup [.str "raised", v, kindsD k]
def gaveD (d : D) : D := .tup [.str "gave", d]
def sp_due : SpD := fun ds μ Q _ => ∃ (k : Str) (v : D), ds = [.str k, v] ∧ Q (raisedD v k) μ
theorem pf_due : ∀ ds μ Q E, sp_due ds μ Q E → w_due (endK Q E) (startD N_due ds) μ := by
  rintro ds μ Q E ⟨k, v, rfl, q⟩
  unfold w_due
  rotate_left 901
  exact q
/-! ### the law's own look at a name -/
def codes (l : List Nat) : List D := l.map fun (c : Nat) => D.int c
theorem filt_loop {lo hi : Int} {p : Nat → Bool} (hp : ∀ c : Nat, p c = decide (lo ≤ (c : Int) ∧ (c : Int) ≤ hi)) {l : List Nat} (hs : l.length < 1000000) {r0 r1 r2 r3 r4 r5 : Option D} {gd : Mu → Prop} {μ : Mu} {Q : List D → Mu → Prop} (hg : gd μ) (q : Q (codes (l.filter p)) μ) :
    lcLoop gd (wgName 4) (wTB (wChain gLe gLe (wC (.int lo)) (wVar 4) (wC (.int hi)))) (wVar 4) [r0, r1, r2, r3, r4, r5] Q (codes l) [] μ := by
  refine lcLoop_inv (fun rem acc μ' => μ' = μ ∧ ∃ xs ys : List Nat, xs ++ ys = l ∧ acc = codes (xs.filter p) ∧ rem = codes ys) (fun _ _ _ h => h.1 ▸ hg) ?_ ?_ _ _ _ ⟨rfl, [], l, rfl, rfl, rfl⟩
  · rintro acc μ' ⟨rfl, xs, ys, e, rfl, e3⟩
    have : ys = [] := List.map_eq_nil_iff.mp e3.symm
    subst this
    rw [List.append_nil] at e
    subst e
    exact q
  · rintro d ds acc μ' ⟨rfl, xs, ys, e, rfl, e3⟩ Z hZ
    cases ys with
    | nil => cases e3
    | cons y ys =>
      cases e3
      have hlen : xs.length + (ys.length + 1) = l.length := by rw [← e, List.length_append, List.length_cons]
      have hfl : (xs.filter p).length ≤ xs.length := List.length_filter_le _ _
      have e2 : (xs ++ [y]) ++ ys = l := by rw [List.append_assoc]; exact e
      have yes : p y = true → (codes (xs.filter p)).length < sizeLine ∧ Z (codes (xs.filter p) ++ [.int (y : Int)]) μ' := fun h => by
        refine ⟨by unfold codes; rw [List.length_map, sizeLine_eq]; omega, hZ _ _ ⟨rfl, xs ++ [y], ys, e2, ?_, rfl⟩⟩
        rw [List.filter_append, show [y].filter p = [y] by rw [List.filter_cons, h]; rfl]
        unfold codes
        rw [List.map_append]
        rfl
      have no : p y = false → Z (codes (xs.filter p)) μ' := fun h => by
        refine hZ _ _ ⟨rfl, xs ++ [y], ys, e2, ?_, rfl⟩
        rw [List.filter_append, show [y].filter p = [] by rw [List.filter_cons, h]; rfl, List.append_nil]
      rotate_left 901
      all_goals first
        | (refine no ?_; rw [hp]; exact decide_eq_false (by omega))
        | (refine yes ?_; rw [hp]; exact decide_eq_true (by omega))
        | skip
theorem let_filt (l : List Nat) : (l.filter letC).length + (l.filter digC).length ≤ l.length ∧ (((l.filter letC).length + (l.filter digC).length = l.length) ↔ l.all nmC = true) := by
  induction l with
  | nil => exact ⟨Nat.le_refl _, by decide⟩
  | cons c r ih =>
    obtain ⟨h1, h2⟩ := ih
    rw [List.filter_cons, List.filter_cons, List.all_cons]
    have dis : letC c = true → digC c = false := fun h => by
      have := of_decide_eq_true h
      exact decide_eq_false (by omega)
    unfold nmC at h2 ⊢
    cases hl : letC c
    · cases hd : digC c
      · simp only [Bool.false_eq_true, if_false, Bool.or_false, Bool.false_and, List.length_cons]
        exact ⟨by omega, by constructor <;> intro z <;> first | omega | cases z⟩
      · simp only [Bool.false_eq_true, if_false, if_true, Bool.or_true, Bool.true_and, List.length_cons]
        exact ⟨by omega, by rw [← h2]; omega⟩
    · rw [dis hl]
      simp only [Bool.false_eq_true, if_false, if_true, Bool.or_false, Bool.true_and, List.length_cons]
      exact ⟨by omega, by rw [← h2]; omega⟩
/-! _law_named -/
def N_named : List Str := ["_law_word", "_law_codes", "_law_sign", "_law_letters", "_law_code", "_law_digits"]
def P_named : List Str := ["_law_word"]
abbrev w_named_p0 : WS := (wSeq (wAsg 1 (wLc (wIt (wVar 0)) (wgName 2) wYes (wCB gOrd (wCons (wVar 2) wNil))))
  (wSeq (wAsg 3 (wLc (wIt (wVar 1)) (wgName 4) (wTB (wChain gLe gLe (wC (.int 97)) (wVar 4) (wC (.int 122)))) (wVar 4)))
  (wSeq (wAsg 5 (wLc (wIt (wVar 1)) (wgName 4) (wTB (wChain gLe gLe (wC (.int 48)) (wVar 4) (wC (.int 57)))) (wVar 4)))
  (wRet (wAnd (wOp gEq (wOp gAdd (wCB gLen (wCons (wVar 3) wNil)) (wCB gLen (wCons (wVar 5) wNil))) (wCB gLen (wCons (wVar 1) wNil))) (wChain gLe gLe (wC (.int 97)) (wOp gIx (wVar 1) (wC (.int 0))) (wC (.int 122))))))))
def w_named  : WS := (wSeq (wIfS (wOrT (wTB (wOp gLt (wCB gLen (wCons (wVar 0) wNil)) (wC (.int 1)))) (wTB (wOp gGt (wCB gLen (wCons (wVar 0) wNil)) (wC (.int 6))))) (wRet (wC (.bl false))) wNext)
  w_named_p0)
def sp_named : SpD := fun ds μ Q _ => ∃ x : Str, ds = [.str x] ∧ x.length ≤ 20000 ∧ Q (.bl (nameB x)) μ
theorem pf_named : ∀ ds μ Q E, sp_named ds μ Q E → w_named (endK Q E) (startD N_named ds) μ := by
  rintro ds μ Q E ⟨x, rfl, hx, q⟩
  unfold w_named
  rotate_left 901
  refine i_lenB (by omega) ?_
  rotate_left 901
  · have e : nameB x = false := by
      unfold nameB
      have : x.cps.toList = [] := List.length_eq_zero_iff.mp (by rw [Array.length_toList]; show x.length = 0; omega)
      rw [this]
    rw [e] at q
    exact q
  · refine i_lenB (by omega) ?_
    rotate_left 901
    · have e : nameB x = false := by
        unfold nameB
        split
        · rfl
        · rw [decide_eq_false (by omega), Bool.false_and]
      rw [e] at q
      exact q
    · cases hc : x.cps.toList with
      | nil =>
        have : x.length = 0 := by show x.cps.size = 0; rw [← Array.length_toList, hc]; rfl
        omega
      | cons c r =>
        have en : nameB x = (letC c && (c :: r).all nmC) := by
          unfold nameB
          rw [hc]
          show (decide _ && _) = _
          rw [decide_eq_true (by omega), Bool.true_and]
        have hlr : (c :: r).length = x.length := by rw [← hc, Array.length_toList]; rfl
        refine .inr (.inl ⟨x, rfl, ?_⟩)
        refine lcLoop_inv (fun rem acc μ' => μ' = μ ∧ ∃ xs ys : List Nat, xs ++ ys = c :: r ∧ acc = codes xs ∧ rem = ys.map fun c => D.str ⟨#[c]⟩) (fun _ _ _ _ => trivial) ?_ ?_ _ _ _ ⟨rfl, [], c :: r, rfl, rfl, by unfold T2.signs; rw [hc]⟩
        · rintro acc μ' ⟨rfl, xs, ys, e, rfl, e3⟩
          have : ys = [] := List.map_eq_nil_iff.mp e3.symm
          subst this
          rw [List.append_nil] at e
          subst e
          rotate_left 901
          refine .inl ⟨_, rfl, ?_⟩
          refine filt_loop (p := letC) (fun c => decide_eq_decide.mpr (by omega)) (by omega) rfl ?_
          rotate_left 901
          refine .inl ⟨_, rfl, ?_⟩
          refine filt_loop (p := digC) (fun c => decide_eq_decide.mpr (by omega)) (by omega) rfl ?_
          rotate_left 901
          all_goals (unfold codes at h; rw [List.length_map, List.length_map, List.length_map] at h)
          all_goals have hf := let_filt (c :: r)
          · have en2 : nameB x = letC c := by rw [en, hf.2.mp (by omega), Bool.and_true]
            refine i_ixF (show atI (codes (c :: r)) 0 = some (.int c) from at0 _ _) ?_
            rotate_left 901
            · have e : letC c = decide ((c : Int) ≤ 122) := decide_eq_decide.mpr (by omega)
              rw [en2, e] at q
              exact q
            · have e : letC c = false := decide_eq_false (by omega)
              rw [en2, e] at q
              exact q
          · have en2 : nameB x = false := by
              rw [en]
              cases ha : (c :: r).all nmC
              · exact Bool.and_false _
              · exact absurd (by have := hf.2.mpr ha; omega) h
            rw [en2] at q
            refine cast (congrArg (fun b => Q (D.bl b) μ') (decide_eq_false ?_).symm) q
            unfold codes
            rw [List.length_map, List.length_map, List.length_map]
            exact h
        · rintro d ds acc μ' ⟨rfl, xs, ys, e, rfl, e3⟩ Z hZ
          cases ys with
          | nil => cases e3
          | cons y ys =>
            cases e3
            have hlen : xs.length + (ys.length + 1) = (c :: r).length := by rw [← e, List.length_append, List.length_cons]
            rotate_left 901
            refine ⟨_, rfl, rfl, ?_⟩
            rotate_left 901
            refine ⟨by unfold codes; rw [List.length_map, sizeLine_eq]; omega, hZ _ _ ⟨rfl, xs ++ [y], ys, by rw [List.append_assoc]; exact e, by unfold codes; rw [List.map_append]; rfl, rfl⟩⟩
/-! ### what is told -/
def toldD (r : Option Str) (x : Str) : D := match r with
  | some y => gaveD (.str y)
  | none => raisedD (.tup [.str x]) "NoHand"
/-! _law_told_other -/
def N_told_other : List Str := ["_law_word", "_law_told", "e"]
def P_told_other : List Str := ["_law_word"]
def w_told_other  : WS := (wSeq (wTry isX_NoHand 2 (wAsg 1 (wCall 1 sp_m_other_hand (wCons (wVar 0) wNil))) fun a ca dx => (wRet (wTup (wCons (wC (.str "raised")) (wCons (wTup (wCons (wXf a ca dx "hand" (wVar 2)) wNil)) (wCons (wCallX a ca dx sp_kinds (wVar 2)) wNil))))))
  (wRet (wTup (wCons (wC (.str "gave")) (wCons (wVar 1) wNil)))))
/-! _law_told_sign -/
def N_told_sign : List Str := ["_law_word", "_law_told", "e"]
def P_told_sign : List Str := ["_law_word"]
def w_told_sign  : WS := (wSeq (wTry isX_NoHand 2 (wAsg 1 (wCall 1 sp_m_sign_of (wCons (wVar 0) wNil))) fun a ca dx => (wRet (wTup (wCons (wC (.str "raised")) (wCons (wTup (wCons (wXf a ca dx "hand" (wVar 2)) wNil)) (wCons (wCallX a ca dx sp_kinds (wVar 2)) wNil))))))
  (wRet (wTup (wCons (wC (.str "gave")) (wCons (wVar 1) wNil)))))
def sp_told_other : SpD := fun ds μ Q _ => ∃ x : Str, ds = [.str x] ∧ Q (toldD (otherS x) x) μ
theorem pf_told_other : ∀ ds μ Q E, sp_told_other ds μ Q E → w_told_other (endK Q E) (startD N_told_other ds) μ := by
  rintro ds μ Q E ⟨x, rfl, q⟩
  unfold w_told_other
  rotate_left 901
  refine ⟨rfl, x, rfl, fun y hy => ?_, fun hn => ?_⟩
  · rotate_left 901
    rw [hy] at q
    exact q
  · refine ⟨fun _ a ca dx => ?_, fun z => absurd z (by decide +kernel)⟩
    rotate_left 901
    refine ⟨.inl rfl, ?_⟩
    rotate_left 901
    rw [hn] at q
    exact q
def sp_told_sign : SpD := fun ds μ Q _ => ∃ x : Str, ds = [.str x] ∧ Q (toldD (signS x) x) μ
theorem pf_told_sign : ∀ ds μ Q E, sp_told_sign ds μ Q E → w_told_sign (endK Q E) (startD N_told_sign ds) μ := by
  rintro ds μ Q E ⟨x, rfl, q⟩
  unfold w_told_sign
  rotate_left 901
  refine ⟨rfl, x, rfl, fun y hy => ?_, fun hn => ?_⟩
  · rotate_left 901
    rw [hy] at q
    exact q
  · refine ⟨fun _ a ca dx => ?_, fun z => absurd z (by decide +kernel)⟩
    rotate_left 901
    refine ⟨.inl rfl, ?_⟩
    rotate_left 901
    rw [hn] at q
    exact q
def toldN (w : Str) (d : D) (lo hi : Int) : D := if inB lo hi d = true then gaveD d else raisedD (.tup [.str w, d]) "BadNumber"
/-! _law_told_check -/
def N_told_check : List Str := ["_law_word", "_law_thing", "_law_low", "_law_high", "_law_told", "e"]
def P_told_check : List Str := ["_law_word", "_law_thing", "_law_low", "_law_high"]
def w_told_check  : WS := (wSeq (wTry isX_BadNumber 5 (wAsg 4 (wCallK 2 2 sp_m_check_number_least_most (wCons (wVar 0) (wCons (wVar 1) wNil)) (wCons (wVar 2) (wCons (wVar 3) wNil)))) fun a ca dx => (wRet (wTup (wCons (wC (.str "raised")) (wCons (wTup (wCons (wXf a ca dx "what" (wVar 5)) (wCons (wXf a ca dx "value" (wVar 5)) wNil))) (wCons (wCallX a ca dx sp_kinds (wVar 5)) wNil))))))
  (wRet (wTup (wCons (wC (.str "gave")) (wCons (wVar 4) wNil)))))
def sp_told_check : SpD := fun ds μ Q _ => ∃ w d lo hi, ds = [.str w, d, .int lo, .int hi] ∧ Thing d ∧ Q (toldN w d lo hi) μ
theorem pf_told_check : ∀ ds μ Q E, sp_told_check ds μ Q E → w_told_check (endK Q E) (startD N_told_check ds) μ := by
  rintro ds μ Q E ⟨w, d, lo, hi, rfl, h, q⟩
  unfold w_told_check
  rotate_left 901
  refine ⟨rfl, rfl, w, d, lo, hi, rfl, h, fun hy => ?_, fun hn => ?_⟩
  · rotate_left 901
    rw [show toldN w d lo hi = gaveD d from if_pos hy] at q
    exact q
  · refine ⟨fun _ a ca dx => ?_, fun z => absurd z (by decide +kernel)⟩
    rotate_left 901
    refine ⟨.inr rfl, ?_⟩
    rotate_left 901
    rw [show toldN w d lo hi = raisedD (.tup [.str w, d]) "BadNumber" from if_neg (by rw [hn]; decide)] at q
    exact q
/-! ### the same as itself -/
def rfx : Nat → D → Bool
  | 0, d => sc4 d
  | n + 1, d => sc4 d || match d with
    | .lst xs => decide (xs.length < 1000000) && xs.all (rfx n)
    | .tup xs => decide (xs.length < 1000000) && xs.all (rfx n)
    | _ => false
theorem rowsM_rfl {f : D → D → Option Bool} : ∀ {xs : List D}, (∀ x ∈ xs, f x x = some true) → rowsM f xs xs = some true
  | [], _ => rfl
  | x :: xs, h => by
    show (match f x x, rowsM f xs xs with
      | some b, some c => some (b && c)
      | _, _ => none) = some true
    rw [h x List.mem_cons_self, rowsM_rfl fun y hy => h y (List.mem_cons_of_mem _ hy)]
    rfl
theorem sameS_rfl {d : D} (h : sc4 d = true) : sameS d d = true := by
  cases d <;> first | (cases h; done) | skip
  all_goals simp [sameS]
theorem same_rfl {μ : Mu} : ∀ {n : Nat} {d : D}, rfx n d = true → sameM μ n d d = some true
  | 0, d, h => by
    have h : sc4 d = true := h
    unfold sameM
    rw [if_pos (by rw [h]; rfl), sameS_rfl h]
  | n + 1, d, h => by
    have rows : ∀ xs : List D, (decide (xs.length < 1000000) && xs.all (rfx n)) = true → rowsL (sameM μ n) xs xs = some true := fun xs hx => by
      rw [Bool.and_eq_true, decide_eq_true_eq] at hx
      unfold rowsL
      rw [if_pos rfl, if_pos hx.1]
      exact rowsM_rfl fun x hm => same_rfl (List.all_eq_true.mp hx.2 x hm)
    unfold sameM
    by_cases hs : sc4 d = true
    · rw [if_pos (by rw [hs]; rfl), sameS_rfl hs]
    · rw [if_neg (by rw [Bool.eq_false_iff.mpr hs]; decide)]
      unfold rfx at h
      rw [Bool.eq_false_iff.mpr hs, Bool.false_or] at h
      cases d <;> first | (cases h; done) | skip
      · exact (if_pos rfl).trans (rows _ h)
      · exact (if_pos rfl).trans (rows _ h)
/-! _law_text_good -/
def N_text_good : List Str := ["_law_word", "_law_other", "_law_sign", "_law_hands", "_law_due_here", "_law_told"]
def P_text_good : List Str := ["_law_word"]
abbrev w_text_good_p0 : WS := (wSeq (wIfS (wTB (wOp (gIn false) (wVar 0) (wVar 1))) (wAsg 4 (wLst (wCons (wTup (wCons (wC (.str "gave")) (wCons (wOp gIx (wVar 1) (wVar 0)) wNil))) (wCons (wTup (wCons (wC (.str "gave")) (wCons (wOp gIx (wVar 2) (wVar 0)) wNil))) wNil)))) (wAsg 4 (wLst (wCons (wCall 2 sp_due (wCons (wC (.str "NoHand")) (wCons (wTup (wCons (wVar 0) wNil)) wNil))) (wCons (wCall 2 sp_due (wCons (wC (.str "NoHand")) (wCons (wTup (wCons (wVar 0) wNil)) wNil))) wNil)))))
  (wSeq (wAsg 5 (wLst (wCons (wCall 1 sp_told_other (wCons (wVar 0) wNil)) (wCons (wCall 1 sp_told_sign (wCons (wVar 0) wNil)) (wCons (wCall 1 sp_m_hand_of (wCons (wVar 0) wNil)) (wCons (wCall 1 sp_m_is_name (wCons (wVar 0) wNil)) wNil))))))
  (wRet (wCall 2 (sp_sameN 3) (wCons (wVar 5) (wCons (wOp gAdd (wVar 4) (wLst (wCons (wMt "dict" gGet (wVar 3) (wCons (wVar 0) wNil)) (wCons (wCall 1 sp_named (wCons (wVar 0) wNil)) wNil)))) wNil))))))
def w_text_good  : WS := (wSeq (wAsg 1 (wDict [((wC (.str "dark")), (wC (.str "light"))), ((wC (.str "light")), (wC (.str "dark")))]))
  (wSeq (wAsg 2 (wDict [((wC (.str "dark")), (wC (.str "d"))), ((wC (.str "light")), (wC (.str "l")))]))
  (wSeq (wAsg 3 (wDict [((wC (.str "d")), (wC (.str "dark"))), ((wC (.str "l")), (wC (.str "light")))]))
  w_text_good_p0)))
theorem look2 (k1 k2 x : Str) (d1 d2 : D) : look [(.inr k1, d1), (.inr k2, d2)] (.inr x) = if x = k1 then some d1 else if x = k2 then some d2 else none := by
  unfold look
  rw [List.find?_cons, List.find?_cons]
  by_cases h1 : x = k1
  · subst h1
    rw [if_pos rfl, decide_eq_true rfl]
    rfl
  · rw [if_neg h1, decide_eq_false (fun z => h1 (Sum.inr.inj z).symm)]
    by_cases h2 : x = k2
    · subst h2
      rw [if_pos rfl, decide_eq_true rfl]
      rfl
    · rw [if_neg h2, decide_eq_false (fun z => h2 (Sum.inr.inj z).symm)]
      rfl
theorem km2 {k1 k2 : Str} (h : k1 ≠ k2) (d1 d2 : D) : kmerge [] [((.inr k1 : Key), d1), (.inr k2, d2)] = [(.inr k1, d1), (.inr k2, d2)] := by
  have h2 : (Sum.inr k1 : Key) ≠ .inr k2 := fun z => h (Sum.inr.inj z)
  simp [kmerge, kput, h2]
theorem look_o (x : Str) : look [((.inr "dark" : Key), D.str "light"), (.inr "light", D.str "dark")] (.inr x) = (otherS x).map D.str := by
  rw [look2]
  unfold otherS
  split
  · rfl
  · split <;> rfl
theorem look_s (x : Str) : look [((.inr "dark" : Key), D.str "d"), (.inr "light", D.str "l")] (.inr x) = (signS x).map D.str := by
  rw [look2]
  unfold signS
  split
  · rfl
  · split <;> rfl
theorem look_h (x : Str) : (look [((.inr "d" : Key), D.str "dark"), (.inr "l", D.str "light")] (.inr x)).getD .non = handD x := by
  rw [look2]
  unfold handD
  split
  · rfl
  · split <;> rfl
theorem sign_some {x y : Str} (h : otherS x = some y) : ∃ z, signS x = some z := by
  unfold otherS at h
  unfold signS
  split at h
  · rename_i e; rw [if_pos e]; exact ⟨_, rfl⟩
  · rename_i e1
    split at h
    · rename_i e; rw [if_neg e1, if_pos e]; exact ⟨_, rfl⟩
    · cases h
theorem sign_none {x : Str} (h : otherS x = none) : signS x = none := by
  unfold otherS at h
  unfold signS
  split at h
  · cases h
  · rename_i e1
    split at h
    · cases h
    · rename_i e; rw [if_neg e1, if_neg e]
theorem hand_sc (x : Str) : sc4 (handD x) = true := by
  unfold handD
  split
  · rfl
  · split <;> rfl
def sp_text_good : SpD := fun ds μ Q _ => ∃ x : Str, ds = [.str x] ∧ x.length ≤ 20000 ∧ Q (.bl true) μ
theorem pf_text_good : ∀ ds μ Q E, sp_text_good ds μ Q E → w_text_good (endK Q E) (startD N_text_good ds) μ := by
  rintro ds μ Q E ⟨x, rfl, hx, q⟩
  unfold w_text_good
  rotate_left 901
  refine ⟨_, rfl, by decide, ?_⟩
  rotate_left 901
  refine ⟨_, rfl, by decide, ?_⟩
  rotate_left 901
  refine ⟨_, rfl, by decide, ?_⟩
  rotate_left 901
  rw [km2 (by decide +kernel), km2 (by decide +kernel), km2 (by decide +kernel)]
  refine .inr (.inl ⟨_, .inr x, rfl, rfl, ?_⟩)
  rw [look_o]
  cases ho : otherS x with
  | some y =>
    obtain ⟨z, hz⟩ := sign_some ho
    rotate_left 901
    refine .inr (.inl ⟨_, .inr x, .str y, rfl, rfl, by rw [look_o, ho]; rfl, ?_⟩)
    rotate_left 901
    refine .inr (.inl ⟨_, .inr x, .str z, rfl, rfl, by rw [look_s, hz]; rfl, ?_⟩)
    rotate_left 901
    refine ⟨rfl, x, rfl, ?_⟩
    rw [ho]
    rotate_left 901
    refine ⟨rfl, x, rfl, ?_⟩
    rw [hz]
    rotate_left 901
    refine ⟨rfl, x, rfl, ?_⟩
    rotate_left 901
    refine ⟨rfl, x, rfl, hx, ?_⟩
    rotate_left 901
    refine ⟨rfl, ?_⟩
    rotate_left 901
    refine ⟨_, _, .inr x, rfl, rfl, .inl ⟨rfl, ?_⟩⟩
    rw [look_h]
    rotate_left 901
    refine ⟨rfl, x, rfl, hx, ?_⟩
    rotate_left 901
    refine i_addL rfl rfl (show 2 + 2 ≤ 16000000 by decide) ?_
    rotate_left 901
    refine ⟨rfl, _, _, true, rfl, same_rfl ?_, ?_⟩
    · simp [rfx, sc4, gaveD, toldD]
      exact .inl (hand_sc x)
    · rotate_left 901
      exact q
  | none =>
    have hz := sign_none ho
    rotate_left 901
    refine ⟨rfl, _, _, rfl, ?_⟩
    rotate_left 901
    refine ⟨rfl, _, _, rfl, ?_⟩
    rotate_left 901
    refine ⟨rfl, x, rfl, ?_⟩
    rw [ho]
    rotate_left 901
    refine ⟨rfl, x, rfl, ?_⟩
    rw [hz]
    rotate_left 901
    refine ⟨rfl, x, rfl, ?_⟩
    rotate_left 901
    refine ⟨rfl, x, rfl, hx, ?_⟩
    rotate_left 901
    refine ⟨rfl, ?_⟩
    rotate_left 901
    refine ⟨_, _, .inr x, rfl, rfl, .inl ⟨rfl, ?_⟩⟩
    rw [look_h]
    rotate_left 901
    refine ⟨rfl, x, rfl, hx, ?_⟩
    rotate_left 901
    refine i_addL rfl rfl (show 2 + 2 ≤ 16000000 by decide) ?_
    rotate_left 901
    refine ⟨rfl, _, _, true, rfl, same_rfl ?_, ?_⟩
    · simp [rfx, sc4, raisedD, kindsD, toldD]
      exact .inl (hand_sc x)
    · rotate_left 901
      exact q
/-! _law_number_good -/
def N_number_good : List Str := ["_law_word", "_law_thing", "_law_number_here", "_law_low", "_law_high", "_law_due_here"]
def P_number_good : List Str := ["_law_word", "_law_thing", "_law_number_here", "_law_low", "_law_high"]
def w_number_good  : WS := (wSeq (wAsg 5 (wCall 2 sp_due (wCons (wC (.str "BadNumber")) (wCons (wTup (wCons (wVar 0) (wCons (wVar 1) wNil))) wNil))))
  (wSeq (wIfS (wAndT (wTru (wVar 2)) (wAndT (wTB (wOp gLe (wVar 3) (wVar 1))) (wTB (wOp gLe (wVar 1) (wVar 4))))) (wAsg 5 (wTup (wCons (wC (.str "gave")) (wCons (wVar 1) wNil)))) wNext)
  (wRet (wCall 2 (sp_sameN 3) (wCons (wLst (wCons (wCall 1 sp_m_is_number (wCons (wVar 1) wNil)) (wCons (wCall 4 sp_told_check (wCons (wVar 0) (wCons (wVar 1) (wCons (wVar 3) (wCons (wVar 4) wNil))))) wNil))) (wCons (wLst (wCons (wVar 2) (wCons (wVar 5) wNil))) wNil))))))
theorem thing_sc {d : D} (h : Thing d) : sc4 d = true := by
  rcases h with ⟨i, rfl, _⟩ | ⟨b, rfl⟩ | rfl | ⟨y, rfl, _⟩
  all_goals rfl
def sp_number_good : SpD := fun ds μ Q _ => ∃ (w : Str) (d : D) (lo hi : Int), ds = [.str w, d, .bl (isI d), .int lo, .int hi] ∧ Thing d ∧ Q (.bl true) μ
theorem pf_number_good : ∀ ds μ Q E, sp_number_good ds μ Q E → w_number_good (endK Q E) (startD N_number_good ds) μ := by
  rintro ds μ Q E ⟨w, d, lo, hi, rfl, h, q⟩
  have hsc := thing_sc h
  unfold w_number_good
  rotate_left 901
  refine ⟨rfl, _, _, rfl, ?_⟩
  have fin : ∀ (r : D) (k : KS), toldN w d lo hi = r → rfx 2 r = true → sameM μ 3 (.lst [.bl (isI d), toldN w d lo hi]) (.lst [.bl (isI d), r]) = some true := fun r k e hr => by
    rw [e]
    refine same_rfl ?_
    show (_ || (_ && ((rfx 2 (.bl (isI d)) && (rfx 2 r && true))))) = true
    rw [hr]
    rfl
  have h2 : rfx 2 (raisedD (.tup [.str w, d]) "BadNumber") = true := by
    show (_ || (_ && (_ && ((sc4 (.tup [.str w, d]) || (_ && (_ && (sc4 d && true)))) && _)))) = true
    rw [hsc]
    rfl
  have h1 : rfx 2 (gaveD d) = true := by
    show (_ || (_ && (_ && ((sc4 d || _) && true)))) = true
    rw [hsc]
    rfl
  have no : (∀ i : Int, d ≠ .int i) → toldN w d lo hi = raisedD (.tup [.str w, d]) "BadNumber" := fun hn => if_neg (by
    cases d with
    | int i => exact absurd rfl (hn i)
    | _ => exact fun z => Bool.false_ne_true z)
  have hT := h
  rcases h with ⟨i, rfl, _⟩ | ⟨b, rfl⟩ | rfl | ⟨y, rfl, _⟩
  all_goals rotate_left 901
  all_goals
    (refine ⟨rfl, _, rfl, hT, ?_⟩
     rotate_left 901
     refine ⟨rfl, w, _, lo, hi, rfl, hT, ?_⟩
     rotate_left 901
     refine ⟨rfl, _, _, true, rfl, fin _ (endK Q E) ?_ (by assumption), ?_⟩
     first
       | (refine if_neg fun z => ?_; (have := of_decide_eq_true z); omega)
       | (refine if_pos (decide_eq_true ?_); omega)
       | (refine no fun i z => ?_; cases z)
     rotate_left 901
     exact q)
/-! _law_constants -/
def N_constants : List Str := ["_law_texts", "_law_most"]
def P_constants : List Str := []
abbrev w_constants_p0 : WS := (wSeq (wAsg 1 (wLst (wCons (wC (.int 20)) (wCons (wC (.int 60)) (wCons (wC (.int 60)) (wCons (wC (.int 60)) (wCons (wC (.int 12)) (wCons (wC (.int 400)) (wCons (wC (.int 400)) (wCons (wC (.int 150)) (wCons (wC (.int 60)) wNil)))))))))))
  (wRet (wAnd (wVar 0) (wCall 2 (sp_sameN 3) (wCons (wVar 1) (wCons (wLst (wCons (wC (.int 20)) (wCons (wC (.int 60)) (wCons (wC (.int 60)) (wCons (wC (.int 60)) (wCons (wC (.int 12)) (wCons (wC (.int 400)) (wCons (wC (.int 400)) (wCons (wC (.int 150)) (wCons (wC (.int 60)) wNil)))))))))) wNil))))))
def w_constants  : WS := (wSeq (wAsg 0 (wCall 2 (sp_sameN 3) (wCons (wLst (wCons (wC (.str "dark")) (wCons (wC (.str "light")) (wCons (wC (.ctp [D.str "dark", D.str "light"])) (wCons (wC (.str "-")) (wCons (wC (.str ".")) wNil)))))) (wCons (wLst (wCons (wC (.str "dark")) (wCons (wC (.str "light")) (wCons (wTup (wCons (wC (.str "dark")) (wCons (wC (.str "light")) wNil))) (wCons (wC (.str "-")) (wCons (wC (.str ".")) wNil)))))) wNil))))
  w_constants_p0)
def sp_constants : SpD := fun ds μ Q _ => ds = [] ∧ Q (.bl true) μ
theorem pf_constants : ∀ ds μ Q E, sp_constants ds μ Q E → w_constants (endK Q E) (startD N_constants ds) μ := by
  rintro ds μ Q E ⟨rfl, q⟩
  unfold w_constants
  rotate_left 901
  refine ⟨rfl, _, _, true, rfl, ?_, ?_⟩
  · kernel_rfl
  · rotate_left 901
    refine ⟨rfl, _, _, true, rfl, same_rfl rfl, ?_⟩
    rotate_left 901
    exact q
end K00


set_option maxRecDepth 100000
set_option maxHeartbeats 4000000
namespace K00
open PySem PySem.Spec PyProof.Rows L2 T2
def Wd20 (d : D) : Prop := ∃ x : Str, d = .str x ∧ x.length ≤ 20000
/-- one asked number: a text, a thing, is it a number, two bounds -/
def Ask (d : D) : Prop := ∃ (w : Str) (t : D) (lo hi : Int), d = .lst [.str w, t, .bl (isI t), .int lo, .int hi] ∧ Thing t
theorem i_any {a : Addr} {o : MO} {b : Int} {μ : Mu} {Q : PQ} {E : PX} (hμ : μ a = some o) (ho : StO b o) (hb : b < 100000000000000) (q : ToTx a b 100 20000 μ Q) : [D.raw a].length = 1 ∧ sp_any_text [.raw a] μ Q E := ⟨rfl, a, o, b, rfl, hμ, ho, hb, q⟩
/-! law -/
def N_law : List Str := ["_law_script", "_law_store_here", "_law_words", "_law_k", "_law_asks", "_law_low", "_law_high", "_law_near_here", "_law_word", "_law_ask"]
def P_law : List Str := ["_law_script"]
abbrev w_law_p0 : WS := (wSeq (wFor (wRng1 (wC (.int 2))) (wgName 3) (wSeq (wFor (wIt (wVar 2)) (wgName 8) (wIfS (wNotT (wTru (wCall 1 sp_text_good (wCons (wVar 8) wNil)))) (wRet (wC (.bl false))) wNext))
    (wFor (wIt (wVar 4)) (wgName 9) (wIfS (wNotT (wTru (wCall 5 sp_number_good (wCons (wOp gIx (wVar 9) (wC (.int 0))) (wCons (wOp gIx (wVar 9) (wC (.int 1))) (wCons (wOp gIx (wVar 9) (wC (.int 2))) (wCons (wOp gIx (wVar 9) (wC (.int 3))) (wCons (wOp gIx (wVar 9) (wC (.int 4))) wNil)))))))) (wRet (wC (.bl false))) wNext))))
  (wRet (wCall 0 sp_constants wNil)))
abbrev w_law_p1 : WS := (wSeq (wIfS (wTB (wOp gGt (wVar 3) (wC (.int 5)))) (wSeq (wAsg 5 (wCall 3 sp_number (wCons (wVar 1) (wCons (wOp gSub (wC (.int 1)) (wOp gPow (wC (.int 10)) (wC (.int 20)))) (wCons (wOp gSub (wOp gPow (wC (.int 10)) (wC (.int 20))) (wC (.int 1))) wNil)))))
      (wAsg 6 (wCall 3 sp_number (wCons (wVar 1) (wCons (wOp gSub (wC (.int 1)) (wOp gPow (wC (.int 10)) (wC (.int 20)))) (wCons (wOp gSub (wOp gPow (wC (.int 10)) (wC (.int 20))) (wC (.int 1))) wNil)))))) wNext)
    (wSeq (wAsg 7 (wCall 3 sp_near (wCons (wVar 1) (wCons (wVar 5) (wCons (wVar 6) wNil)))))
    (wDrop (wMt "list" gAppend (wVar 4) (wCons (wLst (wCons (wCall 2 sp_pickB (wCons (wVar 1) (wCons (wVar 2) wNil))) (wCons (wOp gIx (wVar 7) (wC (.int 0))) (wCons (wOp gIx (wVar 7) (wC (.int 1))) (wCons (wVar 5) (wCons (wVar 6) wNil)))))) wNil)))))
abbrev w_law_p2 : WS := (wSeq (wAsg 2 (wOp gAdd (wLc (wRng1 (wC (.int 6))) (wgName 3) wYes (wCall 1 sp_any_text (wCons (wVar 1) wNil))) (wLst (wCons (wC (.str "dark")) (wCons (wC (.str "light")) (wCons (wC (.str "d")) (wCons (wC (.str "l")) wNil)))))))
  (wSeq (wAsg 2 (wCall 2 sp_shuffled (wCons (wVar 1) (wCons (wVar 2) wNil))))
  (wSeq (wAsg 4 (wLstM wNil))
  (wSeq (wFor (wRng1 (wC (.int 9))) (wgName 3) (wSeq (wAsg 5 (wOp gSub (wCall 3 sp_number (wCons (wVar 1) (wCons (wC (.int 0)) (wCons (wC (.int 12)) wNil)))) (wC (.int 4))))
    (wSeq (wAsg 6 (wOp gSub (wOp gAdd (wVar 5) (wCall 3 sp_number (wCons (wVar 1) (wCons (wC (.int 0)) (wCons (wC (.int 9)) wNil))))) (wC (.int 2))))
    w_law_p1)))
  w_law_p0))))
def w_law  : WS := (wSeq (wAsg 1 (wCall 1 sp_store (wCons (wVar 0) wNil)))
  w_law_p2)
def sp_law : SpD := fun ds μ Q _ => ∃ ns : List Int, ds = [.scr (ns.map D.int)] ∧ (∀ z ∈ ns, Bd BB z) ∧ ns.length < sizeLine ∧ ∀ μ', Q (.bl true) μ'
theorem pf_law : ∀ ds μ Q E, sp_law ds μ Q E → w_law (endK Q E) (startD N_law ds) μ := by
  rintro ds μ Q E ⟨ns, rfl, hb, hl, q⟩
  unfold w_law
  rotate_left 901
  refine ⟨rfl, ns, rfl, hb, hl, fun a o ha ho => ?_⟩
  rotate_left 901
  refine ⟨6, rfl, by decide, by decide, ?_⟩
  refine lcLoop_inv (fun rem acc μ' => ∃ (i : Nat) (o2 : MO), i ≤ 6 ∧ rem = (rngD 0 6).drop i ∧ acc.length = i ∧ (∀ d ∈ acc, Wd20 d) ∧ StO (1 + 100 * i) o2 ∧ μ' = mset μ a o2) (fun _ _ _ _ => trivial) ?_ ?_ _ _ _ ⟨0, o, by decide, rfl, rfl, fun _ h => by (cases h), ho.mono (by omega), rfl⟩
  · rintro acc μ' ⟨i, o2, hi, e, hla, hacc, ho2, rfl⟩
    have hi6 := rng_nil e
    rotate_left 901
    refine i_addL rfl rfl (by rw [hla]; show i + 4 ≤ _; omega) ?_
    rotate_left 901
    have hw : ∀ d ∈ acc ++ [D.str "dark", .str "light", .str "d", .str "l"], Wd20 d := fun d hd => by
      rcases List.mem_append.mp hd with hd | hd
      · exact hacc d hd
      · simp only [List.mem_cons, List.not_mem_nil, or_false] at hd
        rcases hd with rfl | rfl | rfl | rfl
        all_goals exact ⟨_, rfl, by decide +kernel⟩
    have hwl : (acc ++ [D.str "dark", .str "light", .str "d", .str "l"]).length = 10 := by rw [List.length_append, hla]; show i + 4 = 10; omega
    refine ⟨rfl, a, _, _, _, rfl, mset_same, ho2, by omega, by omega, fun ws o3 hws mws ho3 => ?_⟩
    rw [mset_mset]
    have ww : ∀ d ∈ ws, Wd20 d := fun d hd => hw d (mws d hd)
    rw [hwl] at hws ho3
    rotate_left 901
    intro f hf
    have hfa : f ≠ a := fun z => by rw [z, mset_same] at hf; cases hf
    have sw : ∀ (o2 o3 : MO) (m : MO), mset (mset (mset μ a o2) f m) a o3 = mset (mset μ a o3) f m := fun o2 o3 m => by
      funext c
      unfold mset
      by_cases h1 : c = a
      · subst h1; rw [if_pos rfl, if_neg (Ne.symm hfa), if_pos rfl]
      · rw [if_neg h1]
        by_cases h2 : c = f
        · rw [if_pos h2, if_pos h2]
        · rw [if_neg h2, if_neg h2, if_neg h1, if_neg h1]
    have sa : ∀ (o2 : MO) (m : MO), mset (mset μ a o2) f m a = some o2 := fun o2 m => by rw [mset_ne (Ne.symm hfa)]; exact mset_same
    rotate_left 901
    refine ⟨9, rfl, by decide, by decide, ?_⟩
    refine forLoop_inv (fun rem ρ μ' => ∃ (i : Nat) (as : List D) (o4 : MO) (x3 x5 x6 x7 : Option D), i ≤ 9 ∧ rem = (rngD 0 9).drop i ∧ as.length = i ∧ (∀ d ∈ as, Ask d) ∧ StO (700 + 20 * i) o4 ∧ μ' = mset (mset μ a o4) f (.lst as) ∧
      ρ = [some (.scr (ns.map D.int)), some (.raw a), some (.lst ws), x3, some (.raw f), x5, x6, x7, none, none]) (fun _ _ _ _ => trivial) ?_ ?_ _ _ _ ⟨0, [], o3, none, none, none, none, by decide, rfl, rfl, fun _ h => by (cases h), ho3.mono (by omega), rfl, rfl⟩
    · rintro ρ μ' ⟨i, as, o4, x3, x5, x6, x7, hi9, e, hla, hask, ho4, rfl, rfl⟩
      rotate_left 901
      refine ⟨2, rfl, by decide, by decide, ?_⟩
      refine forLoop_inv (fun rem ρ μ' => ∃ (x3 x8 x9 : Option D), μ' = mset (mset μ a o4) f (.lst as) ∧ ρ = [some (.scr (ns.map D.int)), some (.raw a), some (.lst ws), x3, some (.raw f), x5, x6, x7, x8, x9]) (fun _ _ _ _ => trivial) ?_ ?_ _ _ _ ⟨_, _, _, rfl, rfl⟩
      · rintro ρ μ' ⟨x3, x8, x9, rfl, rfl⟩
        rotate_left 901
        refine ⟨rfl, rfl, ?_⟩
        rotate_left 901
        exact q _
      · rintro d ds ρ μ' ⟨x3, x8, x9, rfl, rfl⟩ nx hnx
        rotate_left 901
        refine .inl ⟨ws, rfl, ?_⟩
        refine forLoop_inv (fun rem ρ μ' => (∀ d ∈ rem, Wd20 d) ∧ ∃ (x8 : Option D), μ' = mset (mset μ a o4) f (.lst as) ∧ ρ = [some (.scr (ns.map D.int)), some (.raw a), some (.lst ws), some d, some (.raw f), x5, x6, x7, x8, x9]) (fun _ _ _ _ => rfl) ?_ ?_ _ _ _ ⟨ww, _, rfl, rfl⟩
        · rintro ρ μ' ⟨_, x8, rfl, rfl⟩
          rotate_left 901
          refine .inl ⟨as, getS_raw mset_same, ?_⟩
          refine forLoop_inv (fun rem ρ μ' => (∀ d ∈ rem, Ask d) ∧ ∃ (x9 : Option D), μ' = mset (mset μ a o4) f (.lst as) ∧ ρ = [some (.scr (ns.map D.int)), some (.raw a), some (.lst ws), some d, some (.raw f), x5, x6, x7, x8, x9]) (fun _ _ _ h => by
            obtain ⟨_, _, rfl, _⟩ := h
            exact getS_raw mset_same) ?_ ?_ _ _ _ ⟨hask, _, rfl, rfl⟩
          · rintro ρ μ' ⟨_, x9, rfl, rfl⟩
            exact hnx _ _ ⟨_, _, _, rfl, rfl⟩
          · rintro d2 ds2 ρ μ' ⟨hd, x9, rfl, rfl⟩ nx2 hnx2
            obtain ⟨w, t, lo, hi, rfl, ht⟩ := hd _ List.mem_cons_self
            rotate_left 901
            refine ⟨rfl, w, t, lo, hi, rfl, ht, ?_⟩
            rotate_left 901
            exact hnx2 _ _ ⟨fun z hz => hd z (List.mem_cons_of_mem _ hz), _, rfl, rfl⟩
        · rintro d2 ds2 ρ μ' ⟨hd, x8, rfl, rfl⟩ nx2 hnx2
          obtain ⟨w, rfl, hw20⟩ := hd _ List.mem_cons_self
          rotate_left 901
          refine ⟨rfl, w, rfl, hw20, ?_⟩
          rotate_left 901
          exact hnx2 _ _ ⟨fun z hz => hd z (List.mem_cons_of_mem _ hz), _, rfl, rfl⟩
    · rintro d ds ρ μ' ⟨i, as, o4, x3, x5, x6, x7, hi9, e, hla, hask, ho4, rfl, rfl⟩ nx hnx
      obtain ⟨hi2, e1, e2⟩ := rng_cons e
      subst e1 e2
      rotate_left 901
      refine i_number (sa _ _) ho4 (by omega) (by omega) (by omega) fun l1 o5 l10 l11 ho5 => ?_
      rw [sw]
      rotate_left 901
      refine i_number (sa _ _) ho5 (by omega) (by omega) (by omega) fun l2 o6 l20 l21 ho6 => ?_
      rw [sw]
      rotate_left 901
      · rw [p10_20]
        refine i_number (sa _ _) ho6 (by omega) (by omega) (by omega) fun l3 o7 l30 l31 ho7 => ?_
        rw [sw]
        rotate_left 901
        rw [p10_20]
        refine i_number (sa _ _) ho7 (by omega) (by omega) (by omega) fun l4 o8 l40 l41 ho8 => ?_
        rw [sw]
        rotate_left 901
        refine ⟨rfl, a, _, _, _, _, rfl, sa _ _, ho8, by omega, by omega, by omega, by omega, by omega, fun t o9 ht ho9 => ?_⟩
        rw [sw]
        rotate_left 901
        refine ⟨tymL mset_same, ?_⟩
        rotate_left 901
        refine i_pickL (sa _ _) ho9 (by omega) (by omega) (fun z => by rw [z] at hws; cases hws) fun w hw o10 ho10 => ?_
        rw [sw]
        obtain ⟨x, rfl, hx⟩ := ww _ hw
        rotate_left 901
        refine i_app mset_same (by rw [sizeLine_eq]; omega) ?_
        rotate_left 901
        rw [mset_mset]
        refine hnx _ _ ⟨i + 1, _, o10, _, _, _, _, by omega, rfl, by rw [List.length_append, hla]; rfl, fun z hz => ?_, ho10.mono (by omega), rfl, rfl⟩
        rcases List.mem_append.mp hz with hz | hz
        · exact hask z hz
        · rw [List.mem_singleton.mp hz]
          exact ⟨x, t, _, _, rfl, ht⟩
      · refine ⟨rfl, a, _, _, _, _, rfl, sa _ _, ho6, by omega, by omega, by omega, by omega, by omega, fun t o9 ht ho9 => ?_⟩
        rw [sw]
        rotate_left 901
        refine ⟨tymL mset_same, ?_⟩
        rotate_left 901
        refine i_pickL (sa _ _) ho9 (by omega) (by omega) (fun z => by rw [z] at hws; cases hws) fun w hw o10 ho10 => ?_
        rw [sw]
        obtain ⟨x, rfl, hx⟩ := ww _ hw
        rotate_left 901
        refine i_app mset_same (by rw [sizeLine_eq]; omega) ?_
        rotate_left 901
        rw [mset_mset]
        refine hnx _ _ ⟨i + 1, _, o10, _, _, _, _, by omega, rfl, by rw [List.length_append, hla]; rfl, fun z hz => ?_, ho10.mono (by omega), rfl, rfl⟩
        rcases List.mem_append.mp hz with hz | hz
        · exact hask z hz
        · rw [List.mem_singleton.mp hz]
          exact ⟨x, t, _, _, rfl, ht⟩
  · rintro d ds acc μ' ⟨i, o2, hi, e, hla, hacc, ho2, rfl⟩ Z hZ
    obtain ⟨hi2, e1, e2⟩ := rng_cons e
    subst e1 e2
    rotate_left 901
    refine i_any mset_same ho2 (by omega) fun x o3 hx ho3 => ?_
    rw [mset_mset]
    rotate_left 901
    refine ⟨by rw [sizeLine_eq]; omega, hZ _ _ ⟨i + 1, o3, hi2, rfl, by rw [List.length_append, hla]; rfl, fun d hd => ?_, ho3.mono (by omega), rfl⟩⟩
    rcases List.mem_append.mp hd with hd | hd
    · exact hacc d hd
    · rw [List.mem_singleton.mp hd]
      exact ⟨x, rfl, hx⟩
end K00


set_option maxRecDepth 100000
set_option maxHeartbeats 4000000
namespace K00
open PySem PySem.Spec PyProof.Rows L2 T2  K00Y
def consts : List (Str × D) := [("LIGHT", (.str "light")), ("DARK", (.str "dark")), ("LONGEST_NAME", (.int 6)), ("MOST_ROWS", (.int 60)), ("MOST_SETS", (.int 150)), ("MOST_BOARDS", (.int 400)), ("MOST_BUDGET", (.int 400)), ("MOST_DEPTH", (.int 12)), ("MOST_NODES", (.int 60)), ("MOST_DEEDS", (.int 60)), ("MOST_TIES", (.int 60)), ("MOST_PLACES", (.int 20)), ("FREE", (.str ".")), ("PASS", (.str "-")), ("HANDS", (.ctp [D.str "dark", D.str "light"]))]
def raises : List (Str × List Str) := [("NoHand", ["hand"]), ("BadNumber", ["what", "value"])]
def subs : List (Str × (Str → Bool)) := [("BadRow", isX_BadRow), ("NothingDone", isX_NothingDone), ("BadDeed", isX_BadDeed), ("ComesBack", isX_ComesBack), ("SelfTaking", isX_SelfTaking), ("Occupied", isX_Occupied), ("GameOver", isX_GameOver), ("Falls", isX_Falls), ("Stands", isX_Stands), ("NoStone", isX_NoStone), ("NotRight", isX_NotRight), ("BadMap", isX_BadMap), ("BadTree", isX_BadTree), ("BadText", isX_BadText), ("BadSigns", isX_BadSigns), ("Repeated", isX_Repeated), ("SelfTie", isX_SelfTie), ("NoPlace", isX_NoPlace), ("NoEntry", isX_NoEntry), ("TooMany", isX_TooMany), ("BadName", isX_BadName), ("NoHand", isX_NoHand), ("BadNumber", isX_BadNumber), ("TworoomsError", isX_TworoomsError), ("ValueError", isX_ValueError)]
def flds : List Str := ["hand", "value", "what"]
def GG (fs : List FunE) (ms : List MetE := []) (ps : List PrpE := []) (ks : List MakE := []) (hs : List (Str × SpX) := []) : Gam := ⟨fs, consts, raises, subs, flds, ms, ps, ks, ofl, hs⟩
def GX (fs : List FunE) (ms : List MetE := []) (ps : List PrpE := []) (ks : List MakE := []) (hs : List (Str × SpX) := []) : Gam := ⟨fs, consts, raises, subs, [], ms, ps, ks, ofl, hs⟩
abbrev PG : Program := PySem.Challenge.pw_tworooms_k00_names_hands_and_numbers
structure Fk (w : World) (K : PySem.W.Frag) (mg : Str → Option Value) (base : Heap) : Prop where
  c : He.SaysD fa fn K
  glo : ∀ x, He.Fa.glo x ∈ fa → mg x = some (.ref (He.ga K x))
  b : Bs PG w K mg base (xct K cs os) consts raises subs flds ofl
theorem Fk.no {w : World} {K : PySem.W.Frag} {mg : Str → Option Value} {base : Heap} {k n : Nat} {ks : List Str} (B : Fk w K mg base) {d : He.DefD} {x : Str} (i : Nat) (h : fn[i]? = some d) (hx : He.Fa.glo x ∈ fa) (e : He.fAd K d.at_ = He.ga K x := by rfl) : FnAt PG w K mg base (xct K cs os) k x n ks sp_no := by
  obtain ⟨fd, F⟩ := B.c.def_ i h
  exact FnAt.no (B.glo x hx) (by rw [← e]; exact F.kp)
section
variable {w : World} {K : PySem.W.Frag} {mg : Str → Option Value} {base : Heap}
abbrev s_mixed : Stmt := (top 51)
theorem tr_mixed : trSN (GG [] [] [] [] []) N_mixed (defScope s_mixed) [] false 30 60 none (defBody s_mixed) = some w_mixed := by kernel_rfl
theorem sc_mixed : FnScope N_mixed P_mixed (defScope s_mixed) := ⟨rfl, rfl, rfl, by decide +kernel, rfl, by decide +kernel, by decide +kernel⟩
theorem ln_mixed : ∀ ds μ Q E, sp_mixed ds μ Q E → ds.length = P_mixed.length := by
  intro ds μ Q E h
  unfold sp_mixed at h
  repeat (first | (obtain ⟨rfl, _⟩ := h; rfl; done) | (obtain ⟨_, h⟩ := h))
theorem ok_mixed (B : Fk w K mg base) {f : Addr} {fd : FuncData} (F : FunD K d_mixed.name d_mixed.qual d_mixed.params d_mixed.body d_mixed.scope (d_mixed.dvs K) (d_mixed.kws K) f fd) : FnOk PG w K mg base (L2N.CX PG w) 3 f fd P_mixed (liftSp K (xct K cs os) sp_mixed) :=
  fnOk F sc_mixed (B.b.gam (k := 2) (fs := []) (ms := []) (ps := []) (ks := []) (hs := []) (by decide) AllF.nil all0 all0 all0 all0) tr_mixed ln_mixed pf_mixed
theorem at_mixed (B : Fk w K mg base) : FnAt PG w K mg base (xct K cs os) 3 "_law_mixed" 3 [] sp_mixed := by
  obtain ⟨fd, F⟩ := B.c.def_ 0 (d := d_mixed) rfl
  exact FnAt.of (B.glo "_law_mixed" (by simp [fa])) F.kp (FunD.bindsN (ps := P_mixed) F fun _ _ _ _ _ _ us hl => match us, hl with | [_, _, _], _ => rfl) (ok_mixed B F)
abbrev s_take : Stmt := (top 52)
theorem tr_take : trSN (GG [⟨"_law_mixed", 3, [], false, sp_mixed⟩] [] [] [] []) N_take (defScope s_take) [] false 30 60 none (defBody s_take) = some w_take := by kernel_rfl
theorem sc_take : FnScope N_take P_take (defScope s_take) := ⟨rfl, rfl, rfl, by decide +kernel, rfl, by decide +kernel, by decide +kernel⟩
theorem ln_take : ∀ ds μ Q E, sp_take ds μ Q E → ds.length = P_take.length := by
  intro ds μ Q E h
  unfold sp_take at h
  repeat (first | (obtain ⟨rfl, _⟩ := h; rfl; done) | (obtain ⟨_, h⟩ := h))
theorem ok_take (B : Fk w K mg base) {f : Addr} {fd : FuncData} (F : FunD K d_take.name d_take.qual d_take.params d_take.body d_take.scope (d_take.dvs K) (d_take.kws K) f fd) : FnOk PG w K mg base (L2N.CX PG w) 4 f fd P_take (liftSp K (xct K cs os) sp_take) :=
  fnOk F sc_take (B.b.gam (k := 3) (fs := [⟨"_law_mixed", 3, [], false, sp_mixed⟩]) (ms := []) (ps := []) (ks := []) (hs := []) (by decide) (AllF.cons ((at_mixed B).mono (by decide)) AllF.nil) all0 all0 all0 all0) tr_take ln_take pf_take
theorem at_take (B : Fk w K mg base) : FnAt PG w K mg base (xct K cs os) 4 "_law_take" 2 [] sp_take := by
  obtain ⟨fd, F⟩ := B.c.def_ 1 (d := d_take) rfl
  exact FnAt.of (B.glo "_law_take" (by simp [fa])) F.kp (FunD.bindsN (ps := P_take) F fun _ _ _ _ _ _ us hl => match us, hl with | [_, _], _ => rfl) (ok_take B F)
abbrev s_pickB : Stmt := (top 53)
theorem tr_pickB : trSN (GG [⟨"_law_take", 2, [], false, sp_take⟩] [] [] [] []) N_pickB (defScope s_pickB) [] false 30 60 none (defBody s_pickB) = some w_pickB := by kernel_rfl
theorem sc_pickB : FnScope N_pickB P_pickB (defScope s_pickB) := ⟨rfl, rfl, rfl, by decide +kernel, rfl, by decide +kernel, by decide +kernel⟩
theorem ln_pickB : ∀ ds μ Q E, sp_pickB ds μ Q E → ds.length = P_pickB.length := by
  intro ds μ Q E h
  unfold sp_pickB at h
  repeat (first | (obtain ⟨rfl, _⟩ := h; rfl; done) | (obtain ⟨_, h⟩ := h))
theorem ok_pickB (B : Fk w K mg base) {f : Addr} {fd : FuncData} (F : FunD K d_pick.name d_pick.qual d_pick.params d_pick.body d_pick.scope (d_pick.dvs K) (d_pick.kws K) f fd) : FnOk PG w K mg base (L2N.CX PG w) 5 f fd P_pickB (liftSp K (xct K cs os) sp_pickB) :=
  fnOk F sc_pickB (B.b.gam (k := 4) (fs := [⟨"_law_take", 2, [], false, sp_take⟩]) (ms := []) (ps := []) (ks := []) (hs := []) (by decide) (AllF.cons ((at_take B).mono (by decide)) AllF.nil) all0 all0 all0 all0) tr_pickB ln_pickB pf_pickB
theorem at_pickB (B : Fk w K mg base) : FnAt PG w K mg base (xct K cs os) 5 "_law_pick" 2 [] sp_pickB := by
  obtain ⟨fd, F⟩ := B.c.def_ 2 (d := d_pick) rfl
  exact FnAt.of (B.glo "_law_pick" (by simp [fa])) F.kp (FunD.bindsN (ps := P_pickB) F fun _ _ _ _ _ _ us hl => match us, hl with | [_, _], _ => rfl) (ok_pickB B F)
abbrev s_chance : Stmt := (top 54)
theorem tr_chance : trSN (GG [⟨"_law_take", 2, [], false, sp_take⟩] [] [] [] []) N_chance (defScope s_chance) [] false 30 60 none (defBody s_chance) = some w_chance := by kernel_rfl
theorem sc_chance : FnScope N_chance P_chance (defScope s_chance) := ⟨rfl, rfl, rfl, by decide +kernel, rfl, by decide +kernel, by decide +kernel⟩
theorem ln_chance : ∀ ds μ Q E, sp_chance ds μ Q E → ds.length = P_chance.length := by
  intro ds μ Q E h
  unfold sp_chance at h
  repeat (first | (obtain ⟨rfl, _⟩ := h; rfl; done) | (obtain ⟨_, h⟩ := h))
theorem ok_chance (B : Fk w K mg base) {f : Addr} {fd : FuncData} (F : FunD K d_chance.name d_chance.qual d_chance.params d_chance.body d_chance.scope (d_chance.dvs K) (d_chance.kws K) f fd) : FnOk PG w K mg base (L2N.CX PG w) 5 f fd P_chance (liftSp K (xct K cs os) sp_chance) :=
  fnOk F sc_chance (B.b.gam (k := 4) (fs := [⟨"_law_take", 2, [], false, sp_take⟩]) (ms := []) (ps := []) (ks := []) (hs := []) (by decide) (AllF.cons ((at_take B).mono (by decide)) AllF.nil) all0 all0 all0 all0) tr_chance ln_chance pf_chance
theorem at_chance (B : Fk w K mg base) : FnAt PG w K mg base (xct K cs os) 5 "_law_chance" 2 [] sp_chance := by
  obtain ⟨fd, F⟩ := B.c.def_ 3 (d := d_chance) rfl
  exact FnAt.of (B.glo "_law_chance" (by simp [fa])) F.kp (FunD.bindsN (ps := P_chance) F fun _ _ _ _ _ _ us hl => match us, hl with | [_, _], _ => rfl) (ok_chance B F)
abbrev s_number : Stmt := (top 55)
theorem tr_number : trSN (GG [⟨"_law_take", 2, [], false, sp_take⟩, ⟨"_law_chance", 2, [], false, sp_chance⟩] [] [] [] []) N_number (defScope s_number) [] false 30 60 none (defBody s_number) = some w_number := by kernel_rfl
theorem sc_number : FnScope N_number P_number (defScope s_number) := ⟨rfl, rfl, rfl, by decide +kernel, rfl, by decide +kernel, by decide +kernel⟩
theorem ln_number : ∀ ds μ Q E, sp_number ds μ Q E → ds.length = P_number.length := by
  intro ds μ Q E h
  unfold sp_number at h
  repeat (first | (obtain ⟨rfl, _⟩ := h; rfl; done) | (obtain ⟨_, h⟩ := h))
theorem ok_number (B : Fk w K mg base) {f : Addr} {fd : FuncData} (F : FunD K d_number.name d_number.qual d_number.params d_number.body d_number.scope (d_number.dvs K) (d_number.kws K) f fd) : FnOk PG w K mg base (L2N.CX PG w) 6 f fd P_number (liftSp K (xct K cs os) sp_number) :=
  fnOk F sc_number (B.b.gam (k := 5) (fs := [⟨"_law_take", 2, [], false, sp_take⟩, ⟨"_law_chance", 2, [], false, sp_chance⟩]) (ms := []) (ps := []) (ks := []) (hs := []) (by decide) (AllF.cons ((at_take B).mono (by decide)) (AllF.cons ((at_chance B).mono (by decide)) AllF.nil)) all0 all0 all0 all0) tr_number ln_number pf_number
theorem at_number (B : Fk w K mg base) : FnAt PG w K mg base (xct K cs os) 6 "_law_number" 3 [] sp_number := by
  obtain ⟨fd, F⟩ := B.c.def_ 4 (d := d_number) rfl
  exact FnAt.of (B.glo "_law_number" (by simp [fa])) F.kp (FunD.bindsN (ps := P_number) F fun _ _ _ _ _ _ us hl => match us, hl with | [_, _, _], _ => rfl) (ok_number B F)
abbrev s_size : Stmt := (top 56)
theorem tr_size : trSN (GG [⟨"_law_take", 2, [], false, sp_take⟩] [] [] [] []) N_size (defScope s_size) [] false 30 60 none (defBody s_size) = some w_size := by kernel_rfl
theorem sc_size : FnScope N_size P_size (defScope s_size) := ⟨rfl, rfl, rfl, by decide +kernel, rfl, by decide +kernel, by decide +kernel⟩
theorem ln_size : ∀ ds μ Q E, sp_size ds μ Q E → ds.length = P_size.length := by
  intro ds μ Q E h
  unfold sp_size at h
  repeat (first | (obtain ⟨rfl, _⟩ := h; rfl; done) | (obtain ⟨_, h⟩ := h))
theorem ok_size (B : Fk w K mg base) {f : Addr} {fd : FuncData} (F : FunD K d_size.name d_size.qual d_size.params d_size.body d_size.scope (d_size.dvs K) (d_size.kws K) f fd) : FnOk PG w K mg base (L2N.CX PG w) 5 f fd P_size (liftSp K (xct K cs os) sp_size) :=
  fnOk F sc_size (B.b.gam (k := 4) (fs := [⟨"_law_take", 2, [], false, sp_take⟩]) (ms := []) (ps := []) (ks := []) (hs := []) (by decide) (AllF.cons ((at_take B).mono (by decide)) AllF.nil) all0 all0 all0 all0) tr_size ln_size pf_size
theorem at_size (B : Fk w K mg base) : FnAt PG w K mg base (xct K cs os) 5 "_law_size" 3 [] sp_size := by
  obtain ⟨fd, F⟩ := B.c.def_ 5 (d := d_size) rfl
  exact FnAt.of (B.glo "_law_size" (by simp [fa])) F.kp (FunD.bindsN (ps := P_size) F fun _ _ _ _ _ _ us hl => match us, hl with | [_, _, _], _ => rfl) (ok_size B F)
abbrev s_shuffled : Stmt := (top 57)
theorem tr_shuffled : trSN (GG [⟨"_law_take", 2, [], false, sp_take⟩] [] [] [] []) N_shuffled (defScope s_shuffled) ["_law_mixed_here"] false 30 60 none (defBody s_shuffled) = some w_shuffled := by kernel_rfl
theorem sc_shuffled : FnScope N_shuffled P_shuffled (defScope s_shuffled) := ⟨rfl, rfl, rfl, by decide +kernel, rfl, by decide +kernel, by decide +kernel⟩
theorem ln_shuffled : ∀ ds μ Q E, sp_shuffled ds μ Q E → ds.length = P_shuffled.length := by
  intro ds μ Q E h
  unfold sp_shuffled at h
  repeat (first | (obtain ⟨rfl, _⟩ := h; rfl; done) | (obtain ⟨_, h⟩ := h))
theorem ok_shuffled (B : Fk w K mg base) {f : Addr} {fd : FuncData} (F : FunD K d_shuffled.name d_shuffled.qual d_shuffled.params d_shuffled.body d_shuffled.scope (d_shuffled.dvs K) (d_shuffled.kws K) f fd) : FnOk PG w K mg base (L2N.CX PG w) 5 f fd P_shuffled (liftSp K (xct K cs os) sp_shuffled) :=
  fnOk F sc_shuffled (B.b.gam (k := 4) (fs := [⟨"_law_take", 2, [], false, sp_take⟩]) (ms := []) (ps := []) (ks := []) (hs := []) (by decide) (AllF.cons ((at_take B).mono (by decide)) AllF.nil) all0 all0 all0 all0) tr_shuffled ln_shuffled pf_shuffled
theorem at_shuffled (B : Fk w K mg base) : FnAt PG w K mg base (xct K cs os) 5 "_law_shuffled" 2 [] sp_shuffled := by
  obtain ⟨fd, F⟩ := B.c.def_ 6 (d := d_shuffled) rfl
  exact FnAt.of (B.glo "_law_shuffled" (by simp [fa])) F.kp (FunD.bindsN (ps := P_shuffled) F fun _ _ _ _ _ _ us hl => match us, hl with | [_, _], _ => rfl) (ok_shuffled B F)
abbrev s_store : Stmt := (top 50)
theorem tr_store : trSN (GG [] [] [] [] []) N_store (defScope s_store) [] true 30 60 none (defBody s_store) = some w_store := by kernel_rfl
theorem sc_store : FnScope N_store P_store (defScope s_store) := ⟨rfl, rfl, rfl, by decide +kernel, rfl, by decide +kernel, by decide +kernel⟩
theorem ln_store : ∀ ds μ Q E, sp_store ds μ Q E → ds.length = P_store.length := by
  intro ds μ Q E h
  unfold sp_store at h
  repeat (first | (obtain ⟨rfl, _⟩ := h; rfl; done) | (obtain ⟨_, h⟩ := h))
theorem ok_store (B : Fk w K mg base) {f : Addr} {fd : FuncData} (F : FunD K d_store.name d_store.qual d_store.params d_store.body d_store.scope (d_store.dvs K) (d_store.kws K) f fd) : FnOk PG w K mg base (L2N.CX PG w) 3 f fd P_store (liftSp K (xct K cs os) sp_store) :=
  fnOk F sc_store (B.b.gam (k := 2) (fs := []) (ms := []) (ps := []) (ks := []) (hs := []) (by decide) AllF.nil all0 all0 all0 all0) tr_store ln_store pf_store
theorem at_store (B : Fk w K mg base) : FnAt PG w K mg base (xct K cs os) 3 "_law_store" 1 [] sp_store := by
  obtain ⟨fd, F⟩ := B.c.def_ 7 (d := d_store) rfl
  exact FnAt.of (B.glo "_law_store" (by simp [fa])) F.kp (FunD.bindsN (ps := P_store) F fun _ _ _ _ _ _ us hl => match us, hl with | [_], _ => rfl) (ok_store B F)
abbrev s_same_a0 : Stmt := (top 58)
theorem tr_same_a0 : trSN (GG [⟨"_law_same_rows", 2, [], false, sp_no⟩, ⟨"_law_same_dicts", 2, [], false, sp_no⟩] [] [] [] []) N_same_a0 (defScope s_same_a0) [] false 30 60 none (defBody s_same_a0) = some w_same_a0 := by kernel_rfl
theorem sc_same_a0 : FnScope N_same_a0 P_same_a0 (defScope s_same_a0) := ⟨rfl, rfl, rfl, by decide +kernel, rfl, by decide +kernel, by decide +kernel⟩
theorem ok_same_a0 (B : Fk w K mg base) {f : Addr} {fd : FuncData} (F : FunD K d_same.name d_same.qual d_same.params d_same.body d_same.scope (d_same.dvs K) (d_same.kws K) f fd) : FnOk PG w K mg base (L2N.CX PG w) 3 f fd P_same_a0 (liftSp K (xct K cs os) sp_same_a0) :=
  fnOk F sc_same_a0 (B.b.gam (k := 2) (fs := [⟨"_law_same_rows", 2, [], false, sp_no⟩, ⟨"_law_same_dicts", 2, [], false, sp_no⟩]) (ms := []) (ps := []) (ks := []) (hs := []) (by decide) (AllF.cons (B.no (d := d_same_rows) 9 rfl (by simp [fa])) (AllF.cons (B.no (d := d_same_dicts) 34 rfl (by simp [fa])) AllF.nil)) all0 all0 all0 all0) tr_same_a0 ln_same_a0 pf_same_a0
theorem at_same_a0 (B : Fk w K mg base) : FnAt PG w K mg base (xct K cs os) 3 "_law_same" 2 [] sp_same_a0 := by
  obtain ⟨fd, F⟩ := B.c.def_ 8 (d := d_same) rfl
  exact FnAt.of (B.glo "_law_same" (by simp [fa])) F.kp (FunD.bindsN (ps := P_same_a0) F fun _ _ _ _ _ _ us hl => match us, hl with | [_, _], _ => rfl) (ok_same_a0 B F)
abbrev s_rows_a0 : Stmt := (top 59)
theorem tr_rows_a0 : trSN (GG [⟨"_law_same", 2, [], false, sp_same_a0⟩] [] [] [] []) N_rows_a0 (defScope s_rows_a0) [] false 30 60 none (defBody s_rows_a0) = some w_rows_a0 := by kernel_rfl
theorem sc_rows_a0 : FnScope N_rows_a0 P_rows_a0 (defScope s_rows_a0) := ⟨rfl, rfl, rfl, by decide +kernel, rfl, by decide +kernel, by decide +kernel⟩
theorem ok_rows_a0 (B : Fk w K mg base) {f : Addr} {fd : FuncData} (F : FunD K d_same_rows.name d_same_rows.qual d_same_rows.params d_same_rows.body d_same_rows.scope (d_same_rows.dvs K) (d_same_rows.kws K) f fd) : FnOk PG w K mg base (L2N.CX PG w) 4 f fd P_rows_a0 (liftSp K (xct K cs os) sp_rows_a0) :=
  fnOk F sc_rows_a0 (B.b.gam (k := 3) (fs := [⟨"_law_same", 2, [], false, sp_same_a0⟩]) (ms := []) (ps := []) (ks := []) (hs := []) (by decide) (AllF.cons ((at_same_a0 B).mono (by decide)) AllF.nil) all0 all0 all0 all0) tr_rows_a0 ln_rows_a0 pf_rows_a0
theorem at_rows_a0 (B : Fk w K mg base) : FnAt PG w K mg base (xct K cs os) 4 "_law_same_rows" 2 [] sp_rows_a0 := by
  obtain ⟨fd, F⟩ := B.c.def_ 9 (d := d_same_rows) rfl
  exact FnAt.of (B.glo "_law_same_rows" (by simp [fa])) F.kp (FunD.bindsN (ps := P_rows_a0) F fun _ _ _ _ _ _ us hl => match us, hl with | [_, _], _ => rfl) (ok_rows_a0 B F)
abbrev s_same_a1 : Stmt := (top 58)
theorem tr_same_a1 : trSN (GG [⟨"_law_same_rows", 2, [], false, sp_rows_a0⟩, ⟨"_law_same_dicts", 2, [], false, sp_no⟩] [] [] [] []) N_same_a1 (defScope s_same_a1) [] false 30 60 none (defBody s_same_a1) = some w_same_a1 := by kernel_rfl
theorem sc_same_a1 : FnScope N_same_a1 P_same_a1 (defScope s_same_a1) := ⟨rfl, rfl, rfl, by decide +kernel, rfl, by decide +kernel, by decide +kernel⟩
theorem ok_same_a1 (B : Fk w K mg base) {f : Addr} {fd : FuncData} (F : FunD K d_same.name d_same.qual d_same.params d_same.body d_same.scope (d_same.dvs K) (d_same.kws K) f fd) : FnOk PG w K mg base (L2N.CX PG w) 5 f fd P_same_a1 (liftSp K (xct K cs os) sp_same_a1) :=
  fnOk F sc_same_a1 (B.b.gam (k := 4) (fs := [⟨"_law_same_rows", 2, [], false, sp_rows_a0⟩, ⟨"_law_same_dicts", 2, [], false, sp_no⟩]) (ms := []) (ps := []) (ks := []) (hs := []) (by decide) (AllF.cons ((at_rows_a0 B).mono (by decide)) (AllF.cons (B.no (d := d_same_dicts) 34 rfl (by simp [fa])) AllF.nil)) all0 all0 all0 all0) tr_same_a1 ln_same_a1 pf_same_a1
theorem at_same_a1 (B : Fk w K mg base) : FnAt PG w K mg base (xct K cs os) 5 "_law_same" 2 [] sp_same_a1 := by
  obtain ⟨fd, F⟩ := B.c.def_ 8 (d := d_same) rfl
  exact FnAt.of (B.glo "_law_same" (by simp [fa])) F.kp (FunD.bindsN (ps := P_same_a1) F fun _ _ _ _ _ _ us hl => match us, hl with | [_, _], _ => rfl) (ok_same_a1 B F)
abbrev s_rows_a1 : Stmt := (top 59)
theorem tr_rows_a1 : trSN (GG [⟨"_law_same", 2, [], false, sp_same_a1⟩] [] [] [] []) N_rows_a1 (defScope s_rows_a1) [] false 30 60 none (defBody s_rows_a1) = some w_rows_a1 := by kernel_rfl
theorem sc_rows_a1 : FnScope N_rows_a1 P_rows_a1 (defScope s_rows_a1) := ⟨rfl, rfl, rfl, by decide +kernel, rfl, by decide +kernel, by decide +kernel⟩
theorem ok_rows_a1 (B : Fk w K mg base) {f : Addr} {fd : FuncData} (F : FunD K d_same_rows.name d_same_rows.qual d_same_rows.params d_same_rows.body d_same_rows.scope (d_same_rows.dvs K) (d_same_rows.kws K) f fd) : FnOk PG w K mg base (L2N.CX PG w) 6 f fd P_rows_a1 (liftSp K (xct K cs os) sp_rows_a1) :=
  fnOk F sc_rows_a1 (B.b.gam (k := 5) (fs := [⟨"_law_same", 2, [], false, sp_same_a1⟩]) (ms := []) (ps := []) (ks := []) (hs := []) (by decide) (AllF.cons ((at_same_a1 B).mono (by decide)) AllF.nil) all0 all0 all0 all0) tr_rows_a1 ln_rows_a1 pf_rows_a1
theorem at_rows_a1 (B : Fk w K mg base) : FnAt PG w K mg base (xct K cs os) 6 "_law_same_rows" 2 [] sp_rows_a1 := by
  obtain ⟨fd, F⟩ := B.c.def_ 9 (d := d_same_rows) rfl
  exact FnAt.of (B.glo "_law_same_rows" (by simp [fa])) F.kp (FunD.bindsN (ps := P_rows_a1) F fun _ _ _ _ _ _ us hl => match us, hl with | [_, _], _ => rfl) (ok_rows_a1 B F)
abbrev s_same_a2 : Stmt := (top 58)
theorem tr_same_a2 : trSN (GG [⟨"_law_same_rows", 2, [], false, sp_rows_a1⟩, ⟨"_law_same_dicts", 2, [], false, sp_no⟩] [] [] [] []) N_same_a2 (defScope s_same_a2) [] false 30 60 none (defBody s_same_a2) = some w_same_a2 := by kernel_rfl
theorem sc_same_a2 : FnScope N_same_a2 P_same_a2 (defScope s_same_a2) := ⟨rfl, rfl, rfl, by decide +kernel, rfl, by decide +kernel, by decide +kernel⟩
theorem ok_same_a2 (B : Fk w K mg base) {f : Addr} {fd : FuncData} (F : FunD K d_same.name d_same.qual d_same.params d_same.body d_same.scope (d_same.dvs K) (d_same.kws K) f fd) : FnOk PG w K mg base (L2N.CX PG w) 7 f fd P_same_a2 (liftSp K (xct K cs os) sp_same_a2) :=
  fnOk F sc_same_a2 (B.b.gam (k := 6) (fs := [⟨"_law_same_rows", 2, [], false, sp_rows_a1⟩, ⟨"_law_same_dicts", 2, [], false, sp_no⟩]) (ms := []) (ps := []) (ks := []) (hs := []) (by decide) (AllF.cons ((at_rows_a1 B).mono (by decide)) (AllF.cons (B.no (d := d_same_dicts) 34 rfl (by simp [fa])) AllF.nil)) all0 all0 all0 all0) tr_same_a2 ln_same_a2 pf_same_a2
theorem at_same_a2 (B : Fk w K mg base) : FnAt PG w K mg base (xct K cs os) 7 "_law_same" 2 [] sp_same_a2 := by
  obtain ⟨fd, F⟩ := B.c.def_ 8 (d := d_same) rfl
  exact FnAt.of (B.glo "_law_same" (by simp [fa])) F.kp (FunD.bindsN (ps := P_same_a2) F fun _ _ _ _ _ _ us hl => match us, hl with | [_, _], _ => rfl) (ok_same_a2 B F)
abbrev s_rows_a2 : Stmt := (top 59)
theorem tr_rows_a2 : trSN (GG [⟨"_law_same", 2, [], false, sp_same_a2⟩] [] [] [] []) N_rows_a2 (defScope s_rows_a2) [] false 30 60 none (defBody s_rows_a2) = some w_rows_a2 := by kernel_rfl
theorem sc_rows_a2 : FnScope N_rows_a2 P_rows_a2 (defScope s_rows_a2) := ⟨rfl, rfl, rfl, by decide +kernel, rfl, by decide +kernel, by decide +kernel⟩
theorem ok_rows_a2 (B : Fk w K mg base) {f : Addr} {fd : FuncData} (F : FunD K d_same_rows.name d_same_rows.qual d_same_rows.params d_same_rows.body d_same_rows.scope (d_same_rows.dvs K) (d_same_rows.kws K) f fd) : FnOk PG w K mg base (L2N.CX PG w) 8 f fd P_rows_a2 (liftSp K (xct K cs os) sp_rows_a2) :=
  fnOk F sc_rows_a2 (B.b.gam (k := 7) (fs := [⟨"_law_same", 2, [], false, sp_same_a2⟩]) (ms := []) (ps := []) (ks := []) (hs := []) (by decide) (AllF.cons ((at_same_a2 B).mono (by decide)) AllF.nil) all0 all0 all0 all0) tr_rows_a2 ln_rows_a2 pf_rows_a2
theorem at_rows_a2 (B : Fk w K mg base) : FnAt PG w K mg base (xct K cs os) 8 "_law_same_rows" 2 [] sp_rows_a2 := by
  obtain ⟨fd, F⟩ := B.c.def_ 9 (d := d_same_rows) rfl
  exact FnAt.of (B.glo "_law_same_rows" (by simp [fa])) F.kp (FunD.bindsN (ps := P_rows_a2) F fun _ _ _ _ _ _ us hl => match us, hl with | [_, _], _ => rfl) (ok_rows_a2 B F)
abbrev s_same_a3 : Stmt := (top 58)
theorem tr_same_a3 : trSN (GG [⟨"_law_same_rows", 2, [], false, sp_rows_a2⟩, ⟨"_law_same_dicts", 2, [], false, sp_no⟩] [] [] [] []) N_same_a3 (defScope s_same_a3) [] false 30 60 none (defBody s_same_a3) = some w_same_a3 := by kernel_rfl
theorem sc_same_a3 : FnScope N_same_a3 P_same_a3 (defScope s_same_a3) := ⟨rfl, rfl, rfl, by decide +kernel, rfl, by decide +kernel, by decide +kernel⟩
theorem ok_same_a3 (B : Fk w K mg base) {f : Addr} {fd : FuncData} (F : FunD K d_same.name d_same.qual d_same.params d_same.body d_same.scope (d_same.dvs K) (d_same.kws K) f fd) : FnOk PG w K mg base (L2N.CX PG w) 9 f fd P_same_a3 (liftSp K (xct K cs os) sp_same_a3) :=
  fnOk F sc_same_a3 (B.b.gam (k := 8) (fs := [⟨"_law_same_rows", 2, [], false, sp_rows_a2⟩, ⟨"_law_same_dicts", 2, [], false, sp_no⟩]) (ms := []) (ps := []) (ks := []) (hs := []) (by decide) (AllF.cons ((at_rows_a2 B).mono (by decide)) (AllF.cons (B.no (d := d_same_dicts) 34 rfl (by simp [fa])) AllF.nil)) all0 all0 all0 all0) tr_same_a3 ln_same_a3 pf_same_a3
theorem at_same_a3 (B : Fk w K mg base) : FnAt PG w K mg base (xct K cs os) 9 "_law_same" 2 [] sp_same_a3 := by
  obtain ⟨fd, F⟩ := B.c.def_ 8 (d := d_same) rfl
  exact FnAt.of (B.glo "_law_same" (by simp [fa])) F.kp (FunD.bindsN (ps := P_same_a3) F fun _ _ _ _ _ _ us hl => match us, hl with | [_, _], _ => rfl) (ok_same_a3 B F)
abbrev s_signs_of_texts : Stmt := (top 61)
theorem tr_signs_of_texts : trSN (GG [] [] [] [] []) N_signs_of_texts (defScope s_signs_of_texts) [] false 30 60 none (defBody s_signs_of_texts) = some w_signs_of_texts := by kernel_rfl
theorem sc_signs_of_texts : FnScope N_signs_of_texts P_signs_of_texts (defScope s_signs_of_texts) := ⟨rfl, rfl, rfl, by decide +kernel, rfl, by decide +kernel, by decide +kernel⟩
theorem ln_signs_of_texts : ∀ ds μ Q E, sp_signs_of_texts ds μ Q E → ds.length = P_signs_of_texts.length := by
  intro ds μ Q E h
  unfold sp_signs_of_texts at h
  repeat (first | (obtain ⟨rfl, _⟩ := h; rfl; done) | (obtain ⟨_, h⟩ := h))
theorem ok_signs_of_texts (B : Fk w K mg base) {f : Addr} {fd : FuncData} (F : FunD K d_signs_of_texts.name d_signs_of_texts.qual d_signs_of_texts.params d_signs_of_texts.body d_signs_of_texts.scope (d_signs_of_texts.dvs K) (d_signs_of_texts.kws K) f fd) : FnOk PG w K mg base (L2N.CX PG w) 3 f fd P_signs_of_texts (liftSp K (xct K cs os) sp_signs_of_texts) :=
  fnOk F sc_signs_of_texts (B.b.gam (k := 2) (fs := []) (ms := []) (ps := []) (ks := []) (hs := []) (by decide) AllF.nil all0 all0 all0 all0) tr_signs_of_texts ln_signs_of_texts pf_signs_of_texts
theorem at_signs_of_texts (B : Fk w K mg base) : FnAt PG w K mg base (xct K cs os) 3 "_law_signs_of_texts" 0 [] sp_signs_of_texts := by
  obtain ⟨fd, F⟩ := B.c.def_ 10 (d := d_signs_of_texts) rfl
  exact FnAt.of (B.glo "_law_signs_of_texts" (by simp [fa])) F.kp (FunD.bindsN (ps := P_signs_of_texts) F fun _ _ _ _ _ _ us hl => match us, hl with | [], _ => rfl) (ok_signs_of_texts B F)
abbrev s_text : Stmt := (top 62)
theorem tr_text : trSN (GG [⟨"_law_pick", 2, [], false, sp_pickB⟩, ⟨"_law_signs_of_texts", 0, [], false, sp_signs_of_texts⟩, ⟨"_law_take", 2, [], false, sp_take⟩, ⟨"_law_size", 3, [], false, sp_size⟩] [] [] [] []) N_text (defScope s_text) ["_law_found"] false 30 60 none (defBody s_text) = some w_text := by kernel_rfl
theorem sc_text : FnScope N_text P_text (defScope s_text) := ⟨rfl, rfl, rfl, by decide +kernel, rfl, by decide +kernel, by decide +kernel⟩
theorem ln_text : ∀ ds μ Q E, sp_text ds μ Q E → ds.length = P_text.length := by
  intro ds μ Q E h
  unfold sp_text at h
  repeat (first | (obtain ⟨rfl, _⟩ := h; rfl; done) | (obtain ⟨_, h⟩ := h))
theorem ok_text (B : Fk w K mg base) {f : Addr} {fd : FuncData} (F : FunD K d_text.name d_text.qual d_text.params d_text.body d_text.scope (d_text.dvs K) (d_text.kws K) f fd) : FnOk PG w K mg base (L2N.CX PG w) 6 f fd P_text (liftSp K (xct K cs os) sp_text) :=
  fnOk F sc_text (B.b.gam (k := 5) (fs := [⟨"_law_pick", 2, [], false, sp_pickB⟩, ⟨"_law_signs_of_texts", 0, [], false, sp_signs_of_texts⟩, ⟨"_law_take", 2, [], false, sp_take⟩, ⟨"_law_size", 3, [], false, sp_size⟩]) (ms := []) (ps := []) (ks := []) (hs := []) (by decide) (AllF.cons ((at_pickB B).mono (by decide)) (AllF.cons ((at_signs_of_texts B).mono (by decide)) (AllF.cons ((at_take B).mono (by decide)) (AllF.cons ((at_size B).mono (by decide)) AllF.nil)))) all0 all0 all0 all0) tr_text ln_text pf_text
theorem at_text (B : Fk w K mg base) : FnAt PG w K mg base (xct K cs os) 6 "_law_text" 2 [] sp_text := by
  obtain ⟨fd, F⟩ := B.c.def_ 11 (d := d_text) rfl
  exact FnAt.of (B.glo "_law_text" (by simp [fa])) F.kp (FunD.bindsN (ps := P_text) F fun _ _ _ _ _ _ us hl => match us, hl with | [_, _], _ => rfl) (ok_text B F)
abbrev s_name : Stmt := (top 63)
theorem tr_name : trSN (GG [⟨"_law_pick", 2, [], false, sp_pickB⟩, ⟨"_law_number", 3, [], false, sp_number⟩] [] [] [] []) N_name (defScope s_name) [] false 30 60 none (defBody s_name) = some w_name := by kernel_rfl
theorem sc_name : FnScope N_name P_name (defScope s_name) := ⟨rfl, rfl, rfl, by decide +kernel, rfl, by decide +kernel, by decide +kernel⟩
theorem ln_name : ∀ ds μ Q E, sp_name ds μ Q E → ds.length = P_name.length := by
  intro ds μ Q E h
  unfold sp_name at h
  repeat (first | (obtain ⟨rfl, _⟩ := h; rfl; done) | (obtain ⟨_, h⟩ := h))
theorem ok_name (B : Fk w K mg base) {f : Addr} {fd : FuncData} (F : FunD K d_name.name d_name.qual d_name.params d_name.body d_name.scope (d_name.dvs K) (d_name.kws K) f fd) : FnOk PG w K mg base (L2N.CX PG w) 7 f fd P_name (liftSp K (xct K cs os) sp_name) :=
  fnOk F sc_name (B.b.gam (k := 6) (fs := [⟨"_law_pick", 2, [], false, sp_pickB⟩, ⟨"_law_number", 3, [], false, sp_number⟩]) (ms := []) (ps := []) (ks := []) (hs := []) (by decide) (AllF.cons ((at_pickB B).mono (by decide)) (AllF.cons ((at_number B).mono (by decide)) AllF.nil)) all0 all0 all0 all0) tr_name ln_name pf_name
theorem at_name (B : Fk w K mg base) : FnAt PG w K mg base (xct K cs os) 7 "_law_name" 1 [] sp_name := by
  obtain ⟨fd, F⟩ := B.c.def_ 12 (d := d_name) rfl
  exact FnAt.of (B.glo "_law_name" (by simp [fa])) F.kp (FunD.bindsN (ps := P_name) F fun _ _ _ _ _ _ us hl => match us, hl with | [_], _ => rfl) (ok_name B F)
abbrev s_bad_name : Stmt := (top 64)
theorem tr_bad_name : trSN (GG [⟨"_law_pick", 2, [], false, sp_pickB⟩, ⟨"_law_take", 2, [], false, sp_take⟩, ⟨"_law_name", 1, [], false, sp_name⟩] [] [] [] []) N_bad_name (defScope s_bad_name) [] false 30 60 none (defBody s_bad_name) = some w_bad_name := by kernel_rfl
theorem sc_bad_name : FnScope N_bad_name P_bad_name (defScope s_bad_name) := ⟨rfl, rfl, rfl, by decide +kernel, rfl, by decide +kernel, by decide +kernel⟩
theorem ln_bad_name : ∀ ds μ Q E, sp_bad_name ds μ Q E → ds.length = P_bad_name.length := by
  intro ds μ Q E h
  unfold sp_bad_name at h
  repeat (first | (obtain ⟨rfl, _⟩ := h; rfl; done) | (obtain ⟨_, h⟩ := h))
theorem ok_bad_name (B : Fk w K mg base) {f : Addr} {fd : FuncData} (F : FunD K d_bad_name.name d_bad_name.qual d_bad_name.params d_bad_name.body d_bad_name.scope (d_bad_name.dvs K) (d_bad_name.kws K) f fd) : FnOk PG w K mg base (L2N.CX PG w) 8 f fd P_bad_name (liftSp K (xct K cs os) sp_bad_name) :=
  fnOk F sc_bad_name (B.b.gam (k := 7) (fs := [⟨"_law_pick", 2, [], false, sp_pickB⟩, ⟨"_law_take", 2, [], false, sp_take⟩, ⟨"_law_name", 1, [], false, sp_name⟩]) (ms := []) (ps := []) (ks := []) (hs := []) (by decide) (AllF.cons ((at_pickB B).mono (by decide)) (AllF.cons ((at_take B).mono (by decide)) (AllF.cons ((at_name B).mono (by decide)) AllF.nil))) all0 all0 all0 all0) tr_bad_name ln_bad_name pf_bad_name
theorem at_bad_name (B : Fk w K mg base) : FnAt PG w K mg base (xct K cs os) 8 "_law_bad_name" 1 [] sp_bad_name := by
  obtain ⟨fd, F⟩ := B.c.def_ 13 (d := d_bad_name) rfl
  exact FnAt.of (B.glo "_law_bad_name" (by simp [fa])) F.kp (FunD.bindsN (ps := P_bad_name) F fun _ _ _ _ _ _ us hl => match us, hl with | [_], _ => rfl) (ok_bad_name B F)
abbrev s_kinds : Stmt := (top 65)
theorem tr_kinds : (fun (a ca : Addr) (dx : Option Addr) => trSN (GX [] [] [] [] []) N_kinds (defScope s_kinds) [] false 30 60 (some (a, ca, dx)) (defBody s_kinds)) = fun a ca dx => some (w_kinds a ca dx) := by kernel_rfl
theorem sc_kinds : FnScope N_kinds P_kinds (defScope s_kinds) := ⟨rfl, rfl, rfl, by decide +kernel, rfl, by decide +kernel, by decide +kernel⟩
theorem at_kinds (B : Fk w K mg base) : FnX PG w K mg base (xct K cs os) 3 "_law_kinds" sp_kinds := by
  obtain ⟨fd, F⟩ := B.c.def_ 14 (d := d_kinds) rfl
  exact fnX F sc_kinds (FunD.bindsN (ps := P_kinds) F fun _ _ _ _ _ _ us hl => match us, hl with | [_], _ => rfl) (B.glo "_law_kinds" (by simp [fa])) (B.b.gamX (k := 2) (fs := []) (ms := []) (ps := []) (ks := []) (hs := []) (by decide) AllF.nil all0 all0 all0 all0) rfl (fun a ca dx => congrFun (congrFun (congrFun tr_kinds a) ca) dx) pf_kinds
abbrev s_due : Stmt := (top 66)
theorem tr_due : trSN (GG [] [] [] [] []) N_due (defScope s_due) [] false 30 60 none (defBody s_due) = some w_due := by kernel_rfl
theorem sc_due : FnScope N_due P_due (defScope s_due) := ⟨rfl, rfl, rfl, by decide +kernel, rfl, by decide +kernel, by decide +kernel⟩
theorem ln_due : ∀ ds μ Q E, sp_due ds μ Q E → ds.length = P_due.length := by
  intro ds μ Q E h
  unfold sp_due at h
  repeat (first | (obtain ⟨rfl, _⟩ := h; rfl; done) | (obtain ⟨_, h⟩ := h))
theorem ok_due (B : Fk w K mg base) {f : Addr} {fd : FuncData} (F : FunD K d_due.name d_due.qual d_due.params d_due.body d_due.scope (d_due.dvs K) (d_due.kws K) f fd) : FnOk PG w K mg base (L2N.CX PG w) 3 f fd P_due (liftSp K (xct K cs os) sp_due) :=
  fnOk F sc_due (B.b.gam (k := 2) (fs := []) (ms := []) (ps := []) (ks := []) (hs := []) (by decide) AllF.nil all0 all0 all0 all0) tr_due ln_due pf_due
theorem at_due (B : Fk w K mg base) : FnAt PG w K mg base (xct K cs os) 3 "_law_due" 2 [] sp_due := by
  obtain ⟨fd, F⟩ := B.c.def_ 15 (d := d_due) rfl
  exact FnAt.of (B.glo "_law_due" (by simp [fa])) F.kp (FunD.bindsN (ps := P_due) F fun _ _ _ _ _ _ us hl => match us, hl with | [_, _], _ => rfl) (ok_due B F)
abbrev s_named : Stmt := (top 67)
theorem tr_named : trSN (GG [] [] [] [] []) N_named (defScope s_named) [] false 30 60 none (defBody s_named) = some w_named := by kernel_rfl
theorem sc_named : FnScope N_named P_named (defScope s_named) := ⟨rfl, rfl, rfl, by decide +kernel, rfl, by decide +kernel, by decide +kernel⟩
theorem ln_named : ∀ ds μ Q E, sp_named ds μ Q E → ds.length = P_named.length := by
  intro ds μ Q E h
  unfold sp_named at h
  repeat (first | (obtain ⟨rfl, _⟩ := h; rfl; done) | (obtain ⟨_, h⟩ := h))
theorem ok_named (B : Fk w K mg base) {f : Addr} {fd : FuncData} (F : FunD K d_named.name d_named.qual d_named.params d_named.body d_named.scope (d_named.dvs K) (d_named.kws K) f fd) : FnOk PG w K mg base (L2N.CX PG w) 3 f fd P_named (liftSp K (xct K cs os) sp_named) :=
  fnOk F sc_named (B.b.gam (k := 2) (fs := []) (ms := []) (ps := []) (ks := []) (hs := []) (by decide) AllF.nil all0 all0 all0 all0) tr_named ln_named pf_named
theorem at_named (B : Fk w K mg base) : FnAt PG w K mg base (xct K cs os) 3 "_law_named" 1 [] sp_named := by
  obtain ⟨fd, F⟩ := B.c.def_ 16 (d := d_named) rfl
  exact FnAt.of (B.glo "_law_named" (by simp [fa])) F.kp (FunD.bindsN (ps := P_named) F fun _ _ _ _ _ _ us hl => match us, hl with | [_], _ => rfl) (ok_named B F)
abbrev s_any_text : Stmt := (top 68)
theorem tr_any_text : trSN (GG [⟨"_law_text", 2, [], false, sp_text⟩, ⟨"_law_pick", 2, [], false, sp_pickB⟩, ⟨"_law_number", 3, [], false, sp_number⟩, ⟨"_law_signs_of_texts", 0, [], false, sp_signs_of_texts⟩, ⟨"_law_bad_name", 1, [], false, sp_bad_name⟩, ⟨"_law_take", 2, [], false, sp_take⟩, ⟨"_law_name", 1, [], false, sp_name⟩] [] [] [] []) N_any_text (defScope s_any_text) [] false 30 60 none (defBody s_any_text) = some w_any_text := by kernel_rfl
theorem sc_any_text : FnScope N_any_text P_any_text (defScope s_any_text) := ⟨rfl, rfl, rfl, by decide +kernel, rfl, by decide +kernel, by decide +kernel⟩
theorem ln_any_text : ∀ ds μ Q E, sp_any_text ds μ Q E → ds.length = P_any_text.length := by
  intro ds μ Q E h
  unfold sp_any_text at h
  repeat (first | (obtain ⟨rfl, _⟩ := h; rfl; done) | (obtain ⟨_, h⟩ := h))
theorem ok_any_text (B : Fk w K mg base) {f : Addr} {fd : FuncData} (F : FunD K d_any_text.name d_any_text.qual d_any_text.params d_any_text.body d_any_text.scope (d_any_text.dvs K) (d_any_text.kws K) f fd) : FnOk PG w K mg base (L2N.CX PG w) 9 f fd P_any_text (liftSp K (xct K cs os) sp_any_text) :=
  fnOk F sc_any_text (B.b.gam (k := 8) (fs := [⟨"_law_text", 2, [], false, sp_text⟩, ⟨"_law_pick", 2, [], false, sp_pickB⟩, ⟨"_law_number", 3, [], false, sp_number⟩, ⟨"_law_signs_of_texts", 0, [], false, sp_signs_of_texts⟩, ⟨"_law_bad_name", 1, [], false, sp_bad_name⟩, ⟨"_law_take", 2, [], false, sp_take⟩, ⟨"_law_name", 1, [], false, sp_name⟩]) (ms := []) (ps := []) (ks := []) (hs := []) (by decide) (AllF.cons ((at_text B).mono (by decide)) (AllF.cons ((at_pickB B).mono (by decide)) (AllF.cons ((at_number B).mono (by decide)) (AllF.cons ((at_signs_of_texts B).mono (by decide)) (AllF.cons ((at_bad_name B).mono (by decide)) (AllF.cons ((at_take B).mono (by decide)) (AllF.cons ((at_name B).mono (by decide)) AllF.nil))))))) all0 all0 all0 all0) tr_any_text ln_any_text pf_any_text
theorem at_any_text (B : Fk w K mg base) : FnAt PG w K mg base (xct K cs os) 9 "_law_any_text" 1 [] sp_any_text := by
  obtain ⟨fd, F⟩ := B.c.def_ 17 (d := d_any_text) rfl
  exact FnAt.of (B.glo "_law_any_text" (by simp [fa])) F.kp (FunD.bindsN (ps := P_any_text) F fun _ _ _ _ _ _ us hl => match us, hl with | [_], _ => rfl) (ok_any_text B F)
abbrev s_near : Stmt := (top 69)
theorem tr_near : trSN (GG [⟨"_law_pick", 2, [], false, sp_pickB⟩, ⟨"_law_number", 3, [], false, sp_number⟩, ⟨"_law_take", 2, [], false, sp_take⟩] [] [] [] []) N_near (defScope s_near) [] false 30 60 none (defBody s_near) = some w_near := by kernel_rfl
theorem sc_near : FnScope N_near P_near (defScope s_near) := ⟨rfl, rfl, rfl, by decide +kernel, rfl, by decide +kernel, by decide +kernel⟩
theorem ln_near : ∀ ds μ Q E, sp_near ds μ Q E → ds.length = P_near.length := by
  intro ds μ Q E h
  unfold sp_near at h
  repeat (first | (obtain ⟨rfl, _⟩ := h; rfl; done) | (obtain ⟨_, h⟩ := h))
theorem ok_near (B : Fk w K mg base) {f : Addr} {fd : FuncData} (F : FunD K d_near.name d_near.qual d_near.params d_near.body d_near.scope (d_near.dvs K) (d_near.kws K) f fd) : FnOk PG w K mg base (L2N.CX PG w) 7 f fd P_near (liftSp K (xct K cs os) sp_near) :=
  fnOk F sc_near (B.b.gam (k := 6) (fs := [⟨"_law_pick", 2, [], false, sp_pickB⟩, ⟨"_law_number", 3, [], false, sp_number⟩, ⟨"_law_take", 2, [], false, sp_take⟩]) (ms := []) (ps := []) (ks := []) (hs := []) (by decide) (AllF.cons ((at_pickB B).mono (by decide)) (AllF.cons ((at_number B).mono (by decide)) (AllF.cons ((at_take B).mono (by decide)) AllF.nil))) all0 all0 all0 all0) tr_near ln_near pf_near
theorem at_near (B : Fk w K mg base) : FnAt PG w K mg base (xct K cs os) 7 "_law_near" 3 [] sp_near := by
  obtain ⟨fd, F⟩ := B.c.def_ 18 (d := d_near) rfl
  exact FnAt.of (B.glo "_law_near" (by simp [fa])) F.kp (FunD.bindsN (ps := P_near) F fun _ _ _ _ _ _ us hl => match us, hl with | [_, _, _], _ => rfl) (ok_near B F)
abbrev s_m_other_hand : Stmt := (top 41)
theorem tr_m_other_hand : trSN (GG [] [] [] [] []) N_m_other_hand (defScope s_m_other_hand) [] false 30 60 none (defBody s_m_other_hand) = some w_m_other_hand := by kernel_rfl
theorem sc_m_other_hand : FnScope N_m_other_hand P_m_other_hand (defScope s_m_other_hand) := ⟨rfl, rfl, rfl, by decide +kernel, rfl, by decide +kernel, by decide +kernel⟩
theorem ln_m_other_hand : ∀ ds μ Q E, sp_m_other_hand ds μ Q E → ds.length = P_m_other_hand.length := by
  intro ds μ Q E h
  unfold sp_m_other_hand at h
  repeat (first | (obtain ⟨rfl, _⟩ := h; rfl; done) | (obtain ⟨_, h⟩ := h))
theorem ok_m_other_hand (B : Fk w K mg base) {f : Addr} {fd : FuncData} (F : FunD K d_m_other_hand.name d_m_other_hand.qual d_m_other_hand.params d_m_other_hand.body d_m_other_hand.scope (d_m_other_hand.dvs K) (d_m_other_hand.kws K) f fd) : FnOk PG w K mg base (L2N.CX PG w) 3 f fd P_m_other_hand (liftSp K (xct K cs os) sp_m_other_hand) :=
  fnOk F sc_m_other_hand (B.b.gam (k := 2) (fs := []) (ms := []) (ps := []) (ks := []) (hs := []) (by decide) AllF.nil all0 all0 all0 all0) tr_m_other_hand ln_m_other_hand pf_m_other_hand
theorem at_m_other_hand (B : Fk w K mg base) : FnAt PG w K mg base (xct K cs os) 3 "other_hand" 1 [] sp_m_other_hand := by
  obtain ⟨fd, F⟩ := B.c.def_ 19 (d := d_m_other_hand) rfl
  exact FnAt.of (B.glo "other_hand" (by simp [fa])) F.kp (FunD.bindsN (ps := P_m_other_hand) F fun _ _ _ _ _ _ us hl => match us, hl with | [_], _ => rfl) (ok_m_other_hand B F)
abbrev s_m_sign_of : Stmt := (top 42)
theorem tr_m_sign_of : trSN (GG [] [] [] [] []) N_m_sign_of (defScope s_m_sign_of) [] false 30 60 none (defBody s_m_sign_of) = some w_m_sign_of := by kernel_rfl
theorem sc_m_sign_of : FnScope N_m_sign_of P_m_sign_of (defScope s_m_sign_of) := ⟨rfl, rfl, rfl, by decide +kernel, rfl, by decide +kernel, by decide +kernel⟩
theorem ln_m_sign_of : ∀ ds μ Q E, sp_m_sign_of ds μ Q E → ds.length = P_m_sign_of.length := by
  intro ds μ Q E h
  unfold sp_m_sign_of at h
  repeat (first | (obtain ⟨rfl, _⟩ := h; rfl; done) | (obtain ⟨_, h⟩ := h))
theorem ok_m_sign_of (B : Fk w K mg base) {f : Addr} {fd : FuncData} (F : FunD K d_m_sign_of.name d_m_sign_of.qual d_m_sign_of.params d_m_sign_of.body d_m_sign_of.scope (d_m_sign_of.dvs K) (d_m_sign_of.kws K) f fd) : FnOk PG w K mg base (L2N.CX PG w) 3 f fd P_m_sign_of (liftSp K (xct K cs os) sp_m_sign_of) :=
  fnOk F sc_m_sign_of (B.b.gam (k := 2) (fs := []) (ms := []) (ps := []) (ks := []) (hs := []) (by decide) AllF.nil all0 all0 all0 all0) tr_m_sign_of ln_m_sign_of pf_m_sign_of
theorem at_m_sign_of (B : Fk w K mg base) : FnAt PG w K mg base (xct K cs os) 3 "sign_of" 1 [] sp_m_sign_of := by
  obtain ⟨fd, F⟩ := B.c.def_ 20 (d := d_m_sign_of) rfl
  exact FnAt.of (B.glo "sign_of" (by simp [fa])) F.kp (FunD.bindsN (ps := P_m_sign_of) F fun _ _ _ _ _ _ us hl => match us, hl with | [_], _ => rfl) (ok_m_sign_of B F)
abbrev s_m_hand_of : Stmt := (top 43)
theorem tr_m_hand_of : trSN (GG [] [] [] [] []) N_m_hand_of (defScope s_m_hand_of) [] false 30 60 none (defBody s_m_hand_of) = some w_m_hand_of := by kernel_rfl
theorem sc_m_hand_of : FnScope N_m_hand_of P_m_hand_of (defScope s_m_hand_of) := ⟨rfl, rfl, rfl, by decide +kernel, rfl, by decide +kernel, by decide +kernel⟩
theorem ln_m_hand_of : ∀ ds μ Q E, sp_m_hand_of ds μ Q E → ds.length = P_m_hand_of.length := by
  intro ds μ Q E h
  unfold sp_m_hand_of at h
  repeat (first | (obtain ⟨rfl, _⟩ := h; rfl; done) | (obtain ⟨_, h⟩ := h))
theorem ok_m_hand_of (B : Fk w K mg base) {f : Addr} {fd : FuncData} (F : FunD K d_m_hand_of.name d_m_hand_of.qual d_m_hand_of.params d_m_hand_of.body d_m_hand_of.scope (d_m_hand_of.dvs K) (d_m_hand_of.kws K) f fd) : FnOk PG w K mg base (L2N.CX PG w) 3 f fd P_m_hand_of (liftSp K (xct K cs os) sp_m_hand_of) :=
  fnOk F sc_m_hand_of (B.b.gam (k := 2) (fs := []) (ms := []) (ps := []) (ks := []) (hs := []) (by decide) AllF.nil all0 all0 all0 all0) tr_m_hand_of ln_m_hand_of pf_m_hand_of
theorem at_m_hand_of (B : Fk w K mg base) : FnAt PG w K mg base (xct K cs os) 3 "hand_of" 1 [] sp_m_hand_of := by
  obtain ⟨fd, F⟩ := B.c.def_ 21 (d := d_m_hand_of) rfl
  exact FnAt.of (B.glo "hand_of" (by simp [fa])) F.kp (FunD.bindsN (ps := P_m_hand_of) F fun _ _ _ _ _ _ us hl => match us, hl with | [_], _ => rfl) (ok_m_hand_of B F)
abbrev s_m_is_letter : Stmt := (top 44)
theorem tr_m_is_letter : trSN (GG [] [] [] [] []) N_m_is_letter (defScope s_m_is_letter) [] false 30 60 none (defBody s_m_is_letter) = some w_m_is_letter := by kernel_rfl
theorem sc_m_is_letter : FnScope N_m_is_letter P_m_is_letter (defScope s_m_is_letter) := ⟨rfl, rfl, rfl, by decide +kernel, rfl, by decide +kernel, by decide +kernel⟩
theorem ln_m_is_letter : ∀ ds μ Q E, sp_m_is_letter ds μ Q E → ds.length = P_m_is_letter.length := by
  intro ds μ Q E h
  unfold sp_m_is_letter at h
  repeat (first | (obtain ⟨rfl, _⟩ := h; rfl; done) | (obtain ⟨_, h⟩ := h))
theorem ok_m_is_letter (B : Fk w K mg base) {f : Addr} {fd : FuncData} (F : FunD K d_m_is_letter.name d_m_is_letter.qual d_m_is_letter.params d_m_is_letter.body d_m_is_letter.scope (d_m_is_letter.dvs K) (d_m_is_letter.kws K) f fd) : FnOk PG w K mg base (L2N.CX PG w) 3 f fd P_m_is_letter (liftSp K (xct K cs os) sp_m_is_letter) :=
  fnOk F sc_m_is_letter (B.b.gam (k := 2) (fs := []) (ms := []) (ps := []) (ks := []) (hs := []) (by decide) AllF.nil all0 all0 all0 all0) tr_m_is_letter ln_m_is_letter pf_m_is_letter
theorem at_m_is_letter (B : Fk w K mg base) : FnAt PG w K mg base (xct K cs os) 3 "is_letter" 1 [] sp_m_is_letter := by
  obtain ⟨fd, F⟩ := B.c.def_ 22 (d := d_m_is_letter) rfl
  exact FnAt.of (B.glo "is_letter" (by simp [fa])) F.kp (FunD.bindsN (ps := P_m_is_letter) F fun _ _ _ _ _ _ us hl => match us, hl with | [_], _ => rfl) (ok_m_is_letter B F)
abbrev s_m_is_digit : Stmt := (top 45)
theorem tr_m_is_digit : trSN (GG [] [] [] [] []) N_m_is_digit (defScope s_m_is_digit) [] false 30 60 none (defBody s_m_is_digit) = some w_m_is_digit := by kernel_rfl
theorem sc_m_is_digit : FnScope N_m_is_digit P_m_is_digit (defScope s_m_is_digit) := ⟨rfl, rfl, rfl, by decide +kernel, rfl, by decide +kernel, by decide +kernel⟩
theorem ln_m_is_digit : ∀ ds μ Q E, sp_m_is_digit ds μ Q E → ds.length = P_m_is_digit.length := by
  intro ds μ Q E h
  unfold sp_m_is_digit at h
  repeat (first | (obtain ⟨rfl, _⟩ := h; rfl; done) | (obtain ⟨_, h⟩ := h))
theorem ok_m_is_digit (B : Fk w K mg base) {f : Addr} {fd : FuncData} (F : FunD K d_m_is_digit.name d_m_is_digit.qual d_m_is_digit.params d_m_is_digit.body d_m_is_digit.scope (d_m_is_digit.dvs K) (d_m_is_digit.kws K) f fd) : FnOk PG w K mg base (L2N.CX PG w) 3 f fd P_m_is_digit (liftSp K (xct K cs os) sp_m_is_digit) :=
  fnOk F sc_m_is_digit (B.b.gam (k := 2) (fs := []) (ms := []) (ps := []) (ks := []) (hs := []) (by decide) AllF.nil all0 all0 all0 all0) tr_m_is_digit ln_m_is_digit pf_m_is_digit
theorem at_m_is_digit (B : Fk w K mg base) : FnAt PG w K mg base (xct K cs os) 3 "is_digit" 1 [] sp_m_is_digit := by
  obtain ⟨fd, F⟩ := B.c.def_ 23 (d := d_m_is_digit) rfl
  exact FnAt.of (B.glo "is_digit" (by simp [fa])) F.kp (FunD.bindsN (ps := P_m_is_digit) F fun _ _ _ _ _ _ us hl => match us, hl with | [_], _ => rfl) (ok_m_is_digit B F)
abbrev s_m_is_name : Stmt := (top 46)
theorem tr_m_is_name : trSN (GG [⟨"is_digit", 1, [], false, sp_m_is_digit⟩, ⟨"is_letter", 1, [], false, sp_m_is_letter⟩] [] [] [] []) N_m_is_name (defScope s_m_is_name) [] false 30 60 none (defBody s_m_is_name) = some w_m_is_name := by kernel_rfl
theorem sc_m_is_name : FnScope N_m_is_name P_m_is_name (defScope s_m_is_name) := ⟨rfl, rfl, rfl, by decide +kernel, rfl, by decide +kernel, by decide +kernel⟩
theorem ln_m_is_name : ∀ ds μ Q E, sp_m_is_name ds μ Q E → ds.length = P_m_is_name.length := by
  intro ds μ Q E h
  unfold sp_m_is_name at h
  repeat (first | (obtain ⟨rfl, _⟩ := h; rfl; done) | (obtain ⟨_, h⟩ := h))
theorem ok_m_is_name (B : Fk w K mg base) {f : Addr} {fd : FuncData} (F : FunD K d_m_is_name.name d_m_is_name.qual d_m_is_name.params d_m_is_name.body d_m_is_name.scope (d_m_is_name.dvs K) (d_m_is_name.kws K) f fd) : FnOk PG w K mg base (L2N.CX PG w) 4 f fd P_m_is_name (liftSp K (xct K cs os) sp_m_is_name) :=
  fnOk F sc_m_is_name (B.b.gam (k := 3) (fs := [⟨"is_digit", 1, [], false, sp_m_is_digit⟩, ⟨"is_letter", 1, [], false, sp_m_is_letter⟩]) (ms := []) (ps := []) (ks := []) (hs := []) (by decide) (AllF.cons ((at_m_is_digit B).mono (by decide)) (AllF.cons ((at_m_is_letter B).mono (by decide)) AllF.nil)) all0 all0 all0 all0) tr_m_is_name ln_m_is_name pf_m_is_name
theorem at_m_is_name (B : Fk w K mg base) : FnAt PG w K mg base (xct K cs os) 4 "is_name" 1 [] sp_m_is_name := by
  obtain ⟨fd, F⟩ := B.c.def_ 24 (d := d_m_is_name) rfl
  exact FnAt.of (B.glo "is_name" (by simp [fa])) F.kp (FunD.bindsN (ps := P_m_is_name) F fun _ _ _ _ _ _ us hl => match us, hl with | [_], _ => rfl) (ok_m_is_name B F)
abbrev s_m_is_number : Stmt := (top 47)
theorem tr_m_is_number : trSN (GG [] [] [] [] []) N_m_is_number (defScope s_m_is_number) [] false 30 60 none (defBody s_m_is_number) = some w_m_is_number := by kernel_rfl
theorem sc_m_is_number : FnScope N_m_is_number P_m_is_number (defScope s_m_is_number) := ⟨rfl, rfl, rfl, by decide +kernel, rfl, by decide +kernel, by decide +kernel⟩
theorem ln_m_is_number : ∀ ds μ Q E, sp_m_is_number ds μ Q E → ds.length = P_m_is_number.length := by
  intro ds μ Q E h
  unfold sp_m_is_number at h
  repeat (first | (obtain ⟨rfl, _⟩ := h; rfl; done) | (obtain ⟨_, h⟩ := h))
theorem ok_m_is_number (B : Fk w K mg base) {f : Addr} {fd : FuncData} (F : FunD K d_m_is_number.name d_m_is_number.qual d_m_is_number.params d_m_is_number.body d_m_is_number.scope (d_m_is_number.dvs K) (d_m_is_number.kws K) f fd) : FnOk PG w K mg base (L2N.CX PG w) 3 f fd P_m_is_number (liftSp K (xct K cs os) sp_m_is_number) :=
  fnOk F sc_m_is_number (B.b.gam (k := 2) (fs := []) (ms := []) (ps := []) (ks := []) (hs := []) (by decide) AllF.nil all0 all0 all0 all0) tr_m_is_number ln_m_is_number pf_m_is_number
theorem at_m_is_number (B : Fk w K mg base) : FnAt PG w K mg base (xct K cs os) 3 "is_number" 1 [] sp_m_is_number := by
  obtain ⟨fd, F⟩ := B.c.def_ 25 (d := d_m_is_number) rfl
  exact FnAt.of (B.glo "is_number" (by simp [fa])) F.kp (FunD.bindsN (ps := P_m_is_number) F fun _ _ _ _ _ _ us hl => match us, hl with | [_], _ => rfl) (ok_m_is_number B F)
abbrev s_m_check_number : Stmt := (top 48)
theorem tr_m_check_number : trSN (GG [⟨"is_number", 1, [], false, sp_m_is_number⟩] [] [] [] []) N_m_check_number (defScope s_m_check_number) [] false 30 60 none (defBody s_m_check_number) = some w_m_check_number := by kernel_rfl
theorem sc_m_check_number : FnScope N_m_check_number P_m_check_number (defScope s_m_check_number) := ⟨rfl, rfl, rfl, by decide +kernel, rfl, by decide +kernel, by decide +kernel⟩
theorem ln_m_check_number : ∀ ds μ Q E, sp_m_check_number ds μ Q E → ds.length = P_m_check_number.length := by
  intro ds μ Q E h
  unfold sp_m_check_number at h
  repeat (first | (obtain ⟨rfl, _⟩ := h; rfl; done) | (obtain ⟨_, h⟩ := h))
theorem ok_m_check_number (B : Fk w K mg base) {f : Addr} {fd : FuncData} (F : FunD K d_m_check_number.name d_m_check_number.qual d_m_check_number.params d_m_check_number.body d_m_check_number.scope (d_m_check_number.dvs K) (d_m_check_number.kws K) f fd) : FnOk PG w K mg base (L2N.CX PG w) 4 f fd P_m_check_number (liftSp K (xct K cs os) sp_m_check_number) :=
  fnOk F sc_m_check_number (B.b.gam (k := 3) (fs := [⟨"is_number", 1, [], false, sp_m_is_number⟩]) (ms := []) (ps := []) (ks := []) (hs := []) (by decide) (AllF.cons ((at_m_is_number B).mono (by decide)) AllF.nil) all0 all0 all0 all0) tr_m_check_number ln_m_check_number pf_m_check_number
theorem at_m_check_number (B : Fk w K mg base) : FnAt PG w K mg base (xct K cs os) 4 "check_number" 4 [] sp_m_check_number := by
  obtain ⟨fd, F⟩ := B.c.def_ 26 (d := d_m_check_number) rfl
  exact FnAt.of (B.glo "check_number" (by simp [fa])) F.kp (FunD.bindsN (ps := P_m_check_number) F fun _ _ _ _ _ _ us hl => match us, hl with | [_, _, _, _], _ => rfl) (ok_m_check_number B F)
theorem at_m_check_number_least_most (B : Fk w K mg base) : FnAt PG w K mg base (xct K cs os) 4 "check_number" 2 ["least", "most"] sp_m_check_number_least_most := by
  obtain ⟨fd, F⟩ := B.c.def_ 26 (d := d_m_check_number) rfl
  exact FnAt.ofK (gD := id) (B.glo "check_number" (by simp [fa])) F.kp (kbP (ps := P_m_check_number) (n := 2) (ks := ["least", "most"]) F fun _ _ _ _ _ _ us ws h1 h2 => match us, ws, h1, h2 with | [_, _], [_, _], _, _ => rfl) (fun F ds vs zs h1 h2 h => h) (ok_m_check_number B F)
abbrev s_told_other : Stmt := (top 70)
theorem tr_told_other : trSN (GG [⟨"other_hand", 1, [], false, sp_m_other_hand⟩] [] [] [] [("_law_kinds", sp_kinds)]) N_told_other (defScope s_told_other) [] false 30 60 none (defBody s_told_other) = some w_told_other := by kernel_rfl
theorem sc_told_other : FnScope N_told_other P_told_other (defScope s_told_other) := ⟨rfl, rfl, rfl, by decide +kernel, rfl, by decide +kernel, by decide +kernel⟩
theorem ln_told_other : ∀ ds μ Q E, sp_told_other ds μ Q E → ds.length = P_told_other.length := by
  intro ds μ Q E h
  unfold sp_told_other at h
  repeat (first | (obtain ⟨rfl, _⟩ := h; rfl; done) | (obtain ⟨_, h⟩ := h))
theorem ok_told_other (B : Fk w K mg base) {f : Addr} {fd : FuncData} (F : FunD K d_told_other.name d_told_other.qual d_told_other.params d_told_other.body d_told_other.scope (d_told_other.dvs K) (d_told_other.kws K) f fd) : FnOk PG w K mg base (L2N.CX PG w) 5 f fd P_told_other (liftSp K (xct K cs os) sp_told_other) :=
  fnOk F sc_told_other (B.b.gam (k := 4) (fs := [⟨"other_hand", 1, [], false, sp_m_other_hand⟩]) (ms := []) (ps := []) (ks := []) (hs := [("_law_kinds", sp_kinds)]) (by decide) (AllF.cons ((at_m_other_hand B).mono (by decide)) AllF.nil) all0 all0 all0 (all1 ⟨3, by decide, at_kinds B⟩ all0)) tr_told_other ln_told_other pf_told_other
theorem at_told_other (B : Fk w K mg base) : FnAt PG w K mg base (xct K cs os) 5 "_law_told_other" 1 [] sp_told_other := by
  obtain ⟨fd, F⟩ := B.c.def_ 27 (d := d_told_other) rfl
  exact FnAt.of (B.glo "_law_told_other" (by simp [fa])) F.kp (FunD.bindsN (ps := P_told_other) F fun _ _ _ _ _ _ us hl => match us, hl with | [_], _ => rfl) (ok_told_other B F)
abbrev s_told_sign : Stmt := (top 71)
theorem tr_told_sign : trSN (GG [⟨"sign_of", 1, [], false, sp_m_sign_of⟩] [] [] [] [("_law_kinds", sp_kinds)]) N_told_sign (defScope s_told_sign) [] false 30 60 none (defBody s_told_sign) = some w_told_sign := by kernel_rfl
theorem sc_told_sign : FnScope N_told_sign P_told_sign (defScope s_told_sign) := ⟨rfl, rfl, rfl, by decide +kernel, rfl, by decide +kernel, by decide +kernel⟩
theorem ln_told_sign : ∀ ds μ Q E, sp_told_sign ds μ Q E → ds.length = P_told_sign.length := by
  intro ds μ Q E h
  unfold sp_told_sign at h
  repeat (first | (obtain ⟨rfl, _⟩ := h; rfl; done) | (obtain ⟨_, h⟩ := h))
theorem ok_told_sign (B : Fk w K mg base) {f : Addr} {fd : FuncData} (F : FunD K d_told_sign.name d_told_sign.qual d_told_sign.params d_told_sign.body d_told_sign.scope (d_told_sign.dvs K) (d_told_sign.kws K) f fd) : FnOk PG w K mg base (L2N.CX PG w) 5 f fd P_told_sign (liftSp K (xct K cs os) sp_told_sign) :=
  fnOk F sc_told_sign (B.b.gam (k := 4) (fs := [⟨"sign_of", 1, [], false, sp_m_sign_of⟩]) (ms := []) (ps := []) (ks := []) (hs := [("_law_kinds", sp_kinds)]) (by decide) (AllF.cons ((at_m_sign_of B).mono (by decide)) AllF.nil) all0 all0 all0 (all1 ⟨3, by decide, at_kinds B⟩ all0)) tr_told_sign ln_told_sign pf_told_sign
theorem at_told_sign (B : Fk w K mg base) : FnAt PG w K mg base (xct K cs os) 5 "_law_told_sign" 1 [] sp_told_sign := by
  obtain ⟨fd, F⟩ := B.c.def_ 28 (d := d_told_sign) rfl
  exact FnAt.of (B.glo "_law_told_sign" (by simp [fa])) F.kp (FunD.bindsN (ps := P_told_sign) F fun _ _ _ _ _ _ us hl => match us, hl with | [_], _ => rfl) (ok_told_sign B F)
abbrev s_told_check : Stmt := (top 72)
theorem tr_told_check : trSN (GG [⟨"check_number", 2, ["least", "most"], false, sp_m_check_number_least_most⟩] [] [] [] [("_law_kinds", sp_kinds)]) N_told_check (defScope s_told_check) [] false 30 60 none (defBody s_told_check) = some w_told_check := by kernel_rfl
theorem sc_told_check : FnScope N_told_check P_told_check (defScope s_told_check) := ⟨rfl, rfl, rfl, by decide +kernel, rfl, by decide +kernel, by decide +kernel⟩
theorem ln_told_check : ∀ ds μ Q E, sp_told_check ds μ Q E → ds.length = P_told_check.length := by
  intro ds μ Q E h
  unfold sp_told_check at h
  repeat (first | (obtain ⟨rfl, _⟩ := h; rfl; done) | (obtain ⟨_, h⟩ := h))
theorem ok_told_check (B : Fk w K mg base) {f : Addr} {fd : FuncData} (F : FunD K d_told_check.name d_told_check.qual d_told_check.params d_told_check.body d_told_check.scope (d_told_check.dvs K) (d_told_check.kws K) f fd) : FnOk PG w K mg base (L2N.CX PG w) 5 f fd P_told_check (liftSp K (xct K cs os) sp_told_check) :=
  fnOk F sc_told_check (B.b.gam (k := 4) (fs := [⟨"check_number", 2, ["least", "most"], false, sp_m_check_number_least_most⟩]) (ms := []) (ps := []) (ks := []) (hs := [("_law_kinds", sp_kinds)]) (by decide) (AllF.cons ((at_m_check_number_least_most B).mono (by decide)) AllF.nil) all0 all0 all0 (all1 ⟨3, by decide, at_kinds B⟩ all0)) tr_told_check ln_told_check pf_told_check
theorem at_told_check (B : Fk w K mg base) : FnAt PG w K mg base (xct K cs os) 5 "_law_told_check" 4 [] sp_told_check := by
  obtain ⟨fd, F⟩ := B.c.def_ 29 (d := d_told_check) rfl
  exact FnAt.of (B.glo "_law_told_check" (by simp [fa])) F.kp (FunD.bindsN (ps := P_told_check) F fun _ _ _ _ _ _ us hl => match us, hl with | [_, _, _, _], _ => rfl) (ok_told_check B F)
abbrev s_text_good : Stmt := (top 73)
theorem tr_text_good : trSN (GG [⟨"_law_same", 2, [], false, (sp_sameN 3)⟩, ⟨"_law_named", 1, [], false, sp_named⟩, ⟨"is_name", 1, [], false, sp_m_is_name⟩, ⟨"hand_of", 1, [], false, sp_m_hand_of⟩, ⟨"_law_told_sign", 1, [], false, sp_told_sign⟩, ⟨"_law_told_other", 1, [], false, sp_told_other⟩, ⟨"_law_due", 2, [], false, sp_due⟩] [] [] [] []) N_text_good (defScope s_text_good) [] false 30 60 none (defBody s_text_good) = some w_text_good := by kernel_rfl
theorem sc_text_good : FnScope N_text_good P_text_good (defScope s_text_good) := ⟨rfl, rfl, rfl, by decide +kernel, rfl, by decide +kernel, by decide +kernel⟩
theorem ln_text_good : ∀ ds μ Q E, sp_text_good ds μ Q E → ds.length = P_text_good.length := by
  intro ds μ Q E h
  unfold sp_text_good at h
  repeat (first | (obtain ⟨rfl, _⟩ := h; rfl; done) | (obtain ⟨_, h⟩ := h))
theorem ok_text_good (B : Fk w K mg base) {f : Addr} {fd : FuncData} (F : FunD K d_text_good.name d_text_good.qual d_text_good.params d_text_good.body d_text_good.scope (d_text_good.dvs K) (d_text_good.kws K) f fd) : FnOk PG w K mg base (L2N.CX PG w) 10 f fd P_text_good (liftSp K (xct K cs os) sp_text_good) :=
  fnOk F sc_text_good (B.b.gam (k := 9) (fs := [⟨"_law_same", 2, [], false, (sp_sameN 3)⟩, ⟨"_law_named", 1, [], false, sp_named⟩, ⟨"is_name", 1, [], false, sp_m_is_name⟩, ⟨"hand_of", 1, [], false, sp_m_hand_of⟩, ⟨"_law_told_sign", 1, [], false, sp_told_sign⟩, ⟨"_law_told_other", 1, [], false, sp_told_other⟩, ⟨"_law_due", 2, [], false, sp_due⟩]) (ms := []) (ps := []) (ks := []) (hs := []) (by decide) (AllF.cons ((at_same_a3 B).mono (by decide)) (AllF.cons ((at_named B).mono (by decide)) (AllF.cons ((at_m_is_name B).mono (by decide)) (AllF.cons ((at_m_hand_of B).mono (by decide)) (AllF.cons ((at_told_sign B).mono (by decide)) (AllF.cons ((at_told_other B).mono (by decide)) (AllF.cons ((at_due B).mono (by decide)) AllF.nil))))))) all0 all0 all0 all0) tr_text_good ln_text_good pf_text_good
theorem at_text_good (B : Fk w K mg base) : FnAt PG w K mg base (xct K cs os) 10 "_law_text_good" 1 [] sp_text_good := by
  obtain ⟨fd, F⟩ := B.c.def_ 30 (d := d_text_good) rfl
  exact FnAt.of (B.glo "_law_text_good" (by simp [fa])) F.kp (FunD.bindsN (ps := P_text_good) F fun _ _ _ _ _ _ us hl => match us, hl with | [_], _ => rfl) (ok_text_good B F)
abbrev s_number_good : Stmt := (top 74)
theorem tr_number_good : trSN (GG [⟨"_law_same", 2, [], false, (sp_sameN 3)⟩, ⟨"_law_told_check", 4, [], false, sp_told_check⟩, ⟨"is_number", 1, [], false, sp_m_is_number⟩, ⟨"_law_due", 2, [], false, sp_due⟩] [] [] [] []) N_number_good (defScope s_number_good) [] false 30 60 none (defBody s_number_good) = some w_number_good := by kernel_rfl
theorem sc_number_good : FnScope N_number_good P_number_good (defScope s_number_good) := ⟨rfl, rfl, rfl, by decide +kernel, rfl, by decide +kernel, by decide +kernel⟩
theorem ln_number_good : ∀ ds μ Q E, sp_number_good ds μ Q E → ds.length = P_number_good.length := by
  intro ds μ Q E h
  unfold sp_number_good at h
  repeat (first | (obtain ⟨rfl, _⟩ := h; rfl; done) | (obtain ⟨_, h⟩ := h))
theorem ok_number_good (B : Fk w K mg base) {f : Addr} {fd : FuncData} (F : FunD K d_number_good.name d_number_good.qual d_number_good.params d_number_good.body d_number_good.scope (d_number_good.dvs K) (d_number_good.kws K) f fd) : FnOk PG w K mg base (L2N.CX PG w) 10 f fd P_number_good (liftSp K (xct K cs os) sp_number_good) :=
  fnOk F sc_number_good (B.b.gam (k := 9) (fs := [⟨"_law_same", 2, [], false, (sp_sameN 3)⟩, ⟨"_law_told_check", 4, [], false, sp_told_check⟩, ⟨"is_number", 1, [], false, sp_m_is_number⟩, ⟨"_law_due", 2, [], false, sp_due⟩]) (ms := []) (ps := []) (ks := []) (hs := []) (by decide) (AllF.cons ((at_same_a3 B).mono (by decide)) (AllF.cons ((at_told_check B).mono (by decide)) (AllF.cons ((at_m_is_number B).mono (by decide)) (AllF.cons ((at_due B).mono (by decide)) AllF.nil)))) all0 all0 all0 all0) tr_number_good ln_number_good pf_number_good
theorem at_number_good (B : Fk w K mg base) : FnAt PG w K mg base (xct K cs os) 10 "_law_number_good" 5 [] sp_number_good := by
  obtain ⟨fd, F⟩ := B.c.def_ 31 (d := d_number_good) rfl
  exact FnAt.of (B.glo "_law_number_good" (by simp [fa])) F.kp (FunD.bindsN (ps := P_number_good) F fun _ _ _ _ _ _ us hl => match us, hl with | [_, _, _, _, _], _ => rfl) (ok_number_good B F)
abbrev s_constants : Stmt := (top 75)
theorem tr_constants : trSN (GG [⟨"_law_same", 2, [], false, (sp_sameN 3)⟩] [] [] [] []) N_constants (defScope s_constants) [] false 30 60 none (defBody s_constants) = some w_constants := by kernel_rfl
theorem sc_constants : FnScope N_constants P_constants (defScope s_constants) := ⟨rfl, rfl, rfl, by decide +kernel, rfl, by decide +kernel, by decide +kernel⟩
theorem ln_constants : ∀ ds μ Q E, sp_constants ds μ Q E → ds.length = P_constants.length := by
  intro ds μ Q E h
  unfold sp_constants at h
  repeat (first | (obtain ⟨rfl, _⟩ := h; rfl; done) | (obtain ⟨_, h⟩ := h))
theorem ok_constants (B : Fk w K mg base) {f : Addr} {fd : FuncData} (F : FunD K d_constants.name d_constants.qual d_constants.params d_constants.body d_constants.scope (d_constants.dvs K) (d_constants.kws K) f fd) : FnOk PG w K mg base (L2N.CX PG w) 10 f fd P_constants (liftSp K (xct K cs os) sp_constants) :=
  fnOk F sc_constants (B.b.gam (k := 9) (fs := [⟨"_law_same", 2, [], false, (sp_sameN 3)⟩]) (ms := []) (ps := []) (ks := []) (hs := []) (by decide) (AllF.cons ((at_same_a3 B).mono (by decide)) AllF.nil) all0 all0 all0 all0) tr_constants ln_constants pf_constants
theorem at_constants (B : Fk w K mg base) : FnAt PG w K mg base (xct K cs os) 10 "_law_constants" 0 [] sp_constants := by
  obtain ⟨fd, F⟩ := B.c.def_ 32 (d := d_constants) rfl
  exact FnAt.of (B.glo "_law_constants" (by simp [fa])) F.kp (FunD.bindsN (ps := P_constants) F fun _ _ _ _ _ _ us hl => match us, hl with | [], _ => rfl) (ok_constants B F)
abbrev s_law : Stmt := (top 76)
theorem tr_law : trSN (GG [⟨"_law_constants", 0, [], false, sp_constants⟩, ⟨"_law_number_good", 5, [], false, sp_number_good⟩, ⟨"_law_text_good", 1, [], false, sp_text_good⟩, ⟨"_law_pick", 2, [], false, sp_pickB⟩, ⟨"_law_near", 3, [], false, sp_near⟩, ⟨"_law_number", 3, [], false, sp_number⟩, ⟨"_law_shuffled", 2, [], false, sp_shuffled⟩, ⟨"_law_any_text", 1, [], false, sp_any_text⟩, ⟨"_law_store", 1, [], true, sp_store⟩] [] [] [] []) N_law (defScope s_law) ["_law_asks"] false 30 60 none (defBody s_law) = some w_law := by kernel_rfl
theorem sc_law : FnScope N_law P_law (defScope s_law) := ⟨rfl, rfl, rfl, by decide +kernel, rfl, by decide +kernel, by decide +kernel⟩
theorem ln_law : ∀ ds μ Q E, sp_law ds μ Q E → ds.length = P_law.length := by
  intro ds μ Q E h
  unfold sp_law at h
  repeat (first | (obtain ⟨rfl, _⟩ := h; rfl; done) | (obtain ⟨_, h⟩ := h))
theorem ok_law (B : Fk w K mg base) {f : Addr} {fd : FuncData} (F : FunD K d_law.name d_law.qual d_law.params d_law.body d_law.scope (d_law.dvs K) (d_law.kws K) f fd) : FnOk PG w K mg base (L2N.CX PG w) 11 f fd P_law (liftSp K (xct K cs os) sp_law) :=
  fnOk F sc_law (B.b.gam (k := 10) (fs := [⟨"_law_constants", 0, [], false, sp_constants⟩, ⟨"_law_number_good", 5, [], false, sp_number_good⟩, ⟨"_law_text_good", 1, [], false, sp_text_good⟩, ⟨"_law_pick", 2, [], false, sp_pickB⟩, ⟨"_law_near", 3, [], false, sp_near⟩, ⟨"_law_number", 3, [], false, sp_number⟩, ⟨"_law_shuffled", 2, [], false, sp_shuffled⟩, ⟨"_law_any_text", 1, [], false, sp_any_text⟩, ⟨"_law_store", 1, [], true, sp_store⟩]) (ms := []) (ps := []) (ks := []) (hs := []) (by decide) (AllF.cons ((at_constants B).mono (by decide)) (AllF.cons ((at_number_good B).mono (by decide)) (AllF.cons ((at_text_good B).mono (by decide)) (AllF.cons ((at_pickB B).mono (by decide)) (AllF.cons ((at_near B).mono (by decide)) (AllF.cons ((at_number B).mono (by decide)) (AllF.cons ((at_shuffled B).mono (by decide)) (AllF.cons ((at_any_text B).mono (by decide)) (AllF.cons ((at_store B).mono (by decide)) AllF.nil))))))))) all0 all0 all0 all0) tr_law ln_law pf_law
theorem at_law (B : Fk w K mg base) : FnAt PG w K mg base (xct K cs os) 11 "law" 1 [] sp_law := by
  obtain ⟨fd, F⟩ := B.c.def_ 33 (d := d_law) rfl
  exact FnAt.of (B.glo "law" (by simp [fa])) F.kp (FunD.bindsN (ps := P_law) F fun _ _ _ _ _ _ us hl => match us, hl with | [_], _ => rfl) (ok_law B F)
end
/-! the k of the law: 11 -/
theorem bs {w : World} {K : PySem.W.Frag} {mg : Str → Option Value} {base h : Heap} (X : K.In h) (G : h.Ns mainGlobals mg) (c : He.SaysD fa fn K) (m : ex K = true) : Fk w K mg base := by
  have gl : ∀ x, He.Fa.glo x ∈ fa → mg x = some (.ref (He.ga K x)) := fun x hx => He.glo_ok X G (c.facts hx)
  unfold ex at m
  simp only [Bool.and_eq_true, decide_eq_true_eq] at m
  obtain ⟨mc_NoHand, mc_BadNumber, ms_BadRow, ms_NothingDone, ms_BadDeed, ms_ComesBack, ms_SelfTaking, ms_Occupied, ms_GameOver, ms_Falls, ms_Stands, ms_NoStone, ms_NotRight, ms_BadMap, ms_BadTree, ms_BadText, ms_BadSigns, ms_Repeated, ms_SelfTie, ms_NoPlace, ms_NoEntry, ms_TooMany, ms_BadName, ms_NoHand, ms_BadNumber, ms_TworoomsError, ms_ValueError, ⟨mi_NoHand, mj_NoHand⟩, ⟨mi_BadNumber, mj_BadNumber⟩, mt_HANDS, _⟩ := m
  refine ⟨c, gl, ⟨?_, ?_, ?_, ?_, ?_, ?_⟩⟩
  · intro q hq
    simp only [consts, List.mem_cons, List.not_mem_nil, or_false] at hq
    rcases hq with rfl | rfl | rfl | rfl | rfl | rfl | rfl | rfl | rfl | rfl | rfl | rfl | rfl | rfl | rfl
    · exact con_str (He.str_ok X G (c.facts (by simp [fa])))
    · exact con_str (He.str_ok X G (c.facts (by simp [fa])))
    · exact con_int (He.int_ok X G (c.facts (by simp [fa])))
    · exact con_int (He.int_ok X G (c.facts (by simp [fa])))
    · exact con_int (He.int_ok X G (c.facts (by simp [fa])))
    · exact con_int (He.int_ok X G (c.facts (by simp [fa])))
    · exact con_int (He.int_ok X G (c.facts (by simp [fa])))
    · exact con_int (He.int_ok X G (c.facts (by simp [fa])))
    · exact con_int (He.int_ok X G (c.facts (by simp [fa])))
    · exact con_int (He.int_ok X G (c.facts (by simp [fa])))
    · exact con_int (He.int_ok X G (c.facts (by simp [fa])))
    · exact con_int (He.int_ok X G (c.facts (by simp [fa])))
    · exact con_str (He.str_ok X G (c.facts (by simp [fa])))
    · exact con_str (He.str_ok X G (c.facts (by simp [fa])))
    · exact con_tup (gl _ (by simp [fa])) mt_HANDS
  · intro x hx
    refine He.free_ok X G (c.facts ?_)
    simp only [biNames, List.mem_cons, List.not_mem_nil, or_false] at hx
    rcases hx with rfl | rfl | rfl | rfl | rfl | rfl | rfl | rfl | rfl | rfl | rfl | rfl | rfl | rfl | rfl | rfl | rfl | rfl | rfl | rfl | rfl | rfl | rfl | rfl <;> simp [fa]
  · intro q hq
    simp only [raises, List.mem_cons, List.not_mem_nil, or_false] at hq
    rcases hq with rfl | rfl
    · obtain ⟨fd, F⟩ := c.def_ 35 (d := d_init_NoHand) rfl
      have hx : XCls K mg "NoHand" (He.ga K "NoHand") fl_NoHand := xclB_ok (gl _ (by simp [fa])) mc_NoHand
      exact xmk1 (qual := d_init_NoHand.qual) (params := d_init_NoHand.params) (body := d_init_NoHand.body) (scope := d_init_NoHand.scope) (show (if memB "NoHand" cs = true then some (He.ga K "NoHand") else none) = _ from if_pos (by decide +kernel)) ⟨hx.g, hx.o, hx.f, hx.e, fun f hf => hx.no f (by simp only [List.mem_cons, List.not_mem_nil, or_false] at hf; rcases hf with rfl <;> simp [fl_NoHand])⟩ mi_NoHand mj_NoHand F ⟨rfl, rfl, rfl, by decide +kernel, rfl, by decide +kernel, by decide +kernel⟩ ⟨_, _, _, _, rfl⟩ (FunD.bindsN (ps := ["self", "hand"]) F fun _ _ _ _ _ _ us hl => match us, hl with | [_, _], _ => rfl) rfl rfl
    · obtain ⟨fd, F⟩ := c.def_ 36 (d := d_init_BadNumber) rfl
      have hx : XCls K mg "BadNumber" (He.ga K "BadNumber") fl_BadNumber := xclB_ok (gl _ (by simp [fa])) mc_BadNumber
      exact xmk2 (qual := d_init_BadNumber.qual) (params := d_init_BadNumber.params) (body := d_init_BadNumber.body) (scope := d_init_BadNumber.scope) (show (if memB "BadNumber" cs = true then some (He.ga K "BadNumber") else none) = _ from if_pos (by decide +kernel)) ⟨hx.g, hx.o, hx.f, hx.e, fun f hf => hx.no f (by simp only [List.mem_cons, List.not_mem_nil, or_false] at hf; rcases hf with rfl | rfl <;> simp [fl_BadNumber])⟩ mi_BadNumber mj_BadNumber F ⟨rfl, rfl, rfl, by decide +kernel, rfl, by decide +kernel, by decide +kernel⟩ ⟨_, _, _, _, _, _, _, _, rfl⟩ (FunD.bindsN (ps := ["self", "what", "value"]) F fun _ _ _ _ _ _ us hl => match us, hl with | [_, _, _], _ => rfl) rfl rfl rfl rfl
  · intro q hq
    simp only [subs, List.mem_cons, List.not_mem_nil, or_false] at hq
    rcases hq with rfl | rfl | rfl | rfl | rfl | rfl | rfl | rfl | rfl | rfl | rfl | rfl | rfl | rfl | rfl | rfl | rfl | rfl | rfl | rfl | rfl | rfl | rfl | rfl | rfl
    · exact subB_ok (gl _ (by simp [fa])) ms_BadRow
    · exact subB_ok (gl _ (by simp [fa])) ms_NothingDone
    · exact subB_ok (gl _ (by simp [fa])) ms_BadDeed
    · exact subB_ok (gl _ (by simp [fa])) ms_ComesBack
    · exact subB_ok (gl _ (by simp [fa])) ms_SelfTaking
    · exact subB_ok (gl _ (by simp [fa])) ms_Occupied
    · exact subB_ok (gl _ (by simp [fa])) ms_GameOver
    · exact subB_ok (gl _ (by simp [fa])) ms_Falls
    · exact subB_ok (gl _ (by simp [fa])) ms_Stands
    · exact subB_ok (gl _ (by simp [fa])) ms_NoStone
    · exact subB_ok (gl _ (by simp [fa])) ms_NotRight
    · exact subB_ok (gl _ (by simp [fa])) ms_BadMap
    · exact subB_ok (gl _ (by simp [fa])) ms_BadTree
    · exact subB_ok (gl _ (by simp [fa])) ms_BadText
    · exact subB_ok (gl _ (by simp [fa])) ms_BadSigns
    · exact subB_ok (gl _ (by simp [fa])) ms_Repeated
    · exact subB_ok (gl _ (by simp [fa])) ms_SelfTie
    · exact subB_ok (gl _ (by simp [fa])) ms_NoPlace
    · exact subB_ok (gl _ (by simp [fa])) ms_NoEntry
    · exact subB_ok (gl _ (by simp [fa])) ms_TooMany
    · exact subB_ok (gl _ (by simp [fa])) ms_BadName
    · exact subB_ok (gl _ (by simp [fa])) ms_NoHand
    · exact subB_ok (gl _ (by simp [fa])) ms_BadNumber
    · exact subB_ok (gl _ (by simp [fa])) ms_TworoomsError
    · exact subV_ok (He.free_ok X G (c.facts (by simp [fa]))) rfl ms_ValueError
  · intro c' ca hc
    obtain ⟨h1, rfl⟩ := xct_ok hc
    simp only [cs, List.mem_cons, List.not_mem_nil, or_false] at h1
    rcases h1 with rfl | rfl
    · have hx : XCls K mg "NoHand" (He.ga K "NoHand") fl_NoHand := xclB_ok (gl _ (by simp [fa])) mc_NoHand
      exact ⟨hx.f, hx.e, fun f hf => hx.no f (by simp only [flds, List.mem_cons, List.not_mem_nil, or_false] at hf; rcases hf with rfl | rfl | rfl <;> simp [fl_NoHand])⟩
    · have hx : XCls K mg "BadNumber" (He.ga K "BadNumber") fl_BadNumber := xclB_ok (gl _ (by simp [fa])) mc_BadNumber
      exact ⟨hx.f, hx.e, fun f hf => hx.no f (by simp only [flds, List.mem_cons, List.not_mem_nil, or_false] at hf; rcases hf with rfl | rfl | rfl <;> simp [fl_BadNumber])⟩
  · intro c' ca hc
    obtain ⟨h1, rfl⟩ := xct_cls hc
    cases h1
theorem no_cx {w : World} {H : Hp} {s : Shared} {e : Value} {s' : Shared} (z : L2N.CX PG w [] H s (fun _ _ _ => False) e s') : False := by
  obtain ⟨a, B, H', cls, d, _, _, _, _, _, _, _, h⟩ := z
  exact h
theorem at_head {w : World} {K : PySem.W.Frag} {mg : Str → Option Value} {fa' : Addr} {h : Heap} (X : K.In h) (G : h.Ns mainGlobals mg) (c : SaysY fa fn gt ex w h K) (hmg : mg ("law" : Str) = some (.ref fa')) : LamX.LawAtS PySem.Challenge.rw_tworooms_k00_names_hands_and_numbers w K (L2N.CX PG w) 11 63 "_law_script" mg fa' h := by
  obtain ⟨fd, F⟩ := c.x.t.d.def_ 33 (d := d_law) rfl
  have B : ∀ base, Fk w K mg base := fun base => bs X G c.x.t.d c.x.more
  have e : fa' = He.fAd K d_law.at_ := by
    have := hmg.symm.trans ((B h).glo "law" (by simp [fa]))
    cases this
    rfl
  subst e
  have b := FunD.bindsA (ps := ["_law_script"]) F fun _ _ _ _ _ _ us hl => match us, hl with | [_], _ => rfl
  exact ⟨fd, [], liftSp K (xct K cs os) sp_law, fun _ hp => (by cases hp), fun _ hp => (by cases hp), fun _ hp => (by cases hp), fun s u => b s [u] rfl,
    fun H a ns hl hb _ hS => law_sp (fun ns h1 h2 μ Q E q => ⟨ns, rfl, h1, h2, q⟩) (by decide) H a ns hl hb hS, fun base _ _ _ => ok_law (B base) F⟩
end K00
open PySem PySem.W PySem.Calls PyProof.Rows
theorem PySem.Challenge.cw_tworooms_k00_names_hands_and_numbers_holds : PySem.Challenge.rw_tworooms_k00_names_hands_and_numbers.Holds := by
  w_on; o_law
  refine HandSHeadRun.head_any (r := OpenLaw.row PySem.Challenge.rw_tworooms_k00_names_hands_and_numbers) (q := view (OpenLaw.row PySem.Challenge.rw_tworooms_k00_names_hands_and_numbers).prog [76]) (H := K00Y.hk) (ob := K00Y.ob) (M := 8000) (loose := K00Y.loose) (d := HandSHeadRun.topDef (OpenLaw.row PySem.Challenge.rw_tworooms_k00_names_hands_and_numbers).prog 76) (kwd := []) K00Y.ob_eq
    (by kernel_rfl) (fun s => by kernel_rfl) K00Y.run (by kernel_rfl) (by kernel_rfl) (by kernel_rfl) (by rfl) (by first | assumption | decide +kernel) (by decide +kernel) ⟨rfl, rfl, rfl, rfl, rfl, by decide +kernel⟩ ?hw ?hc
  case hw => w_witness2
  case hc =>
    refine LamX.walk_ofTsE (l := PySem.Challenge.rw_tworooms_k00_names_hands_and_numbers) (n := 63) (k := 11) (x := "_law_script") (CX := fun w => L2N.CX K00.PG w) rfl (by decide) (by kernel_rfl) ⟨rfl, by decide, by decide⟩ ?F (fun _ _ _ _ _ z => K00.no_cx z)
    intro w mg fa h Y G hmg0
    obtain ⟨K, KX, c⟩ := Y
    have hmg : mg ("law" : PySem.Str) = some (.ref fa) := by
      have e : (HandSHeadRun.topDef (OpenLaw.row PySem.Challenge.rw_tworooms_k00_names_hands_and_numbers).prog 76).name = ("law" : PySem.Str) := by kernel_rfl
      rw [← e]
      exact hmg0
    exact ⟨K, KX, K00.at_head KX G c hmg⟩

