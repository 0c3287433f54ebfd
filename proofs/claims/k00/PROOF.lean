import PyProof.Rows.All
import Wide.All
import OpenK.AllK
import Wide.FinOn
import HandS.HeadHook4
import HandS.HeadWalk
import KE.KExcInit
import KE.KExcIs
import KE.KIsAll
import HandS.HeadHook1
import KE.KStateDown
import HandS.Base
import HandS.Call
import HandS.Ends
import HandS.More
import HandS.Words
import HandS.WordsExc
import HandS.Defaults
import HandS.Head0
import HandS.Head1
import HandS.Head2
import HandS.HeadHook2
import PyProof.ReprReads
import HandS.ForMost
import HandS.ForExc
import HandS.Walk
import HandS.Flow
import HandS.Style
import HandS.IsInst
import HandS.TupAny
import HandS.Rev
import HandS.Codes
import HandS.Lambda
import HandS.ExcInit
import HandS.ExcValue
import KE.DataEq
import HandS.TupMul
import KE.GoesMore
import KE.GoesEnum
import HandS.Zip
import HandS.ExcOwn
import HandS.ForDict
import HandS.ExcIs
import HandS.TryOnly
import HandS.ExcField
import KE.KDictDisplayH
import HandS.HotCalls
import PySem.Challenge.RW_fewmarks_k00_errors
/-! part TwH -/
section
set_option Elab.async false
set_option linter.all false
set_option maxRecDepth 100000
/-! TwH: the head's hook, that tells of the dict of the modules too. -/
namespace TwH
open PySem PySem.Spec PyProof.Rows L2
/-- the dict of the modules, as it is laid -/
def SysD (h : Heap) : Prop := ∃ (o : Obj) (es : Array DictEntry) (n : Nat), h.get? sysModules = some o ∧ o.cls = .type "dict" ∧ o.data = .dict es n
theorem SysD.b1 {h : Heap} (s : SysD h) : ∃ o, h.get? sysModules = some o ∧ o.cls = .type "dict" := let ⟨o, _, _, h1, h2, _⟩ := s; ⟨o, h1, h2⟩
def sysB (g : Addr → Option Obj) : Bool := match g sysModules with
  | some ⟨.type c, _, .dict _ _, _⟩ => decide (c = "dict")
  | _ => false
theorem sysB_ok {h : Heap} (e : sysB h.get? = true) : SysD h := by
  unfold sysB at e
  cases q : h.get? sysModules with
  | none => rw [q] at e; cases e
  | some o =>
    obtain ⟨oc, od, dt, osl⟩ := o
    rw [q] at e
    cases oc with
    | type c =>
      cases dt with
      | dict es n => exact ⟨_, es, n, q, by rw [of_decide_eq_true e], rfl⟩
      | _ => cases e
    | _ => cases dt <;> cases e
/-! ### a smaller part of the heap: what the wanted names reach -/
def growN (g : Addr → Option Obj) : Nat → List Addr → List Addr
  | 0, as => as
  | n + 1, as => growN g n (He.growG g as)
def asN (need : List PySem.Str) (n : Nat) (g : Addr → Option Obj) : List Addr := mainGlobals :: growN g n (need.map fun x => He.ga (He.frG g [mainGlobals]) x)
theorem saysX_gen {fa : List He.Fa} {fn : List He.DefD} {ts : List He.Tab} {tf : List He.Defn} {ex : PySem.W.Frag → Bool} {w : World} {h : Heap} {as : List Addr} (e1 : He.obsT fa fn ts (He.frT h.get? as) = He.valT fn ts w) (h1 : ex (He.frT h.get? as) = true) (h2 : He.tabsB h.get? tf (He.frT h.get? as) = true) :
    He.SaysX fa fn ts tf ex w h (He.frT h.get? as) := by
  have key : ∀ p ∈ tf, PySem.W.codeHdIn (He.frT h.get? as) (He.cT (He.frT h.get? as) p).1 (He.cT (He.frT h.get? as) p).2 = true ∧ ∃ o, h.get? (He.cT (He.frT h.get? as) p).2 = some o ∧ He.emptyTab o = true := fun p hp => by
    obtain ⟨h3, h4⟩ := Bool.and_eq_true_iff.mp (List.all_eq_true.mp h2 p hp)
    refine ⟨h3, ?_⟩
    cases q : h.get? (He.cT (He.frT h.get? as) p).2 with
    | none => rw [q] at h4; cases h4
    | some o => rw [q] at h4; exact ⟨o, rfl, h4⟩
  refine ⟨e1, h1, fun p hp => (key p hp).1, fun p hp => ?_, fun p hp => ?_⟩
  · obtain ⟨_, o, q, z⟩ := key p hp
    exact He.frT_none q z
  · obtain ⟨_, o, q, z⟩ := key p hp
    rw [q, He.emptyTab_eq z]
abbrev AlY : Type := He.AlX × Bool
def obsY (need : List PySem.Str) (n : Nat) (fa : List He.Fa) (fn : List He.DefD) (ts : List He.Tab) (tf : List He.Defn) (ex : PySem.W.Frag → Bool) (g : Addr → Option Obj) : AlY := ((He.obsT fa fn ts (He.frT g (asN need n g)), ex (He.frT g (asN need n g)) && He.tabsB g tf (He.frT g (asN need n g))), sysB g)
def valY (fn : List He.DefD) (ts : List He.Tab) (w : World) : AlY := (He.valX fn ts w, true)
def hookY (need : List PySem.Str) (n : Nat) (fa : List He.Fa) (fn : List He.DefD) (ts : List He.Tab) (tf : List He.Defn) (ex : PySem.W.Frag → Bool) : PySem.W.Hook where
  α := AlY
  obs := fun s => obsY need n fa fn ts tf ex s.heap.get?
  val := fun w => valY fn ts w
  says := fun w h => ∃ K : PySem.W.Frag, K.In h ∧ He.SaysX fa fn ts tf ex w h K ∧ SysD h
  of := fun w s e => by
    have e2 : (ex (He.frT s.heap.get? (asN need n s.heap.get?)) && He.tabsB s.heap.get? tf (He.frT s.heap.get? (asN need n s.heap.get?))) = true := congrArg (fun z : AlY => z.1.2) e
    obtain ⟨h1, h2⟩ := Bool.and_eq_true_iff.mp e2
    exact ⟨_, He.frT_in, saysX_gen (congrArg (fun z : AlY => z.1.1) e) h1 h2, sysB_ok (congrArg (fun z : AlY => z.2) e)⟩
  keeps := fun _ _ _ ⟨K, hK, c, o, es, n, h1, h2, h3⟩ k => ⟨K, PySem.W.Frag.In.keeps hK k, ⟨c.t, c.more, c.hd, c.out, fun p hp => k _ _ (c.empty p hp)⟩, o, es, n, k _ _ h1, h2, h3⟩
theorem obsY_eq {need : List PySem.Str} {n : Nat} {fa : List He.Fa} {fn : List He.DefD} {ts : List He.Tab} {tf : List He.Defn} {ex : PySem.W.Frag → Bool} {g : Addr → Option Obj} {s : Shared} (h : ∀ a, g a = s.heap.get? a) : obsY need n fa fn ts tf ex g = (hookY need n fa fn ts tf ex).obs s := by
  have e : g = s.heap.get? := funext h
  rw [e] <;> rfl
end TwH
end
/-! part TwI -/
section
set_option Elab.async false
set_option linter.all false
set_option maxRecDepth 100000
/-! TwI: what a law's head asks of exception classes, as Bools. -/
namespace TwI
open PySem
/-- isinstance asks this of the class of the thing -/
def isB (K : W.Frag) (C : Addr) : Bool := (W.clsIn K C).isSome && decide (W.findIn K (.ref C) "__getattribute__" = some (some (.builtin "BaseException.__getattribute__"))) && decide (W.findIn K (.ref C) "__getattr__" = some none) && decide (W.subIn K (.ref C) (.type "BaseException") = some true) && W.hasDictIn K C &&
  decide (W.findIn K (.ref C) "__class__" = some (some (.builtin "object.__class__"))) && decide (W.specialIn K (.builtin "object.__class__") "__get__" = some (some (.builtin "getset_descriptor.__get__"))) && decide (W.takesIn K (.builtin "object.__class__") = some true) && decide (W.mroIn K C (.type "object") = some true)
/-- .. and this of class and target -/
def rowB (K : W.Frag) (ca : Nat → Addr) (u : Value) (l : List Bool) : Bool := (List.range l.length).all fun c => decide (W.kitOne K (.ref (ca c)) u = l[c]?)
theorem rowB_ok {K : W.Frag} {ca : Nat → Addr} {u : Value} {l : List Bool} (h : rowB K ca u l = true) (c : Nat) (r : Bool) (e : l[c]? = some r) : W.kitOne K (.ref (ca c)) u = some r := by
  have hc : c < l.length := (List.getElem?_eq_some_iff.mp e).1
  have := of_decide_eq_true (List.all_eq_true.mp h c (List.mem_range.mpr hc))
  rw [this, e]
def allB (K : W.Frag) (ca : Nat → Addr) (n : Nat) : Bool := (List.range n).all fun c => isB K (ca c)
/-- a class with an __init__ of one store: nw its __new__, bmB what its bases' line ends with -/
def oxB (K : W.Frag) (C fI : Addr) (f : Str) (bmB : List Value) (nw : String) : Bool := W.excInitIn K C bmB nw && W.hasDictIn K C && decide (W.findIn K (.ref C) "__setattr__" = some (some (.builtin "object.__setattr__"))) && W.keepIn K (.ref C) && decide (W.findIn K (.ref C) "__init__" = some (some (.ref fI))) &&
  decide (W.typeIn K (.ref fI) = some (.type "function")) && decide (W.findIn K (.ref C) f = some none)
theorem lookup_of {K : W.Frag} {C : Addr} {bmB : List Value} {nw : String} (q : W.excInitIn K C bmB nw = true) (d : W.hasDictIn K C = true) : ∃ nm N qn bs bm sn sub ab col dd k0 k1 k2 k3 k5,
    K.lookup C = some (excClassObj nm qn C N bs bm true sn sub ab col dd k0 k1 k2 k3 k5 nw) ∧ W.excTail bmB bm = true := by
  unfold W.excInitIn at q
  unfold W.hasDictIn W.clsIn at d
  split at q
  · rename_i dd cd sl ho
    rw [ho] at d
    split at q
    · rename_i C' bm k0 k1 k2 k3 n k5 hm hs
      simp only [Bool.and_eq_true, beq_iff_eq, Bool.not_eq_true'] at q
      obtain ⟨⟨⟨e1, e2⟩, hdel⟩, ht⟩ := q
      have hd : cd.hasDict = true := by simpa using d
      obtain ⟨l⟩ := sl
      have hs : l = _ := hs
      subst hs
      obtain ⟨nm, bs, mro, ns, qn, hd', sn, sub, ab, col, del⟩ := cd
      dsimp only at hm hdel hd
      subst hm hdel hd e1 e2
      exact ⟨nm, ns, qn, bs, bm, sn, sub, ab, col, dd, k0, k1, k2, k3, k5, ho, ht⟩
    · cases q
  · cases q
end TwI
end
/-! part Hd00 -/
section
set_option Elab.async false
set_option linter.all false
set_option maxRecDepth 100000
set_option maxHeartbeats 0
/-! the head of the law: facts by names. Printed by gen_head2.py. -/
namespace Hd00
open PySem PySem.Spec PyProof.Rows L2
abbrev rw_ := PySem.Challenge.rw_fewmarks_k00_errors
def cnm : Nat → PySem.Str
  | 0 => "MarkError"
  | 1 => "InvalidText"
  | 2 => "InvalidRewriter"
  | 3 => "InvalidMachine"
  | 4 => "InvalidBook"
  | 5 => "InvalidOperation"
  | 6 => "InvalidEdit"
  | 7 => "ParseError"
  | 8 => "InvalidCommand"
  | 9 => "InvalidNumber"
  | 10 => "UnknownName"
  | 11 => "TooMany"
  | 12 => "NotSingle"
  | 13 => "NeedsMarks"
  | 14 => "NothingToUndo"
  | _ => "Rewriter"
def ca (K : PySem.W.Frag) (c : Nat) : Addr := He.ga K (cnm c)
def row0 (K : PySem.W.Frag) : Bool := TwI.rowB K (ca K) (.ref (ca K 0)) [true, true, true, true, true, true, true, true, true, false, false, false, false, false, false]
def row1 (K : PySem.W.Frag) : Bool := TwI.rowB K (ca K) (.ref (ca K 1)) [false, true, false, false, false, false, false, false, false, false, false, false, false, false, false]
def row2 (K : PySem.W.Frag) : Bool := TwI.rowB K (ca K) (.ref (ca K 2)) [false, false, true, false, false, false, false, false, false, false, false, false, false, false, false]
def row3 (K : PySem.W.Frag) : Bool := TwI.rowB K (ca K) (.ref (ca K 3)) [false, false, false, true, false, false, false, false, false, false, false, false, false, false, false]
def row4 (K : PySem.W.Frag) : Bool := TwI.rowB K (ca K) (.ref (ca K 4)) [false, false, false, false, true, false, false, false, false, false, false, false, false, false, false]
def row5 (K : PySem.W.Frag) : Bool := TwI.rowB K (ca K) (.ref (ca K 5)) [false, false, false, false, false, true, false, false, false, false, false, false, false, false, false]
def row6 (K : PySem.W.Frag) : Bool := TwI.rowB K (ca K) (.ref (ca K 6)) [false, false, false, false, false, false, true, false, false, false, false, false, false, false, false]
def row7 (K : PySem.W.Frag) : Bool := TwI.rowB K (ca K) (.ref (ca K 7)) [false, false, false, false, false, false, false, true, false, false, false, false, false, false, false]
def row8 (K : PySem.W.Frag) : Bool := TwI.rowB K (ca K) (.ref (ca K 8)) [false, false, false, false, false, false, false, false, true, false, false, false, false, false, false]
def row9 (K : PySem.W.Frag) : Bool := TwI.rowB K (ca K) (.ref (ca K 9)) [false, false, false, false, false, false, false, false, false, true, false, false, false, false, false]
def row10 (K : PySem.W.Frag) : Bool := TwI.rowB K (ca K) (.ref (ca K 10)) [false, false, false, false, false, false, false, false, false, false, true, false, false, false, false]
def row11 (K : PySem.W.Frag) : Bool := TwI.rowB K (ca K) (.ref (ca K 11)) [false, false, false, false, false, false, false, false, false, false, false, true, false, false, false]
def row12 (K : PySem.W.Frag) : Bool := TwI.rowB K (ca K) (.ref (ca K 12)) [false, false, false, false, false, false, false, false, false, false, false, false, true, false, false]
def row13 (K : PySem.W.Frag) : Bool := TwI.rowB K (ca K) (.ref (ca K 13)) [false, false, false, false, false, false, false, false, false, false, false, false, false, true, false]
def row14 (K : PySem.W.Frag) : Bool := TwI.rowB K (ca K) (.ref (ca K 14)) [false, false, false, false, false, false, false, false, false, false, false, false, false, false, true]
def row15 (K : PySem.W.Frag) : Bool := TwI.rowB K (ca K) (.type "ValueError") [true, true, true, true, true, true, true, true, true, false, false, false, false, false, false]
def row16 (K : PySem.W.Frag) : Bool := TwI.rowB K (ca K) (.type "IndexError") [false, false, false, false, false, false, false, false, false, true, false, false, false, false, false]
def row17 (K : PySem.W.Frag) : Bool := TwI.rowB K (ca K) (.type "KeyError") [false, false, false, false, false, false, false, false, false, false, true, false, false, false, false]
def row18 (K : PySem.W.Frag) : Bool := TwI.rowB K (ca K) (.type "OverflowError") [false, false, false, false, false, false, false, false, false, false, false, true, false, false, false]
def row19 (K : PySem.W.Frag) : Bool := TwI.rowB K (ca K) (.type "LookupError") [false, false, false, false, false, false, false, false, false, true, true, false, false, false, true]
def row20 (K : PySem.W.Frag) : Bool := TwI.rowB K (ca K) (.type "ArithmeticError") [false, false, false, false, false, false, false, false, false, false, false, true, true, false, false]
def row21 (K : PySem.W.Frag) : Bool := TwI.rowB K (ca K) (.type "RuntimeError") [false, false, false, false, false, false, false, false, false, false, false, false, false, true, false]
def ox0 (K : PySem.W.Frag) : Bool := TwI.oxB K (ca K 9) (He.fAd K ("InvalidNumber", some "__init__")) "value" [.type "IndexError", .type "LookupError", .type "Exception", .type "BaseException", .type "object"] "IndexError.__new__"
def ox1 (K : PySem.W.Frag) : Bool := TwI.oxB K (ca K 10) (He.fAd K ("UnknownName", some "__init__")) "name" [.type "KeyError", .type "LookupError", .type "Exception", .type "BaseException", .type "object"] "LookupError.__new__"
def ox2 (K : PySem.W.Frag) : Bool := TwI.oxB K (ca K 11) (He.fAd K ("TooMany", some "__init__")) "limit" [.type "OverflowError", .type "ArithmeticError", .type "Exception", .type "BaseException", .type "object"] "OverflowError.__new__"
def ox3 (K : PySem.W.Frag) : Bool := TwI.oxB K (ca K 12) (He.fAd K ("NotSingle", some "__init__")) "paper" [.type "ArithmeticError", .type "Exception", .type "BaseException", .type "object"] "ArithmeticError.__new__"
def ox4 (K : PySem.W.Frag) : Bool := TwI.oxB K (ca K 13) (He.fAd K ("NeedsMarks", some "__init__")) "fork" [.type "RuntimeError", .type "Exception", .type "BaseException", .type "object"] "RuntimeError.__new__"
def ox5 (K : PySem.W.Frag) : Bool := TwI.oxB K (ca K 14) (He.fAd K ("NothingToUndo", some "__init__")) "many" [.type "LookupError", .type "Exception", .type "BaseException", .type "object"] "LookupError.__new__"
def rowsB (K : PySem.W.Frag) : Bool := row0 K && row1 K && row2 K && row3 K && row4 K && row5 K && row6 K && row7 K && row8 K && row9 K && row10 K && row11 K && row12 K && row13 K && row14 K && row15 K && row16 K && row17 K && row18 K && row19 K && row20 K && row21 K
def oxsB (K : PySem.W.Frag) : Bool := ox0 K && ox1 K && ox2 K && ox3 K && ox4 K && ox5 K
def moreB (K : PySem.W.Frag) : Bool := TwI.allB K (ca K) 15 && rowsB K && oxsB K
def top (i : Nat) : Stmt := rw_.prog.main.body.getD i (.Pass ⟨0, 0, 0, 0⟩)
abbrev s0 : Stmt := top 23
def d0 : He.DefD := ⟨("is_word", none), "is_word", "is_word", defArgs s0, defBody s0, defScope s0, [], []⟩
abbrev s1 : Stmt := top 25
def d1 : He.DefD := ⟨("are_ascending", none), "are_ascending", "are_ascending", defArgs s1, defBody s1, defScope s1, [], []⟩
abbrev s2 : Stmt := top 26
def d2 : He.DefD := ⟨("are_letters", none), "are_letters", "are_letters", defArgs s2, defBody s2, defScope s2, [], []⟩
abbrev s3 : Stmt := top 27
def d3 : He.DefD := ⟨("is_delay", none), "is_delay", "is_delay", defArgs s3, defBody s3, defScope s3, [], []⟩
abbrev s4 : Stmt := top 28
def d4 : He.DefD := ⟨("require_word", none), "require_word", "require_word", defArgs s4, defBody s4, defScope s4, [], []⟩
abbrev s5 : Stmt := top 29
def d5 : He.DefD := ⟨("shared_letters", none), "shared_letters", "shared_letters", defArgs s5, defBody s5, defScope s5, [], []⟩
abbrev s6 : Stmt := top 30
def d6 : He.DefD := ⟨("delay_in", none), "delay_in", "delay_in", defArgs s6, defBody s6, defScope s6, [], []⟩
abbrev s7 : Stmt := top 34
def d7 : He.DefD := ⟨("delay", none), "delay", "delay", defArgs s7, defBody s7, defScope s7, [], []⟩
abbrev s8 : Stmt := top 35
def d8 : He.DefD := ⟨("require_delay", none), "require_delay", "require_delay", defArgs s8, defBody s8, defScope s8, [], []⟩
abbrev s9 : Stmt := top 36
def d9 : He.DefD := ⟨("led_on", none), "led_on", "led_on", defArgs s9, defBody s9, defScope s9, [], []⟩
abbrev s10 : Stmt := top 95
def d10 : He.DefD := ⟨("_law_start", none), "_law_start", "_law_start", defArgs s10, defBody s10, defScope s10, [], []⟩
abbrev s11 : Stmt := top 96
def d11 : He.DefD := ⟨("_law_throw", none), "_law_throw", "_law_throw", defArgs s11, defBody s11, defScope s11, [], []⟩
abbrev s12 : Stmt := top 97
def d12 : He.DefD := ⟨("_law_pick", none), "_law_pick", "_law_pick", defArgs s12, defBody s12, defScope s12, [], []⟩
abbrev s13 : Stmt := top 98
def d13 : He.DefD := ⟨("_law_told", none), "_law_told", "_law_told", defArgs s13, defBody s13, defScope s13, [], []⟩
abbrev s14 : Stmt := top 99
def d14 : He.DefD := ⟨("_law_flags", none), "_law_flags", "_law_flags", defArgs s14, defBody s14, defScope s14, [], []⟩
abbrev s15 : Stmt := top 100
def d15 : He.DefD := ⟨("_law_bases", none), "_law_bases", "_law_bases", defArgs s15, defBody s15, defScope s15, [], []⟩
abbrev s16 : Stmt := top 101
def d16 : He.DefD := ⟨("_law_only", none), "_law_only", "_law_only", defArgs s16, defBody s16, defScope s16, [], []⟩
abbrev s17 : Stmt := top 102
def d17 : He.DefD := ⟨("_law_messages_right", none), "_law_messages_right", "_law_messages_right", defArgs s17, defBody s17, defScope s17, [], []⟩
abbrev s18 : Stmt := top 103
def d18 : He.DefD := ⟨("_law_drawn_values", none), "_law_drawn_values", "_law_drawn_values", defArgs s18, defBody s18, defScope s18, [], []⟩
abbrev s19 : Stmt := top 104
def d19 : He.DefD := ⟨("_law_values_right", none), "_law_values_right", "_law_values_right", defArgs s19, defBody s19, defScope s19, [], []⟩
abbrev s20 : Stmt := top 105
def d20 : He.DefD := ⟨("_law_taken", none), "_law_taken", "_law_taken", defArgs s20, defBody s20, defScope s20, [], []⟩
abbrev s21 : Stmt := top 106
def d21 : He.DefD := ⟨("law", none), "law", "law", defArgs s21, defBody s21, defScope s21, [], []⟩
abbrev s22 : Stmt := inClass (top 11) 0
def d22 : He.DefD := ⟨("InvalidNumber", some "__init__"), "__init__", "InvalidNumber.__init__", defArgs s22, defBody s22, defScope s22, [], []⟩
abbrev s23 : Stmt := inClass (top 12) 0
def d23 : He.DefD := ⟨("UnknownName", some "__init__"), "__init__", "UnknownName.__init__", defArgs s23, defBody s23, defScope s23, [], []⟩
abbrev s24 : Stmt := inClass (top 13) 0
def d24 : He.DefD := ⟨("TooMany", some "__init__"), "__init__", "TooMany.__init__", defArgs s24, defBody s24, defScope s24, [], []⟩
abbrev s25 : Stmt := inClass (top 14) 0
def d25 : He.DefD := ⟨("NotSingle", some "__init__"), "__init__", "NotSingle.__init__", defArgs s25, defBody s25, defScope s25, [], []⟩
abbrev s26 : Stmt := inClass (top 15) 0
def d26 : He.DefD := ⟨("NeedsMarks", some "__init__"), "__init__", "NeedsMarks.__init__", defArgs s26, defBody s26, defScope s26, [], []⟩
abbrev s27 : Stmt := inClass (top 16) 0
def d27 : He.DefD := ⟨("NothingToUndo", some "__init__"), "__init__", "NothingToUndo.__init__", defArgs s27, defBody s27, defScope s27, [], []⟩
abbrev s28 : Stmt := inClass (top 89) 0
def d28 : He.DefD := ⟨("Rewriter", some "__init__"), "__init__", "Rewriter.__init__", defArgs s28, defBody s28, defScope s28, [], []⟩
def fns0 : List He.DefD := [d0, d1, d2, d3, d4, d5, d6, d7, d8, d9, d10, d11, d12, d13, d14, d15, d16, d17, d18, d19, d20, d21, d22, d23, d24, d25, d26, d27, d28]
def fns : List He.DefD := fns0
def fcs0 : List He.Fa := [.glo "is_word", .glo "are_ascending", .glo "are_letters", .glo "is_delay", .glo "require_word", .glo "shared_letters", .glo "delay_in", .glo "delay", .glo "require_delay", .glo "led_on", .glo "_law_start", .glo "_law_throw", .glo "_law_pick", .glo "_law_told", .glo "_law_flags", .glo "_law_bases", .glo "_law_only", .glo "_law_messages_right", .glo "_law_drawn_values", .glo "_law_values_right", .glo "_law_taken", .glo "law", .glo "MarkError", .glo "InvalidText", .glo "InvalidRewriter", .glo "InvalidMachine", .glo "InvalidBook", .glo "InvalidOperation", .glo "InvalidEdit", .glo "ParseError"]
def fcs1 : List He.Fa := [.glo "InvalidCommand", .glo "InvalidNumber", .glo "UnknownName", .glo "TooMany", .glo "NotSingle", .glo "NeedsMarks", .glo "NothingToUndo", .glo "Rewriter", .int "MOST_LETTERS_words" 4, .str "LETTERS" "abcdefghijklmnopqrstuvwxyz", .free "abs", .free "all", .free "enumerate", .free "int", .free "isinstance", .free "len", .free "list", .free "max", .free "min", .free "range", .free "repr", .free "str", .free "tuple", .free "zip", .free "ValueError", .free "IndexError", .free "KeyError", .free "OverflowError", .free "LookupError", .free "ArithmeticError"]
def fcs2 : List He.Fa := [.free "RuntimeError", .exc "MarkError", .exc "InvalidText", .exc "InvalidRewriter", .exc "InvalidMachine", .exc "InvalidBook", .exc "InvalidOperation", .exc "InvalidEdit", .exc "ParseError", .exc "InvalidCommand", .keep "InvalidNumber", .keep "UnknownName", .keep "TooMany", .keep "NotSingle", .keep "NeedsMarks", .keep "NothingToUndo", .cls "Rewriter", .mkr "Rewriter", .exm "MarkError" "MarkError" true, .exm "InvalidText" "MarkError" true, .exm "InvalidRewriter" "MarkError" true, .exm "InvalidMachine" "MarkError" true, .exm "InvalidBook" "MarkError" true, .exm "InvalidOperation" "MarkError" true, .exm "InvalidEdit" "MarkError" true, .exm "ParseError" "MarkError" true, .exm "InvalidCommand" "MarkError" true]
def fcs : List He.Fa := fcs0 ++ fcs1 ++ fcs2
def loose0 : List PySem.Str := ["_wall", "MarkError", "InvalidText", "InvalidRewriter", "InvalidMachine", "InvalidBook", "InvalidOperation", "InvalidEdit", "ParseError", "InvalidCommand", "InvalidNumber", "UnknownName", "TooMany", "NotSingle", "NeedsMarks", "NothingToUndo", "MAX_TEXT", "MOST_LETTERS_words", "LETTERS", "is_integer", "is_between", "is_word", "is_text", "are_ascending", "are_letters", "is_delay", "require_word", "shared_letters", "delay_in", "led_on_in"]
def loose1 : List PySem.Str := ["place_in_order", "ordered", "delay", "require_delay", "led_on", "MOST_RESULTS", "sources_in", "lefts_in", "has_result_in", "words_behind", "some_results_in", "results_in", "MOST_STATES", "MOST_EDGES", "MOST_LETTERS_joining", "met_from", "linked", "useful_in", "numbered_in", "turned_in", "moved_by", "chosen_in", "ways_in", "behind_in", "steps_in", "reached_in", "leading_in", "end_pairs", "two_path_in", "way_in"]
def loose2 : List PySem.Str := ["row_to", "edges_of", "SINGLE_single_inner", "TWO", "whole_word", "further_paths", "two_paper", "start_delays", "unlike_ends", "single_paper_in", "MAX_STATES", "MAX_EDGES", "MAX_WORD", "SINGLE_rewriters", "is_short", "is_number", "are_worded", "is_edge", "are_edges", "edges_after", "edges_before", "kept_words", "Rewriter", "require_rewriter", "require_one_result", "require_text", "require_rest", "_law_start", "_law_throw", "_law_pick"]
def loose3 : List PySem.Str := ["_law_told", "_law_flags", "_law_bases", "_law_only", "_law_messages_right", "_law_drawn_values", "_law_values_right", "_law_taken"]
def loose : List PySem.Str := loose0 ++ loose1 ++ loose2 ++ loose3
def tfs : List He.Defn := [("law", none)]
def need0 : List PySem.Str := ["is_word", "are_ascending", "are_letters", "is_delay", "require_word", "shared_letters", "delay_in", "delay", "require_delay", "led_on", "_law_start", "_law_throw", "_law_pick", "_law_told", "_law_flags", "_law_bases", "_law_only", "_law_messages_right", "_law_drawn_values", "_law_values_right", "_law_taken", "law", "MarkError", "InvalidText", "InvalidRewriter", "InvalidMachine", "InvalidBook", "InvalidOperation", "InvalidEdit", "ParseError"]
def need1 : List PySem.Str := ["InvalidCommand", "InvalidNumber", "UnknownName", "TooMany", "NotSingle", "NeedsMarks", "NothingToUndo", "Rewriter"]
def need : List PySem.Str := need0 ++ need1
def M : Nat := 30000
abbrev R_ : PySem.W.OpenRow := PySem.W.OpenLaw.row rw_
abbrev qv : PySem.Program := PySem.W.view R_.prog [106]
def lawAt : Nat := 106
def more (K : PySem.W.Frag) : Bool := moreB K
abbrev hk : PySem.W.Hook := TwH.hookY need 4 fcs fns [] tfs more
def ob (s : PySem.W.SharedT) : TwH.AlY := TwH.obsY need 4 fcs fns [] tfs more (HandSHeadRun.getT s)
theorem ob_eq (s : PySem.W.SharedT) : ob s = hk.obs s.abs := TwH.obsY_eq (HandSHeadRun.getT_eq s)
theorem run (w : World) : HandSHeadRun.RunEq R_ qv hk ob M loose w := by
  intro os
  kernel_rfl
end Hd00
end
/-! part Tw1 -/
section
set_option autoImplicit false
/-! Tw1: trees, a small language, its evaluator. Plain Lean; of the model only how data is shown. -/
namespace Tw

/-- values: atoms, frozen containers, references into the heap -/
inductive T where
  | non | bl (b : Bool) | int (i : Int) | str (s : List Nat)
  | tup (l : List T) | lst (l : List T) | dct (ks vs : List T)
  | ins (c : Nat) (ns : List Nat) (vs : List T)
  | ref (i : Nat)
  deriving Inhabited

/-- what a reference leads to -/
inductive MO where
  | lst (l : List T) | dct (ks vs : List T) | ins (c : Nat) (ns : List Nat) (vs : List T)
abbrev Hm := List (Option MO)
abbrev Sl := List (Option T)

inductive R (α : Type) where
  | ok (a : α) (h : Hm) | exc (c : Nat) (vs : List T) (h : Hm) | bad
@[simp] def R.bind {α β : Type} : R α → (α → Hm → R β) → R β
  | .ok a h, f => f a h
  | .exc c vs h, _ => .exc c vs h
  | .bad, _ => .bad
@[simp] def ofO {α : Type} : Option α → Hm → R α
  | some a, h => .ok a h
  | none, _ => .bad

mutual
def T.beq : T → T → Bool
  | .non, .non => true
  | .bl a, .bl b => a == b
  | .int a, .int b => a == b
  | .str a, .str b => a == b
  | .tup a, .tup b => T.beqs a b
  | .lst a, .lst b => T.beqs a b
  | .dct a b, .dct c d => T.beqs a c && T.beqs b d
  | .ins c n a, .ins d m b => c == d && n == m && T.beqs a b
  | .ref a, .ref b => a == b
  | _, _ => false
def T.beqs : List T → List T → Bool
  | [], [] => true
  | x :: xs, y :: ys => T.beq x y && T.beqs xs ys
  | _, _ => false
end
/-! ### references below a mark -/
mutual
def T.und (n : Nat) : T → Bool
  | .tup l => T.unds n l
  | .lst l => T.unds n l
  | .dct ks vs => T.unds n ks && T.unds n vs
  | .ins _ _ vs => T.unds n vs
  | .ref i => decide (i < n)
  | .non => true
  | .bl _ => true
  | .int _ => true
  | .str _ => true
def T.unds (n : Nat) : List T → Bool
  | [] => true
  | x :: xs => T.und n x && T.unds n xs
end
def MO.und (n : Nat) : MO → Bool
  | .lst l => T.unds n l
  | .dct ks vs => T.unds n ks && T.unds n vs
  | .ins _ _ vs => T.unds n vs
def MO.beq : MO → MO → Bool
  | .lst a, .lst b => T.beqs a b
  | .dct a b, .dct c d => T.beqs a c && T.beqs b d
  | .ins c n a, .ins d m b => c == d && n == m && T.beqs a b
  | _, _ => false
def slotB : Option MO → Option MO → Bool
  | none, none => true
  | some a, some b => MO.beq a b
  | _, _ => false
/-- every slot of the first heap is as it was, gone, or refers below n -/
def preB (n : Nat) : Hm → Hm → Bool
  | [], _ => true
  | _ :: _, [] => false
  | a :: as, b :: bs => (slotB a b || (match b with | none => true | some m => m.und n)) && preB n as bs

/-! ### equality, as Python has it -/
mutual
def T.eqv : T → T → Bool
  | .non, .non => true
  | .bl a, .bl b => a == b
  | .bl a, .int j => (if a then 1 else 0) == j
  | .int i, .bl b => i == (if b then 1 else 0)
  | .int i, .int j => i == j
  | .str x, .str y => x == y
  | .lst xs, .lst ys => T.eqvs xs ys
  | .tup xs, .tup ys => T.eqvs xs ys
  | _, _ => false
def T.eqvs : List T → List T → Bool
  | [], [] => true
  | x :: xs, y :: ys => T.eqv x y && T.eqvs xs ys
  | _, _ => false
end
mutual
/-- data without dicts and references, so deep -/
def T.pl : Nat → T → Bool
  | _, .non => true
  | _, .bl _ => true
  | _, .int _ => true
  | _, .str _ => true
  | 0, .tup _ => false
  | 0, .lst _ => false
  | n + 1, .tup l => T.pls n l
  | n + 1, .lst l => T.pls n l
  | _, .dct _ _ => false
  | _, .ins _ _ _ => false
  | _, .ref _ => false
def T.pls : Nat → List T → Bool
  | _, [] => true
  | n, x :: xs => T.pl n x && T.pls n xs
end
def deepest : Nat := 60
def eqO (a b : T) : Option Bool := if T.pl deepest a && T.pl deepest b then some (T.eqv a b) else none
def inO (x : T) : T → Option Bool
  | .str s => match x with
    | .str [c] => some (s.contains c)
    | _ => none
  | .tup l => if T.pl deepest x && T.pls deepest l then some (l.any fun y => T.eqv y x) else none
  | .lst l => if T.pl deepest x && T.pls deepest l then some (l.any fun y => T.eqv y x) else none
  | _ => none

/-! ### truth, length, items -/
def lim : Nat := 16000000
def look (h : Hm) : T → T
  | .ref i => match h[i]? with
    | some (some (.lst l)) => .lst l
    | some (some (.dct ks vs)) => .dct ks vs
    | some (some (.ins c ns vs)) => .ins c ns vs
    | _ => .ref i
  | t => t
def truth : T → Option Bool
  | .non => some false
  | .bl b => some b
  | .int i => some (i != 0)
  | .str s => some (!s.isEmpty)
  | .tup l => some (!l.isEmpty)
  | .lst l => some (!l.isEmpty)
  | _ => none
def lenO : T → Option Nat
  | .str s => some s.length
  | .tup l => some l.length
  | .lst l => some l.length
  | _ => none
def ixN (n : Nat) (i : Int) : Option Nat := if 0 ≤ i then (if i < n then some i.toNat else none) else if -(n : Int) ≤ i then some (i + n).toNat else none
def atI {α : Type} (xs : List α) (i : Int) : Option α := (ixN xs.length i).bind fun j => xs[j]?
def ixO : T → T → Option T
  | .str s, .int i => (atI s i).map fun c => .str [c]
  | .tup l, .int i => atI l i
  | .lst l, .int i => atI l i
  | _, _ => none
/-- a bound of a slice -/
def cutB (n d : Nat) : Option Int → Nat
  | none => d
  | some i => if i < 0 then (i + n).toNat else min i.toNat n
def cutL {α : Type} (l : List α) (lo hi : Option Int) : List α := (l.drop (cutB l.length 0 lo)).take (cutB l.length l.length hi - cutB l.length 0 lo)
def cutO (lo hi : Option Int) : T → Option T
  | .str s => some (.str (cutL s lo hi))
  | .tup l => some (.tup (cutL l lo hi))
  | .lst l => some (.lst (cutL l lo hi))
  | _ => none
def revO : T → Option T
  | .str s => some (.str s.reverse)
  | .lst l => some (.lst l.reverse)
  | _ => none
def rep {α : Type} (l : List α) (n : Int) : List α := (List.replicate n.toNat l).flatten

inductive Ty | int | str | bool | tuple | list | dict
  deriving DecidableEq
def isiO : T → Ty → Option Bool
  | .non, _ => some false
  | .bl _, .bool => some true
  | .bl _, .int => some true
  | .bl _, _ => some false
  | .int _, .int => some true
  | .int _, _ => some false
  | .str _, .str => some true
  | .str _, _ => some false
  | .tup _, .tuple => some true
  | .tup _, _ => some false
  | .lst _, .list => some true
  | .lst _, _ => some false
  | .dct _ _, .dict => some true
  | .dct _ _, _ => some false
  | _, _ => none

inductive Op | add | sub | mul | mod | fdiv | pow
  deriving DecidableEq
/-- a product that the model's own bound lets through -/
def mulOk (i j : Int) : Bool := (decide (-(2 ^ 64) < i) && decide (i < 2 ^ 64)) || (decide (-(2 ^ 64) < j) && decide (j < 2 ^ 64))
def powOk (i j : Int) : Bool := decide (0 ≤ j) && decide (j ≤ 100000) && decide (i.natAbs < 2 ^ 200)
def opO : Op → T → T → Option T
  | .add, .int i, .int j => some (.int (i + j))
  | .add, .str x, .str y => if x.length + y.length ≤ lim then some (.str (x ++ y)) else none
  | .add, .lst x, .lst y => if x.length + y.length ≤ lim then some (.lst (x ++ y)) else none
  | .add, .tup x, .tup y => if x.length + y.length ≤ lim then some (.tup (x ++ y)) else none
  | .sub, .int i, .int j => some (.int (i - j))
  | .mul, .int i, .int j => if mulOk i j then some (.int (i * j)) else none
  | .mul, .str x, .int n => if x.length * n.toNat ≤ lim ∧ n ≤ 1000000 ∧ -1000000 ≤ n then some (.str (rep x n)) else none
  | .mul, .lst x, .int n => if x.length * n.toNat ≤ lim ∧ n ≤ 1000000 ∧ -1000000 ≤ n then some (.lst (rep x n)) else none
  | .mul, .tup x, .int n => if x.isEmpty = false ∧ 2 ≤ n ∧ n ≤ 1000 ∧ x.length ≤ 1000 then some (.tup (rep x n)) else none
  | .mul, .int i, .bl b => some (.int (if b then i else 0))
  | .mod, .int i, .int j => if 0 < j then some (.int (i % j)) else none
  | .fdiv, .int i, .int j => if 0 < j ∧ j < 1073741824 then some (.int (i / j)) else none
  | .pow, .int i, .int j => if powOk i j then some (.int (i ^ j.toNat)) else none
  | _, _, _ => none

inductive Cm | eq | ne | lt | le | gt | ge | is_ | isnt | in_ | nin
  deriving DecidableEq
def isO : T → T → Option Bool
  | x, .non => some (match x with | .non => true | _ => false)
  | .bl a, .bl b => some (a == b)
  | _, _ => none
def cmO : Cm → T → T → Option Bool
  | .eq, a, b => eqO a b
  | .ne, a, b => (eqO a b).map not
  | .lt, .int i, .int j => some (decide (i < j))
  | .lt, .str x, .str y => some (decide (x < y))
  | .le, .int i, .int j => some (decide (i ≤ j))
  | .gt, .int i, .int j => some (decide (j < i))
  | .ge, .int i, .int j => some (decide (j ≤ i))
  | .is_, a, b => isO a b
  | .isnt, a, b => (isO a b).map not
  | .in_, a, b => inO a b
  | .nin, a, b => (inO a b).map not
  | _, _, _ => none

def bls : List T → Option (List Bool)
  | [] => some []
  | .bl b :: r => (bls r).map fun bs => b :: bs
  | _ => none
def txts : List T → Option (List (List Nat))
  | [] => some []
  | .str s :: r => (txts r).map fun ss => s :: ss
  | _ => none
/-- the text of a list of truths -/
def txtFrom : Nat → List Nat → List (List Nat) → List Nat
  | _, acc, [] => acc
  | k, acc, t :: r => txtFrom (k + 1) (acc ++ (if k > 0 then [44, 32] else []) ++ t) r
def blTx (b : Bool) : List Nat := if b then [84, 114, 117, 101] else [70, 97, 108, 115, 101]
def reprBls (bs : List Bool) : List Nat := txtFrom 0 [91] (bs.map blTx) ++ [93]
/-- texts with a text between -/
def joinL (sep : List Nat) : List (List Nat) → List Nat
  | [] => []
  | [x] => x
  | x :: y :: r => x ++ sep ++ joinL sep (y :: r)

inductive Bi | len | all | any | tuple | list | abs | int | max | min | repr
  deriving DecidableEq
def lenI (n : Nat) : T := .int n
def biO : Bi → List T → Option T
  | .len, [x] => (lenO x).map lenI
  | .all, [.lst l] => (bls l).map fun bs => .bl (bs.all id)
  | .any, [.lst l] => (bls l).map fun bs => .bl (bs.any id)
  | .tuple, [.lst l] => some (.tup l)
  | .tuple, [.tup l] => some (.tup l)
  | .list, [.lst l] => some (.lst l)
  | .list, [.tup l] => some (.lst l)
  | .abs, [.int i] => some (.int i.natAbs)
  | .int, [.int i] => some (.int i)
  | .int, [.bl b] => some (.int (if b then 1 else 0))
  | .max, [.int i, .int j] => some (.int (if j > i then j else i))
  | .min, [.int i, .int j] => some (.int (if j < i then j else i))
  | .repr, [.lst l] => if l.length ≤ 1000 then (bls l).map fun bs => .str (reprBls bs) else none
  | _, _ => none

inductive Me | append | join
  deriving DecidableEq
def meOk : Me → T → Bool
  | .append, .lst _ => true
  | .join, .str _ => true
  | _, _ => false
def meR : Me → T → List T → Hm → R T
  | .append, .ref i, [x], h => match h[i]? with
    | some (some (.lst l)) => if l.length < lim then .ok .non (h.set i (some (.lst (l ++ [x])))) else .bad
    | _ => .bad
  | .join, .str s, [x], h => match look h x with
    | .lst l => match txts l with
      | some ss => if (ss.map List.length).sum + ss.length * s.length ≤ lim then .ok (.str (joinL s ss)) h else .bad
      | none => .bad
    | _ => .bad
  | _, _, _, _ => .bad

/-- a made container: frozen, or a new place of the heap -/
def mk (m : Bool) (t : T) (h : Hm) : R T := if m then (match t with
    | .lst l => .ok (.ref h.length) (h ++ [some (.lst l)])
    | .dct ks vs => .ok (.ref h.length) (h ++ [some (.dct ks vs)])
    | _ => .bad) else .ok t h
def frzR (t : T) (h : Hm) : R T := match t with
  | .ref i => match h[i]? with
    | some (some (.lst l)) => .ok (.lst l) (h.set i none)
    | some (some (.dct ks vs)) => .ok (.dct ks vs) (h.set i none)
    | some (some (.ins c ns vs)) => .ok (.ins c ns vs) (h.set i none)
    | _ => .bad
  | t => .ok t h

inductive Tg | v (i : Nat) | u (l : List Tg)
mutual
inductive Ex where
  | c (t : T) | v (i : Nat)
  | tup (es : List Ex) | lst (m : Bool) (es : List Ex) | dct0 (m : Bool)
  | bin (m : Bool) (op : Op) (a b : Ex) | neg (a : Ex)
  | cmp (op : Cm) (a b : Ex) | cmp2 (o1 o2 : Cm) (a b c : Ex)
  | and (a b : Ex) | or (a b : Ex) | not (a : Ex) | ite (c a b : Ex)
  | ix (a b : Ex) | sl (m : Bool) (a : Ex) (lo hi : List Ex) | rev (m : Bool) (a : Ex)
  | call (f : Nat) (es : List Ex) | bi (m : Bool) (f : Bi) (es : List Ex) | me (f : Me) (o : Ex) (es : List Ex)
  | isi (e : Ex) (t : Ty)
  | lc (m : Bool) (g : Tg) (it : It) (cs : List Ex) (e : Ex)
  | told (g : Nat) (e : Ex) | frz (e : Ex)
  | mkx (c : Nat) (e : Ex) | mki (c a : Nat) (e : Ex) | isc (e : Ex) (l : List Bool) | att (e : Ex) (c a : Nat) | dct1 (k v : Ex) | mkn (c f : Nat) (es : List Ex) | rpr (e : Ex) | bad
inductive It where
  | e (a : Ex) | range (es : List Ex) | enum (a : Ex) | zip (a b : Ex)
end
inductive St where
  | ex (e : Ex) | ret (e : Ex) | asg (g : Tg) (e : Ex) | aug (i : Nat) (op : Op) (e : Ex) | set (o i e : Ex)
  | if_ (c : Ex) (a b : List St) | for_ (g : Tg) (it : It) (b : List St) | whl (n : Nat) (c : Ex) (b : List St)
  | raise (c : Nat) (es : List Ex) | pass | brk | cont | bad
inductive Fl where
  | next (σ : Sl) | ret (t : T) | brk (σ : Sl) | cont (σ : Sl)

mutual
def Tg.put : Tg → T → Sl → Option Sl
  | .v i, t, σ => some (σ.set i (some t))
  | .u gs, .tup l, σ => Tg.puts gs l σ
  | .u _, _, _ => none
def Tg.puts : List Tg → List T → Sl → Option Sl
  | [], [], σ => some σ
  | g :: gs, t :: ts, σ => (Tg.put g t σ).bind fun σ => Tg.puts gs ts σ
  | _, _, _ => none
end

/-- lo, lo + c, .. -/
def steps (lo c : Int) : Nat → List T
  | 0 => []
  | n + 1 => .int lo :: steps (lo + c) c n
def rngO : List T → Option (List T)
  | [.int j] => if -lim ≤ j ∧ j ≤ lim then some (steps 0 1 j.toNat) else none
  | [.int i, .int j] => if -lim ≤ i ∧ i ≤ lim ∧ -lim ≤ j ∧ j ≤ lim then some (steps i 1 (j - i).toNat) else none
  | [.int i, .int j, .int c] => if -lim ≤ i ∧ i ≤ lim ∧ -lim ≤ j ∧ j ≤ lim ∧ c = -1 then some (steps i (-1) (i - j).toNat) else none
  | _ => none
def itemsO : T → Option (List T)
  | .str s => some (s.map fun c => .str [c])
  | .tup l => some l
  | .lst l => some l
  | _ => none
def enumT : Nat → List T → List T
  | _, [] => []
  | n, x :: xs => .tup [.int n, x] :: enumT (n + 1) xs
def zipT : List T → List T → List T
  | x :: xs, y :: ys => .tup [x, y] :: zipT xs ys
  | _, _ => []
def optI : List T → Option (Option Int)
  | [] => some none
  | [.int i] => some (some i)
  | _ => none

/-! ### how data is shown -/
mutual
def toPD : T → PySem.PyData
  | .non => .none
  | .bl b => .bool b
  | .int i => .int i
  | .str s => .str ⟨s.toArray⟩
  | .tup l => .tuple (toPDs l)
  | .lst l => .list (toPDs l)
  | .dct ks vs => .dict ((toPDs ks).zip (toPDs vs))
  | .ins _ _ _ => .none
  | .ref _ => .none
def toPDs : List T → List PySem.PyData
  | [] => []
  | t :: ts => toPD t :: toPDs ts
end
mutual
/-- data without references and instances, so deep -/
def T.dat : Nat → T → Bool
  | _, .non => true
  | _, .bl _ => true
  | _, .int _ => true
  | _, .str _ => true
  | 0, .tup _ => false
  | 0, .lst _ => false
  | 0, .dct _ _ => false
  | n + 1, .tup l => T.dats n l
  | n + 1, .lst l => T.dats n l
  | n + 1, .dct ks vs => T.dats n ks && T.dats n vs
  | _, .ins _ _ _ => false
  | _, .ref _ => false
def T.dats : Nat → List T → Bool
  | _, [] => true
  | n, x :: xs => T.dat n x && T.dats n xs
end
def isCon : T → Bool
  | .tup _ => true
  | .lst _ => true
  | .dct _ _ => true
  | _ => false
def rpOk (t : T) : Bool := isCon t && T.dat 20 t && (toPD t).showable && decide ((toPD t).shown.length ≤ lim)
def rpT (t : T) : List Nat := (toPD t).shown.cps.toList
/-! ### instances -/
def iscO (l : List Bool) : T → Option Bool
  | .ins c _ _ => l[c]?
  | _ => none
/-- classes from here on are plain ones, those ahead are exceptions -/
def plainC : Nat := 100
/-- an exception's one field -/
def attO (c a : Nat) : T → Option T
  | .ins d [n] [v] => if n = a ∧ d = c then some v else none
  | _ => none
def isAtom : T → Bool
  | .int _ => true
  | .str _ => true
  | _ => false
/-- a dict's key -/
def isKey : T → Bool
  | .int _ => true
  | .str _ => true
  | .tup l => l.all isAtom
  | _ => false
/-- what the evaluator is told: the functions, the catchers -/
structure Env where
  cf : Nat → List T → Hm → R T
  tf : Nat → R T → R T

/-- one turn: the target, the tests, the element -/
def lcGo (g : Tg) (tests : Sl → Hm → R Bool) (elt : Sl → Hm → R T) (x : T) (σ : Sl) (h : Hm) : R (Option T) := match g.put x σ with
  | none => .bad
  | some σ => (tests σ h).bind fun b h => if b then (elt σ h).bind fun y h => .ok (some y) h else .ok none h
/-- behind the turns -/
def lcEnd (m : Bool) (d : Nat) (h : Hm) : R T := if m then .ok (.ref d) h else frzR (.ref d) h
/-- a comprehension's turns: what go gives is put behind the list at d -/
def lcLoop (go : T → Sl → Hm → R (Option T)) (σ : Sl) (d : Nat) : List T → Hm → R Unit
  | [], h => .ok () h
  | x :: xs, h => match go x σ h with
    | .ok (some y) h => match h[d]? with
      | some (some (.lst l)) => if l.length < lim then lcLoop go σ d xs (h.set d (some (.lst (l ++ [y])))) else .bad
      | _ => .bad
    | .ok none h => lcLoop go σ d xs h
    | _ => .bad

mutual
def evE (Γ : Env) : Ex → Sl → Hm → R T
  | .c t, _, h => .ok t h
  | .v i, σ, h => match σ[i]? with
    | some (some t) => .ok t h
    | _ => .bad
  | .tup es, σ, h => (evEs Γ es σ h).bind fun ts h => .ok (.tup ts) h
  | .lst m es, σ, h => (evEs Γ es σ h).bind fun ts h => mk m (.lst ts) h
  | .dct0 m, _, h => mk m (.dct [] []) h
  | .bin m op a b, σ, h => (evE Γ a σ h).bind fun x h => (evE Γ b σ h).bind fun y h => (ofO (opO op (look h x) (look h y)) h).bind fun t h => mk m t h
  | .neg a, σ, h => (evE Γ a σ h).bind fun x h => match x with
    | .int i => .ok (.int (-i)) h
    | _ => .bad
  | .cmp op a b, σ, h => (evE Γ a σ h).bind fun x h => (evE Γ b σ h).bind fun y h => ofO ((cmO op (look h x) (look h y)).map T.bl) h
  | .cmp2 o1 o2 a b c, σ, h => (evE Γ a σ h).bind fun x h => (evE Γ b σ h).bind fun y h => match cmO o1 (look h x) (look h y) with
    | some true => (evE Γ c σ h).bind fun z h => ofO ((cmO o2 (look h y) (look h z)).map T.bl) h
    | some false => .ok (.bl false) h
    | none => .bad
  | .and a b, σ, h => (evE Γ a σ h).bind fun x h => match truth (look h x) with
    | some true => evE Γ b σ h
    | some false => .ok x h
    | none => .bad
  | .or a b, σ, h => (evE Γ a σ h).bind fun x h => match truth (look h x) with
    | some false => evE Γ b σ h
    | some true => .ok x h
    | none => .bad
  | .not a, σ, h => (evE Γ a σ h).bind fun x h => ofO ((truth (look h x)).map fun b => .bl (!b)) h
  | .ite c a b, σ, h => (evB Γ c σ h).bind fun t h => if t then evE Γ a σ h else evE Γ b σ h
  | .ix a b, σ, h => (evE Γ a σ h).bind fun x h => (evE Γ b σ h).bind fun y h => ofO (ixO (look h x) y) h
  | .sl m a lo hi, σ, h => (evE Γ a σ h).bind fun x h => (evEs Γ lo σ h).bind fun l h => match optI l with
    | some l => (evEs Γ hi σ h).bind fun u h => match optI u with
      | some u => (ofO (cutO l u (look h x)) h).bind fun t h => mk m t h
      | none => .bad
    | none => .bad
  | .rev m a, σ, h => (evE Γ a σ h).bind fun x h => (ofO (revO (look h x)) h).bind fun t h => mk m t h
  | .call f es, σ, h => (evEs Γ es σ h).bind fun ts h => Γ.cf f ts h
  | .bi m f es, σ, h => (evEs Γ es σ h).bind fun ts h => (ofO (biO f (ts.map (look h))) h).bind fun t h => mk m t h
  | .me f o es, σ, h => (evE Γ o σ h).bind fun x h => if meOk f (look h x) then (evEs Γ es σ h).bind fun ts h => meR f x ts h else .bad
  | .isi e t, σ, h => (evE Γ e σ h).bind fun x h => ofO ((isiO (look h x) t).map T.bl) h
  | .lc m g it cs e, σ, h => (evI Γ it σ h).bind fun xs h => (lcLoop (lcGo g (fun σ h => evBs Γ cs σ h) (fun σ h => evE Γ e σ h)) σ h.length xs (h ++ [some (.lst [])])).bind fun _ h' => lcEnd m h.length h'
  | .told g e, σ, h => Γ.tf g (evE Γ e σ h)
  | .frz e, σ, h => (evE Γ e σ h).bind fun t h => frzR t h
  | .mkx c e, σ, h => (evE Γ e σ h).bind fun _ h => .ok (.ins c [] []) h
  | .mki c a e, σ, h => (evE Γ e σ h).bind fun x h => .ok (.ins c [a] [x]) h
  | .isc e l, σ, h => (evE Γ e σ h).bind fun x h => ofO ((iscO l (look h x)).map T.bl) h
  | .att e c a, σ, h => (evE Γ e σ h).bind fun x h => ofO (attO c a (look h x)) h
  | .dct1 k v, σ, h => (evE Γ k σ (h ++ [some (.dct [] [])])).bind fun x h1 => (evE Γ v σ h1).bind fun y h2 => if isKey x then (match h2[h.length]? with
    | some (some (.dct [] [])) => .ok (.dct [x] [y]) (h2.set h.length none)
    | _ => .bad) else .bad
  | .mkn c f es, σ, h => (evEs Γ es σ h).bind fun ts h => (Γ.cf f (.ref h.length :: ts) (h ++ [some (.ins c [] [])])).bind fun t h' => match t with
    | .non => frzR (.ref h.length) h'
    | _ => .bad
  | .rpr e, σ, h => (evE Γ e σ h).bind fun x h => if rpOk (look h x) then .ok (.str (rpT (look h x))) h else .bad
  | .bad, _, _ => .bad
def evEs (Γ : Env) : List Ex → Sl → Hm → R (List T)
  | [], _, h => .ok [] h
  | e :: es, σ, h => (evE Γ e σ h).bind fun t h => (evEs Γ es σ h).bind fun ts h => .ok (t :: ts) h
/-- as a test -/
def evB (Γ : Env) : Ex → Sl → Hm → R Bool
  | .and a b, σ, h => (evB Γ a σ h).bind fun t h => if t then evB Γ b σ h else .ok false h
  | .or a b, σ, h => (evB Γ a σ h).bind fun t h => if t then .ok true h else evB Γ b σ h
  | .not a, σ, h => (evB Γ a σ h).bind fun t h => .ok (!t) h
  | .c t, _, h => ofO (truth t) h
  | .v i, σ, h => match σ[i]? with
    | some (some t) => ofO (truth (look h t)) h
    | _ => .bad
  | .cmp op a b, σ, h => (evE Γ a σ h).bind fun x h => (evE Γ b σ h).bind fun y h => ofO (cmO op (look h x) (look h y)) h
  | .cmp2 o1 o2 a b c, σ, h => (evE Γ a σ h).bind fun x h => (evE Γ b σ h).bind fun y h => match cmO o1 (look h x) (look h y) with
    | some true => (evE Γ c σ h).bind fun z h => ofO (cmO o2 (look h y) (look h z)) h
    | some false => .ok false h
    | none => .bad
  | .ix a b, σ, h => (evE Γ a σ h).bind fun x h => (evE Γ b σ h).bind fun y h => (ofO (ixO (look h x) y) h).bind fun t h => ofO (truth (look h t)) h
  | .call f es, σ, h => (evEs Γ es σ h).bind fun ts h => (Γ.cf f ts h).bind fun t h => ofO (truth (look h t)) h
  | .bi false f es, σ, h => (evEs Γ es σ h).bind fun ts h => (ofO (biO f (ts.map (look h))) h).bind fun t h => ofO (truth t) h
  | .isi e t, σ, h => (evE Γ e σ h).bind fun x h => ofO (isiO (look h x) t) h
  | .isc e l, σ, h => (evE Γ e σ h).bind fun x h => ofO (iscO l (look h x)) h
  | _, _, _ => .bad
/-- all of them, the first one that is false ends it -/
def evBs (Γ : Env) : List Ex → Sl → Hm → R Bool
  | [], _, h => .ok true h
  | e :: es, σ, h => (evB Γ e σ h).bind fun b h => if b then evBs Γ es σ h else .ok false h
def evI (Γ : Env) : It → Sl → Hm → R (List T)
  | .e a, σ, h => (evE Γ a σ h).bind fun x h => ofO (itemsO x) h
  | .range es, σ, h => (evEs Γ es σ h).bind fun ts h => ofO (rngO ts) h
  | .enum a, σ, h => (evE Γ a σ h).bind fun x h => ofO ((itemsO x).map (enumT 0)) h
  | .zip a b, σ, h => (evE Γ a σ h).bind fun x h => (evE Γ b σ h).bind fun y h => match itemsO x, itemsO y with
    | some xs, some ys => .ok (zipT xs ys) h
    | _, _ => .bad
end

def setR (o i x : T) (h : Hm) : R Unit := match o, i with
  | .ref j, .int k => match h[j]? with
    | some (some (.lst l)) => match ixN l.length k with
      | some n => .ok () (h.set j (some (.lst (l.set n x))))
      | none => .bad
    | _ => .bad
  | _, _ => .bad

/-- a for's turns -/
def forLoop (g : Tg) (body : Sl → Hm → R Fl) : List T → Sl → Hm → R Fl
  | [], σ, h => .ok (.next σ) h
  | x :: xs, σ, h => match g.put x σ with
    | none => .bad
    | some σ => (body σ h).bind fun f h => match f with
      | .next σ => forLoop g body xs σ h
      | .cont σ => forLoop g body xs σ h
      | .brk σ => .ok (.next σ) h
      | .ret t => .ok (.ret t) h
/-- a while's turns, at most so many -/
def whlLoop (test : Sl → Hm → R Bool) (body : Sl → Hm → R Fl) : Nat → Sl → Hm → R Fl
  | 0, _, _ => .bad
  | n + 1, σ, h => (test σ h).bind fun b h => if b then (body σ h).bind fun f h => match f with
      | .next σ => whlLoop test body n σ h
      | .cont σ => whlLoop test body n σ h
      | .brk σ => .ok (.next σ) h
      | .ret t => .ok (.ret t) h
    else .ok (.next σ) h
mutual
def evS (Γ : Env) : St → Sl → Hm → R Fl
  | .ex e, σ, h => (evE Γ e σ h).bind fun _ h => .ok (.next σ) h
  | .ret e, σ, h => (evE Γ e σ h).bind fun t h => .ok (.ret t) h
  | .asg g e, σ, h => (evE Γ e σ h).bind fun t h => ofO ((g.put t σ).map Fl.next) h
  | .aug i op e, σ, h => match σ[i]? with
    | some (some x) => (evE Γ e σ h).bind fun y h => match op, x, y with
      | .add, .int a, .int b => .ok (.next (σ.set i (some (.int (a + b))))) h
      | .sub, .int a, .int b => .ok (.next (σ.set i (some (.int (a - b))))) h
      | _, _, _ => .bad
    | _ => .bad
  | .set o i e, σ, h => (evE Γ e σ h).bind fun x h => (evE Γ o σ h).bind fun d h => (evE Γ i σ h).bind fun k h => (setR d k x h).bind fun _ h => .ok (.next σ) h
  | .if_ c a b, σ, h => (evB Γ c σ h).bind fun t h => if t then evSs Γ a σ h else evSs Γ b σ h
  | .for_ g it b, σ, h => (evI Γ it σ h).bind fun xs h => forLoop g (fun σ h => evSs Γ b σ h) xs σ h
  | .whl n c b, σ, h => whlLoop (fun σ h => evB Γ c σ h) (fun σ h => evSs Γ b σ h) n σ h
  | .raise c es, σ, h => (evEs Γ es σ h).bind fun ts h => .exc c ts h
  | .pass, σ, h => .ok (.next σ) h
  | .brk, σ, h => .ok (.brk σ) h
  | .cont, σ, h => .ok (.cont σ) h
  | .bad, _, _ => .bad
def evSs (Γ : Env) : List St → Sl → Hm → R Fl
  | [], σ, h => .ok (.next σ) h
  | s :: ss, σ, h => (evS Γ s σ h).bind fun f h => match f with
    | .next σ => evSs Γ ss σ h
    | f => .ok f h
end

/-- a function: how many parameters, how many slots, its body; nothing that it makes is left in the heap -/
structure FD where
  np : Nat
  nl : Nat
  body : List St
/-- behind a call: what was made goes -/
def leave (h : Hm) (t : T) (h' : Hm) : R T := if t.und h.length && preB h.length h h' then .ok t (h'.take h.length) else match t with
  | .ref j => match h'[j]? with
    | some (some mo) => if mo.und h.length && preB h.length h h' then .ok (.ref h.length) (h'.take h.length ++ [some mo]) else .bad
    | _ => .bad
  | _ => .bad
def leaveX (h : Hm) (c : Nat) (ts : List T) (h' : Hm) : R T := if T.unds h.length ts && preB h.length h h' then .exc c ts (h'.take h.length) else .bad
def call (Φ : Nat → Option FD) (tf : Nat → R T → R T) : Nat → Nat → List T → Hm → R T
  | 0, _, _, _ => .bad
  | n + 1, f, ts, h => match Φ f with
    | none => .bad
    | some d => if ts.length = d.np then (match evSs ⟨call Φ tf n, tf⟩ d.body (ts.map some ++ List.replicate (d.nl - d.np) none) h with
        | .ok (.ret t) h' => leave h t h'
        | .ok (.next _) h' => leave h .non h'
        | .ok _ _ => .bad
        | .exc c ts h' => leaveX h c ts h'
        | .bad => .bad) else .bad
end Tw
end
/-! part Tw2a -/
section
set_option Elab.async false
set_option linter.all false
set_option maxRecDepth 100000
/-! Tw2a: trees and the layer's abstract heap: the relation, how it is kept. -/
namespace Tw
open PySem L2

/-- a text's codes -/
abbrev tx (l : List Nat) : PySem.Str := ⟨l.toArray⟩
/-- what the trees lean on besides the heap: the written part, the classes' addresses, the fields' names -/
structure Gx where
  K : PySem.W.Frag
  ca : Nat → Addr
  fnm : Nat → PySem.Str
  tb : List (Addr × PySem.Str)
/-- a world: the layer's heap, the addresses of the references, the evaluator's heap -/
structure Wd where
  H : Hp
  β : List Addr
  h : Hm
def Wd.M (W : Wd) (a : Addr) : Prop := ∃ (i : Nat) (mo : MO), W.h[i]? = some (some mo) ∧ W.β[i]? = some a

/-- a frozen list, a frozen tuple -/
def FzL (K : PySem.W.Frag) (W : Wd) (a : Addr) (xs : List V) : Prop := (Rd W.H a (.lst xs) ∧ ¬ W.M a) ∨
    ∃ (o : Obj) (its : Array Value) (n : Nat), K.lookup a = some o ∧ o.cls = .type "list" ∧ o.dict = none ∧ o.data = .seq its n ∧ its.size ≤ sizeLine ∧ Vals xs its.toList
def FzT (K : PySem.W.Frag) (W : Wd) (a : Addr) (xs : List V) : Prop := (Rd W.H a (.tup xs) ∧ ¬ W.M a) ∨
    ∃ (o : Obj) (its : Array Value) (n : Nat), K.lookup a = some o ∧ o.cls = .type "tuple" ∧ o.data = .seq its n ∧ its.size ≤ sizeLine ∧ Vals xs its.toList
theorem FzL.sq {K : PySem.W.Frag} {W : Wd} {a : Addr} {xs : List V} (h : FzL K W a xs) : SqL K W.H a xs := h.elim (fun q => .inl q.1) .inr
theorem FzT.sq {K : PySem.W.Frag} {W : Wd} {a : Addr} {xs : List V} (h : FzT K W a xs) : SqT K W.H a xs := h.elim (fun q => .inl q.1) .inr
/-- an exception of the class at C at a: without fields, or with these -/
def XAt (H : Hp) (a C : Addr) (fs : List (PySem.Str × V)) : Prop := (fs = [] ∧ Rd H a (ExO (.ref C) a)) ∨ ∃ dx, Rd H a (exo a C (some dx)) ∧ H dx = some (exd dx fs)
/-- a frozen instance: of a plain class; an exception without fields; one with fields -/
def InsF (G : Gx) (W : Wd) (a : Addr) (c : Nat) (fs : List (PySem.Str × V)) : Prop :=
  (plainC ≤ c ∧ ∃ dx, W.H a = some (.ins (G.ca c) dx fs) ∧ ¬ W.M a) ∨ (fs = [] ∧ Rd W.H a (ExO (.ref (G.ca c)) a) ∧ ¬ W.M a) ∨ ∃ dx, Rd W.H a (exo a (G.ca c) (some dx)) ∧ ¬ W.M a ∧ W.H dx = some (exd dx fs) ∧ ¬ W.M dx
/-- the same, as it is looked at -/
def InsL (G : Gx) (W : Wd) (a : Addr) (c : Nat) (fs : List (PySem.Str × V)) : Prop := (plainC ≤ c ∧ ∃ dx, W.H a = some (.ins (G.ca c) dx fs)) ∨ XAt W.H a (G.ca c) fs
theorem InsF.l {G : Gx} {W : Wd} {a : Addr} {c : Nat} {fs : List (PySem.Str × V)} : InsF G W a c fs → InsL G W a c fs
  | .inl ⟨z, dx, e, _⟩ => .inl ⟨z, dx, e⟩
  | .inr (.inl ⟨e, r, _⟩) => .inr (.inl ⟨e, r⟩)
  | .inr (.inr ⟨dx, r, _, e, _⟩) => .inr (.inr ⟨dx, r, e⟩)
/-- a key as a tree -/
def kT : Key → T
  | .inl i => .int i
  | .inr x => .str x.cps.toList

/-- a dict's object: keys that are ints and texts, or tuples of such -/
def DO (ks : List T) (ws : List V) (o : HO) : Prop := (∃ kvs : List (Key × V), o = .dK kvs ∧ ks = kvs.map (fun kv => kT kv.1) ∧ ws = kvs.map (·.2)) ∨
  ∃ kvs : List (List Key × V), o = .dT kvs ∧ ks = kvs.map (fun kv => T.tup (kv.1.map kT)) ∧ ws = kvs.map (·.2)
theorem DO.ntbl {ks : List T} {ws : List V} {o : HO} (h : DO ks ws o) : ∀ ps, o ≠ .tbl ps := by
  rcases h with ⟨kvs, rfl, _⟩ | ⟨kvs, rfl, _⟩ <;> exact fun _ z => by cases z
mutual
def RT (G : Gx) (W : Wd) : T → V → Prop
  | .non, v => v = .non
  | .bl b, v => v = .bl b
  | .int i, v => v = .int i
  | .str s, v => v = .str (tx s) ∧ s.length ≤ sizeLine
  | .tup l, v => ∃ a vs, v = .ref a ∧ FzT G.K W a vs ∧ RTs G W l vs
  | .lst l, v => ∃ a vs, v = .ref a ∧ FzL G.K W a vs ∧ RTs G W l vs
  | .dct ks vs, v => ∃ a o ws, v = .ref a ∧ W.H a = some o ∧ ¬ W.M a ∧ DO ks ws o ∧ RTs G W vs ws
  | .ins c ns vs, v => ∃ a fs, v = .ref a ∧ InsF G W a c fs ∧ fs.map (·.1) = ns.map G.fnm ∧ RTs G W vs (fs.map (·.2))
  | .ref i, v => ∃ a, W.β[i]? = some a ∧ v = .ref a
def RTs (G : Gx) (W : Wd) : List T → List V → Prop
  | [], vs => vs = []
  | t :: ts, vs => ∃ v r, vs = v :: r ∧ RT G W t v ∧ RTs G W ts r
end
/-- a reference's object -/
def RM (G : Gx) (W : Wd) : MO → Addr → Prop
  | .lst l, a => ∃ vs, W.H a = some (.lst vs) ∧ RTs G W l vs
  | .dct ks vs, a => ∃ o ws, W.H a = some o ∧ DO ks ws o ∧ RTs G W vs ws
  | .ins c ns vs, a => plainC ≤ c ∧ ∃ dx fs, W.H a = some (.ins (G.ca c) dx fs) ∧ fs.map (·.1) = ns.map G.fnm ∧ RTs G W vs (fs.map (·.2))
structure Wd.Ok (G : Gx) (W : Wd) : Prop where
  len : W.β.length = W.h.length
  cont : ∀ (i : Nat) mo a, W.h[i]? = some (some mo) → W.β[i]? = some a → RM G W mo a
  inj : ∀ (i j : Nat) a mi mj, W.h[i]? = some (some mi) → W.h[j]? = some (some mj) → W.β[i]? = some a → W.β[j]? = some a → i = j
  tabs : LamX.Tabs G.tb W.H
/-- a later world -/
structure Ext (W W' : Wd) : Prop where
  keep : ∀ a o, W.H a = some o → ¬ W.M a → (∀ ps, o ≠ .tbl ps) → W'.H a = some o ∧ ¬ W'.M a
  bet : ∀ (i : Nat) a, W.β[i]? = some a → W'.β[i]? = some a
theorem Ext.refl (W : Wd) : Ext W W := ⟨fun _ _ e n _ => ⟨e, n⟩, fun _ _ e => e⟩
theorem Ext.trans {W W' W'' : Wd} (a : Ext W W') (b : Ext W' W'') : Ext W W'' :=
  ⟨fun x o e n t => let ⟨e', n'⟩ := a.keep x o e n t; b.keep x o e' n' t, fun i x e => b.bet i x (a.bet i x e)⟩

section
variable {G : Gx} {W W' : Wd}
theorem Ext.rd {a : Addr} {u : HO} (e : Ext W W') (r : Rd W.H a u) (n : ¬ W.M a) (t : ∀ ps, u ≠ .tbl ps := by intro _ z; cases z) : Rd W'.H a u ∧ ¬ W'.M a := by
  rcases r with r | ⟨o, r⟩
  · exact ⟨.inl (e.keep a _ r n t).1, (e.keep a _ r n t).2⟩
  · have t' : ∀ ps, HO.frz o u ≠ .tbl ps := fun _ z => by cases z
    exact ⟨.inr ⟨o, (e.keep a _ r n t').1⟩, (e.keep a _ r n t').2⟩
theorem InsF.ext {a : Addr} {c : Nat} {fs : List (PySem.Str × V)} (h : InsF G W a c fs) (e : Ext W W') : InsF G W' a c fs := by
  rcases h with ⟨z, dx, q, n⟩ | ⟨q, r, n⟩ | ⟨dx, r, n, q, m⟩
  · exact .inl ⟨z, dx, (e.keep _ _ q n (fun _ z => by cases z)).1, (e.keep _ _ q n (fun _ z => by cases z)).2⟩
  · exact .inr (.inl ⟨q, (e.rd r n fun _ z => by cases z).1, (e.rd r n fun _ z => by cases z).2⟩)
  · exact .inr (.inr ⟨dx, (e.rd r n fun _ z => by cases z).1, (e.rd r n fun _ z => by cases z).2, (e.keep _ _ q m (fun _ z => by cases z)).1, (e.keep _ _ q m (fun _ z => by cases z)).2⟩)
theorem FzL.ext {K : PySem.W.Frag} {a : Addr} {xs : List V} (h : FzL K W a xs) (e : Ext W W') : FzL K W' a xs := h.elim (fun q => .inl (e.rd q.1 q.2)) .inr
theorem FzT.ext {K : PySem.W.Frag} {a : Addr} {xs : List V} (h : FzT K W a xs) (e : Ext W W') : FzT K W' a xs := h.elim (fun q => .inl (e.rd q.1 q.2)) .inr
mutual
theorem RT.ext (e : Ext W W') : ∀ (t : T) (v : V), RT G W t v → RT G W' t v
  | .non, _, h => h
  | .bl _, _, h => h
  | .int _, _, h => h
  | .str _, _, h => h
  | .tup l, v, h => by
    obtain ⟨a, vs, q, f, r⟩ := h
    exact ⟨a, vs, q, f.ext e, RTs.ext e l vs r⟩
  | .lst l, v, h => by
    obtain ⟨a, vs, q, f, r⟩ := h
    exact ⟨a, vs, q, f.ext e, RTs.ext e l vs r⟩
  | .dct ks l, v, h => by
    obtain ⟨a, o, ws, q, rd, n, k, r⟩ := h
    exact ⟨a, o, ws, q, (e.keep _ _ rd n k.ntbl).1, (e.keep _ _ rd n k.ntbl).2, k, RTs.ext e l _ r⟩
  | .ins c ns l, v, h => by
    obtain ⟨a, fs, q, f, k, r⟩ := h
    exact ⟨a, fs, q, f.ext e, k, RTs.ext e l _ r⟩
  | .ref i, v, h => by
    obtain ⟨a, b, q⟩ := h
    exact ⟨a, e.bet i a b, q⟩
theorem RTs.ext (e : Ext W W') : ∀ (ts : List T) (vs : List V), RTs G W ts vs → RTs G W' ts vs
  | [], _, h => h
  | t :: ts, vs, h => by
    obtain ⟨v, r, q, a, b⟩ := h
    exact ⟨v, r, q, RT.ext e t v a, RTs.ext e ts r b⟩
end
theorem RTs.length : ∀ {ts : List T} {vs : List V}, RTs G W ts vs → ts.length = vs.length
  | [], _, h => by cases h; rfl
  | t :: ts, vs, h => by
    obtain ⟨v, r, rfl, a, b⟩ := h
    rw [List.length_cons, List.length_cons, RTs.length b]
theorem RTs.get : ∀ {ts : List T} {vs : List V} {i : Nat} {t : T}, RTs G W ts vs → ts[i]? = some t → ∃ v, vs[i]? = some v ∧ RT G W t v
  | [], _, _, _, h, e => by simp at e
  | t :: ts, vs, i, u, h, e => by
    obtain ⟨v, r, rfl, a, b⟩ := h
    cases i with
    | zero => simp at e; subst e; exact ⟨v, rfl, a⟩
    | succ i => simpa using RTs.get b (by simpa using e)
theorem RTs.get' : ∀ {ts : List T} {vs : List V} {i : Nat} {v : V}, RTs G W ts vs → vs[i]? = some v → ∃ t, ts[i]? = some t ∧ RT G W t v
  | [], _, _, _, h, e => by cases h; simp at e
  | t :: ts, vs, i, u, h, e => by
    obtain ⟨v, r, rfl, a, b⟩ := h
    cases i with
    | zero => simp at e; subst e; exact ⟨t, rfl, a⟩
    | succ i => simpa using RTs.get' b (by simpa using e)
theorem RTs.append : ∀ {ts us : List T} {vs ws : List V}, RTs G W ts vs → RTs G W us ws → RTs G W (ts ++ us) (vs ++ ws)
  | [], _, _, _, h, k => by cases h; exact k
  | t :: ts, us, vs, ws, h, k => by
    obtain ⟨v, r, rfl, a, b⟩ := h
    exact ⟨v, r ++ ws, rfl, a, RTs.append b k⟩
theorem RTs.one {t : T} {v : V} (h : RT G W t v) : RTs G W [t] [v] := ⟨v, [], rfl, h, rfl⟩
theorem RTs.set : ∀ {ts : List T} {vs : List V} {t : T} {v : V} (i : Nat), RTs G W ts vs → RT G W t v → RTs G W (ts.set i t) (vs.set i v)
  | [], _, _, _, _, h, _ => by cases h; rfl
  | t :: ts, vs, u, w, i, h, k => by
    obtain ⟨v, r, rfl, a, b⟩ := h
    cases i with
    | zero => exact ⟨w, r, rfl, k, b⟩
    | succ i => exact ⟨v, r.set i w, rfl, a, RTs.set i b k⟩
theorem RTs.drop : ∀ {ts : List T} {vs : List V} (n : Nat), RTs G W ts vs → RTs G W (ts.drop n) (vs.drop n)
  | _, _, 0, h => h
  | [], _, n + 1, h => by cases h; rfl
  | t :: ts, vs, n + 1, h => by
    obtain ⟨v, r, rfl, a, b⟩ := h
    exact RTs.drop n b
theorem RTs.take : ∀ {ts : List T} {vs : List V} (n : Nat), RTs G W ts vs → RTs G W (ts.take n) (vs.take n)
  | _, _, 0, h => rfl
  | [], _, n + 1, h => by cases h; rfl
  | t :: ts, vs, n + 1, h => by
    obtain ⟨v, r, rfl, a, b⟩ := h
    exact ⟨v, r.take n, rfl, a, RTs.take n b⟩
theorem RTs.reverse : ∀ {ts : List T} {vs : List V}, RTs G W ts vs → RTs G W ts.reverse vs.reverse
  | [], _, h => by cases h; rfl
  | t :: ts, vs, h => by
    obtain ⟨v, r, rfl, a, b⟩ := h
    rw [List.reverse_cons, List.reverse_cons]
    exact RTs.append (RTs.reverse b) (RTs.one a)
theorem RTs.rep {ts : List T} {vs : List V} (h : RTs G W ts vs) : ∀ k : Nat, RTs G W (List.replicate k ts).flatten (List.replicate k vs).flatten
  | 0 => rfl
  | k + 1 => by
    rw [List.replicate_succ, List.replicate_succ, List.flatten_cons, List.flatten_cons]
    exact RTs.append h (RTs.rep h k)
theorem RTs.nil_iff {ts : List T} {vs : List V} (h : RTs G W ts vs) : ts = [] ↔ vs = [] := by
  have := h.length
  cases ts <;> cases vs <;> simp_all

/-! ### new objects -/
theorem Ext.new {p : Addr} {o : HO} (hp : W.H p = none) : Ext W ⟨upd W.H p o, W.β, W.h⟩ :=
  ⟨fun a u e n _ => ⟨by show upd W.H p o a = _; rw [upd_ne (ne_of_none e hp)]; exact e, n⟩, fun _ _ e => e⟩
theorem Wd.Ok.new {p : Addr} {o : HO} (ok : W.Ok G) (hp : W.H p = none) : Wd.Ok G ⟨upd W.H p o, W.β, W.h⟩ := by
  have ex : Ext W ⟨upd W.H p o, W.β, W.h⟩ := Ext.new hp
  refine ⟨ok.len, fun i mo a h1 h2 => ?_, ok.inj, ok.tabs.ext fun b u e => by show upd W.H p o b = _; rw [upd_ne (ne_of_none e hp)]; exact e⟩
  have q := ok.cont i mo a h1 h2
  cases mo with
  | lst l =>
    obtain ⟨vs, e, r⟩ := q
    exact ⟨vs, by show upd W.H p o a = _; rw [upd_ne (ne_of_none e hp)]; exact e, RTs.ext ex _ _ r⟩
  | dct ks vs =>
    obtain ⟨u, ws, e, k, r⟩ := q
    exact ⟨u, ws, by show upd W.H p o a = _; rw [upd_ne (ne_of_none e hp)]; exact e, k, RTs.ext ex _ _ r⟩
  | ins c ns vs =>
    obtain ⟨hc, dx, fs, e, k, r⟩ := q
    exact ⟨hc, dx, fs, by show upd W.H p o a = _; rw [upd_ne (ne_of_none e hp)]; exact e, k, RTs.ext ex _ _ r⟩
/-- a list, a dict, an instance -/
def Trk : HO → Prop
  | .lst _ => True
  | .dK _ => True
  | .dT _ => True
  | .ins _ _ _ => True
  | _ => False
theorem Wd.Ok.tracked {i : Nat} {mo : MO} {a : Addr} (ok : W.Ok G) (h1 : W.h[i]? = some (some mo)) (h2 : W.β[i]? = some a) : ∃ o, W.H a = some o ∧ Trk o := by
  have q := ok.cont i mo a h1 h2
  cases mo with
  | lst l => obtain ⟨vs, e, _⟩ := q; exact ⟨_, e, trivial⟩
  | dct ks vs =>
    obtain ⟨u, ws, e, k, _⟩ := q
    exact ⟨_, e, by rcases k with ⟨_, rfl, _⟩ | ⟨_, rfl, _⟩ <;> trivial⟩
  | ins c ns vs => obtain ⟨hc, dx, fs, e, _⟩ := q; exact ⟨_, e, trivial⟩
theorem tabs_upd {H : Hp} {T : List (Addr × PySem.Str)} {a : Addr} {u o : HO} (t : LamX.Tabs T H) (h : H a = some u) (k : Trk u) : LamX.Tabs T (upd H a o) := fun p hp => by
  obtain ⟨ps, e1, e2, e3⟩ := t p hp
  refine ⟨ps, by rw [upd_ne (ne_of e1 h (fun z => by rw [← z] at k; exact k))]; exact e1, e2, fun pos cv hc => ?_⟩
  obtain ⟨c, z1, z2⟩ := e3 pos cv hc
  exact ⟨c, z1, by rw [upd_ne (ne_of z2 h (fun z => by rw [← z] at k; exact k))]; exact z2⟩
theorem Wd.Ok.notM {a : Addr} (ok : W.Ok G) (hp : W.H a = none) : ¬ W.M a := fun ⟨i, mo, h1, h2⟩ => by
  obtain ⟨o, e, _⟩ := ok.tracked h1 h2
  rw [hp] at e; cases e
/-- a new reference -/
theorem mNew {p : Addr} {o : HO} {mo : MO} (hp : W.H p = none) (a : Addr) : Wd.M ⟨upd W.H p o, W.β ++ [p], W.h ++ [some mo]⟩ a → W.β.length = W.h.length → W.M a ∨ a = p := by
  rintro ⟨i, m, h1, h2⟩ hl
  by_cases hi : i < W.h.length
  · exact .inl ⟨i, m, by simpa [List.getElem?_append_left hi] using h1, by simpa [List.getElem?_append_left (show i < W.β.length by omega)] using h2⟩
  · refine .inr ?_
    have h2 : (W.β ++ [p])[i]? = some a := h2
    rw [List.getElem?_append_right (by omega)] at h2
    rcases Nat.eq_zero_or_pos (i - W.β.length) with z | z
    · rw [z] at h2; simpa using h2.symm
    · rw [List.getElem?_eq_none (by simp; omega)] at h2; cases h2
theorem Ext.newM {p : Addr} {o : HO} {mo : MO} (ok : W.Ok G) (hp : W.H p = none) : Ext W ⟨upd W.H p o, W.β ++ [p], W.h ++ [some mo]⟩ := by
  refine ⟨fun a u e n _ => ⟨by show upd W.H p o a = _; rw [upd_ne (ne_of_none e hp)]; exact e, fun hm => ?_⟩, fun i a e => ?_⟩
  · rcases mNew hp a hm ok.len with h | h
    · exact n h
    · exact ne_of_none e hp h
  · show (W.β ++ [p])[i]? = _
    rw [List.getElem?_append_left (by
      obtain ⟨hi, _⟩ := List.getElem?_eq_some_iff.mp e
      exact hi)]
    exact e
theorem Wd.Ok.newM {p : Addr} {o : HO} {mo : MO} (ok : W.Ok G) (hp : W.H p = none) (hn : RM G ⟨upd W.H p o, W.β ++ [p], W.h ++ [some mo]⟩ mo p) : Wd.Ok G ⟨upd W.H p o, W.β ++ [p], W.h ++ [some mo]⟩ := by
  have ex : Ext W ⟨upd W.H p o, W.β ++ [p], W.h ++ [some mo]⟩ := Ext.newM ok hp
  have cases_ : ∀ {i : Nat} {m : MO} {a : Addr}, (W.h ++ [some mo])[i]? = some (some m) → (W.β ++ [p])[i]? = some a → (W.h[i]? = some (some m) ∧ W.β[i]? = some a) ∨ (i = W.h.length ∧ m = mo ∧ a = p) := fun {i m a} h1 h2 => by
    have hl := ok.len
    by_cases hi : i < W.h.length
    · exact .inl ⟨by simpa [List.getElem?_append_left hi] using h1, by simpa [List.getElem?_append_left (show i < W.β.length by omega)] using h2⟩
    · refine .inr ?_
      rw [List.getElem?_append_right (by omega)] at h1 h2
      rcases Nat.eq_zero_or_pos (i - W.h.length) with z | z
      · rw [z] at h1
        rw [show i - W.β.length = 0 by omega] at h2
        simp at h1 h2
        exact ⟨by omega, h1.symm, h2.symm⟩
      · rw [List.getElem?_eq_none (by simp; omega)] at h1; cases h1
  refine ⟨by show (W.β ++ [p]).length = (W.h ++ [some mo]).length; simp [ok.len], fun i m a h1 h2 => ?_, fun i j a mi mj h1 h2 h3 h4 => ?_, ok.tabs.ext fun b u e => by show upd W.H p o b = _; rw [upd_ne (ne_of_none e hp)]; exact e⟩
  · rcases cases_ h1 h2 with ⟨g1, g2⟩ | ⟨_, rfl, rfl⟩
    · have q := ok.cont i m a g1 g2
      have at_ : ∀ u, W.H a = some u → upd W.H p o a = some u := fun u e => by rw [upd_ne (ne_of_none e hp)]; exact e
      cases m with
      | lst l => obtain ⟨vs, e, r⟩ := q; exact ⟨vs, at_ _ e, RTs.ext ex _ _ r⟩
      | dct ks vs => obtain ⟨u, ws, e, k, r⟩ := q; exact ⟨u, ws, at_ _ e, k, RTs.ext ex _ _ r⟩
      | ins c ns vs => obtain ⟨hc, dx, fs, e, k, r⟩ := q; exact ⟨hc, dx, fs, at_ _ e, k, RTs.ext ex _ _ r⟩
    · exact hn
  · rcases cases_ h1 h3 with ⟨g1, g3⟩ | ⟨e1, _, e2⟩
    · rcases cases_ h2 h4 with ⟨g2, g4⟩ | ⟨_, _, e⟩
      · exact ok.inj i j a mi mj g1 g2 g3 g4
      · obtain ⟨u, q, _⟩ := ok.tracked g1 g3
        rw [e, hp] at q; cases q
    · rcases cases_ h2 h4 with ⟨g2, g4⟩ | ⟨e3, _, _⟩
      · obtain ⟨u, q, _⟩ := ok.tracked g2 g4
        rw [e2, hp] at q; cases q
      · omega
/-! ### a reference's object is changed -/
theorem mSet {i : Nat} {mo mo' : MO} {a : Addr} {o : HO} (h1 : W.h[i]? = some (some mo)) (b : Addr) : Wd.M ⟨upd W.H a o, W.β, W.h.set i (some mo')⟩ b → W.M b := by
  rintro ⟨j, m, q1, q2⟩
  by_cases e : i = j
  · subst e; exact ⟨i, mo, h1, q2⟩
  · have q1 : (W.h.set i (some mo'))[j]? = some (some m) := q1
    rw [List.getElem?_set_ne e] at q1
    exact ⟨j, m, q1, q2⟩
theorem Ext.set {i : Nat} {mo mo' : MO} {a : Addr} {o : HO} (h1 : W.h[i]? = some (some mo)) (h2 : W.β[i]? = some a) : Ext W ⟨upd W.H a o, W.β, W.h.set i (some mo')⟩ :=
  ⟨fun b u e n _ => ⟨by
    have ne : b ≠ a := fun z => n ⟨i, mo, h1, by rw [z]; exact h2⟩
    show upd W.H a o b = _
    rw [upd_ne ne]; exact e, fun m => n (mSet h1 b m)⟩, fun _ _ e => e⟩
theorem Wd.Ok.set {i : Nat} {mo mo' : MO} {a : Addr} {o : HO} (ok : W.Ok G) (h1 : W.h[i]? = some (some mo)) (h2 : W.β[i]? = some a) (hn : RM G ⟨upd W.H a o, W.β, W.h.set i (some mo')⟩ mo' a) : Wd.Ok G ⟨upd W.H a o, W.β, W.h.set i (some mo')⟩ := by
  have ex : Ext W ⟨upd W.H a o, W.β, W.h.set i (some mo')⟩ := Ext.set h1 h2
  have hi : i < W.h.length := (List.getElem?_eq_some_iff.mp h1).1
  refine ⟨by show W.β.length = (W.h.set i (some mo')).length; simp [ok.len], fun j m b q1 q2 => ?_, fun j k b mj mk q1 q2 q3 q4 => ?_, by
    obtain ⟨u, e, k⟩ := ok.tracked h1 h2
    exact tabs_upd ok.tabs e k⟩
  · have q1 : (W.h.set i (some mo'))[j]? = some (some m) := q1
    by_cases e : i = j
    · subst e
      rw [List.getElem?_set_self hi] at q1
      have q2 : W.β[i]? = some b := q2
      rw [h2] at q2
      cases q1; cases q2
      exact hn
    · rw [List.getElem?_set_ne e] at q1
      have q2 : W.β[j]? = some b := q2
      have ne : b ≠ a := fun z => e (ok.inj i j a mo m h1 q1 h2 (z ▸ q2))
      have q := ok.cont j m b q1 q2
      have at_ : ∀ u, W.H b = some u → upd W.H a o b = some u := fun u e => by rw [upd_ne ne]; exact e
      cases m with
      | lst l => obtain ⟨vs, e, r⟩ := q; exact ⟨vs, at_ _ e, RTs.ext ex _ _ r⟩
      | dct ks vs => obtain ⟨u, ws, e, k, r⟩ := q; exact ⟨u, ws, at_ _ e, k, RTs.ext ex _ _ r⟩
      | ins c ns vs => obtain ⟨hc, dx, fs, e, k, r⟩ := q; exact ⟨hc, dx, fs, at_ _ e, k, RTs.ext ex _ _ r⟩
  · have back : ∀ {j m}, (W.h.set i (some mo'))[j]? = some (some m) → ∃ m', W.h[j]? = some (some m') := fun {j m} q => by
      by_cases e : i = j
      · subst e; exact ⟨mo, h1⟩
      · rw [List.getElem?_set_ne e] at q; exact ⟨m, q⟩
    obtain ⟨m1, g1⟩ := back q1
    obtain ⟨m2, g2⟩ := back q2
    exact ok.inj j k b m1 m2 g1 g2 q3 q4
/-! ### all but the tables stays -/
theorem Ext.grow {H1 : Hp} (e : LamX.ExtN W.H H1) : Ext W ⟨H1, W.β, W.h⟩ := ⟨fun b o h n t => ⟨e b o h t, n⟩, fun _ _ e => e⟩
theorem Wd.Ok.grow {H1 : Hp} (ok : W.Ok G) (e : LamX.ExtN W.H H1) (t : LamX.Tabs G.tb H1) : Wd.Ok G ⟨H1, W.β, W.h⟩ := by
  have ex : Ext W ⟨H1, W.β, W.h⟩ := Ext.grow e
  refine ⟨ok.len, fun i mo a h1 h2 => ?_, ok.inj, t⟩
  have q := ok.cont i mo a h1 h2
  cases mo with
  | lst l => obtain ⟨vs, f, r⟩ := q; exact ⟨vs, e _ _ f (fun _ z => by cases z), RTs.ext ex _ _ r⟩
  | dct ks vs => obtain ⟨u, ws, f, k, r⟩ := q; exact ⟨u, ws, e _ _ f k.ntbl, k, RTs.ext ex _ _ r⟩
  | ins c ns vs => obtain ⟨hc, dx, fs, f, k, r⟩ := q; exact ⟨hc, dx, fs, e _ _ f (fun _ z => by cases z), k, RTs.ext ex _ _ r⟩
/-! ### a reference is frozen -/
theorem Ext.frz (i : Nat) : Ext W ⟨W.H, W.β, W.h.set i none⟩ := by
  refine ⟨fun b u e n _ => ⟨e, fun ⟨j, m, q1, q2⟩ => n ⟨j, m, ?_, q2⟩⟩, fun _ _ e => e⟩
  have q1 : (W.h.set i none)[j]? = some (some m) := q1
  by_cases e : i = j
  · subst e
    by_cases hi : i < W.h.length
    · rw [List.getElem?_set_self hi] at q1; cases q1
    · rw [List.getElem?_eq_none (by simp; omega)] at q1; cases q1
  · rw [List.getElem?_set_ne e] at q1; exact q1
theorem frzGet {i j : Nat} {m : MO} (q1 : (W.h.set i none)[j]? = some (some m)) : i ≠ j ∧ W.h[j]? = some (some m) := by
  by_cases e : i = j
  · subst e
    by_cases hi : i < W.h.length
    · rw [List.getElem?_set_self hi] at q1; cases q1
    · rw [List.getElem?_eq_none (by simp; omega)] at q1; cases q1
  · rw [List.getElem?_set_ne e] at q1; exact ⟨e, q1⟩
theorem Wd.Ok.frz (ok : W.Ok G) (i : Nat) : Wd.Ok G ⟨W.H, W.β, W.h.set i none⟩ := by
  have ex : Ext W ⟨W.H, W.β, W.h.set i none⟩ := Ext.frz i
  refine ⟨by show W.β.length = (W.h.set i none).length; simp [ok.len], fun j m b q1 q2 => ?_, fun j k b mj mk q1 q2 q3 q4 => ok.inj j k b mj mk (frzGet q1).2 (frzGet q2).2 q3 q4, ok.tabs⟩
  have q := ok.cont j m b (frzGet q1).2 q2
  cases m with
  | lst l => obtain ⟨vs, e, r⟩ := q; exact ⟨vs, e, RTs.ext ex _ _ r⟩
  | dct ks vs => obtain ⟨u, ws, e, k, r⟩ := q; exact ⟨u, ws, e, k, RTs.ext ex _ _ r⟩
  | ins c ns vs => obtain ⟨hc, dx, fs, e, k, r⟩ := q; exact ⟨hc, dx, fs, e, k, RTs.ext ex _ _ r⟩
theorem notM_frz {i : Nat} {mo : MO} {a : Addr} (ok : W.Ok G) (h1 : W.h[i]? = some (some mo)) (h2 : W.β[i]? = some a) : ¬ Wd.M ⟨W.H, W.β, W.h.set i none⟩ a := fun ⟨j, m, q1, q2⟩ =>
  (frzGet q1).1 (ok.inj i j a mo m h1 (frzGet q1).2 h2 q2)

/-! ### references below a mark; a call's end -/
mutual
theorem RT.cut {β' : List Addr} {h' : Hm} {n : Nat} (hb : ∀ (i : Nat) a, i < n → W.β[i]? = some a → β'[i]? = some a) (hm : ∀ a, Wd.M ⟨W.H, β', h'⟩ a → W.M a) : ∀ (t : T) (v : V), T.und n t = true → RT G W t v → RT G ⟨W.H, β', h'⟩ t v
  | .non, _, _, h => h
  | .bl _, _, _, h => h
  | .int _, _, _, h => h
  | .str _, _, _, h => h
  | .tup l, v, u, h => by
    obtain ⟨a, vs, q, f, r⟩ := h
    exact ⟨a, vs, q, f.elim (fun z => .inl ⟨z.1, fun k => z.2 (hm _ k)⟩) .inr, RTs.cut hb hm l vs (by simpa [T.und] using u) r⟩
  | .lst l, v, u, h => by
    obtain ⟨a, vs, q, f, r⟩ := h
    exact ⟨a, vs, q, f.elim (fun z => .inl ⟨z.1, fun k => z.2 (hm _ k)⟩) .inr, RTs.cut hb hm l vs (by simpa [T.und] using u) r⟩
  | .dct ks l, v, u, h => by
    obtain ⟨a, o, ws, q, rd, n, k, r⟩ := h
    exact ⟨a, o, ws, q, rd, fun z => n (hm _ z), k, RTs.cut hb hm l _ (by simp [T.und] at u; exact u.2) r⟩
  | .ins c ns l, v, u, h => by
    obtain ⟨a, fs, q, f, k, r⟩ := h
    refine ⟨a, fs, q, ?_, k, RTs.cut hb hm l _ (by simpa [T.und] using u) r⟩
    rcases f with ⟨z, dx, q, n⟩ | ⟨q, r, n⟩ | ⟨dx, r, n, q, m⟩
    · exact .inl ⟨z, dx, q, fun z => n (hm _ z)⟩
    · exact .inr (.inl ⟨q, r, fun z => n (hm _ z)⟩)
    · exact .inr (.inr ⟨dx, r, fun z => n (hm _ z), q, fun z => m (hm _ z)⟩)
  | .ref i, v, u, h => by
    obtain ⟨a, b, q⟩ := h
    exact ⟨a, hb i a (by simpa [T.und] using u) b, q⟩
theorem RTs.cut {β' : List Addr} {h' : Hm} {n : Nat} (hb : ∀ (i : Nat) a, i < n → W.β[i]? = some a → β'[i]? = some a) (hm : ∀ a, Wd.M ⟨W.H, β', h'⟩ a → W.M a) : ∀ (ts : List T) (vs : List V), T.unds n ts = true → RTs G W ts vs → RTs G ⟨W.H, β', h'⟩ ts vs
  | [], _, _, h => h
  | t :: ts, vs, u, h => by
    obtain ⟨v, r, q, a, b⟩ := h
    simp only [T.unds, Bool.and_eq_true] at u
    exact ⟨v, r, q, RT.cut hb hm t v u.1 a, RTs.cut hb hm ts r u.2 b⟩
end
theorem unds_keys (n : Nat) : ∀ kvs : List (Key × V), T.unds n (kvs.map fun kv => kT kv.1) = true
  | [] => rfl
  | (.inl _, _) :: r => by simp [T.unds, kT, T.und]; exact unds_keys n r
  | (.inr _, _) :: r => by simp [T.unds, kT, T.und]; exact unds_keys n r
theorem unds_atoms (n : Nat) : ∀ ks : List Key, T.unds n (ks.map kT) = true
  | [] => rfl
  | .inl _ :: r => by simp [T.unds, kT, T.und]; exact unds_atoms n r
  | .inr _ :: r => by simp [T.unds, kT, T.und]; exact unds_atoms n r
theorem unds_tups (n : Nat) : ∀ kvs : List (List Key × V), T.unds n (kvs.map fun kv => T.tup (kv.1.map kT)) = true
  | [] => rfl
  | (ks, _) :: r => by
    rw [List.map_cons, T.unds, unds_tups n r, Bool.and_true]
    exact unds_atoms n ks
theorem DO.unds {ks : List T} {ws : List V} {o : HO} (n : Nat) (h : DO ks ws o) : T.unds n ks = true := by
  rcases h with ⟨kvs, _, rfl, _⟩ | ⟨kvs, _, rfl, _⟩
  · exact unds_keys n kvs
  · exact unds_tups n kvs
mutual
/-- a tree that is related has its references within -/
theorem RT.undOf {n : Nat} (hn : W.β.length ≤ n) : ∀ (t : T) (v : V), RT G W t v → T.und n t = true
  | .non, _, _ => rfl
  | .bl _, _, _ => rfl
  | .int _, _, _ => rfl
  | .str _, _, _ => rfl
  | .tup l, v, h => by
    obtain ⟨a, vs, q, f, r⟩ := h
    exact RTs.undOf hn l vs r
  | .lst l, v, h => by
    obtain ⟨a, vs, q, f, r⟩ := h
    exact RTs.undOf hn l vs r
  | .dct ks l, v, h => by
    obtain ⟨a, o, ws, q, rd, m, k, r⟩ := h
    simp only [T.und, Bool.and_eq_true]
    exact ⟨k.unds n, RTs.undOf hn l _ r⟩
  | .ins c ns l, v, h => by
    obtain ⟨a, fs, q, f, k, r⟩ := h
    exact RTs.undOf hn l _ r
  | .ref i, v, h => by
    obtain ⟨a, b, q⟩ := h
    have := (List.getElem?_eq_some_iff.mp b).1
    simp only [T.und, decide_eq_true_eq]
    omega
theorem RTs.undOf {n : Nat} (hn : W.β.length ≤ n) : ∀ (ts : List T) (vs : List V), RTs G W ts vs → T.unds n ts = true
  | [], _, _ => rfl
  | t :: ts, vs, h => by
    obtain ⟨v, r, q, a, b⟩ := h
    simp only [T.unds, Bool.and_eq_true]
    exact ⟨RT.undOf hn t v a, RTs.undOf hn ts r b⟩
end
mutual
theorem beq_eq : ∀ a b : T, T.beq a b = true → a = b
  | .non, b, h => by cases b <;> simp [T.beq] at h ⊢
  | .bl x, b, h => by cases b <;> simp [T.beq] at h ⊢; exact h
  | .int x, b, h => by cases b <;> simp [T.beq] at h ⊢; exact h
  | .str x, b, h => by cases b <;> simp [T.beq] at h ⊢; exact h
  | .tup x, b, h => by cases b <;> simp [T.beq] at h ⊢; exact beqs_eq _ _ h
  | .lst x, b, h => by cases b <;> simp [T.beq] at h ⊢; exact beqs_eq _ _ h
  | .dct x y, b, h => by cases b <;> simp [T.beq] at h ⊢; exact ⟨beqs_eq _ _ h.1, beqs_eq _ _ h.2⟩
  | .ins x y z, b, h => by cases b <;> simp [T.beq] at h ⊢; exact ⟨h.1.1, h.1.2, beqs_eq _ _ h.2⟩
  | .ref x, b, h => by cases b <;> simp [T.beq] at h ⊢; exact h
theorem beqs_eq : ∀ a b : List T, T.beqs a b = true → a = b
  | [], b, h => by cases b <;> simp [T.beqs] at h ⊢
  | x :: xs, b, h => by
    cases b with
    | nil => simp [T.beqs] at h
    | cons y ys =>
      simp only [T.beqs, Bool.and_eq_true] at h
      rw [beq_eq _ _ h.1, beqs_eq _ _ h.2]
end
theorem mobeq_eq : ∀ a b : MO, MO.beq a b = true → a = b
  | .lst a, .lst b, h => by rw [beqs_eq a b h]
  | .dct a b, .dct c d, h => by
    simp only [MO.beq, Bool.and_eq_true] at h
    rw [beqs_eq _ _ h.1, beqs_eq _ _ h.2]
  | .ins c n a, .ins d m b, h => by
    simp only [MO.beq, Bool.and_eq_true, beq_iff_eq] at h
    rw [h.1.1, h.1.2, beqs_eq _ _ h.2]
  | .lst _, .dct _ _, h => by cases h
  | .lst _, .ins _ _ _, h => by cases h
  | .dct _ _, .lst _, h => by cases h
  | .dct _ _, .ins _ _ _, h => by cases h
  | .ins _ _ _, .lst _, h => by cases h
  | .ins _ _ _, .dct _ _, h => by cases h
theorem slotB_eq : ∀ {a b : Option MO}, slotB a b = true → a = b
  | none, none, _ => rfl
  | some a, some b, h => by rw [mobeq_eq a b h]
  | none, some _, h => by cases h
  | some _, none, h => by cases h
theorem preB_get : ∀ {h h' : Hm} {n i : Nat} {m : MO}, preB n h h' = true → i < h.length → h'[i]? = some (some m) → h[i]? = some (some m) ∨ m.und n = true
  | [], _, _, _, _, _, hi, _ => by simp at hi
  | _ :: _, [], _, _, _, p, _, e => by simp [preB] at p
  | a :: as, b :: bs, n, i, m, p, hi, e => by
    simp only [preB, Bool.and_eq_true, Bool.or_eq_true] at p
    cases i with
    | zero =>
      simp at e
      subst e
      rcases p.1 with q | q
      · have := slotB_eq q
        subst this
        exact .inl rfl
      · exact .inr q
    | succ i =>
      have := preB_get (i := i) (m := m) p.2 (by simpa using hi) (by simpa using e)
      simpa using this
theorem preB_len : ∀ {h h' : Hm} {n : Nat}, preB n h h' = true → h.length ≤ h'.length
  | [], _, _, _ => Nat.zero_le _
  | _ :: _, [], _, p => by simp [preB] at p
  | a :: as, b :: bs, n, p => by
    simp only [preB, Bool.and_eq_true] at p
    simpa using preB_len p.2
/-- behind a call: what was made is forgotten -/
theorem Ext.leave {W₀ W : Wd} (ok0 : W₀.Ok G) (ok : W.Ok G) (ex : Ext W₀ W) (p : preB W₀.h.length W₀.h W.h = true) :
    Wd.Ok G ⟨W.H, W₀.β, W.h.take W₀.h.length⟩ ∧ Ext W₀ ⟨W.H, W₀.β, W.h.take W₀.h.length⟩ ∧ ∀ t v, T.und W₀.h.length t = true → RT G W t v → RT G ⟨W.H, W₀.β, W.h.take W₀.h.length⟩ t v := by
  have hlen := preB_len p
  have l0 := ok0.len
  have l1 := ok.len
  have get : ∀ {i : Nat} {m : MO}, (W.h.take W₀.h.length)[i]? = some (some m) → i < W₀.h.length ∧ W.h[i]? = some (some m) := fun {i m} q => by
    by_cases hi : i < W₀.h.length
    · rw [List.getElem?_take_of_lt hi] at q; exact ⟨hi, q⟩
    · rw [List.getElem?_eq_none (by simp; omega)] at q; cases q
  have hm : ∀ a, Wd.M ⟨W.H, W₀.β, W.h.take W₀.h.length⟩ a → W.M a := fun a ⟨i, m, q1, q2⟩ => ⟨i, m, (get q1).2, ex.bet i a q2⟩
  have hb : ∀ (i : Nat) a, i < W₀.h.length → W.β[i]? = some a → W₀.β[i]? = some a := fun i a hi e => by
    have hi' : i < W₀.β.length := by omega
    have q := ex.bet i W₀.β[i] (List.getElem?_eq_getElem hi')
    rw [e] at q
    cases q
    exact List.getElem?_eq_getElem hi'
  have ex2 : Ext W₀ ⟨W.H, W₀.β, W.h.take W₀.h.length⟩ := ⟨fun a o e n t => ⟨(ex.keep a o e n t).1, fun z => (ex.keep a o e n t).2 (hm a z)⟩, fun _ _ e => e⟩
  refine ⟨⟨by show W₀.β.length = (W.h.take W₀.h.length).length; simp; omega, fun i m a q1 q2 => ?_, fun i j a mi mj q1 q2 q3 q4 => ok.inj i j a mi mj (get q1).2 (get q2).2 (ex.bet i a q3) (ex.bet j a q4), ok.tabs⟩, ex2, fun t v u r => RT.cut hb hm t v u r⟩
  obtain ⟨hi, g1⟩ := get q1
  have q := ok.cont i m a g1 (ex.bet i a q2)
  rcases preB_get p hi g1 with z | z
  · have q0 := ok0.cont i m a z q2
    cases m with
    | lst l =>
      obtain ⟨vs, e, r⟩ := q
      obtain ⟨vs0, e0, r0⟩ := q0
      -- the contents as they were: related in the first world too, but of other values
      exact ⟨vs, e, RTs.cut (n := W₀.h.length) hb hm l vs (by
        exact RTs.undOf (W := W₀) (by omega) l vs0 r0) r⟩
    | dct ks vs =>
      obtain ⟨u, ws, e, k, r⟩ := q
      obtain ⟨u0, ws0, e0, k0, r0⟩ := q0
      exact ⟨u, ws, e, k, RTs.cut (n := W₀.h.length) hb hm vs _ (RTs.undOf (W := W₀) (by omega) vs _ r0) r⟩
    | ins c ns vs =>
      obtain ⟨hc, dx, fs, e, k, r⟩ := q
      obtain ⟨hc0, dx0, fs0, e0, k0, r0⟩ := q0
      exact ⟨hc, dx, fs, e, k, RTs.cut (n := W₀.h.length) hb hm vs _ (RTs.undOf (W := W₀) (by omega) vs _ r0) r⟩
  · cases m with
    | lst l =>
      obtain ⟨vs, e, r⟩ := q
      exact ⟨vs, e, RTs.cut hb hm l vs (by simpa [MO.und] using z) r⟩
    | dct ks vs =>
      obtain ⟨u, ws, e, k, r⟩ := q
      simp only [MO.und, Bool.and_eq_true] at z
      exact ⟨u, ws, e, k, RTs.cut hb hm vs _ z.2 r⟩
    | ins c ns vs =>
      obtain ⟨hc, dx, fs, e, k, r⟩ := q
      exact ⟨hc, dx, fs, e, k, RTs.cut hb hm vs _ (by simpa [MO.und] using z) r⟩
/-- .. but for one thing, which is handed out -/
theorem Ext.leaveM {W₀ W : Wd} {j : Nat} {mo : MO} {a : Addr} (ok0 : W₀.Ok G) (ok : W.Ok G) (ex : Ext W₀ W) (p : preB W₀.h.length W₀.h W.h = true) (hj : W.h[j]? = some (some mo)) (hbj : W.β[j]? = some a) (hnj : W₀.h.length ≤ j) (hu : mo.und W₀.h.length = true) :
    Wd.Ok G ⟨W.H, W₀.β ++ [a], W.h.take W₀.h.length ++ [some mo]⟩ ∧ Ext W₀ ⟨W.H, W₀.β ++ [a], W.h.take W₀.h.length ++ [some mo]⟩ := by
  have hlen := preB_len p
  have l0 := ok0.len
  have l1 := ok.len
  have lt : (W.h.take W₀.h.length).length = W₀.h.length := by simp; omega
  have get : ∀ {i : Nat} {m : MO} {b : Addr}, (W.h.take W₀.h.length ++ [some mo])[i]? = some (some m) → (W₀.β ++ [a])[i]? = some b → (i < W₀.h.length ∧ W.h[i]? = some (some m) ∧ W₀.β[i]? = some b) ∨ (i = W₀.h.length ∧ m = mo ∧ b = a) := fun {i m b} q q' => by
    by_cases hi : i < W₀.h.length
    · rw [List.getElem?_append_left (by rw [lt]; exact hi), List.getElem?_take_of_lt hi] at q
      rw [List.getElem?_append_left (by omega)] at q'
      exact .inl ⟨hi, q, q'⟩
    · refine .inr ?_
      rw [List.getElem?_append_right (by rw [lt]; omega), lt] at q
      rw [List.getElem?_append_right (by omega)] at q'
      rcases Nat.eq_zero_or_pos (i - W₀.h.length) with z | z
      · rw [z] at q
        rw [show i - W₀.β.length = 0 by omega] at q'
        simp at q q'
        exact ⟨by omega, q.symm, q'.symm⟩
      · rw [List.getElem?_eq_none (by simp; omega)] at q; cases q
  have hm : ∀ b, Wd.M ⟨W.H, W₀.β ++ [a], W.h.take W₀.h.length ++ [some mo]⟩ b → W.M b := fun b ⟨i, m, q1, q2⟩ => by
    rcases get q1 q2 with ⟨_, g1, g2⟩ | ⟨_, rfl, rfl⟩
    · exact ⟨i, m, g1, ex.bet i b g2⟩
    · exact ⟨j, m, hj, hbj⟩
  have hb : ∀ (i : Nat) b, i < W₀.h.length → W.β[i]? = some b → (W₀.β ++ [a])[i]? = some b := fun i b hi e => by
    have hi' : i < W₀.β.length := by omega
    have q := ex.bet i W₀.β[i] (List.getElem?_eq_getElem hi')
    rw [e] at q
    cases q
    rw [List.getElem?_append_left hi']
    exact List.getElem?_eq_getElem hi'
  have rm : ∀ {m : MO} {b : Addr}, m.und W₀.h.length = true → RM G W m b → RM G ⟨W.H, W₀.β ++ [a], W.h.take W₀.h.length ++ [some mo]⟩ m b := fun {m b} z q => by
    cases m with
    | lst l =>
      obtain ⟨vs, e, r⟩ := q
      exact ⟨vs, e, RTs.cut hb hm l vs (by simpa [MO.und] using z) r⟩
    | dct ks vs =>
      obtain ⟨u, ws, e, k, r⟩ := q
      simp only [MO.und, Bool.and_eq_true] at z
      exact ⟨u, ws, e, k, RTs.cut hb hm vs _ z.2 r⟩
    | ins c ns vs =>
      obtain ⟨hc, dx, fs, e, k, r⟩ := q
      exact ⟨hc, dx, fs, e, k, RTs.cut hb hm vs _ (by simpa [MO.und] using z) r⟩
  refine ⟨⟨by show (W₀.β ++ [a]).length = (W.h.take W₀.h.length ++ [some mo]).length; rw [List.length_append, List.length_append, lt, l0]; rfl, fun i m b q1 q2 => ?_, fun i k b mi mk q1 q2 q3 q4 => ?_, ok.tabs⟩, ⟨fun b o e n t => ⟨(ex.keep b o e n t).1, fun z => (ex.keep b o e n t).2 (hm b z)⟩, fun i b e => by
    show (W₀.β ++ [a])[i]? = _
    rw [List.getElem?_append_left (List.getElem?_eq_some_iff.mp e).1]
    exact e⟩⟩
  · rcases get q1 q2 with ⟨hi, g1, g2⟩ | ⟨_, rfl, rfl⟩
    · have q := ok.cont i m b g1 (ex.bet i b g2)
      rcases preB_get p hi g1 with z | z
      · refine rm ?_ q
        have q0 := ok0.cont i m b z g2
        cases m with
        | lst l => obtain ⟨vs0, e0, r0⟩ := q0; exact RTs.undOf (W := W₀) (by omega) l vs0 r0
        | dct ks vs =>
          obtain ⟨u0, ws0, e0, k0, r0⟩ := q0
          simp only [MO.und, Bool.and_eq_true]
          exact ⟨k0.unds _, RTs.undOf (W := W₀) (by omega) vs _ r0⟩
        | ins c ns vs => obtain ⟨hc0, dx0, fs0, e0, k0, r0⟩ := q0; exact RTs.undOf (W := W₀) (by omega) vs _ r0
      · exact rm z q
    · exact rm hu (ok.cont j m b hj hbj)
  · rcases get q1 q3 with ⟨hi, g1, g3⟩ | ⟨hi, _, hbi⟩
    · rcases get q2 q4 with ⟨hk, g2, g4⟩ | ⟨hk, _, hbk⟩
      · exact ok.inj i k b mi mk g1 g2 (ex.bet i b g3) (ex.bet k b g4)
      · have := ok.inj i j b mi mo g1 hj (ex.bet i b g3) (hbk ▸ hbj)
        omega
    · rcases get q2 q4 with ⟨hk, g2, g4⟩ | ⟨hk, _, hbk⟩
      · have := ok.inj k j b mk mo g2 hj (ex.bet k b g4) (hbi ▸ hbj)
        omega
      · omega
end
end Tw
end
/-! part Tw2b -/
section
set_option Elab.async false
set_option linter.all false
set_option maxRecDepth 100000
/-! Tw2b: what is wanted behind a run; the operators on trees. -/
namespace Tw
open PySem L2

/-- an exception as the layer tells it -/
def RX (G : Gx) (W : Wd) (c : Nat) (ts : List T) (cls : Value) (d : Option Addr) : Prop := cls = .ref (G.ca c) ∧ d = none
/-- what is wanted of a run from the world W: rel says how a result stands for the layer's -/
def Post {α β : Type} (G : Gx) (rel : Wd → α → β → Prop) (W : Wd) (r : R α) (Q : β → Hp → Prop) (E : XK) : Prop := match r with
  | .ok a h' => ∀ W' b, W'.h = h' → Ext W W' → W'.Ok G → rel W' a b → Q b W'.H
  | .exc c ts h' => ∀ W' cls d, W'.h = h' → Ext W W' → W'.Ok G → RX G W' c ts cls d → E cls d W'.H
  | .bad => False
section
variable {α β γ δ : Type} {G : Gx} {rel : Wd → α → β → Prop} {rel' : Wd → γ → δ → Prop} {W W1 : Wd} {r : R α} {f : α → Hm → R γ} {Q : β → Hp → Prop} {Q' : δ → Hp → Prop} {E : XK}
theorem Post.later (ex : Ext W W1) (p : Post G rel W r Q E) : Post G rel W1 r Q E := by
  cases r with
  | ok a h => exact fun W' b e x o q => p W' b e (ex.trans x) o q
  | exc c ts h => exact fun W' cls d e x o q => p W' cls d e (ex.trans x) o q
  | bad => exact p
theorem Post.mono {Q2 : β → Hp → Prop} (p : Post G rel W r Q E) (h : ∀ b H, Q b H → Q2 b H) : Post G rel W r Q2 E := by
  cases r with
  | ok a h' => exact fun W' b e x o q => h _ _ (p W' b e x o q)
  | exc c ts h' => exact p
  | bad => exact p
theorem Post.seq (p : Post G rel' W (r.bind f) Q' E) : Post G rel W r (fun b H1 => ∃ W1 a, W1.H = H1 ∧ Ext W W1 ∧ W1.Ok G ∧ rel W1 a b ∧ Post G rel' W1 (f a W1.h) Q' E) E := by
  cases r with
  | ok a h => exact fun W' b e x o q => ⟨W', a, rfl, x, o, q, by rw [e]; exact Post.later x p⟩
  | exc c ts h => exact p
  | bad => exact p
theorem Post.here {a : α} {b : β} (ok : W.Ok G) (p : Post G rel W (.ok a W.h) Q E) (q : rel W a b) : Q b W.H := p W b rfl (Ext.refl W) ok q
theorem Post.of_ofO {o : Option α} (p : Post G rel W (ofO o W.h) Q E) : ∃ a, o = some a ∧ Post G rel W (.ok a W.h) Q E := by
  cases o with
  | none => exact False.elim p
  | some a => exact ⟨a, rfl, p⟩
theorem Post.of_bindO {o : Option α} (p : Post G rel' W ((ofO o W.h).bind f) Q' E) : ∃ a, o = some a ∧ Post G rel' W (f a W.h) Q' E := by
  cases o with
  | none => exact False.elim p
  | some a => exact ⟨a, rfl, p⟩
end
abbrev PostE (G : Gx) := Post G (RT G)
abbrev PostA (G : Gx) := Post G (RTs G)
abbrev PostB (G : Gx) := Post (α := Bool) (β := Bool) G (fun _ a b => a = b)

/-! ### a tree as it is looked at -/
def LT (G : Gx) (W : Wd) : T → V → Prop
  | .lst l, v => ∃ a vs, v = .ref a ∧ SqL G.K W.H a vs ∧ RTs G W l vs
  | .tup l, v => ∃ a vs, v = .ref a ∧ FzT G.K W a vs ∧ RTs G W l vs
  | .dct ks vs, v => ∃ a o ws, v = .ref a ∧ W.H a = some o ∧ DO ks ws o ∧ RTs G W vs ws
  | .ins c ns vs, v => ∃ a fs, v = .ref a ∧ InsL G W a c fs ∧ fs.map (·.1) = ns.map G.fnm ∧ RTs G W vs (fs.map (·.2))
  | .non, v => v = .non
  | .bl b, v => v = .bl b
  | .int i, v => v = .int i
  | .str s, v => v = .str (tx s) ∧ s.length ≤ sizeLine
  | .ref i, v => ∃ a, W.β[i]? = some a ∧ v = .ref a
section
variable {G : Gx} {W : Wd}
theorem RT.lt : ∀ {t : T} {v : V}, RT G W t v → LT G W t v
  | .non, _, h => h
  | .bl _, _, h => h
  | .int _, _, h => h
  | .str _, _, h => h
  | .tup _, _, h => h
  | .lst _, _, h => let ⟨a, vs, e, f, r⟩ := h; ⟨a, vs, e, f.sq, r⟩
  | .dct _ _, _, h => let ⟨a, o, ws, e, f, _, k, r⟩ := h; ⟨a, o, ws, e, f, k, r⟩
  | .ins _ _ _, _, h => let ⟨a, fs, e, f, k, r⟩ := h; ⟨a, fs, e, f.l, k, r⟩
  | .ref _, _, h => h
theorem look_LT {t : T} {v : V} (ok : W.Ok G) (h : RT G W t v) : LT G W (look W.h t) v := by
  cases t with
  | ref i =>
    obtain ⟨a, e, rfl⟩ := id h
    have go : ∀ o, W.h[i]? = o → LT G W (match o with
      | some (some (.lst l)) => .lst l
      | some (some (.dct ks vs)) => .dct ks vs
      | some (some (.ins c ns vs)) => .ins c ns vs
      | _ => .ref i) (V.ref a) := fun o q => by
      cases o with
      | none => exact h
      | some o =>
        cases o with
        | none => exact h
        | some mo =>
          have c := ok.cont i mo a q e
          cases mo with
          | lst l => obtain ⟨vs, k, r⟩ := c; exact ⟨a, vs, rfl, .of k, r⟩
          | dct ks vs => obtain ⟨u, ws, k, z, r⟩ := c; exact ⟨a, u, ws, rfl, k, z, r⟩
          | ins c ns vs => obtain ⟨hc, dx, fs, k, z, r⟩ := c; exact ⟨a, fs, rfl, .inl ⟨hc, dx, k⟩, z, r⟩
    exact go _ rfl
  | _ => exact h.lt

/-! ### made containers -/
theorem mk_lst {m : Bool} {l : List T} {Q : VK} {E : XK} {vs : List V} (ok : W.Ok G) (p : PostE G W (mk m (.lst l) W.h) Q E) (r : RTs G W l vs) : ∀ q, W.H q = none → Q (.ref q) (upd W.H q (.lst vs)) := fun q hq => by
  cases m with
  | false =>
    have p : PostE G W (.ok (.lst l) W.h) Q E := p
    exact p ⟨upd W.H q (.lst vs), W.β, W.h⟩ _ rfl (.new hq) (ok.new hq) ⟨q, vs, rfl, .inl ⟨.of upd_same, fun z => ok.notM hq z⟩, RTs.ext (.new hq) _ _ r⟩
  | true =>
    have p : PostE G W (.ok (.ref W.h.length) (W.h ++ [some (.lst l)])) Q E := p
    have ex : Ext W ⟨upd W.H q (.lst vs), W.β ++ [q], W.h ++ [some (.lst l)]⟩ := Ext.newM ok hq
    exact p ⟨upd W.H q (.lst vs), W.β ++ [q], W.h ++ [some (.lst l)]⟩ _ rfl ex (ok.newM (mo := .lst l) hq ⟨vs, upd_same, RTs.ext ex _ _ r⟩) ⟨q, by show (W.β ++ [q])[W.h.length]? = _; rw [← ok.len]; simp, rfl⟩
theorem mk_tup {m : Bool} {l : List T} {Q : VK} {E : XK} {vs : List V} (ok : W.Ok G) (p : PostE G W (mk m (.tup l) W.h) Q E) (r : RTs G W l vs) : ∀ q, W.H q = none → Q (.ref q) (upd W.H q (.tup vs)) := fun q hq => by
  cases m with
  | false =>
    have p : PostE G W (.ok (.tup l) W.h) Q E := p
    exact p ⟨upd W.H q (.tup vs), W.β, W.h⟩ _ rfl (.new hq) (ok.new hq) ⟨q, vs, rfl, .inl ⟨.of upd_same, fun z => ok.notM hq z⟩, RTs.ext (.new hq) _ _ r⟩
  | true => exact False.elim p
theorem mk_dct0 {m : Bool} {Q : VK} {E : XK} (ok : W.Ok G) (p : PostE G W (mk m (.dct [] []) W.h) Q E) : ∀ q, W.H q = none → Q (.ref q) (upd W.H q (.dK [])) := fun q hq => by
  cases m with
  | false =>
    have p : PostE G W (.ok (.dct [] []) W.h) Q E := p
    exact p ⟨upd W.H q (.dK []), W.β, W.h⟩ _ rfl (.new hq) (ok.new hq) ⟨q, _, [], rfl, upd_same, fun z => ok.notM hq z, .inl ⟨[], rfl, rfl, rfl⟩, rfl⟩
  | true =>
    have p : PostE G W (.ok (.ref W.h.length) (W.h ++ [some (.dct [] [])])) Q E := p
    have ex : Ext W ⟨upd W.H q (.dK []), W.β ++ [q], W.h ++ [some (.dct [] [])]⟩ := Ext.newM ok hq
    exact p ⟨upd W.H q (.dK []), W.β ++ [q], W.h ++ [some (.dct [] [])]⟩ _ rfl ex (ok.newM (mo := .dct [] []) hq ⟨_, [], upd_same, .inl ⟨[], rfl, rfl, rfl⟩, rfl⟩) ⟨q, by show (W.β ++ [q])[W.h.length]? = _; rw [← ok.len]; simp, rfl⟩
theorem mk_tup' {m : Bool} {l : List T} {Q : VK} {E : XK} {a : Addr} {vs : List V} (ok : W.Ok G) (p : PostE G W (mk m (.tup l) W.h) Q E) (f : FzT G.K W a vs) (r : RTs G W l vs) : Q (.ref a) W.H := by
  cases m with
  | false => exact Post.here ok (show PostE G W (.ok (.tup l) W.h) Q E from p) ⟨a, vs, rfl, f, r⟩
  | true => exact False.elim p
/-- an atom, made or not -/
theorem mk_at {m : Bool} {t : T} {v : V} {Q : VK} {E : XK} (ok : W.Ok G) (p : PostE G W (mk m t W.h) Q E) (r : RT G W t v) (hl : ∀ l, t ≠ .lst l) (hd : ∀ ks vs, t ≠ .dct ks vs) : Q v W.H := by
  cases m with
  | false => exact Post.here ok (show PostE G W (.ok t W.h) Q E from p) r
  | true => cases t <;> first | exact False.elim p | exact absurd rfl (hl _) | exact absurd rfl (hd _ _)

/-! ### data, for == and in -/
mutual
def toD : T → PyData
  | .non => .none
  | .bl b => .bool b
  | .int i => .int i
  | .str s => .str (tx s)
  | .tup l => .tuple (toDs l)
  | .lst l => .list (toDs l)
  | .dct _ _ => .none
  | .ins _ _ _ => .none
  | .ref _ => .none
def toDs : List T → List PyData
  | [] => []
  | t :: ts => toD t :: toDs ts
end
mutual
theorem plain_toD : ∀ (n : Nat) (t : T), T.pl n t = true → (toD t).plain = true
  | _, .non, _ => rfl
  | _, .bl _, _ => rfl
  | _, .int _, _ => rfl
  | _, .str _, _ => rfl
  | 0, .tup _, h => by simp [T.pl] at h
  | 0, .lst _, h => by simp [T.pl] at h
  | n + 1, .tup l, h => plains_toD n l (by simpa [T.pl] using h)
  | n + 1, .lst l, h => plains_toD n l (by simpa [T.pl] using h)
  | n, .dct _ _, h => by cases n <;> simp [T.pl] at h
  | n, .ins _ _ _, h => by cases n <;> simp [T.pl] at h
  | n, .ref _, h => by cases n <;> simp [T.pl] at h
theorem plains_toD : ∀ (n : Nat) (ts : List T), T.pls n ts = true → PyData.plainAll (toDs ts) = true
  | _, [], _ => rfl
  | n, t :: ts, h => by
    simp only [T.pls, Bool.and_eq_true] at h
    simp only [toDs, PyData.plainAll, plain_toD n t h.1, plains_toD n ts h.2, Bool.and_self]
end
mutual
theorem depth_toD : ∀ (n : Nat) (t : T), T.pl n t = true → (toD t).depth ≤ n
  | _, .non, _ => Nat.zero_le _
  | _, .bl _, _ => Nat.zero_le _
  | _, .int _, _ => Nat.zero_le _
  | _, .str _, _ => Nat.zero_le _
  | 0, .tup _, h => by simp [T.pl] at h
  | 0, .lst _, h => by simp [T.pl] at h
  | n + 1, .tup l, h => by simp only [toD, PyData.depth]; exact Nat.succ_le_succ (depths_toD n l (by simpa [T.pl] using h))
  | n + 1, .lst l, h => by simp only [toD, PyData.depth]; exact Nat.succ_le_succ (depths_toD n l (by simpa [T.pl] using h))
  | n, .dct _ _, h => by cases n <;> simp [T.pl] at h
  | n, .ins _ _ _, h => by cases n <;> simp [T.pl] at h
  | n, .ref _, h => by cases n <;> simp [T.pl] at h
theorem depths_toD : ∀ (n : Nat) (ts : List T), T.pls n ts = true → PyData.depthAll (toDs ts) ≤ n
  | _, [], _ => Nat.zero_le _
  | n, t :: ts, h => by
    simp only [T.pls, Bool.and_eq_true] at h
    simp only [toDs, PyData.depthAll]
    exact Nat.max_le.mpr ⟨depth_toD n t h.1, depths_toD n ts h.2⟩
end
theorem tx_beq (a b : List Nat) : (tx a == tx b) = (a == b) := by
  rw [Bool.eq_iff_iff, beq_iff_eq, beq_iff_eq]
  exact ⟨fun e => by simpa [tx] using e, fun e => by rw [e]⟩
mutual
theorem eqv_toD : ∀ (n m : Nat) (a b : T), T.pl n a = true → T.pl m b = true → PyData.eqv (toD a) (toD b) = T.eqv a b
  | n, m, .non, b, _, h => by cases b <;> first | (cases m <;> simp [T.pl] at h; done) | simp [toD, PyData.eqv, T.eqv]
  | n, m, .bl x, b, _, h => by cases b <;> first | (cases m <;> simp [T.pl] at h; done) | simp [toD, PyData.eqv, T.eqv]
  | n, m, .int x, b, _, h => by cases b <;> first | (cases m <;> simp [T.pl] at h; done) | simp [toD, PyData.eqv, T.eqv]
  | n, m, .str x, b, _, h => by cases b <;> first | (cases m <;> simp [T.pl] at h; done) | simp only [toD, PyData.eqv, T.eqv, tx_beq]
  | 0, _, .tup _, _, h, _ => by simp [T.pl] at h
  | 0, _, .lst _, _, h, _ => by simp [T.pl] at h
  | n + 1, m, .tup x, b, g, h => by
    cases b <;> first
      | (cases m <;> simp [T.pl] at h; done)
      | (simp [toD, PyData.eqv, T.eqv]; done)
      | (cases m with
        | zero => simp [T.pl] at h
        | succ m => simp only [toD, PyData.eqv, T.eqv]; exact eqvs_toD n m _ _ (by simpa [T.pl] using g) (by simpa [T.pl] using h))
  | n + 1, m, .lst x, b, g, h => by
    cases b <;> first
      | (cases m <;> simp [T.pl] at h; done)
      | (simp [toD, PyData.eqv, T.eqv]; done)
      | (cases m with
        | zero => simp [T.pl] at h
        | succ m => simp only [toD, PyData.eqv, T.eqv]; exact eqvs_toD n m _ _ (by simpa [T.pl] using g) (by simpa [T.pl] using h))
  | n, _, .dct _ _, _, h, _ => by cases n <;> simp [T.pl] at h
  | n, _, .ins _ _ _, _, h, _ => by cases n <;> simp [T.pl] at h
  | n, _, .ref _, _, h, _ => by cases n <;> simp [T.pl] at h
theorem eqvs_toD : ∀ (n m : Nat) (a b : List T), T.pls n a = true → T.pls m b = true → PyData.eqvAll (toDs a) (toDs b) = T.eqvs a b
  | _, _, [], b, _, _ => by cases b <;> simp [toDs, PyData.eqvAll, T.eqvs]
  | n, m, x :: xs, b, g, h => by
    cases b with
    | nil => simp [toDs, PyData.eqvAll, T.eqvs]
    | cons y ys =>
      simp only [T.pls, Bool.and_eq_true] at g h
      simp only [toDs, PyData.eqvAll, T.eqvs]
      rw [eqv_toD n m x y g.1 h.1, eqvs_toD n m xs ys g.2 h.2]
end
mutual
theorem dp_of : ∀ (n : Nat) (t : T) (v : V), T.pl n t = true → RT G W t v → Dp G.K W.H v (toD t)
  | _, .non, v, _, h => by cases h; exact .non
  | _, .bl _, v, _, h => by cases h; exact .bl _
  | _, .int _, v, _, h => by cases h; exact .int _
  | _, .str _, v, _, h => by obtain ⟨rfl, _⟩ := h; exact .str _
  | 0, .tup _, _, h, _ => by simp [T.pl] at h
  | 0, .lst _, _, h, _ => by simp [T.pl] at h
  | n + 1, .tup l, v, h, r => by
    obtain ⟨a, vs, rfl, f, r⟩ := r
    exact .tup f.sq (dps_of n l vs (by simpa [T.pl] using h) r)
  | n + 1, .lst l, v, h, r => by
    obtain ⟨a, vs, rfl, f, r⟩ := r
    exact .lst f.sq (dps_of n l vs (by simpa [T.pl] using h) r)
  | n, .dct _ _, _, h, _ => by cases n <;> simp [T.pl] at h
  | n, .ins _ _ _, _, h, _ => by cases n <;> simp [T.pl] at h
  | n, .ref _, _, h, _ => by cases n <;> simp [T.pl] at h
theorem dps_of : ∀ (n : Nat) (ts : List T) (vs : List V), T.pls n ts = true → RTs G W ts vs → DpAll G.K W.H vs (toDs ts)
  | _, [], _, _, h => by cases h; exact .nil
  | n, t :: ts, vs, g, h => by
    obtain ⟨v, r, rfl, a, b⟩ := h
    simp only [T.pls, Bool.and_eq_true] at g
    exact .cons (dp_of n t v g.1 a) (dps_of n ts r g.2 b)
end
theorem dp_look {n : Nat} {t : T} {v : V} (h : T.pl n t = true) (r : LT G W t v) : Dp G.K W.H v (toD t) := by
  cases t with
  | tup l =>
    cases n with
    | zero => simp [T.pl] at h
    | succ n =>
      obtain ⟨a, vs, rfl, f, r⟩ := r
      exact .tup f.sq (dps_of n l vs (by simpa [T.pl] using h) r)
  | lst l =>
    cases n with
    | zero => simp [T.pl] at h
    | succ n =>
      obtain ⟨a, vs, rfl, f, r⟩ := r
      exact .lst f (dps_of n l vs (by simpa [T.pl] using h) r)
  | non => cases r; exact .non
  | bl _ => cases r; exact .bl _
  | int _ => cases r; exact .int _
  | str _ => obtain ⟨rfl, _⟩ := r; exact .str _
  | dct _ _ => cases n <;> simp [T.pl] at h
  | ins _ _ _ => cases n <;> simp [T.pl] at h
  | ref _ => cases n <;> simp [T.pl] at h
theorem any_toD {n m : Nat} {x : T} (hx : T.pl m x = true) : ∀ l : List T, T.pls n l = true → (toDs l).any (fun y => PyData.eqv y (toD x)) = l.any fun y => T.eqv y x
  | [], _ => rfl
  | y :: ys, h => by
    simp only [T.pls, Bool.and_eq_true] at h
    simp only [toDs, List.any_cons, eqv_toD n m y x h.1 hx, any_toD hx ys h.2]
end
end Tw
end
/-! part Tw2c -/
section
set_option Elab.async false
set_option linter.all false
set_option maxRecDepth 100000
/-! Tw2c: the operators by values. -/
namespace Tw
open PySem PySem.Spec PyProof.Rows L2
def opS : Op → Operator
  | .add => .Add | .sub => .Sub | .mul => .Mult | .mod => .Mod | .fdiv => .FloorDiv | .pow => .Pow
def cmS : Cm → CmpOp
  | .eq => .Eq | .ne => .NotEq | .lt => .Lt | .le => .LtE | .gt => .Gt | .ge => .GtE | .is_ => .Is | .isnt => .IsNot | .in_ => .In | .nin => .NotIn
theorem lim_line {n : Nat} (h : n ≤ lim) : n ≤ sizeLine := Nat.le_trans h (by decide)
theorem lim_line' {n : Nat} (h : n < lim) : n < sizeLine := Nat.lt_of_lt_of_le h (by decide)
section
variable {G : Gx} {X : Cx} {E : XK} {pins : List (Addr × Obj)} {σ : L2.St} {H : Hp} {s : Shared}
theorem tx_len (a : List Nat) : (tx a).length = a.length := by simp [tx, PySem.Str.length]
theorem tx_app (a b : List Nat) : tx a ++ tx b = tx (a ++ b) := by
  show PySem.Str.append _ _ = _
  simp [PySem.Str.append, tx]
theorem Inv_lst {a : Addr} {xs : List V} (I : L2.Inv X pins σ H s) (h : SqL X.K H a xs) :
    xs.length ≤ sizeLine ∧ ∃ (its : List Value) (n : Nat) (sl : Array (Option Value)), Vals xs its ∧ xs.length = its.length ∧ s.heap.get? a = some { cls := .type "list", dict := none, data := .seq its.toArray n, slots := sl } := by
  obtain ⟨its, r, ⟨⟨c, d, dt, sl⟩, n, e, hc, hd, hs⟩, z⟩ := I.list h
  simp only at hc hd hs
  subst hc hd hs
  exact ⟨z, its, n, sl, r, r.length, e⟩

/-! ### list + list, list * int, tuples, texts -/
theorem op_catL : OpR X (binaryOp .Add) (fun x y H Q => ∃ l b xs zs, x = .ref l ∧ y = .ref b ∧ SqL X.K H l xs ∧ SqL X.K H b zs ∧ xs.length + zs.length ≤ sizeLine ∧ ∀ p, H p = none → Q (.ref p) (upd H p (.lst (xs ++ zs)))) := by
  intro pins s σ H x y v u Q I rx ry h
  obtain ⟨l, b, xs, zs, rfl, rfl, hH, hB, hz, q⟩ := h
  cases rx
  cases ry
  obtain ⟨z, its, n, sl, r, hl, e⟩ := Inv_lst I hH
  obtain ⟨z2, its2, n2, sl2, r2, hl2, e2⟩ := Inv_lst I hB
  refine concat_meets ⟨_, e, rfl⟩ ⟨_, e2, rfl⟩ noFill_list_add seq_list_add F.slot_list_add F.entry_list_add (F.args_list_add_2 _ _) (list_addW l b its.toArray its2.toArray n n2 none none sl sl2 (by simp only [List.size_toArray]; omega)) ⟨e, e2, ?_⟩
  rw [show its.toArray ++ its2.toArray = (its ++ its2).toArray from by simp]
  exact ⟨.ref _, _, I.lnew (t' := s.toks) (r.append r2) (by rw [List.length_append]; omega), rfl, q _ I.fresh⟩
theorem rep_fold (its : List Value) (m : Nat) : (List.replicate m its.toArray).foldl (fun a b => a ++ b) #[] = (List.replicate m its).flatten.toArray := by
  have := foldl_rep its m []
  rwa [List.nil_append] at this
theorem op_repL : OpR X (binaryOp .Mult) (fun x y H Q => ∃ l k xs, x = .ref l ∧ y = .int k ∧ SqL X.K H l xs ∧ -(2 ^ 63) ≤ k ∧ k < 2 ^ 63 ∧ xs.length * k.toNat ≤ sizeLine ∧ ∀ p, H p = none → Q (.ref p) (upd H p (.lst (List.replicate k.toNat xs).flatten))) := by
  intro pins s σ H x y v u Q I rx ry h
  obtain ⟨l, k, xs, rfl, rfl, hH, h1, h2, hz, q⟩ := h
  cases rx
  obtain ⟨t, rfl⟩ := ry
  obtain ⟨z, its, n, sl, r, hl, e⟩ := Inv_lst I hH
  have hlen : its.toArray.size * k.toNat ≤ sizeLine := by simp only [List.size_toArray]; rw [← hl]; exact hz
  have hfit : ¬ (!Builtin.List.listFitsIndex k) = true := by rw [fitsIndex_both h1 h2]; exact Bool.false_ne_true
  have hcap : ¬ its.toArray.size * k.toNat > (2 ^ 63 - 1) / 8 := by
    have : (sizeLine : Nat) ≤ (2 ^ 63 - 1) / 8 := by decide
    omega
  have hlong : ¬ Builtin.List.listTooLong (its.toArray.size * k.toNat) = true := by rw [notLongL hlen]; exact Bool.false_ne_true
  refine wpAny_binaryOp_repeat_ref (T := "list") (U := "int") (by decide) ⟨_, e, rfl⟩ (fun s' => typeIs_int s' k t) noFill_list_mul F.fills_int_mul F.slot_int_rmul repeat_list F.slot_int_index.lookup
    (call_meets F.slot_int_rmul (typeIs_int s k t) F.entry_int_rmul (F.args_int_rmul_2 _ _) (lm_int_rmul_list_any k t l its.toArray n none sl)
      ⟨e, rfl, ⟨_, e, rfl⟩, call_meets F.slot_list_mul ⟨_, e, rfl⟩ F.entry_list_mul (F.args_list_mul_2 _ _) (lm_list_mul_any l its.toArray n none sl k t hfit hcap hlong) ⟨e, ?_⟩⟩)
  rw [show List.foldl (fun x1 x2 => x1 ++ x2) #[] (List.replicate (if its.toArray.isEmpty = true then 0 else k.toNat) its.toArray) = (List.replicate k.toNat its).flatten.toArray from by
    rw [rep_fold]
    cases its with
    | nil => simp
    | cons a r' => rw [if_neg (by simp)]]
  exact ⟨.ref _, _, I.lnew (t' := s.toks) (r.rep k.toNat) (by rw [PyProof.Rows.lm_len_rep_flat, Nat.mul_comm]; exact hz), rfl, q _ I.fresh⟩
theorem fold_cps (x : Array Nat) : ∀ m : Nat, (List.replicate m x).foldl (fun a b => a ++ b) #[] = (List.replicate m x.toList).flatten.toArray := fun m => by
  have go : ∀ (m : Nat) (acc : Array Nat), (List.replicate m x).foldl (fun a b => a ++ b) acc = acc ++ (List.replicate m x.toList).flatten.toArray := by
    intro m
    induction m with
    | zero => intro acc; simp
    | succ m ih =>
      intro acc
      rw [List.replicate_succ, List.foldl_cons, ih, List.replicate_succ, List.flatten_cons]
      rw [← Array.toList_inj]
      simp
  rw [go]
  simp
theorem op_repS : OpR X (binaryOp .Mult) (fun x y H Q => ∃ (a : List Nat) (k : Int), x = .str (tx a) ∧ y = .int k ∧ -(2 ^ 63) ≤ k ∧ k ≤ 1000000 ∧ a.length * k.toNat ≤ sizeLine ∧ Q (.str (tx (rep a k))) H) := by
  intro pins s σ H x y v u Q I rx ry h
  obtain ⟨a, k, rfl, rfl, h1, h2, hz, q⟩ := h
  obtain ⟨t, rfl⟩ := rx
  obtain ⟨t', rfl⟩ := ry
  have hl : (tx a).length = a.length := tx_len a
  have sl := sizeLine_eq
  refine PySem.P.mul_str (by rw [decide_eq_false (by omega), decide_eq_false (by omega)]; rfl) (fun hk _ => ?_) (fun hk _ => ?_) ?_
  · rw [hl]
    have : (a.length : Int) * k ≤ sizeLine := by
      have e : ((a.length * k.toNat : Nat) : Int) = (a.length : Int) * k := by rw [Int.natCast_mul, Int.toNat_of_nonneg (by omega)]
      omega
    intro hgt
    have h3 : (2 ^ 63 - 1) / k < (a.length : Int) := hgt
    have h4 : (2 ^ 63 - 1 : Int) < (a.length : Int) * k := Int.lt_mul_of_ediv_lt (by omega) h3
    omega
  · rw [hl]
    unfold Builtin.Str.tooLong
    simp only [decide_eq_false_iff_not]
    first | omega | (rw [sizeLine_eq] at hz ⊢; omega)
  · by_cases hk : k < 1
    · rw [if_pos hk]
      have e0 : rep a k = [] := by unfold rep; rw [show k.toNat = 0 by omega]; rfl
      rw [e0] at q
      exact ⟨by decide, .str _, H, I.tok _, ⟨_, rfl⟩, q⟩
    · rw [if_neg hk]
      by_cases h3 : (k == 1 || (tx a).length == 0) = true
      · rw [if_pos h3]
        have e0 : rep a k = a := by
          unfold rep
          rw [Bool.or_eq_true, beq_iff_eq, beq_iff_eq] at h3
          rcases h3 with h3 | h3
          · subst h3; simp
          · rw [hl] at h3
            have : a = [] := List.eq_nil_of_length_eq_zero h3
            subst this
            simp
        rw [e0] at q
        exact ⟨.str (tx a), H, I, ⟨t, rfl⟩, q⟩
      · rw [if_neg h3]
        have e0 : (⟨(List.replicate k.toNat (tx a).cps).foldl (fun a b => a ++ b) #[]⟩ : PySem.Str) = tx (rep a k) := by
          rw [fold_cps]
          simp [tx, rep]
        have e1 : (tx (rep a k)).length ≤ sizeLine := by
          rw [tx_len]
          unfold rep
          rw [PyProof.Rows.lm_len_rep_flat, Nat.mul_comm]
          exact hz
        refine show Made.post (Made.str ⟨(List.replicate k.toNat (tx a).cps).foldl (fun a b => a ++ b) #[]⟩) (EP X pins σ Q) s from ?_
        rw [e0]
        exact ⟨e1, .str _, H, I.tok _, ⟨_, rfl⟩, q⟩
theorem op_mulIB : OpR X (binaryOp .Mult) (fun x y H Q => ∃ (i : Int) (b : Bool), x = .int i ∧ y = .bl b ∧ Q (.int (if b then i else 0)) H) := by
  intro pins s σ H x y v u Q I rx ry h
  obtain ⟨i, b, rfl, rfl, q⟩ := h
  obtain ⟨t, rfl⟩ := rx
  cases (show u = Value.bool b from ry)
  refine PySem.IntBool.mul_int_bool ⟨.int _, H, I.tok _, ⟨_, rfl⟩, ?_⟩
  have e : (i * if b = true then (1 : Int) else 0) = if b = true then i else 0 := by cases b <;> simp
  rw [e]
  exact q
theorem op_powG : OpR X (binaryOp .Pow) (fun x y H Q => ∃ i j : Int, x = .int i ∧ y = .int j ∧ powOk i j = true ∧ Q (.int (i ^ j.toNat)) H) := by
  intro pins s σ H x y v u Q I rx ry h
  obtain ⟨i, j, rfl, rfl, hc, q⟩ := h
  obtain ⟨t, rfl⟩ := rx
  obtain ⟨t', rfl⟩ := ry
  simp only [powOk, Bool.and_eq_true, decide_eq_true_eq] at hc
  obtain ⟨⟨h0, h1⟩, h2⟩ := hc
  have hb := PyProof.Rows.intBits_le (a := i) (k := 200) h2
  refine PyProof.Rows.pow_int h0 ?_ ⟨.int _, H, I.tok _, ⟨_, rfl⟩, q⟩
  have : (Builtin.Int.intBits i : Int) * j ≤ 200 * j := Int.mul_le_mul_of_nonneg_right (by omega) h0
  omega

/-! ### a binary operator on trees -/
/-- what an operator asks: two related trees, and what follows from the evaluator's answer -/
def rBin (G : Gx) (m : Bool) (op : Op) (E : XK) : R2 := fun x y H Q => ∃ W t u, W.H = H ∧ W.Ok G ∧ RT G W t x ∧ RT G W u y ∧ PostE G W ((ofO (opO op (look W.h t) (look W.h u)) W.h).bind fun r h => mk m r h) Q E
theorem binR (hK : X.K = G.K) (m : Bool) (op : Op) : OpR X (binaryOp (opS op)) (rBin G m op E) := by
  intro pins s σ H x y v u Q I rx ry h
  obtain ⟨W, t, t', rfl, ok, r1, r2, p⟩ := h
  obtain ⟨r, e, p⟩ := p.of_bindO
  have l1 := look_LT ok r1
  have l2 := look_LT ok r2
  generalize look W.h t = a at e l1
  generalize look W.h t' = b at e l2
  have noI : ∀ {i : Int}, PostE G W (mk m (.int i) W.h) Q E → Q (.int i) W.H := fun {i} p => mk_at (G := G) (W := W) (m := m) (t := .int i) ok p rfl (fun _ z => nomatch z) (fun _ _ z => nomatch z)
  have noS : ∀ {z : List Nat}, z.length ≤ sizeLine → PostE G W (mk m (.str z) W.h) Q E → Q (.str (tx z)) W.H := fun {z} hz p => mk_at (G := G) (W := W) (m := m) (t := .str z) ok p ⟨rfl, hz⟩ (fun _ z => nomatch z) (fun _ _ z => nomatch z)
  cases op with
  | add =>
    unfold opO at e
    split at e <;> try contradiction
    · cases e; cases l1; cases l2
      exact op_add pins s σ W.H _ _ v u Q I rx ry ⟨_, _, rfl, rfl, noI p⟩
    · split at e <;> try contradiction
      rename_i hz
      cases e
      obtain ⟨rfl, _⟩ := l1
      obtain ⟨rfl, _⟩ := l2
      exact op_add_str pins s σ W.H _ _ v u Q I rx ry ⟨_, _, rfl, rfl, by rw [tx_len, tx_len]; exact lim_line hz, by rw [tx_app]; exact noS (by rw [List.length_append]; exact lim_line hz) p⟩
    · split at e <;> try contradiction
      rename_i hz
      cases e
      obtain ⟨a1, vs, rfl, f1, q1⟩ := l1
      obtain ⟨a2, ws, rfl, f2, q2⟩ := l2
      exact op_catL pins s σ W.H _ _ v u Q I rx ry ⟨a1, a2, vs, ws, rfl, rfl, hK ▸ f1, hK ▸ f2, by rw [← q1.length, ← q2.length]; exact lim_line hz, mk_lst ok p (RTs.append q1 q2)⟩
    · split at e <;> try contradiction
      rename_i hz
      cases e
      obtain ⟨a1, vs, rfl, f1, q1⟩ := l1
      obtain ⟨a2, ws, rfl, f2, q2⟩ := l2
      refine op_catA pins s σ W.H _ _ v u Q I rx ry ⟨a1, a2, vs, ws, rfl, rfl, hK ▸ f1.sq, hK ▸ f2.sq, by rw [← q1.length, ← q2.length]; exact lim_line hz, fun z => ?_, fun _ z => ?_, fun _ _ => mk_tup ok p (RTs.append q1 q2)⟩
      · have z' := (RTs.nil_iff q1).mpr z
        subst z'
        exact mk_tup' ok p f2 q2
      · have z' := (RTs.nil_iff q2).mpr z
        subst z'
        rw [List.append_nil] at p
        exact mk_tup' ok p f1 q1
  | sub =>
    unfold opO at e
    split at e <;> try contradiction
    cases e; cases l1; cases l2
    exact op_sub pins s σ W.H _ _ v u Q I rx ry ⟨_, _, rfl, rfl, noI p⟩
  | mul =>
    unfold opO at e
    split at e <;> try contradiction
    · split at e <;> try contradiction
      rename_i hz
      cases e; cases l1; cases l2
      refine op_mul pins s σ W.H _ _ v u Q I rx ry ⟨_, _, rfl, rfl, ?_, noI p⟩
      simpa [mulOk, CMul] using hz
    · split at e <;> try contradiction
      rename_i hz
      cases e; cases l2
      obtain ⟨rfl, _⟩ := l1
      exact op_repS pins s σ W.H _ _ v u Q I rx ry ⟨_, _, rfl, rfl, by omega, hz.2.1, lim_line hz.1, noS (by unfold rep; rw [PyProof.Rows.lm_len_rep_flat, Nat.mul_comm]; exact lim_line hz.1) p⟩
    · split at e <;> try contradiction
      rename_i hz
      cases e; cases l2
      obtain ⟨a1, vs, rfl, f1, q1⟩ := l1
      exact op_repL pins s σ W.H _ _ v u Q I rx ry ⟨a1, _, vs, rfl, rfl, hK ▸ f1, by omega, by omega, by rw [← q1.length]; exact lim_line hz.1, mk_lst ok p (RTs.rep q1 _)⟩
    · split at e <;> try contradiction
      rename_i hz
      cases e; cases l2
      obtain ⟨a1, vs, rfl, f1, q1⟩ := l1
      refine op_repT pins s σ W.H _ _ v u Q I rx ry ⟨a1, _, vs, rfl, rfl, hK ▸ f1.sq, fun z => ?_, hz.2.1, hz.2.2.1, by rw [← q1.length]; exact hz.2.2.2, mk_tup ok p (RTs.rep q1 _)⟩
      have z' := (RTs.nil_iff q1).mpr z
      rw [z'] at hz
      exact Bool.noConfusion hz.1
    · cases e; cases l1; cases l2
      exact op_mulIB pins s σ W.H _ _ v u Q I rx ry ⟨_, _, rfl, rfl, noI p⟩
  | mod =>
    unfold opO at e
    split at e <;> try contradiction
    split at e <;> try contradiction
    rename_i hz
    cases e; cases l1; cases l2
    exact op_mod pins s σ W.H _ _ v u Q I rx ry ⟨_, _, rfl, rfl, hz, noI p⟩
  | fdiv =>
    unfold opO at e
    split at e <;> try contradiction
    split at e <;> try contradiction
    rename_i hz
    cases e; cases l1; cases l2
    exact op_fdiv pins s σ W.H _ _ v u Q I rx ry ⟨_, _, rfl, rfl, hz, noI p⟩
  | pow =>
    unfold opO at e
    split at e <;> try contradiction
    split at e <;> try contradiction
    rename_i hz
    cases e; cases l1; cases l2
    exact op_powG pins s σ W.H _ _ v u Q I rx ry ⟨_, _, rfl, rfl, hz, noI p⟩
/-! ### comparisons -/
def isNon : T → Bool
  | .non => true
  | _ => false
theorem nonV {W : Wd} {a : T} {x : V} (h : LT G W a x) : decide (x = .non) = isNon a := by
  cases a with
  | non => cases h; rfl
  | bl _ => cases h; rfl
  | int _ => cases h; rfl
  | str _ => obtain ⟨rfl, _⟩ := h; rfl
  | tup _ => obtain ⟨_, _, rfl, _⟩ := h; rfl
  | lst _ => obtain ⟨_, _, rfl, _⟩ := h; rfl
  | dct _ _ => obtain ⟨_, _, _, rfl, _⟩ := h; rfl
  | ins _ _ _ => obtain ⟨_, _, rfl, _⟩ := h; rfl
  | ref _ => obtain ⟨_, _, rfl⟩ := h; rfl
def rCmp (G : Gx) (op : Cm) : R2 := fun x y H Q => ∃ W t u b, W.H = H ∧ W.Ok G ∧ RT G W t x ∧ RT G W u y ∧ cmO op (look W.h t) (look W.h u) = some b ∧ Q (.bl b) H
theorem cmpR (hK : X.K = G.K) (hu : X.A.units + 64 < cLine) (op : Cm) : OpR X (compareOp (cmS op)) (rCmp G op) := by
  intro pins s σ H x y v u Q I rx ry h
  obtain ⟨W, t, t', k, rfl, ok, r1, r2, e, q⟩ := h
  have l1 := look_LT ok r1
  have l2 := look_LT ok r2
  have fin : ∀ {k' : Bool}, k = k' → EP X pins σ Q (.bool k') s := fun {k'} z => by subst z; exact ⟨.bl k, W.H, I, rfl, q⟩
  generalize look W.h t = a at e l1
  generalize look W.h t' = b at e l2
  have data : ∀ {m : Nat} {c : T} {z : V} {zv : Value}, T.pl m c = true → LT G W c z → RelV z zv → ∃ as, Reads s.heap zv (toD c) as := fun {m c z zv} hp hl hr => Dp.reads I _ z zv (by rw [hK]; exact dp_look hp hl) hr
  have eqs : ∀ {k0 : Bool}, eqO a b = some k0 → ∃ as bs, Reads s.heap v (toD a) as ∧ Reads s.heap u (toD b) bs ∧ (toD a).plain = true ∧ (toD b).plain = true ∧ X.A.units + min (toD a).depth (toD b).depth < cLine ∧ k0 = PyData.eqv (toD a) (toD b) := fun {k0} h => by
    unfold eqO at h
    split at h <;> try contradiction
    rename_i hp
    cases h
    rw [Bool.and_eq_true] at hp
    obtain ⟨as, ra⟩ := data hp.1 l1 rx
    obtain ⟨bs, rb⟩ := data hp.2 l2 ry
    refine ⟨as, bs, ra, rb, plain_toD _ _ hp.1, plain_toD _ _ hp.2, ?_, (eqv_toD _ _ _ _ hp.1 hp.2).symm⟩
    have := depth_toD _ _ hp.1
    have : deepest = 60 := rfl
    omega
  have ins : ∀ {k0 : Bool}, inO a b = some k0 → (∃ c z, a = .str [c] ∧ b = .str z ∧ k0 = z.contains c) ∨ (∃ l, b = .tup l ∧ T.pl deepest a = true ∧ T.pls deepest l = true ∧ k0 = l.any fun y => T.eqv y a) ∨ (∃ l, b = .lst l ∧ T.pl deepest a = true ∧ T.pls deepest l = true ∧ k0 = l.any fun y => T.eqv y a) := fun {k0} h => by
    unfold inO at h
    split at h
    · split at h <;> try contradiction
      cases h
      exact .inl ⟨_, _, rfl, rfl, rfl⟩
    · split at h <;> try contradiction
      rename_i hp
      cases h
      rw [Bool.and_eq_true] at hp
      exact .inr (.inl ⟨_, rfl, hp.1, hp.2, rfl⟩)
    · split at h <;> try contradiction
      rename_i hp
      cases h
      rw [Bool.and_eq_true] at hp
      exact .inr (.inr ⟨_, rfl, hp.1, hp.2, rfl⟩)
    · cases h
  have iss : ∀ {k0 : Bool}, isO a b = some k0 → (b = .non ∧ k0 = isNon a) ∨ (∃ x y, a = .bl x ∧ b = .bl y ∧ k0 = (x == y)) := fun {k0} h => by
    unfold isO at h
    split at h
    · cases h; exact .inl ⟨rfl, rfl⟩
    · cases h; exact .inr ⟨_, _, rfl, rfl, rfl⟩
    · cases h
  have room : ∀ {l : List T}, T.pl deepest a = true → T.pls deepest l = true → X.A.units + 1 + min (PyData.depthAll (toDs l)) (toD a).depth < cLine := fun {l} h1 h2 => by
    have := depth_toD _ _ h1
    have : deepest = 60 := rfl
    omega
  cases op with
  | eq =>
    obtain ⟨as, bs, ra, rb, p1, p2, hd, rfl⟩ := eqs e
    exact SeqAt.eq_plain ra rb p1 p2 hd (fin rfl)
  | ne =>
    obtain ⟨k0, e0, e1⟩ := Option.map_eq_some_iff.mp (show (eqO a b).map not = some k from e)
    obtain ⟨as, bs, ra, rb, p1, p2, hd, rfl⟩ := eqs e0
    exact SeqAt.ne_plain ra rb p1 p2 hd (fin e1.symm)
  | lt =>
    unfold cmO at e
    split at e <;> try contradiction
    all_goals rename_i zz
    all_goals first | contradiction | skip
    · cases zz; cases e; cases l1; cases l2
      exact op_lt pins s σ W.H _ _ v u Q I rx ry ⟨_, _, rfl, rfl, q⟩
    · cases zz; cases e
      obtain ⟨rfl, _⟩ := l1
      obtain ⟨rfl, _⟩ := l2
      exact op_lt_str pins s σ W.H _ _ v u Q I rx ry ⟨_, _, rfl, rfl, q⟩
  | le =>
    unfold cmO at e
    split at e <;> try contradiction
    all_goals rename_i zz
    all_goals first | contradiction | skip
    cases zz; cases e; cases l1; cases l2
    exact op_le pins s σ W.H _ _ v u Q I rx ry ⟨_, _, rfl, rfl, q⟩
  | gt =>
    unfold cmO at e
    split at e <;> try contradiction
    all_goals rename_i zz
    all_goals first | contradiction | skip
    cases zz; cases e; cases l1; cases l2
    exact op_gt pins s σ W.H _ _ v u Q I rx ry ⟨_, _, rfl, rfl, q⟩
  | ge =>
    unfold cmO at e
    split at e <;> try contradiction
    all_goals rename_i zz
    all_goals first | contradiction | skip
    cases zz; cases e; cases l1; cases l2
    exact op_ge pins s σ W.H _ _ v u Q I rx ry ⟨_, _, rfl, rfl, q⟩
  | is_ =>
    rcases iss e with ⟨rfl, rfl⟩ | ⟨x1, x2, rfl, rfl, rfl⟩
    · cases l2
      refine op_isN pins s σ W.H _ _ v u Q I rx ry ⟨rfl, ?_⟩
      rw [nonV l1]
      exact q
    · cases l1; cases l2
      refine op_isBl pins s σ W.H _ _ v u Q I rx ry ⟨_, _, rfl, rfl, ?_⟩
      rw [← Bool.beq_eq_decide_eq]
      exact q
  | isnt =>
    obtain ⟨k0, e0, e1⟩ := Option.map_eq_some_iff.mp (show (isO a b).map not = some k from e)
    rcases iss e0 with ⟨rfl, rfl⟩ | ⟨x1, x2, rfl, rfl, rfl⟩
    · cases l2
      refine op_notN pins s σ W.H _ _ v u Q I rx ry ⟨rfl, ?_⟩
      rw [nonV l1, e1]
      exact q
    · cases l1; cases l2
      refine op_notBl pins s σ W.H _ _ v u Q I rx ry ⟨_, _, rfl, rfl, ?_⟩
      rw [← Bool.beq_eq_decide_eq, e1]
      exact q
  | in_ =>
    rcases ins e with ⟨c, z, rfl, rfl, rfl⟩ | ⟨l, rfl, h1, h2, rfl⟩ | ⟨l, rfl, h1, h2, rfl⟩
    · obtain ⟨rfl, _⟩ := l1
      obtain ⟨rfl, _⟩ := l2
      refine op_in_str pins s σ W.H _ _ v u Q I rx ry ⟨_, _, rfl, rfl, ?_⟩
      rw [StrLaws.found_one]
      have ec : decide (c ∈ (tx z).cps.toList) = z.contains c := by simp [tx]
      rw [ec]
      exact q
    · obtain ⟨a2, ws, rfl, f2, q2⟩ := l2
      obtain ⟨as, ra⟩ := data h1 l1 rx
      obtain ⟨bs, rb⟩ := Dp.reads I (.tuple (toDs l)) _ u (by rw [hK]; exact .tup f2.sq (dps_of _ _ _ h2 q2)) ry
      refine SeqAt.in_tuple_data rb ra (plains_toD _ _ h2) (plain_toD _ _ h1) (room h1 h2) (fin ?_)
      rw [any_toD h1 l h2]
    · obtain ⟨a2, ws, rfl, f2, q2⟩ := l2
      obtain ⟨as, ra⟩ := data h1 l1 rx
      obtain ⟨bs, rb⟩ := Dp.reads I (.list (toDs l)) _ u (by rw [hK]; exact .lst f2 (dps_of _ _ _ h2 q2)) ry
      refine SeqAt.in_list_data rb ra (plains_toD _ _ h2) (plain_toD _ _ h1) (room h1 h2) (fin ?_)
      rw [any_toD h1 l h2]
  | nin =>
    obtain ⟨k0, e0, e1⟩ := Option.map_eq_some_iff.mp (show (inO a b).map not = some k from e)
    rcases ins e0 with ⟨c, z, rfl, rfl, rfl⟩ | ⟨l, rfl, h1, h2, rfl⟩ | ⟨l, rfl, h1, h2, rfl⟩
    · obtain ⟨rfl, _⟩ := l1
      obtain ⟨rfl, _⟩ := l2
      refine op_notin_str pins s σ W.H _ _ v u Q I rx ry ⟨_, _, rfl, rfl, ?_⟩
      rw [StrLaws.found_one]
      have ec : decide (c ∈ (tx z).cps.toList) = z.contains c := by simp [tx]
      rw [ec, e1]
      exact q
    · obtain ⟨a2, ws, rfl, f2, q2⟩ := l2
      obtain ⟨as, ra⟩ := data h1 l1 rx
      obtain ⟨bs, rb⟩ := Dp.reads I (.tuple (toDs l)) _ u (by rw [hK]; exact .tup f2.sq (dps_of _ _ _ h2 q2)) ry
      refine SeqAt.notIn_tuple_data rb ra (plains_toD _ _ h2) (plain_toD _ _ h1) (room h1 h2) (fin ?_)
      rw [any_toD h1 l h2]
      exact e1.symm
    · obtain ⟨a2, ws, rfl, f2, q2⟩ := l2
      obtain ⟨as, ra⟩ := data h1 l1 rx
      obtain ⟨bs, rb⟩ := Dp.reads I (.list (toDs l)) _ u (by rw [hK]; exact .lst f2 (dps_of _ _ _ h2 q2)) ry
      refine SeqAt.notIn_list_data rb ra (plains_toD _ _ h2) (plain_toD _ _ h1) (room h1 h2) (fin ?_)
      rw [any_toD h1 l h2]
      exact e1.symm
end
end Tw
end
/-! part Tw2d -/
section
set_option Elab.async false
set_option linter.all false
set_option maxRecDepth 100000
/-! Tw2d: truth, places, slices, built-ins, methods on trees. -/
namespace Tw
open PySem PySem.Spec PyProof.Rows L2
section
variable {G : Gx} {X : Cx} {E : XK} {pins : List (Addr × Obj)} {σ : L2.St} {H : Hp} {s : Shared} {W : Wd}
theorem mk_int {m : Bool} {i : Int} {Q : VK} (ok : W.Ok G) (p : PostE G W (mk m (.int i) W.h) Q E) : Q (.int i) W.H :=
  mk_at (G := G) (W := W) (m := m) (t := .int i) ok p rfl (fun _ z => nomatch z) (fun _ _ z => nomatch z)
theorem mk_bl {m : Bool} {b : Bool} {Q : VK} (ok : W.Ok G) (p : PostE G W (mk m (.bl b) W.h) Q E) : Q (.bl b) W.H :=
  mk_at (G := G) (W := W) (m := m) (t := .bl b) ok p rfl (fun _ z => nomatch z) (fun _ _ z => nomatch z)
theorem mk_str {m : Bool} {z : List Nat} {Q : VK} (ok : W.Ok G) (hz : z.length ≤ sizeLine) (p : PostE G W (mk m (.str z) W.h) Q E) : Q (.str (tx z)) W.H :=
  mk_at (G := G) (W := W) (m := m) (t := .str z) ok p ⟨rfl, hz⟩ (fun _ z => nomatch z) (fun _ _ z => nomatch z)

/-! ### truth -/
theorem emp_iff {l : List T} {vs : List V} (r : RTs G W l vs) : l.isEmpty = vs.isEmpty := by
  cases l <;> first | (obtain ⟨_, _, rfl, _⟩ := r; rfl) | (cases r; rfl)
theorem truV {t : T} {x : V} {b : Bool} (h : LT G W t x) (e : truth t = some b) : TruV G.K x W.H b := by
  cases t with
  | non => cases h; cases e; rfl
  | bl _ => cases h; cases e; rfl
  | int _ => cases h; cases e; rfl
  | str z =>
    obtain ⟨rfl, hz⟩ := h
    cases e
    refine ⟨by rw [tx_len]; exact hz, ?_⟩
    rw [tx_len]
    cases z <;> simp <;> omega
  | tup l =>
    obtain ⟨a, vs, rfl, f, r⟩ := h
    cases e
    exact .inr (.inl ⟨vs, f.sq, by rw [emp_iff r]⟩)
  | lst l =>
    obtain ⟨a, vs, rfl, f, r⟩ := h
    cases e
    exact .inl ⟨vs, f, by rw [emp_iff r]⟩
  | dct ks vs => cases e
  | ins _ _ _ => cases e
  | ref _ => cases e

/-! ### a place -/
def rIxW (G : Gx) : R2 := fun x y H Q => ∃ W t u r, W.H = H ∧ W.Ok G ∧ RT G W t x ∧ RT G W u y ∧ ixO (look W.h t) u = some r ∧ ∀ v, RT G W r v → Q v H
theorem atI_rts {l : List T} {vs : List V} {i : Int} {t : T} (r : RTs G W l vs) (e : atI l i = some t) : ∃ v, L2.atI vs i = some v ∧ RT G W t v := by
  unfold atI at e
  obtain ⟨j, e1, e2⟩ := Option.bind_eq_some_iff.mp e
  obtain ⟨v, e3, q⟩ := r.get e2
  refine ⟨v, ?_, q⟩
  unfold L2.atI
  have e1' : L2.ixN vs.length i = some j := by rw [← r.length]; exact e1
  rw [e1']
  exact e3
theorem ixR (hK : X.K = G.K) : IxR X (rIxW G) := by
  intro value slice pins s σ H x y v u Q I rx ry h hs
  obtain ⟨W, t, t', r, rfl, ok, r1, r2, e, q⟩ := h
  have l1 := look_LT ok r1
  generalize look W.h t = a at e l1
  unfold ixO at e
  split at e <;> try contradiction
  · obtain ⟨c, e1, rfl⟩ := Option.map_eq_some_iff.mp e
    cases r2
    obtain ⟨rfl, hz⟩ := l1
    exact ix_str value slice pins s σ W.H _ _ v u Q I rx ry ⟨_, _, c, rfl, rfl, by rw [tx_len]; exact hz, e1, q _ ⟨rfl, by show 1 ≤ sizeLine; decide⟩⟩ hs
  · cases r2
    obtain ⟨p, vs, rfl, f, r⟩ := l1
    obtain ⟨w, e1, q1⟩ := atI_rts r e
    exact ix_tup value slice pins s σ W.H _ _ v u Q I rx ry ⟨p, vs, _, w, rfl, rfl, hK ▸ f.sq, e1, q w q1⟩ hs
  · cases r2
    obtain ⟨p, vs, rfl, f, r⟩ := l1
    obtain ⟨w, e1, q1⟩ := atI_rts r e
    exact ix_list value slice pins s σ W.H _ _ v u Q I rx ry ⟨p, vs, _, w, rfl, rfl, hK ▸ f, e1, q w q1⟩ hs

/-! ### slices -/
theorem sIx_cut (n d : Nat) (o : Option Int) : HT.sIx n d o = cutB n d o := by cases o <;> rfl
theorem cutV_rts {l : List T} {vs : List V} (r : RTs G W l vs) (lo hi : Option Int) : RTs G W (cutL l lo hi) (cutV vs lo hi) := by
  unfold cutL cutV
  rw [sIx_cut, sIx_cut, r.length]
  exact (r.drop _).take _
theorem cutS_tx (z : List Nat) (lo hi : Option Int) : cutS (tx z) lo hi = tx (cutL z lo hi) := by
  unfold cutS cutL
  rw [sIx_cut, sIx_cut, tx_len]
theorem cutL_len {α : Type} (l : List α) (lo hi : Option Int) : (cutL l lo hi).length ≤ l.length := by
  unfold cutL
  rw [List.length_take, List.length_drop]
  omega
def rSlW (G : Gx) (m : Bool) (E : XK) : V → Option Int → Option Int → Hp → VK → Prop := fun x lo hi H Q => ∃ W t, W.H = H ∧ W.Ok G ∧ RT G W t x ∧ PostE G W ((ofO (cutO lo hi (look W.h t)) W.h).bind fun r h => mk m r h) Q E
theorem slR (hK : X.K = G.K) (m : Bool) : SlR X (rSlW G m E) := by
  intro pins s σ H x v vl vu lo hi sl Q I rx hs pl pu h
  obtain ⟨W, t, rfl, ok, r1, p⟩ := h
  obtain ⟨r, e, p⟩ := p.of_bindO
  have l1 := look_LT ok r1
  generalize look W.h t = a at e l1
  unfold cutO at e
  split at e <;> try contradiction
  · cases e
    obtain ⟨rfl, hz⟩ := l1
    refine sl_str pins s σ W.H _ v vl vu lo hi sl Q I rx hs pl pu ⟨_, rfl, by rw [tx_len]; exact hz, ?_⟩
    rw [cutS_tx]
    exact mk_str ok (Nat.le_trans (cutL_len _ _ _) hz) p
  · cases e
    obtain ⟨q, vs, rfl, f, r⟩ := l1
    refine sl_tupA pins s σ W.H _ v vl vu lo hi sl Q I rx hs pl pu ⟨q, vs, rfl, hK ▸ f.sq, fun z => ?_, fun _ => mk_tup ok p (cutV_rts r lo hi)⟩
    rename_i l
    have e2 : cutL l lo hi = l := by
      unfold cutL
      rw [← sIx_cut, ← sIx_cut, r.length, z.1, z.2, List.drop_zero, Nat.sub_zero, ← r.length, List.take_length]
    rw [e2] at p
    exact mk_tup' ok p f r
  · cases e
    obtain ⟨q, vs, rfl, f, r⟩ := l1
    exact sl_list pins s σ W.H _ v vl vu lo hi sl Q I rx hs pl pu ⟨q, vs, rfl, hK ▸ f, mk_lst ok p (cutV_rts r lo hi)⟩

/-! ### from the end -/
theorem revStr (z : List Nat) : ((Builtin.Str.strSliceIndices none none (-1) (tx z).length).filterMap ((tx z).cps[·]?)) = z.reverse := by
  have e : Builtin.Str.strSliceIndices none none (-1) (tx z).length = (List.range z.length).map fun k => z.length - 1 - k := by
    rw [tx_len]
    exact PySem.W.krv_sliceRange z.length
  rw [e, PySem.W.krv_range]
  have a := PySem.W.krv_all z.toArray
  rw [List.size_toArray] at a
  rw [List.filterMap_reverse]
  exact congrArg List.reverse a
def rRevW (G : Gx) (m : Bool) (E : XK) : V → Hp → VK → Prop := fun x H Q => ∃ W t, W.H = H ∧ W.Ok G ∧ RT G W t x ∧ PostE G W ((ofO (revO (look W.h t)) W.h).bind fun r h => mk m r h) Q E
theorem pe_rev {m : Bool} {e : Expr} {te : TE} {k : Nat} {p1 p2 p3 pos : Pos} (hK : X.K = G.K) (he : PE X e te) : PE X (.Subscript e (.Slice none none (some (.UnaryOp .USub (.Constant (.int 1) k p1) p2)) p3) pos) (tUn (rRevW G m E) te) := by
  refine ⟨fun pins s σ H Q I h => ?_⟩
  refine Subscript_ (thn (he.run pins s σ H _ I h) fun v s1 ⟨x, H1, I1, r1, q1⟩ => ?_)
  have step : PO X (some (.UnaryOp .USub (.Constant (.int 1) k p1) p2)) (tPart (tUn (rU fun i => .int (-i)) (tC (.int 1)))) := po_some (pe_un un_neg pe_int)
  refine wpAny_Slice (thn (po_none.run pins s1 σ H1 (fun o Ha => o = none ∧ Ha = H1) I1 ⟨rfl, rfl⟩) fun vl s2 ⟨l, Ha, Ia, pl, el, ea⟩ => ?_)
  subst el ea
  refine thn (po_none.run pins s2 σ Ha (fun o Hb => o = none ∧ Hb = Ha) Ia ⟨rfl, rfl⟩) fun vu s3 ⟨u, Hb, Ib, pu, eu, eb⟩ => ?_
  subst eu eb
  refine thn (step.run pins s3 σ Hb (fun o Hc => o = some (-1) ∧ Hc = Hb) Ib ⟨1, rfl, -1, rfl, rfl, rfl⟩) fun vs s4 ⟨o, Hc, Ic, ps, eo, ec⟩ => ?_
  subst eo ec
  have J : Inv X pins σ Hc { s4 with heap := s4.heap.push { cls := .type "slice", data := .fields #[vl, vu, vs] } } := Ic.kept (t' := s4.toks) fun b ob q => Heap.get?_push_of_some _ q
  obtain ⟨W, t, hW, ok, r, p⟩ := q1
  subst hW
  obtain ⟨r', e1, p⟩ := p.of_bindO
  have l1 := look_LT ok r
  generalize look W.h t = a at e1 l1
  show wpAny (model X.prog X.w) X.A (subscriptTail e (.Slice none none (some (.UnaryOp .USub (.Constant (.int 1) k p1) p2)) p3) v (.ref s4.heap.objs.size)) (EP X pins σ Q) X.xe { s4 with heap := s4.heap.push { cls := .type "slice", data := .fields #[vl, vu, vs] } }
  unfold revO at e1
  split at e1 <;> try contradiction
  · cases e1
    obtain ⟨rfl, hz⟩ := l1
    obtain ⟨tk, rfl⟩ := r1
    obtain ⟨l', rfl, hl'⟩ := IsPart.raw pl
    obtain ⟨u', rfl, hu'⟩ := IsPart.raw pu
    obtain ⟨w', rfl, hw'⟩ := IsPart.raw ps
    have hl2 : l' = none := by cases l' <;> simp_all
    have hu2 : u' = none := by cases u' <;> simp_all
    subst hl2 hu2
    refine tail_any (ops := [.str (tx _) tk, .ref s4.heap.objs.size]) (typeIs_str _ _ _) F.slot_str_getitem.lookup ?_ (by with_unfolding_all rfl)
    have hg : (w'.map (·.1)).getD 1 = -1 := by
      cases w' with
      | none => simp at hw'
      | some q => simp at hw'; simp [hw']
    refine wpAny_getItem_str_slice (l := none) (u := none) (st := w') ⟨_, Heap.get?_push_size _ rfl, rfl, rfl⟩ (by rw [hg]; decide) ?_
    have hsp : slicePicked (tx ‹List Nat›) none none w' = Builtin.Str.strSliceIndices none none (-1) (tx ‹List Nat›).length := by
      unfold slicePicked
      rw [hg]
      rfl
    unfold sliceMade
    rw [hg, hsp, revStr]
    have hlen := tx_len (List.reverse ‹List Nat›)
    rw [List.length_reverse] at hlen
    refine ⟨by rw [hlen]; exact hz, .str _, W.H, J.tok _, ⟨_, rfl⟩, mk_str ok (by rw [List.length_reverse]; exact hz) p⟩
  · cases e1
    obtain ⟨q, vs', rfl, f, rr⟩ := l1
    cases r1
    obtain ⟨its, rv, ht, hz⟩ := J.list (hK ▸ f)
    have hlen := rv.length
    refine tail_any (ops := [.ref q, .ref s4.heap.objs.size]) ht.isList.typeIs (PySem.slot_list_getitem.lookup) ?_ (by with_unfolding_all rfl)
    refine wpAny_getItem_list_slice ht.isList (Heap.IsSliceOf.new _ vl vu vs) pl pu ps (by decide) ?_ (by rw [List.size_toArray]; omega)
    rw [PySem.W.krv_pick]
    refine ⟨.ref _, _, J.laid (t' := s4.toks) (o := .lst vs'.reverse) (fun b ob z => Heap.get?_push_of_some _ z) (Nat.le_refl _) ?_, rfl, mk_lst ok p rr.reverse _ (J.hok.fresh (Nat.le_refl _))⟩
    exact ⟨by rw [List.length_reverse]; exact hz, _, 0, rv.reverse, Heap.get?_push_size _ rfl⟩
end
end Tw
end
/-! part Tw2e -/
section
set_option Elab.async false
set_option linter.all false
set_option maxRecDepth 100000
/-! Tw2e: built-ins, methods, isinstance on trees. -/
namespace Tw
open PySem PySem.Spec PyProof.Rows L2
section
variable {G : Gx} {X : Cx} {E : XK} {pins : List (Addr × Obj)} {σ : L2.St} {H : Hp} {s : Shared} {W : Wd}
theorem bls_vals : ∀ {l : List T} {vs : List V} {bs : List Bool}, bls l = some bs → RTs G W l vs → vs = bs.map V.bl
  | [], _, _, e, r => by cases e; cases r; rfl
  | .bl b :: l, vs, bs, e, r => by
    obtain ⟨v, w, rfl, rv, rw'⟩ := r
    obtain ⟨bs', e1, rfl⟩ := Option.map_eq_some_iff.mp (show (bls l).map (fun bs => b :: bs) = some bs from e)
    cases rv
    rw [bls_vals e1 rw']
    rfl
  | .non :: _, _, _, e, _ => by cases e
  | .int _ :: _, _, _, e, _ => by cases e
  | .str _ :: _, _, _, e, _ => by cases e
  | .tup _ :: _, _, _, e, _ => by cases e
  | .lst _ :: _, _, _, e, _ => by cases e
  | .dct _ _ :: _, _, _, e, _ => by cases e
  | .ins _ _ _ :: _, _, _, e, _ => by cases e
  | .ref _ :: _, _, _, e, _ => by cases e
theorem txts_vals : ∀ {l : List T} {vs : List V} {ss : List (List Nat)}, txts l = some ss → RTs G W l vs → vs = (ss.map tx).map V.str
  | [], _, _, e, r => by cases e; cases r; rfl
  | .str b :: l, vs, bs, e, r => by
    obtain ⟨v, w, rfl, rv, rw'⟩ := r
    obtain ⟨bs', e1, rfl⟩ := Option.map_eq_some_iff.mp (show (txts l).map (fun bs => b :: bs) = some bs from e)
    obtain ⟨rfl, _⟩ := rv
    rw [txts_vals e1 rw']
    rfl
  | .non :: _, _, _, e, _ => by cases e
  | .int _ :: _, _, _, e, _ => by cases e
  | .bl _ :: _, _, _, e, _ => by cases e
  | .tup _ :: _, _, _, e, _ => by cases e
  | .lst _ :: _, _, _, e, _ => by cases e
  | .dct _ _ :: _, _, _, e, _ => by cases e
  | .ins _ _ _ :: _, _, _, e, _ => by cases e
  | .ref _ :: _, _, _, e, _ => by cases e
theorem joinL_tl (a : List Nat) : ∀ l : List (List Nat), TL.joinL a l = joinL a l
  | [] => rfl
  | [x] => rfl
  | x :: y :: r => by
    show x ++ (a ++ TL.joinL a (y :: r)) = x ++ a ++ joinL a (y :: r)
    rw [joinL_tl a (y :: r), List.append_assoc]
theorem join_tx (a : List Nat) (l : List (List Nat)) : Txt.join (tx a) (l.map tx) = tx (joinL a l) := by
  have h := SX.join_S a l
  rw [joinL_tl] at h
  exact h
theorem join_len (a : List Nat) : ∀ l : List (List Nat), (joinL a l).length ≤ (l.map List.length).sum + l.length * a.length
  | [] => Nat.zero_le _
  | [x] => by simp [joinL]
  | x :: y :: r => by
    have ih := join_len a (y :: r)
    simp only [joinL, List.length_append, List.map_cons, List.sum_cons, List.length_cons] at ih ⊢
    have : (r.length + 1 + 1) * a.length = (r.length + 1) * a.length + a.length := Nat.succ_mul _ _
    omega

/-! ### the text of a list of truths -/
def blD (b : Bool) : PyData := .bool b
theorem shownAll_bl : ∀ bs : List Bool, PyData.shownAll (bs.map PyData.bool) = bs.map fun b => tx (blTx b)
  | [] => rfl
  | b :: bs => by
    rw [List.map_cons, List.map_cons, ← shownAll_bl bs]
    cases b <;> rfl
theorem textFrom_tx : ∀ (l : List (List Nat)) (k : Nat) (acc : List Nat), textFrom k (tx acc) (l.map tx) = tx (txtFrom k acc l)
  | [], _, _ => rfl
  | t :: r, k, acc => by
    show textFrom (k + 1) (tx acc ++ (if k > 0 then ", " else "" : String) ++ tx t) (r.map tx) = tx (txtFrom (k + 1) (acc ++ (if k > 0 then [44, 32] else []) ++ t) r)
    rw [← textFrom_tx r (k + 1) _, ← tx_app, ← tx_app]
    congr 1
    by_cases h : k > 0
    · rw [if_pos h, if_pos h]
      rfl
    · rw [if_neg h, if_neg h]
      rfl
theorem shown_bls (bs : List Bool) : (PyData.list (bs.map PyData.bool)).shown = tx (reprBls bs) := by
  show listText (PyData.shownAll (bs.map PyData.bool)) = _
  rw [shownAll_bl]
  have e : (bs.map fun b => tx (blTx b)) = (bs.map blTx).map tx := by rw [List.map_map]; rfl
  rw [e]
  show textFrom 0 (tx [91]) ((bs.map blTx).map tx) ++ tx [93] = tx (txtFrom 0 [91] (bs.map blTx) ++ [93])
  rw [textFrom_tx, tx_app]
theorem txtFrom_len : ∀ (l : List (List Nat)) (k : Nat) (acc : List Nat), (∀ t ∈ l, t.length ≤ 5) → (txtFrom k acc l).length ≤ acc.length + 7 * l.length
  | [], _, _, _ => Nat.le_refl _
  | t :: r, k, acc, h => by
    have ih := txtFrom_len r (k + 1) (acc ++ (if k > 0 then [44, 32] else []) ++ t) fun u hu => h u (List.mem_cons_of_mem _ hu)
    have ht := h t List.mem_cons_self
    have e : txtFrom k acc (t :: r) = txtFrom (k + 1) (acc ++ (if k > 0 then [44, 32] else []) ++ t) r := rfl
    rw [e]
    simp only [List.length_append, List.length_cons] at ih ⊢
    have : (if k > 0 then [44, 32] else ([] : List Nat)).length ≤ 2 := by split <;> decide
    omega
theorem reprBls_len {bs : List Bool} (h : bs.length ≤ 1000) : (reprBls bs).length ≤ sizeLine := by
  have q := txtFrom_len (bs.map blTx) 0 [91] fun t ht => by
    obtain ⟨b, _, rfl⟩ := List.mem_map.mp ht
    cases b <;> decide
  rw [List.length_map] at q
  unfold reprBls
  rw [List.length_append]
  have : (sizeLine : Nat) = 16777216 := sizeLine_eq
  simp only [List.length_cons, List.length_nil] at q ⊢
  omega
theorem bl_showable : ∀ bs : List Bool, PyData.showableAll (bs.map PyData.bool) = true
  | [] => rfl
  | b :: bs => by
    rw [List.map_cons]
    unfold PyData.showableAll
    rw [bl_showable bs]
    rfl
theorem bl_noDict : ∀ bs : List Bool, PyData.hasDictAll (bs.map PyData.bool) = false
  | [] => rfl
  | b :: bs => by
    rw [List.map_cons]
    unfold PyData.hasDictAll
    rw [bl_noDict bs]
    rfl
theorem bl_depth : ∀ bs : List Bool, PyData.depthAll (bs.map PyData.bool) = 0
  | [] => rfl
  | b :: bs => by
    rw [List.map_cons]
    unfold PyData.depthAll
    rw [bl_depth bs]
    rfl
theorem dps_bl (K : PySem.W.Frag) (H : Hp) : ∀ bs : List Bool, DpAll K H (bs.map V.bl) (bs.map PyData.bool)
  | [] => .nil
  | b :: bs => .cons (.bl b) (dps_bl K H bs)

/-! ### built-ins -/
def biV : Bi → Value
  | .len => .builtin "len" | .all => .builtin "all" | .any => .builtin "any" | .tuple => .type "tuple" | .list => .type "list" | .abs => .builtin "abs" | .int => .type "int" | .max => .builtin "max" | .min => .builtin "min" | .repr => .builtin "repr"
def rBi (G : Gx) (m : Bool) (f : Bi) (E : XK) : List V → Hp → VK → Prop := fun vs H Q => ∃ W ts, W.H = H ∧ W.Ok G ∧ RTs G W ts vs ∧ PostE G W ((ofO (biO f (ts.map (look W.h))) W.h).bind fun t h => mk m t h) Q E
theorem rts1 {t : T} {vs : List V} (r : RTs G W [t] vs) : ∃ v, vs = [v] ∧ RT G W t v := by
  obtain ⟨v, w, rfl, a, b⟩ := r
  cases b
  exact ⟨v, rfl, a⟩
theorem rts2 {t u : T} {vs : List V} (r : RTs G W [t, u] vs) : ∃ v w, vs = [v, w] ∧ RT G W t v ∧ RT G W u w := by
  obtain ⟨v, w, rfl, a, b⟩ := r
  obtain ⟨w', rfl, b'⟩ := rts1 b
  exact ⟨v, w', rfl, a, b'⟩
theorem biR (hK : X.K = G.K) (hc : X.calm = true) (hu : X.A.units + 64 < cLine) (m : Bool) (f : Bi) (hg : f = .repr → X.A.guards = some []) : CallR X (biV f) (rBi G m f E) := by
  intro pins s σ H vs us Q I rv h
  obtain ⟨W, ts, rfl, ok, r, p⟩ := h
  obtain ⟨a, e, p⟩ := p.of_bindO
  have one : ∀ {b : T}, ts.map (look W.h) = [b] → ∃ v, vs = [v] ∧ LT G W b v := fun {b} e => by
    cases ts with
    | nil => cases e
    | cons t r' =>
      cases r' with
      | nil =>
        obtain ⟨v, rfl, q⟩ := rts1 r
        have e' : look W.h t = b := by simpa using e
        exact ⟨v, rfl, e' ▸ look_LT ok q⟩
      | cons _ _ => simp at e
  have two : ∀ {b c : T}, ts.map (look W.h) = [b, c] → ∃ v w, vs = [v, w] ∧ LT G W b v ∧ LT G W c w := fun {b c} e => by
    cases ts with
    | nil => cases e
    | cons t r' =>
      cases r' with
      | nil => simp at e
      | cons u r' =>
        cases r' with
        | nil =>
          obtain ⟨v, w, rfl, q1, q2⟩ := rts2 r
          have e' : look W.h t = b ∧ look W.h u = c := by simpa using e
          exact ⟨v, w, rfl, e'.1 ▸ look_LT ok q1, e'.2 ▸ look_LT ok q2⟩
        | cons _ _ => simp at e
  generalize ts.map (look W.h) = ls at e one two
  cases f with
  | len =>
    unfold biO at e
    split at e <;> (rename_i q; try contradiction)
    obtain ⟨n, e1, rfl⟩ := Option.map_eq_some_iff.mp e
    obtain ⟨v, rfl, l⟩ := one rfl
    refine call_len pins s σ W.H _ us Q I rv ⟨v, n, rfl, ?_, mk_int ok p⟩
    unfold lenO at e1
    split at e1 <;> try contradiction
    · cases e1
      obtain ⟨rfl, hz⟩ := l
      exact ⟨by rw [tx_len]; exact hz, (tx_len _).symm⟩
    · cases e1
      obtain ⟨b, ws, rfl, f, r⟩ := l
      exact .inr ⟨ws, hK ▸ f.sq, r.length⟩
    · cases e1
      obtain ⟨b, ws, rfl, f, r⟩ := l
      exact .inl ⟨ws, hK ▸ f, r.length⟩
  | all =>
    unfold biO at e
    split at e <;> (rename_i q; try contradiction)
    obtain ⟨bs, e1, rfl⟩ := Option.map_eq_some_iff.mp e
    obtain ⟨v, rfl, b, ws, rfl, f, r⟩ := one rfl
    rw [bls_vals e1 r] at f
    exact cr_all hc pins s σ W.H _ us Q I rv ⟨b, bs, rfl, hK ▸ f, mk_bl ok p⟩
  | any =>
    unfold biO at e
    split at e <;> (rename_i q; try contradiction)
    obtain ⟨bs, e1, rfl⟩ := Option.map_eq_some_iff.mp e
    obtain ⟨v, rfl, b, ws, rfl, f, r⟩ := one rfl
    rw [bls_vals e1 r] at f
    exact cr_any hc pins s σ W.H _ us Q I rv ⟨b, bs, rfl, hK ▸ f, mk_bl ok p⟩
  | tuple =>
    unfold biO at e
    split at e <;> (rename_i q; try contradiction)
    all_goals cases e
    · obtain ⟨v, rfl, b, ws, rfl, f, r⟩ := one rfl
      exact call_tuple_of pins s σ W.H _ us Q I rv ⟨b, ws, rfl, .inl ⟨hK ▸ f, mk_tup ok p r⟩⟩
    · obtain ⟨v, rfl, b, ws, rfl, f, r⟩ := one rfl
      exact call_tuple_of pins s σ W.H _ us Q I rv ⟨b, ws, rfl, .inr ⟨hK ▸ f.sq, mk_tup' ok p f r⟩⟩
  | list =>
    unfold biO at e
    split at e <;> (rename_i q; try contradiction)
    all_goals cases e
    · obtain ⟨v, rfl, b, ws, rfl, f, r⟩ := one rfl
      exact call_list_of pins s σ W.H _ us Q I rv ⟨b, ws, rfl, .inl (hK ▸ f), mk_lst ok p r⟩
    · obtain ⟨v, rfl, b, ws, rfl, f, r⟩ := one rfl
      exact call_list_of pins s σ W.H _ us Q I rv ⟨b, ws, rfl, .inr (hK ▸ f.sq), mk_lst ok p r⟩
  | abs =>
    unfold biO at e
    split at e <;> (rename_i q; try contradiction)
    cases e
    obtain ⟨v, rfl, l⟩ := one rfl
    cases l
    refine call_abs pins s σ W.H _ us Q I rv ⟨_, rfl, ?_⟩
    rename_i i
    have e2 : (if i < 0 then -i else i) = (i.natAbs : Int) := by split <;> omega
    rw [e2]
    exact mk_int ok p
  | int =>
    unfold biO at e
    split at e <;> (rename_i q; try contradiction)
    all_goals cases e
    · obtain ⟨v, rfl, l⟩ := one rfl
      cases l
      exact call_int1 pins s σ W.H _ us Q I rv (.inl ⟨_, rfl, mk_int ok p⟩)
    · obtain ⟨v, rfl, l⟩ := one rfl
      cases l
      exact call_int1 pins s σ W.H _ us Q I rv (.inr ⟨_, rfl, mk_int ok p⟩)
  | max =>
    unfold biO at e
    split at e <;> (rename_i q; try contradiction)
    cases e
    obtain ⟨v, w, rfl, l1, l2⟩ := two rfl
    cases l1; cases l2
    exact call_max2 hc pins s σ W.H _ us Q I rv ⟨_, _, rfl, mk_int ok p⟩
  | min =>
    unfold biO at e
    split at e <;> (rename_i q; try contradiction)
    cases e
    obtain ⟨v, w, rfl, l1, l2⟩ := two rfl
    cases l1; cases l2
    exact call_min2 hc pins s σ W.H _ us Q I rv ⟨_, _, rfl, mk_int ok p⟩
  | repr =>
    unfold biO at e
    split at e <;> (rename_i q; try contradiction)
    split at e <;> try contradiction
    rename_i hz
    obtain ⟨bs, e1, rfl⟩ := Option.map_eq_some_iff.mp e
    obtain ⟨v, rfl, b, ws, rfl, f, r⟩ := one rfl
    have hl := r.length
    rw [bls_vals e1 r] at f hl
    rw [List.length_map] at hl
    obtain ⟨u, rfl, ru⟩ := vals1 rv
    cases ru
    obtain ⟨as, rd⟩ := Dp.reads I (.list (bs.map PyData.bool)) (V.ref b) (.ref b) (by rw [hK]; exact .lst f (dps_bl _ _ bs)) rfl
    have hsz := reprBls_len (bs := bs) (by omega)
    refine PySem.repr_of_reads' rd (bl_showable bs) (PySem.PyData.noDict_hsm (bl_noDict bs)) (hg rfl) ?_ (fun _ _ h => h) (fun h' u tk hk => ?_) ?_
    · show X.A.units + (PyData.depthAll (bs.map PyData.bool) + 1 + 1) < cLine
      rw [bl_depth]
      omega
    · rw [shown_bls]
      exact ⟨.str _, W.H, (I.kept (t' := tk) hk), ⟨_, rfl⟩, mk_str ok hsz p⟩
    · rw [shown_bls, tx_len]
      exact hsz
/-! ### methods -/
def meT : Me → String
  | .append => "list" | .join => "str"
def meI : Me → String
  | .append => "list.append" | .join => "str.join"
theorem meTy {f : Me} {t : T} {x : V} (h : LT G W t x) (e : meOk f t = true) : tyV G.K (meT f) x W.H := by
  unfold meOk at e
  split at e <;> try contradiction
  · obtain ⟨a, vs, rfl, q, _⟩ := h
    exact .inl ⟨rfl, vs, q⟩
  · obtain ⟨rfl, _⟩ := h
    exact rfl
def rMe (G : Gx) (f : Me) (E : XK) : V → List V → Hp → VK → Prop := fun x vs H Q => ∃ W t ts, W.H = H ∧ W.Ok G ∧ RT G W t x ∧ RTs G W ts vs ∧ PostE G W (meR f t ts W.h) Q E
theorem meRR (hK : X.K = G.K) (f : Me) : MtR X (meI f) (rMe G f E) := by
  intro pins s σ H x xs v us Q I rx rs h
  obtain ⟨W, t, ts, rfl, ok, r1, r2, p⟩ := h
  cases f with
  | append =>
    cases t with
    | ref i =>
      obtain ⟨y, rfl⟩ : ∃ y, ts = [y] := by
        match ts, p with
        | [], p => exact False.elim p
        | [y], _ => exact ⟨y, rfl⟩
        | _ :: _ :: _, p => exact False.elim p
      unfold meR at p
      simp only at p
      split at p <;> try exact False.elim p
      rename_i l e
      split at p <;> try exact False.elim p
      rename_i hz
      obtain ⟨a, hb, rfl⟩ := r1
      obtain ⟨w, rfl, rw'⟩ := rts1 r2
      obtain ⟨vs, hH, rr⟩ := ok.cont i (.lst l) a e hb
      have ex : Ext W ⟨upd W.H a (.lst (vs ++ [w])), W.β, W.h.set i (some (.lst (l ++ [y])))⟩ := Ext.set e hb
      refine mt_append pins s σ W.H _ _ v us Q I rx rs ⟨a, vs, w, rfl, rfl, hH, by rw [← rr.length]; exact lim_line' hz, ?_⟩
      exact p ⟨upd W.H a (.lst (vs ++ [w])), W.β, W.h.set i (some (.lst (l ++ [y])))⟩ .non rfl ex (ok.set e hb ⟨_, upd_same, RTs.ext ex _ _ (rr.append (.one rw'))⟩) rfl
    | _ => exact False.elim p
  | join =>
    unfold meR at p
    split at p <;> (rename_i q; try exact False.elim p)
    · contradiction
    · split at p <;> try exact False.elim p
      rename_i l e
      split at p <;> try exact False.elim p
      rename_i ss e1
      split at p <;> try exact False.elim p
      rename_i hz
      obtain ⟨rfl, hz1⟩ := r1
      obtain ⟨w, rfl, rw'⟩ := rts1 r2
      have l1 := look_LT ok rw'
      rw [e] at l1
      obtain ⟨a, vs, rfl, f, rr⟩ := l1
      rw [txts_vals e1 rr] at f
      refine mt_join pins s σ W.H _ _ v us Q I rx rs ⟨_, a, ss.map tx, rfl, rfl, .inl (hK ▸ f), ?_, ?_⟩
      · have e2 : (ss.map tx).map (·.length) = ss.map List.length := by
          rw [List.map_map]
          exact List.map_congr_left fun z _ => tx_len z
        rw [e2, List.length_map, tx_len]
        exact Nat.le_trans hz (by decide)
      · rw [join_tx]
        exact Post.here (rel := RT G) (a := .str _) ok p ⟨rfl, Nat.le_trans (join_len _ _) (lim_line hz)⟩

/-! ### isinstance -/
def tyS : Ty → String
  | .int => "int" | .str => "str" | .bool => "bool" | .tuple => "tuple" | .list => "list" | .dict => "dict"
theorem isiV {t : T} {x : V} {y : Ty} {b : Bool} (h : LT G W t x) (e : isiO t y = some b) : ∃ (tv : Value), TyX G.K W.H x tv ∧ PySem.W.kitOne G.K tv (.type (tyS y)) = some b := by
  cases t with
  | non =>
    cases h
    cases e
    refine ⟨_, .base .non, ?_⟩
    cases y <;> exact kit_ty (by decide +kernel)
  | bl k =>
    cases h
    refine ⟨_, .base (.bl _), ?_⟩
    cases y <;> (cases e; exact kit_ty (by decide +kernel))
  | int i =>
    cases h
    refine ⟨_, .base (.int _), ?_⟩
    cases y <;> (cases e; exact kit_ty (by decide +kernel))
  | str z =>
    obtain ⟨rfl, _⟩ := h
    refine ⟨_, .base (.str _), ?_⟩
    cases y <;> (cases e; exact kit_ty (by decide +kernel))
  | tup l =>
    obtain ⟨a, vs, rfl, f, _⟩ := h
    have ty : TyX G.K W.H (.ref a) (.type "tuple") := by
      rcases f with ⟨f | ⟨o, f⟩, _⟩ | ⟨o, its, n, hk, hc, _⟩
      · exact .base (.tup f)
      · exact .fTuple f
      · exact .kTuple hk hc
    refine ⟨_, ty, ?_⟩
    cases y <;> (cases e; exact kit_ty (by decide +kernel))
  | lst l =>
    obtain ⟨a, vs, rfl, f, _⟩ := h
    have ty : TyX G.K W.H (.ref a) (.type "list") := by
      rcases f with (f | ⟨o, f⟩) | ⟨o, its, n, hk, hc, _⟩
      · exact .base (.lst f)
      · exact .base (.frz f)
      · exact .kList hk hc
    refine ⟨_, ty, ?_⟩
    cases y <;> (cases e; exact kit_ty (by decide +kernel))
  | dct ks vs =>
    obtain ⟨a, o, ws, rfl, f, k, _⟩ := h
    refine ⟨_, .base (by rcases k with ⟨kvs, rfl, _⟩ | ⟨kvs, rfl, _⟩; exact .dK f; exact .dT f), ?_⟩
    cases y <;> (cases e; exact kit_ty (by decide +kernel))
  | ins _ _ _ => cases y <;> cases e
  | ref _ => cases y <;> cases e
def rIsiW (G : Gx) (y : Ty) : List V → Hp → VK → Prop := fun vs H Q => ∃ W t x b, vs = [x, .ty (tyS y)] ∧ W.H = H ∧ W.Ok G ∧ RT G W t x ∧ isiO (look W.h t) y = some b ∧ Q (.bl b) H
theorem isiR (hK : X.K = G.K) (y : Ty) : CallR X (.builtin "isinstance") (rIsiW G y) := by
  intro pins s σ H xs us Q I r h
  obtain ⟨W, t, x, b, rfl, rfl, ok, r1, e, q⟩ := h
  obtain ⟨tv, h1, h2⟩ := isiV (look_LT ok r1) e
  exact call_isi pins s σ W.H _ us Q I r ⟨x, _, tv, .type (tyS y), b, rfl, .ty _, hK ▸ h1, hK ▸ h2, q⟩
end
end Tw
end
/-! part Tw2f -/
section
set_option Elab.async false
set_option linter.all false
set_option maxRecDepth 100000
/-! Tw2f: expressions, tests, arguments: the layer's judgements read as the evaluator's answers. -/
namespace Tw
open PySem PySem.Spec PyProof.Rows L2

/-- what the rules want of a context -/
structure Cn (G : Gx) (X : Cx) : Prop where
  K : X.K = G.K
  nd : X.N.Nodup
  calm : X.calm = true
  un : X.A.units + 64 < cLine

/-- the slots: those at ex are not told -/
def Rx (G : Gx) (W : Wd) (ex : Nat → Prop) (σ : Sl) (σt : L2.St) : Prop := σ.length = σt.length ∧ ∀ (i : Nat) t, ex i → σ[i]? = some (some t) → ∃ v, σt[i]? = some (some v) ∧ RT G W t v
abbrev Rs (G : Gx) (W : Wd) : Sl → L2.St → Prop := Rx G W fun _ => True
section
variable {G : Gx} {W W' W1 : Wd} {ex : Nat → Prop} {σ : Sl} {σt : L2.St}
theorem Rx.ext (r : Rx G W ex σ σt) (e : Ext W W') : Rx G W' ex σ σt := ⟨r.1, fun i t hi h => let ⟨v, h1, h2⟩ := r.2 i t hi h; ⟨v, h1, RT.ext e t v h2⟩⟩
end

def tE (G : Gx) (Γ : Tw.Env) (E : XK) (e : Ex) : TE := fun σt H Q => ∃ W σ, W.H = H ∧ W.Ok G ∧ Rs G W σ σt ∧ PostE G W (evE Γ e σ W.h) Q E
def tA (G : Gx) (Γ : Tw.Env) (E : XK) (es : List Ex) : TA := fun σt H Q => ∃ W σ, W.H = H ∧ W.Ok G ∧ Rs G W σ σt ∧ PostA G W (evEs Γ es σ W.h) Q E
def tB (G : Gx) (Γ : Tw.Env) (E : XK) (e : Ex) : TT := fun σt H Q => ∃ W σ, W.H = H ∧ W.Ok G ∧ Rs G W σ σt ∧ PostB G W (evB Γ e σ W.h) Q E
def tBs (G : Gx) (Γ : Tw.Env) (E : XK) (es : List Ex) : TT := fun σt H Q => ∃ W σ, W.H = H ∧ W.Ok G ∧ Rs G W σ σt ∧ PostB G W (evBs Γ es σ W.h) Q E

section
variable {G : Gx} {Γ : Tw.Env} {E : XK} {W : Wd} {σ : Sl} {σt : L2.St} {H : Hp} {γ δ : Type} {rel' : Wd → γ → δ → Prop} {Q' : δ → Hp → Prop}
/-- the way on: a part is run, what stands behind it is told of its answer -/
theorem goE {e : Ex} {f : T → Hm → R γ} {Q : VK} (ok : W.Ok G) (rs : Rs G W σ σt) (p : Post G rel' W ((evE Γ e σ W.h).bind f) Q' E)
    (k : ∀ W1 a b, Ext W W1 → W1.Ok G → Rs G W1 σ σt → RT G W1 a b → Post G rel' W1 (f a W1.h) Q' E → Q b W1.H) : tE G Γ E e σt W.H Q :=
  ⟨W, σ, rfl, ok, rs, p.seq.mono fun b H1 ⟨W1, a, e1, ex, ok1, r, q⟩ => e1 ▸ k W1 a b ex ok1 (rs.ext ex) r q⟩
theorem goA {es : List Ex} {f : List T → Hm → R γ} {Q : List V → Hp → Prop} (ok : W.Ok G) (rs : Rs G W σ σt) (p : Post G rel' W ((evEs Γ es σ W.h).bind f) Q' E)
    (k : ∀ W1 a b, Ext W W1 → W1.Ok G → Rs G W1 σ σt → RTs G W1 a b → Post G rel' W1 (f a W1.h) Q' E → Q b W1.H) : tA G Γ E es σt W.H Q :=
  ⟨W, σ, rfl, ok, rs, p.seq.mono fun b H1 ⟨W1, a, e1, ex, ok1, r, q⟩ => e1 ▸ k W1 a b ex ok1 (rs.ext ex) r q⟩
theorem goB {e : Ex} {f : Bool → Hm → R γ} {Q : Bool → Hp → Prop} (ok : W.Ok G) (rs : Rs G W σ σt) (p : Post G rel' W ((evB Γ e σ W.h).bind f) Q' E)
    (k : ∀ W1 b, Ext W W1 → W1.Ok G → Rs G W1 σ σt → Post G rel' W1 (f b W1.h) Q' E → Q b W1.H) : tB G Γ E e σt W.H Q :=
  ⟨W, σ, rfl, ok, rs, p.seq.mono fun b H1 ⟨W1, a, e1, ex, ok1, r, q⟩ => e1 ▸ (r ▸ k W1 a ex ok1 (rs.ext ex) q)⟩
theorem goBs {es : List Ex} {f : Bool → Hm → R γ} {Q : Bool → Hp → Prop} (ok : W.Ok G) (rs : Rs G W σ σt) (p : Post G rel' W ((evBs Γ es σ W.h).bind f) Q' E)
    (k : ∀ W1 b, Ext W W1 → W1.Ok G → Rs G W1 σ σt → Post G rel' W1 (f b W1.h) Q' E → Q b W1.H) : tBs G Γ E es σt W.H Q :=
  ⟨W, σ, rfl, ok, rs, p.seq.mono fun b H1 ⟨W1, a, e1, ex, ok1, r, q⟩ => e1 ▸ (r ▸ k W1 a ex ok1 (rs.ext ex) q)⟩
end

theorem pe_imp {X : Cx} {e : Expr} {t t' : TE} (h : PE X e t) (k : ∀ σ H Q, t' σ H Q → t σ H Q) : PE X e t' := ⟨fun pins s σ H Q I q => h.run pins s σ H Q I (k σ H Q q)⟩
theorem pt_imp {X : Cx} {e : Expr} {t t' : TT} (h : PT X e t) (k : ∀ σ H Q, t' σ H Q → t σ H Q) : PT X e t' := ⟨fun pins s σ H Q I q => h.run pins s σ H Q I (k σ H Q q)⟩
theorem pw_imp {X : Cx} {e : Expr} {t t' : TT} (h : PW X e t) (k : ∀ σ H Q, t' σ H Q → t σ H Q) : PW X e t' := ⟨fun wh pins s σ H Q I q => h.run wh pins s σ H Q I (k σ H Q q)⟩
theorem pa_imp {X : Cx} {e : List Expr} {t t' : TA} (h : PA X e t) (k : ∀ σ H Q, t' σ H Q → t σ H Q) : PA X e t' := ⟨fun pos pins s σ H Q I q => h.run pos pins s σ H Q I (k σ H Q q)⟩
theorem ps_imp {X : Cx} {e : Stmt} {t t' : TS} (h : PS X e t) (k : ∀ D σ H, t' D σ H → t D σ H) : PS X e t' := ⟨fun pins s σ H D I q => h.run pins s σ H D I (k D σ H q)⟩
theorem pss_imp {X : Cx} {e : List Stmt} {t t' : TS} (h : PSs X e t) (k : ∀ D σ H, t' D σ H → t D σ H) : PSs X e t' := ⟨fun pins s σ H D I q => h.run pins s σ H D I (k D σ H q)⟩
theorem pg_imp {X : Cx} {e : Expr} {t t' : TG} (h : PG X e t) (k : ∀ v σ H Q, t' v σ H Q → t v σ H Q) : PG X e t' := ⟨fun pins s σ H v u Q I r q => h.run pins s σ H v u Q I r (k v σ H Q q)⟩
theorem pgs_imp {X : Cx} {e : List Expr} {t t' : TGs} (h : PGs X e t) (k : ∀ v σ H Q, t' v σ H Q → t v σ H Q) : PGs X e t' := ⟨fun pins s σ H v u Q I r q => h.run pins s σ H v u Q I r (k v σ H Q q)⟩
theorem pi_imp {X : Cx} {tg e : Expr} {t t' : TI} (h : PI X tg e t) (k : ∀ σ H Q, t' σ H Q → t σ H Q) : PI X tg e t' := ⟨fun pins s σ H Q I q => h.run pins s σ H Q I (k σ H Q q)⟩

section
variable {G : Gx} {Γ : Tw.Env} {E : XK} {X : Cx} {a b c : Expr} {A B C : Ex} {es : List Expr} {As : List Ex} {pos p p2 : Pos}
theorem te_v {i : Nat} {x : PySem.Str} (hN : X.N[i]? = some x) (hv : Vis X.env.scope x) (hd : (x == ("__debug__" : PySem.Str)) = false := by decide) (hcd : (x == ("__classdict__" : PySem.Str)) = false := by decide) : PE X (.Name x pos) (tE G Γ E (.v i)) := by
  refine pe_imp (pe_var hN hv hd hcd) fun σt H Q ⟨W, σ, e, ok, rs, p⟩ => ?_
  subst e
  unfold evE at p
  split at p
  · rename_i t e1
    obtain ⟨v, e2, r⟩ := rs.2 i t trivial e1
    exact ⟨v, e2, Post.here ok p r⟩
  · exact False.elim p
theorem te_k {t : T} {v : V} (h : PE X a (tC v)) (r : ∀ W, RT G W t v) : PE X a (tE G Γ E (.c t)) := by
  refine pe_imp h fun σt H Q ⟨W, σ, e, ok, rs, p⟩ => ?_
  subst e
  exact Post.here (rel := RT G) (a := t) ok p (r W)
theorem te_i {i : Int} {j} : PE X (.Constant (.int i) j pos) (tE G Γ E (.c (.int i))) := te_k pe_int fun _ => rfl
theorem te_b {i : Bool} {j} : PE X (.Constant (.bool i) j pos) (tE G Γ E (.c (.bl i))) := te_k pe_bl fun _ => rfl
theorem te_n {j} : PE X (.Constant .none j pos) (tE G Γ E (.c .non)) := te_k pe_non fun _ => rfl
theorem te_s {x : PySem.Str} {z : List Nat} {j} (h : x = tx z) (hz : z.length ≤ lim) : PE X (.Constant (.str x) j pos) (tE G Γ E (.c (.str z))) := te_k pe_str fun _ => ⟨by rw [h], lim_line hz⟩
/-- a module's constant -/
theorem te_g {x : PySem.Str} {t : T} {v : V} {u : Value} (hg : Gl X x) (hm : X.mg x = some u) (r : RelV v u) (ht : ∀ W, RT G W t v) (hd : (x == ("__debug__" : PySem.Str)) = false := by decide) : PE X (.Name x pos) (tE G Γ E (.c t)) := te_k (pe_glob hg hm r hd) ht
theorem ta_n : PA X [] (tA G Γ E []) := by
  refine pa_imp pa_nil fun σt H Q ⟨W, σ, e, ok, rs, p⟩ => ?_
  subst e
  exact Post.here (rel := RTs G) (a := ([] : List T)) ok p rfl
theorem ta_c (ha : PE X a (tE G Γ E A)) (hr : PA X es (tA G Γ E As)) (hs : starEach (a :: es) X.env = (false, eval a X.env) :: starEach es X.env := by rfl) : PA X (a :: es) (tA G Γ E (A :: As)) := by
  refine pa_imp (pa_cons ha hr hs) fun σt H Q ⟨W, σ, e, ok, rs, p⟩ => ?_
  subst e
  unfold evEs at p
  refine goE ok rs p fun W1 x v ex1 ok1 rs1 r1 p1 => goA ok1 rs1 p1 fun W2 y w ex2 ok2 rs2 r2 p2 => ?_
  exact Post.here (rel := RTs G) (a := x :: y) ok2 p2 ⟨v, w, rfl, RT.ext ex2 _ _ r1, r2⟩
theorem len_line {W : Wd} {l : List T} {vs : List V} (r : RTs G W l vs) (h : l.length ≤ lim) : vs.length ≤ sizeLine := by rw [← r.length]; exact lim_line h
theorem evEs_len {Γ : Tw.Env} : ∀ {es : List Ex} {σ : Sl} {h h' : Hm} {ts : List T}, evEs Γ es σ h = .ok ts h' → ts.length = es.length
  | [], _, _, _, _, e => by unfold evEs at e; cases e; rfl
  | a :: es, σ, h, h', ts, e => by
    unfold evEs at e
    cases q : evE Γ a σ h with
    | ok t h1 =>
      rw [q] at e
      simp only [R.bind] at e
      cases q2 : evEs Γ es σ h1 with
      | ok us h2 =>
        rw [q2] at e
        simp only [R.bind] at e
        cases e
        rw [List.length_cons, List.length_cons, evEs_len q2]
      | exc _ _ _ => rw [q2] at e; cases e
      | bad => rw [q2] at e; cases e
    | exc _ _ _ => rw [q] at e; cases e
    | bad => rw [q] at e; cases e
/-- .. where the number of arguments is told -/
theorem goAl {W : Wd} {σ : Sl} {σt : L2.St} {γ δ : Type} {rel' : Wd → γ → δ → Prop} {Q' : δ → Hp → Prop} {f : List T → Hm → R γ} {Q : List V → Hp → Prop} (ok : W.Ok G) (rs : Rs G W σ σt) (p : Post G rel' W ((evEs Γ As σ W.h).bind f) Q' E)
    (k : ∀ W1 a b, Ext W W1 → W1.Ok G → Rs G W1 σ σt → RTs G W1 a b → a.length = As.length → Post G rel' W1 (f a W1.h) Q' E → Q b W1.H) : tA G Γ E As σt W.H Q := by
  refine ⟨W, σ, rfl, ok, rs, ?_⟩
  cases q : evEs Γ As σ W.h with
  | ok ts h =>
    rw [q] at p
    intro W' b eh ex ok' r
    refine k W' ts b ex ok' (rs.ext ex) r (evEs_len q) ?_
    rw [eh]
    exact Post.later ex p
  | exc c ts h => rw [q] at p; exact p
  | bad => rw [q] at p; exact p
theorem te_t {x1} (h : PA X es (tA G Γ E As)) (hz : decide (As.length ≤ lim) = true := by decide) : PE X (.Tuple es x1 pos) (tE G Γ E (.tup As)) := by
  refine pe_imp (pe_tup h) fun σt H Q ⟨W, σ, e, ok, rs, p⟩ => ?_
  subst e
  unfold evE at p
  refine goAl ok rs p fun W1 x v ex1 ok1 rs1 r1 hl p1 => ⟨len_line r1 (by rw [hl]; exact of_decide_eq_true hz), mk_tup (m := false) ok1 p1 r1⟩
theorem te_l {m : Bool} (h : PA X es (tA G Γ E As)) (hz : decide (As.length ≤ lim) = true := by decide) : PE X (.List es pos) (tE G Γ E (.lst m As)) := by
  refine pe_imp (pe_lst h) fun σt H Q ⟨W, σ, e, ok, rs, p⟩ => ?_
  subst e
  unfold evE at p
  refine goAl ok rs p fun W1 x v ex1 ok1 rs1 r1 hl p1 => ⟨len_line r1 (by rw [hl]; exact of_decide_eq_true hz), mk_lst ok1 p1 r1⟩
theorem te_bin {m : Bool} {op : Op} {o : Operator} (hX : Cn G X) (ha : PE X a (tE G Γ E A)) (hb : PE X b (tE G Γ E B)) (ho : o = opS op := by rfl) : PE X (.BinOp a o b pos) (tE G Γ E (.bin m op A B)) := by
  subst ho
  refine pe_imp (pe_op (binR (E := E) hX.K m op) ha hb) fun σt H Q ⟨W, σ, e, ok, rs, p⟩ => ?_
  subst e
  unfold evE at p
  exact goE ok rs p fun W1 x v ex1 ok1 rs1 r1 p1 => goE ok1 rs1 p1 fun W2 y w ex2 ok2 rs2 r2 p2 => ⟨W2, x, y, rfl, ok2, RT.ext ex2 _ _ r1, r2, p2⟩
theorem te_neg (ha : PE X a (tE G Γ E A)) : PE X (.UnaryOp .USub a pos) (tE G Γ E (.neg A)) := by
  refine pe_imp (pe_un un_neg ha) fun σt H Q ⟨W, σ, e, ok, rs, p⟩ => ?_
  subst e
  unfold evE at p
  refine goE ok rs p fun W1 x v ex1 ok1 rs1 r1 p1 => ?_
  cases x <;> try exact False.elim p1
  cases r1
  exact ⟨_, rfl, Post.here (rel := RT G) (a := .int _) ok1 p1 rfl⟩
theorem ofOmap {W : Wd} {α β δ : Type} {rel : Wd → β → δ → Prop} {o : Option α} {f : α → β} {Q : δ → Hp → Prop} (p : Post G rel W (ofO (o.map f) W.h) Q E) : ∃ x, o = some x ∧ Post G rel W (.ok (f x) W.h) Q E := by
  cases o with
  | none => exact False.elim p
  | some x => exact ⟨x, rfl, p⟩
theorem cmp_post {W : Wd} {t u : T} {x y : V} {op : Cm} {Q : VK} (ok : W.Ok G) (r1 : RT G W t x) (r2 : RT G W u y) (p : PostE G W (ofO ((cmO op (look W.h t) (look W.h u)).map T.bl) W.h) Q E) : rCmp G op x y W.H Q := by
  obtain ⟨k, e, p⟩ := ofOmap p
  exact ⟨W, t, u, k, rfl, ok, r1, r2, e, Post.here (rel := RT G) (a := .bl k) ok p rfl⟩
theorem te_cmp {op : Cm} {o : CmpOp} (hX : Cn G X) (ha : PE X a (tE G Γ E A)) (hb : PE X b (tE G Γ E B)) (ho : o = cmS op := by rfl) (hm : behindInMarks o b = false := by rfl) : PE X (.Compare a [o] [b] pos) (tE G Γ E (.cmp op A B)) := by
  subst ho
  refine pe_imp (pe_cmpR (cmpR hX.K hX.un op) ha hb hm) fun σt H Q ⟨W, σ, e, ok, rs, p⟩ => ?_
  subst e
  unfold evE at p
  exact goE ok rs p fun W1 x v ex1 ok1 rs1 r1 p1 => goE ok1 rs1 p1 fun W2 y w ex2 ok2 rs2 r2 p2 => cmp_post ok2 (RT.ext ex2 _ _ r1) r2 p2
theorem tb_cmp {op : Cm} {o : CmpOp} (hX : Cn G X) (ha : PE X a (tE G Γ E A)) (hb : PE X b (tE G Γ E B)) (ho : o = cmS op := by rfl) (hm : behindInMarks o b = false := by rfl) : PT X (.Compare a [o] [b] pos) (tB G Γ E (.cmp op A B)) := by
  subst ho
  refine pt_imp (pt_cmpR (cmpR hX.K hX.un op) ha hb hm) fun σt H Q ⟨W, σ, e, ok, rs, p⟩ => ?_
  subst e
  unfold evB at p
  refine goE ok rs p fun W1 x v ex1 ok1 rs1 r1 p1 => goE ok1 rs1 p1 fun W2 y w ex2 ok2 rs2 r2 p2 => ?_
  obtain ⟨k, e, p3⟩ := p2.of_ofO
  exact ⟨W2, x, y, k, rfl, ok2, RT.ext ex2 _ _ r1, r2, e, k, rfl, Post.here (rel := fun _ (a b : Bool) => a = b) ok2 p3 rfl⟩
theorem te_cmp2 {op op' : Cm} {o o' : CmpOp} (hX : Cn G X) (ha : PE X a (tE G Γ E A)) (hb : PE X b (tE G Γ E B)) (hc : PE X c (tE G Γ E C)) (ho : o = cmS op := by rfl) (ho' : o' = cmS op' := by rfl) (hm : lastMarks [o, o'] [b, c] = false := by with_unfolding_all rfl) :
    PE X (.Compare a [o, o'] [b, c] pos) (tE G Γ E (.cmp2 op op' A B C)) := by
  subst ho ho'
  refine pe_imp (pe_chain (cmpR hX.K hX.un op) (cmpR hX.K hX.un op') ha hb hc hm) fun σt H Q ⟨W, σ, e, ok, rs, p⟩ => ?_
  subst e
  unfold evE at p
  refine goE ok rs p fun W1 x v ex1 ok1 rs1 r1 p1 => goE ok1 rs1 p1 fun W2 y w ex2 ok2 rs2 r2 p2 => ?_
  split at p2
  · rename_i e
    refine ⟨W2, x, y, true, rfl, ok2, RT.ext ex2 _ _ r1, r2, e, true, rfl, goE ok2 rs2 p2 fun W3 z u ex3 ok3 rs3 r3 p3 => cmp_post ok3 (RT.ext ex3 _ _ r2) r3 p3⟩
  · rename_i e
    exact ⟨W2, x, y, false, rfl, ok2, RT.ext ex2 _ _ r1, r2, e, false, rfl, Post.here (rel := RT G) (a := .bl false) ok2 p2 rfl⟩
  · exact False.elim p2
theorem tb_cmp2 {op op' : Cm} {o o' : CmpOp} (hX : Cn G X) (ha : PE X a (tE G Γ E A)) (hb : PE X b (tE G Γ E B)) (hc : PE X c (tE G Γ E C)) (ho : o = cmS op := by rfl) (ho' : o' = cmS op' := by rfl) (hm : lastMarks [o, o'] [b, c] = false := by with_unfolding_all rfl) :
    PT X (.Compare a [o, o'] [b, c] pos) (tB G Γ E (.cmp2 op op' A B C)) := by
  subst ho ho'
  refine pt_imp (pt_chain (cmpR hX.K hX.un op) (cmpR hX.K hX.un op') ha hb hc hm) fun σt H Q ⟨W, σ, e, ok, rs, p⟩ => ?_
  subst e
  unfold evB at p
  refine goE ok rs p fun W1 x v ex1 ok1 rs1 r1 p1 => goE ok1 rs1 p1 fun W2 y w ex2 ok2 rs2 r2 p2 => ?_
  split at p2
  · rename_i e
    refine ⟨W2, x, y, true, rfl, ok2, RT.ext ex2 _ _ r1, r2, e, true, rfl, goE ok2 rs2 p2 fun W3 z u ex3 ok3 rs3 r3 p3 => ?_⟩
    obtain ⟨k, e, p4⟩ := p3.of_ofO
    exact ⟨W3, y, z, k, rfl, ok3, RT.ext ex3 _ _ r2, r3, e, k, rfl, Post.here (rel := fun _ (a b : Bool) => a = b) ok3 p4 rfl⟩
  · rename_i e
    exact ⟨W2, x, y, false, rfl, ok2, RT.ext ex2 _ _ r1, r2, e, false, rfl, false, rfl, Post.here (rel := fun _ (a b : Bool) => a = b) ok2 p2 rfl⟩
  · exact False.elim p2
theorem tru_post {W : Wd} {t : T} {x : V} {Q : Bool → Hp → Prop} (hX : Cn G X) (ok : W.Ok G) (r : RT G W t x) (p : PostB G W (ofO (truth (look W.h t)) W.h) Q E) : ∃ k, TruV X.K x W.H k ∧ Q k W.H := by
  obtain ⟨k, e, p⟩ := p.of_ofO
  exact ⟨k, hX.K ▸ truV (look_LT ok r) e, Post.here (rel := fun _ (a b : Bool) => a = b) ok p rfl⟩
/-- and, or, not as values -/
theorem te_one {op} (h : PE X a (tE G Γ E A)) : PE X (.BoolOp op [a] pos) (tE G Γ E A) := pe_one h
theorem te_and (hX : Cn G X) (ha : PE X a (tE G Γ E A)) (hb : PE X (.BoolOp .And (b :: es) pos) (tE G Γ E B)) : PE X (.BoolOp .And (a :: b :: es) pos) (tE G Γ E (.and A B)) := by
  refine pe_imp (pe_andT ha hb) fun σt H Q ⟨W, σ, e, ok, rs, p⟩ => ?_
  subst e
  unfold evE at p
  refine goE ok rs p fun W1 x v ex1 ok1 rs1 r1 p1 => ?_
  split at p1
  · rename_i e
    exact ⟨true, hX.K ▸ truV (look_LT ok1 r1) e, ⟨W1, σ, rfl, ok1, rs1, p1⟩⟩
  · rename_i e
    exact ⟨false, hX.K ▸ truV (look_LT ok1 r1) e, Post.here (rel := RT G) ok1 p1 r1⟩
  · exact False.elim p1
theorem te_or (hX : Cn G X) (ha : PE X a (tE G Γ E A)) (hb : PE X (.BoolOp .Or (b :: es) pos) (tE G Γ E B)) : PE X (.BoolOp .Or (a :: b :: es) pos) (tE G Γ E (.or A B)) := by
  refine pe_imp (pe_orT ha hb) fun σt H Q ⟨W, σ, e, ok, rs, p⟩ => ?_
  subst e
  unfold evE at p
  refine goE ok rs p fun W1 x v ex1 ok1 rs1 r1 p1 => ?_
  split at p1
  · rename_i e
    exact ⟨false, hX.K ▸ truV (look_LT ok1 r1) e, ⟨W1, σ, rfl, ok1, rs1, p1⟩⟩
  · rename_i e
    exact ⟨true, hX.K ▸ truV (look_LT ok1 r1) e, Post.here (rel := RT G) ok1 p1 r1⟩
  · exact False.elim p1
theorem te_not (hX : Cn G X) (ha : PE X a (tE G Γ E A)) : PE X (.UnaryOp .Not a pos) (tE G Γ E (.not A)) := by
  refine pe_imp (pe_notT ha) fun σt H Q ⟨W, σ, e, ok, rs, p⟩ => ?_
  subst e
  unfold evE at p
  refine goE ok rs p fun W1 x v ex1 ok1 rs1 r1 p1 => ?_
  obtain ⟨k, e, p2⟩ := ofOmap p1
  exact ⟨k, hX.K ▸ truV (look_LT ok1 r1) e, Post.here (rel := RT G) (a := .bl _) ok1 p2 rfl⟩
/-- and, or, not as tests -/
theorem tw_and1 (h : PT X a (tB G Γ E A)) : PW X (.BoolOp .And [a] pos) (tB G Γ E A) := pw_and1 h
theorem tw_or1 (h : PT X a (tB G Γ E A)) : PW X (.BoolOp .Or [a] pos) (tB G Γ E A) := pw_or1 h
theorem tw_and (ha : PT X a (tB G Γ E A)) (hb : PW X (.BoolOp .And (b :: es) pos) (tB G Γ E B)) : PW X (.BoolOp .And (a :: b :: es) pos) (tB G Γ E (.and A B)) := by
  refine pw_imp (pw_and ha hb) fun σt H Q ⟨W, σ, e, ok, rs, p⟩ => ?_
  subst e
  unfold evB at p
  refine goB ok rs p fun W1 k ex1 ok1 rs1 p1 => ?_
  cases k with
  | true => exact ⟨W1, σ, rfl, ok1, rs1, p1⟩
  | false => exact Post.here (rel := fun _ (a b : Bool) => a = b) (a := false) ok1 p1 rfl
theorem tw_or (ha : PT X a (tB G Γ E A)) (hb : PW X (.BoolOp .Or (b :: es) pos) (tB G Γ E B)) : PW X (.BoolOp .Or (a :: b :: es) pos) (tB G Γ E (.or A B)) := by
  refine pw_imp (pw_or ha hb) fun σt H Q ⟨W, σ, e, ok, rs, p⟩ => ?_
  subst e
  unfold evB at p
  refine goB ok rs p fun W1 k ex1 ok1 rs1 p1 => ?_
  cases k with
  | false => exact ⟨W1, σ, rfl, ok1, rs1, p1⟩
  | true => exact Post.here (rel := fun _ (a b : Bool) => a = b) (a := true) ok1 p1 rfl
theorem tb_not (ha : PT X a (tB G Γ E A)) : PT X (.UnaryOp .Not a pos) (tB G Γ E (.not A)) := by
  refine pt_imp (pt_not ha) fun σt H Q ⟨W, σ, e, ok, rs, p⟩ => ?_
  subst e
  unfold evB at p
  exact goB ok rs p fun W1 k ex1 ok1 rs1 p1 => Post.here (rel := fun _ (a b : Bool) => a = b) ok1 p1 rfl
theorem te_ite (hc : PT X c (tB G Γ E C)) (ha : PE X a (tE G Γ E A)) (hb : PE X b (tE G Γ E B)) : PE X (.IfExp c a b pos) (tE G Γ E (.ite C A B)) := by
  refine pe_imp (pe_ifExp hc ha hb) fun σt H Q ⟨W, σ, e, ok, rs, p⟩ => ?_
  subst e
  unfold evE at p
  refine goB ok rs p fun W1 k ex1 ok1 rs1 p1 => ?_
  cases k with
  | true => exact ⟨W1, σ, rfl, ok1, rs1, p1⟩
  | false => exact ⟨W1, σ, rfl, ok1, rs1, p1⟩
/-- a value as a test -/
theorem tb_val (hX : Cn G X) (ha : PE X a (tE G Γ E A)) (hv : ∀ σ h, evB Γ A σ h = (evE Γ A σ h).bind fun x h => ofO (truth (look h x)) h) (he : ∀ whole, isTrue a X.env whole = (do let v ← whole; standAt a.pos; holding [v] (truthy v)) := by intro _; rfl) : PT X a (tB G Γ E A) := by
  refine pt_imp (pt_truth ha he) fun σt H Q ⟨W, σ, e, ok, rs, p⟩ => ?_
  subst e
  rw [hv] at p
  exact goE ok rs p fun W1 x v ex1 ok1 rs1 r1 p1 => tru_post hX ok1 r1 p1
theorem R_bind_assoc {α β γ : Type} (r : R α) (f : α → Hm → R β) (g : β → Hm → R γ) : (r.bind f).bind g = r.bind fun a h => (f a h).bind g := by cases r <;> rfl
theorem bv_v (i : Nat) (σ : Sl) (h : Hm) : evB Γ (.v i) σ h = (evE Γ (.v i) σ h).bind fun x h => ofO (truth (look h x)) h := by
  unfold evB evE
  split <;> simp_all
theorem bv_call (f : Nat) (es : List Ex) (σ : Sl) (h : Hm) : evB Γ (.call f es) σ h = (evE Γ (.call f es) σ h).bind fun x h => ofO (truth (look h x)) h := by
  have e : evE Γ (.call f es) σ h = (evEs Γ es σ h).bind fun ts h => Γ.cf f ts h := by rw [evE]
  rw [e]
  unfold evB
  rw [R_bind_assoc]
theorem bv_ix (A B : Ex) (σ : Sl) (h : Hm) : evB Γ (.ix A B) σ h = (evE Γ (.ix A B) σ h).bind fun x h => ofO (truth (look h x)) h := by
  have e : evE Γ (.ix A B) σ h = (evE Γ A σ h).bind fun x h => (evE Γ B σ h).bind fun y h => ofO (ixO (look h x) y) h := by rw [evE]
  rw [e]
  unfold evB
  simp only [R_bind_assoc]
/-- places, slices -/
theorem te_ix (hX : Cn G X) (ha : PE X a (tE G Γ E A)) (hb : PE X b (tE G Γ E B)) (hs : PlainIx b := by intro _ _; rfl) : PE X (.Subscript a b pos) (tE G Γ E (.ix A B)) := by
  refine pe_imp (pe_ix (ixR hX.K) ha hb hs) fun σt H Q ⟨W, σ, e, ok, rs, p⟩ => ?_
  subst e
  unfold evE at p
  refine goE ok rs p fun W1 x v ex1 ok1 rs1 r1 p1 => goE ok1 rs1 p1 fun W2 y w ex2 ok2 rs2 r2 p2 => ?_
  obtain ⟨r, e, p3⟩ := p2.of_ofO
  exact ⟨W2, x, y, r, rfl, ok2, RT.ext ex2 _ _ r1, r2, e, fun v q => Post.here ok2 p3 q⟩
/-- a part of a slice: what its reading asks -/
def PtO (G : Gx) (Γ : Tw.Env) (E : XK) (L : List Ex) (tl : TO) : Prop := ∀ (σt : L2.St) (W : Wd) (σ : Sl) (f : Option Int → Hm → R T) (Q : VK) (Q2 : Option Int → Hp → Prop), W.Ok G → Rs G W σ σt →
  PostE G W ((evEs Γ L σ W.h).bind fun x h => match optI x with | some o => f o h | none => .bad) Q E → (∀ W1 o, Ext W W1 → W1.Ok G → Rs G W1 σ σt → PostE G W1 (f o W1.h) Q E → Q2 o W1.H) → tl σt W.H Q2
theorem pt_none : PtO G Γ E [] tNoPart := by
  intro σt W σ f Q Q2 ok rs p k
  have e : evEs Γ [] σ W.h = .ok [] W.h := by rw [evEs]
  rw [e] at p
  exact k W none (.refl W) ok rs p
theorem pt_some : PtO G Γ E [A] (tPart (tE G Γ E A)) := by
  intro σt W σ f Q Q2 ok rs p k
  have e : evEs Γ [A] σ W.h = (evE Γ A σ W.h).bind fun t h => .ok [t] h := by rw [evEs]; simp only [evEs]; rfl
  rw [e, R_bind_assoc] at p
  refine goE ok rs p fun W1 x v ex1 ok1 rs1 r1 p1 => ?_
  cases x <;> try exact False.elim p1
  cases r1
  exact ⟨_, rfl, k W1 _ ex1 ok1 rs1 p1⟩
theorem te_sl {m : Bool} {lo hi : Option Expr} {L U : List Ex} {tl th : TO} (hX : Cn G X) (ha : PE X a (tE G Γ E A)) (hl : PO X lo tl) (kl : PtO G Γ E L tl) (hu : PO X hi th) (ku : PtO G Γ E U th) :
    PE X (.Subscript a (.Slice lo hi none p2) pos) (tE G Γ E (.sl m A L U)) := by
  refine pe_imp (pe_slice (slR (E := E) hX.K m) ha hl hu) fun σt H Q ⟨W, σ, e, ok, rs, p⟩ => ?_
  subst e
  unfold evE at p
  refine goE ok rs p fun W1 x v ex1 ok1 rs1 r1 p1 => ?_
  refine kl _ W1 σ (fun l h => (evEs Γ U σ h).bind fun u h => match optI u with | some u => (ofO (cutO l u (look h x)) h).bind fun t h => mk m t h | none => .bad) Q _ ok1 rs1 p1 fun W2 l ex2 ok2 rs2 q2 => ?_
  exact ku _ W2 σ (fun u h => (ofO (cutO l u (look h x)) h).bind fun t h => mk m t h) Q _ ok2 rs2 q2 fun W3 u ex3 ok3 rs3 q3 => ⟨W3, x, rfl, ok3, RT.ext (ex2.trans ex3) _ _ r1, q3⟩
/-- a[:], a[lo:], a[:hi], a[lo:hi] -/
theorem te_sl00 {m : Bool} (hX : Cn G X) (ha : PE X a (tE G Γ E A)) : PE X (.Subscript a (.Slice none none none p2) pos) (tE G Γ E (.sl m A [] [])) := te_sl hX ha po_none pt_none po_none pt_none
theorem te_sl10 {m : Bool} (hX : Cn G X) (ha : PE X a (tE G Γ E A)) (hb : PE X b (tE G Γ E B)) : PE X (.Subscript a (.Slice (some b) none none p2) pos) (tE G Γ E (.sl m A [B] [])) := te_sl hX ha (po_some hb) pt_some po_none pt_none
theorem te_sl01 {m : Bool} (hX : Cn G X) (ha : PE X a (tE G Γ E A)) (hb : PE X b (tE G Γ E B)) : PE X (.Subscript a (.Slice none (some b) none p2) pos) (tE G Γ E (.sl m A [] [B])) := te_sl hX ha po_none pt_none (po_some hb) pt_some
theorem te_sl11 {m : Bool} (hX : Cn G X) (ha : PE X a (tE G Γ E A)) (hb : PE X b (tE G Γ E B)) (hc : PE X c (tE G Γ E C)) : PE X (.Subscript a (.Slice (some b) (some c) none p2) pos) (tE G Γ E (.sl m A [B] [C])) := te_sl hX ha (po_some hb) pt_some (po_some hc) pt_some
theorem te_rev {m : Bool} {k p1 p3 p4} (hX : Cn G X) (ha : PE X a (tE G Γ E A)) : PE X (.Subscript a (.Slice none none (some (.UnaryOp .USub (.Constant (.int 1) k p1) p3)) p4) pos) (tE G Γ E (.rev m A)) := by
  refine pe_imp (pe_rev (G := G) (m := m) (E := E) hX.K ha) fun σt H Q ⟨W, σ, e, ok, rs, p⟩ => ?_
  subst e
  unfold evE at p
  exact goE ok rs p fun W1 x v ex1 ok1 rs1 r1 p1 => ⟨W1, x, rfl, ok1, r1, p1⟩
/-- built-ins, methods, isinstance -/
theorem te_bi {m : Bool} {f : Bi} {id : String} {x : PySem.Str} (hf : biV f = .builtin id) (hgd : f = .repr → X.A.guards = some []) (hX : Cn G X) (hg : Gl X x) (hm : X.mg x = none) (hv : bootBuiltins x = some (.builtin id)) (ha : PA X (a :: es) (tA G Γ E As))
    (hn : x ≠ "__name__" := by decide) (hdb : (x == ("__debug__" : PySem.Str)) = false := by decide) (he : starEach (a :: es) X.env = (false, eval a X.env) :: starEach es X.env := by rfl) (hpl : (backTo pos (starEach es X.env)).any (·.1) = false := by rfl) :
    PE X (.Call (.Name x p) (a :: es) [] pos) (tE G Γ E (.bi m f As)) := by
  refine pe_imp (pe_callB (hf ▸ biR (E := E) hX.K hX.calm hX.un m f hgd) hg hm hv ha hn hdb he hpl) fun σt H Q ⟨W, σ, e, ok, rs, p⟩ => ?_
  subst e
  unfold evE at p
  exact goA ok rs p fun W1 x v ex1 ok1 rs1 r1 p1 => ⟨W1, x, rfl, ok1, r1, p1⟩
theorem te_bt {m : Bool} {f : Bi} {T : String} {x : PySem.Str} (hf : biV f = .type T) (hX : Cn G X) (hg : Gl X x) (hm : X.mg x = none) (hv : bootBuiltins x = some (.type T)) (ha : PA X (a :: es) (tA G Γ E As))
    (hn : x ≠ "__name__" := by decide) (hdb : (x == ("__debug__" : PySem.Str)) = false := by decide) (he : starEach (a :: es) X.env = (false, eval a X.env) :: starEach es X.env := by rfl) (hpl : (backTo pos (starEach es X.env)).any (·.1) = false := by rfl) :
    PE X (.Call (.Name x p) (a :: es) [] pos) (tE G Γ E (.bi m f As)) := by
  have nr : f ≠ .repr := fun z => by subst z; cases hf
  refine pe_imp (pe_callTy (hf ▸ biR (E := E) hX.K hX.calm hX.un m f (fun z => absurd z nr)) hg hm hv ha hn hdb he hpl) fun σt H Q ⟨W, σ, e, ok, rs, p⟩ => ?_
  subst e
  unfold evE at p
  exact goA ok rs p fun W1 x v ex1 ok1 rs1 r1 p1 => ⟨W1, x, rfl, ok1, r1, p1⟩
theorem te_me {f : Me} {name : PySem.Str} {apos cpos : Pos} {e : Expr} (hX : Cn G X) (pa : PlainAttrs (meT f)) (slot : Slot (meT f) name (meI f)) (hty : typeOf (.builtin (meI f)) = pure (.type "method_descriptor")) (ho : PE X a (tE G Γ E A)) (ha : PA X (e :: es) (tA G Γ E As))
    (hbase : attributeBase a name X.env (eval a X.env) = eval a X.env := by rfl)
    (hfew : ((backTo cpos (starEach (e :: es) X.env)).all (fun x => !x.1) && (backToKw cpos (keywordEach [] X.env)).all (fun x => x.1.isSome)
      && decide ((e :: es).length + ([] : List Keyword).length + (if ([] : List Keyword).isEmpty then 0 else 1) < 30)) = true := by rfl)
    (hline : (apos.endLine == cpos.line) = true := by rfl) (hs : starEach (e :: es) X.env = (false, eval e X.env) :: starEach es X.env := by rfl) (hplain : (backTo cpos (starEach es X.env)).any (·.1) = false := by rfl) :
    PE X (.Call (.Attribute a name apos) (e :: es) [] cpos) (tE G Γ E (.me f A As)) := by
  refine pe_imp (pe_bm pa slot hty (meRR (E := E) hX.K f) ho ha hbase hfew hline hs hplain) fun σt H Q ⟨W, σ, e, ok, rs, p⟩ => ?_
  subst e
  unfold evE at p
  refine goE ok rs p fun W1 x v ex1 ok1 rs1 r1 p1 => ?_
  split at p1
  · rename_i e
    exact ⟨hX.K ▸ meTy (look_LT ok1 r1) e, goA ok1 rs1 p1 fun W2 y w ex2 ok2 rs2 r2 p2 => ⟨W2, x, y, rfl, ok2, RT.ext ex2 _ _ r1, r2, p2⟩⟩
  · exact False.elim p1
theorem te_app {apos cpos : Pos} {e : Expr} (hX : Cn G X) (ho : PE X a (tE G Γ E A)) (ha : PA X [e] (tA G Γ E As))
    (hbase : attributeBase a "append" X.env (eval a X.env) = eval a X.env := by rfl)
    (hfew : ((backTo cpos (starEach [e] X.env)).all (fun x => !x.1) && (backToKw cpos (keywordEach [] X.env)).all (fun x => x.1.isSome)
      && decide ([e].length + ([] : List Keyword).length + (if ([] : List Keyword).isEmpty then 0 else 1) < 30)) = true := by rfl)
    (hline : (apos.endLine == cpos.line) = true := by rfl) (hs : starEach [e] X.env = (false, eval e X.env) :: starEach [] X.env := by rfl) (hplain : (backTo cpos (starEach [] X.env)).any (·.1) = false := by rfl) :
    PE X (.Call (.Attribute a "append" apos) [e] [] cpos) (tE G Γ E (.me .append A As)) :=
  te_me (f := .append) hX PySem.F.plainAttrs_list PySem.F.slot_list_append PySem.F.type_list_append ho ha hbase hfew hline hs hplain
theorem te_join {apos cpos : Pos} {e : Expr} (hX : Cn G X) (ho : PE X a (tE G Γ E A)) (ha : PA X [e] (tA G Γ E As))
    (hbase : attributeBase a "join" X.env (eval a X.env) = eval a X.env := by rfl)
    (hfew : ((backTo cpos (starEach [e] X.env)).all (fun x => !x.1) && (backToKw cpos (keywordEach [] X.env)).all (fun x => x.1.isSome)
      && decide ([e].length + ([] : List Keyword).length + (if ([] : List Keyword).isEmpty then 0 else 1) < 30)) = true := by rfl)
    (hline : (apos.endLine == cpos.line) = true := by rfl) (hs : starEach [e] X.env = (false, eval e X.env) :: starEach [] X.env := by rfl) (hplain : (backTo cpos (starEach [] X.env)).any (·.1) = false := by rfl) :
    PE X (.Call (.Attribute a "join" apos) [e] [] cpos) (tE G Γ E (.me .join A As)) :=
  te_me (f := .join) hX PySem.F.plainAttrs_str PySem.F.slot_str_join PySem.F.type_str_join ho ha hbase hfew hline hs hplain
theorem te_isi {y : Ty} {x : PySem.Str} {p3 : Pos} (hX : Cn G X) (hg : Gl X "isinstance") (hm : X.mg "isinstance" = none) (hg2 : Gl X x) (hm2 : X.mg x = none) (hv : bootBuiltins x = some (.type (tyS y))) (ha : PE X a (tE G Γ E A)) (hvi : bootBuiltins "isinstance" = some (.builtin "isinstance") := by rfl)
    (hn : x ≠ "__name__" := by decide) (hdb : (x == ("__debug__" : PySem.Str)) = false := by decide)
    (he : starEach [a, .Name x p2] X.env = (false, eval a X.env) :: starEach [.Name x p2] X.env := by rfl) (he2 : starEach [.Name x p2] X.env = (false, eval (.Name x p2) X.env) :: starEach [] X.env := by rfl) (hpl : (backTo pos (starEach [.Name x p2] X.env)).any (·.1) = false := by rfl) :
    PE X (.Call (.Name "isinstance" p) [a, .Name x p2] [] pos) (tE G Γ E (.isi A y)) := by
  refine pe_imp (pe_callB (isiR hX.K y) hg hm hvi (pa_cons ha (pa_cons (pe_bltn (v := .ty (tyS y)) hg2 hm2 hv rfl hn hdb) pa_nil he2) he) (by decide) (by decide) he hpl) fun σt H Q ⟨W, σ, e, ok, rs, p⟩ => ?_
  subst e
  unfold evE at p
  refine goE ok rs p fun W1 x v ex1 ok1 rs1 r1 p1 => ?_
  obtain ⟨k, e, p2⟩ := ofOmap p1
  exact ⟨W1, x, v, k, rfl, rfl, ok1, r1, e, Post.here (rel := RT G) (a := .bl k) ok1 p2 rfl⟩
theorem bv_isi (A : Ex) (y : Ty) (σ : Sl) (h : Hm) : evB Γ (.isi A y) σ h = (evE Γ (.isi A y) σ h).bind fun x h => ofO (truth (look h x)) h := by
  have e : evE Γ (.isi A y) σ h = (evE Γ A σ h).bind fun x h => ofO ((isiO (look h x) y).map T.bl) h := by rw [evE]
  rw [e]
  unfold evB
  rw [R_bind_assoc]
  congr 1
  funext x h
  cases isiO (look h x) y <;> rfl
/-- frozen -/
theorem frz_post {W1 : Wd} {x : T} {v : V} {Q : VK} (ok1 : W1.Ok G) (r1 : RT G W1 x v) (p1 : PostE G W1 (frzR x W1.h) Q E) : Q v W1.H := by
  unfold frzR at p1
  split at p1
  · rename_i i
    obtain ⟨ad, hb, rfl⟩ := r1
    have fin : ∀ {mo : MO} {t : T}, W1.h[i]? = some (some mo) → PostE G W1 (.ok t (W1.h.set i none)) Q E → RT G ⟨W1.H, W1.β, W1.h.set i none⟩ t (.ref ad) → Q (.ref ad) W1.H := fun {mo t} e p1 r => p1 ⟨W1.H, W1.β, W1.h.set i none⟩ _ rfl (.frz i) (ok1.frz i) r
    split at p1
    · rename_i l e
      obtain ⟨vs, h1, r⟩ := ok1.cont i _ ad e hb
      exact fin e p1 ⟨ad, vs, rfl, .inl ⟨.of h1, notM_frz ok1 e hb⟩, RTs.ext (.frz i) _ _ r⟩
    · rename_i l e
      obtain ⟨u, ws, h1, k, r⟩ := ok1.cont i _ ad e hb
      exact fin e p1 ⟨ad, u, ws, rfl, h1, notM_frz ok1 e hb, k, RTs.ext (.frz i) _ _ r⟩
    · rename_i l e
      obtain ⟨hc, dx, fs, h1, k, r⟩ := ok1.cont i _ ad e hb
      exact fin e p1 ⟨ad, fs, rfl, .inl ⟨hc, dx, h1, notM_frz ok1 e hb⟩, k, RTs.ext (.frz i) _ _ r⟩
    · exact False.elim p1
  · exact Post.here ok1 p1 r1
theorem te_frz (ha : PE X a (tE G Γ E A)) : PE X a (tE G Γ E (.frz A)) := by
  refine pe_imp ha fun σt H Q ⟨W, σ, e, ok, rs, p⟩ => ?_
  subst e
  unfold evE at p
  exact goE ok rs p fun W1 x v ex1 ok1 rs1 r1 p1 => frz_post ok1 r1 p1
theorem R_ok {α β : Type} (a : α) (h : Hm) (f : α → Hm → R β) : (R.ok a h).bind f = f a h := rfl
end
end Tw
end
/-! part Tw2g -/
section
set_option Elab.async false
set_option linter.all false
set_option maxRecDepth 100000
/-! Tw2g: zip and enumerate over lists, tuples and texts: one structure of sources. -/
namespace Tw
open PySem PySem.Spec PyProof.Rows L2

theorem FpOk.notBase {X : Cx} {pins : List (Addr × Obj)} {σ : L2.St} {H : Hp} {s : Shared} {b : Addr} (I : Inv X pins σ H s) (f : FpOk X pins H b) : X.base.get? b = none := by
  cases q : X.base.get? b with
  | none => rfl
  | some o =>
    rcases f.2.2.2.1 with z | z
    · exact absurd z (I.ok.noex b o q)
    · exact absurd (Nat.lt_of_lt_of_le (Heap.lt_size (I.ok.bs b o q).1) z) (Nat.lt_irrefl _)
/-- what is walked beside another: u the object's value, xs its items while Gd stands; o the iterator as it is made, It0 what is true of it behind so many items -/
structure SrcU (P : Program) (w : World) (K : PySem.W.Frag) (xs : List V) (Gd : Hp → Prop) (u : Value) (It0 : Addr → Nat → Heap → Prop) (o : Obj) : Prop where
  start : ∀ it h, h.get? it = some o → It0 it 0 h
  obj : ∀ it i h, It0 it i h → ∃ ob, h.get? it = some ob ∧ ∀ v, ob.data ≠ .cell v
  keep : ∀ it i h h', It0 it i h → (∀ ob, h.get? it = some ob → h'.get? it = some ob) → It0 it i h'
  now : ∀ (X : Cx), X.prog = P → X.w = w → X.K = K → ∀ (pins : List (Addr × Obj)) (σ : L2.St) (H : Hp) (s : Shared), Inv X pins σ H s → Gd H → ∃ (fx : List Addr) (Hh : Heap → Prop) (PV : Nat → Value → Prop),
    Begins u o Hh ∧ Hh s.heap ∧ (∀ b ∈ fx, H b ≠ none ∨ ∃ ob, X.base.get? b = some ob) ∧ (∀ (A : Around) (it : Addr), A.handled = none → it ∉ fx → Draws P w A it (it :: fx) xs.length PV (fun i h => It0 it i h ∧ Hh h)) ∧
    (∀ h h', Hh h → (∀ b ∈ fx, ∀ ob, h.get? b = some ob → h'.get? b = some ob) → Hh h') ∧ ∀ i x, PV i x → ∃ y, xs[i]? = some y ∧ RelV y x
section
variable {P : Program} {w : World} {K : PySem.W.Frag} {xs ys : List V}
theorem src_list {a : Addr} : SrcU P w K xs (fun H => SqL K H a xs) (.ref a) (fun it i h => h.IsListIter it a i) { cls := .type "list_iterator", data := .fields #[.ref a, .int 0 0] } where
  start := fun it h e => ⟨_, e, rfl, rfl⟩
  obj := fun it i h ⟨o, e, c, d⟩ => ⟨o, e, fun v z => by rw [d] at z; cases z⟩
  keep := fun it i h h' st k => st.at k
  now := by
    intro X hP hw hK pins σ H s I g
    subst hP hw hK
    obtain ⟨its, r, p, hz⟩ := I.list g
    have hl := r.length
    refine ⟨[a], fun h => h.IsList a its.toArray, fun i v => its.toArray[i]? = some v, begins_list a its.toArray, p.isList, fun b hb => ?_, fun A it hh hne => ?_, fun h h' q k => q.at fun ob e => k a (by simp) ob e, fun i x e => ?_⟩
    · have e : b = a := by simpa using hb
      subst e
      rcases g with (g | ⟨_, g⟩) | ⟨o, _, _, hk, _⟩
      · exact .inl (by rw [g]; simp)
      · exact .inl (by rw [g]; simp)
      · exact .inr ⟨o, I.mod.kin _ _ hk⟩
    · have e : xs.length = its.toArray.size := by simp [hl]
      rw [e]
      exact Draws.list hh it a (fun z => hne (by simp [z])) its.toArray
    · have e' : its[i]? = some x := by simpa using e
      cases q : xs[i]? with
      | none => rw [r.none_of q] at e'; cases e'
      | some y =>
        obtain ⟨u, h1, h2⟩ := r.get q
        rw [e'] at h1; cases h1
        exact ⟨y, rfl, h2⟩
theorem src_tup {a : Addr} : SrcU P w K xs (fun H => SqT K H a xs) (.ref a) (fun it i h => h.IsTupleIter it a i) { cls := .type "tuple_iterator", data := .fields #[.ref a, .int 0 0] } where
  start := fun it h e => ⟨_, e, rfl, rfl⟩
  obj := fun it i h ⟨o, e, c, d⟩ => ⟨o, e, fun v z => by rw [d] at z; cases z⟩
  keep := fun it i h h' st k => st.at k
  now := by
    intro X hP hw hK pins σ H s I g
    subst hP hw hK
    obtain ⟨its, r, p, hz⟩ := I.tuple g
    have hl := r.length
    refine ⟨[a], fun h => h.IsTuple a its.toArray, fun i v => its.toArray[i]? = some v, begins_tuple a its.toArray, p, fun b hb => ?_, fun A it hh hne => ?_, fun h h' q k => q.at fun ob e => k a (by simp) ob e, fun i x e => ?_⟩
    · have e : b = a := by simpa using hb
      subst e
      rcases g with (g | ⟨_, g⟩) | ⟨o, _, _, hk, _⟩
      · exact .inl (by rw [g]; simp)
      · exact .inl (by rw [g]; simp)
      · exact .inr ⟨o, I.mod.kin _ _ hk⟩
    · have e : xs.length = its.toArray.size := by simp [hl]
      rw [e]
      exact Draws.tuple hh it a (fun z => hne (by simp [z])) its.toArray
    · have e' : its[i]? = some x := by simpa using e
      cases q : xs[i]? with
      | none => rw [r.none_of q] at e'; cases e'
      | some y =>
        obtain ⟨u, h1, h2⟩ := r.get q
        rw [e'] at h1; cases h1
        exact ⟨y, rfl, h2⟩
theorem src_str {x : PySem.Str} {t : Tok} : SrcU P w K (x.cps.toList.map fun c => V.str ⟨#[c]⟩) (fun _ => True) (.str x t) (fun it i h => h.IsStrIter it (strIterType x) x t i) { cls := .type (strIterType x), data := .fields #[.str x t, .int 0 0] } where
  start := fun it h e => ⟨_, e, rfl, rfl⟩
  obj := fun it i h ⟨o, e, c, d⟩ => ⟨o, e, fun v z => by rw [d] at z; cases z⟩
  keep := fun it i h h' st k => by
    obtain ⟨o, e, c, d⟩ := st
    exact ⟨o, k o e, c, d⟩
  now := by
    intro X hP hw hK pins σ H s I g
    subst hP hw hK
    refine ⟨[], fun _ => True, fun i v => ∃ c u, x.cps[i]? = some c ∧ v = .str ⟨#[c]⟩ u, begins_text x t, trivial, fun b hb => absurd hb (by simp), fun A it hh _ => ?_, fun _ _ _ _ => trivial, fun i y ⟨c, u, e, ey⟩ => ?_⟩
    · have D := Draws.text (prog := X.prog) (w := X.w) hh it x t
      have e : (x.cps.toList.map fun c => V.str ⟨#[c]⟩).length = x.cps.size := by simp
      rw [e]
      exact ⟨fun i h st => D.live i h st.1, fun i h h' st k => ⟨D.frame i h h' st.1 k, trivial⟩, fun i s Q E hi st hQ => D.item i s Q E hi st.1 fun y h' tk a b c => hQ y h' tk a ⟨b, trivial⟩ c, fun s Q E st hE => D.done s Q E st.1 hE⟩
    · subst ey
      refine ⟨.str ⟨#[c]⟩, ?_, ⟨_, rfl⟩⟩
      rw [List.getElem?_map]
      have e' : x.cps.toList[i]? = some c := by simpa using e
      rw [e']
      rfl

/-- pairs -/
def JP (Gd : Hp → Prop) (n : Nat) (Y : Nat → V → V → Prop) : L2.It := ⟨fun i H => Gd H ∧ i < n, fun i H v H' => ∃ T x y, v = .ref T ∧ H T = none ∧ H' = upd H T (.tup [x, y]) ∧ Y i x y, fun i H => Gd H ∧ i = n⟩
theorem walk_JP {Gd : Hp → Prop} {n : Nat} {Y : Nat → V → V → Prop} : Walk (JP Gd n Y) n Gd (fun i H v H' => ∃ T x y, v = .ref T ∧ H T = none ∧ H' = upd H T (.tup [x, y]) ∧ Y i x y) :=
  ⟨fun i H hi g => ⟨g, hi⟩, fun H g => ⟨g, rfl⟩, fun i H x H' _ _ y => y⟩
theorem newPair {X : Cx} {pins : List (Addr × Obj)} {σ : L2.St} {H : Hp} {s : Shared} {h' h'' : Heap} {T : Addr} {x y : V} {ux uy : Value} {tk : Nat} {fp : List Addr} (I : Inv X pins σ H s) (hf : ∀ b ∈ fp, FpOk X pins H b) (hT : h''.get? T = some { cls := .type "tuple", data := .seq #[ux, uy] }) (hs : s.heap.objs.size ≤ T)
    (k : ∀ b o, b ∉ fp → s.heap.get? b = some o → h''.get? b = some o) (rx : RelV x ux) (ry : RelV y uy) : Inv X pins σ (upd H T (.tup [x, y])) { s with heap := h'', toks := tk } :=
  I.turnedNew (ch := fp) k hf hs ⟨by show 2 ≤ sizeLine; decide, [ux, uy], .cons rx (.cons ry .nil), ⟨_, hT, rfl, _, rfl⟩⟩
theorem turn_enumS {elts : List Expr} {kk : Nat} {tpos : Pos} {Gd : Hp → Prop} {u : Value} {It0 : Addr → Nat → Heap → Prop} {o : Obj} (S : SrcU P w K xs Gd u It0 o) (e it : Addr) (hne : e ≠ it) :
    Turn P w K (.Tuple elts kk tpos) (JP Gd xs.length fun i x y => x = .int (i : Nat) ∧ xs[i]? = some y) [e, it] e (fun i h => (∃ old, IsEnum h e it ((i : Nat) : Int) old) ∧ It0 it i h) where
  mem := by simp
  obj := fun i h st b hb => by
    obtain ⟨⟨old, he⟩, hi⟩ := st
    have e' : b = e ∨ b = it := by simpa using hb
    rcases e' with rfl | rfl
    · exact ⟨_, he, fun v q => nomatch q⟩
    · exact S.obj _ _ _ hi
  keep := fun i h h' st k => by
    obtain ⟨⟨old, he⟩, hi⟩ := st
    exact ⟨⟨old, k e (by simp) _ he⟩, S.keep _ _ _ _ hi fun ob q => k it (by simp) ob q⟩
  item := by
    intro X hP hw hK hc i pins s σ H E I hf st hg
    obtain ⟨⟨old, he⟩, hi⟩ := st
    obtain ⟨g, hlt⟩ := hg
    obtain ⟨fx, Hh, PV, B, hh, hfx, D, Hk, hV⟩ := S.now X hP hw hK pins σ H s I g
    have out : ∀ b, b ∈ [e, it] → b ∉ fx := fun b hb z => by
      rcases hfx b z with q | ⟨ob, q⟩
      · exact q (hf b hb).1
      · rw [FpOk.notBase I (hf b hb)] at q; cases q
    subst hP hw
    have D' := D X.A.in1 it (show X.A.in1.handled = none from I.ok.hd hc) (out it (by simp))
    have hel : e < s.heap.objs.size := Heap.lt_size he
    have hil : it < s.heap.objs.size := by obtain ⟨_, q, _⟩ := S.obj _ _ _ hi; exact Heap.lt_size q
    refine wpAny_pyNext_enum_itemD D' he ⟨hi, hh⟩ hlt hne (by simp only [List.mem_cons, not_or]; exact ⟨hne, out e (by simp)⟩) fun x h' tk hPx ho hit' hT hsz hk => ?_
    obtain ⟨y, hy, ry⟩ := hV i x hPx
    refine ⟨_, rfl, wpAny_letOwnedTupleGo_enum (s := { s with heap := h', toks := tk + 1 }) ho fun h'' he' sb => ?_⟩
    have hT2 := (sb.2 _ (Nat.ne_of_gt hel)).trans hT
    have I1 := newPair (x := .int (i : Nat)) (y := y) (tk := tk + 1) (h' := h') (h'' := h'') I hf hT2 (Nat.le_refl _) (fun b ob hb q => (sb.2 b (fun z => hb (by simp [z]))).trans (hk b ob (fun z => hb (by simp [z])) (fun z => hb (by simp [z])) q)) ⟨tk, rfl⟩ ry
    refine ⟨.ref s.heap.objs.size, _, I1, rfl, ⟨_, _, y, rfl, I.hok.fresh (Nat.le_refl _), rfl, rfl, hy⟩, ⟨⟨x, ?_⟩, S.keep _ _ _ _ hit'.1 fun ob q => (sb.2 it (Ne.symm hne)).trans q⟩, fun b hb => ?_⟩
    · have e1 : ((i + 1 : Nat) : Int) = (i : Int) + 1 := by omega
      rw [e1]; exact he'
    · have hb' : b < s.heap.objs.size := by
        have e' : b = e ∨ b = it := by simpa using hb
        rcases e' with z | z
        · rw [z]; exact hel
        · rw [z]; exact hil
      rw [upd_ne (Nat.ne_of_lt hb')]
      exact (hf b hb).1
  done := by
    intro X hP hw hK hc i pins s σ H E I hf st hg
    obtain ⟨⟨old, he⟩, hi⟩ := st
    obtain ⟨g, hn⟩ := hg
    subst hn
    obtain ⟨fx, Hh, PV, B, hh, hfx, D, Hk, hV⟩ := S.now X hP hw hK pins σ H s I g
    have out : it ∉ fx := fun z => by
      rcases hfx it z with q | ⟨ob, q⟩
      · exact q (hf it (by simp)).1
      · rw [FpOk.notBase I (hf it (by simp))] at q; cases q
    subst hP hw
    obtain ⟨f0, f1, f2, f3, f4, f5⟩ := hf it (by simp)
    exact wpAny_pyNext_enum_endD (D X.A.in1 it (show X.A.in1.handled = none from I.ok.hd hc) out) he ⟨hi, hh⟩ fun h' eb => ⟨rfl, I.turned (t' := s.toks) (fun b ob hb q => eb b ob hb q) f0 f1 f3 f4 f5⟩
  self := fun A i s Q E st h => let ⟨⟨_, he⟩, _⟩ := st; wpAny_pyIter_enum he h
theorem turn_zipS {elts : List Expr} {kk : Nat} {tpos : Pos} {Gd1 Gd2 : Hp → Prop} {u1 u2 : Value} {It1 It2 : Addr → Nat → Heap → Prop} {o1 o2 : Obj} (S1 : SrcU P w K xs Gd1 u1 It1 o1) (S2 : SrcU P w K ys Gd2 u2 It2 o2) (z TI TO i1 i2 : Addr)
    (n1 : TI ≠ z) (n2 : TO ≠ z) (n3 : TI ≠ TO) (n4 : TI ≠ i1) (n5 : TI ≠ i2) (n6 : z ≠ i1) (n7 : z ≠ i2) (n8 : TO ≠ i1) (n9 : TO ≠ i2) (na : i1 ≠ i2) :
    Turn P w K (.Tuple elts kk tpos) (JP (fun H => Gd1 H ∧ Gd2 H) (min xs.length ys.length) fun i x y => xs[i]? = some x ∧ ys[i]? = some y) [z, TI, TO, i1, i2] z
      (fun i h => IsZip h z TI TO .none ∧ IsTupOf2 h TI (.ref i1) (.ref i2) ∧ (∃ a b, IsTupOf2 h TO a b) ∧ It1 i1 i h ∧ It2 i2 i h) where
  mem := by simp
  obj := fun i h st c hc => by
    obtain ⟨hz, hTI, ⟨a, b, hTO⟩, h1, h2⟩ := st
    have e' : c = z ∨ c = TI ∨ c = TO ∨ c = i1 ∨ c = i2 := by simpa using hc
    rcases e' with rfl | rfl | rfl | rfl | rfl
    · exact ⟨_, hz, fun v q => nomatch q⟩
    · exact ⟨_, hTI, fun v q => nomatch q⟩
    · exact ⟨_, hTO, fun v q => nomatch q⟩
    · exact S1.obj _ _ _ h1
    · exact S2.obj _ _ _ h2
  keep := fun i h h' st k => by
    obtain ⟨hz, hTI, ⟨a, b, hTO⟩, h1, h2⟩ := st
    exact ⟨k z (by simp) _ hz, k TI (by simp) _ hTI, ⟨a, b, k TO (by simp) _ hTO⟩, S1.keep _ _ _ _ h1 fun ob q => k i1 (by simp) ob q, S2.keep _ _ _ _ h2 fun ob q => k i2 (by simp) ob q⟩
  item := by
    intro X hP hw hK hc i pins s σ H E I hf st hg
    obtain ⟨hz, hTI, ⟨a, b, hTO⟩, h1, h2⟩ := st
    obtain ⟨⟨g1, g2⟩, hlt⟩ := hg
    obtain ⟨fx1, Hh1, PV1, B1, hh1, hfx1, D1, k1, V1⟩ := S1.now X hP hw hK pins σ H s I g1
    obtain ⟨fx2, Hh2, PV2, B2, hh2, hfx2, D2, k2, V2⟩ := S2.now X hP hw hK pins σ H s I g2
    have out1 : ∀ c, c ∈ [z, TI, TO, i1, i2] → c ∉ fx1 := fun c hc q => by
      rcases hfx1 c q with r | ⟨ob, r⟩
      · exact r (hf c hc).1
      · rw [FpOk.notBase I (hf c hc)] at r; cases r
    have out2 : ∀ c, c ∈ [z, TI, TO, i1, i2] → c ∉ fx2 := fun c hc q => by
      rcases hfx2 c q with r | ⟨ob, r⟩
      · exact r (hf c hc).1
      · rw [FpOk.notBase I (hf c hc)] at r; cases r
    subst hP hw
    have cal : X.A.in1.handled = none := I.ok.hd hc
    have Z : ZipSep2 z TI TO i1 i2 (i1 :: fx1) (i2 :: fx2) :=
      { TIz := n1, TOz := n2, TITO := n3, TIi1 := n4, mem1 := List.mem_cons_self .., zf1 := by simp only [List.mem_cons, not_or]; exact ⟨n6, out1 z (by simp)⟩, Tf1 := by simp only [List.mem_cons, not_or]; exact ⟨n8, out1 TO (by simp)⟩,
        TIi2 := n5, mem2 := List.mem_cons_self .., zf2 := by simp only [List.mem_cons, not_or]; exact ⟨n7, out2 z (by simp)⟩, Tf2 := by simp only [List.mem_cons, not_or]; exact ⟨n9, out2 TO (by simp)⟩,
        sep1_2 := by simp only [List.mem_cons, not_or]; exact ⟨na, out2 i1 (by simp)⟩, sep2_1 := by simp only [List.mem_cons, not_or]; exact ⟨Ne.symm na, out1 i2 (by simp)⟩ }
    have hzl : z < s.heap.objs.size := Heap.lt_size hz
    refine wpAny_pyNext_zipD2_item Z (D1 X.A.in1 i1 cal (out1 i1 (by simp))) (D2 X.A.in1 i2 cal (out2 i2 (by simp))) hz hTI hTO ⟨h1, hh1⟩ ⟨h2, hh2⟩ (by omega) (by omega) fun x1 x2 h' tk p1 p2 b1 b2 d1 d2 hT hsz hk => ?_
    obtain ⟨y1, e1, r1⟩ := V1 i x1 p1
    obtain ⟨y2, e2, r2⟩ := V2 i x2 p2
    refine ⟨_, rfl, wpAny_letOwnedTupleGo_zip (s := { s with heap := h', toks := tk }) b1 fun h'' z'' sb => ?_⟩
    have hT2 := (sb.2 _ (Nat.ne_of_gt hzl)).trans hT
    have I1 := newPair (tk := tk) (h' := h') (h'' := h'') I hf hT2 (Nat.le_refl _) (fun c ob hb q => (sb.2 c (fun z => hb (by simp [z]))).trans (hk c ob (fun z => hb (by simp [z])) (fun z => hb (by simp [z])) (fun z => hb (by simp [z])) (fun z => hb (by simp [z])) q)) r1 r2
    refine ⟨.ref s.heap.objs.size, _, I1, rfl, ⟨_, y1, y2, rfl, I.hok.fresh (Nat.le_refl _), rfl, e1, e2⟩, ⟨z'', ?_, ⟨x1, x2, ?_⟩, ?_, ?_⟩, fun c hcm => ?_⟩
    · exact (sb.2 _ n1).trans (hk _ _ n1 n3 n4 n5 hTI)
    · exact (sb.2 _ n2).trans b2
    · exact S1.keep _ _ _ _ d1.1 fun ob q => (sb.2 _ (Ne.symm n6)).trans q
    · exact S2.keep _ _ _ _ d2.1 fun ob q => (sb.2 _ (Ne.symm n7)).trans q
    · have hlt : c < s.heap.objs.size := by
        have e' : c = z ∨ c = TI ∨ c = TO ∨ c = i1 ∨ c = i2 := by simpa using hcm
        rcases e' with q | q | q | q | q
        · rw [q]; exact hzl
        · rw [q]; exact Heap.lt_size hTI
        · rw [q]; exact Heap.lt_size hTO
        · rw [q]; obtain ⟨_, e1, _⟩ := S1.obj _ _ _ h1; exact Heap.lt_size e1
        · rw [q]; obtain ⟨_, e2, _⟩ := S2.obj _ _ _ h2; exact Heap.lt_size e2
      rw [upd_ne (Nat.ne_of_lt hlt)]
      exact (hf c hcm).1
  done := by
    intro X hP hw hK hc i pins s σ H E I hf st hg
    obtain ⟨hz, hTI, ⟨a, b, hTO⟩, h1, h2⟩ := st
    obtain ⟨⟨g1, g2⟩, hn⟩ := hg
    obtain ⟨fx1, Hh1, PV1, B1, hh1, hfx1, D1, k1, V1⟩ := S1.now X hP hw hK pins σ H s I g1
    obtain ⟨fx2, Hh2, PV2, B2, hh2, hfx2, D2, k2, V2⟩ := S2.now X hP hw hK pins σ H s I g2
    have out1 : ∀ c, c ∈ [z, TI, TO, i1, i2] → c ∉ fx1 := fun c hc q => by
      rcases hfx1 c q with r | ⟨ob, r⟩
      · exact r (hf c hc).1
      · rw [FpOk.notBase I (hf c hc)] at r; cases r
    have out2 : ∀ c, c ∈ [z, TI, TO, i1, i2] → c ∉ fx2 := fun c hc q => by
      rcases hfx2 c q with r | ⟨ob, r⟩
      · exact r (hf c hc).1
      · rw [FpOk.notBase I (hf c hc)] at r; cases r
    subst hP hw
    have cal : X.A.in1.handled = none := I.ok.hd hc
    have Z : ZipSep2 z TI TO i1 i2 (i1 :: fx1) (i2 :: fx2) :=
      { TIz := n1, TOz := n2, TITO := n3, TIi1 := n4, mem1 := List.mem_cons_self .., zf1 := by simp only [List.mem_cons, not_or]; exact ⟨n6, out1 z (by simp)⟩, Tf1 := by simp only [List.mem_cons, not_or]; exact ⟨n8, out1 TO (by simp)⟩,
        TIi2 := n5, mem2 := List.mem_cons_self .., zf2 := by simp only [List.mem_cons, not_or]; exact ⟨n7, out2 z (by simp)⟩, Tf2 := by simp only [List.mem_cons, not_or]; exact ⟨n9, out2 TO (by simp)⟩,
        sep1_2 := by simp only [List.mem_cons, not_or]; exact ⟨na, out2 i1 (by simp)⟩, sep2_1 := by simp only [List.mem_cons, not_or]; exact ⟨Ne.symm na, out1 i2 (by simp)⟩ }
    refine wpAny_pyNext_zipD2_end Z (D1 X.A.in1 i1 cal (out1 i1 (by simp))) (D2 X.A.in1 i2 cal (out2 i2 (by simp))) hz hTI hTO ⟨h1, hh1⟩ ⟨h2, hh2⟩ (by omega) (by omega) (by omega) fun h' tk hk => ⟨rfl, I.turnedL (t' := tk) (ch := [z, TI, TO, i1, i2]) (fun c o hb q =>
      hk c o (fun q' => hb (by simp [q'])) (fun q' => hb (by simp [q'])) (fun q' => hb (by simp [q'])) (fun q' => hb (by simp [q'])) q) hf⟩
  self := fun A i s Q E st h => wpAny_pyIter_zip st.1 h
end

/-! ### enumerate(v) begins -/
set_option maxHeartbeats 1000000 in
theorem meets_enum1 {v : Value} {o : Obj} {H : Heap → Prop} (B : Begins v o H) :
    Meets (Builtin.«enumerate.__new__» ⟨[.type "enumerate", v], []⟩) (fun _ R s => H s.heap ∧
      R (.ok (.ret (.ref (s.heap.push o).objs.size))) { s with heap := (s.heap.push o).push { cls := .type "enumerate", data := .fields #[.none, .bool false, .ref s.heap.objs.size, rawInt 0, .none, .none] } }) :=
  .of_wp fun prog w A R s h => by
    obtain ⟨hp, g, d, tk, os⟩ := s
    obtain ⟨h1, h⟩ := h
    have hsub := sub_enumerate
    have q1 : ∀ {A' : Around} {E : Value → Shared → Prop} {Q : Value → Shared → Prop}, Q (.ref hp.objs.size) ⟨hp.push o, g, d, tk, os⟩ → wpAny (model prog w) A' (pyIter v) Q E ⟨hp, g, d, tk, os⟩ :=
      fun q => B.iter prog w _ _ ⟨hp, g, d, tk, os⟩ _ h1 q
    wp_walk
    refine wpAny_stack_any fun st => wpAny_pure ?_
    split
    · rename_i c _ _ _ _ _
      cases (c == Value.type "enumerate")
      · wp_walk using q1
        exact ⟨_, rfl, h⟩
      · wp_walk using q1
        exact ⟨_, rfl, h⟩
    · wp_walk using q1
      exact ⟨_, rfl, h⟩
theorem enum1_begins {prog : Program} {w : World} {A : Around} {E : Value → Shared → Prop} {s : Shared} {v : Value} {o : Obj} {H : Heap → Prop} {Q : Value → Shared → Prop} (B : Begins v o H) (h1 : H s.heap)
    (h : ∀ h', IsEnum h' (s.heap.objs.size + 1) s.heap.objs.size 0 .none → h'.get? s.heap.objs.size = some o → (∀ b o, s.heap.get? b = some o → h'.get? b = some o) → Q (.ref (s.heap.objs.size + 1)) { s with heap := h' }) :
    wpAny (model prog w) A (PySem.call (.type "enumerate") [v]) Q E s := by
  refine callType_new F.called_enumerate (by decide) (F.typeCall_enumerate_1 _) (F.newCall_enumerate_1 _) (fun obj => F.args_object_init_2 obj _) F.entry_enumerate_new (meets_enum1 B) ⟨h1, ?_⟩
  have hz : (s.heap.push o).objs.size = s.heap.objs.size + 1 := Heap.size_push ..
  show _ ∧ _
  rw [hz]
  have he := Heap.get?_push_size (s.heap.push o) (o := { cls := .type "enumerate", data := .fields #[.none, .bool false, .ref s.heap.objs.size, rawInt 0, .none, .none] }) rfl
  rw [hz] at he
  exact ⟨⟨_, he, rfl⟩, h _ he (Heap.get?_push_of_some _ (Heap.get?_push_size _ B.free)) fun b ob x => Heap.get?_push_of_some _ (Heap.get?_push_of_some _ x)⟩

/-! ### the loops' and comprehensions' iterables -/
section
variable {X : Cx}
/-- what may be walked: a source for each token -/
def SrcV (P : Program) (w : World) (K : PySem.W.Frag) (v : V) (xs : List V) (Gd : Hp → Prop) : Prop := ∀ u, RelV v u → ∃ It0 o, SrcU P w K xs Gd u It0 o
def iEnumS (X : Cx) (ta : TA) : TI := fun σ H R => ta σ H fun vs H1 => ∃ v xs Gd, vs = [v] ∧ SrcV X.prog X.w X.K v xs Gd ∧ Gd H1 ∧ R (JP Gd xs.length fun i x y => x = .int (i : Nat) ∧ xs[i]? = some y) H1
theorem pi_enumS {e : Expr} {ta : TA} {p pos tpos : Pos} {elts : List Expr} {kk : Nat} (hg : Gl X "enumerate") (hm : X.mg "enumerate" = none) (ha : PA X [e] ta) (hs : starEach [e] X.env = [(false, eval e X.env)] := by rfl) :
    PI X (.Tuple elts kk tpos) (.Call (.Name "enumerate" p) [e] [] pos) (iEnumS X ta) := by
  refine ⟨fun pins s σ H R I h => ?_⟩
  refine Call_ (ld_blt I hg hm boot_enumerate (PyProof.Rows.callWith_type1 (thn (ha.run pos pins s σ H _ I h) fun us s1 ⟨vs, H1, I1, r1, q1⟩ => ?_) hs rfl))
  obtain ⟨v, xs, Gd, rfl, S, g, q⟩ := q1
  obtain ⟨u, rfl, ru⟩ := vals1 r1
  obtain ⟨It0, o, S⟩ := S u ru
  obtain ⟨fx, Hh, PV, B, hh, _⟩ := S.now X rfl rfl rfl pins σ H1 s1 I1 g
  refine enum1_begins B hh fun h' he hit hk => wpAny_pyIter_enum he ?_
  have I2 : Inv X pins σ H1 { s1 with heap := h' } := I1.kept (t' := s1.toks) hk
  refine ⟨s1.heap.objs.size + 1, [s1.heap.objs.size + 1, s1.heap.objs.size], _, _, H1, rfl, I2, turn_enumS S (s1.heap.objs.size + 1) s1.heap.objs.size (Nat.succ_ne_self _), ⟨⟨.none, he⟩, S.start _ _ hit⟩, fun b hb => ?_, q⟩
  have e' : b = s1.heap.objs.size + 1 ∨ b = s1.heap.objs.size := by simpa using hb
  have hle : s1.heap.objs.size ≤ b := by
    rcases e' with z | z
    · rw [z]; exact Nat.le_add_right _ _
    · rw [z]; exact Nat.le_refl _
  exact I1.fpOk hle (I1.hok.fresh hle)
def iZipS (X : Cx) (ta : TA) : TI := fun σ H R => ta σ H fun vs H1 => ∃ v xs Gd v' ys Gd', vs = [v, v'] ∧ SrcV X.prog X.w X.K v xs Gd ∧ Gd H1 ∧ SrcV X.prog X.w X.K v' ys Gd' ∧ Gd' H1 ∧
  R (JP (fun H => Gd H ∧ Gd' H) (min xs.length ys.length) fun i x y => xs[i]? = some x ∧ ys[i]? = some y) H1
theorem pi_zipS {e e2 : Expr} {ta : TA} {p pos tpos : Pos} {elts : List Expr} {kk : Nat} (hg : Gl X "zip") (hm : X.mg "zip" = none) (ha : PA X [e, e2] ta)
    (hs : starEach [e, e2] X.env = (false, eval e X.env) :: starEach [e2] X.env := by rfl) (hpl : (backTo pos (starEach [e2] X.env)).any (·.1) = false := by rfl) :
    PI X (.Tuple elts kk tpos) (.Call (.Name "zip" p) [e, e2] [] pos) (iZipS X ta) := by
  refine ⟨fun pins s σ H R I h => ?_⟩
  refine Call_ (ld_blt I hg hm PyProof.Rows.boot_zip (PyProof.Rows.callWith_type1 (thn (ha.run pos pins s σ H _ I h) fun us s1 ⟨vs, H1, I1, r1, q1⟩ => ?_) hs hpl))
  obtain ⟨v, xs, Gd, v', ys, Gd', rfl, S1, g1, S2, g2, q⟩ := q1
  obtain ⟨u, u', rfl, ru, ru'⟩ := vals2 r1
  obtain ⟨It1, o1, S1⟩ := S1 u ru
  obtain ⟨It2, o2, S2⟩ := S2 u' ru'
  obtain ⟨_, _, _, B1, hh1, _⟩ := S1.now X rfl rfl rfl pins σ H1 s1 I1 g1
  obtain ⟨_, _, _, B2, hh2, _⟩ := S2.now X rfl rfl rfl pins σ H1 s1 I1 g2
  refine zip_begins2 B1 B2 hh1 hh2 fun h' hz hTI hTO e1 e2 hsz hk => wpAny_pyIter_zip hz ?_
  have I2 : Inv X pins σ H1 { s1 with heap := h' } := I1.kept (t' := s1.toks) hk
  have ne : ∀ {a b : Nat}, a ≠ b → s1.heap.objs.size + a ≠ s1.heap.objs.size + b := fun h z => h (Nat.add_left_cancel z)
  have ne0 : ∀ {a : Nat}, a ≠ 0 → s1.heap.objs.size + a ≠ s1.heap.objs.size := fun h z => h (Nat.add_left_cancel (z.trans (Nat.add_zero _).symm))
  refine ⟨s1.heap.objs.size + 4, [s1.heap.objs.size + 4, s1.heap.objs.size + 2, s1.heap.objs.size + 3, s1.heap.objs.size, s1.heap.objs.size + 1], _, _, H1, rfl, I2,
    turn_zipS S1 S2 (s1.heap.objs.size + 4) (s1.heap.objs.size + 2) (s1.heap.objs.size + 3) s1.heap.objs.size (s1.heap.objs.size + 1) (ne (by decide)) (ne (by decide)) (ne (by decide)) (ne0 (by decide)) (ne (by decide)) (ne0 (by decide)) (ne (by decide)) (ne0 (by decide)) (ne (by decide)) (Ne.symm (ne0 (by decide))),
    ⟨hz, hTI, ⟨_, _, hTO⟩, S1.start _ _ e1, S2.start _ _ e2⟩, fun c hcm => ?_, q⟩
  have e' : c = s1.heap.objs.size + 4 ∨ c = s1.heap.objs.size + 2 ∨ c = s1.heap.objs.size + 3 ∨ c = s1.heap.objs.size ∨ c = s1.heap.objs.size + 1 := by simpa using hcm
  have hle : s1.heap.objs.size ≤ c := by
    rcases e' with z | z | z | z | z
    · rw [z]; exact Nat.le_add_right _ _
    · rw [z]; exact Nat.le_add_right _ _
    · rw [z]; exact Nat.le_add_right _ _
    · rw [z]; exact Nat.le_refl _
    · rw [z]; exact Nat.le_add_right _ _
  exact I1.fpOk hle (I1.hok.fresh hle)
end
end Tw
end
/-! part Tw2h -/
section
set_option Elab.async false
set_option linter.all false
set_option maxRecDepth 100000
/-! Tw2h: targets, what is walked, comprehensions. -/
namespace Tw
open PySem PySem.Spec PyProof.Rows L2

/-! ### targets -/
mutual
def Tg.sl : Tg → List Nat
  | .v i => [i]
  | .u l => Tg.sls l
def Tg.sls : List Tg → List Nat
  | [] => []
  | g :: gs => Tg.sl g ++ Tg.sls gs
end
/-- only these slots are another -/
def Upd (s : List Nat) (a b : L2.St) : Prop := b.length = a.length ∧ ∀ (i : Nat), i ∉ s → b[i]? = a[i]?
theorem Upd.refl (a : L2.St) : Upd [] a a := ⟨rfl, fun _ _ => rfl⟩
theorem Upd.trans {s t : List Nat} {a b c : L2.St} (h : Upd s a b) (k : Upd t b c) : Upd (s ++ t) a c :=
  ⟨k.1.trans h.1, fun i hi => by
    simp only [List.mem_append, not_or] at hi
    exact (k.2 i hi.2).trans (h.2 i hi.1)⟩
theorem wipe_in {σ : L2.St} {i : Nat} : ∀ {vs : List Nat}, i ∈ vs → (wipe σ vs)[i]? = if i < σ.length then some none else none
  | v :: vs, h => by
    unfold wipe
    by_cases e : v = i
    · subst e
      by_cases hv : v < σ.length
      · rw [List.getElem?_set_self (by rw [wipe_length]; exact hv), if_pos hv]
      · rw [List.getElem?_eq_none (by rw [List.length_set, wipe_length]; omega), if_neg hv]
    · rw [List.getElem?_set_ne e]
      rcases List.mem_cons.mp h with z | z
      · exact absurd z.symm e
      · exact wipe_in z
theorem wipe_upd {s vs : List Nat} {a b : L2.St} (u : Upd s a b) (h : ∀ i ∈ s, i ∈ vs) : wipe b vs = wipe a vs := by
  apply List.ext_getElem?
  intro i
  by_cases hi : i ∈ vs
  · rw [wipe_in hi, wipe_in hi, u.1]
  · rw [wipe_out hi, wipe_out hi]
    exact u.2 i fun z => hi (h i z)
def tG (G : Gx) (g : Tg) : TG := fun v σt H Q => ∃ W t σ σ' ex, W.H = H ∧ W.Ok G ∧ RT G W t v ∧ Rx G W ex σ σt ∧ g.put t σ = some σ' ∧ ∀ σt', Upd g.sl σt σt' → Rx G W (fun i => ex i ∨ i ∈ g.sl) σ' σt' → Q σt' H
def tGs (G : Gx) (gs : List Tg) : TGs := fun vs σt H Q => ∃ W ts σ σ' ex, W.H = H ∧ W.Ok G ∧ RTs G W ts vs ∧ Rx G W ex σ σt ∧ Tg.puts gs ts σ = some σ' ∧ ∀ σt', Upd (Tg.sls gs) σt σt' → Rx G W (fun i => ex i ∨ i ∈ Tg.sls gs) σ' σt' → Q σt' H
section
variable {G : Gx} {W : Wd} {ex ex' : Nat → Prop} {σ : Sl} {σt : L2.St}
theorem Rx.imp (r : Rx G W ex σ σt) (h : ∀ i, ex' i → ex i) : Rx G W ex' σ σt := ⟨r.1, fun i t hi e => r.2 i t (h i hi) e⟩
theorem Rx.put {i : Nat} {t : T} {v : V} (r : Rx G W ex σ σt) (q : RT G W t v) : Rx G W (fun j => ex j ∨ j ∈ [i]) (σ.set i (some t)) (σt.set i (some v)) := by
  refine ⟨by rw [List.length_set, List.length_set, r.1], fun j u hj e => ?_⟩
  by_cases h : i = j
  · subst h
    have hl : i < σ.length := by
      have := (List.getElem?_eq_some_iff.mp e).1
      rwa [List.length_set] at this
    rw [List.getElem?_set_self hl] at e
    cases e
    exact ⟨v, List.getElem?_set_self (by rw [← r.1]; exact hl), q⟩
  · rw [List.getElem?_set_ne h] at e ⊢
    rcases hj with hj | hj
    · exact r.2 j u hj e
    · exact absurd (List.mem_singleton.mp hj).symm h
theorem upd_set (i : Nat) (v : V) : Upd [i] σt (σt.set i (some v)) := ⟨List.length_set, fun j hj => List.getElem?_set_ne fun z => hj (by simp [z])⟩
theorem puts_len : ∀ {gs : List Tg} {ts : List T} {σ σ' : Sl}, Tg.puts gs ts σ = some σ' → ts.length = gs.length
  | [], [], _, _, _ => rfl
  | [], _ :: _, _, _, h => by simp [Tg.puts] at h
  | _ :: _, [], _, _, h => by simp [Tg.puts] at h
  | g :: gs, t :: ts, σ, σ', h => by
    simp only [Tg.puts] at h
    obtain ⟨σ1, _, h2⟩ := Option.bind_eq_some_iff.mp h
    rw [List.length_cons, List.length_cons, puts_len h2]
end
section
variable {G : Gx} {X : Cx} {pos : Pos}
theorem tg_v {i : Nat} {x : PySem.Str} (hX : Cn G X) (hi : X.N[i]? = some x) (hx : Loc X.env.scope x) (hf : X.fn x = true ∨ X.env.scope.names.lookup x = some .local := by first | exact .inl rfl | exact .inr rfl | assumption) : PG X (.Name x pos) (tG G (.v i)) := by
  refine pg_imp (pg_name hX.nd hi hx hf) fun v σt H Q ⟨W, t, σ, σ', ex, e, ok, r, rs, p, k⟩ => ?_
  simp only [Tg.put] at p
  cases p
  exact k _ (upd_set i v) (rs.put r)
theorem tgs_n : PGs X [] (tGs G []) := by
  refine pgs_imp pgs_nil fun vs σt H Q ⟨W, ts, σ, σ', ex, e, ok, r, rs, p, k⟩ => ?_
  have hl := puts_len p
  have z : ts = [] := List.eq_nil_of_length_eq_zero hl
  subst z
  cases r
  simp only [Tg.puts] at p
  cases p
  exact ⟨rfl, k σt (Upd.refl _) (rs.imp fun i h => h.elim (fun z => z) (fun z => absurd z (by simp [Tg.sls])))⟩
theorem tgs_c {e : Expr} {es : List Expr} {g : Tg} {gs : List Tg} (h1 : PG X e (tG G g)) (h2 : PGs X es (tGs G gs)) (hs : (assignEach (e :: es) X.env).map (·.2) = assign e X.env :: (assignEach es X.env).map (·.2) := by rfl) : PGs X (e :: es) (tGs G (g :: gs)) := by
  refine pgs_imp (pgs_cons h1 h2 hs) fun vs σt H Q ⟨W, ts, σ, σ', ex, e, ok, r, rs, p, k⟩ => ?_
  cases ts with
  | nil => simp [Tg.puts] at p
  | cons t ts =>
    obtain ⟨v, vs, rfl, r1, r2⟩ := r
    simp only [Tg.puts] at p
    obtain ⟨σ1, p1, p2⟩ := Option.bind_eq_some_iff.mp p
    refine ⟨v, vs, rfl, W, t, σ, σ1, ex, e, ok, r1, rs, p1, fun σ2 u2 rs2 => ⟨W, ts, σ1, σ', _, e, ok, r2, rs2, p2, fun σ3 u3 rs3 => k σ3 (u2.trans u3) (rs3.imp fun i h => ?_)⟩⟩
    rcases h with h | h
    · exact .inl (.inl h)
    · rcases List.mem_append.mp h with h | h
      · exact .inl (.inr h)
      · exact .inr h
theorem tg_u {es : List Expr} {k : Nat} {gs : List Tg} (hX : Cn G X) (h : PGs X es (tGs G gs)) (hn : (assignEach es X.env).length = gs.length := by rfl) (hst : (assignEach es X.env).findIdx? (·.1) = none := by rfl) : PG X (.Tuple es k pos) (tG G (.u gs)) := by
  refine pg_imp (pg_tup hX.calm h hn hst) fun v σt H Q ⟨W, t, σ, σ', ex, e, ok, r, rs, p, kk⟩ => ?_
  cases t <;> simp only [Tg.put] at p <;> try contradiction
  obtain ⟨a, vs, rfl, f, r⟩ := r
  have hl := puts_len p
  subst e
  exact ⟨a, vs, rfl, hX.K ▸ f.sq, by rw [← r.length]; exact hl, W, _, σ, σ', ex, rfl, ok, r, rs, p, fun σ2 u2 rs2 => kk σ2 u2 rs2⟩
end

/-! ### what is walked -/
/-- J walks the trees xs, in every later world -/
def ItOk (G : Gx) (W : Wd) (xs : List T) (J : L2.It) : Prop := ∃ (Gd : Hp → Prop) (Y : Nat → Hp → V → Hp → Prop), Walk J xs.length Gd Y ∧ (∀ W', Ext W W' → Gd W'.H) ∧
  ∀ i H x H' W', Y i H x H' → W'.H = H → Ext W W' → W'.Ok G → ∃ t W'', xs[i]? = some t ∧ W''.H = H' ∧ W''.h = W'.h ∧ Ext W' W'' ∧ W''.Ok G ∧ RT G W'' t x
def tI (G : Gx) (Γ : Tw.Env) (E : XK) (it : Tw.It) : TI := fun σt H R => ∃ W σ, W.H = H ∧ W.Ok G ∧ Rs G W σ σt ∧ Post G (ItOk G) W (evI Γ it σ W.h) R E
section
variable {G : Gx} {W : Wd}
theorem itok_same {xs : List T} {vs : List V} {J : L2.It} {Gd : Hp → Prop} {Y : Nat → Hp → V → Hp → Prop} (w : Walk J xs.length Gd Y) (g : ∀ W', Ext W W' → Gd W'.H) (r : RTs G W xs vs) (y : ∀ i H x H', Y i H x H' → H' = H ∧ vs[i]? = some x) : ItOk G W xs J :=
  ⟨Gd, Y, w, g, fun i H x H' W' hy e ex ok => by
    obtain ⟨rfl, h⟩ := y i H x H' hy
    obtain ⟨t, h1, h2⟩ := r.get' h
    exact ⟨t, W', h1, e, rfl, .refl W', ok, RT.ext ex _ _ h2⟩⟩
theorem strItems (s : List Nat) : RTs G W (s.map fun c => T.str [c]) (s.map fun c => V.str ⟨#[c]⟩) := by
  induction s with
  | nil => rfl
  | cons c s ih => exact ⟨_, _, rfl, ⟨rfl, by show 1 ≤ sizeLine; decide⟩, ih⟩
/-- the source of a value that is walked -/
theorem src_of {P : Program} {w : World} {t : T} {x : V} {xs : List T} (r : RT G W t x) (e : itemsO t = some xs) : ∃ vs Gd, SrcV P w G.K x vs Gd ∧ RTs G W xs vs ∧ ∀ W', Ext W W' → Gd W'.H := by
  unfold itemsO at e
  split at e <;> try contradiction
  · cases e
    obtain ⟨rfl, _⟩ := r
    refine ⟨_, fun _ => True, fun u ru => ?_, strItems _, fun _ _ => trivial⟩
    obtain ⟨t, rfl⟩ := ru
    rename_i z _
    have q := src_str (P := P) (w := w) (K := G.K) (x := tx z) (t := t)
    exact ⟨_, _, q⟩
  · cases e
    obtain ⟨a, vs, rfl, f, r⟩ := r
    refine ⟨vs, fun H => SqT G.K H a vs, fun u ru => ?_, r, fun W' ex => (f.ext ex).sq⟩
    cases ru
    exact ⟨_, _, src_tup⟩
  · cases e
    obtain ⟨a, vs, rfl, f, r⟩ := r
    refine ⟨vs, fun H => SqL G.K H a vs, fun u ru => ?_, r, fun W' ex => (f.ext ex).sq⟩
    cases ru
    exact ⟨_, _, src_list⟩
/-- a new pair in a later world -/
theorem pairW {W' : Wd} {Tt : Addr} {x y : V} {t u : T} (ok : W'.Ok G) (hn : W'.H Tt = none) (r1 : RT G W' t x) (r2 : RT G W' u y) :
    Ext W' ⟨upd W'.H Tt (.tup [x, y]), W'.β, W'.h⟩ ∧ Wd.Ok G ⟨upd W'.H Tt (.tup [x, y]), W'.β, W'.h⟩ ∧ RT G ⟨upd W'.H Tt (.tup [x, y]), W'.β, W'.h⟩ (.tup [t, u]) (.ref Tt) := by
  have ex : Ext W' ⟨upd W'.H Tt (.tup [x, y]), W'.β, W'.h⟩ := .new hn
  exact ⟨ex, ok.new hn, Tt, [x, y], rfl, .inl ⟨.of upd_same, fun z => ok.notM hn z⟩, x, [y], rfl, RT.ext ex _ _ r1, y, [], rfl, RT.ext ex _ _ r2, rfl⟩
theorem enumT_get : ∀ {xs : List T} {n i : Nat} {t : T}, xs[i]? = some t → (enumT n xs)[i]? = some (.tup [.int ((n + i : Nat) : Int), t])
  | [], _, _, _, e => by simp at e
  | x :: xs, n, 0, t, e => by
    simp at e
    subst e
    rfl
  | x :: xs, n, i + 1, t, e => by
    have q := enumT_get (n := n + 1) (i := i) (t := t) (xs := xs) (by simpa using e)
    show (enumT (n + 1) xs)[i]? = _
    rw [q, show n + 1 + i = n + (i + 1) by omega]
theorem enumT_len : ∀ (xs : List T) (n : Nat), (enumT n xs).length = xs.length
  | [], _ => rfl
  | x :: xs, n => by show (enumT (n + 1) xs).length + 1 = _; rw [enumT_len xs (n + 1)]; rfl
theorem zipT_get : ∀ {xs ys : List T} {i : Nat} {t u : T}, xs[i]? = some t → ys[i]? = some u → (zipT xs ys)[i]? = some (.tup [t, u])
  | [], _, _, _, _, e, _ => by simp at e
  | _ :: _, [], _, _, _, _, e => by simp at e
  | x :: xs, y :: ys, 0, t, u, e, e' => by
    simp at e e'
    subst e e'
    rfl
  | x :: xs, y :: ys, i + 1, t, u, e, e' => zipT_get (xs := xs) (ys := ys) (i := i) (by simpa using e) (by simpa using e')
theorem zipT_len : ∀ (xs ys : List T), (zipT xs ys).length = min xs.length ys.length
  | [], ys => by simp [zipT]
  | _ :: _, [] => by simp [zipT]
  | x :: xs, y :: ys => by show (zipT xs ys).length + 1 = _; rw [zipT_len xs ys]; simp
theorem steps_get : ∀ {n i : Nat} {lo c : Int}, i < n → (steps lo c n)[i]? = some (.int (lo + (i : Int) * c))
  | 0, _, _, _, h => absurd h (Nat.not_lt_zero _)
  | n + 1, 0, lo, c, _ => by simp [steps]
  | n + 1, i + 1, lo, c, h => by
    show (steps (lo + c) c n)[i]? = _
    rw [steps_get (i := i) (by omega)]
    congr 2
    have : ((i + 1 : Nat) : Int) * c = (i : Int) * c + c := by rw [Int.natCast_add, Int.add_mul]; simp
    omega
theorem steps_len : ∀ (n : Nat) (lo c : Int), (steps lo c n).length = n
  | 0, _, _ => rfl
  | n + 1, lo, c => by show (steps (lo + c) c n).length + 1 = _; rw [steps_len]
theorem itok_steps {J : L2.It} {n : Nat} {lo c : Int} (w : Walk J n (fun _ => True) (YFn fun i => .int (lo + (i : Nat) * c))) : ItOk G W (steps lo c n) J :=
  ⟨fun _ => True, fun i H x H' => i < n ∧ YFn (fun i => .int (lo + (i : Nat) * c)) i H x H', by
      rw [steps_len]
      exact ⟨w.goes, w.stops, fun i H x H' hi g y => ⟨hi, w.yields i H x H' hi g y⟩⟩, fun _ _ => trivial, fun i H x H' W' ⟨hi, e1, e2⟩ e ex ok => by
    subst e1 e2
    exact ⟨_, W', steps_get hi, e, rfl, .refl W', ok, rfl⟩⟩
end
section
variable {G : Gx} {Γ : Tw.Env} {E : XK} {X : Cx} {tg a b c : Expr} {A B C : Ex} {As : List Ex} {pos p tpos : Pos} {elts : List Expr} {kk : Nat}
abbrev YJ (Y : Nat → V → V → Prop) : Nat → Hp → V → Hp → Prop := fun i H v H' => ∃ T x y, v = .ref T ∧ H T = none ∧ H' = upd H T (.tup [x, y]) ∧ Y i x y
theorem ofO_here {α β : Type} {W : Wd} {rel : Wd → α → β → Prop} {o : Option α} {Q : β → Hp → Prop} {b : β} (ok : W.Ok G) (p : Post G rel W (ofO o W.h) Q E) (h : ∀ a, o = some a → rel W a b) : Q b W.H := by
  obtain ⟨a, e, p⟩ := p.of_ofO
  exact Post.here ok p (h a e)
theorem is_str {z : List Nat} {W : Wd} : ItOk G W (z.map fun c => T.str [c]) (Its (tx z)) := by
  refine itok_same (vs := z.map fun c => V.str ⟨#[c]⟩) (Gd := fun _ => True) (Y := fun i H v H' => H' = H ∧ ∃ c, (tx z).cps[i]? = some c ∧ v = .str ⟨#[c]⟩) ?_ (fun _ _ => trivial) (strItems z) fun i H x H' ⟨e, c, h1, h2⟩ => ⟨e, ?_⟩
  · have e : (z.map fun c => T.str [c]).length = (tx z).cps.size := by simp
    rw [e]
    exact walk_str
  · rw [List.getElem?_map]
    have e' : z[i]? = some c := by simpa using h1
    rw [e', h2]
    rfl
theorem is_list {ad : Addr} {l : List T} {vs : List V} {W : Wd} (f : FzL G.K W ad vs) (r : RTs G W l vs) : ItOk G W l (Itl G.K ad) :=
  itok_same (Gd := fun H => SqL G.K H ad vs) (Y := YAt vs) (by rw [r.length]; exact walk_list) (fun W' ex => (f.ext ex).sq) r fun i H x H' y => y
theorem is_tup {ad : Addr} {l : List T} {vs : List V} {W : Wd} (f : FzT G.K W ad vs) (r : RTs G W l vs) : ItOk G W l (Itt G.K ad) :=
  itok_same (Gd := fun H => SqT G.K H ad vs) (Y := YAt vs) (by rw [r.length]; exact walk_tup) (fun W' ex => (f.ext ex).sq) r fun i H x H' y => y
/-- a text, a tuple, a list: its kind is told -/
inductive Kd | s | t | l
def kdOk : Kd → T → Bool
  | .s, .str _ => true
  | .t, .tup _ => true
  | .l, .lst _ => true
  | _, _ => false
theorem ti_e (hX : Cn G X) (ha : PE X a (tE G Γ E A)) : PI X tg a (tI G Γ E (.e A)) := by
  refine ⟨fun pins s σt H R I ⟨W, σ, e, ok, rs, p⟩ => ?_⟩
  subst e
  unfold evI at p
  refine thn (ha.run pins s σt W.H _ I (goE (Q := fun v H1 => ∃ W1 x, W1.H = H1 ∧ W1.Ok G ∧ RT G W1 x v ∧ Post G (ItOk G) W1 (ofO (itemsO x) W1.h) R E) ok rs p fun W1 x v ex1 ok1 rs1 r1 p1 => ⟨W1, x, rfl, ok1, r1, p1⟩)) fun u s1 ⟨v, H1, I1, ru, W1, x, e1, ok1, r1, p1⟩ => ?_
  subst e1
  obtain ⟨xs, e, p1⟩ := p1.of_ofO
  -- one of three rules, by the value that has come
  have at_ : ∀ {t : TE} {wi : TI} (_ : ∀ σ0 H0 R0, wi σ0 H0 R0 = wi σ0 H0 R0), True := fun _ => trivial
  unfold itemsO at e
  split at e <;> try contradiction
  · cases e
    obtain ⟨rfl, _⟩ := r1
    obtain ⟨t, rfl⟩ := ru
    have q : R (Its (tx _)) W1.H := Post.here ok1 p1 is_str
    cases hz : (tx ‹List Nat›).cps.all (· < 128)
    · exact wpAny_pyIter_wide hz (pi_one (tk := s1.toks) I1 _ (turn_str _ _ t "str_iterator" (.inr rfl)) ⟨_, Heap.get?_push_size _ rfl, rfl, rfl⟩ q)
    · exact wpAny_pyIter_ascii hz (pi_one (tk := s1.toks) I1 _ (turn_str _ _ t "str_ascii_iterator" (.inl rfl)) ⟨_, Heap.get?_push_size _ rfl, rfl, rfl⟩ q)
  · cases e
    obtain ⟨ad, vs, rfl, f, r⟩ := r1
    cases ru
    have q : R (Itt X.K ad) W1.H := by rw [hX.K]; exact Post.here ok1 p1 (is_tup f r)
    obtain ⟨its, rv, pt, hz⟩ := I1.tuple (hX.K ▸ f.sq)
    exact wpAny_pyIter_tuple (show s1.heap.IsTuple ad its.toArray from pt) (pi_one (tk := s1.toks) I1 _ (turn_tuple ad _) ⟨_, Heap.get?_push_size _ rfl, rfl, rfl⟩ q)
  · cases e
    obtain ⟨ad, vs, rfl, f, r⟩ := r1
    cases ru
    have q : R (Itl X.K ad) W1.H := by rw [hX.K]; exact Post.here ok1 p1 (is_list f r)
    obtain ⟨its, rv, pt, hz⟩ := I1.list (hX.K ▸ f.sq)
    exact wpAny_pyIter_list pt.isList (pi_one (tk := s1.toks) I1 _ (turn_list ad _) ⟨_, Heap.get?_push_size _ rfl, rfl, rfl⟩ q)
theorem lim62 {j : Int} (h : -(lim : Int) ≤ j) (k : j ≤ (lim : Int)) : -(2 ^ 62) ≤ j ∧ j < 2 ^ 62 := by
  have : (lim : Int) = 16000000 := rfl
  omega
theorem ti_r1 (hg : Gl X "range") (hm : X.mg "range" = none) (ha : PA X [a] (tA G Γ E [A])) (hs : starEach [a] X.env = [(false, eval a X.env)] := by rfl) : PI X tg (.Call (.Name "range" p) [a] [] pos) (tI G Γ E (.range [A])) := by
  refine pi_imp (pi_range1 hg hm ha hs) fun σt H R ⟨W, σ, e, ok, rs, p⟩ => ?_
  subst e
  unfold evI at p
  refine goAl ok rs p fun W1 ts vs ex1 ok1 rs1 r1 hl p1 => ?_
  obtain ⟨xs, e, p1⟩ := p1.of_ofO
  obtain ⟨t, rfl⟩ : ∃ t, ts = [t] := by
    match ts, hl with
    | [t], _ => exact ⟨t, rfl⟩
  obtain ⟨v, rfl, q1⟩ := rts1 r1
  cases t <;> first | contradiction | skip
  unfold rngO at e
  simp only at e
  split at e <;> try contradiction
  rename_i j hz
  cases e
  cases q1
  refine ⟨j, rfl, (lim62 hz.1 hz.2).1, (lim62 hz.1 hz.2).2, Post.here ok1 p1 (itok_steps ?_)⟩
  have e : (fun (i : Nat) => V.int (0 + (i : Nat) * 1)) = fun (i : Nat) => V.int (0 + (i : Int)) := by funext i; simp
  rw [e]
  exact walk_range
theorem ti_r2 (hg : Gl X "range") (hm : X.mg "range" = none) (ha : PA X [a, b] (tA G Γ E [A, B])) (hs : starEach [a, b] X.env = [(false, eval a X.env), (false, eval b X.env)] := by rfl) (hs2 : starEach [b] X.env = [(false, eval b X.env)] := by rfl) :
    PI X tg (.Call (.Name "range" p) [a, b] [] pos) (tI G Γ E (.range [A, B])) := by
  refine pi_imp (pi_range2 hg hm ha hs hs2) fun σt H R ⟨W, σ, e, ok, rs, p⟩ => ?_
  subst e
  unfold evI at p
  refine goAl ok rs p fun W1 ts vs ex1 ok1 rs1 r1 hl p1 => ?_
  obtain ⟨xs, e, p1⟩ := p1.of_ofO
  obtain ⟨t, u, rfl⟩ : ∃ t u, ts = [t, u] := by
    match ts, hl with
    | [t, u], _ => exact ⟨t, u, rfl⟩
  obtain ⟨v, w, rfl, q1, q2⟩ := rts2 r1
  cases t <;> first | contradiction | skip
  cases u <;> first | contradiction | skip
  unfold rngO at e
  simp only at e
  split at e <;> try contradiction
  rename_i i j hz
  cases e
  cases q1
  cases q2
  refine ⟨i, j, rfl, ⟨(lim62 hz.1 hz.2.1).1, (lim62 hz.1 hz.2.1).2, (lim62 hz.2.2.1 hz.2.2.2).1, (lim62 hz.2.2.1 hz.2.2.2).2⟩, Post.here ok1 p1 (itok_steps ?_)⟩
  have e : (fun (k : Nat) => V.int (i + (k : Nat) * 1)) = fun (k : Nat) => V.int (i + (k : Int)) := by funext k; simp
  rw [e]
  exact walk_range
theorem ti_r3 (hg : Gl X "range") (hm : X.mg "range" = none) (ha : PA X [a, b, c] (tA G Γ E [A, B, C])) (hs : starEach [a, b, c] X.env = (false, eval a X.env) :: starEach [b, c] X.env := by rfl) (hpl : (backTo pos (starEach [b, c] X.env)).any (·.1) = false := by rfl) :
    PI X tg (.Call (.Name "range" p) [a, b, c] [] pos) (tI G Γ E (.range [A, B, C])) := by
  refine pi_imp (pi_range3 hg hm ha hs hpl) fun σt H R ⟨W, σ, e, ok, rs, p⟩ => ?_
  subst e
  unfold evI at p
  refine goAl ok rs p fun W1 ts vs ex1 ok1 rs1 r1 hl p1 => ?_
  obtain ⟨xs, e, p1⟩ := p1.of_ofO
  obtain ⟨t, u, y, rfl⟩ : ∃ t u y, ts = [t, u, y] := by
    match ts, hl with
    | [t, u, y], _ => exact ⟨t, u, y, rfl⟩
  obtain ⟨v, w, rfl, q1, qr⟩ := r1
  obtain ⟨v2, w2, rfl, q2, q3⟩ := rts2 qr
  cases t <;> first | contradiction | skip
  cases u <;> first | contradiction | skip
  cases y <;> first | contradiction | skip
  unfold rngO at e
  simp only at e
  split at e <;> try contradiction
  rename_i i j k hz
  obtain ⟨h1, h2, h3, h4, rfl⟩ := hz
  cases e
  cases q1
  cases q2
  cases q3
  exact ⟨i, j, -1, _, rfl, .neg (lim62 h1 h2).1 (lim62 h1 h2).2 (lim62 h3 h4).1 (lim62 h3 h4).2, Post.here ok1 p1 (itok_steps walk_rangeC)⟩
theorem ti_enum (hX : Cn G X) (hg : Gl X "enumerate") (hm : X.mg "enumerate" = none) (ha : PE X a (tE G Γ E A)) (hs : starEach [a] X.env = [(false, eval a X.env)] := by rfl) (hs1 : starEach [a] X.env = (false, eval a X.env) :: starEach [] X.env := by rfl) :
    PI X (.Tuple elts kk tpos) (.Call (.Name "enumerate" p) [a] [] pos) (tI G Γ E (.enum A)) := by
  refine pi_imp (pi_enumS hg hm (pa_cons ha pa_nil hs1) hs) fun σt H R ⟨W, σ, e, ok, rs, p⟩ => ?_
  subst e
  unfold evI at p
  refine goE ok rs p fun W1 x v ex1 ok1 rs1 r1 p1 => ?_
  obtain ⟨xs, e, p2⟩ := ofOmap p1
  obtain ⟨vs, Gd, S, r, g⟩ := src_of (P := X.prog) (w := X.w) r1 e
  refine ⟨v, vs, Gd, rfl, hX.K ▸ S, g W1 (.refl W1), Post.here (rel := ItOk G) (a := enumT 0 xs) ok1 p2 ⟨Gd, YJ fun i x y => x = .int (i : Nat) ∧ vs[i]? = some y, ?_, g, ?_⟩⟩
  · rw [enumT_len, r.length]
    exact walk_JP
  · rintro i H x H' W' ⟨Tt, y, z, rfl, hn, rfl, rfl, hz⟩ e1 ex ok'
    subst e1
    obtain ⟨t, ht, rt⟩ := r.get' hz
    obtain ⟨q1, q2, q3⟩ := pairW (t := .int i) (x := .int (i : Nat)) ok' hn rfl (RT.ext ex _ _ rt)
    exact ⟨_, ⟨upd W'.H Tt (.tup [.int (i : Nat), z]), W'.β, W'.h⟩, by simpa using enumT_get (n := 0) ht, rfl, rfl, q1, q2, q3⟩
theorem ti_zip (hX : Cn G X) (hg : Gl X "zip") (hm : X.mg "zip" = none) (ha : PE X a (tE G Γ E A)) (hb : PE X b (tE G Γ E B)) (hs : starEach [a, b] X.env = (false, eval a X.env) :: starEach [b] X.env := by rfl) (hs1 : starEach [b] X.env = (false, eval b X.env) :: starEach [] X.env := by rfl) (hpl : (backTo pos (starEach [b] X.env)).any (·.1) = false := by rfl) :
    PI X (.Tuple elts kk tpos) (.Call (.Name "zip" p) [a, b] [] pos) (tI G Γ E (.zip A B)) := by
  refine pi_imp (pi_zipS hg hm (pa_cons ha (pa_cons hb pa_nil hs1) hs) hs hpl) fun σt H R ⟨W, σ, e, ok, rs, p⟩ => ?_
  subst e
  unfold evI at p
  refine goE ok rs p fun W1 x v ex1 ok1 rs1 r1 p1 => goE ok1 rs1 p1 fun W2 y w ex2 ok2 rs2 r2 p2 => ?_
  split at p2
  · rename_i xs ys e1 e2
    obtain ⟨vs, Gd, S, r, g⟩ := src_of (P := X.prog) (w := X.w) (RT.ext ex2 _ _ r1) e1
    obtain ⟨ws, Gd', S', r', g'⟩ := src_of (P := X.prog) (w := X.w) r2 e2
    refine ⟨v, vs, Gd, w, ws, Gd', rfl, hX.K ▸ S, g W2 (.refl W2), hX.K ▸ S', g' W2 (.refl W2), Post.here (rel := ItOk G) (a := zipT xs ys) ok2 p2 ⟨fun H => Gd H ∧ Gd' H, YJ fun i x y => vs[i]? = some x ∧ ws[i]? = some y, ?_, fun W' ex => ⟨g W' ex, g' W' ex⟩, ?_⟩⟩
    · rw [zipT_len, r.length, r'.length]
      exact walk_JP
    · rintro i H x H' W' ⟨Tt, y, z, rfl, hn, rfl, hy, hz⟩ e1 ex ok'
      subst e1
      obtain ⟨t, ht, rt⟩ := r.get' hy
      obtain ⟨u, hu, ru⟩ := r'.get' hz
      obtain ⟨q1, q2, q3⟩ := pairW ok' hn (RT.ext ex _ _ rt) (RT.ext ex _ _ ru)
      exact ⟨_, ⟨upd W'.H Tt (.tup [y, z]), W'.β, W'.h⟩, zipT_get ht hu, rfl, rfl, q1, q2, q3⟩
  · exact False.elim p2

/-! ### comprehensions -/
theorem pts_imp {X : Cx} {cs : List Expr} {t t' : TT} (h : PTs X cs t) (k : ∀ σ H Q, t' σ H Q → t σ H Q) : PTs X cs t' := ⟨fun pins s σ H Q I q => h.run pins s σ H Q I (k σ H Q q)⟩
theorem tts_n : PTs X [] (tBs G Γ E []) := by
  refine pts_imp pts_nil fun σt H Q ⟨W, σ, e, ok, rs, p⟩ => ?_
  subst e
  exact Post.here (rel := fun _ (a b : Bool) => a = b) (a := true) ok p rfl
theorem tts_1 (h : PT X c (tB G Γ E C)) : PTs X [c] (tBs G Γ E [C]) := by
  refine pts_imp (pts_one h) fun σt H Q ⟨W, σ, e, ok, rs, p⟩ => ?_
  subst e
  have e : evBs Γ [C] σ W.h = (evB Γ C σ W.h).bind fun b h => if b then .ok true h else .ok false h := by simp only [evBs]
  rw [e] at p
  refine goB ok rs p fun W1 b ex1 ok1 rs1 p1 => ?_
  cases b with
  | true => exact Post.here (rel := fun _ (a b : Bool) => a = b) (a := true) ok1 p1 rfl
  | false => exact Post.here (rel := fun _ (a b : Bool) => a = b) (a := false) ok1 p1 rfl
/-- the reading of a comprehension, from the evaluator's answer -/
theorem lc_go {m : Bool} {g : Tg} {it : Tw.It} {cs : List Ex} {e : Ex} {own : List Nat} (hown : ∀ i, i ∈ g.sl ↔ i ∈ own) {σt : L2.St} {H : Hp} {Q : VK} (h : tE G Γ E (.lc m g it cs e) σt H Q) :
    tLc (tI G Γ E it) (tG G g) (tBs G Γ E0 cs) (tE G Γ E0 e) own σt H Q := by
  obtain ⟨W, σ, e1, ok, rs, p⟩ := h
  subst e1
  unfold evE at p
  refine ⟨W, σ, rfl, ok, rs, p.seq.mono fun J H1 ⟨W1, xs, e1, ex1, ok1, it1, p1⟩ => ?_⟩
  subst e1
  intro D hD
  obtain ⟨Gd, Y, w, gd, yl⟩ := it1
  -- the list at D: a new reference
  let W2 : Wd := ⟨L2.upd W1.H D (.lst []), W1.β ++ [D], W1.h ++ [some (.lst [])]⟩
  have ex2 : Ext W1 W2 := Ext.newM ok1 hD
  have ok2 : W2.Ok G := ok1.newM (mo := .lst []) hD ⟨[], upd_same, rfl⟩
  have d2 : W2.β[W1.h.length]? = some D := by show (W1.β ++ [D])[W1.h.length]? = _; rw [← ok1.len]; simp
  have rs1 : Rs G W1 σ σt := rs.ext ex1
  generalize hgo : lcGo g (fun σ h => evBs Γ cs σ h) (fun σ h => evE Γ e σ h) = go at p1
  refine lc_it w (fun i H' => ∃ W', W'.H = H' ∧ Ext W2 W' ∧ W'.Ok G ∧ PostE G W' ((lcLoop go σ W1.h.length (xs.drop i) W'.h).bind fun _ h' => lcEnd m W1.h.length h') Q E)
    ⟨W2, rfl, .refl W2, ok2, p1.later ex2⟩ (fun i H' hi ⟨W', eh, ex, _⟩ => eh ▸ gd W' (ex2.trans ex)) ?_ ?_
  · rintro i x H' H'' hi ⟨W', rfl, ex, ok', q⟩ hy
    obtain ⟨t, W3, ht, rfl, e3, ex3, ok3, r3⟩ := yl i W'.H x H'' W' hy rfl (ex2.trans ex) ok'
    have hd : xs.drop i = t :: xs.drop (i + 1) := by
      rw [List.drop_eq_getElem_cons hi]
      congr 1
      exact (List.getElem?_eq_some_iff.mp ht).2
    rw [hd] at q
    have q := Post.later ex3 q
    rw [← e3] at q
    unfold lcLoop at q
    have hgt : go t σ W3.h = (match g.put t σ with
      | none => .bad
      | some σ => (evBs Γ cs σ W3.h).bind fun b h => if b then (evE Γ e σ h).bind fun y h => .ok (some y) h else .ok none h) := by rw [← hgo]; rfl
    rw [hgt] at q
    have rs3 : Rx G W3 (fun i => i ∉ own) σ (wipe σt own) := by
      have r := rs1.ext ((ex2.trans ex).trans ex3)
      refine ⟨by rw [wipe_length]; exact r.1, fun j u hj e => ?_⟩
      rw [wipe_out hj]
      exact r.2 j u trivial e
    cases hp : g.put t σ with
    | none => rw [hp] at q; exact False.elim q
    | some σ' =>
      rw [hp] at q
      refine ⟨W3, t, σ, σ', _, rfl, ok3, r3, rs3, hp, fun σt' hu rs4 => ⟨?_, ?_⟩⟩
      · rw [wipe_upd hu fun i hi => (hown i).mp hi]
        exact wipe_upd (vs := own) (s := own) (a := σt) (b := wipe σt own) ⟨wipe_length _ _, fun i hi => wipe_out hi⟩ fun i hi => hi
      · have rs5 : Rs G W3 σ' σt' := rs4.imp fun i _ => by
          by_cases hi : i ∈ own
          · exact .inr ((hown i).mpr hi)
          · exact .inl hi
        simp only at q
        -- the tests
        cases hb : evBs Γ cs σ' W3.h with
        | bad => rw [hb] at q; exact False.elim q
        | exc _ _ _ => rw [hb] at q; exact False.elim q
        | ok b h4 =>
          rw [hb] at q
          refine ⟨W3, σ', rfl, ok3, rs5, ?_⟩
          rw [hb]
          intro W4 b' e4 ex4 ok4 eb
          subst eb e4
          rw [R_ok] at q
          have in4 : Ext W2 W4 := (ex.trans ex3).trans ex4
          cases b with
          | false =>
            rw [if_neg Bool.false_ne_true] at q ⊢
            exact ⟨W4, rfl, in4, ok4, Post.later ex4 q⟩
          | true =>
            rw [if_pos rfl] at q ⊢
            cases hv : evE Γ e σ' W4.h with
            | bad => rw [hv] at q; exact False.elim q
            | exc _ _ _ => rw [hv] at q; exact False.elim q
            | ok y h5 =>
              rw [hv] at q
              refine ⟨W4, σ', rfl, ok4, rs5.ext ex4, ?_⟩
              rw [hv]
              intro W5 z e5 ex5 ok5 rz
              subst e5
              rw [R_ok] at q
              have in5 : Ext W2 W5 := in4.trans ex5
              have dd : W5.β[W1.h.length]? = some D := in5.bet _ _ d2
              have bad : ∀ {o : Option MO}, W5.h[W1.h.length]? = some o → (∀ l, o ≠ some (.lst l)) → False := fun {o} e n => by
                simp only [e] at q
                cases o with
                | none => exact q
                | some mo =>
                  cases mo with
                  | lst l => exact n l rfl
                  | dct _ _ => exact q
                  | ins _ _ _ => exact q
              cases hl' : W5.h[W1.h.length]? with
              | none =>
                simp only [hl'] at q
                exact False.elim q
              | some o =>
                cases o with
                | none => exact (bad hl' fun _ z => nomatch z).elim
                | some mo =>
                  cases mo with
                  | dct _ _ => exact (bad hl' fun _ z => nomatch z).elim
                  | ins _ _ _ => exact (bad hl' fun _ z => nomatch z).elim
                  | lst l' =>
                    simp only [hl'] at q
                    by_cases hz : l'.length < lim
                    · rw [if_pos hz] at q
                      obtain ⟨acc, hacc, ra⟩ := ok5.cont _ _ D hl' dd
                      have ex6 : Ext W5 ⟨L2.upd W5.H D (.lst (acc ++ [z])), W5.β, W5.h.set W1.h.length (some (.lst (l' ++ [y])))⟩ := Ext.set hl' dd
                      exact ⟨acc, hacc, by rw [← ra.length]; exact lim_line' hz, _, rfl, in5.trans ex6, ok5.set hl' dd ⟨_, upd_same, RTs.ext ex6 _ _ (ra.append (.one rz))⟩, Post.later ((ex4.trans ex5).trans ex6) q⟩
                    · rw [if_neg hz] at q
                      exact False.elim q
  · rintro H' ⟨W', rfl, ex, ok', q⟩
    rw [List.drop_length] at q
    have q : PostE G W' (lcEnd m W1.h.length W'.h) Q E := q
    have dd : W'.β[W1.h.length]? = some D := ex.bet _ _ d2
    unfold lcEnd at q
    cases m with
    | true => exact Post.here (rel := RT G) (a := .ref _) ok' q ⟨D, dd, rfl⟩
    | false =>
      rw [if_neg Bool.false_ne_true] at q
      exact frz_post (x := .ref W1.h.length) ok' ⟨D, dd, rfl⟩ q
end
end Tw
end
/-! part Tw2i -/
section
set_option Elab.async false
set_option linter.all false
set_option maxRecDepth 100000
/-! Tw2i: comprehensions as expressions, statements. -/
namespace Tw
open PySem PySem.Spec PyProof.Rows L2

theorem Cn.blk {G : Gx} {X : Cx} (h : Cn G X) {s : Shared} {H : Hp} {scope : Scope} {env : PySem.Env} {fp : List Addr} : Cn G (X.blk s H scope env fp) := ⟨h.K, h.nd, h.calm, h.un⟩
theorem Cn.wish {G : Gx} {X : Cx} (h : Cn G X) {xe : Value → Shared → Prop} : Cn G (X.wish xe) := ⟨h.K, h.nd, h.calm, h.un⟩

/-- behind a statement -/
inductive FlV where
  | nx (σ : L2.St) | rt (v : V) | bk (σ : L2.St) | ct (σ : L2.St)
def RF (G : Gx) (W : Wd) : Fl → FlV → Prop
  | .next σ, .nx σt => Rs G W σ σt
  | .ret t, .rt v => RT G W t v
  | .brk σ, .bk σt => Rs G W σ σt
  | .cont σ, .ct σt => Rs G W σ σt
  | _, _ => False
def dQ (D : Ends) : FlV → Hp → Prop
  | .nx σ, H => D.nx σ H
  | .rt v, H => D.rt v H
  | .bk σ, H => D.bk σ H
  | .ct σ, H => D.ct σ H
abbrev PostS (G : Gx) (W : Wd) (r : R Fl) (D : Ends) (E : XK) : Prop := Post G (RF G) W r (dQ D) E
def tS (G : Gx) (Γ : Tw.Env) (E : XK) (s : Tw.St) : TS := fun D σt H => ∃ W σ, W.H = H ∧ W.Ok G ∧ Rs G W σ σt ∧ PostS G W (evS Γ s σ W.h) D E
def tSs (G : Gx) (Γ : Tw.Env) (E : XK) (ss : List Tw.St) : TS := fun D σt H => ∃ W σ, W.H = H ∧ W.Ok G ∧ Rs G W σ σt ∧ PostS G W (evSs Γ ss σ W.h) D E
section
variable {G : Gx} {W : Wd} {D : Ends} {E : XK} {σ : Sl} {σt : L2.St}
theorem postNx (ok : W.Ok G) (p : PostS G W (.ok (.next σ) W.h) D E) (r : Rs G W σ σt) : D.nx σt W.H := Post.here (rel := RF G) (b := .nx σt) ok p r
theorem postRt {t : T} {v : V} (ok : W.Ok G) (p : PostS G W (.ok (.ret t) W.h) D E) (r : RT G W t v) : D.rt v W.H := Post.here (rel := RF G) (b := .rt v) ok p r
theorem postBk (ok : W.Ok G) (p : PostS G W (.ok (.brk σ) W.h) D E) (r : Rs G W σ σt) : D.bk σt W.H := Post.here (rel := RF G) (b := .bk σt) ok p r
theorem postCt (ok : W.Ok G) (p : PostS G W (.ok (.cont σ) W.h) D E) (r : Rs G W σ σt) : D.ct σt W.H := Post.here (rel := RF G) (b := .ct σt) ok p r
end
section
variable {G : Gx} {Γ : Tw.Env} {E : XK} {X : Cx} {a b c tg iter elt : Expr} {A B C : Ex} {ifs : List Expr} {cs : List Ex} {pos p spos : Pos} {scope : Scope} {own : List (PySem.Str × Nat)} {g : Tg} {it : Tw.It} {ss rest : List Stmt} {Ss : List Tw.St} {st : Stmt} {S : Tw.St}
theorem te_lc {m : Bool} (hX : Cn G X) (hown : g.sl = own.map (·.2)) (hi : PI X tg iter (tI G Γ E it)) (ok : BlkOk X.N X.env.scope scope own)
    (hg : ∀ (s : Shared) (H : Hp) (C : Addr) (cl : List (PySem.Str × Addr)) (fp : List Addr), PG (X.blk s H scope (compEnvC scope cl C X.env) fp) tg (tG G g))
    (ht : ∀ (s : Shared) (H : Hp) (C : Addr) (cl : List (PySem.Str × Addr)) (fp : List Addr), PTs (X.blk s H scope (compEnvC scope cl C X.env) fp) ifs (tBs G Γ E0 cs))
    (he : ∀ (s : Shared) (H : Hp) (C : Addr) (cl : List (PySem.Str × Addr)) (fp : List Addr), PE (X.blk s H scope (compEnvC scope cl C X.env) fp) elt (tE G Γ E0 A)) (hs : ∀ x, foldedSetIterable iter X.env x = pure x := by intro _; rfl) :
    PE X (.ListComp elt [⟨tg, iter, ifs, 0⟩] scope pos) (tE G Γ E (.lc m g it cs A)) :=
  pe_imp (pe_lc hX.calm hX.nd hi ok hg ht he hs) fun σt H Q h => lc_go (by intro i; rw [hown]) h
/-- statements -/
theorem ss_n : PSs X [] (tSs G Γ E []) := by
  refine pss_imp pss_nil fun D σt H ⟨W, σ, e, ok, rs, p⟩ => ?_
  subst e
  exact postNx ok (show PostS G W (.ok (.next σ) W.h) D E by unfold evSs at p; exact p) rs
theorem ss_c (h1 : PS X st (tS G Γ E S)) (h2 : PSs X rest (tSs G Γ E Ss)) : PSs X (st :: rest) (tSs G Γ E (S :: Ss)) := by
  refine pss_imp (pss_cons h1 h2) fun D σt H ⟨W, σ, e, ok, rs, p⟩ => ?_
  subst e
  unfold evSs at p
  refine ⟨W, σ, rfl, ok, rs, p.seq.mono fun b H1 ⟨W1, fl, e1, ex, ok1, rf, p1⟩ => ?_⟩
  subst e1
  cases b <;> cases fl <;> try exact False.elim rf
  · exact ⟨W1, _, rfl, ok1, rf, p1⟩
  · exact postRt (D := D) ok1 p1 rf
  · exact postBk (D := D) ok1 p1 rf
  · exact postCt (D := D) ok1 p1 rf
theorem ss_doc {x : PySem.Str} {j p2} (h2 : PSs X rest (tSs G Γ E Ss)) : PSs X (.Expr (.Constant (.str x) j pos) p2 :: rest) (tSs G Γ E Ss) :=
  pss_imp (pss_cons ps_doc h2) fun D σt H h => h
theorem s_ex (h : PE X a (tE G Γ E A)) (hs : swapsWith a none pos.line X.env = pure false := by rfl) : PS X (.Expr a pos) (tS G Γ E (.ex A)) := by
  refine ps_imp (ps_expr h hs) fun D σt H ⟨W, σ, e, ok, rs, p⟩ => ?_
  subst e
  unfold evS at p
  exact goE ok rs p fun W1 x v ex1 ok1 rs1 r1 p1 => postNx ok1 p1 rs1
theorem s_ret (h : PE X a (tE G Γ E A)) : PS X (.Return (some a) pos) (tS G Γ E (.ret A)) := by
  refine ps_imp (ps_ret h) fun D σt H ⟨W, σ, e, ok, rs, p⟩ => ?_
  subst e
  unfold evS at p
  exact goE ok rs p fun W1 x v ex1 ok1 rs1 r1 p1 => postRt ok1 p1 r1
theorem s_asg (h : PE X a (tE G Γ E A)) (hg : PG X tg (tG G g)) (hs : swapsWithSole [tg] a pos.line X.env = pure false := by rfl) (hw : swappedStores [tg] a X.env = pure none := by rfl)
    (h1 : (assignEach [tg] X.env).map (·.2) = [assign tg X.env] := by rfl) : PS X (.Assign [tg] a pos) (tS G Γ E (.asg g A)) := by
  refine ps_imp (ps_asg h hg hs hw h1) fun D σt H ⟨W, σ, e, ok, rs, p⟩ => ?_
  subst e
  unfold evS at p
  refine goE ok rs p fun W1 x v ex1 ok1 rs1 r1 p1 => ?_
  obtain ⟨σ', e, p2⟩ := ofOmap p1
  exact ⟨W1, x, σ, σ', _, rfl, ok1, r1, rs1, e, fun σt' _ rs2 => postNx ok1 p2 (rs2.imp fun _ _ => .inl trivial)⟩
theorem s_set {i : Nat} {x : PySem.Str} {p2 : Pos} (hX : Cn G X) (hi : X.N[i]? = some x) (hx : Loc X.env.scope x) (h : PE X a (tE G Γ E A)) (hs : swapsWith a (some (.Name x p2)) pos.line X.env = pure false := by rfl)
    (hf : X.fn x = true ∨ X.env.scope.names.lookup x = some .local := by first | exact .inl rfl | exact .inr rfl | assumption) : PS X (.Assign [.Name x p2] a pos) (tS G Γ E (.asg (.v i) A)) := by
  refine ps_imp (ps_set hX.nd hi hx h hs hf) fun D σt H ⟨W, σ, e, ok, rs, p⟩ => ?_
  subst e
  unfold evS at p
  refine goE ok rs p fun W1 x v ex1 ok1 rs1 r1 p1 => ?_
  obtain ⟨σ', e, p2⟩ := ofOmap p1
  simp only [Tg.put] at e
  cases e
  exact postNx ok1 p2 ((rs1.put r1).imp fun _ _ => .inl trivial)
theorem s_setLc {m : Bool} {i : Nat} {y : PySem.Str} {py : Pos} (hX : Cn G X) (hy : X.N[i]? = some y) (hyl : X.env.scope.names.lookup y = some .local)
    (hsw : swapsWith (.ListComp elt [⟨tg, iter, ifs, 0⟩] scope pos) (some (.Name y py)) spos.line X.env = pure true) (hown : g.sl = own.map (·.2)) (hi : PI X tg iter (tI G Γ E it)) (ok : BlkOk X.N X.env.scope scope own)
    (hg : ∀ (s : Shared) (H : Hp) (C : Addr) (cl : List (PySem.Str × Addr)) (fp : List Addr), PG (X.blk s H scope (compEnvC scope cl C X.env) fp) tg (tG G g))
    (ht : ∀ (s : Shared) (H : Hp) (C : Addr) (cl : List (PySem.Str × Addr)) (fp : List Addr), PTs (X.blk s H scope (compEnvC scope cl C X.env) fp) ifs (tBs G Γ E0 cs))
    (he : ∀ (s : Shared) (H : Hp) (C : Addr) (cl : List (PySem.Str × Addr)) (fp : List Addr), PE (X.blk s H scope (compEnvC scope cl C X.env) fp) elt (tE G Γ E0 A)) (hs : ∀ x, foldedSetIterable iter X.env x = pure x := by intro _; rfl) :
    PS X (.Assign [.Name y py] (.ListComp elt [⟨tg, iter, ifs, 0⟩] scope pos) spos) (tS G Γ E (.asg (.v i) (.lc m g it cs A))) := by
  refine ps_imp (ps_setLc hX.calm hX.nd hy hyl hsw hi ok hg ht he hs) fun D σt H ⟨W, σ, e, ok, rs, p⟩ => ?_
  subst e
  have p' : PostS G W ((evE Γ (.lc m g it cs A) σ W.h).bind fun t h => ofO ((Tg.put (.v i) t σ).map Fl.next) h) D E := by
    have e : evS Γ (.asg (.v i) (.lc m g it cs A)) σ W.h = (evE Γ (.lc m g it cs A) σ W.h).bind fun t h => ofO ((Tg.put (.v i) t σ).map Fl.next) h := by rw [evS]
    rw [e] at p
    exact p
  refine lc_go (m := m) (by intro i; rw [hown]) (goE ok rs p' fun W1 x v ex1 ok1 rs1 r1 p1 => ?_)
  obtain ⟨σ', e, p2⟩ := ofOmap p1
  simp only [Tg.put] at e
  cases e
  exact postNx ok1 p2 ((rs1.put r1).imp fun _ _ => .inl trivial)
/-- a, b = x, y, stored at once -/
theorem s_par {i j : Nat} {x y : PySem.Str} {px py pt2 : Pos} {kt k2 pt3} (hX : Cn G X) (hi : X.N[i]? = some x) (hj : X.N[j]? = some y) (hij : i ≠ j)
    (hx : X.env.scope.names.lookup x = some .local) (hy : X.env.scope.names.lookup y = some .local) (ha : PA X [a, b] (tA G Γ E [A, B]))
    (hw : swappedStores [.Tuple [.Name x px, .Name y py] kt pt2] (.Tuple [a, b] k2 pt3) X.env = pure (some [x, y]))
    (hs : swapsWithSole [.Tuple [.Name x px, .Name y py] kt pt2] (.Tuple [a, b] k2 pt3) pos.line X.env = pure false := by rfl) :
    PS X (.Assign [.Tuple [.Name x px, .Name y py] kt pt2] (.Tuple [a, b] k2 pt3) pos) (tS G Γ E (.asg (.u [.v i, .v j]) (.tup [A, B]))) := by
  refine ps_imp (ps_par hX.calm hX.nd hi hj hij hx hy ha hw hs) fun D σt H ⟨W, σ, e, ok, rs, p⟩ => ?_
  subst e
  have e : evS Γ (.asg (.u [.v i, .v j]) (.tup [A, B])) σ W.h = (evEs Γ [A, B] σ W.h).bind fun ts h => ofO ((Tg.put (.u [.v i, .v j]) (.tup ts) σ).map Fl.next) h := by
    have e2 : evE Γ (.tup [A, B]) σ W.h = (evEs Γ [A, B] σ W.h).bind fun ts h => .ok (.tup ts) h := by rw [evE]
    rw [evS, e2, R_bind_assoc]
    rfl
  rw [e] at p
  refine goA ok rs p fun W1 ts vs ex1 ok1 rs1 r1 p1 => ?_
  obtain ⟨σ', e, p2⟩ := ofOmap p1
  simp only [Tg.put] at e
  have hl := puts_len e
  obtain ⟨t, u, rfl⟩ : ∃ t u, ts = [t, u] := by
    match ts, hl with
    | [t, u], _ => exact ⟨t, u, rfl⟩
  obtain ⟨v, w, rfl, q1, q2⟩ := rts2 r1
  simp only [Tg.puts, Tg.put, Option.bind] at e
  cases e
  exact ⟨v, w, rfl, postNx ok1 p2 (((rs1.put q1).put q2).imp fun _ _ => .inl (.inl trivial))⟩
theorem s_if {aa bb : List Stmt} {As Bs : List Tw.St} (hc : PT X c (tB G Γ E C)) (ha : PSs X aa (tSs G Γ E As)) (hb : PSs X bb (tSs G Γ E Bs)) : PS X (.If c aa bb pos) (tS G Γ E (.if_ C As Bs)) := by
  refine ps_imp (ps_if hc ha hb) fun D σt H ⟨W, σ, e, ok, rs, p⟩ => ?_
  subst e
  unfold evS at p
  refine goB ok rs p fun W1 k ex1 ok1 rs1 p1 => ?_
  cases k with
  | true => exact ⟨W1, σ, rfl, ok1, rs1, p1⟩
  | false => exact ⟨W1, σ, rfl, ok1, rs1, p1⟩
theorem s_pass : PS X (.Pass pos) (tS G Γ E .pass) := by
  refine ps_imp ps_pass fun D σt H ⟨W, σ, e, ok, rs, p⟩ => ?_
  subst e
  exact postNx ok (show PostS G W (.ok (.next σ) W.h) D E by unfold evS at p; exact p) rs
theorem s_brk : PS X (.Break pos) (tS G Γ E .brk) := by
  refine ps_imp ps_break fun D σt H ⟨W, σ, e, ok, rs, p⟩ => ?_
  subst e
  exact postBk ok (show PostS G W (.ok (.brk σ) W.h) D E by unfold evS at p; exact p) rs
theorem s_cont : PS X (.Continue pos) (tS G Γ E .cont) := by
  refine ps_imp ps_continue fun D σt H ⟨W, σ, e, ok, rs, p⟩ => ?_
  subst e
  exact postCt ok (show PostS G W (.ok (.cont σ) W.h) D E by unfold evS at p; exact p) rs
/-- loops -/
theorem s_for (hX : Cn G X) (hp : PassesOwn (model X.prog X.w) X.A X.env X.xe) (hi : PI X tg iter (tI G Γ E it)) (hg : PG X tg (tG G g)) (hb : PSs X ss (tSs G Γ E Ss)) (hs : ∀ x, foldedSetIterable iter X.env x = pure x := by intro _; rfl) :
    PS X (.For tg iter ss [] pos) (tS G Γ E (.for_ g it Ss)) := by
  refine ps_imp (ps_for hp hX.calm hi hg hb hs) fun D σt H ⟨W, σ, e, ok, rs, p⟩ => ?_
  subst e
  unfold evS at p
  refine ⟨W, σ, rfl, ok, rs, p.seq.mono fun J H1 ⟨W1, xs, e1, ex1, ok1, it1, p1⟩ => ?_⟩
  subst e1
  obtain ⟨Gd, Y, w, gd, yl⟩ := it1
  generalize hbo : (fun (σ : Sl) (h : Hm) => evSs Γ Ss σ h) = body at p1
  refine for_it w (fun i σt' H' => ∃ W' σ', W'.H = H' ∧ Ext W1 W' ∧ W'.Ok G ∧ Rs G W' σ' σt' ∧ PostS G W' (forLoop g body (xs.drop i) σ' W'.h) D E) ⟨W1, σ, rfl, .refl W1, ok1, rs.ext ex1, p1⟩ (fun i σt' H' hi ⟨W', σ', eh, ex, _⟩ => eh ▸ gd W' ex) ?_ ?_
  · rintro i x σt' H' H'' hi ⟨W', σ', rfl, ex, ok', rs', q⟩ hy
    obtain ⟨t, W3, ht, rfl, e3, ex3, ok3, r3⟩ := yl i W'.H x H'' W' hy rfl ex ok'
    have hd : xs.drop i = t :: xs.drop (i + 1) := by
      rw [List.drop_eq_getElem_cons hi]
      congr 1
      exact (List.getElem?_eq_some_iff.mp ht).2
    rw [hd] at q
    have q := Post.later ex3 q
    rw [← e3] at q
    unfold forLoop at q
    cases hp : g.put t σ' with
    | none => rw [hp] at q; exact False.elim q
    | some σ2 =>
      rw [hp] at q
      simp only at q
      refine ⟨W3, t, σ', σ2, _, rfl, ok3, r3, rs'.ext ex3, hp, fun σt2 hu rs4 => ⟨W3, σ2, rfl, ok3, rs4.imp fun _ _ => .inl trivial, ?_⟩⟩
      have hbo' : evSs Γ Ss σ2 W3.h = body σ2 W3.h := by rw [← hbo]
      rw [hbo']
      refine q.seq.mono fun b H1 ⟨W4, fl, e4, ex4, ok4, rf, p4⟩ => ?_
      subst e4
      have in4 : Ext W1 W4 := (ex.trans ex3).trans ex4
      cases b <;> cases fl <;> try exact False.elim rf
      · exact ⟨W4, _, rfl, in4, ok4, rf, p4⟩
      · exact postRt (D := D) ok4 p4 rf
      · exact postNx (D := D) ok4 p4 rf
      · exact ⟨W4, _, rfl, in4, ok4, rf, p4⟩
  · rintro σt' H' ⟨W', σ', rfl, ex, ok', rs', q⟩
    rw [List.drop_length] at q
    exact postNx ok' q rs'
theorem s_whl {n : Nat} (hp : PassesOwn (model X.prog X.w) X.A X.env X.xe) (hc : PT X c (tB G Γ E C)) (hb : PSs X ss (tSs G Γ E Ss)) : PS X (.While c ss [] pos) (tS G Γ E (.whl n C Ss)) := by
  refine ps_imp (ps_while hp hc hb) fun D σt H ⟨W, σ, e, ok, rs, p⟩ => ?_
  subst e
  unfold evS at p
  generalize hto : (fun (σ : Sl) (h : Hm) => evB Γ C σ h) = test at p
  generalize hbo : (fun (σ : Sl) (h : Hm) => evSs Γ Ss σ h) = body at p
  refine ⟨fun m σt' H' => ∃ W' σ', W'.H = H' ∧ W'.Ok G ∧ Rs G W' σ' σt' ∧ PostS G W' (whlLoop test body m σ' W'.h) D E, ⟨n, W, σ, rfl, ok, rs, p⟩, ?_⟩
  rintro m σt' H' ⟨W', σ', rfl, ok', rs', q⟩
  cases m with
  | zero => exact False.elim q
  | succ m =>
    unfold whlLoop at q
    have hto' : test σ' W'.h = evB Γ C σ' W'.h := by rw [← hto]
    rw [hto'] at q
    refine goB ok' rs' q fun W2 k ex2 ok2 rs2 q2 => ?_
    cases k with
    | false => exact postNx (D := D) ok2 q2 rs2
    | true =>
      rw [if_pos rfl] at q2 ⊢
      refine ⟨fun σ1 H1 => ∃ W' σ', W'.H = H1 ∧ W'.Ok G ∧ Rs G W' σ' σ1 ∧ PostS G W' (whlLoop test body m σ' W'.h) D E, fun σ1 H1 h => ⟨m, Nat.lt_succ_self m, h⟩, W2, σ', rfl, ok2, rs2, ?_⟩
      have hbo' : evSs Γ Ss σ' W2.h = body σ' W2.h := by rw [← hbo]
      rw [hbo']
      refine q2.seq.mono fun b H1 ⟨W4, fl, e4, ex4, ok4, rf, p4⟩ => ?_
      subst e4
      cases b <;> cases fl <;> try exact False.elim rf
      · exact ⟨W4, _, rfl, ok4, rf, p4⟩
      · exact postRt (D := D) ok4 p4 rf
      · exact postNx (D := D) ok4 p4 rf
      · exact ⟨W4, _, rfl, ok4, rf, p4⟩
/-- o[i] = e -/
theorem s_sto {p2 : Pos} (ho : PE X b (tE G Γ E B)) (hi : PE X c (tE G Γ E C)) (h : PE X a (tE G Γ E A))
    (hs : swapsWithSole [.Subscript b c p2] a pos.line X.env = pure false := by rfl) (hw : swappedStores [.Subscript b c p2] a X.env = pure none := by rfl) (h1 : (assignEach [.Subscript b c p2] X.env).map (·.2) = [assign (.Subscript b c p2) X.env] := by rfl)
    (hq : ∀ v, assign (.Subscript b c p2) X.env v = (do
      let ov ← holding [v] (eval b X.env)
      let iv ← holding [v, ov] (eval c X.env)
      standAt p2
      holding [v, ov, iv] (setItem ov iv v)
      release [v, ov, iv] []) := by intro _; rfl) :
    PS X (.Assign [.Subscript b c p2] a pos) (tS G Γ E (.set B C A)) := by
  refine ps_imp (ps_asg h (pg_sub ho hi set_list hq) hs hw h1) fun D σt H ⟨W, σ, e, ok, rs, p⟩ => ?_
  subst e
  unfold evS at p
  refine goE ok rs p fun W1 x v ex1 ok1 rs1 r1 p1 => goE ok1 rs1 p1 fun W2 o ov ex2 ok2 rs2 r2 p2 => goE ok2 rs2 p2 fun W3 i iv ex3 ok3 rs3 r3 p3 => ?_
  unfold setR at p3
  split at p3
  · rename_i j k
    split at p3
    · rename_i l e
      split at p3
      · rename_i n hn
        obtain ⟨ad, hb, rfl⟩ := RT.ext ex3 _ _ r2
        cases r3
        obtain ⟨vs, hH, r⟩ := ok3.cont j _ ad e hb
        have ex4 : Ext W3 ⟨L2.upd W3.H ad (.lst (vs.set n v)), W3.β, W3.h.set j (some (.lst (l.set n x)))⟩ := Ext.set e hb
        refine ⟨ad, vs, k, n, rfl, rfl, hH, by rw [← r.length]; exact hn, ?_⟩
        have p4 := Post.later ex4 (show PostS G W3 (.ok (.next σ) (W3.h.set j (some (.lst (l.set n x))))) D E from p3)
        exact postNx (W := ⟨L2.upd W3.H ad (.lst (vs.set n v)), W3.β, W3.h.set j (some (.lst (l.set n x)))⟩) (ok3.set e hb ⟨_, upd_same, RTs.ext ex4 _ _ (r.set n (RT.ext (ex2.trans ex3) _ _ r1))⟩) p4 (rs3.ext ex4)
      · exact False.elim p3
    · exact False.elim p3
  · exact False.elim p3
/-- raise X('..') -/
theorem s_raise {k : Nat} (hX : Cn G X) (tk : Takes X (fun cls d _ H => E cls d H)) (he : PMk X a (fun _ H Q => Q (.ref (G.ca k)) none H)) : PS X (.Raise (some a) none pos) (tS G Γ E (.raise k [])) := by
  refine ps_imp (ps_raise hX.calm tk he) fun D σt H ⟨W, σ, e, ok, rs, p⟩ => ?_
  subst e
  have e : evS Γ (.raise k []) σ W.h = .exc k [] W.h := by rw [evS, evEs]; rfl
  rw [e] at p
  exact p W _ _ rfl (.refl W) ok ⟨rfl, rfl⟩
end
end Tw
end
/-! part Tw2j -/
section
set_option Elab.async false
set_option linter.all false
set_option maxRecDepth 100000
/-! Tw2j: functions: what a def promises, its call, its proof from its body; the catcher with a lambda. -/
namespace Tw
open PySem PySem.Spec PyProof.Rows L2

/-- a def's promise; b: it asks that no repr runs around it -/
structure FnX (P : Program) (w : World) (K : PySem.W.Frag) (mg : PySem.Str → Option Value) (base : Heap) (b : Bool) (k : Nat) (f : Addr) (fd : FuncData) (ps : List PySem.Str) (sp : Sp) : Prop where
  len : ∀ vs H Q E, sp vs H Q E → vs.length = ps.length
  run : ∀ (A : Around) (outer : List PySem.Env) (s : Shared) (H : Hp) (args : Args) (us : List Value) (vs : List V) (Q : VK) (E : XK), (b = true → A.guards = some []) → Room k A → Env0 P w K mg base A outer s H → BindsTo s fd args (ps.zip us) → Vals vs us → sp vs H Q E →
    codeAny (model P w) A (.call (.ref f) args) (CR (L2.CX P w) outer P w H s Q E) s
/-- what the evaluator says of a function, as a promise -/
def spF (G : Gx) (Φ : Nat → Option FD) (tf : Nat → R T → R T) (n i : Nat) : Sp := fun vs H Q E => ∃ W ts, W.H = H ∧ W.Ok G ∧ RTs G W ts vs ∧ PostE G W (Tw.call Φ tf n i ts W.h) Q E
/-- a global function's promise by its name -/
structure Fn1 (G : Gx) (P : Program) (w : World) (mg : PySem.Str → Option Value) (base : Heap) (Φ : Nat → Option FD) (tf : Nat → R T → R T) (n i : Nat) (b : Bool) (x : PySem.Str) : Prop where
  ex : ∃ (f : Addr) (fd : FuncData) (ps : List PySem.Str), FnX P w G.K mg base b (5 * n) f fd ps (spF G Φ tf n i) ∧ mg x = some (.ref f) ∧ PySem.W.keepIn G.K (.ref f) = true ∧ Binds G.K fd ps []
section
variable {G : Gx} {Γ : Tw.Env} {E : XK} {X : Cx} {a b c : Expr} {A B C : Ex} {es : List Expr} {As : List Ex} {pos p : Pos} {Φ : Nat → Option FD} {tf : Nat → R T → R T} {n i : Nat} {fb : Bool} {x : PySem.Str}
theorem te_call (F : Fn1 G X.prog X.w X.mg X.base Φ tf n i fb x) (hX : Cn G X) (hb : fb = true → X.A.guards = some []) (hr : Room (5 * n) X.A) (hx : Passes (L2.CX X.prog X.w) X E) (hg : Gl X x) (ha : PA X (a :: es) (tA G ⟨Tw.call Φ tf n, tf⟩ E As))
    (hdb : (x == ("__debug__" : PySem.Str)) = false := by decide) (he : starEach (a :: es) X.env = (false, eval a X.env) :: starEach es X.env := by rfl) (hpl : (backTo pos (starEach es X.env)).any (·.1) = false := by rfl) :
    PE X (.Call (.Name x p) (a :: es) [] pos) (tE G ⟨Tw.call Φ tf n, tf⟩ E (.call i As)) := by
  obtain ⟨f, fd, ps, F, hm, hk, hbi⟩ := F.ex
  refine ⟨fun pins s σt H Q I ⟨W, σ, e, ok, rs, q⟩ => ?_⟩
  subst e
  unfold evE at q
  have h : tA G ⟨Tw.call Φ tf n, tf⟩ E As σt W.H fun vs H1 => spF G Φ tf n i vs H1 Q E := goA ok rs q fun W1 ts vs ex1 ok1 rs1 r1 p1 => ⟨W1, ts, rfl, ok1, r1, p1⟩
  refine wpAny_Call_Name_kw (ld_glob I hg hm ?_ hdb)
  refine PySem.W.callWith_K (h₀ := X.base) I.ok.mod.kin (by rw [hX.K]; exact hk) (thn (ha.run pos pins s σt W.H _ I h) fun us s1 ⟨vs, H1, I1, r, q1⟩ => ⟨I1.kIn, ?_⟩) he hpl
  have hl := F.len _ _ _ _ q1
  have e0 := I1.env0
  rw [hX.K] at e0
  have kin := I1.kIn
  rw [hX.K] at kin
  have hbt := hbi s1 us kin (by rw [List.append_nil, ← r.length]; exact hl)
  rw [List.append_nil] at hbt
  refine wpAny_call (codeAny_mono (F.run X.A X.stack s1 H1 ⟨us, []⟩ us vs Q E hb hr e0 hbt r q1) fun r s' hq => ?_)
  cases r with
  | error e => exact hx pins σt H1 s1 e s' I1 hq
  | ok fl =>
    cases fl with
    | ret u => exact I1.after hq
    | next => exact False.elim hq
    | brk => exact False.elim hq
    | cont => exact False.elim hq
end
section
variable {G : Gx} {P : Program} {w : World} {mg : PySem.Str → Option Value} {base : Heap} {Φ : Nat → Option FD} {tf : Nat → R T → R T} {n i : Nat} {b : Bool} {f : Addr} {fd : FuncData} {x : PySem.Str} {params : Arguments} {body : List Stmt} {scope : Scope} {N ps : List PySem.Str} {np nl : Nat} {bodyT : List Tw.St}
theorem postLeave {W : Wd} {r : R Fl} {Q : VK} {E : XK} (ok : W.Ok G) (p : PostE G W (match r with
    | .ok (.ret t) h' => leave W.h t h'
    | .ok (.next _) h' => leave W.h .non h'
    | .ok _ _ => .bad
    | .exc c ts h' => leaveX W.h c ts h'
    | .bad => .bad) Q E) : PostS G W r { nx := fun _ H' => Q .non H', rt := Q } E := by
  have fin : ∀ {t : T} {h' : Hm}, PostE G W (leave W.h t h') Q E → ∀ W' v, W'.h = h' → Ext W W' → W'.Ok G → RT G W' t v → Q v W'.H := fun {t h'} p W' v e ex ok' r => by
    subst e
    unfold leave at p
    split at p
    · rename_i hc
      rw [Bool.and_eq_true] at hc
      obtain ⟨q1, q2, q3⟩ := Ext.leave ok ok' ex hc.2
      exact p ⟨W'.H, W.β, W'.h.take W.h.length⟩ v rfl q2 q1 (q3 t v hc.1 r)
    · rename_i hc
      cases t with
      | ref j =>
        obtain ⟨ad, hb, rfl⟩ := r
        simp only at p
        split at p
        · rename_i mo hj
          split at p
          · rename_i hc2
            rw [Bool.and_eq_true] at hc2
            have hnj : W.h.length ≤ j := by
              by_cases hlt : j < W.h.length
              · exact absurd (by rw [hc2.2]; simp [T.und, hlt]) hc
              · omega
            obtain ⟨q1, q2⟩ := Ext.leaveM ok ok' ex hc2.2 hj hb hnj hc2.1
            refine p ⟨W'.H, W.β ++ [ad], W'.h.take W.h.length ++ [some mo]⟩ _ rfl q2 q1 ⟨ad, ?_, rfl⟩
            show (W.β ++ [ad])[W.h.length]? = _
            rw [← ok.len]
            simp
          · exact False.elim p
        · exact False.elim p
      | _ => exact False.elim p
  cases r with
  | bad => exact p
  | exc c ts h' =>
    intro W' cls d e ex ok' r
    subst e
    have p : PostE G W (leaveX W.h c ts W'.h) Q E := p
    unfold leaveX at p
    split at p
    · rename_i hc
      rw [Bool.and_eq_true] at hc
      obtain ⟨q1, q2, q3⟩ := Ext.leave ok ok' ex hc.2
      exact p ⟨W'.H, W.β, W'.h.take W.h.length⟩ cls d rfl q2 q1 r
    · exact False.elim p
  | ok fl h' =>
    intro W' b e ex ok' r
    cases fl with
    | next σ =>
      cases b <;> try exact False.elim r
      exact fin (t := .non) p W' .non e ex ok' rfl
    | ret t =>
      cases b <;> try exact False.elim r
      exact fin p W' _ e ex ok' r
    | brk σ => exact False.elim p
    | cont σ => exact False.elim p
/-- a def keeps its promise -/
theorem fnX_of {nm : PySem.Str} (F : FunD G.K nm x params body scope [] [] f fd) (S : FnScope N ps scope) (hΦ : Φ i = some ⟨np, nl, bodyT⟩) (hnp : np = ps.length) (hnl : nl = N.length)
    (hbody : ∀ (cdv : Value) (A : Around) (outer : List PySem.Env) (s : Shared) (H : Hp) (E : XK), (∃ oc od osl fd', G.K.lookup f = some ⟨oc, od, .func fd', osl⟩ ∧ fd'.code = cdv ∧ PySem.W.codeIn G.K cdv x = true) → (b = true → A.guards = some []) → Room (5 * n + 4) (A.deeper (envOfC x scope s.heap.objs.size f cdv)) →
      PSs (cxOf (L2.CX P w) P w G.K mg base N x scope f cdv A outer s H E) body (tSs G ⟨Tw.call Φ tf n, tf⟩ E bodyT)) : FnX P w G.K mg base b (5 * (n + 1)) f fd ps (spF G Φ tf (n + 1) i) := by
  have lenT : ∀ (ts : List T) (h : Hm) {W : Wd} {Q : VK} {E : XK}, PostE G W (Tw.call Φ tf (n + 1) i ts h) Q E → ts.length = np := fun ts h {W Q E} p => by
    unfold Tw.call at p
    rw [hΦ] at p
    by_cases hl : ts.length = np
    · exact hl
    · simp only [if_neg hl] at p
      exact False.elim p
  refine ⟨fun vs H Q E ⟨W, ts, _, _, r, p⟩ => by rw [← r.length, lenT ts _ p, hnp], fun A outer s H args us vs Q E hg hr e0 hb r ⟨W, ts, e, ok, rt, p⟩ => ?_⟩
  subst e
  have hl := lenT ts _ p
  obtain ⟨oc, od, dV, kV, doc, pm, an, cdv, ct, osl, rfl, lk, hcd, _, _⟩ := F.ex
  refine LamX.run_ofS lk hcd S hr e0 hb r (by rw [← rt.length, hl, hnp]) fun hr' => ⟨_, hbody cdv A outer s W.H E ⟨_, _, _, _, lk, rfl, hcd⟩ hg hr', W, ts.map some ++ List.replicate (nl - np) none, rfl, ok, ?_, postLeave ok ?_⟩
  · have hvl : vs.length = np := by rw [← rt.length, hl]
    unfold L2.start
    refine ⟨by simp [rt.length, hvl, hnl], fun j t _ e => ?_⟩
    by_cases hj : j < ts.length
    · rw [List.getElem?_append_left (by simpa using hj), List.getElem?_map] at e
      obtain ⟨t', e1, e2⟩ := Option.map_eq_some_iff.mp e
      cases e2
      obtain ⟨v, h1, h2⟩ := rt.get e1
      refine ⟨v, ?_, h2⟩
      rw [List.getElem?_append_left (by rw [List.length_map, ← rt.length]; exact hj), List.getElem?_map, h1]
      rfl
    · rw [List.getElem?_append_right (by simpa using hj), List.getElem?_replicate] at e
      split at e <;> cases e
  · unfold Tw.call at p
    rw [hΦ] at p
    simp only [if_pos hl] at p
    exact p
theorem fnX_zero : FnX P w G.K mg base b 0 f fd ps (spF G Φ tf 0 i) :=
  ⟨fun vs H Q E ⟨W, ts, _, _, r, p⟩ => False.elim p, fun A outer s H args us vs Q E hg hr e0 hb r ⟨W, ts, e, ok, rt, p⟩ => False.elim p⟩
/-- what stands in a def's context -/
theorem cn_def {N : List PySem.Str} {f : Addr} {cdv : Value} {A : Around} {outer : List PySem.Env} {s : Shared} {H : Hp} {E : XK} {n : Nat} (S : FnScope N ps scope) (hr : Room n (A.deeper (envOfC x scope s.heap.objs.size f cdv))) :
    Cn G (cxOf (L2.CX P w) P w G.K mg base N x scope f cdv A outer s H E) := ⟨rfl, S.nd, rfl, hr.units⟩
theorem tk_def {f : Addr} {cdv : Value} {A : Around} {outer : List PySem.Env} {s : Shared} {H : Hp} {E : XK} : Takes (cxOf (L2.CX P w) P w G.K mg base N x scope f cdv A outer s H E) (fun cls d _ H => E cls d H) := takes_of rfl rfl rfl rfl
theorem ps_def {f : Addr} {cdv : Value} {A : Around} {outer : List PySem.Env} {s : Shared} {H : Hp} {E : XK} : Passes (L2.CX P w) (cxOf (L2.CX P w) P w G.K mg base N x scope f cdv A outer s H E) E := passes_call tk_def fun _ _ _ _ h => h
theorem ow_def {f : Addr} {cdv : Value} {A : Around} {outer : List PySem.Env} {s : Shared} {H : Hp} {E : XK} : PassesOwn (model P w) (cxOf (L2.CX P w) P w G.K mg base N x scope f cdv A outer s H E).A (cxOf (L2.CX P w) P w G.K mg base N x scope f cdv A outer s H E).env (cxOf (L2.CX P w) P w G.K mg base N x scope f cdv A outer s H E).xe := PassesOwn.leaving
/-- in a comprehension's block nothing leaves -/
theorem ps_blk {X : Cx} {s : Shared} {H : Hp} {scope : Scope} {env : PySem.Env} {fp : List Addr} : Passes (L2.CX X.prog X.w) (X.blk s H scope env fp) E0 := passes_call (X := X.blk s H scope env fp) LamX.takes0 fun _ _ _ _ h => h
end
end Tw
end
/-! part Tw2k -/
section
set_option Elab.async false
set_option linter.all false
set_option maxRecDepth 100000
/-! Tw2k: a context's facts in one; short words; the catcher. -/
namespace Tw
open PySem PySem.Spec PyProof.Rows L2

/-- what the module's names stand for -/
structure Mg (G : Gx) (fr : List PySem.Str) (is : List (PySem.Str × Int)) (ss : List (PySem.Str × List Nat)) (cs : List (PySem.Str × Nat)) (mg : PySem.Str → Option Value) : Prop where
  fr : ∀ (j : Nat) (x : PySem.Str), fr[j]? = some x → mg x = none
  is : ∀ (j : Nat) p, is[j]? = some p → ∃ t, mg p.1 = some (.int p.2 t)
  ss : ∀ (j : Nat) p, ss[j]? = some p → ∃ t, mg p.1 = some (.str (tx p.2) t)
  cs : ∀ (j : Nat) p, cs[j]? = some p → mg p.1 = some (.ref (G.ca p.2)) ∧ PySem.W.excIn G.K (G.ca p.2) He.veBase "ValueError.__new__" = true ∧ PySem.W.keepIn G.K (.ref (G.ca p.2)) = true ∧ PySem.W.subIn G.K (.ref (G.ca p.2)) (.type "BaseException") = some true ∧ PySem.W.typeIn G.K (.ref (G.ca p.2)) = some (.type "type")
/-- a law's things -/
structure Lw where
  G : Gx
  Φ : Nat → Option FD
  tf : Nat → R T → R T
  tbl : List (Nat × Bool × PySem.Str)
  fr : List PySem.Str
  is : List (PySem.Str × Int)
  ss : List (PySem.Str × List Nat)
  cs : List (PySem.Str × Nat)
abbrev Lw.Γ (L : Lw) (n : Nat) : Tw.Env := ⟨Tw.call L.Φ L.tf n, L.tf⟩
/-- all that the rules want of a context -/
structure Kx (L : Lw) (X : Cx) (E : XK) (n : Nat) (b : Bool) : Prop where
  c : Cn L.G X
  r : Room (5 * n + 2) X.A
  g : b = true → X.A.guards = some []
  x : Passes (L2.CX X.prog X.w) X E
  o : PassesOwn (model X.prog X.w) X.A X.env X.xe
  m : Mg L.G L.fr L.is L.ss L.cs X.mg
  f : ∀ (j : Nat) q, L.tbl[j]? = some q → Fn1 L.G X.prog X.w X.mg X.base L.Φ L.tf n q.1 q.2.1 q.2.2
theorem Kx.blk {L : Lw} {X : Cx} {E : XK} {n : Nat} {b : Bool} (k : Kx L X E n b) {s : Shared} {H : Hp} {scope : Scope} {cl : List (PySem.Str × Addr)} {C : Addr} {fp : List Addr} : Kx L (X.blk s H scope (compEnvC scope cl C X.env) fp) E0 n b :=
  ⟨k.c.blk, k.r, k.g, ps_blk, PassesOwn.never, k.m, k.f⟩
theorem kx_def {L : Lw} {P : Program} {w : World} {mg : PySem.Str → Option Value} {base : Heap} {n : Nat} {b : Bool} {x : PySem.Str} {scope : Scope} {N ps : List PySem.Str} {f : Addr} {cdv : Value} {A : Around} {outer : List PySem.Env} {s : Shared} {H : Hp} {E : XK}
    (S : FnScope N ps scope) (hg : b = true → A.guards = some []) (hr : Room (5 * n + 4) (A.deeper (envOfC x scope s.heap.objs.size f cdv))) (m : Mg L.G L.fr L.is L.ss L.cs mg) (f1 : ∀ (j : Nat) q, L.tbl[j]? = some q → Fn1 L.G P w mg base L.Φ L.tf n q.1 q.2.1 q.2.2) :
    Kx L (cxOf (L2.CX P w) P w L.G.K mg base N x scope f cdv A outer s H E) E n b := ⟨cn_def S hr, hr.mono (Nat.le_add_right _ 2), hg, ps_def, ow_def, m, f1⟩

section
variable {L : Lw} {X : Cx} {E : XK} {n : Nat} {b : Bool} {a c d : Expr} {A B C : Ex} {es : List Expr} {As : List Ex} {pos p p2 : Pos} {x : PySem.Str}
theorem Kx.v (k : Kx L X E n b) (i : Nat) {x : PySem.Str} {pos : Pos} (hN : X.N[i]? = some x := by rfl) (hv : Vis X.env.scope x := by first | exact Or.inl rfl | exact Or.inr (Or.inl rfl) | exact Or.inr (Or.inr rfl)) (hd : (x == ("__debug__" : PySem.Str)) = false := by decide) (hcd : (x == ("__classdict__" : PySem.Str)) = false := by decide) :
    PE X (.Name x pos) (tE L.G (L.Γ n) E (.v i)) := te_v hN hv hd hcd
theorem Kx.ci (k : Kx L X E n b) (j : Nat) {i : Int} (h : L.is[j]? = some (x, i) := by rfl) (hg : Gl X x := by rfl) (hd : (x == ("__debug__" : PySem.Str)) = false := by decide) : PE X (.Name x pos) (tE L.G (L.Γ n) E (.c (.int i))) := by
  obtain ⟨t, e⟩ := k.m.is j _ h
  exact te_g (v := .int i) hg e ⟨t, rfl⟩ (fun _ => rfl) hd
theorem Kx.cz (k : Kx L X E n b) (j : Nat) {z : List Nat} (h : L.ss[j]? = some (x, z) := by rfl) (hz : decide (z.length ≤ lim) = true := by rfl) (hg : Gl X x := by rfl) (hd : (x == ("__debug__" : PySem.Str)) = false := by decide) : PE X (.Name x pos) (tE L.G (L.Γ n) E (.c (.str z))) := by
  obtain ⟨t, e⟩ := k.m.ss j _ h
  exact te_g (v := .str (tx z)) hg e ⟨t, rfl⟩ (fun _ => ⟨rfl, lim_line (of_decide_eq_true hz)⟩) hd
theorem Kx.s (k : Kx L X E n b) (z : List Nat) {x : PySem.Str} {j} {pos : Pos} (h : x = tx z := by rfl) (hz : decide (z.length ≤ lim) = true := by rfl) : PE X (.Constant (.str x) j pos) (tE L.G (L.Γ n) E (.c (.str z))) := te_s h (of_decide_eq_true hz)
theorem Kx.call (k : Kx L X E n b) (j : Nat) {i : Nat} {fb : Bool} (ha : PA X (a :: es) (tA L.G (L.Γ n) E As)) (h : L.tbl[j]? = some (i, fb, x) := by rfl) (hb : fb = true → b = true := by first | exact fun z => z | exact fun z => Bool.noConfusion z) (hg : Gl X x := by rfl)
    (hdb : (x == ("__debug__" : PySem.Str)) = false := by decide) (he : starEach (a :: es) X.env = (false, eval a X.env) :: starEach es X.env := by rfl) (hpl : (backTo pos (starEach es X.env)).any (·.1) = false := by rfl) :
    PE X (.Call (.Name x p) (a :: es) [] pos) (tE L.G (L.Γ n) E (.call i As)) := te_call (k.f j _ h) k.c (fun z => k.g (hb z)) (k.r.mono (Nat.le_add_right _ 2)) k.x hg ha hdb he hpl
theorem Kx.bi (k : Kx L X E n b) (j : Nat) (m : Bool) (f : Bi) {id : String} (ha : PA X (a :: es) (tA L.G (L.Γ n) E As)) (hf : biV f = .builtin id := by rfl) (hm : L.fr[j]? = some x := by rfl) (hr : f = .repr → b = true := by first | exact fun _ => rfl | exact fun z => nomatch z) (hv : bootBuiltins x = some (.builtin id) := by rfl) (hg : Gl X x := by rfl)
    (hn : x ≠ "__name__" := by decide) (hdb : (x == ("__debug__" : PySem.Str)) = false := by decide) (he : starEach (a :: es) X.env = (false, eval a X.env) :: starEach es X.env := by rfl) (hpl : (backTo pos (starEach es X.env)).any (·.1) = false := by rfl) :
    PE X (.Call (.Name x p) (a :: es) [] pos) (tE L.G (L.Γ n) E (.bi m f As)) := te_bi hf (fun z => k.g (hr z)) k.c hg (k.m.fr j _ hm) hv ha hn hdb he hpl
theorem Kx.bt (k : Kx L X E n b) (j : Nat) (m : Bool) (f : Bi) {T : String} (ha : PA X (a :: es) (tA L.G (L.Γ n) E As)) (hf : biV f = .type T := by rfl) (hm : L.fr[j]? = some x := by rfl) (hv : bootBuiltins x = some (.type T) := by rfl) (hg : Gl X x := by rfl)
    (hn : x ≠ "__name__" := by decide) (hdb : (x == ("__debug__" : PySem.Str)) = false := by decide) (he : starEach (a :: es) X.env = (false, eval a X.env) :: starEach es X.env := by rfl) (hpl : (backTo pos (starEach es X.env)).any (·.1) = false := by rfl) :
    PE X (.Call (.Name x p) (a :: es) [] pos) (tE L.G (L.Γ n) E (.bi m f As)) := te_bt hf k.c hg (k.m.fr j _ hm) hv ha hn hdb he hpl
theorem Kx.isi (k : Kx L X E n b) (j j2 : Nat) (y : Ty) (ha : PE X a (tE L.G (L.Γ n) E A)) (hm : L.fr[j]? = some "isinstance" := by rfl) (hm2 : L.fr[j2]? = some x := by rfl) (hv : bootBuiltins x = some (.type (tyS y)) := by rfl) (hg : Gl X "isinstance" := by rfl) (hg2 : Gl X x := by rfl)
    (hn : x ≠ "__name__" := by decide) (hdb : (x == ("__debug__" : PySem.Str)) = false := by decide)
    (he : starEach [a, .Name x p2] X.env = (false, eval a X.env) :: starEach [.Name x p2] X.env := by rfl) (he2 : starEach [.Name x p2] X.env = (false, eval (.Name x p2) X.env) :: starEach [] X.env := by rfl) (hpl : (backTo pos (starEach [.Name x p2] X.env)).any (·.1) = false := by rfl) :
    PE X (.Call (.Name "isinstance" p) [a, .Name x p2] [] pos) (tE L.G (L.Γ n) E (.isi A y)) := te_isi (p3 := p) k.c hg (k.m.fr j _ hm) hg2 (k.m.fr j2 _ hm2) hv ha rfl hn hdb he he2 hpl
theorem te_d {G : Gx} {Γ : Tw.Env} {m : Bool} : PE X (.Dict [] [] pos) (tE G Γ E (.dct0 m)) := by
  refine pe_imp pe_dnewK fun σt H Q ⟨W, σ, e, ok, rs, q⟩ => ?_
  subst e
  unfold evE at q
  exact fun d hd => mk_dct0 ok q d hd
theorem Kx.raise (k : Kx L X E n b) (tk : Takes X (fun cls d _ H => E cls d H)) (j : Nat) {i : Nat} {z : PySem.Str} {jj} {p3 p4 : Pos} (h : L.cs[j]? = some (x, i) := by rfl) (hg : Gl X x := by rfl) (hdb : (x == ("__debug__" : PySem.Str)) = false := by decide) :
    PS X (.Raise (some (.Call (.Name x p) [.Constant (.str z) jj p3] [] p4)) none pos) (tS L.G (L.Γ n) E (.raise i [])) := by
  obtain ⟨h1, h2, h3, h4, h5⟩ := k.m.cs j _ h
  have eK := k.c.K
  exact s_raise k.c tk (pmk_own PySem.F.excBase_ValueError (by rw [eK]; exact h2) h1 (by rw [eK]; exact h3) (raises_own (by rw [eK]; exact h4) (by rw [eK]; exact h5)) hg hdb)
end
end Tw
end
/-! part Tw2l -/
section
set_option Elab.async false
set_option linter.all false
set_option maxRecDepth 100000
/-! Tw2l: a lambda handed to a catcher; the law's end. -/
namespace Tw
open PySem PySem.Spec PyProof.Rows L2
open TwH (SysD)
open LamX (TabB Tabs ExtN CodeO lamCx lamEnv LamS GivesTo TabS)

/-- what stands in a lambda's context -/
theorem kx_lam {L : Lw} {X : Cx} {E : XK} {n : Nat} {b : Bool} (k : Kx L X E n b) {A : Around} {outer : List PySem.Env} {s : Shared} {H : Hp} {E' : XK} {scope : Scope} {f c' : Addr} (hr : Room (5 * n + 2) (A.deeper (lamEnv X scope s.heap.objs.size f c'))) : Kx L (lamCx X A outer s H E' scope f c') E' n false :=
  ⟨⟨k.c.K, k.c.nd, rfl, hr.units⟩, hr, fun z => Bool.noConfusion z, passes_call (X := lamCx X A outer s H E' scope f c') (takes_of rfl rfl rfl rfl) fun _ _ _ _ h => h, PassesOwn.leaving, k.m, k.f⟩
/-- the catcher's facts in a context -/
structure Cat (L : Lw) (X : Cx) (g : Nat) (x : PySem.Str) (n : Nat) : Prop where
  ex : ∃ (a : PySem.Str) (ga : Addr) (c P : Addr) (pg : Arguments) (bg : List Stmt) (sg : Scope) (dV kV doc pm cdv ct oc : Value) (an od : Option Addr) (osl : Array (Option Value)) (Ng : List PySem.Str) (TT : (XK → Hp → VK → Prop) → Hp → VK → Prop),
    X.mg x = some (.ref ga) ∧ PySem.W.keepIn X.K (.ref ga) = true ∧ X.K.lookup ga = some ⟨oc, od, .func (PySem.W.fnOf x x pg bg sg dV kV doc pm an cdv ct), osl⟩ ∧ PySem.W.codeIn X.K cdv x = true ∧ L2.Binds X.K (PySem.W.fnOf x x pg bg sg dV kV doc pm an cdv ct) [a] [] ∧ FnScope Ng [a] sg ∧ Ng[0]? = some a ∧ Vis sg a ∧
    (a == ("__debug__" : PySem.Str)) = false ∧ (a == ("__classdict__" : PySem.Str)) = false ∧ GivesTo X Ng x sg ga cdv bg a (X.env.qual ++ "<lambda>") TT ∧ TabB X.base X.mg c P ∧ X.env.code = .ref c ∧ (P, X.env.qual ++ "<lambda>") ∈ L.G.tb ∧ (∀ p ∈ L.G.tb, p.1 = P → p.2 = X.env.qual ++ "<lambda>") ∧ Room (5 * n + 4) X.A ∧
    ∀ (A : Ex) (σt : L2.St) (W : Wd) (σ : Sl) (Q : VK) (E : XK), W.Ok L.G → Rs L.G W σ σt → PostE L.G W (L.tf g (evE (L.Γ n) A σ W.h)) Q E → TT (fun E' H' Q' => tE L.G (L.Γ n) E' A σt H' Q') W.H Q
section
variable {L : Lw} {X : Cx} {E : XK} {n : Nat} {b : Bool} {A : Ex} {g : Nat} {x : PySem.Str} {p lpos pos : Pos} {params : Arguments} {body : Expr} {scope : Scope}
theorem te_told (k : Kx L X E n b) (C : Cat L X g x n) (hg : Gl X x) (S : LamS X.env.scope scope) (hdef : defaultsOf params X.env = ([], []))
    (hbind : ∀ (q : PySem.Str) (cl : List (PySem.Str × Addr)) (pm cv ctv : Value), bindArgs (PySem.W.kla_fn "<lambda>" q params body scope cl pm cv ctv) ⟨[], []⟩ = pure [])
    (hbody : ∀ (A' : Around) (outer : List PySem.Env) (s : Shared) (H : Hp) (E' : XK) (f c' : Addr), Kx L (lamCx X A' outer s H E' scope f c') E' n false → PE (lamCx X A' outer s H E' scope f c') body (tE L.G (L.Γ n) E' A)) (hdb : (x == ("__debug__" : PySem.Str)) = false := by decide) :
    PE X (.Call (.Name x p) [.Lambda params body scope lpos] [] pos) (tE L.G (L.Γ n) E (.told g A)) := by
  obtain ⟨a, ga, c, P, pg, bg, sg, dV, kV, doc, pm, cdv, ct, oc, an, od, osl, Ng, TT, hm, hk, lk, hcg, hbn, Sg, hNg, hva, hd1, hd2, hG, TB, hcode, hmT, hu, hr, hTT⟩ := C.ex
  refine pe_imp (LamX.pe_lamcall (k := 5 * n + 2) hg hm hk lk hcg hbn Sg hNg hva hG TB hcode hmT hu hr S hdef hbind (fun A' outer s H E' f c' hr' => hbody A' outer s H E' f c' (kx_lam k hr')) hdb hd1 hd2) fun σt H Q ⟨W, σ, e, ok, rs, q⟩ => ?_
  subst e
  refine ⟨ok.tabs, fun H1 eN T1 => ?_⟩
  have ex : Ext W ⟨H1, W.β, W.h⟩ := .grow eN
  unfold evE at q
  exact hTT A σt ⟨H1, W.β, W.h⟩ σ Q E (ok.grow eN T1) (rs.ext ex) (Post.later ex q)
end

/-! ### the law's end -/
/-- a law's def, run at a script -/
structure End (P : Program) (w : World) (K : PySem.W.Frag) (k n : Nat) (x : PySem.Str) (mg : PySem.Str → Option Value) (fa : Addr) (h : Heap) : Prop where
  ex : ∃ (b : Bool) (fd : FuncData) (cs : List (Addr × Addr)) (sp : Sp), (∀ p ∈ cs, h.get? p.2 = some { cls := .none, data := .fields #[] }) ∧ (∀ p ∈ cs, K.lookup p.2 = none) ∧ (∀ p ∈ cs, PySem.W.CodeHd h p.1 p.2) ∧ (∀ (s : Shared) (u : Value), BindsTo s fd ⟨[u], []⟩ [(x, u)]) ∧
    (∀ (H : Hp) (a : Addr) (ns : List Int), ns.length ≤ n → (∀ z ∈ ns, Builtin.Int.intBits z ≤ 1048576) → (∀ p ∈ cs, H p.2 = some (.tbl #[])) → SqL K H a (ns.map V.int) → sp [.ref a] H (fun v _ => v = .bl true) fun _ _ _ => False) ∧
    ∀ base : Heap, K.In base → base.Ns mainGlobals mg → (∀ p ∈ cs, TabB base mg p.1 p.2) → SysD base → FnX P w K mg base b k fa fd [x] sp
/-- the abstract heap at the law's entry: the empty tables, the script (if it is no object of the module) -/
def H0 (K : PySem.W.Frag) (ts : List Addr) (a : Addr) (o : Obj) (xs : List V) : Hp := fun c => if c ∈ ts then some (.tbl #[]) else if c = a ∧ K.lookup a = none then some (.frz o (.lst xs)) else none
theorem end_call {P : Program} {w : World} {K : PySem.W.Frag} {mg mb : PySem.Str → Option Value} {k n : Nat} {fa a : Addr} {x : PySem.Str} {s₁ : Shared} {vs : List Value} {ns : List Int} (Z : End P w K k n x mg fa s₁.heap) (hY : SysD s₁.heap)
    (hK : K.In s₁.heap) (hN : s₁.heap.Ns mainGlobals mg) (hB : s₁.heap.Ns builtinsNs mb) (hBB : ∀ x : PySem.Str, x ≠ "__name__" → mb x = bootBuiltins x) (hL : s₁.heap.NoLimit) (hG : s₁.gens = #[])
    (hM : ∃ (bm : Addr) (ob : Obj), mg "__builtins__" = some (.ref bm) ∧ bm ≠ builtinsNs ∧ s₁.heap.get? bm = some ob ∧ ob.cls = .type "module" ∧ ob.dict = some builtinsNs ∧ ob.data = .plain)
    (hA : s₁.heap.get? a = some { cls := .type "list", data := .seq vs.toArray }) (hI : IntsAre vs ns) (hz : ns.length ≤ sizeLine) (hn : ns.length ≤ n) (hbits : ∀ z ∈ ns, Builtin.Int.intBits z ≤ 1048576) (hR : Room k callerA) :
    codeAny (model P w) callerA (.call (.ref fa) ⟨[.ref a], []⟩) (fun r s' => r = .ok (.ret (.bool true)) ∧ OldK s₁.heap s'.heap ∧ s'.os = s₁.os ∧ AllBare s'.gens) s₁ := by
  obtain ⟨b, fd, cs, sp, tE, tN, tC, bind, hsp, hF⟩ := Z.ex
  have rv := vals_ints hI
  have lv := hI.length
  obtain ⟨ts, hts⟩ : ∃ ts, ts = cs.map (·.2) := ⟨_, rfl⟩
  obtain ⟨oa, hoa⟩ : ∃ oa : Obj, oa = { cls := .type "list", data := .seq vs.toArray } := ⟨_, rfl⟩
  rw [← hoa] at hA
  have inT : ∀ c, c ∈ ts → ∃ p ∈ cs, p.2 = c := fun c hc => by rw [hts] at hc; obtain ⟨p, hp, e⟩ := List.mem_map.mp hc; exact ⟨p, hp, e⟩
  have atT : ∀ c, c ∈ ts → s₁.heap.get? c = some { cls := .none, data := .fields #[] } ∧ K.lookup c = none := fun c hc => by
    obtain ⟨p, hp, rfl⟩ := inT c hc
    exact ⟨tE p hp, tN p hp⟩
  have notA : a ∉ ts := fun hc => by
    have e := (atT a hc).1
    rw [hA, hoa] at e
    cases e
  let H : Hp := H0 K ts a oa (ns.map V.int)
  have hT : ∀ c, c ∈ ts → H c = some (.tbl #[]) := fun c hc => if_pos hc
  have known : ∀ c u, H c = some u → (c ∈ ts ∧ u = .tbl #[]) ∨ (c = a ∧ K.lookup a = none ∧ u = .frz oa (.lst (ns.map V.int))) := fun c u e => by
    have e : (if c ∈ ts then some (HO.tbl #[]) else if c = a ∧ K.lookup a = none then some (.frz oa (.lst (ns.map V.int))) else none) = some u := e
    by_cases h1 : c ∈ ts
    · rw [if_pos h1] at e
      exact .inl ⟨h1, (Option.some.inj e).symm⟩
    · rw [if_neg h1] at e
      by_cases h2 : c = a ∧ K.lookup a = none
      · rw [if_pos h2] at e
        exact .inr ⟨h2.1, h2.2, (Option.some.inj e).symm⟩
      · rw [if_neg h2] at e
        cases e
  have hok : HOk P w H s₁.heap := fun c u e => by
    rcases known c u e with ⟨h1, rfl⟩ | ⟨rfl, _, rfl⟩
    · exact (atT c h1).1
    · exact ⟨hA, by rw [List.length_map]; exact hz, vs, _, rv, by rw [hA, hoa]⟩
  have hS : SqL K H a (ns.map V.int) := by
    cases e : K.lookup a with
    | none => exact .inl (.inr ⟨oa, (if_neg notA).trans (if_pos ⟨rfl, e⟩)⟩)
    | some o =>
      have q := hK a o e
      rw [hA, hoa] at q
      cases q
      exact .inr ⟨_, vs.toArray, _, e, rfl, rfl, rfl, by rw [List.size_toArray, lv]; exact hz, by simpa using rv⟩
  -- what is neither a table nor the script is untracked
  have off : ∀ {c : Addr} {o : Obj}, s₁.heap.get? c = some o → o.data ≠ .fields #[] → (∀ its m, o.data ≠ .seq its m) → H c = none := fun {c o} e d1 d2 => by
    cases q : H c with
    | none => rfl
    | some u =>
      rcases known c u q with ⟨h1, _⟩ | ⟨rfl, _, _⟩
      · have z := (atT c h1).1
        rw [e] at z
        cases z
        exact absurd rfl d1
      · rw [hA, hoa] at e
        cases e
        exact absurd rfl (d2 _ _)
  have offD : ∀ {c : Addr} {o : Obj} {es : Array DictEntry} {ep : Nat}, s₁.heap.get? c = some o → o.data = .dict es ep → H c = none := fun {c o es ep} e d => off e (fun z => by rw [d] at z; cases z) fun _ _ z => by rw [d] at z; cases z
  obtain ⟨base, hbase⟩ : ∃ base, base = hidT s₁.heap H := ⟨_, rfl⟩
  have toB : ∀ {c : Addr} {o : Obj}, s₁.heap.get? c = some o → H c = none → base.get? c = some o := fun e q => by rw [hbase]; exact hidT_get e q
  have nsB : ∀ {c : Addr} {m : PySem.Str → Option Value}, s₁.heap.Ns c m → base.Ns c m := fun {c m} ⟨o, es, ep, e, d, r⟩ => ⟨o, es, ep, toB e (offD e d), d, r⟩
  have inB : K.In base := fun c o e => toB (hK c o e) (by
    cases q : H c with
    | none => rfl
    | some u =>
      rcases known c u q with ⟨h1, _⟩ | ⟨rfl, h2, _⟩
      · rw [(atT c h1).2] at e
        cases e
      · rw [h2] at e
        cases e)
  have tabs : ∀ p ∈ cs, TabB base mg p.1 p.2 := fun p hp => by
    obtain ⟨o, us, file, tf, flags, tg, inF, txt, tt, e1, r1, r2, r3, r4, r5, r6, r7, r8, hne⟩ := tC p hp
    obtain ⟨bm, ob, b1, b2, b3, b4, b5, b6⟩ := hM
    obtain ⟨og, es, ep, eg, dg, _⟩ := id hN
    refine ⟨⟨o, us, file, tf, flags, tg, inF, txt, tt, toB e1 (off e1 (fun z => ?_) fun _ _ z => ?_), r1, r2, r3, r4, r5, r6, r7, r8, hne⟩, ⟨bm, ob, b1, b2, fun z => ?_, fun z => ?_, toB b3 (off b3 (fun z => ?_) fun _ _ z => ?_), b4, b5, b6⟩, fun z => ?_⟩
    · rw [r2] at z
      cases z
      simp at r3
    · rw [r2] at z
      cases z
    · rw [z, eg] at b3
      cases b3
      rw [dg] at b6
      cases b6
    · rw [z, tE p hp] at b3
      cases b3
      cases b6
    · rw [b6] at z
      cases z
    · rw [b6] at z
      cases z
    · rw [z, tE p hp] at eg
      cases eg
      cases dg
  have sysB : SysD base := let ⟨o, es, n, h1, h2, h3⟩ := hY; ⟨o, es, n, toB h1 (offD h1 h3), h2, h3⟩
  have M : L2.Mod K mg base := ⟨inB, nsB hN, ⟨mb, nsB hB, hBB⟩, let ⟨mc, h1, h2⟩ := hL; ⟨mc, nsB h1, h2⟩⟩
  have env : Env0 P w K mg base callerA [] s₁ H := ⟨rfl, M, fun c o e => of_hidT (by rw [← hbase]; exact e), by rw [hbase]; exact Nat.le_of_eq (hidT_size _ _), trivial, fun c hc => absurd (show c ∈ ([] : List Addr) from hc) (by simp), hok, .of_eq hG⟩
  have go := (hF base inB (nsB hN) tabs sysB).run callerA [] s₁ H ⟨[.ref a], []⟩ [.ref a] [.ref a] _ _ (fun _ => rfl) hR env (bind s₁ (.ref a)) (.cons rfl .nil) (hsp H a ns hn hbits (fun p hp => hT _ (by rw [hts]; exact List.mem_map.mpr ⟨p, hp, rfl⟩)) hS)
  refine codeAny_mono go fun r s' q => ?_
  cases r with
  | error e =>
    obtain ⟨_, _, _, _, _, _, _, _, _, _, _, _, z⟩ := q
    exact z.elim
  | ok fl =>
    cases fl with
    | next => exact q.elim
    | brk => exact q.elim
    | cont => exact q.elim
    | ret u =>
      obtain ⟨v, H', os, bare, un, ok', r', e⟩ := q
      have e : v = .bl true := e
      subst e
      obtain rfl : u = Value.bool true := r'
      have stays : ∀ c o, c ∉ ts → s₁.heap.get? c = some o → s'.heap.get? c = some o := fun c o hc e => by
        cases q : H c with
        | none => exact un.keep c o e q (fun z => absurd (show c ∈ ([] : List Addr) from z) (by simp)) (by simp)
        | some u =>
          rcases known c u q with ⟨h1, _⟩ | ⟨_, _, rfl⟩
          · exact absurd h1 hc
          · have z1 := (hok c _ q).1
            have z2 := (ok' c _ (un.frzs c _ _ q)).1
            rw [e] at z1
            cases z1
            exact z2
      have grown : ∀ p ∈ cs, ∃ more : Array Value, s'.heap.get? p.2 = some { cls := .none, data := .fields more } := fun p hp => by
        obtain ⟨more, z⟩ := un.tbls p.2 #[] (hT _ (by rw [hts]; exact List.mem_map.mpr ⟨p, hp, rfl⟩))
        exact ⟨_, ok' p.2 _ z⟩
      refine ⟨rfl, ⟨fun c o e => ?_, fun c o e => ?_⟩, os, bare⟩
      · by_cases hc : c ∈ ts
        · obtain ⟨p, hp, rfl⟩ := inT c hc
          obtain ⟨more, hm⟩ := grown p hp
          rw [tE p hp] at e
          cases e
          exact .inr (.inl ⟨((tC p hp).tab (tE p hp)).isCodeTable, rfl, #[], more, rfl, by rw [Array.empty_append]; exact hm⟩)
        · exact .inl (stays c o hc e)
      · by_cases hc : c ∈ ts
        · obtain ⟨p, hp, rfl⟩ := inT c hc
          obtain ⟨more, hm⟩ := grown p hp
          exact ⟨_, hm⟩
        · exact ⟨o, stays c o hc e⟩
theorem end_walk {l : PySem.W.OpenLaw} {n k : Nat} {q : Program} {loose : List PySem.Str} {XP : (PySem.Str → Option Value) → Heap → Prop} {YP : World → Heap → Prop} {d : DefRec} {x : PySem.Str} (hn : l.most = some n) (hz : n ≤ sizeLine) (hdf : d.params.defaults = []) (hR : Room k callerA)
    (F : ∀ (w : World) (mg : PySem.Str → Option Value) (fa : Addr) (h : Heap), YP w h → h.Ns mainGlobals mg → mg d.name = some (.ref fa) → ∃ K : PySem.W.Frag, K.In h ∧ SysD h ∧ End l.prog w K k n x mg fa h) : PySem.W.WalkO q loose XP YP l.row.toRowW d [] (fun f vs => PySem.call f vs) := by
  refine Att.attach_callB hn hdf fun w s₀ s₁ mg mb fa o pm cd doc a vs ns G Y ho hd hcd hmg hobj hints hlen hbits hg => ?_
  obtain ⟨K, hK, hS, Z⟩ := F w mg fa _ Y G.T.g hmg
  exact end_call Z hS hK G.T.g G.T.b G.T.builtins G.T.nolimit hg G.T.bmain hobj hints (Nat.le_trans hlen hz) hlen hbits hR
end Tw
end
/-! part Ox -/
section
set_option Elab.async false
set_option linter.all false
set_option maxRecDepth 100000
set_option maxHeartbeats 2000000
/-! Ox: exceptions of classes of one's own, with an own __init__ of one store, over any base; held as values, asked, read. -/
namespace Ox
open PySem
open PySem.HandSPX (excO)

/-! ### the call of such a class; the base of __new__ need not be the class's own built-in base -/
section
variable {prog : Program} {w : World} {M : Model} {A : Around} {E : Value → Shared → Prop} {R : Result → Shared → Prop} {h : Heap} {g : Array GenState} {d : Drawn} {t : Nat} {os : OsState}
variable {nm q : PySem.Str} {C N : Addr} {bs bm bB : List Value} {hdct : Bool} {sn : List PySem.Str} {sub : List Value} {ab : Bool} {col : Option Bool} {dd : Option Addr} {k0 k1 k2 k3 k5 : Option Value} {B nw ini : String}
/-- what is asked of the classes above -/
structure Up (B : String) (bm : List Value) : Prop where
  base : bm.contains (.type B) = true
  attr : bm.contains (.type "AttributeError") = false
  name : bm.contains (.type "NameError") = false
theorem Up.c (u : Up B bm) : (Value.ref C :: bm).contains (.type B) = true := by rw [List.contains_cons, u.base, Bool.or_true]
theorem Up.a (u : Up B bm) : (Value.ref C :: bm).contains (.type "AttributeError") = false := by rw [List.contains_cons, u.attr]; rfl
theorem Up.n (u : Up B bm) : (Value.ref C :: bm).contains (.type "NameError") = false := by rw [List.contains_cons, u.name]; rfl
theorem looked (F : ExcBaseFacts B nw ini bB) (u : Up B bm) {rest : List Value} {Q : Unit → Shared → Prop}
    (hC : h.get? C = some (excClassObj nm q C N bs bm hdct sn sub ab col dd k0 k1 k2 k3 k5 nw)) (hq : Q () ⟨h, g, d, t, os⟩) : wpAny M A (checkBuiltinCall nw ⟨.ref C :: rest, []⟩) Q E ⟨h, g, d, t, os⟩ := by
  have c1 := u.c (C := C)
  have c2 := F.noStar
  simp only [checkBuiltinCall, F.newKind, F.newSplit, F.newRow]
  repeat (first
    | refine wpAny_loadPart_at hC ?_
    | (refine wpAny_isSubtype_exc hC ?_
       rw [c1])
    | refine wpAny_staticBase_exc hC ?_
    | refine wpAny_madeBy_exc hC ?_
    | simp only [bne_self_eq_false, Bool.false_eq_true, if_false]
    | wp_step)
  exact hq
theorem newly (F : ExcBaseFacts B nw ini bB) (u : Up B bm) {rest : List Value}
    (hC : h.get? C = some (excClassObj nm q C N bs bm hdct sn sub ab col dd k0 k1 k2 k3 k5 nw))
    (hq : R (.ok (.ret (.ref (h.objs.size + 1)))) ⟨(h.push (W.kdv_tup rest)).push (excO C h.objs.size), g, d, t, os⟩) (hl : rest.length ≤ sizeLine) :
    codeAny (model prog w) A (.builtin nw ⟨.ref C :: rest, []⟩) R ⟨h, g, d, t, os⟩ := by
  have c0 := F.ends
  have c1 := u.c (C := C)
  have c2 := u.a (C := C)
  have c3 := u.n (C := C)
  refine codeAny_builtinAt F.entry ?_
  unfold Builtin.«BaseException.__new__»
  refine wpAt_bind ?_
  show wpAt _ _ _ (stack >>= _) _ _ _
  refine wpAt_bind (wpAt_stack fun p below => wpAt_of_wpAny ?_)
  wp_walk
  refine wpAt_of_wpAny ?_
  rw [F.owner]
  repeat (first
    | with_reducible refine wpAny_madeHere_exc F.canon hC ?_
    | with_reducible refine wpAny_loadPart_at hC ?_
    | (with_reducible refine wpAny_isSubtype_exc hC ?_
       first | rw [c1] | rw [c2] | rw [c3])
    | wp_step)
  show R _ _
  rw [Heap.size_push]
  exact hq
theorem typed (F : ExcBaseFacts B nw ini bB) (u : Up B bm) {rest : List Value} {fI : Addr} {Q : Fin → Shared → Prop}
    (hC : h.get? C = some (excClassObj nm q C N bs bm hdct sn sub ab col dd k0 k1 k2 k3 k5 nw))
    (hi : W.Looks (model prog w) h (typeLookup (.ref C) "__init__") (some (.ref fI))) (hb : ∀ self, W.Looks (model prog w) h (bindSpecial (.ref fI) self) (.ref fI, [self])) (hl : rest.length ≤ sizeLine)
    (hq : codeAny (model prog w) A (.call (.ref fI) ⟨.ref (h.objs.size + 1) :: rest, []⟩)
      (fun r s' => match r with
        | .ok (.ret v) => v = .none ∧ Q (.done (.ret (.ref (h.objs.size + 1)))) s'
        | .ok _ => False
        | .error e => E e s') ⟨(h.push (W.kdv_tup rest)).push (excO C h.objs.size), g, d, t, os⟩) :
    wpAny (model prog w) A (Builtin.«type.__call__» ⟨.ref C :: rest, []⟩) Q E ⟨h, g, d, t, os⟩ := by
  repeat (first
    | with_reducible refine wpAny_loadPart_at hC ?_
    | with_reducible refine wpAny_madeBy_exc hC ?_
    | wp_step)
  refine codeAny_call_builtin_code (Code.quiet_builtin _ F.quiet) (looked F u hC ?_)
  refine newly F u hC ?_ hl
  show wpAny _ _ _ _ _ _
  have kk : ∀ b o, h.get? b = some o → ((h.push (W.kdv_tup rest)).push (excO C h.objs.size)).get? b = some o := fun b o e => Heap.get?_push_of_some _ (Heap.get?_push_of_some _ e)
  have hC1 := kk _ _ hC
  have hnew : ((h.push (W.kdv_tup rest)).push (excO C h.objs.size)).get? (h.objs.size + 1) = some (excO C h.objs.size) := by heap_get
  have cC : (Value.ref C :: bm).contains (.ref C) = true := by simp
  have i1 := hi.keeps kk
  have b1 := (hb (.ref (h.objs.size + 1))).keeps kk
  unfold isInstance
  repeat (first
    | with_reducible refine wpAny_loadPart_at hnew ?_
    | (with_reducible refine wpAny_isSubtype_exc hC1 ?_
       rw [cC])
    | wp_step)
  show wpAny _ _ (typeLookup (.ref C) _) _ _ _
  refine i1.at ?_
  refine wpAny_holding (wpAny_bind (b1.at ?_))
  refine wpAny_bind (wpAny_call (codeAny_mono hq fun r s' z => ?_))
  rcases r with e | (v | _ | _ | _) <;> first | exact z | exact z.elim | skip
  obtain ⟨rfl, z⟩ := z
  first
    | exact wpAny_pure (wpAny_pure z)
    | (wp_walk; exact z)
theorem called (F : ExcBaseFacts B nw ini bB) (u : Up B bm) {rest : List Value} {fI : Addr}
    (hC : h.get? C = some (excClassObj nm q C N bs bm hdct sn sub ab col dd k0 k1 k2 k3 k5 nw))
    (hi : W.Looks (model prog w) h (typeLookup (.ref C) "__init__") (some (.ref fI))) (hb : ∀ self, W.Looks (model prog w) h (bindSpecial (.ref fI) self) (.ref fI, [self])) (hl : rest.length ≤ sizeLine)
    (hq : codeAny (model prog w) (A.under (.builtin "type.__call__" ⟨.ref C :: rest, []⟩)) (.call (.ref fI) ⟨.ref (h.objs.size + 1) :: rest, []⟩) (W.InitBack (h.objs.size + 1) R)
      ⟨(h.push (W.kdv_tup rest)).push (excO C h.objs.size), g, d, t, os⟩) :
    codeAny (model prog w) A (.call (.ref C) ⟨rest, []⟩) R ⟨h, g, d, t, os⟩ := by
  have f1 := tc_lookup
  have f2 := tc_bind (.ref C)
  have ty : (⟨h, g, d, t, os⟩ : Shared).TypeIs (.ref C) "type" := ⟨_, hC, rfl⟩
  refine codeAny_of_tree ?_
  show wpAny _ _ (callAny (.ref C) _) _ _ _
  repeat (any_goals (first
    | assumption
    | with_reducible refine wpAny_loadPart_at hC ?_
    | wp_step))
  refine ⟨rfl, ?_⟩
  refine codeAny_call_builtin_at (Code.quiet_builtin _ (by decide +kernel)) entry_typeCall (wpAny_check_type_call_sub hC (typed F u hC hi hb hl ?_))
  refine codeAny_mono hq fun r s' z => ?_
  rcases r with e | (v | _ | _ | _) <;> exact z
end
/-! ### self.name = v on it -/
section
variable {prog : Program} {w : World} {A : Around} {R : Result → Shared → Prop} {hp : Heap} {g : Array GenState} {d : Drawn} {t : Nat} {os : OsState}
/-- what the class's bases let -/
structure Lets (mro : List Value) : Prop where
  pass : ∀ self, refuseLoop self "__setattr__" mro = pure ()
  obj : mro.contains (.type "object") = true
  ne : mro.isEmpty = false
theorem stored {K : W.Frag} {name : PySem.Str} {tk : Tok} {v : Value} {x C : Addr} {fv : Array Value} {cd : ClassData}
    (X : K.In hp) (hx : hp.get? x = some { cls := .ref C, data := .fields fv }) (hcd : W.clsIn K C = some cd) (L : Lets cd.mro) (hh : cd.hasDict = true) (ha : W.findIn K (.ref C) name = some none)
    (hq : ∀ h' tk' dx, (∀ b o, b ≠ x → hp.get? b = some o → h'.get? b = some o) → hp.objs.size ≤ dx → dx ≠ x → h'.get? x = some { cls := .ref C, dict := some dx, data := .fields fv } →
      h'.Ns1 dx (fun y => if y = name then some v else none) → R (.ok (.ret .none)) ⟨h', g, d, tk', os⟩) :
    codeAny (model prog w) A (.call (.builtin "object.__setattr__") ⟨[.ref x, .str name tk, v], []⟩) R ⟨hp, g, d, t, os⟩ := by
  have I : W.InstAt hp x { cls := .ref C, data := .fields fv } C none := ⟨hx, rfl, rfl, trivial⟩
  have SF := F.store_object
  have L0 := I.type (M := model prog w)
  have hxs : x ≠ hp.objs.size := Nat.ne_of_lt (Heap.lt_size hx)
  have so : W.mroIn K C (.type "object") = some true := by
    unfold W.mroIn
    rw [hcd, Option.bind_some, if_neg (by rw [L.ne]; decide), L.obj]
  have sub : W.Looks (model prog w) hp (isInstance (.ref x) (.type "object")) true := L0.andThen (W.looks_mroIn X so)
  refine codeAny_call_builtin SF.slot.plain SF.entry ?_
  refine @W.check_slot (model prog w) _ _ ⟨hp, g, d, t, os⟩ "object.__setattr__" "object" "__setattr__" (.ref x) [.str name tk, v] [] _ SF.kind SF.split sub (SF.args (.ref x) (.str name tk) v) ?_
  have m1 : W.Looks (model prog w) hp (mroOf (.ref C)) cd.mro := (W.looks_clsIn X hcd).andThen .now
  have m2 : W.Looks (model prog w) hp (Builtin.ObjectAttr.storeTaker? none) none := .now
  have m3 : W.Looks (model prog w) hp (classData C) cd := W.looks_clsIn X hcd
  rw [W.osa_eq, refuse_eq]
  refine wpAny_bind (wpAny_bind (L0.at (wpAny_bind (m1.at ?_))))
  rw [L.pass]
  refine wpAny_pure (wpAny_bind (L0.at (wpAny_bind ((W.looks_findIn X ha).at (wpAny_bind (m2.at ?_))))))
  show wpAny _ _ (Builtin.ObjectAttr.storeInOwnDict (.ref x) (.ref C) (.str name tk) name v false) _ _ _
  obtain ⟨c1, c2, c3, c4, c5, c6, c7, c8, c9, c10, c11⟩ := cd
  dsimp only at hh
  subst hh
  unfold Builtin.ObjectAttr.storeInOwnDict Builtin.ObjectAttr.ownDictForStores
  repeat (first
    | with_reducible refine HandSPX.store_in_new ?_ ?_
    | with_reducible refine wpAny_loadPart_at hx ?_
    | with_reducible refine m3.at ?_
    | wp_step)
  · exact ⟨_, #[], _, (Heap.get?_update_ne _ _ _ _ hxs.symm).trans (Heap.get?_push_at rfl rfl), rfl, fun e he => absurd he (by simp), fun _ => rfl⟩
  · intro h' tk' hn hs
    have hx1 : (hp.push { cls := .type "dict", data := .dict #[] }).get? x = some { cls := .ref C, data := .fields fv } := Heap.get?_push_of_some _ hx
    refine hq h' tk' hp.objs.size ?_ (Nat.le_refl _) hxs.symm ?_ hn
    · intro b o hb ho
      exact (hs.2 b (Nat.ne_of_lt (Heap.lt_size ho))).trans ((Heap.get?_update_ne _ _ _ _ hb).trans (Heap.get?_push_of_some _ ho))
    · exact (hs.2 x hxs).trans (Heap.get?_update_self _ hx1 rfl)
end
end Ox
end
/-! part Oy -/
section
set_option Elab.async false
set_option linter.all false
set_option maxRecDepth 100000
set_option maxHeartbeats 2000000
/-! Oy: rules over the layer: such an exception made, asked by isinstance, read. -/
namespace Ox
open PySem PySem.Spec PyProof.Rows L2

/-- what the written part says of such a class, of its __init__ and the one field -/
structure OxC (K : PySem.W.Frag) (C fI : Addr) (f : PySem.Str) : Prop where
  cls : ∃ nm q N bs bm sn sub ab col dd k0 k1 k2 k3 k5 nw B ini bB, K.lookup C = some (excClassObj nm q C N bs bm true sn sub ab col dd k0 k1 k2 k3 k5 nw) ∧ ExcBaseFacts B nw ini bB ∧ Up B bm ∧ Lets (.ref C :: bm)
  sa : PySem.W.findIn K (.ref C) "__setattr__" = some (some (.builtin "object.__setattr__"))
  kC : PySem.W.keepIn K (.ref C) = true
  ini : PySem.W.findIn K (.ref C) "__init__" = some (some (.ref fI))
  tI : PySem.W.typeIn K (.ref fI) = some (.type "function")
  no : PySem.W.findIn K (.ref C) f = some none
section
variable {X : Cx} {pins : List (Addr × Obj)} {σ : L2.St} {H : Hp} {s : Shared} {a C fI dx : Addr} {f : PySem.Str} {y : V} {u : Value} {fs : List (PySem.Str × V)} {Q : Unit → Shared → Prop} {E : Value → Shared → Prop} {A : Around}
theorem put1 (T : OxC X.K C fI f) (I : Inv X pins σ H s) (e : H a = some (exo a C none)) (ry : RelV y u)
    (h : ∀ dx s', H dx = none → dx ≠ a → Inv X pins σ (upd (upd H dx (exd dx [(f, y)])) a (exo a C (some dx))) s' → Q () s') : wpAny (model X.prog X.w) A (setAttr (.ref a) f u) Q E s := by
  obtain ⟨nm, q, N, bs, bm, sn, sub, ab, col, dd, k0, k1, k2, k3, k5, nw, B, ini, bB, hC, _, _, hL⟩ := T.cls
  obtain ⟨cd, hcd, hmro, hdc⟩ : ∃ cd, PySem.W.clsIn X.K C = some cd ∧ cd.mro = .ref C :: bm ∧ cd.hasDict = true := by
    unfold PySem.W.clsIn
    rw [hC]
    exact ⟨_, rfl, rfl, rfl⟩
  obtain ⟨t1, ho⟩ := exo_at I.hok e
  obtain ⟨hp, g, d, t, os⟩ := s
  refine PySem.W.set_plain I.kIn (ox := { cls := .ref C, dict := none, data := .fields #[.ref t1, .none, .none, .none, .bool false, .none] }) (od := none) ⟨ho, rfl, rfl, trivial⟩ T.sa ?_
  refine stored I.kIn ho hcd (by rw [hmro]; exact hL) hdc T.no fun h' tk' dx k dn dne hx hn => ?_
  have hnd : H dx = none := I.hok.fresh dn
  have nd : ∀ {b : Addr} {o : Obj}, hp.get? b = some o → b ≠ dx := fun {b o} q => Nat.ne_of_lt (Nat.lt_of_lt_of_le (Heap.lt_size q) dn)
  have na : ∀ {b : Addr}, H b = none → b ≠ a := fun {b} n z => by rw [z, e] at n; cases n
  have U : Un X.fs [] H (upd (upd H dx (exd dx [(f, y)])) a (exo a C (some dx))) hp h' :=
    { keep := fun b o q n _ _ => k b o (na n) q
      slot := fun b o q n _ _ => ⟨o.slots, k b o (na n) q⟩
      free := fun b o q n _ => by
        rw [upd_ne (na n), upd_ne (nd q)]
        exact n
      there := fun b o q _ => by
        by_cases hb : b = a
        · exact ⟨_, hb ▸ hx⟩
        · exact ⟨o, k b o hb q⟩
      tups := fun b xs q => by
        rw [upd_ne (at_ne e q exo_tup), upd_ne (ne_of_none q hnd)]
        exact q
      frzs := fun b o v q => by
        rw [upd_ne (at_ne e q exo_frz), upd_ne (ne_of_none q hnd)]
        exact q
      tbls := fun b ps q => ⟨#[], by
        rw [upd_ne (at_ne e q exo_tbl), upd_ne (ne_of_none q hnd), q]
        simp⟩ }
  refine h dx _ hnd dne (I.un (t' := tk') U fun b o q => ?_)
  by_cases hb : b = a
  · subst hb
    rw [upd_same] at q
    cases q
    exact exo_ok hx
  · rw [upd_ne hb] at q
    by_cases hd : b = dx
    · subst hd
      rw [upd_same] at q
      cases q
      exact exd_ok hn (relO_put (fs := []) ry fun g => True.intro)
    · rw [upd_ne hd] at q
      refine (I.hok b o q).stay (fun c v hc z => k c v ?_ z) (fun c hc => ?_) fun c xs hc => ?_
      · rcases hc with hc | hc
        · rw [hc]; exact hb
        · exact at_ne e hc exo_own
      · rw [upd_ne (at_ne e hc exo_own), upd_ne (ne_of_none hc hnd)]
        exact hc
      · rw [upd_ne (at_ne e hc exo_tup), upd_ne (ne_of_none hc hnd)]
        exact hc
end
/-- what __init__ promises: it stores its argument -/
def spI (C : Addr) (f : PySem.Str) : Sp := fun vs H Q _ => ∃ (a : Addr) (v : V), vs = [.ref a, v] ∧ H a = some (exo a C none) ∧ ∀ dx, H dx = none → dx ≠ a → Q .non (upd (upd H dx (exd dx [(f, v)])) a (exo a C (some dx)))
/-- self.f = e -/
def tPut (C : Addr) (f : PySem.Str) (to te : TE) : TS := fun D σ H => te σ H fun y H1 => to σ H1 fun x H2 => ∃ a : Addr, x = .ref a ∧ H2 a = some (exo a C none) ∧ ∀ dx, H2 dx = none → dx ≠ a → D.nx σ (upd (upd H2 dx (exd dx [(f, y)])) a (exo a C (some dx)))
section
variable {X : Cx} {o e : Expr} {to te : TE} {C fI : Addr} {f : PySem.Str} {p' pos : Pos}
theorem ps_put (T : OxC X.K C fI f) (ho : PE X o to) (he : PE X e te) (hs : swapsWith e (some (.Attribute o f p')) pos.line X.env = pure false := by rfl) : PS X (.Assign [.Attribute o f p'] e pos) (tPut C f to te) := by
  refine ⟨fun pins s σ H D I h => ?_⟩
  refine plainObj_wpAny_Assign_Attribute (thn (he.run pins s σ H _ I h) fun v s1 ⟨y, H1, I1, r1, q1⟩ => thn (ho.run pins s1 σ H1 _ I1 q1) fun u s2 ⟨x, H2, I2, r2, a, ex, ea, q⟩ => ?_) hs
  subst ex
  obtain rfl : u = Value.ref a := r2
  exact put1 T I2 ea r1 fun dx s' n ne J => ⟨σ, _, J, q dx n ne⟩
end
/-- such an __init__ keeps its promise -/
theorem init_ok {P : Program} {w : World} {K : PySem.W.Frag} {mg : PySem.Str → Option Value} {base : Heap} {C fI : Addr} {f pn x qual : PySem.Str} {params : Arguments} {scope : Scope} {fd : FuncData} {p1 p2 p3 p4 : Pos}
    (T : OxC K C fI f) (F : FunD K x qual params [.Assign [.Attribute (.Name "self" p1) f p2] (.Name pn p3) p4] scope [] [] fI fd) (S : FnScope ["self", pn] ["self", pn] scope)
    (v0 : Vis scope "self") (v1 : Vis scope pn) (d1 : (pn == ("__debug__" : PySem.Str)) = false) (d2 : (pn == ("__classdict__" : PySem.Str)) = false) : FnOk P w K mg base (L2.CX P w) 1 fI fd ["self", pn] (spI C f) := by
  refine F.ok S (fun vs H Q E ⟨a, v, e, _⟩ => by rw [e]; rfl) fun cdv A outer s H vs Q E hr ⟨a, v, e, ea, q⟩ => ?_
  subst e
  exact ⟨_, pss_one (ps_put T (pe_var (i := 0) rfl v0 (by decide) (by decide)) (pe_var (i := 1) rfl v1 d1 d2)), ⟨v, rfl, ⟨.ref a, rfl, a, rfl, ea, q⟩⟩⟩
/-- C(e), made and held -/
def tMkV (C : Addr) (f : PySem.Str) (te : TE) : TE := fun σ H Q => te σ H fun v H1 => ∀ a dx, H1 a = none → H1 dx = none → dx ≠ a → Q (.ref a) (upd (upd (upd H1 a (exo a C none)) dx (exd dx [(f, v)])) a (exo a C (some dx)))
section
variable {X : Cx} {e : Expr} {te : TE} {ta : TA} {C fI : Addr} {f x pn : PySem.Str} {fd : FuncData} {k : Nat} {p pos : Pos}
theorem pe_mkv (T : OxC X.K C fI f) (F1 : FnOk X.prog X.w X.K X.mg X.base (L2.CX X.prog X.w) k fI fd ["self", pn] (spI C f)) (hr : Room (k + 1) X.A) (hb : Binds X.K fd ["self", pn] []) (hx : Passes (L2.CX X.prog X.w) X (fun _ _ _ => False))
    (hg : Gl X x) (hm : X.mg x = some (.ref C)) (he : PE X e te) (hdb : (x == ("__debug__" : PySem.Str)) = false := by decide) (hs : starEach [e] X.env = (false, eval e X.env) :: starEach [] X.env := by rfl) : PE X (.Call (.Name x p) [e] [] pos) (tMkV C f te) := by
  refine ⟨fun pins s σ H Q I h => ?_⟩
  obtain ⟨nm, q, N, bs, bm, sn, sub, ab, col, dd, k0, k1, k2, k3, k5, nw, B, ini, bB, hC, F, hU, _⟩ := T.cls
  refine wpAny_Call_Name_kw (ld_glob I hg hm ?_ hdb)
  refine PySem.W.callWith_K (h₀ := X.base) I.ok.mod.kin T.kC ?_ hs (by rfl)
  rw [hs]
  show wpAny _ _ (spliced ((false, eval e X.env) :: backTo pos (starEach [] X.env))) _ _ s
  refine Calls.spliced_cons (thn (he.run pins s σ H _ I h) fun u s1 ⟨v, H1, I1, r1, q1⟩ => ?_)
  refine Calls.spliced_nil ⟨I1.kIn, ?_⟩
  show wpAny _ _ (call (.ref C) [u]) _ _ _
  obtain ⟨hp, g, dr, tk, os⟩ := s1
  have hsz : hp.objs.size ≤ hp.objs.size + 1 := Nat.le_succ _
  have hn : H1 (hp.objs.size + 1) = none := I1.hok.fresh hsz
  have kk : ∀ b o, hp.get? b = some o → ((hp.push (PySem.W.kdv_tup [u])).push (PySem.HandSPX.excO C hp.objs.size)).get? b = some o := fun b o e => Heap.get?_push_of_some _ (Heap.get?_push_of_some _ e)
  have hget : ((hp.push (PySem.W.kdv_tup [u])).push (PySem.HandSPX.excO C hp.objs.size)).get? (hp.objs.size + 1) = some (PySem.HandSPX.excO C hp.objs.size) := by heap_get
  have I2 : Inv X pins σ (upd H1 (hp.objs.size + 1) (exo (hp.objs.size + 1) C none)) ⟨(hp.push (PySem.W.kdv_tup [u])).push (PySem.HandSPX.excO C hp.objs.size), g, dr, tk, os⟩ :=
    I1.laid (t' := tk) (a := hp.objs.size + 1) (o := exo (hp.objs.size + 1) C none) (h' := (hp.push (PySem.W.kdv_tup [u])).push (PySem.HandSPX.excO C hp.objs.size)) kk hsz (exo_ok hget)
  have r2 : Vals [V.ref (hp.objs.size + 1), v] [Value.ref (hp.objs.size + 1), u] := .cons rfl (.cons r1 .nil)
  have hsp : spI C f [V.ref (hp.objs.size + 1), v] (upd H1 (hp.objs.size + 1) (exo (hp.objs.size + 1) C none)) (fun z H2 => z = .non ∧ Q (.ref (hp.objs.size + 1)) H2) (fun _ _ _ => False) := by
    refine ⟨_, v, rfl, upd_same, fun dx hd hne => ⟨rfl, q1 _ dx hn ?_ hne⟩⟩
    rw [upd_ne hne] at hd
    exact hd
  refine wpAny_call (called F hU (I1.kIn _ _ hC) (PySem.W.looks_findIn I1.kIn T.ini) (fun self => PySem.W.bind_fn I1.kIn self T.tI) (by show 1 ≤ sizeLine; rw [sizeLine_eq]; omega)
    (codeAny_mono (F1.run _ X.stack _ _ ⟨[Value.ref (hp.objs.size + 1), u], []⟩ [Value.ref (hp.objs.size + 1), u] _ _ (fun _ _ _ => False) (hr.make C [u] []) (I2.env0.make C [u] []) (hb _ [Value.ref (hp.objs.size + 1), u] I2.kIn rfl) r2 hsp) fun r s' hq => ?_))
  cases r with
  | error er => exact hx pins σ _ _ er s' I2 hq
  | ok fl =>
    cases fl with
    | ret z =>
      obtain ⟨z1, H3, I3, r3, e3, q3⟩ := I2.after hq
      subst e3
      exact ⟨r3, .ref (hp.objs.size + 1), H3, I3, rfl, q3⟩
    | next => exact False.elim hq
    | brk => exact False.elim hq
    | cont => exact False.elim hq
end
/-! ### isinstance, reading -/
/-- what the class must say for isinstance -/
structure IsC (K : PySem.W.Frag) (C : Addr) : Prop where
  cl : (PySem.W.clsIn K C).isSome = true
  ga : PySem.W.findIn K (.ref C) "__getattribute__" = some (some (.builtin "BaseException.__getattribute__"))
  gg : PySem.W.findIn K (.ref C) "__getattr__" = some none
  sb : PySem.W.subIn K (.ref C) (.type "BaseException") = some true
  hd : PySem.W.hasDictIn K C = true
  ca : PySem.W.findIn K (.ref C) "__class__" = some (some (.builtin "object.__class__"))
  gt : PySem.W.specialIn K (.builtin "object.__class__") "__get__" = some (some (.builtin "getset_descriptor.__get__"))
  tk : PySem.W.takesIn K (.builtin "object.__class__") = some true
  ob : PySem.W.mroIn K C (.type "object") = some true
/-- an exception of the class at C at a: without fields, or with these -/
def ExAt (H : Hp) (a C : Addr) (fs : List (PySem.Str × V)) : Prop := (fs = [] ∧ Rd H a (ExO (.ref C) a)) ∨ ∃ dx, Rd H a (exo a C (some dx)) ∧ H dx = some (exd dx fs)
theorem rd_ext {P : Program} {w : World} {H : Hp} {h : Heap} {a : Addr} {φ : Heap → Prop} (hok : HOk P w H h) (r : Rd H a (.ext φ)) : φ h := by
  rcases r with r | ⟨o, r⟩
  · exact (hok a _ r).1
  · exact (hok a _ r).2.1
section
variable {X : Cx} {pins : List (Addr × Obj)} {σ : L2.St} {H : Hp} {s : Shared} {a C : Addr} {fs : List (PySem.Str × V)}
theorem inst_of (I : Inv X pins σ H s) (x : ExAt H a C fs) : ∃ (ox : Obj) (od : Option Obj), PySem.W.InstAt s.heap a ox C od ∧ ∀ f v, fs.lookup f = some v → ∃ (dx : Addr) (mA : PySem.Str → Option Value) (d0 : Obj), od = some d0 ∧ s.heap.get? dx = some d0 ∧ s.heap.Ns1 dx mA ∧ ∀ g, RelO (fs.lookup g) (mA g) := by
  rcases x with ⟨rfl, r⟩ | ⟨dx, r, ed⟩
  · obtain ⟨oe, vs, ho, hz, hd, _⟩ := rd_ext I.hok r
    refine ⟨oe, none, ⟨ho, hz.1, by unfold PySem.W.notCls; rw [hd] <;> rfl, by rw [hz.2]; trivial⟩, fun f v hl => by cases hl⟩
  · obtain ⟨t1, ho⟩ := rd_ext I.hok r
    obtain ⟨mA, hn, rel⟩ := exd_at I.hok ed
    obtain ⟨d0, es, ep, hd0, z⟩ := id hn
    exact ⟨_, some d0, ⟨ho, rfl, rfl, hd0⟩, fun f v hl => ⟨dx, mA, d0, rfl, hd0, hn, rel⟩⟩
/-- isinstance(x, c), x such an exception -/
def rIsX (K : PySem.W.Frag) : List V → Hp → VK → Prop := fun xs H Q => ∃ (a C : Addr) (fs : List (PySem.Str × V)) (c : V) (u : Value) (b : Bool), xs = [.ref a, c] ∧ ClsV c u ∧ ExAt H a C fs ∧ IsC K C ∧ PySem.W.kitOne K (.ref C) u = some b ∧ Q (.bl b) H
theorem call_isX : CallR X (.builtin "isinstance") (rIsX X.K) := by
  intro pins s σ H xs us Q I r h
  obtain ⟨a, C, fs, c, u, b, rfl, k, x, T, e, q⟩ := h
  obtain ⟨u1, u2, rfl, r1, r2⟩ := vals2 r
  have e2 := k.eq r2
  subst e2
  cases (show u1 = Value.ref a from r1)
  obtain ⟨ox, od, J, _⟩ := inst_of I x
  exact PySem.W.kia_one (PySem.W.kitx_exc T.cl T.ga T.gg T.sb T.ca T.gt T.tk T.ob) I.kIn J e (fun z => nomatch z) fun tk => ⟨.bl b, H, I.tok tk, rfl, q⟩
/-- x.f, x such an exception -/
def tRdX (K : PySem.W.Frag) (f : PySem.Str) (te : TE) : TE := fun σ H Q => te σ H fun x H1 => ∃ (a C : Addr) (fs : List (PySem.Str × V)) (v : V), x = .ref a ∧ ExAt H1 a C fs ∧ IsC K C ∧ PySem.W.findIn K (.ref C) f = some none ∧ fs.lookup f = some v ∧ Q v H1
theorem pe_rdx {e : Expr} {te : TE} {f : PySem.Str} {pos : Pos} (he : PE X e te) (hb : attributeBase e f X.env (eval e X.env) = eval e X.env := by rfl) : PE X (.Attribute e f pos) (tRdX X.K f te) := by
  refine ⟨fun pins s σ H Q I h => ?_⟩
  refine attr_of hb (thn (he.run pins s σ H _ I h) fun u s1 ⟨x, H1, I1, rx, a, C, fs, v, ex, xa, T, no, l, q⟩ => ?_)
  subst ex
  cases (show u = Value.ref a from rx)
  obtain ⟨ox, od, J, k⟩ := inst_of I1 xa
  obtain ⟨dx, mA, d0, e0, hd0, hn, rel⟩ := k f v l
  subst e0
  obtain ⟨d1, hd1, hl⟩ := lookIn_ns hn
  rw [hd0] at hd1
  cases hd1
  obtain ⟨u, hu, ru⟩ := RelO.some_of (v := v) (o := mA f) (by rw [← l]; exact rel f)
  exact HandSPX.exc_get I1.kIn J T.ga T.gg T.sb (PySem.W.findObj_own T.hd no rfl (by rw [hl, hu])) (handed_of ru) ⟨v, H1, I1.tok _, ru, q⟩
end
end Ox
end
/-! part Tw3a -/
section
set_option Elab.async false
set_option linter.all false
set_option maxRecDepth 100000
set_option maxHeartbeats 1000000
/-! Tw3a: exceptions as values, isinstance of them, their field, classes made, what is not run, how data is shown. -/
namespace Tw
open PySem PySem.Spec PyProof.Rows L2

section
variable {G : Gx} {Γ : Tw.Env} {E : XK} {X : Cx} {a b c : Expr} {A B C : Ex} {es : List Expr} {As : List Ex} {pos p p2 : Pos} {W : Wd}
/-! ### what is not run -/
theorem te_bad : PE X a (tE G Γ E .bad) := ⟨fun pins s σ H Q I ⟨W, σ', e, ok, rs, p⟩ => by unfold evE at p; exact False.elim p⟩
theorem s_bad {st : Stmt} : PS X st (tS G Γ E .bad) := ⟨fun pins s σ H D I ⟨W, σ', e, ok, rs, p⟩ => by unfold evS at p; exact False.elim p⟩
theorem ss_bad {ss : List Stmt} : PSs X ss (tSs G Γ E [.bad]) := ⟨fun pins s σ H D I ⟨W, σ', e, ok, rs, p⟩ => by
  unfold evSs evS at p
  exact False.elim p⟩
/-- a list or dict in a slot is taken as it is from here on -/
theorem ss_frz {ss : List Stmt} {Ss : List Tw.St} (i : Nat) (h : PSs X ss (tSs G Γ E Ss)) : PSs X ss (tSs G Γ E (.asg (.v i) (.frz (.v i)) :: Ss)) := by
  refine pss_imp h fun D σt H ⟨W, σ, e, ok, rs, p⟩ => ?_
  subst e
  unfold evSs evS evE at p
  cases q : σ[i]? with
  | none => unfold evE at p; rw [q] at p; exact False.elim p
  | some o =>
    cases o with
    | none => unfold evE at p; rw [q] at p; exact False.elim p
    | some t =>
      unfold evE at p
      rw [q] at p
      obtain ⟨v, e2, r⟩ := rs.2 i t trivial q
      have p : PostS G W (((frzR t W.h).bind fun t h => ofO ((Tg.put (.v i) t σ).map Fl.next) h).bind fun f h => match f with
        | .next σ => evSs Γ Ss σ h
        | f => .ok f h) D E := p
      have go : ∀ (W1 : Wd) (t1 : T), W1.H = W.H → Ext W W1 → W1.Ok G → RT G W1 t1 v → frzR t W.h = .ok t1 W1.h → tSs G Γ E Ss D σt W.H := fun W1 t1 eH ex ok1 r1 ef => by
        rw [ef] at p
        simp only [R.bind, Tg.put, Option.map_some, ofO] at p
        refine ⟨W1, σ.set i (some t1), eH, ok1, ⟨by rw [List.length_set]; exact rs.1, fun j t2 _ e3 => ?_⟩, Post.later (W := W) ex p⟩
        by_cases hj : i = j
        · subst hj
          rw [List.getElem?_set_self (List.getElem?_eq_some_iff.mp q).1] at e3
          cases e3
          exact ⟨v, e2, r1⟩
        · rw [List.getElem?_set_ne hj] at e3
          obtain ⟨v2, h1, h2⟩ := rs.2 j t2 trivial e3
          exact ⟨v2, h1, RT.ext ex _ _ h2⟩
      cases t with
      | ref k =>
        obtain ⟨ad, hb, rfl⟩ := id r
        have ex : Ext W ⟨W.H, W.β, W.h.set k none⟩ := .frz k
        cases hk : W.h[k]? with
        | none =>
          rw [show frzR (.ref k) W.h = .bad by simp [frzR, hk]] at p
          exact False.elim p
        | some o2 =>
          cases o2 with
          | none =>
            rw [show frzR (.ref k) W.h = .bad by simp [frzR, hk]] at p
            exact False.elim p
          | some mo =>
            have cq := ok.cont k mo ad hk hb
            cases mo with
            | lst l =>
              obtain ⟨vs, h1, r1⟩ := cq
              exact go ⟨W.H, W.β, W.h.set k none⟩ (.lst l) rfl ex (ok.frz k) ⟨ad, vs, rfl, .inl ⟨.of h1, notM_frz ok hk hb⟩, RTs.ext ex _ _ r1⟩ (by simp [frzR, hk])
            | dct ks vs =>
              obtain ⟨u, ws, h1, k1, r1⟩ := cq
              exact go ⟨W.H, W.β, W.h.set k none⟩ (.dct ks vs) rfl ex (ok.frz k) ⟨ad, u, ws, rfl, h1, notM_frz ok hk hb, k1, RTs.ext ex _ _ r1⟩ (by simp [frzR, hk])
            | ins c ns vs =>
              obtain ⟨hc, dx, fs, h1, k1, r1⟩ := cq
              exact go ⟨W.H, W.β, W.h.set k none⟩ (.ins c ns vs) rfl ex (ok.frz k) ⟨ad, fs, rfl, .inl ⟨hc, dx, h1, notM_frz ok hk hb⟩, k1, RTs.ext ex _ _ r1⟩ (by simp [frzR, hk])
      | _ => exact go W _ rfl (.refl W) ok r rfl
/-! ### exceptions as values -/
theorem te_mkx {C : Nat} {x : PySem.Str} (h1 : X.mg x = some (.ref (G.ca C))) (h2 : PySem.W.excIn G.K (G.ca C) He.veBase "ValueError.__new__" = true) (h3 : PySem.W.keepIn G.K (.ref (G.ca C)) = true) (hX : Cn G X) (hg : Gl X x) (ha : PE X a (tE G Γ E A))
    (hs : starEach [a] X.env = (false, eval a X.env) :: starEach [] X.env := by rfl) (hdb : (x == ("__debug__" : PySem.Str)) = false := by decide) : PE X (.Call (.Name x p) [a] [] pos) (tE G Γ E (.mkx C A)) := by
  have eK := hX.K
  refine pe_imp (pe_exc1 PySem.F.excBase_ValueError (by rw [eK]; exact h2) h1 (by rw [eK]; exact h3) hg ha hs hdb) fun σt H Q ⟨W, σ, e, ok, rs, p⟩ => ?_
  subst e
  unfold evE at p
  refine goE ok rs p fun W1 y v ex1 ok1 rs1 r1 p1 => fun q hq => ?_
  exact p1 ⟨upd W1.H q (ExO (.ref (G.ca C)) q), W1.β, W1.h⟩ _ rfl (.new hq) (ok1.new hq) ⟨q, [], rfl, .inr (.inl ⟨rfl, .of upd_same, fun z => ok1.notM hq z⟩), rfl, rfl⟩
/-- a class with an __init__ of one store, called by its name -/
structure MkI (G : Gx) (P : Program) (w : World) (mg : PySem.Str → Option Value) (base : Heap) (C a : Nat) (x : PySem.Str) : Prop where
  ex : ∃ (fI : Addr) (fd : FuncData) (pn : PySem.Str), Ox.OxC G.K (G.ca C) fI (G.fnm a) ∧ FnOk P w G.K mg base (L2.CX P w) 1 fI fd ["self", pn] (Ox.spI (G.ca C) (G.fnm a)) ∧ Binds G.K fd ["self", pn] [] ∧ mg x = some (.ref (G.ca C))
theorem preB_refl (n : Nat) : ∀ h : Hm, preB n h h = true := by
  have bq : (∀ t : T, T.beq t t = true) ∧ ∀ l : List T, T.beqs l l = true := by
    refine ⟨fun t => ?_, fun l => ?_⟩
    · exact T.rec (motive_1 := fun t => T.beq t t = true) (motive_2 := fun l => T.beqs l l = true) rfl (fun b => by simp [T.beq]) (fun _ => by simp [T.beq]) (fun _ => by simp [T.beq]) (fun l h => h) (fun l h => h) (fun a b h1 h2 => by simp [T.beq, h1, h2])
        (fun c n l h => by simp [T.beq, h]) (fun _ => by simp [T.beq]) rfl (fun t l h1 h2 => by simp [T.beqs, h1, h2]) t
    · exact T.rec_1 (motive_1 := fun t => T.beq t t = true) (motive_2 := fun l => T.beqs l l = true) rfl (fun b => by simp [T.beq]) (fun _ => by simp [T.beq]) (fun _ => by simp [T.beq]) (fun l h => h) (fun l h => h) (fun a b h1 h2 => by simp [T.beq, h1, h2])
        (fun c n l h => by simp [T.beq, h]) (fun _ => by simp [T.beq]) rfl (fun t l h1 h2 => by simp [T.beqs, h1, h2]) l
  have sq : ∀ o : Option MO, slotB o o = true := fun o => by
    cases o with
    | none => rfl
    | some m => cases m <;> simp [slotB, MO.beq, bq.2]
  intro h
  induction h with
  | nil => rfl
  | cons o h ih => simp [preB, sq, ih]
theorem ps_E0 : Passes (L2.CX X.prog X.w) X (fun _ _ _ => False) := fun pins σ H s e s' I q => by
  obtain ⟨_, _, _, _, _, _, _, _, _, _, _, _, z⟩ := q
  exact z.elim
theorem te_mkc {Φ : Nat → Option FD} {tf : Nat → R T → R T} {n f C k : Nat} {x : PySem.Str} (M : MkI G X.prog X.w X.mg X.base C k x) (hΦ : Φ f = some ⟨1, 1, [.ret (.mki C k (.v 0))]⟩) (hX : Cn G X) (hr : Room 2 X.A) (hg : Gl X x) (ha : PE X a (tE G ⟨Tw.call Φ tf n, tf⟩ E A))
    (hs : starEach [a] X.env = (false, eval a X.env) :: starEach [] X.env := by rfl) (hdb : (x == ("__debug__" : PySem.Str)) = false := by decide) : PE X (.Call (.Name x p) [a] [] pos) (tE G ⟨Tw.call Φ tf n, tf⟩ E (.call f [A])) := by
  obtain ⟨fI, fd, pn, OC, F, hb, hm⟩ := M.ex
  have eK := hX.K
  rw [← eK] at OC F hb
  refine pe_imp (Ox.pe_mkv OC F hr hb ps_E0 hg hm ha hdb hs) fun σt H Q ⟨W, σ, e, ok, rs, q⟩ => ?_
  subst e
  unfold evE evEs evEs at q
  rw [R_bind_assoc] at q
  refine goE ok rs q fun W1 y v ex1 ok1 rs1 r1 p1 => fun ad dx h1 h2 hne => ?_
  cases n with
  | zero => exact False.elim p1
  | succ n =>
    have hu : T.und W1.h.length y = true := RT.undOf (by rw [ok1.len]; exact Nat.le_refl _) y v r1
    have ev : Tw.call Φ tf (n + 1) f [y] W1.h = .ok (.ins C [k] [y]) W1.h := by
      have e1 : evSs ⟨Tw.call Φ tf n, tf⟩ [.ret (.mki C k (.v 0))] ([y].map some ++ List.replicate (1 - 1) none) W1.h = .ok (.ret (.ins C [k] [y])) W1.h := rfl
      have e2 : leave W1.h (.ins C [k] [y]) W1.h = .ok (.ins C [k] [y]) W1.h := by
        have e3 : T.und W1.h.length (.ins C [k] [y]) = true := by simp [T.und, T.unds, hu]
        simp [leave, e3, preB_refl]
      rw [Tw.call, hΦ]
      simp only [List.length_cons, List.length_nil, if_pos, e1, e2]
    have p2 : PostE G W1 (.ok (.ins C [k] [y]) W1.h) Q E := by
      rw [← ev]
      simpa [R.bind] using p1
    have W2ok : Wd.Ok G ⟨upd (upd (upd W1.H ad (exo ad (G.ca C) none)) dx (exd dx [(G.fnm k, v)])) ad (exo ad (G.ca C) (some dx)), W1.β, W1.h⟩ := by
      have e : upd (upd (upd W1.H ad (exo ad (G.ca C) none)) dx (exd dx [(G.fnm k, v)])) ad (exo ad (G.ca C) (some dx)) = upd (upd W1.H dx (exd dx [(G.fnm k, v)])) ad (exo ad (G.ca C) (some dx)) := by
        funext z
        by_cases hz : z = ad
        · rw [hz, upd_same, upd_same]
        · rw [upd_ne hz, upd_ne hz]
          by_cases hd : z = dx
          · rw [hd, upd_same, upd_same]
          · rw [upd_ne hd, upd_ne hd, upd_ne hz]
      rw [e]
      have o1 := ok1.new (o := exd dx [(G.fnm k, v)]) h2
      exact o1.new (p := ad) (by show upd W1.H dx _ ad = none; rw [upd_ne (Ne.symm hne)]; exact h1)
    have X2 : Ext W1 ⟨upd (upd (upd W1.H ad (exo ad (G.ca C) none)) dx (exd dx [(G.fnm k, v)])) ad (exo ad (G.ca C) (some dx)), W1.β, W1.h⟩ :=
      ⟨fun b o e nb _ => ⟨by
        show upd _ ad _ b = _
        rw [upd_ne (ne_of_none e h1), upd_ne (ne_of_none e h2), upd_ne (ne_of_none e h1)]
        exact e, nb⟩, fun _ _ e => e⟩
    refine p2 ⟨_, W1.β, W1.h⟩ _ rfl X2 W2ok ⟨ad, [(G.fnm k, v)], rfl, .inr (.inr ⟨dx, .of upd_same, fun z => ok1.notM h1 z, ?_, fun z => ok1.notM h2 z⟩), rfl, ⟨v, [], rfl, RT.ext X2 _ _ r1, rfl⟩⟩
    show upd _ ad _ dx = _
    rw [upd_ne hne, upd_same]
/-! ### isinstance -/
theorem te_isc {l : List Bool} {x : PySem.Str} {vc : V} {uc : Value} {p3 : Pos} (hX : Cn G X) (hg : Gl X "isinstance") (hm : X.mg "isinstance" = none) (hc : PE X (.Name x p2) (tC vc)) (k : ClsV vc uc)
    (hl : l.length ≤ plainC) (T : ∀ c r, l[c]? = some r → Ox.IsC G.K (G.ca c) ∧ PySem.W.kitOne G.K (.ref (G.ca c)) uc = some r) (ha : PE X a (tE G Γ E A)) (hvi : bootBuiltins "isinstance" = some (.builtin "isinstance") := by rfl)
    (he : starEach [a, .Name x p2] X.env = (false, eval a X.env) :: starEach [.Name x p2] X.env := by rfl) (he2 : starEach [.Name x p2] X.env = (false, eval (.Name x p2) X.env) :: starEach [] X.env := by rfl) (hpl : (backTo pos (starEach [.Name x p2] X.env)).any (·.1) = false := by rfl) :
    PE X (.Call (.Name "isinstance" p) [a, .Name x p2] [] pos) (tE G Γ E (.isc A l)) := by
  refine pe_imp (pe_callB Ox.call_isX hg hm hvi (pa_cons ha (pa_cons hc pa_nil he2) he) (by decide) (by decide) he hpl) fun σt H Q ⟨W, σ, e, ok, rs, q⟩ => ?_
  subst e
  unfold evE at q
  refine goE ok rs q fun W1 y v ex1 ok1 rs1 r1 p1 => ?_
  obtain ⟨r, e, p2⟩ := ofOmap p1
  have lt := look_LT ok1 r1
  unfold iscO at e
  split at e
  · rename_i c ns vs he
    rw [he] at lt
    obtain ⟨ad, fs, rfl, f, k1, r2⟩ := lt
    obtain ⟨t1, t2⟩ := T c r e
    rcases f with ⟨hc1, _⟩ | f
    · have := (List.getElem?_eq_some_iff.mp e).1
      omega
    · exact ⟨ad, G.ca c, fs, vc, uc, r, rfl, k, f, hX.K ▸ t1, hX.K ▸ t2, Post.here (rel := RT G) (a := .bl r) ok1 p2 rfl⟩
  · exact False.elim (by cases e)
theorem bv_isc (A : Ex) (l : List Bool) (σ : Sl) (h : Hm) : evB Γ (.isc A l) σ h = (evE Γ (.isc A l) σ h).bind fun x h => ofO (truth (look h x)) h := by
  have e : evE Γ (.isc A l) σ h = (evE Γ A σ h).bind fun x h => ofO ((iscO l (look h x)).map T.bl) h := by rw [evE]
  rw [e]
  unfold evB
  rw [R_bind_assoc]
  congr 1
  funext x h
  cases iscO l (look h x) <;> rfl
/-! ### the field -/
theorem te_att {f C : Nat} {x : PySem.Str} (hX : Cn G X) (hx : x = G.fnm f) (hC : C < plainC) (T1 : Ox.IsC G.K (G.ca C)) (T2 : PySem.W.findIn G.K (.ref (G.ca C)) x = some none) (ha : PE X a (tE G Γ E A))
    (hb : attributeBase a x X.env (eval a X.env) = eval a X.env := by rfl) : PE X (.Attribute a x pos) (tE G Γ E (.att A C f)) := by
  refine pe_imp (Ox.pe_rdx ha hb) fun σt H Q ⟨W, σ, e, ok, rs, q⟩ => ?_
  subst e
  unfold evE at q
  refine goE ok rs q fun W1 y v ex1 ok1 rs1 r1 p1 => ?_
  obtain ⟨r, e, p2⟩ := p1.of_ofO
  have lt := look_LT ok1 r1
  unfold attO at e
  split at e
  · rename_i c n w he
    rw [he] at lt
    obtain ⟨ad, fs, rfl, fz, k1, r2⟩ := lt
    split at e
    · rename_i hn
      obtain ⟨rfl, rfl⟩ := hn
      cases e
      rcases fz with ⟨hc1, _⟩ | fz
      · omega
      · match fs, k1, r2, fz with
        | [(g, v1)], k1, r2, fz =>
          have k1 : g = G.fnm n := by simpa using k1
          subst k1
          obtain ⟨v2, r3, e3, r4, _⟩ := r2
          have e3 : [v1] = v2 :: r3 := e3
          cases e3
          exact ⟨ad, G.ca c, [(G.fnm n, v1)], v1, rfl, fz, hX.K ▸ T1, hX.K ▸ T2, by rw [hx]; simp [List.lookup], Post.here ok1 p2 r4⟩
    · cases e
  · cases e
/-! ### a class made whose __init__ is an own def -/
theorem fnx_ok {P : Program} {w : World} {mg : PySem.Str → Option Value} {base : Heap} {k : Nat} {f : Addr} {fd : FuncData} {ps : List PySem.Str} {sp : Sp} (F : FnX P w G.K mg base false k f fd ps sp) : FnOk P w G.K mg base (L2.CX P w) k f fd ps sp :=
  ⟨F.len, fun A outer s H args us vs Q E hr e0 hb r h => F.run A outer s H args us vs Q E (fun z => Bool.noConfusion z) hr e0 hb r h⟩
theorem te_mkn {Φ : Nat → Option FD} {tf : Nat → R T → R T} {n f C : Nat} {x : PySem.Str} {fI : Addr} {fd : FuncData} {ps : List PySem.Str} (hC : plainC ≤ C) (M : Mk G.K (G.ca C) fI) (F : FnX X.prog X.w G.K X.mg X.base false (5 * n) fI fd ps (spF G Φ tf n f)) (hbi : Binds G.K fd ps []) (hm : X.mg x = some (.ref (G.ca C)))
    (hX : Cn G X) (hr : Room (5 * n + 1) X.A) (hx : Passes (L2.CX X.prog X.w) X E) (hg : Gl X x) (ha : PA X (a :: es) (tA G ⟨Tw.call Φ tf n, tf⟩ E As))
    (hdb : (x == ("__debug__" : PySem.Str)) = false := by decide) (he : starEach (a :: es) X.env = (false, eval a X.env) :: starEach es X.env := by rfl) (hpl : (backTo pos (starEach es X.env)).any (·.1) = false := by rfl) :
    PE X (.Call (.Name x p) (a :: es) [] pos) (tE G ⟨Tw.call Φ tf n, tf⟩ E (.mkn C f As)) := by
  have eK := hX.K
  have F' := fnx_ok F
  rw [← eK] at M F' hbi
  refine pe_imp (pe_make M F' hr hg hm hbi .nil hx ha hdb he hpl) fun σt H Q ⟨W, σ, e, ok, rs, q⟩ => ?_
  subst e
  unfold evE at q
  refine goA ok rs q fun W1 ts vs ex1 ok1 rs1 r1 p1 => fun ad dx h1 h2 hne => ?_
  rw [List.append_nil]
  have o1 := ok1.new (o := .own ad) h2
  have hp2 : upd W1.H dx (.own ad) ad = none := by rw [upd_ne (Ne.symm hne)]; exact h1
  have X2a : Ext W1 ⟨upd W1.H dx (.own ad), W1.β, W1.h⟩ := .new h2
  have X2 : Ext ⟨upd W1.H dx (.own ad), W1.β, W1.h⟩ ⟨upd (upd W1.H dx (.own ad)) ad (.ins (G.ca C) dx []), W1.β ++ [ad], W1.h ++ [some (.ins C [] [])]⟩ := Ext.newM o1 hp2
  have ok2 := o1.newM (mo := .ins C [] []) hp2 ⟨hC, dx, [], upd_same, rfl, rfl⟩
  have X3 := X2a.trans X2
  have hb : (W1.β ++ [ad])[W1.h.length]? = some ad := by
    have := ok1.len
    rw [← this]
    simp
  refine ⟨⟨upd (upd W1.H dx (.own ad)) ad (.ins (G.ca C) dx []), W1.β ++ [ad], W1.h ++ [some (.ins C [] [])]⟩, .ref W1.h.length :: ts, rfl, ok2, ⟨.ref ad, vs, rfl, ⟨ad, hb, rfl⟩, RTs.ext X3 _ _ r1⟩, ?_⟩
  have p2 := Post.later X3 p1
  refine Post.mono (Post.seq (W := ⟨upd (upd W1.H dx (.own ad)) ad (.ins (G.ca C) dx []), W1.β ++ [ad], W1.h ++ [some (.ins C [] [])]⟩) (r := Tw.call Φ tf n f (.ref W1.h.length :: ts) (W1.h ++ [some (.ins C [] [])])) p2) fun v H1 ⟨W4, t, e4, ex4, ok4, r4, p4⟩ => ?_
  subst e4
  cases t with
  | non =>
    cases r4
    exact ⟨rfl, frz_post (x := .ref W1.h.length) ok4 ⟨ad, ex4.bet _ _ hb, rfl⟩ p4⟩
  | _ => exact False.elim p4
end
end Tw
end
/-! part Tw3b -/
section
set_option Elab.async false
set_option linter.all false
set_option maxRecDepth 100000
set_option maxHeartbeats 1000000
/-! Tw3b: a dict of one written pair; how data is shown. -/
namespace Tw
open PySem PySem.Spec PyProof.Rows L2

/-- the dict that was just laid is empty still -/
def Emp (H : Hp) (p : Addr) : Prop := H p = some (.dK []) ∨ H p = some (.dT [])
theorem items_are {P : Program} {w : World} : ∀ {ks : List Key} {us : List Value}, Vals (ks.map kV) us → ItemsAre (mixKind P w) ks us
  | [], _, .nil => .nil
  | k :: ks, _, .cons r rs => .cons (kV_is r) (items_are rs)
theorem emp_ok {P : Program} {w : World} {H : Hp} {h : Heap} {p : Addr} (hok : HOk P w H h) (e : Emp H p) : (p == sysModules) = false ∧ h.DictOfH (tupleKind (mixKind P w)) p [] ∧ h.DictOf (mixKind P w) p [] := by
  have go : ∀ {o : Obj} {es : Array DictEntry} {ep : Nat}, h.get? p = some o → o.ExactDict → o.data = .dict es ep → es.toList = [] → h.DictOfH (tupleKind (mixKind P w)) p [] ∧ h.DictOf (mixKind P w) p [] := fun {o es ep} h1 h2 h3 h4 => by
    obtain ⟨l⟩ := es
    have h4 : l = [] := h4
    subst h4
    exact ⟨⟨o, _, ep, h1, h2, h3, rfl, fun _ hx => absurd hx (by simp), by simp⟩, ⟨o, _, ep, h1, h2, h3, fun e he => absurd he (by simp), .nil, by simp⟩⟩
  rcases e with e | e
  · obtain ⟨_, hS, vs, r, o, es, ep, h1, h2, h3, _, h5, _⟩ := dk_of hok e
    cases r
    cases hl : es.toList with
    | nil => exact ⟨hS, go h1 h2 h3 hl⟩
    | cons a l => rw [hl] at h5; cases h5
  · obtain ⟨_, hS, xs, r, o, es, ep, h1, h2, h3, h4, _⟩ := dt_of hok e
    cases r
    exact ⟨hS, go h1 h2 h3 h4⟩
theorem emp_mut {H : Hp} {p : Addr} (e : Emp H p) : Mut (H p) := by
  rcases e with e | e <;> rw [e] <;> exact True.intro
/-- {k: v}, the key an int or a text | a tuple of such -/
def tOneK (tk tv : TE) : TE := fun σ H Q => ∀ p, H p = none → tk σ (upd H p (.dK [])) fun x H1 => tv σ H1 fun y H2 => Emp H2 p ∧ ∃ k : Key, x = kV k ∧ Q (.ref p) (upd H2 p (.dK [(k, y)]))
def tOneT (tk tv : TE) : TE := fun σ H Q => ∀ p, H p = none → tk σ (upd H p (.dK [])) fun x H1 => tv σ H1 fun y H2 => Emp H2 p ∧ ∃ (b : Addr) (k : List Key), x = .ref b ∧ H2 b = some (.tup (k.map kV)) ∧ Q (.ref p) (upd H2 p (.dT [(k, y)]))
section
variable {X : Cx} {k v : Expr} {tk tv : TE} {pos : Pos}
theorem pe_oneK (hk : PE X k tk) (hv : PE X v tv) : PE X (.Dict [some k] [v] pos) (tOneK tk tv) := by
  refine ⟨fun pins s σ H Q I q => ?_⟩
  have hn := I.hok.fresh (Nat.le_refl s.heap.objs.size)
  have I1 := I.laid (a := s.heap.objs.size) (o := .dK []) (h' := s.heap.push { cls := .type "dict", data := .dict #[] }) (t' := s.toks) (fun _ _ q => Heap.get?_push_of_some _ q) (Nat.le_refl _) (dk_empty s.heap I.big)
  refine wpAny_Dict_walk (knd := mixKind X.prog X.w) rfl rfl (by simp) (by simp) (thn ((pps_cons hk hv (pps_nil (X := X) (pos := pos))).run pins _ σ _ (fun ps H2 => match ps with
    | [(x, y)] => Emp H2 s.heap.objs.size ∧ ∃ kk : Key, x = kV kk ∧ Q (.ref s.heap.objs.size) (upd H2 s.heap.objs.size (.dK [(kk, y)]))
    | _ => False) I1 (q _ hn)) fun vs s1 ⟨ps, H2, I2, rel, z⟩ => ?_)
  match ps, vs, rel, z with
  | [(x, y)], _, .cons (b := vp) rp .nil, z =>
    obtain ⟨e0, kk, rfl, q2⟩ := z
    obtain ⟨vk, vv⟩ := vp
    obtain ⟨r1, r2⟩ := rp
    obtain ⟨hS, _, dd⟩ := emp_ok I2.hok e0
    refine ⟨[(kk, vv)], ⟨kV_is r1, rfl, True.intro⟩, dd, fun h' dd' hs => ?_⟩
    exact ⟨.ref s.heap.objs.size, _, d_write I2 (emp_mut e0) hs (let ⟨q, _, _, hq, _⟩ := dd'; ⟨q, hq⟩) (dk_new (by show 1 ≤ sizeLine; rw [sizeLine_eq]; omega) hS (.cons ⟨rfl, r2⟩ .nil) dd'), rfl, q2⟩
theorem pe_oneT (hu : X.A.units + 64 < cLine) (hk : PE X k tk) (hv : PE X v tv) : PE X (.Dict [some k] [v] pos) (tOneT tk tv) := by
  refine ⟨fun pins s σ H Q I q => ?_⟩
  have hn := I.hok.fresh (Nat.le_refl s.heap.objs.size)
  have I1 := I.laid (a := s.heap.objs.size) (o := .dK []) (h' := s.heap.push { cls := .type "dict", data := .dict #[] }) (t' := s.toks) (fun _ _ q => Heap.get?_push_of_some _ q) (Nat.le_refl _) (dk_empty s.heap I.big)
  have hs : (evalEachOpt [some k] X.env).zip ((evalEach [v] X.env).map fun v => do let x ← v; standAt pos; pure x) = (pairTrees [some k] [v] X.env pos).map fun p => (some p.1, p.2) := rfl
  rw [arm_eval_Dict, hs, dictDisplay_pairs (pairTrees [some k] [v] X.env pos) (by simp [pairTrees]) (by simp [pairTrees])]
  refine wpAny_bind (wpAny_standAt (wpAny_bind (wpAny_subDictH (knd := tupleKind (mixKind X.prog X.w)) (Q := fun d s' => wpAny (model X.prog X.w) X.A (pure (Value.ref d)) (EP X pins σ Q) X.xe s') (by show X.A.units < cLine; omega) (by simp [pairTrees]) ?_)))
  refine wpAny_mono ((pps_cons hk hv (pps_nil (X := X) (pos := pos))).run pins _ σ _ (fun ps H2 => match ps with
    | [(x, y)] => Emp H2 s.heap.objs.size ∧ ∃ (b : Addr) (kk : List Key), x = .ref b ∧ H2 b = some (.tup (kk.map kV)) ∧ Q (.ref s.heap.objs.size) (upd H2 s.heap.objs.size (.dT [(kk, y)]))
    | _ => False) I1 (q _ hn)) (fun vs s1 z => ?_) fun _ _ z => z
  obtain ⟨ps, H2, I2, rel, z⟩ := z
  match ps, vs, rel, z with
  | [(x, y)], _, .cons (b := vp) rp .nil, z =>
    obtain ⟨e0, b, kk, rfl, eb, q2⟩ := z
    obtain ⟨vk, vv⟩ := vp
    obtain ⟨r1, r2⟩ := rp
    have r1 : vk = Value.ref b := r1
    subst r1
    obtain ⟨hS, dd, _⟩ := emp_ok I2.hok e0
    obtain ⟨_, its, rv, o, ho, hc, n, hd⟩ := I2.hok b _ eb
    have isk : IsTupleKey (mixKind X.prog X.w) s1.heap kk b := ⟨o, _, n, ho, hc, hd, by simpa using items_are rv⟩
    refine ⟨[(kk, b, vv)], ⟨rfl, rfl, isk, True.intro⟩, dd, fun h' tk' dd' sb => wpAny_pure ?_⟩
    have hx : storedAllH [] [(kk, b, vv)] = [(kk, b, vv)] := rfl
    rw [hx] at dd'
    have bne : b ≠ s.heap.objs.size := fun z => by rcases e0 with e0 | e0 <;> (rw [z, e0] at eb; cases eb)
    refine ⟨.ref s.heap.objs.size, _, d_write I2 (emp_mut e0) sb (let ⟨q, _, _, hq, _⟩ := dd'; ⟨q, hq⟩) ?_, rfl, q2⟩
    obtain ⟨o', es, ep, ho', hx', hd', he', hi', hn'⟩ := dd'
    exact ⟨by show 1 ≤ sizeLine; rw [sizeLine_eq]; omega, hS, [(kk, b, vv)], .cons ⟨rfl, by rw [upd_ne bne]; exact eb, r2⟩ .nil, o', es, ep, ho', hx', hd', he', hn'⟩
end
section
variable {G : Gx} {Γ : Tw.Env} {E : XK} {X : Cx} {a b c : Expr} {A B C : Ex} {es : List Expr} {As : List Ex} {pos p p2 : Pos} {W : Wd}
theorem atom_key {W : Wd} {t : T} {v : V} (h : isAtom t = true) (r : RT G W t v) : ∃ k : Key, v = kV k ∧ t = kT k := by
  cases t with
  | int i => cases r; exact ⟨.inl i, rfl, rfl⟩
  | str s => obtain ⟨rfl, _⟩ := r; exact ⟨.inr (tx s), rfl, by simp [kT, tx]⟩
  | _ => cases h
theorem atoms_keys {W : Wd} : ∀ {l : List T} {vs : List V}, l.all isAtom = true → RTs G W l vs → ∃ ks : List Key, vs = ks.map kV ∧ l = ks.map kT
  | [], vs, _, r => by cases r; exact ⟨[], rfl, rfl⟩
  | t :: l, vs, h, r => by
    obtain ⟨v, ws, rfl, r1, r2⟩ := r
    simp only [List.all_cons, Bool.and_eq_true] at h
    obtain ⟨k, rfl, rfl⟩ := atom_key h.1 r1
    obtain ⟨ks, rfl, rfl⟩ := atoms_keys h.2 r2
    exact ⟨k :: ks, rfl, rfl⟩
/-- the display's way: the empty dict stands while its parts are made -/
theorem one_post {W2 : Wd} {σ : Sl} {p : Addr} {i : Nat} {x y : T} {v : V} {o : HO} {Q : VK} (ok2 : W2.Ok G) (hi : W2.β[i]? = some p) (r2 : RT G W2 y v)
    (p2 : PostE G W2 (match W2.h[i]? with
      | some (some (.dct [] [])) => .ok (.dct [x] [y]) (W2.h.set i none)
      | _ => .bad) Q E) (ho : DO [x] [v] o) : (∃ u, W2.H p = some u ∧ DO [] [] u) ∧ Q (.ref p) (upd W2.H p o) := by
  split at p2
  · rename_i e
    obtain ⟨u, ws, h1, k1, r1⟩ := ok2.cont i _ p e hi
    cases r1
    refine ⟨⟨u, h1, k1⟩, ?_⟩
    have ex : Ext W2 ⟨upd W2.H p o, W2.β, W2.h.set i (some (.dct [x] [y]))⟩ := Ext.set e hi
    have okS := ok2.set (mo' := .dct [x] [y]) (o := o) e hi ⟨o, [v], upd_same, ho, ⟨v, [], rfl, RT.ext ex _ _ r2, rfl⟩⟩
    have hl : i < W2.h.length := (List.getElem?_eq_some_iff.mp e).1
    have e3 : (W2.h.set i (some (.dct [x] [y])))[i]? = some (some (.dct [x] [y])) := List.getElem?_set_self hl
    have exF : Ext ⟨upd W2.H p o, W2.β, W2.h.set i (some (.dct [x] [y]))⟩ ⟨upd W2.H p o, W2.β, (W2.h.set i (some (.dct [x] [y]))).set i none⟩ := Ext.frz (W := ⟨upd W2.H p o, W2.β, W2.h.set i (some (.dct [x] [y]))⟩) i
    have okF := okS.frz i
    have eh : (W2.h.set i (some (.dct [x] [y]))).set i none = W2.h.set i none := List.set_set ..
    exact p2 ⟨upd W2.H p o, W2.β, (W2.h.set i (some (.dct [x] [y]))).set i none⟩ _ eh (ex.trans exF) okF ⟨p, o, [v], rfl, upd_same, notM_frz (W := ⟨upd W2.H p o, W2.β, W2.h.set i (some (.dct [x] [y]))⟩) okS e3 hi, ho, ⟨v, [], rfl, RT.ext (ex.trans exF) _ _ r2, rfl⟩⟩
  · exact False.elim p2
theorem isKey_tup {x : T} {v : V} {W : Wd} (h : isKey x = true) (r : RT G W x v) : (∃ k : Key, v = kV k ∧ x = kT k) ∨ ∃ (b : Addr) (ks : List Key), v = .ref b ∧ x = .tup (ks.map kT) ∧ FzT G.K W b (ks.map kV) := by
  cases x with
  | tup l =>
    obtain ⟨b, vs, rfl, f, r1⟩ := r
    obtain ⟨ks, rfl, rfl⟩ := atoms_keys (by simpa [isKey] using h) r1
    exact .inr ⟨b, ks, rfl, rfl, f⟩
  | int i => exact .inl (atom_key rfl r)
  | str s => exact .inl (atom_key rfl r)
  | _ => cases h
/-- {k: v}, k an int or a text -/
theorem te_dct1 (ha : PE X a (tE G Γ E A)) (hb : PE X b (tE G Γ E B)) (hat : ∀ σ h x h', evE Γ A σ h = .ok x h' → isAtom x = true) : PE X (.Dict [some a] [b] pos) (tE G Γ E (.dct1 A B)) := by
  refine pe_imp (pe_oneK ha hb) fun σt H Q ⟨W, σ, e, ok, rs, q⟩ => ?_
  subst e
  unfold evE at q
  intro ad had
  have ex0 : Ext W ⟨upd W.H ad (.dK []), W.β ++ [ad], W.h ++ [some (.dct [] [])]⟩ := Ext.newM ok had
  have ok0 := ok.newM (mo := .dct [] []) (o := .dK []) had ⟨_, [], upd_same, .inl ⟨[], rfl, rfl, rfl⟩, rfl⟩
  have hb0 : (W.β ++ [ad])[W.h.length]? = some ad := by rw [← ok.len]; simp
  have q0 := Post.later ex0 q
  refine ⟨⟨upd W.H ad (.dK []), W.β ++ [ad], W.h ++ [some (.dct [] [])]⟩, σ, rfl, ok0, rs.ext ex0, ?_⟩
  have hat' := hat σ (W.h ++ [some (.dct [] [])])
  cases q1 : evE Γ A σ (W.h ++ [some (.dct [] [])]) with
  | bad => rw [q1] at q0; exact q0
  | exc c ts h1 => rw [q1] at q0; exact q0
  | ok x h1 =>
    rw [q1] at q0
    have hx := hat' x h1 q1
    intro W1 v e1 ex1 ok1 r1
    subst e1
    have q2 : PostE G W1 ((evE Γ B σ W1.h).bind fun y h2 => if isKey x then (match h2[W.h.length]? with
      | some (some (.dct [] [])) => .ok (.dct [x] [y]) (h2.set W.h.length none)
      | _ => .bad) else .bad) Q E := Post.later ex1 q0
    refine ⟨W1, σ, rfl, ok1, (rs.ext ex0).ext ex1, ?_⟩
    refine q2.seq.mono fun w H2 ⟨W2, y, e2, ex2, ok2, r2, p2⟩ => ?_
    subst e2
    obtain ⟨k, rfl, rfl⟩ := atom_key hx r1
    have kk : isKey (kT k) = true := by cases k <;> rfl
    rw [if_pos kk] at p2
    obtain ⟨⟨u, h1, d0⟩, p4⟩ := one_post (σ := σ) (o := .dK [(k, w)]) ok2 (ex2.bet _ _ (ex1.bet _ _ hb0)) r2 p2 (.inl ⟨[(k, w)], rfl, rfl, rfl⟩)
    refine ⟨?_, k, rfl, p4⟩
    rcases d0 with ⟨kvs, rfl, hk, _⟩ | ⟨kvs, rfl, hk, _⟩
    · have : kvs = [] := by cases kvs <;> first | rfl | cases hk
      exact .inl (this ▸ h1)
    · have : kvs = [] := by cases kvs <;> first | rfl | cases hk
      exact .inr (this ▸ h1)
/-- {(..): v}, the key a written tuple of ints and texts -/
theorem te_dct1t {kt pt} (hu : X.A.units + 64 < cLine) (ha : PA X es (tA G Γ E As)) (hb : PE X b (tE G Γ E B)) (hz : decide (As.length ≤ lim) = true := by decide) : PE X (.Dict [some (.Tuple es kt pt)] [b] pos) (tE G Γ E (.dct1 (.tup As) B)) := by
  refine pe_imp (pe_oneT hu (pe_tup ha) hb) fun σt H Q ⟨W, σ, e, ok, rs, q⟩ => ?_
  subst e
  unfold evE at q
  intro ad had
  have ex0 : Ext W ⟨upd W.H ad (.dK []), W.β ++ [ad], W.h ++ [some (.dct [] [])]⟩ := Ext.newM ok had
  have ok0 := ok.newM (mo := .dct [] []) (o := .dK []) had ⟨_, [], upd_same, .inl ⟨[], rfl, rfl, rfl⟩, rfl⟩
  have hb0 : (W.β ++ [ad])[W.h.length]? = some ad := by rw [← ok.len]; simp
  have q0 := Post.later ex0 q
  have e0 : evE Γ (.tup As) σ (W.h ++ [some (.dct [] [])]) = (evEs Γ As σ (W.h ++ [some (.dct [] [])])).bind fun ts h => .ok (.tup ts) h := by rw [evE]
  rw [e0, R_bind_assoc] at q0
  show tA G Γ E As σt (upd W.H ad (.dK [])) _
  refine goAl (W := ⟨upd W.H ad (.dK []), W.β ++ [ad], W.h ++ [some (.dct [] [])]⟩) ok0 (rs.ext ex0) q0 fun W1 ts vs ex1 ok1 rs1 r1 hl p1 => ⟨len_line r1 (by rw [hl]; exact of_decide_eq_true hz), fun tp htp => ?_⟩
  have exT : Ext W1 ⟨upd W1.H tp (.tup vs), W1.β, W1.h⟩ := .new htp
  have okT := ok1.new (o := .tup vs) htp
  have p1' : PostE G ⟨upd W1.H tp (.tup vs), W1.β, W1.h⟩ ((evE Γ B σ W1.h).bind fun y h2 => if isKey (T.tup ts) then (match h2[W.h.length]? with
      | some (some (.dct [] [])) => .ok (.dct [T.tup ts] [y]) (h2.set W.h.length none)
      | _ => .bad) else .bad) Q E := Post.later exT p1
  refine ⟨⟨upd W1.H tp (.tup vs), W1.β, W1.h⟩, σ, rfl, okT, rs1.ext exT, ?_⟩
  refine p1'.seq.mono fun w H2 ⟨W2, y, e2, ex2, ok2, r2, p2⟩ => ?_
  subst e2
  split at p2
  · rename_i hk
    obtain ⟨ks, rfl, rfl⟩ := atoms_keys (by simpa [isKey] using hk) r1
    have ht2 := ex2.keep tp _ upd_same (fun z => ok1.notM htp z) (fun _ z => by cases z)
    obtain ⟨⟨u, h1, d0⟩, p4⟩ := one_post (σ := σ) (o := .dT [(ks, w)]) ok2 (ex2.bet _ _ (exT.bet _ _ (ex1.bet _ _ hb0))) r2 p2 (.inr ⟨[(ks, w)], rfl, rfl, rfl⟩)
    refine ⟨?_, tp, ks, rfl, ht2.1, p4⟩
    rcases d0 with ⟨kvs, rfl, hk, _⟩ | ⟨kvs, rfl, hk, _⟩
    · have : kvs = [] := by cases kvs <;> first | rfl | cases hk
      exact .inl (this ▸ h1)
    · have : kvs = [] := by cases kvs <;> first | rfl | cases hk
      exact .inr (this ▸ h1)
  · exact False.elim p2
end
end Tw
end
/-! part Tw3c -/
section
set_option Elab.async false
set_option linter.all false
set_option maxRecDepth 100000
set_option maxHeartbeats 1000000
/-! Tw3c: repr of data. -/
namespace Tw
open PySem PySem.Spec PyProof.Rows L2

theorem toPDs_len : ∀ l : List T, (toPDs l).length = l.length
  | [] => rfl
  | t :: l => by rw [toPDs, List.length_cons, List.length_cons, toPDs_len l]
theorem atom_reads {h : Heap} {k : Key} {u : Value} (r : RelV (kV k) u) : Reads h u (toPD (kT k)) [] := by
  cases k with
  | inl i => obtain ⟨t, rfl⟩ := (show ∃ t, u = Value.int i t from r); exact .int i t
  | inr x =>
    obtain ⟨t, rfl⟩ := (show ∃ t, u = Value.str x t from r)
    have : toPD (kT (.inr x)) = .str x := by simp [kT, toPD]
    rw [this]
    exact .str x t
theorem atoms_reads {h : Heap} : ∀ {ks : List Key} {us : List Value}, Vals (ks.map kV) us → ReadsAll h us (toPDs (ks.map kT)) []
  | [], _, .nil => .nil
  | k :: ks, _, .cons r rs => ReadsAll.cons (as := []) (bs := []) (atom_reads r) (atoms_reads rs)
theorem keysK {P : Program} {w : World} {h : Heap} : ∀ {kvs : List (Key × V)} {vs : List (Key × Value)} {es : List DictEntry}, KV kvs vs → Pairs (mixKind P w) es vs → ReadsAll h (es.map (·.key)) (toPDs (kvs.map fun kv => kT kv.1)) [] ∧ Vals (kvs.map (·.2)) (es.map (·.val))
  | [], _, _, .nil, .nil => ⟨.nil, .nil⟩
  | (k, v) :: kvs, (k', u) :: vs, e :: es, .cons r rs, .cons i1 i2 q => by
    obtain ⟨rfl, r2⟩ := r
    obtain ⟨h1, h2⟩ := keysK rs q
    have hk : RelV (kV k) e.key := by
      rcases keyIs_shape (show keyIs k e.key = true from i1) with ⟨i, t, rfl, e1⟩ | ⟨x, t, rfl, e1⟩
      · exact ⟨t, e1⟩
      · exact ⟨t, e1⟩
    exact ⟨ReadsAll.cons (as := []) (bs := []) (atom_reads hk) h1, .cons (by show RelV v e.val; rw [i2]; exact r2) h2⟩
theorem keysT {P : Program} {w : World} {H : Hp} {h : Heap} (hok : HOk P w H h) : ∀ {kvs : List (List Key × V)} {xs : List (List Key × Addr × Value)} {es : List DictEntry}, KT H kvs xs → es = xs.map (entryOfKey (tupleKind (mixKind P w))) → ReadsAll h (es.map (·.key)) (toPDs (kvs.map fun kv => T.tup (kv.1.map kT))) [] ∧ Vals (kvs.map (·.2)) (es.map (·.val))
  | [], _, _, .nil, e => by subst e; exact ⟨.nil, .nil⟩
  | (k, v) :: kvs, (k', b, u) :: xs, es, .cons r rs, e => by
    subst e
    obtain ⟨rfl, hb, r2⟩ := r
    obtain ⟨h1, h2⟩ := keysT hok rs rfl
    obtain ⟨_, its, rv, o, ho, hc, n, hd⟩ := hok b _ hb
    have q : Reads h (.ref b) (toPD (.tup (k.map kT))) [] := by
      rw [toPD]
      exact .tuple ho hc hd (by simpa using atoms_reads rv)
    exact ⟨ReadsAll.cons (as := []) (bs := []) q h1, .cons r2 h2⟩
section
variable {G : Gx} {X : Cx} {pins : List (Addr × Obj)} {σ : L2.St} {s : Shared} {W : Wd}
mutual
theorem rt_reads (I : Inv X pins σ W.H s) (hK : X.K = G.K) (b1 : ∃ o, X.base.get? sysModules = some o ∧ o.cls = .type "dict") : ∀ (n : Nat) (t : T) (v : V) (u : Value), T.dat n t = true → RT G W t v → RelV v u → ∃ as, Reads s.heap u (toPD t) as ∧ sysModules ∉ as
  | _, .non, v, u, _, r, rv => by cases r; cases rv; exact ⟨[], .none, by simp⟩
  | _, .bl b, v, u, _, r, rv => by cases r; cases rv; exact ⟨[], .bool b, by simp⟩
  | _, .int i, v, u, _, r, rv => by cases r; obtain ⟨t, rfl⟩ := rv; exact ⟨[], .int i t, by simp⟩
  | _, .str z, v, u, _, r, rv => by
    obtain ⟨rfl, _⟩ := r
    obtain ⟨t, rfl⟩ := rv
    exact ⟨[], .str _ t, by simp⟩
  | 0, .tup _, _, _, h, _, _ => by simp [T.dat] at h
  | 0, .lst _, _, _, h, _, _ => by simp [T.dat] at h
  | 0, .dct _ _, _, _, h, _, _ => by simp [T.dat] at h
  | n + 1, .tup l, v, u, h, r, rv => by
    obtain ⟨a, vs, rfl, f, r⟩ := r
    cases (show u = Value.ref a from rv)
    obtain ⟨its, rs, ⟨o, ho, hc, m, hd⟩, _⟩ := I.tuple (hK ▸ f.sq)
    obtain ⟨as, q, hn⟩ := rts_reads I hK b1 n l vs its (by simpa [T.dat] using h) r rs
    exact ⟨as, by rw [toPD]; exact .tuple ho hc hd (by simpa using q), hn⟩
  | n + 1, .lst l, v, u, h, r, rv => by
    obtain ⟨a, vs, rfl, f, r⟩ := r
    cases (show u = Value.ref a from rv)
    obtain ⟨its, rs, ⟨o, m, ho, hc, _, hd⟩, _⟩ := I.list (hK ▸ f.sq)
    obtain ⟨as, q, hn⟩ := rts_reads I hK b1 n l vs its (by simpa [T.dat] using h) r rs
    have ha : a ≠ sysModules := fun z => by
      obtain ⟨o1, h1, h2⟩ := b1
      have := I.bk _ _ h1
      rw [z, this] at ho
      cases ho
      rw [h2] at hc
      exact absurd (Value.type.inj hc) (by decide)
    exact ⟨a :: as, by rw [toPD]; exact .list ho hc hd (by simpa using q), by simp [hn, Ne.symm ha]⟩
  | n + 1, .dct ks vs, v, u, h, r, rv => by
    obtain ⟨a, o, ws, rfl, f, _, d, r⟩ := r
    cases (show u = Value.ref a from rv)
    have hh : T.dats n vs = true := by simp [T.dat] at h; exact h.2
    have hl := r.length
    have fin : ∀ {ob : Obj} {es : Array DictEntry} {ep : Nat}, s.heap.get? a = some ob → ob.cls = .type "dict" → ob.data = .dict es ep → ReadsAll s.heap (es.toList.map (·.key)) (toPDs ks) [] → Vals ws (es.toList.map (·.val)) → (a == sysModules) = false → ks.length = ws.length → ∃ as, Reads s.heap (.ref a) (toPD (.dct ks vs)) as ∧ sysModules ∉ as := fun {ob es ep} h1 h2 h3 h4 h5 h6 h7 => by
      obtain ⟨as, q, hn⟩ := rts_reads I hK b1 n vs ws _ hh r h5
      have l1 : (toPDs ks).length = (toPDs vs).length := by rw [toPDs_len, toPDs_len, h7, hl]
      refine ⟨a :: [] ++ as, ?_, ?_⟩
      · rw [toPD]
        refine .dict h1 h2 h3 ?_ ?_
        · rw [List.map_fst_zip (Nat.le_of_eq l1)]; exact h4
        · rw [List.map_snd_zip (Nat.le_of_eq l1.symm)]; exact q
      · have : sysModules ≠ a := fun z => by rw [z] at h6; simp at h6
        simp [hn, this]
    rcases d with ⟨kvs, rfl, rfl, rfl⟩ | ⟨kvs, rfl, rfl, rfl⟩
    · obtain ⟨_, hS, vs', rk, ob, es, ep, h1, h2, h3, _, h5, _⟩ := dk_of I.hok f
      obtain ⟨q1, q2⟩ := keysK (h := s.heap) rk h5
      exact fin h1 h2.1 h3 q1 q2 hS (by simp)
    · obtain ⟨_, hS, xs, rk, ob, es, ep, h1, h2, h3, h4, _⟩ := dt_of I.hok f
      obtain ⟨q1, q2⟩ := keysT I.hok rk h4
      exact fin h1 h2.1 h3 q1 q2 hS (by simp)
  | n, .ins _ _ _, _, _, h, _, _ => by cases n <;> simp [T.dat] at h
  | n, .ref _, _, _, h, _, _ => by cases n <;> simp [T.dat] at h
theorem rts_reads (I : Inv X pins σ W.H s) (hK : X.K = G.K) (b1 : ∃ o, X.base.get? sysModules = some o ∧ o.cls = .type "dict") : ∀ (n : Nat) (ts : List T) (vs : List V) (us : List Value), T.dats n ts = true → RTs G W ts vs → Vals vs us → ∃ as, ReadsAll s.heap us (toPDs ts) as ∧ sysModules ∉ as
  | _, [], vs, us, _, r, rv => by cases r; cases rv; exact ⟨[], .nil, by simp⟩
  | n, t :: ts, vs, us, h, r, rv => by
    obtain ⟨v, ws, rfl, r1, r2⟩ := r
    cases rv with
    | cons q1 q2 =>
      simp only [T.dats, Bool.and_eq_true] at h
      obtain ⟨as, h1, n1⟩ := rt_reads I hK b1 n t v _ h.1 r1 q1
      obtain ⟨bs, h2, n2⟩ := rts_reads I hK b1 n ts ws _ h.2 r2 q2
      exact ⟨as ++ bs, .cons h1 h2, by simp [n1, n2]⟩
end
mutual
theorem dat_depth : ∀ (n : Nat) (t : T), T.dat n t = true → (toPD t).depth ≤ n
  | _, .non, _ => Nat.zero_le _
  | _, .bl _, _ => Nat.zero_le _
  | _, .int _, _ => Nat.zero_le _
  | _, .str _, _ => Nat.zero_le _
  | 0, .tup _, h => by simp [T.dat] at h
  | 0, .lst _, h => by simp [T.dat] at h
  | 0, .dct _ _, h => by simp [T.dat] at h
  | n + 1, .tup l, h => by rw [toPD, PyData.depth]; exact Nat.succ_le_succ (dats_depth n l (by simpa [T.dat] using h))
  | n + 1, .lst l, h => by rw [toPD, PyData.depth]; exact Nat.succ_le_succ (dats_depth n l (by simpa [T.dat] using h))
  | n + 1, .dct ks vs, h => by
    simp [T.dat] at h
    rw [toPD, PyData.depth]
    exact Nat.succ_le_succ (zip_depth n _ _ (dats_depth n ks h.1) (dats_depth n vs h.2))
  | n, .ins _ _ _, h => by cases n <;> simp [T.dat] at h
  | n, .ref _, h => by cases n <;> simp [T.dat] at h
theorem dats_depth : ∀ (n : Nat) (ts : List T), T.dats n ts = true → PyData.depthAll (toPDs ts) ≤ n
  | _, [], _ => Nat.zero_le _
  | n, t :: ts, h => by
    simp only [T.dats, Bool.and_eq_true] at h
    rw [toPDs, PyData.depthAll]
    exact Nat.max_le.mpr ⟨dat_depth n t h.1, dats_depth n ts h.2⟩
theorem zip_depth (n : Nat) : ∀ (ks vs : List PyData), PyData.depthAll ks ≤ n → PyData.depthAll vs ≤ n → PyData.depthKv (ks.zip vs) ≤ n
  | [], _, _, _ => Nat.zero_le _
  | _ :: _, [], _, _ => Nat.zero_le _
  | k :: ks, v :: vs, h1, h2 => by
    rw [PyData.depthAll] at h1 h2
    rw [List.zip_cons_cons, PyData.depthKv]
    have a1 := Nat.max_le.mp h1
    have a2 := Nat.max_le.mp h2
    have := zip_depth n ks vs a1.2 a2.2
    omega
end
end
section
variable {G : Gx} {Γ : Tw.Env} {E : XK} {X : Cx} {a : Expr} {A : Ex} {pos p : Pos}
/-- repr(x) of data -/
def rRp (G : Gx) (E : XK) : List V → Hp → VK → Prop := fun vs H Q => ∃ W t x, W.H = H ∧ W.Ok G ∧ RT G W t x ∧ vs = [x] ∧ PostE G W (if rpOk (look W.h t) then .ok (.str (rpT (look W.h t))) W.h else .bad) Q E
theorem look_reads {pins : List (Addr × Obj)} {σ : L2.St} {s : Shared} {W : Wd} (I : Inv X pins σ W.H s) (hK : X.K = G.K) (b1 : ∃ o, X.base.get? sysModules = some o ∧ o.cls = .type "dict") (ok : W.Ok G) {n : Nat} {t : T} {v : V} {u : Value} (hc : isCon (look W.h t) = true) (h : T.dat n (look W.h t) = true) (r : RT G W t v) (rv : RelV v u) :
    ∃ as a, u = .ref a ∧ Reads s.heap (.ref a) (toPD (look W.h t)) as ∧ sysModules ∉ as := by
  have key : ∀ {t : T}, isCon t = true → T.dat n t = true → RT G W t v → ∃ as a, u = .ref a ∧ Reads s.heap (.ref a) (toPD t) as ∧ sysModules ∉ as := fun {t} hc h r => by
    obtain ⟨as, q, hn⟩ := rt_reads I hK b1 n t v u h r rv
    have : ∃ a, u = .ref a := by
      cases t with
      | tup l => obtain ⟨a, vs, rfl, _⟩ := r; exact ⟨a, rv⟩
      | lst l => obtain ⟨a, vs, rfl, _⟩ := r; exact ⟨a, rv⟩
      | dct _ _ => obtain ⟨a, o, ws, rfl, _⟩ := r; exact ⟨a, rv⟩
      | _ => cases hc
    obtain ⟨a, rfl⟩ := this
    exact ⟨as, a, rfl, q, hn⟩
  cases t with
  | ref i =>
    obtain ⟨ad, hb, rfl⟩ := id r
    cases hm : W.h[i]? with
    | none => rw [show look W.h (.ref i) = .ref i by simp [look, hm]] at hc; cases hc
    | some o =>
      cases o with
      | none => rw [show look W.h (.ref i) = .ref i by simp [look, hm]] at hc; cases hc
      | some mo =>
        -- the thing is taken as it is: a world in which it is frozen
        have okF : Wd.Ok G ⟨W.H, W.β, W.h.set i none⟩ := ok.frz i
        have ex : Ext W ⟨W.H, W.β, W.h.set i none⟩ := .frz i
        have cq := ok.cont i mo ad hm hb
        have go : ∀ {t1 : T}, look W.h (.ref i) = t1 → RT G ⟨W.H, W.β, W.h.set i none⟩ t1 (.ref ad) → ∃ as a, u = .ref a ∧ Reads s.heap (.ref a) (toPD (look W.h (.ref i))) as ∧ sysModules ∉ as := fun {t1} e r1 => by
          rw [e] at h ⊢
          obtain ⟨as, q, hn⟩ := rt_reads (W := ⟨W.H, W.β, W.h.set i none⟩) I hK b1 n t1 _ u h r1 rv
          cases (show u = Value.ref ad from rv)
          exact ⟨as, ad, rfl, q, hn⟩
        cases mo with
        | lst l =>
          obtain ⟨vs, h1, r1⟩ := cq
          exact go (t1 := .lst l) (by simp [look, hm]) ⟨ad, vs, rfl, .inl ⟨.of h1, notM_frz ok hm hb⟩, RTs.ext ex _ _ r1⟩
        | dct ks vs =>
          obtain ⟨u1, ws, h1, k1, r1⟩ := cq
          exact go (t1 := .dct ks vs) (by simp [look, hm]) ⟨ad, u1, ws, rfl, h1, notM_frz ok hm hb, k1, RTs.ext ex _ _ r1⟩
        | ins c ns vs => rw [show look W.h (.ref i) = .ins c ns vs by simp [look, hm]] at hc; cases hc
  | tup l => exact key hc h r
  | lst l => exact key hc h r
  | dct _ _ => exact key hc h r
  | _ => cases hc
theorem rpR (hK : X.K = G.K) (hu : X.A.units + 64 < cLine) (hg : X.A.guards = some []) (b1 : ∃ o, X.base.get? sysModules = some o ∧ o.cls = .type "dict") : CallR X (.builtin "repr") (rRp G E) := by
  intro pins s σ H vs us Q I rv h
  obtain ⟨W, t, x, rfl, ok, r, rfl, p⟩ := h
  obtain ⟨u, rfl, ru⟩ := vals1 rv
  split at p
  · rename_i hk
    unfold rpOk at hk
    simp only [Bool.and_eq_true, decide_eq_true_eq] at hk
    obtain ⟨⟨⟨k1, k2⟩, k3⟩, k4⟩ := hk
    obtain ⟨as, a, rfl, rd, hn⟩ := look_reads I hK b1 ok k1 k2 r ru
    have dp := dat_depth 20 _ k2
    have lz : (toPD (look W.h t)).shown.length ≤ sizeLine := lim_line k4
    refine PySem.repr_of_reads' rd k3 (fun _ => hn) hg (by omega) (fun _ _ h => h) (fun h' u tk hk => ?_) lz
    refine ⟨.str _, W.H, I.kept (t' := tk) hk, ⟨_, rfl⟩, ?_⟩
    have e : (toPD (look W.h t)).shown = tx (rpT (look W.h t)) := by simp [rpT, tx]
    rw [e]
    exact mk_str (m := false) ok (by
      have : (rpT (look W.h t)).length = (toPD (look W.h t)).shown.length := by simp [rpT, PySem.Str.length]
      rw [this]
      exact lz) p
  · exact False.elim p
theorem te_rpr (hX : Cn G X) (hgd : X.A.guards = some []) (b1 : ∃ o, X.base.get? sysModules = some o ∧ o.cls = .type "dict") (hg : Gl X "repr") (hm : X.mg "repr" = none) (ha : PE X a (tE G Γ E A)) (hv : bootBuiltins "repr" = some (.builtin "repr") := by rfl)
    (he : starEach [a] X.env = (false, eval a X.env) :: starEach [] X.env := by rfl) (hpl : (backTo pos (starEach [] X.env)).any (·.1) = false := by rfl) : PE X (.Call (.Name "repr" p) [a] [] pos) (tE G Γ E (.rpr A)) := by
  refine pe_imp (pe_callB (rpR (E := E) hX.K hX.un hgd b1) hg hm hv (pa_cons ha pa_nil he) (by decide) (by decide) he hpl) fun σt H Q ⟨W, σ, e, ok, rs, q⟩ => ?_
  subst e
  unfold evE at q
  exact goE ok rs q fun W1 y v ex1 ok1 rs1 r1 p1 => ⟨W1, y, v, rfl, ok1, r1, rfl, p1⟩
end
end Tw
end
/-! part Tw3d -/
section
set_option Elab.async false
set_option linter.all false
set_option maxRecDepth 100000
set_option maxHeartbeats 1000000
/-! Tw3d: a law's classes in one; short words for them. -/
namespace Tw
open PySem PySem.Spec PyProof.Rows L2

/-- what the classes are: tg the targets of isinstance with a row per class, mks the own ones with an __init__ of one store, fns the fields -/
structure Xf (G : Gx) (P : Program) (w : World) (mg : PySem.Str → Option Value) (base : Heap) (tg : List (PySem.Str × List Bool)) (mks : List (Nat × Nat × PySem.Str)) (fns : List PySem.Str) : Prop where
  b1 : ∃ o, base.get? sysModules = some o ∧ o.cls = .type "dict"
  isc : ∀ (j : Nat) p, tg[j]? = some p → ∃ (vc : V) (uc : Value), ClsV vc uc ∧ ((∃ C : Addr, mg p.1 = some (.ref C) ∧ vc = .ref C) ∨ ∃ nm : String, mg p.1 = none ∧ bootBuiltins p.1 = some (.type nm) ∧ vc = .ty nm) ∧ p.2.length ≤ plainC ∧
    ∀ c r, p.2[c]? = some r → Ox.IsC G.K (G.ca c) ∧ PySem.W.kitOne G.K (.ref (G.ca c)) uc = some r
  mc : ∀ (j : Nat) p, mks[j]? = some p → MkI G P w mg base p.1 p.2.1 p.2.2 ∧ p.1 < plainC ∧ Ox.IsC G.K (G.ca p.1)
  fn : ∀ (j : Nat) x, fns[j]? = some x → G.fnm j = x
/-- a class whose __init__ is an own def -/
structure Ini1 (G : Gx) (P : Program) (w : World) (mg : PySem.Str → Option Value) (base : Heap) (Φ : Nat → Option FD) (tf : Nat → R T → R T) (n C f : Nat) (x : PySem.Str) : Prop where
  ex : ∃ (fI : Addr) (fd : FuncData) (ps : List PySem.Str), plainC ≤ C ∧ Mk G.K (G.ca C) fI ∧ FnX P w G.K mg base false (5 * n) fI fd ps (spF G Φ tf n f) ∧ Binds G.K fd ps [] ∧ mg x = some (.ref (G.ca C))
theorem atK_s {Γ : Tw.Env} {z : List Nat} : ∀ σ h x h', evE Γ (.c (.str z)) σ h = .ok x h' → isAtom x = true := fun σ h x h' e => by rw [evE] at e; cases e; rfl
theorem atK_i {Γ : Tw.Env} {z : Int} : ∀ σ h x h', evE Γ (.c (.int z)) σ h = .ok x h' → isAtom x = true := fun σ h x h' e => by rw [evE] at e; cases e; rfl
section
variable {G : Gx} {Γ : Tw.Env} {L : Lw} {X : Cx} {E : XK} {n : Nat} {b : Bool} {a c d : Expr} {A B C : Ex} {es : List Expr} {As : List Ex} {pos p p2 : Pos} {x : PySem.Str} {tg : List (PySem.Str × List Bool)} {mks : List (Nat × Nat × PySem.Str)} {fns : List PySem.Str}
theorem tb_bad : PT X a (tB G Γ E .bad) := ⟨fun pins s σ H Q I ⟨W, σ', e, ok, rs, p⟩ => by unfold evB at p; exact False.elim p⟩
theorem bi_look {f : Bi} {ts : List T} {t : T} (h : Hm) (e : biO f ts = some t) : look h t = t := by
  unfold biO at e
  split at e <;> first
    | (obtain ⟨_, _, rfl⟩ := Option.map_eq_some_iff.mp e; rfl)
    | (cases e; rfl)
    | (cases e; done)
    | (split at e <;> first | (obtain ⟨_, _, rfl⟩ := Option.map_eq_some_iff.mp e; rfl) | cases e)
theorem bv_bi (f : Bi) (es : List Ex) (σ : Sl) (h : Hm) : evB Γ (.bi false f es) σ h = (evE Γ (.bi false f es) σ h).bind fun x h => ofO (truth (look h x)) h := by
  have e : evE Γ (.bi false f es) σ h = (evEs Γ es σ h).bind fun ts h => (ofO (biO f (ts.map (look h))) h).bind fun t h => mk false t h := by rw [evE]
  rw [e]
  unfold evB
  rw [R_bind_assoc]
  congr 1
  funext ts h
  cases q : biO f (ts.map (look h)) with
  | none => rfl
  | some t =>
    show ofO (truth t) h = ofO (truth (look h t)) h
    rw [bi_look h q]
theorem Kx.isc (k : Kx L X E n b) (F : Xf L.G X.prog X.w X.mg X.base tg mks fns) (j i : Nat) {l : List Bool} (ha : PE X a (tE L.G (L.Γ n) E A)) (h : tg[j]? = some (x, l) := by rfl) (hm : L.fr[i]? = some "isinstance" := by rfl) (hg : Gl X "isinstance" := by rfl) (hg2 : Gl X x := by rfl)
    (hn : x ≠ "__name__" := by decide) (hdb : (x == ("__debug__" : PySem.Str)) = false := by decide)
    (he : starEach [a, .Name x p2] X.env = (false, eval a X.env) :: starEach [.Name x p2] X.env := by rfl) (he2 : starEach [.Name x p2] X.env = (false, eval (.Name x p2) X.env) :: starEach [] X.env := by rfl) (hpl : (backTo pos (starEach [.Name x p2] X.env)).any (·.1) = false := by rfl) :
    PE X (.Call (.Name "isinstance" p) [a, .Name x p2] [] pos) (tE L.G (L.Γ n) E (.isc A l)) := by
  obtain ⟨vc, uc, kc, hv, hl, T⟩ := F.isc j _ h
  have hc : PE X (.Name x p2) (tC vc) := by
    rcases hv with ⟨C, q1, rfl⟩ | ⟨nm, q1, q2, rfl⟩
    · exact pe_glob hg2 q1 rfl hdb
    · exact pe_bltn (v := .ty nm) hg2 q1 q2 rfl hn hdb
  exact te_isc k.c hg (k.m.fr i _ hm) hc kc hl T ha rfl he he2 hpl (p3 := p)
theorem Kx.mkx (k : Kx L X E n b) (j : Nat) {i : Nat} (ha : PE X a (tE L.G (L.Γ n) E A)) (h : L.cs[j]? = some (x, i) := by rfl) (hg : Gl X x := by rfl) (hs : starEach [a] X.env = (false, eval a X.env) :: starEach [] X.env := by rfl) (hdb : (x == ("__debug__" : PySem.Str)) = false := by decide) :
    PE X (.Call (.Name x p) [a] [] pos) (tE L.G (L.Γ n) E (.mkx i A)) := by
  obtain ⟨h1, h2, h3, h4, h5⟩ := k.m.cs j _ h
  exact te_mkx h1 h2 h3 k.c hg ha hs hdb
theorem Kx.mkc (k : Kx L X E n b) (F : Xf L.G X.prog X.w X.mg X.base tg mks fns) (j : Nat) {f C i : Nat} (ha : PE X a (tE L.G (L.Γ n) E A)) (h : mks[j]? = some (C, i, x) := by rfl) (hΦ : L.Φ f = some ⟨1, 1, [.ret (.mki C i (.v 0))]⟩ := by rfl) (hg : Gl X x := by rfl)
    (hs : starEach [a] X.env = (false, eval a X.env) :: starEach [] X.env := by rfl) (hdb : (x == ("__debug__" : PySem.Str)) = false := by decide) : PE X (.Call (.Name x p) [a] [] pos) (tE L.G (L.Γ n) E (.call f [A])) :=
  te_mkc (F.mc j _ h).1 hΦ k.c (k.r.mono (Nat.le_add_left 2 _)) hg ha hs hdb
theorem Kx.att (k : Kx L X E n b) (F : Xf L.G X.prog X.w X.mg X.base tg mks fns) (j : Nat) {C i : Nat} {y : PySem.Str} (ha : PE X a (tE L.G (L.Γ n) E A)) (h : mks[j]? = some (C, i, y) := by rfl) (hf : fns[i]? = some x := by rfl)
    (hb : attributeBase a x X.env (eval a X.env) = eval a X.env := by rfl) : PE X (.Attribute a x pos) (tE L.G (L.Γ n) E (.att A C i)) := by
  obtain ⟨M, hC, T⟩ := F.mc j _ h
  obtain ⟨fI, fd, pn, OC, _⟩ := M.ex
  have e := F.fn i _ hf
  exact te_att k.c e.symm hC T (by rw [← e]; exact OC.no) ha hb
theorem Kx.rpr (k : Kx L X E n true) (F : Xf L.G X.prog X.w X.mg X.base tg mks fns) (i : Nat) (ha : PE X a (tE L.G (L.Γ n) E A)) (hm : L.fr[i]? = some "repr" := by rfl) (hg : Gl X "repr" := by rfl)
    (he : starEach [a] X.env = (false, eval a X.env) :: starEach [] X.env := by rfl) (hpl : (backTo pos (starEach [] X.env)).any (·.1) = false := by rfl) : PE X (.Call (.Name "repr" p) [a] [] pos) (tE L.G (L.Γ n) E (.rpr A)) :=
  te_rpr k.c (k.g rfl) F.b1 hg (k.m.fr i _ hm) ha rfl he hpl
theorem Kx.mkn (k : Kx L X E n b) {C f : Nat} (I : Ini1 L.G X.prog X.w X.mg X.base L.Φ L.tf n C f x) (ha : PA X (a :: es) (tA L.G (L.Γ n) E As)) (hg : Gl X x := by rfl)
    (hdb : (x == ("__debug__" : PySem.Str)) = false := by decide) (he : starEach (a :: es) X.env = (false, eval a X.env) :: starEach es X.env := by rfl) (hpl : (backTo pos (starEach es X.env)).any (·.1) = false := by rfl) :
    PE X (.Call (.Name x p) (a :: es) [] pos) (tE L.G (L.Γ n) E (.mkn C f As)) := by
  obtain ⟨fI, fd, ps, hC, M, F, hb, hm⟩ := I.ex
  exact te_mkn hC M F hb hm k.c (k.r.mono (Nat.le_succ _)) k.x hg ha hdb he hpl
end
end Tw
end
/-! part Tw3e -/
section
set_option Elab.async false
set_option linter.all false
set_option maxRecDepth 100000
set_option maxHeartbeats 1000000
/-! Tw3e: the classes' facts from the head's Bools. -/
namespace Tw
open PySem PySem.Spec PyProof.Rows L2
theorem isC_of {K : PySem.W.Frag} {C : Addr} (h : TwI.isB K C = true) : Ox.IsC K C := by
  unfold TwI.isB at h
  simp only [Bool.and_eq_true, decide_eq_true_eq] at h
  obtain ⟨⟨⟨⟨⟨⟨⟨⟨h1, h2⟩, h3⟩, h4⟩, h5⟩, h6⟩, h7⟩, h8⟩, h9⟩ := h
  exact ⟨h1, h2, h3, h4, h5, h6, h7, h8, h9⟩
theorem excC_of {K : PySem.W.Frag} {C : Addr} (h : Ox.IsC K C) : ExcC K C := ⟨h.ga, h.gg, h.sb, h.hd, h.ca, h.gt, h.tk, h.ob⟩
theorem all_isC {K : PySem.W.Frag} {ca : Nat → Addr} {n : Nat} (h : TwI.allB K ca n = true) (c : Nat) (hc : c < n) : Ox.IsC K (ca c) := isC_of (List.all_eq_true.mp h c (List.mem_range.mpr hc))
theorem oxC_of {K : PySem.W.Frag} {C fI : Addr} {f : PySem.Str} {B nw ini : String} {bB bmB : List Value} (F : ExcBaseFacts B nw ini bB) (h : TwI.oxB K C fI f bmB nw = true) (h1 : bmB.contains (.type B) = true) (h2 : bmB.contains (.type "AttributeError") = false) (h3 : bmB.contains (.type "NameError") = false)
    (h4 : bmB.contains (.type "object") = true) (hp : ∀ self, refuseLoop self "__setattr__" bmB = pure ()) : Ox.OxC K C fI f := by
  unfold TwI.oxB at h
  simp only [Bool.and_eq_true, decide_eq_true_eq] at h
  obtain ⟨⟨⟨⟨⟨⟨q1, q2⟩, q3⟩, q4⟩, q5⟩, q6⟩, q7⟩ := h
  obtain ⟨nm, N, qn, bs, bm, sn, sub, ab, col, dd, k0, k1, k2, k3, k5, hC, ht⟩ := TwI.lookup_of q1 q2
  refine ⟨⟨nm, qn, N, bs, bm, sn, sub, ab, col, dd, k0, k1, k2, k3, k5, nw, B, ini, bB, hC, F, ⟨?_, ?_, ?_⟩, ⟨fun self => ?_, ?_, rfl⟩⟩, q3, q4, q5, q6, q7⟩
  · rw [PySem.W.excTail_contains _ _ ht, h1]
  · rw [PySem.W.excTail_contains _ _ ht, h2]
  · rw [PySem.W.excTail_contains _ _ ht, h3]
  · rw [refuseLoop_ref]
    exact PySem.W.excTail_pass self (hp self) _ ht
  · rw [List.contains_cons, PySem.W.excTail_contains _ _ ht, h4, Bool.or_true]
end Tw
end
/-! part K00a -/
section
set_option Elab.async false
set_option linter.all false
set_option maxRecDepth 100000
set_option maxHeartbeats 0
/-! K00a: the law's functions as trees. Printed by gen_tw2.py. -/
namespace K00
open Tw
/-- MarkError -/
def tg0 : List Bool := [true, true, true, true, true, true, true, true, true, false, false, false, false, false, false]
/-- InvalidText -/
def tg1 : List Bool := [false, true, false, false, false, false, false, false, false, false, false, false, false, false, false]
/-- InvalidRewriter -/
def tg2 : List Bool := [false, false, true, false, false, false, false, false, false, false, false, false, false, false, false]
/-- InvalidMachine -/
def tg3 : List Bool := [false, false, false, true, false, false, false, false, false, false, false, false, false, false, false]
/-- InvalidBook -/
def tg4 : List Bool := [false, false, false, false, true, false, false, false, false, false, false, false, false, false, false]
/-- InvalidOperation -/
def tg5 : List Bool := [false, false, false, false, false, true, false, false, false, false, false, false, false, false, false]
/-- InvalidEdit -/
def tg6 : List Bool := [false, false, false, false, false, false, true, false, false, false, false, false, false, false, false]
/-- ParseError -/
def tg7 : List Bool := [false, false, false, false, false, false, false, true, false, false, false, false, false, false, false]
/-- InvalidCommand -/
def tg8 : List Bool := [false, false, false, false, false, false, false, false, true, false, false, false, false, false, false]
/-- InvalidNumber -/
def tg9 : List Bool := [false, false, false, false, false, false, false, false, false, true, false, false, false, false, false]
/-- UnknownName -/
def tg10 : List Bool := [false, false, false, false, false, false, false, false, false, false, true, false, false, false, false]
/-- TooMany -/
def tg11 : List Bool := [false, false, false, false, false, false, false, false, false, false, false, true, false, false, false]
/-- NotSingle -/
def tg12 : List Bool := [false, false, false, false, false, false, false, false, false, false, false, false, true, false, false]
/-- NeedsMarks -/
def tg13 : List Bool := [false, false, false, false, false, false, false, false, false, false, false, false, false, true, false]
/-- NothingToUndo -/
def tg14 : List Bool := [false, false, false, false, false, false, false, false, false, false, false, false, false, false, true]
/-- ValueError -/
def tg15 : List Bool := [true, true, true, true, true, true, true, true, true, false, false, false, false, false, false]
/-- IndexError -/
def tg16 : List Bool := [false, false, false, false, false, false, false, false, false, true, false, false, false, false, false]
/-- KeyError -/
def tg17 : List Bool := [false, false, false, false, false, false, false, false, false, false, true, false, false, false, false]
/-- OverflowError -/
def tg18 : List Bool := [false, false, false, false, false, false, false, false, false, false, false, true, false, false, false]
/-- LookupError -/
def tg19 : List Bool := [false, false, false, false, false, false, false, false, false, true, true, false, false, false, true]
/-- ArithmeticError -/
def tg20 : List Bool := [false, false, false, false, false, false, false, false, false, false, false, true, true, false, false]
/-- RuntimeError -/
def tg21 : List Bool := [false, false, false, false, false, false, false, false, false, false, false, false, false, true, false]
/-- is_word -/
def b0 : List St := [.ret (.and (.isi (.v 0) .str) (.bi false .all [.lc false (.v 1) (.e (.v 0)) [] (.cmp .in_ (.v 1) (.c (.str [97, 98, 99, 100, 101, 102, 103, 104, 105, 106, 107, 108, 109, 110, 111, 112, 113, 114, 115, 116, 117, 118, 119, 120, 121, 122])))]))]
/-- are_ascending -/
def b1 : List St := [.ret (.bi false .all [.lc false (.u [.v 1, .v 2]) (.zip (.v 0) (.sl false (.v 0) [.c (.int 1)] [])) [] (.cmp .lt (.v 1) (.v 2))])]
/-- are_letters -/
def b2 : List St := [.ret (.and (.call 0 [.v 0]) (.and (.cmp2 .le .le (.c (.int 1)) (.bi false .len [.v 0]) (.c (.int 4))) (.call 1 [.v 0])))]
/-- is_delay -/
def b3 : List St := [.if_ (.or (.not (.isi (.v 0) .tuple)) (.or (.cmp .ne (.bi false .len [.v 0]) (.c (.int 2))) (.not (.bi false .all [.lc false (.v 1) (.e (.v 0)) [] (.call 0 [.v 1])])))) [.ret (.c (.bl false))] [],
    .ret (.or (.cmp .ne (.sl false (.ix (.v 0) (.c (.int 0))) [] [.c (.int 1)]) (.sl false (.ix (.v 0) (.c (.int 1))) [] [.c (.int 1)])) (.cmp .eq (.ix (.v 0) (.c (.int 0))) (.c (.str []))))]
/-- require_word -/
def b4 : List St := [.if_ (.not (.call 0 [.v 0])) [.raise 1 []] []]
/-- shared_letters -/
def b5 : List St := [.asg (.v 2) (.c (.int 0)),
    .for_ (.u [.v 3, .v 4]) (.zip (.v 0) (.v 1)) [.if_ (.cmp .ne (.v 3) (.v 4)) [.ret (.v 2)] [],
    .bad],
    .ret (.v 2)]
/-- delay_in -/
def b6 : List St := [.asg (.v 2) (.call 5 [.v 0, .v 1]),
    .ret (.tup [.sl false (.v 0) [.v 2] [], .sl false (.v 1) [.v 2] []])]
/-- delay -/
def b7 : List St := [.ex (.call 4 [.v 0]),
    .ex (.call 4 [.v 1]),
    .ret (.call 6 [.v 0, .v 1])]
/-- require_delay -/
def b8 : List St := [.if_ (.not (.call 3 [.v 0])) [.raise 5 []] []]
/-- led_on -/
def b9 : List St := [.ex (.call 8 [.v 0]),
    .ex (.call 4 [.v 1]),
    .ex (.call 4 [.v 2]),
    .ret (.bad)]
/-- _law_start -/
def b10 : List St := [.asg (.v 2) (.ite (.cmp .lt (.v 1) (.bi false .len [.v 0])) (.ix (.v 0) (.v 1)) (.bin false .add (.bin false .mul (.c (.int 29)) (.v 1)) (.c (.int 11)))),
    .asg (.v 3) (.bin false .mod (.bi false .int [.bi false .abs [.v 2]]) (.bin false .pow (.bin false .pow (.c (.int 10)) (.c (.int 58))) (.c (.int 12)))),
    .asg (.v 4) (.bin false .add (.bin false .add (.bin false .add (.bin false .mul (.bin false .mod (.bi false .int [.v 3]) (.c (.int 2147483497))) (.c (.int 41381))) (.bin false .mul (.c (.int 4003)) (.v 1))) (.bin false .mul (.c (.int 13)) (.bi false .int [.cmp .lt (.v 2) (.c (.int 0))]))) (.c (.int 17))),
    .ret (.lst true [.bi false .max [.c (.int 0), .bin false .sub (.v 3) (.bin false .pow (.c (.int 10)) (.c (.int 18)))], .bin false .mod (.bi false .int [.v 4]) (.c (.int 2147483353)), .c (.int 0)])]
/-- _law_throw -/
def b11 : List St := [.if_ (.cmp .gt (.ix (.v 0) (.c (.int 0))) (.c (.int 0))) [.asg (.v 4) (.bin false .mod (.bi false .int [.ix (.v 0) (.c (.int 0))]) (.v 1)),
    .set (.v 0) (.c (.int 0)) (.bin false .fdiv (.ix (.v 0) (.c (.int 0))) (.v 1)),
    .ret (.v 4)] [],
    .set (.v 0) (.c (.int 2)) (.bin false .add (.ix (.v 0) (.c (.int 2))) (.c (.int 1))),
    .asg (.v 2) (.bin false .mod (.bi false .int [.bin false .add (.ix (.v 0) (.c (.int 1))) (.bin false .mul (.c (.int 1000403)) (.ix (.v 0) (.c (.int 2))))]) (.c (.int 2305843009213693951))),
    .asg (.v 3) (.bin false .add (.bin false .mul (.bin false .mod (.bi false .int [.bin false .mul (.v 2) (.v 2)]) (.c (.int 2305843009213693951))) (.v 2)) (.bin false .mul (.c (.int 8111)) (.ix (.v 0) (.c (.int 2))))),
    .asg (.v 3) (.bin false .mod (.bi false .int [.v 3]) (.c (.int 2305843009213693907))),
    .ret (.bin false .mod (.bi false .int [.bin false .fdiv (.v 3) (.c (.int 8192))]) (.v 1))]
/-- _law_pick -/
def b12 : List St := [.ret (.ix (.v 1) (.call 11 [.v 0, .bi false .len [.v 1]]))]
/-- _law_told -/
def b13 : List St := [.asg (.v 1) (.lst false [.mkx 1 (.v 0), .mkx 2 (.v 0), .mkx 3 (.v 0), .mkx 4 (.v 0)]),
    .ret (.bin false .add (.v 1) (.lst false [.mkx 5 (.v 0), .mkx 6 (.v 0), .mkx 7 (.v 0), .mkx 8 (.v 0)]))]
/-- _law_flags -/
def b14 : List St := [.asg (.v 1) (.lst false [.isc (.v 0) tg1, .isc (.v 0) tg2, .isc (.v 0) tg3]),
    .asg (.v 1) (.bin false .add (.v 1) (.lst false [.isc (.v 0) tg4, .isc (.v 0) tg5, .isc (.v 0) tg6])),
    .asg (.v 1) (.bin false .add (.v 1) (.lst false [.isc (.v 0) tg7, .isc (.v 0) tg8, .isc (.v 0) tg9])),
    .asg (.v 1) (.bin false .add (.v 1) (.lst false [.isc (.v 0) tg10, .isc (.v 0) tg11, .isc (.v 0) tg12])),
    .ret (.bin false .add (.v 1) (.lst false [.isc (.v 0) tg13, .isc (.v 0) tg14]))]
/-- _law_bases -/
def b15 : List St := [.asg (.v 1) (.lst false [.isc (.v 0) tg0, .isc (.v 0) tg15, .isc (.v 0) tg16]),
    .asg (.v 1) (.bin false .add (.v 1) (.lst false [.isc (.v 0) tg17, .isc (.v 0) tg18, .isc (.v 0) tg19])),
    .ret (.bin false .add (.v 1) (.lst false [.isc (.v 0) tg20, .isc (.v 0) tg21]))]
/-- _law_only -/
def b16 : List St := [.ret (.lc false (.v 2) (.range [.v 1]) [] (.cmp .in_ (.v 2) (.v 0)))]
/-- _law_messages_right -/
def b17 : List St := [.if_ (.or (.cmp .ne (.call 14 [.mkx 0 (.v 0)]) (.bin false .mul (.lst false [.c (.bl false)]) (.c (.int 14)))) (.cmp .ne (.call 15 [.mkx 0 (.v 0)]) (.call 16 [.tup [.c (.int 0), .c (.int 1)], .c (.int 8)]))) [.ret (.c (.bl false))] [],
    .for_ (.u [.v 1, .v 2]) (.enum (.call 13 [.v 0])) [.if_ (.or (.cmp .ne (.call 14 [.v 2]) (.call 16 [.tup [.v 1], .c (.int 14)])) (.cmp .ne (.call 15 [.v 2]) (.call 16 [.tup [.c (.int 0), .c (.int 1)], .c (.int 8)]))) [.ret (.c (.bl false))] []],
    .ret (.c (.bl true))]
/-- _law_drawn_values -/
def b18 : List St := [.asg (.v 1) (.lst false [.neg (.c (.int 1)), .c (.int 9), .c .non, .c (.bl true), .c (.str [110, 111]), .tup [], .lst false [.c (.int 1)], .dct1 (.c (.str [97])) (.c (.int 1)), .bin false .pow (.c (.int 10)) (.c (.int 39)), .tup [.c (.str [116, 119, 111]), .c (.str [97, 98])], .dct1 (.tup [.c (.int 0), .c (.int 0)]) (.tup [.c (.str []), .c (.str [])])]),
    .asg (.u [.v 5, .v 6]) (.tup [.tup [.c (.int 0), .tup [.tup [.c (.int 0), .c (.str [97]), .c (.str [97]), .c (.int 0)]]], .tup [.c (.int 2), .tup [.tup [.c (.int 2), .c (.str [97]), .c (.str [97, 97]), .c (.int 2)]]]]),
    .asg (.v 2) (.lst false [.tup [.c (.str [116, 119, 111]), .c (.str []), .tup [.c (.int 0), .tup []], .tup [.c (.int 1), .tup []]], .tup [.c (.str [116, 119, 111]), .c (.str [97]), .v 5, .v 6], .tup [.c (.str [116, 119, 111]), .c (.str [97]), .v 6, .v 5]]),
    .asg (.v 3) (.lst true [.tup [.c (.str []), .c (.str [97]), .c (.str []), .v 5, .v 6], .tup [.c (.str []), .c (.str [97]), .c (.str []), .v 6, .v 5]]),
    .ex (.me .append (.v 3) [.tup [.c (.str [97]), .c (.str [97]), .c (.str []), .tup [.c (.int 0), .bin false .mul (.ix (.v 5) (.c (.int 1))) (.c (.int 2))], .tup [.c (.int 2), .bin false .mul (.ix (.v 6) (.c (.int 1))) (.c (.int 2))]]]),
    .asg (.v 4) (.lst true [.call 12 [.v 0, .v 1], .call 12 [.v 0, .lst false [.c (.str [110, 111]), .c (.str [97]), .c (.str [110, 97, 109, 101, 115]), .c (.str [122, 122, 122, 122, 122, 122, 122, 122])]]]),
    .ex (.me .append (.v 4) [.call 12 [.v 0, .lst false [.c (.int 8), .c (.int 12), .c (.int 64), .c (.int 256), .c (.int 1000)]]]),
    .asg (.v 4) (.bin true .add (.v 4) (.lst false [.call 12 [.v 0, .v 2], .call 12 [.v 0, .v 3]])),
    .ex (.me .append (.v 4) [.call 12 [.v 0, .lst false [.c (.int 1), .c (.int 2), .c (.int 7), .c (.int 61), .bin false .pow (.c (.int 10)) (.c (.int 39))]]]),
    .asg (.v 4) (.frz (.v 4)),
    .ret (.v 4)]
/-- _law_values_right -/
def b19 : List St := [.asg (.v 1) (.call 18 [.v 0]),
    .asg (.v 2) (.lst true [.call 209 [.ix (.v 1) (.c (.int 0))], .call 210 [.ix (.v 1) (.c (.int 1))], .call 211 [.ix (.v 1) (.c (.int 2))], .call 212 [.ix (.v 1) (.c (.int 3))], .call 213 [.ix (.v 1) (.c (.int 4))]]),
    .ex (.me .append (.v 2) [.call 214 [.ix (.v 1) (.c (.int 5))]]),
    .asg (.v 3) (.lst false [.tup [.c (.int 2), .c (.int 5)], .tup [.c (.int 3), .c (.int 5)], .tup [.c (.int 4), .c (.int 6)], .tup [.c (.int 6)], .tup [.c (.int 7)], .tup [.c (.int 5)]]),
    .asg (.v 2) (.frz (.v 2)),
    .for_ (.u [.v 5, .v 6]) (.enum (.v 2)) [.if_ (.or (.cmp .ne (.call 14 [.v 6]) (.call 16 [.tup [.bin false .add (.c (.int 8)) (.v 5)], .c (.int 14)])) (.cmp .ne (.call 15 [.v 6]) (.call 16 [.ix (.v 3) (.v 5), .c (.int 8)]))) [.ret (.c (.bl false))] []],
    .asg (.v 4) (.lst false [.att (.ix (.v 2) (.c (.int 0))) 9 0, .att (.ix (.v 2) (.c (.int 1))) 10 1, .att (.ix (.v 2) (.c (.int 2))) 11 2, .att (.ix (.v 2) (.c (.int 3))) 12 3, .att (.ix (.v 2) (.c (.int 4))) 13 4, .att (.ix (.v 2) (.c (.int 5))) 14 5]),
    .ret (.cmp .eq (.rpr (.v 4)) (.rpr (.v 1)))]
/-- law -/
def b21 : List St := [.for_ (.v 1) (.range [.bi false .max [.c (.int 1), .bi false .min [.c (.int 8), .bi false .len [.v 0]]]]) [.asg (.v 2) (.call 10 [.v 0, .v 1]),
    .if_ (.not (.call 17 [.call 12 [.v 2, .lst false [.c (.str []), .c (.str [97, 32, 119, 111, 114, 100, 32, 105, 115, 32, 101, 120, 112, 101, 99, 116, 101, 100]), .c (.str [110, 111]), .c (.str [97, 98]), .c (.str [32]), .c (.str [49])]]])) [.ret (.c (.bl false))] [],
    .asg (.v 3) (.call 12 [.v 2, .lst false [.c .non, .tup [], .dct0 false, .lst false [], .c (.int 7), .c (.bl true), .c (.str [65]), .c (.str [97, 32, 98]), .c (.str [49]), .tup [.c (.str [97, 98]), .c (.str [97, 99])], .dct1 (.c (.str [97])) (.c (.int 1)), .lst false [.c (.str []), .c (.str [])]]]),
    .if_ (.not (.call 19 [.v 2])) [.ret (.c (.bl false))] [],
    .asg (.v 4) (.lst true [.told 0 (.call 7 [.v 3, .c (.str [97])])]),
    .ex (.me .append (.v 4) [.told 0 (.call 7 [.c (.str [97]), .v 3])]),
    .ex (.me .append (.v 4) [.told 0 (.mkn 100 28 [.v 3, .dct0 false, .tup [], .dct0 false])]),
    .ex (.me .append (.v 4) [.told 0 (.call 9 [.v 3, .c (.str []), .c (.str [])])]),
    .asg (.v 5) (.bin false .add (.bin false .mul (.lst false [.call 16 [.tup [.c (.int 0)], .c (.int 14)]]) (.c (.int 2))) (.lst false [.call 16 [.tup [.c (.int 1)], .c (.int 14)], .call 16 [.tup [.c (.int 4)], .c (.int 14)]])),
    .if_ (.cmp .ne (.v 4) (.v 5)) [.ret (.c (.bl false))] []],
    .ret (.and (.cmp .eq (.told 0 (.call 7 [.c (.str []), .c (.str [])])) (.lst false [])) (.cmp .eq (.att (.call 214 [.bin false .pow (.c (.int 10)) (.c (.int 39))]) 14 5) (.bin false .pow (.c (.int 10)) (.c (.int 39)))))]
/-- Rewriter.__init__ -/
def b28 : List St := [.if_ (.or (.not (.call 2 [.v 1])) (.or (.not (.bad)) (.or (.not (.bad)) (.not (.bad))))) [.raise 2 []] [],
    .asg (.v 5) (.bad),
    .bad]
def Φ : Nat → Option FD
  | 0 => some ⟨1, 2, b0⟩
  | 1 => some ⟨1, 3, b1⟩
  | 2 => some ⟨1, 1, b2⟩
  | 3 => some ⟨1, 2, b3⟩
  | 4 => some ⟨1, 1, b4⟩
  | 5 => some ⟨2, 5, b5⟩
  | 6 => some ⟨2, 3, b6⟩
  | 7 => some ⟨2, 2, b7⟩
  | 8 => some ⟨1, 1, b8⟩
  | 9 => some ⟨3, 3, b9⟩
  | 10 => some ⟨2, 5, b10⟩
  | 11 => some ⟨2, 5, b11⟩
  | 12 => some ⟨2, 2, b12⟩
  | 13 => some ⟨1, 2, b13⟩
  | 14 => some ⟨1, 2, b14⟩
  | 15 => some ⟨1, 2, b15⟩
  | 16 => some ⟨2, 3, b16⟩
  | 17 => some ⟨1, 3, b17⟩
  | 18 => some ⟨1, 7, b18⟩
  | 19 => some ⟨1, 7, b19⟩
  | 21 => some ⟨1, 6, b21⟩
  | 28 => some ⟨5, 8, b28⟩
  | 209 => some ⟨1, 1, [.ret (.mki 9 0 (.v 0))]⟩
  | 210 => some ⟨1, 1, [.ret (.mki 10 1 (.v 0))]⟩
  | 211 => some ⟨1, 1, [.ret (.mki 11 2 (.v 0))]⟩
  | 212 => some ⟨1, 1, [.ret (.mki 12 3 (.v 0))]⟩
  | 213 => some ⟨1, 1, [.ret (.mki 13 4 (.v 0))]⟩
  | 214 => some ⟨1, 1, [.ret (.mki 14 5 (.v 0))]⟩
  | _ => none
/-- what the catcher makes of a call: of an exception the row of its class -/
def flags (c : Nat) : T := .lst ([tg1, tg2, tg3, tg4, tg5, tg6, tg7, tg8, tg9, tg10, tg11, tg12, tg13, tg14].map fun l => .bl (l.getD c false))
def tf : Nat → R T → R T
  | 0, .ok _ h => .ok (.lst []) h
  | 0, .exc c [] h => if c < 9 then .ok (flags c) h else .bad
  | _, _ => .bad
end K00
end
/-! part K00p -/
section
set_option Elab.async false
set_option linter.all false
set_option maxRecDepth 100000
set_option maxHeartbeats 0
/-! K00p: each function keeps its promise. Printed by gen_tw2.py. -/
namespace K00
open PySem PySem.Spec PyProof.Rows L2 Tw Hd00
abbrev fr : List PySem.Str := ["abs", "all", "enumerate", "int", "isinstance", "len", "list", "max", "min", "range", "repr", "str", "tuple", "zip", "ValueError", "IndexError", "KeyError", "OverflowError", "LookupError", "ArithmeticError", "RuntimeError"]
abbrev is : List (PySem.Str × Int) := [("MOST_LETTERS_words", 4)]
abbrev ss : List (PySem.Str × List Nat) := [("LETTERS", [97, 98, 99, 100, 101, 102, 103, 104, 105, 106, 107, 108, 109, 110, 111, 112, 113, 114, 115, 116, 117, 118, 119, 120, 121, 122])]
abbrev cs : List (PySem.Str × Nat) := [("MarkError", 0), ("InvalidText", 1), ("InvalidRewriter", 2), ("InvalidMachine", 3), ("InvalidBook", 4), ("InvalidOperation", 5), ("InvalidEdit", 6), ("ParseError", 7), ("InvalidCommand", 8)]
abbrev tgs : List (PySem.Str × List Bool) := [("MarkError", tg0), ("InvalidText", tg1), ("InvalidRewriter", tg2), ("InvalidMachine", tg3), ("InvalidBook", tg4), ("InvalidOperation", tg5), ("InvalidEdit", tg6), ("ParseError", tg7), ("InvalidCommand", tg8), ("InvalidNumber", tg9), ("UnknownName", tg10), ("TooMany", tg11), ("NotSingle", tg12), ("NeedsMarks", tg13), ("NothingToUndo", tg14), ("ValueError", tg15), ("IndexError", tg16), ("KeyError", tg17), ("OverflowError", tg18), ("LookupError", tg19), ("ArithmeticError", tg20), ("RuntimeError", tg21)]
abbrev mks : List (Nat × Nat × PySem.Str) := [(9, 0, "InvalidNumber"), (10, 1, "UnknownName"), (11, 2, "TooMany"), (12, 3, "NotSingle"), (13, 4, "NeedsMarks"), (14, 5, "NothingToUndo")]
abbrev fns : List PySem.Str := ["value", "name", "limit", "paper", "fork", "many"]
abbrev tbl : List (Nat × Bool × PySem.Str) := [(0, false, "is_word"), (1, false, "are_ascending"), (2, false, "are_letters"), (3, false, "is_delay"), (4, false, "require_word"), (5, false, "shared_letters"), (6, false, "delay_in"), (7, false, "delay"), (8, false, "require_delay"), (9, false, "led_on"), (10, false, "_law_start"), (11, false, "_law_throw"), (12, false, "_law_pick"), (13, false, "_law_told"), (14, false, "_law_flags"), (15, false, "_law_bases"), (16, false, "_law_only"), (17, false, "_law_messages_right"), (18, false, "_law_drawn_values"), (19, true, "_law_values_right"), (21, true, "law")]
abbrev Lk (G : Gx) : Lw := ⟨G, Φ, tf, tbl, fr, is, ss, cs⟩
abbrev N0 : List PySem.Str := ["value", "sign"]
theorem S0 : FnScope N0 ["value"] (defScope s0) := C8.fnScope_by (by decide +kernel)
theorem w0 {G : Gx} {P : Program} {w : World} {mg : PySem.Str → Option Value} {base : Heap} {n : Nat} {f : Addr} {fd : FuncData} (FX : Xf G P w mg base tgs mks fns) (m : Mg G fr is ss cs mg) (hF : ∀ (j : Nat) q, tbl[j]? = some q → Fn1 G P w mg base Φ tf n q.1 q.2.1 q.2.2) (F : FunD G.K "is_word" "is_word" (defArgs s0) (defBody s0) (defScope s0) [] [] f fd) :
  FnX P w G.K mg base false (5 * (n + 1)) f fd ["value"] (spF G Φ tf (n + 1) 0) :=
  fnX_of F S0 rfl rfl rfl fun cdv A outer s H E hc hg hr =>
     have k : Kx (Lk G) _ E n false := kx_def S0 hg hr m hF
    (ss_c (s_ret (te_and k.c (k.isi 4 11 .str (k.v 0)) (te_one (k.bi 1 false .all (ta_c (te_lc (m := false) (own := [("sign", 1)]) k.c rfl (ti_e k.c (k.v 0)) (blkOk_by (N := N0) (sc := defScope s0) (by decide +kernel)) (fun _ _ _ _ _ => (tg_v (i := 1) k.blk.c rfl (by first | exact Or.inl rfl | exact Or.inr rfl))) (fun _ _ _ _ _ => tts_n) (fun _ _ _ _ _ => (te_cmp (op := .in_) k.blk.c (k.blk.v 1) (k.blk.cz 0)))) ta_n)))))
    ss_n)
abbrev N1 : List PySem.Str := ["signs", "one", "other"]
theorem S1 : FnScope N1 ["signs"] (defScope s1) := C8.fnScope_by (by decide +kernel)
theorem w1 {G : Gx} {P : Program} {w : World} {mg : PySem.Str → Option Value} {base : Heap} {n : Nat} {f : Addr} {fd : FuncData} (FX : Xf G P w mg base tgs mks fns) (m : Mg G fr is ss cs mg) (hF : ∀ (j : Nat) q, tbl[j]? = some q → Fn1 G P w mg base Φ tf n q.1 q.2.1 q.2.2) (F : FunD G.K "are_ascending" "are_ascending" (defArgs s1) (defBody s1) (defScope s1) [] [] f fd) :
  FnX P w G.K mg base false (5 * (n + 1)) f fd ["signs"] (spF G Φ tf (n + 1) 1) :=
  fnX_of F S1 rfl rfl rfl fun cdv A outer s H E hc hg hr =>
     have k : Kx (Lk G) _ E n false := kx_def S1 hg hr m hF
    (ss_c (s_ret (k.bi 1 false .all (ta_c (te_lc (m := false) (own := [("one", 1), ("other", 2)]) k.c rfl (ti_zip k.c rfl (k.m.fr 13 _ rfl) (k.v 0) (te_sl10 (m := false) k.c (k.v 0) te_i)) (blkOk_by (N := N1) (sc := defScope s1) (by decide +kernel)) (fun _ _ _ _ _ => (tg_u k.blk.c (tgs_c (tg_v (i := 1) k.blk.c rfl (by first | exact Or.inl rfl | exact Or.inr rfl)) (tgs_c (tg_v (i := 2) k.blk.c rfl (by first | exact Or.inl rfl | exact Or.inr rfl)) tgs_n)))) (fun _ _ _ _ _ => tts_n) (fun _ _ _ _ _ => (te_cmp (op := .lt) k.blk.c (k.blk.v 1) (k.blk.v 2)))) ta_n)))
    ss_n)
abbrev N2 : List PySem.Str := ["value"]
theorem S2 : FnScope N2 ["value"] (defScope s2) := C8.fnScope_by (by decide +kernel)
theorem w2 {G : Gx} {P : Program} {w : World} {mg : PySem.Str → Option Value} {base : Heap} {n : Nat} {f : Addr} {fd : FuncData} (FX : Xf G P w mg base tgs mks fns) (m : Mg G fr is ss cs mg) (hF : ∀ (j : Nat) q, tbl[j]? = some q → Fn1 G P w mg base Φ tf n q.1 q.2.1 q.2.2) (F : FunD G.K "are_letters" "are_letters" (defArgs s2) (defBody s2) (defScope s2) [] [] f fd) :
  FnX P w G.K mg base false (5 * (n + 1)) f fd ["value"] (spF G Φ tf (n + 1) 2) :=
  fnX_of F S2 rfl rfl rfl fun cdv A outer s H E hc hg hr =>
     have k : Kx (Lk G) _ E n false := kx_def S2 hg hr m hF
    (ss_c (s_ret (te_and k.c (k.call 0 (ta_c (k.v 0) ta_n)) (te_and k.c (te_cmp2 (op := .le) (op' := .le) k.c te_i (k.bi 5 false .len (ta_c (k.v 0) ta_n)) (k.ci 0)) (te_one (k.call 1 (ta_c (k.v 0) ta_n))))))
    ss_n)
abbrev N3 : List PySem.Str := ["value", "word"]
theorem S3 : FnScope N3 ["value"] (defScope s3) := C8.fnScope_by (by decide +kernel)
theorem w3 {G : Gx} {P : Program} {w : World} {mg : PySem.Str → Option Value} {base : Heap} {n : Nat} {f : Addr} {fd : FuncData} (FX : Xf G P w mg base tgs mks fns) (m : Mg G fr is ss cs mg) (hF : ∀ (j : Nat) q, tbl[j]? = some q → Fn1 G P w mg base Φ tf n q.1 q.2.1 q.2.2) (F : FunD G.K "is_delay" "is_delay" (defArgs s3) (defBody s3) (defScope s3) [] [] f fd) :
  FnX P w G.K mg base false (5 * (n + 1)) f fd ["value"] (spF G Φ tf (n + 1) 3) :=
  fnX_of F S3 rfl rfl rfl fun cdv A outer s H E hc hg hr =>
     have k : Kx (Lk G) _ E n false := kx_def S3 hg hr m hF
    (ss_c (s_if (PW.pt (tw_or (tb_not (tb_val k.c (k.isi 4 12 .tuple (k.v 0)) (bv_isi _ _))) (tw_or (tb_cmp (op := .ne) k.c (k.bi 5 false .len (ta_c (k.v 0) ta_n)) te_i) (tw_or1 (tb_not (tb_val k.c (k.bi 1 false .all (ta_c (te_lc (m := false) (own := [("word", 1)]) k.c rfl (ti_e k.c (k.v 0)) (blkOk_by (N := N3) (sc := defScope s3) (by decide +kernel)) (fun _ _ _ _ _ => (tg_v (i := 1) k.blk.c rfl (by first | exact Or.inl rfl | exact Or.inr rfl))) (fun _ _ _ _ _ => tts_n) (fun _ _ _ _ _ => (k.blk.call 0 (ta_c (k.blk.v 1) ta_n)))) ta_n)) (bv_bi _ _))))))) (ss_c (s_ret te_b)
    ss_n) ss_n)
    (ss_c (s_ret (te_or k.c (te_cmp (op := .ne) k.c (te_sl01 (m := false) k.c (te_ix k.c (k.v 0) te_i) te_i) (te_sl01 (m := false) k.c (te_ix k.c (k.v 0) te_i) te_i)) (te_one (te_cmp (op := .eq) k.c (te_ix k.c (k.v 0) te_i) (k.s [])))))
    ss_n))
abbrev N4 : List PySem.Str := ["value"]
theorem S4 : FnScope N4 ["value"] (defScope s4) := C8.fnScope_by (by decide +kernel)
theorem w4 {G : Gx} {P : Program} {w : World} {mg : PySem.Str → Option Value} {base : Heap} {n : Nat} {f : Addr} {fd : FuncData} (FX : Xf G P w mg base tgs mks fns) (m : Mg G fr is ss cs mg) (hF : ∀ (j : Nat) q, tbl[j]? = some q → Fn1 G P w mg base Φ tf n q.1 q.2.1 q.2.2) (F : FunD G.K "require_word" "require_word" (defArgs s4) (defBody s4) (defScope s4) [] [] f fd) :
  FnX P w G.K mg base false (5 * (n + 1)) f fd ["value"] (spF G Φ tf (n + 1) 4) :=
  fnX_of F S4 rfl rfl rfl fun cdv A outer s H E hc hg hr =>
     have k : Kx (Lk G) _ E n false := kx_def S4 hg hr m hF
    (ss_c (s_if (tb_not (tb_val k.c (k.call 0 (ta_c (k.v 0) ta_n)) (bv_call _ _))) (ss_c (k.raise tk_def 1)
    ss_n) ss_n)
    ss_n)
abbrev N5 : List PySem.Str := ["word", "other", "many", "one", "two"]
theorem S5 : FnScope N5 ["word", "other"] (defScope s5) := C8.fnScope_by (by decide +kernel)
theorem w5 {G : Gx} {P : Program} {w : World} {mg : PySem.Str → Option Value} {base : Heap} {n : Nat} {f : Addr} {fd : FuncData} (FX : Xf G P w mg base tgs mks fns) (m : Mg G fr is ss cs mg) (hF : ∀ (j : Nat) q, tbl[j]? = some q → Fn1 G P w mg base Φ tf n q.1 q.2.1 q.2.2) (F : FunD G.K "shared_letters" "shared_letters" (defArgs s5) (defBody s5) (defScope s5) [] [] f fd) :
  FnX P w G.K mg base false (5 * (n + 1)) f fd ["word", "other"] (spF G Φ tf (n + 1) 5) :=
  fnX_of F S5 rfl rfl rfl fun cdv A outer s H E hc hg hr =>
     have k : Kx (Lk G) _ E n false := kx_def S5 hg hr m hF
    (ss_c (s_set (i := 2) k.c rfl (by first | exact Or.inl rfl | exact Or.inr rfl) te_i)
    (ss_c (s_for k.c k.o (ti_zip k.c rfl (k.m.fr 13 _ rfl) (k.v 0) (k.v 1)) (tg_u k.c (tgs_c (tg_v (i := 3) k.c rfl (by first | exact Or.inl rfl | exact Or.inr rfl)) (tgs_c (tg_v (i := 4) k.c rfl (by first | exact Or.inl rfl | exact Or.inr rfl)) tgs_n))) (ss_c (s_if (tb_cmp (op := .ne) k.c (k.v 3) (k.v 4)) (ss_c (s_ret (k.v 2))
    ss_n) ss_n)
    ss_bad))
    (ss_c (s_ret (k.v 2))
    ss_n)))
abbrev N6 : List PySem.Str := ["word", "other", "many"]
theorem S6 : FnScope N6 ["word", "other"] (defScope s6) := C8.fnScope_by (by decide +kernel)
theorem w6 {G : Gx} {P : Program} {w : World} {mg : PySem.Str → Option Value} {base : Heap} {n : Nat} {f : Addr} {fd : FuncData} (FX : Xf G P w mg base tgs mks fns) (m : Mg G fr is ss cs mg) (hF : ∀ (j : Nat) q, tbl[j]? = some q → Fn1 G P w mg base Φ tf n q.1 q.2.1 q.2.2) (F : FunD G.K "delay_in" "delay_in" (defArgs s6) (defBody s6) (defScope s6) [] [] f fd) :
  FnX P w G.K mg base false (5 * (n + 1)) f fd ["word", "other"] (spF G Φ tf (n + 1) 6) :=
  fnX_of F S6 rfl rfl rfl fun cdv A outer s H E hc hg hr =>
     have k : Kx (Lk G) _ E n false := kx_def S6 hg hr m hF
    (ss_c (s_set (i := 2) k.c rfl (by first | exact Or.inl rfl | exact Or.inr rfl) (k.call 5 (ta_c (k.v 0) (ta_c (k.v 1) ta_n))))
    (ss_c (s_ret (te_t (ta_c (te_sl10 (m := false) k.c (k.v 0) (k.v 2)) (ta_c (te_sl10 (m := false) k.c (k.v 1) (k.v 2)) ta_n))))
    ss_n))
abbrev N7 : List PySem.Str := ["word", "other"]
theorem S7 : FnScope N7 ["word", "other"] (defScope s7) := C8.fnScope_by (by decide +kernel)
theorem w7 {G : Gx} {P : Program} {w : World} {mg : PySem.Str → Option Value} {base : Heap} {n : Nat} {f : Addr} {fd : FuncData} (FX : Xf G P w mg base tgs mks fns) (m : Mg G fr is ss cs mg) (hF : ∀ (j : Nat) q, tbl[j]? = some q → Fn1 G P w mg base Φ tf n q.1 q.2.1 q.2.2) (F : FunD G.K "delay" "delay" (defArgs s7) (defBody s7) (defScope s7) [] [] f fd) :
  FnX P w G.K mg base false (5 * (n + 1)) f fd ["word", "other"] (spF G Φ tf (n + 1) 7) :=
  fnX_of F S7 rfl rfl rfl fun cdv A outer s H E hc hg hr =>
     have k : Kx (Lk G) _ E n false := kx_def S7 hg hr m hF
    (ss_c (s_ex (k.call 4 (ta_c (k.v 0) ta_n)))
    (ss_c (s_ex (k.call 4 (ta_c (k.v 1) ta_n)))
    (ss_c (s_ret (k.call 6 (ta_c (k.v 0) (ta_c (k.v 1) ta_n))))
    ss_n)))
abbrev N8 : List PySem.Str := ["value"]
theorem S8 : FnScope N8 ["value"] (defScope s8) := C8.fnScope_by (by decide +kernel)
theorem w8 {G : Gx} {P : Program} {w : World} {mg : PySem.Str → Option Value} {base : Heap} {n : Nat} {f : Addr} {fd : FuncData} (FX : Xf G P w mg base tgs mks fns) (m : Mg G fr is ss cs mg) (hF : ∀ (j : Nat) q, tbl[j]? = some q → Fn1 G P w mg base Φ tf n q.1 q.2.1 q.2.2) (F : FunD G.K "require_delay" "require_delay" (defArgs s8) (defBody s8) (defScope s8) [] [] f fd) :
  FnX P w G.K mg base false (5 * (n + 1)) f fd ["value"] (spF G Φ tf (n + 1) 8) :=
  fnX_of F S8 rfl rfl rfl fun cdv A outer s H E hc hg hr =>
     have k : Kx (Lk G) _ E n false := kx_def S8 hg hr m hF
    (ss_c (s_if (tb_not (tb_val k.c (k.call 3 (ta_c (k.v 0) ta_n)) (bv_call _ _))) (ss_c (k.raise tk_def 5)
    ss_n) ss_n)
    ss_n)
abbrev N9 : List PySem.Str := ["delay", "word", "other"]
theorem S9 : FnScope N9 ["delay", "word", "other"] (defScope s9) := C8.fnScope_by (by decide +kernel)
theorem w9 {G : Gx} {P : Program} {w : World} {mg : PySem.Str → Option Value} {base : Heap} {n : Nat} {f : Addr} {fd : FuncData} (FX : Xf G P w mg base tgs mks fns) (m : Mg G fr is ss cs mg) (hF : ∀ (j : Nat) q, tbl[j]? = some q → Fn1 G P w mg base Φ tf n q.1 q.2.1 q.2.2) (F : FunD G.K "led_on" "led_on" (defArgs s9) (defBody s9) (defScope s9) [] [] f fd) :
  FnX P w G.K mg base false (5 * (n + 1)) f fd ["delay", "word", "other"] (spF G Φ tf (n + 1) 9) :=
  fnX_of F S9 rfl rfl rfl fun cdv A outer s H E hc hg hr =>
     have k : Kx (Lk G) _ E n false := kx_def S9 hg hr m hF
    (ss_c (s_ex (k.call 8 (ta_c (k.v 0) ta_n)))
    (ss_c (s_ex (k.call 4 (ta_c (k.v 1) ta_n)))
    (ss_c (s_ex (k.call 4 (ta_c (k.v 2) ta_n)))
    (ss_c (s_ret te_bad)
    ss_n))))
abbrev N10 : List PySem.Str := ["_law_script", "_law_at", "_law_cell", "_law_great", "_law_mixed"]
theorem S10 : FnScope N10 ["_law_script", "_law_at"] (defScope s10) := C8.fnScope_by (by decide +kernel)
theorem w10 {G : Gx} {P : Program} {w : World} {mg : PySem.Str → Option Value} {base : Heap} {n : Nat} {f : Addr} {fd : FuncData} (FX : Xf G P w mg base tgs mks fns) (m : Mg G fr is ss cs mg) (hF : ∀ (j : Nat) q, tbl[j]? = some q → Fn1 G P w mg base Φ tf n q.1 q.2.1 q.2.2) (F : FunD G.K "_law_start" "_law_start" (defArgs s10) (defBody s10) (defScope s10) [] [] f fd) :
  FnX P w G.K mg base false (5 * (n + 1)) f fd ["_law_script", "_law_at"] (spF G Φ tf (n + 1) 10) :=
  fnX_of F S10 rfl rfl rfl fun cdv A outer s H E hc hg hr =>
     have k : Kx (Lk G) _ E n false := kx_def S10 hg hr m hF
    (ss_c (s_set (i := 2) k.c rfl (by first | exact Or.inl rfl | exact Or.inr rfl) (te_ite (tb_cmp (op := .lt) k.c (k.v 1) (k.bi 5 false .len (ta_c (k.v 0) ta_n))) (te_ix k.c (k.v 0) (k.v 1)) (te_bin (m := false) (op := .add) k.c (te_bin (m := false) (op := .mul) k.c te_i (k.v 1)) te_i)))
    (ss_c (s_set (i := 3) k.c rfl (by first | exact Or.inl rfl | exact Or.inr rfl) (te_bin (m := false) (op := .mod) k.c (k.bt 3 false .int (ta_c (k.bi 0 false .abs (ta_c (k.v 2) ta_n)) ta_n)) (te_bin (m := false) (op := .pow) k.c (te_bin (m := false) (op := .pow) k.c te_i te_i) te_i)))
    (ss_c (s_set (i := 4) k.c rfl (by first | exact Or.inl rfl | exact Or.inr rfl) (te_bin (m := false) (op := .add) k.c (te_bin (m := false) (op := .add) k.c (te_bin (m := false) (op := .add) k.c (te_bin (m := false) (op := .mul) k.c (te_bin (m := false) (op := .mod) k.c (k.bt 3 false .int (ta_c (k.v 3) ta_n)) te_i) te_i) (te_bin (m := false) (op := .mul) k.c te_i (k.v 1))) (te_bin (m := false) (op := .mul) k.c te_i (k.bt 3 false .int (ta_c (te_cmp (op := .lt) k.c (k.v 2) te_i) ta_n)))) te_i))
    (ss_c (s_ret (te_l (m := true) (ta_c (k.bi 7 false .max (ta_c te_i (ta_c (te_bin (m := false) (op := .sub) k.c (k.v 3) (te_bin (m := false) (op := .pow) k.c te_i te_i)) ta_n))) (ta_c (te_bin (m := false) (op := .mod) k.c (k.bt 3 false .int (ta_c (k.v 4) ta_n)) te_i) (ta_c te_i ta_n)))))
    ss_n))))
abbrev N11 : List PySem.Str := ["_law_bag", "_law_total", "_law_one", "_law_two", "_law_found"]
theorem S11 : FnScope N11 ["_law_bag", "_law_total"] (defScope s11) := C8.fnScope_by (by decide +kernel)
theorem w11 {G : Gx} {P : Program} {w : World} {mg : PySem.Str → Option Value} {base : Heap} {n : Nat} {f : Addr} {fd : FuncData} (FX : Xf G P w mg base tgs mks fns) (m : Mg G fr is ss cs mg) (hF : ∀ (j : Nat) q, tbl[j]? = some q → Fn1 G P w mg base Φ tf n q.1 q.2.1 q.2.2) (F : FunD G.K "_law_throw" "_law_throw" (defArgs s11) (defBody s11) (defScope s11) [] [] f fd) :
  FnX P w G.K mg base false (5 * (n + 1)) f fd ["_law_bag", "_law_total"] (spF G Φ tf (n + 1) 11) :=
  fnX_of F S11 rfl rfl rfl fun cdv A outer s H E hc hg hr =>
     have k : Kx (Lk G) _ E n false := kx_def S11 hg hr m hF
    (ss_c (s_if (tb_cmp (op := .gt) k.c (te_ix k.c (k.v 0) te_i) te_i) (ss_c (s_set (i := 4) k.c rfl (by first | exact Or.inl rfl | exact Or.inr rfl) (te_bin (m := false) (op := .mod) k.c (k.bt 3 false .int (ta_c (te_ix k.c (k.v 0) te_i) ta_n)) (k.v 1)))
    (ss_c (s_sto (k.v 0) te_i (te_bin (m := false) (op := .fdiv) k.c (te_ix k.c (k.v 0) te_i) (k.v 1)))
    (ss_c (s_ret (k.v 4))
    ss_n))) ss_n)
    (ss_c (s_sto (k.v 0) te_i (te_bin (m := false) (op := .add) k.c (te_ix k.c (k.v 0) te_i) te_i))
    (ss_c (s_set (i := 2) k.c rfl (by first | exact Or.inl rfl | exact Or.inr rfl) (te_bin (m := false) (op := .mod) k.c (k.bt 3 false .int (ta_c (te_bin (m := false) (op := .add) k.c (te_ix k.c (k.v 0) te_i) (te_bin (m := false) (op := .mul) k.c te_i (te_ix k.c (k.v 0) te_i))) ta_n)) te_i))
    (ss_c (s_set (i := 3) k.c rfl (by first | exact Or.inl rfl | exact Or.inr rfl) (te_bin (m := false) (op := .add) k.c (te_bin (m := false) (op := .mul) k.c (te_bin (m := false) (op := .mod) k.c (k.bt 3 false .int (ta_c (te_bin (m := false) (op := .mul) k.c (k.v 2) (k.v 2)) ta_n)) te_i) (k.v 2)) (te_bin (m := false) (op := .mul) k.c te_i (te_ix k.c (k.v 0) te_i))))
    (ss_c (s_set (i := 3) k.c rfl (by first | exact Or.inl rfl | exact Or.inr rfl) (te_bin (m := false) (op := .mod) k.c (k.bt 3 false .int (ta_c (k.v 3) ta_n)) te_i))
    (ss_c (s_ret (te_bin (m := false) (op := .mod) k.c (k.bt 3 false .int (ta_c (te_bin (m := false) (op := .fdiv) k.c (k.v 3) te_i) ta_n)) (k.v 1)))
    ss_n))))))
abbrev N12 : List PySem.Str := ["_law_bag", "_law_items"]
theorem S12 : FnScope N12 ["_law_bag", "_law_items"] (defScope s12) := C8.fnScope_by (by decide +kernel)
theorem w12 {G : Gx} {P : Program} {w : World} {mg : PySem.Str → Option Value} {base : Heap} {n : Nat} {f : Addr} {fd : FuncData} (FX : Xf G P w mg base tgs mks fns) (m : Mg G fr is ss cs mg) (hF : ∀ (j : Nat) q, tbl[j]? = some q → Fn1 G P w mg base Φ tf n q.1 q.2.1 q.2.2) (F : FunD G.K "_law_pick" "_law_pick" (defArgs s12) (defBody s12) (defScope s12) [] [] f fd) :
  FnX P w G.K mg base false (5 * (n + 1)) f fd ["_law_bag", "_law_items"] (spF G Φ tf (n + 1) 12) :=
  fnX_of F S12 rfl rfl rfl fun cdv A outer s H E hc hg hr =>
     have k : Kx (Lk G) _ E n false := kx_def S12 hg hr m hF
    (ss_c (s_ret (te_ix k.c (k.v 1) (k.call 11 (ta_c (k.v 0) (ta_c (k.bi 5 false .len (ta_c (k.v 1) ta_n)) ta_n)))))
    ss_n)
abbrev N13 : List PySem.Str := ["_law_message", "_law_found"]
theorem S13 : FnScope N13 ["_law_message"] (defScope s13) := C8.fnScope_by (by decide +kernel)
theorem w13 {G : Gx} {P : Program} {w : World} {mg : PySem.Str → Option Value} {base : Heap} {n : Nat} {f : Addr} {fd : FuncData} (FX : Xf G P w mg base tgs mks fns) (m : Mg G fr is ss cs mg) (hF : ∀ (j : Nat) q, tbl[j]? = some q → Fn1 G P w mg base Φ tf n q.1 q.2.1 q.2.2) (F : FunD G.K "_law_told" "_law_told" (defArgs s13) (defBody s13) (defScope s13) [] [] f fd) :
  FnX P w G.K mg base false (5 * (n + 1)) f fd ["_law_message"] (spF G Φ tf (n + 1) 13) :=
  fnX_of F S13 rfl rfl rfl fun cdv A outer s H E hc hg hr =>
     have k : Kx (Lk G) _ E n false := kx_def S13 hg hr m hF
    (ss_c (s_set (i := 1) k.c rfl (by first | exact Or.inl rfl | exact Or.inr rfl) (te_l (m := false) (ta_c (k.mkx 1 (k.v 0)) (ta_c (k.mkx 2 (k.v 0)) (ta_c (k.mkx 3 (k.v 0)) (ta_c (k.mkx 4 (k.v 0)) ta_n))))))
    (ss_c (s_ret (te_bin (m := false) (op := .add) k.c (k.v 1) (te_l (m := false) (ta_c (k.mkx 5 (k.v 0)) (ta_c (k.mkx 6 (k.v 0)) (ta_c (k.mkx 7 (k.v 0)) (ta_c (k.mkx 8 (k.v 0)) ta_n)))))))
    ss_n))
abbrev N14 : List PySem.Str := ["_law_one", "_law_found"]
theorem S14 : FnScope N14 ["_law_one"] (defScope s14) := C8.fnScope_by (by decide +kernel)
theorem w14 {G : Gx} {P : Program} {w : World} {mg : PySem.Str → Option Value} {base : Heap} {n : Nat} {f : Addr} {fd : FuncData} (FX : Xf G P w mg base tgs mks fns) (m : Mg G fr is ss cs mg) (hF : ∀ (j : Nat) q, tbl[j]? = some q → Fn1 G P w mg base Φ tf n q.1 q.2.1 q.2.2) (F : FunD G.K "_law_flags" "_law_flags" (defArgs s14) (defBody s14) (defScope s14) [] [] f fd) :
  FnX P w G.K mg base false (5 * (n + 1)) f fd ["_law_one"] (spF G Φ tf (n + 1) 14) :=
  fnX_of F S14 rfl rfl rfl fun cdv A outer s H E hc hg hr =>
     have k : Kx (Lk G) _ E n false := kx_def S14 hg hr m hF
    (ss_c (s_set (i := 1) k.c rfl (by first | exact Or.inl rfl | exact Or.inr rfl) (te_l (m := false) (ta_c (k.isc FX 1 4 (k.v 0)) (ta_c (k.isc FX 2 4 (k.v 0)) (ta_c (k.isc FX 3 4 (k.v 0)) ta_n)))))
    (ss_c (s_set (i := 1) k.c rfl (by first | exact Or.inl rfl | exact Or.inr rfl) (te_bin (m := false) (op := .add) k.c (k.v 1) (te_l (m := false) (ta_c (k.isc FX 4 4 (k.v 0)) (ta_c (k.isc FX 5 4 (k.v 0)) (ta_c (k.isc FX 6 4 (k.v 0)) ta_n))))))
    (ss_c (s_set (i := 1) k.c rfl (by first | exact Or.inl rfl | exact Or.inr rfl) (te_bin (m := false) (op := .add) k.c (k.v 1) (te_l (m := false) (ta_c (k.isc FX 7 4 (k.v 0)) (ta_c (k.isc FX 8 4 (k.v 0)) (ta_c (k.isc FX 9 4 (k.v 0)) ta_n))))))
    (ss_c (s_set (i := 1) k.c rfl (by first | exact Or.inl rfl | exact Or.inr rfl) (te_bin (m := false) (op := .add) k.c (k.v 1) (te_l (m := false) (ta_c (k.isc FX 10 4 (k.v 0)) (ta_c (k.isc FX 11 4 (k.v 0)) (ta_c (k.isc FX 12 4 (k.v 0)) ta_n))))))
    (ss_c (s_ret (te_bin (m := false) (op := .add) k.c (k.v 1) (te_l (m := false) (ta_c (k.isc FX 13 4 (k.v 0)) (ta_c (k.isc FX 14 4 (k.v 0)) ta_n)))))
    ss_n)))))
abbrev N15 : List PySem.Str := ["_law_one", "_law_found"]
theorem S15 : FnScope N15 ["_law_one"] (defScope s15) := C8.fnScope_by (by decide +kernel)
theorem w15 {G : Gx} {P : Program} {w : World} {mg : PySem.Str → Option Value} {base : Heap} {n : Nat} {f : Addr} {fd : FuncData} (FX : Xf G P w mg base tgs mks fns) (m : Mg G fr is ss cs mg) (hF : ∀ (j : Nat) q, tbl[j]? = some q → Fn1 G P w mg base Φ tf n q.1 q.2.1 q.2.2) (F : FunD G.K "_law_bases" "_law_bases" (defArgs s15) (defBody s15) (defScope s15) [] [] f fd) :
  FnX P w G.K mg base false (5 * (n + 1)) f fd ["_law_one"] (spF G Φ tf (n + 1) 15) :=
  fnX_of F S15 rfl rfl rfl fun cdv A outer s H E hc hg hr =>
     have k : Kx (Lk G) _ E n false := kx_def S15 hg hr m hF
    (ss_c (s_set (i := 1) k.c rfl (by first | exact Or.inl rfl | exact Or.inr rfl) (te_l (m := false) (ta_c (k.isc FX 0 4 (k.v 0)) (ta_c (k.isc FX 15 4 (k.v 0)) (ta_c (k.isc FX 16 4 (k.v 0)) ta_n)))))
    (ss_c (s_set (i := 1) k.c rfl (by first | exact Or.inl rfl | exact Or.inr rfl) (te_bin (m := false) (op := .add) k.c (k.v 1) (te_l (m := false) (ta_c (k.isc FX 17 4 (k.v 0)) (ta_c (k.isc FX 18 4 (k.v 0)) (ta_c (k.isc FX 19 4 (k.v 0)) ta_n))))))
    (ss_c (s_ret (te_bin (m := false) (op := .add) k.c (k.v 1) (te_l (m := false) (ta_c (k.isc FX 20 4 (k.v 0)) (ta_c (k.isc FX 21 4 (k.v 0)) ta_n)))))
    ss_n)))
abbrev N16 : List PySem.Str := ["_law_spots", "_law_total", "_law_at"]
theorem S16 : FnScope N16 ["_law_spots", "_law_total"] (defScope s16) := C8.fnScope_by (by decide +kernel)
theorem w16 {G : Gx} {P : Program} {w : World} {mg : PySem.Str → Option Value} {base : Heap} {n : Nat} {f : Addr} {fd : FuncData} (FX : Xf G P w mg base tgs mks fns) (m : Mg G fr is ss cs mg) (hF : ∀ (j : Nat) q, tbl[j]? = some q → Fn1 G P w mg base Φ tf n q.1 q.2.1 q.2.2) (F : FunD G.K "_law_only" "_law_only" (defArgs s16) (defBody s16) (defScope s16) [] [] f fd) :
  FnX P w G.K mg base false (5 * (n + 1)) f fd ["_law_spots", "_law_total"] (spF G Φ tf (n + 1) 16) :=
  fnX_of F S16 rfl rfl rfl fun cdv A outer s H E hc hg hr =>
     have k : Kx (Lk G) _ E n false := kx_def S16 hg hr m hF
    (ss_c (s_ret (te_lc (m := false) (own := [("_law_at", 2)]) k.c rfl (ti_r1 rfl (k.m.fr 9 _ rfl) (ta_c (k.v 1) ta_n)) (blkOk_by (N := N16) (sc := defScope s16) (by decide +kernel)) (fun _ _ _ _ _ => (tg_v (i := 2) k.blk.c rfl (by first | exact Or.inl rfl | exact Or.inr rfl))) (fun _ _ _ _ _ => tts_n) (fun _ _ _ _ _ => (te_cmp (op := .in_) k.blk.c (k.blk.v 2) (k.blk.v 0)))))
    ss_n)
abbrev N17 : List PySem.Str := ["_law_message", "_law_at", "_law_one"]
theorem S17 : FnScope N17 ["_law_message"] (defScope s17) := C8.fnScope_by (by decide +kernel)
theorem w17 {G : Gx} {P : Program} {w : World} {mg : PySem.Str → Option Value} {base : Heap} {n : Nat} {f : Addr} {fd : FuncData} (FX : Xf G P w mg base tgs mks fns) (m : Mg G fr is ss cs mg) (hF : ∀ (j : Nat) q, tbl[j]? = some q → Fn1 G P w mg base Φ tf n q.1 q.2.1 q.2.2) (F : FunD G.K "_law_messages_right" "_law_messages_right" (defArgs s17) (defBody s17) (defScope s17) [] [] f fd) :
  FnX P w G.K mg base false (5 * (n + 1)) f fd ["_law_message"] (spF G Φ tf (n + 1) 17) :=
  fnX_of F S17 rfl rfl rfl fun cdv A outer s H E hc hg hr =>
     have k : Kx (Lk G) _ E n false := kx_def S17 hg hr m hF
    (ss_c (s_if (PW.pt (tw_or (tb_cmp (op := .ne) k.c (k.call 14 (ta_c (k.mkx 0 (k.v 0)) ta_n)) (te_bin (m := false) (op := .mul) k.c (te_l (m := false) (ta_c te_b ta_n)) te_i)) (tw_or1 (tb_cmp (op := .ne) k.c (k.call 15 (ta_c (k.mkx 0 (k.v 0)) ta_n)) (k.call 16 (ta_c (te_t (ta_c te_i (ta_c te_i ta_n))) (ta_c te_i ta_n))))))) (ss_c (s_ret te_b)
    ss_n) ss_n)
    (ss_c (s_for k.c k.o (ti_enum k.c rfl (k.m.fr 2 _ rfl) (k.call 13 (ta_c (k.v 0) ta_n))) (tg_u k.c (tgs_c (tg_v (i := 1) k.c rfl (by first | exact Or.inl rfl | exact Or.inr rfl)) (tgs_c (tg_v (i := 2) k.c rfl (by first | exact Or.inl rfl | exact Or.inr rfl)) tgs_n))) (ss_c (s_if (PW.pt (tw_or (tb_cmp (op := .ne) k.c (k.call 14 (ta_c (k.v 2) ta_n)) (k.call 16 (ta_c (te_t (ta_c (k.v 1) ta_n)) (ta_c te_i ta_n)))) (tw_or1 (tb_cmp (op := .ne) k.c (k.call 15 (ta_c (k.v 2) ta_n)) (k.call 16 (ta_c (te_t (ta_c te_i (ta_c te_i ta_n))) (ta_c te_i ta_n))))))) (ss_c (s_ret te_b)
    ss_n) ss_n)
    ss_n))
    (ss_c (s_ret te_b)
    ss_n)))
abbrev N18 : List PySem.Str := ["_law_bag", "_law_some", "_law_papers", "_law_forks", "_law_found", "_law_one", "_law_two"]
theorem S18 : FnScope N18 ["_law_bag"] (defScope s18) := C8.fnScope_by (by decide +kernel)
theorem w18 {G : Gx} {P : Program} {w : World} {mg : PySem.Str → Option Value} {base : Heap} {n : Nat} {f : Addr} {fd : FuncData} (FX : Xf G P w mg base tgs mks fns) (m : Mg G fr is ss cs mg) (hF : ∀ (j : Nat) q, tbl[j]? = some q → Fn1 G P w mg base Φ tf n q.1 q.2.1 q.2.2) (F : FunD G.K "_law_drawn_values" "_law_drawn_values" (defArgs s18) (defBody s18) (defScope s18) [] [] f fd) :
  FnX P w G.K mg base false (5 * (n + 1)) f fd ["_law_bag"] (spF G Φ tf (n + 1) 18) :=
  fnX_of F S18 rfl rfl rfl fun cdv A outer s H E hc hg hr =>
     have k : Kx (Lk G) _ E n false := kx_def S18 hg hr m hF
    (ss_c (s_set (i := 1) k.c rfl (by first | exact Or.inl rfl | exact Or.inr rfl) (te_l (m := false) (ta_c (te_neg te_i) (ta_c te_i (ta_c te_n (ta_c te_b (ta_c (k.s [110, 111]) (ta_c (te_t ta_n) (ta_c (te_l (m := false) (ta_c te_i ta_n)) (ta_c (te_dct1 (k.s [97]) te_i atK_s) (ta_c (te_bin (m := false) (op := .pow) k.c te_i te_i) (ta_c (te_t (ta_c (k.s [116, 119, 111]) (ta_c (k.s [97, 98]) ta_n))) (ta_c (te_dct1t k.c.un (ta_c te_i (ta_c te_i ta_n)) (te_t (ta_c (k.s []) (ta_c (k.s []) ta_n)))) ta_n)))))))))))))
    (ss_c (s_asg (te_t (ta_c (te_t (ta_c te_i (ta_c (te_t (ta_c (te_t (ta_c te_i (ta_c (k.s [97]) (ta_c (k.s [97]) (ta_c te_i ta_n))))) ta_n)) ta_n))) (ta_c (te_t (ta_c te_i (ta_c (te_t (ta_c (te_t (ta_c te_i (ta_c (k.s [97]) (ta_c (k.s [97, 97]) (ta_c te_i ta_n))))) ta_n)) ta_n))) ta_n))) (tg_u k.c (tgs_c (tg_v (i := 5) k.c rfl (by first | exact Or.inl rfl | exact Or.inr rfl)) (tgs_c (tg_v (i := 6) k.c rfl (by first | exact Or.inl rfl | exact Or.inr rfl)) tgs_n))))
    (ss_c (s_set (i := 2) k.c rfl (by first | exact Or.inl rfl | exact Or.inr rfl) (te_l (m := false) (ta_c (te_t (ta_c (k.s [116, 119, 111]) (ta_c (k.s []) (ta_c (te_t (ta_c te_i (ta_c (te_t ta_n) ta_n))) (ta_c (te_t (ta_c te_i (ta_c (te_t ta_n) ta_n))) ta_n))))) (ta_c (te_t (ta_c (k.s [116, 119, 111]) (ta_c (k.s [97]) (ta_c (k.v 5) (ta_c (k.v 6) ta_n))))) (ta_c (te_t (ta_c (k.s [116, 119, 111]) (ta_c (k.s [97]) (ta_c (k.v 6) (ta_c (k.v 5) ta_n))))) ta_n)))))
    (ss_c (s_set (i := 3) k.c rfl (by first | exact Or.inl rfl | exact Or.inr rfl) (te_l (m := true) (ta_c (te_t (ta_c (k.s []) (ta_c (k.s [97]) (ta_c (k.s []) (ta_c (k.v 5) (ta_c (k.v 6) ta_n)))))) (ta_c (te_t (ta_c (k.s []) (ta_c (k.s [97]) (ta_c (k.s []) (ta_c (k.v 6) (ta_c (k.v 5) ta_n)))))) ta_n))))
    (ss_c (s_ex (te_app k.c (k.v 3) (ta_c (te_t (ta_c (k.s [97]) (ta_c (k.s [97]) (ta_c (k.s []) (ta_c (te_t (ta_c te_i (ta_c (te_bin (m := false) (op := .mul) k.c (te_ix k.c (k.v 5) te_i) te_i) ta_n))) (ta_c (te_t (ta_c te_i (ta_c (te_bin (m := false) (op := .mul) k.c (te_ix k.c (k.v 6) te_i) te_i) ta_n))) ta_n)))))) ta_n)))
    (ss_c (s_set (i := 4) k.c rfl (by first | exact Or.inl rfl | exact Or.inr rfl) (te_l (m := true) (ta_c (k.call 12 (ta_c (k.v 0) (ta_c (k.v 1) ta_n))) (ta_c (k.call 12 (ta_c (k.v 0) (ta_c (te_l (m := false) (ta_c (k.s [110, 111]) (ta_c (k.s [97]) (ta_c (k.s [110, 97, 109, 101, 115]) (ta_c (k.s [122, 122, 122, 122, 122, 122, 122, 122]) ta_n))))) ta_n))) ta_n))))
    (ss_c (s_ex (te_app k.c (k.v 4) (ta_c (k.call 12 (ta_c (k.v 0) (ta_c (te_l (m := false) (ta_c te_i (ta_c te_i (ta_c te_i (ta_c te_i (ta_c te_i ta_n)))))) ta_n))) ta_n)))
    (ss_c (s_set (i := 4) k.c rfl (by first | exact Or.inl rfl | exact Or.inr rfl) (te_bin (m := true) (op := .add) k.c (k.v 4) (te_l (m := false) (ta_c (k.call 12 (ta_c (k.v 0) (ta_c (k.v 2) ta_n))) (ta_c (k.call 12 (ta_c (k.v 0) (ta_c (k.v 3) ta_n))) ta_n)))))
    (ss_c (s_ex (te_app k.c (k.v 4) (ta_c (k.call 12 (ta_c (k.v 0) (ta_c (te_l (m := false) (ta_c te_i (ta_c te_i (ta_c te_i (ta_c te_i (ta_c (te_bin (m := false) (op := .pow) k.c te_i te_i) ta_n)))))) ta_n))) ta_n)))
    (ss_frz 4 (ss_c (s_ret (k.v 4))
    ss_n)))))))))))
abbrev N19 : List PySem.Str := ["_law_bag", "_law_odd", "_law_made", "_law_bases_here", "_law_told_here", "_law_at", "_law_one"]
theorem S19 : FnScope N19 ["_law_bag"] (defScope s19) := C8.fnScope_by (by decide +kernel)
theorem w19 {G : Gx} {P : Program} {w : World} {mg : PySem.Str → Option Value} {base : Heap} {n : Nat} {f : Addr} {fd : FuncData} (FX : Xf G P w mg base tgs mks fns) (m : Mg G fr is ss cs mg) (hF : ∀ (j : Nat) q, tbl[j]? = some q → Fn1 G P w mg base Φ tf n q.1 q.2.1 q.2.2) (F : FunD G.K "_law_values_right" "_law_values_right" (defArgs s19) (defBody s19) (defScope s19) [] [] f fd) :
  FnX P w G.K mg base true (5 * (n + 1)) f fd ["_law_bag"] (spF G Φ tf (n + 1) 19) :=
  fnX_of F S19 rfl rfl rfl fun cdv A outer s H E hc hg hr =>
     have k : Kx (Lk G) _ E n true := kx_def S19 hg hr m hF
    (ss_c (s_set (i := 1) k.c rfl (by first | exact Or.inl rfl | exact Or.inr rfl) (k.call 18 (ta_c (k.v 0) ta_n)))
    (ss_c (s_set (i := 2) k.c rfl (by first | exact Or.inl rfl | exact Or.inr rfl) (te_l (m := true) (ta_c (k.mkc FX 0 (f := 209) (te_ix k.c (k.v 1) te_i)) (ta_c (k.mkc FX 1 (f := 210) (te_ix k.c (k.v 1) te_i)) (ta_c (k.mkc FX 2 (f := 211) (te_ix k.c (k.v 1) te_i)) (ta_c (k.mkc FX 3 (f := 212) (te_ix k.c (k.v 1) te_i)) (ta_c (k.mkc FX 4 (f := 213) (te_ix k.c (k.v 1) te_i)) ta_n)))))))
    (ss_c (s_ex (te_app k.c (k.v 2) (ta_c (k.mkc FX 5 (f := 214) (te_ix k.c (k.v 1) te_i)) ta_n)))
    (ss_c (s_set (i := 3) k.c rfl (by first | exact Or.inl rfl | exact Or.inr rfl) (te_l (m := false) (ta_c (te_t (ta_c te_i (ta_c te_i ta_n))) (ta_c (te_t (ta_c te_i (ta_c te_i ta_n))) (ta_c (te_t (ta_c te_i (ta_c te_i ta_n))) (ta_c (te_t (ta_c te_i ta_n)) (ta_c (te_t (ta_c te_i ta_n)) (ta_c (te_t (ta_c te_i ta_n)) ta_n))))))))
    (ss_frz 2 (ss_c (s_for k.c k.o (ti_enum k.c rfl (k.m.fr 2 _ rfl) (k.v 2)) (tg_u k.c (tgs_c (tg_v (i := 5) k.c rfl (by first | exact Or.inl rfl | exact Or.inr rfl)) (tgs_c (tg_v (i := 6) k.c rfl (by first | exact Or.inl rfl | exact Or.inr rfl)) tgs_n))) (ss_c (s_if (PW.pt (tw_or (tb_cmp (op := .ne) k.c (k.call 14 (ta_c (k.v 6) ta_n)) (k.call 16 (ta_c (te_t (ta_c (te_bin (m := false) (op := .add) k.c te_i (k.v 5)) ta_n)) (ta_c te_i ta_n)))) (tw_or1 (tb_cmp (op := .ne) k.c (k.call 15 (ta_c (k.v 6) ta_n)) (k.call 16 (ta_c (te_ix k.c (k.v 3) (k.v 5)) (ta_c te_i ta_n))))))) (ss_c (s_ret te_b)
    ss_n) ss_n)
    ss_n))
    (ss_c (s_set (i := 4) k.c rfl (by first | exact Or.inl rfl | exact Or.inr rfl) (te_l (m := false) (ta_c (k.att FX 0 (te_ix k.c (k.v 2) te_i)) (ta_c (k.att FX 1 (te_ix k.c (k.v 2) te_i)) (ta_c (k.att FX 2 (te_ix k.c (k.v 2) te_i)) (ta_c (k.att FX 3 (te_ix k.c (k.v 2) te_i)) (ta_c (k.att FX 4 (te_ix k.c (k.v 2) te_i)) (ta_c (k.att FX 5 (te_ix k.c (k.v 2) te_i)) ta_n))))))))
    (ss_c (s_ret (te_cmp (op := .eq) k.c (k.rpr FX 10 (k.v 4)) (k.rpr FX 10 (k.v 1))))
    ss_n))))))))
abbrev N21 : List PySem.Str := ["_law_script", "_law_at", "_law_bag", "_law_odd", "_law_found", "_law_due"]
theorem S21 : FnScope N21 ["_law_script"] (defScope s21) := C8.fnScope_by (by decide +kernel)
theorem w21 {G : Gx} {P : Program} {w : World} {mg : PySem.Str → Option Value} {base : Heap} {n : Nat} {f : Addr} {fd : FuncData} (FX : Xf G P w mg base tgs mks fns) (FI100 : Ini1 G P w mg base Φ tf n 100 28 "Rewriter") (m : Mg G fr is ss cs mg) (hF : ∀ (j : Nat) q, tbl[j]? = some q → Fn1 G P w mg base Φ tf n q.1 q.2.1 q.2.2) (CAT : ∀ (cdv : Value) (A : Around) (outer : List PySem.Env) (s : Shared) (H : Hp) (E : XK), (∃ oc od osl fd', G.K.lookup f = some ⟨oc, od, .func fd', osl⟩ ∧ fd'.code = cdv ∧ PySem.W.codeIn G.K cdv "law" = true) → Room (5 * n + 4) (A.deeper (envOfC "law" (defScope s21) s.heap.objs.size f cdv)) → Cat (Lk G) (cxOf (L2.CX P w) P w G.K mg base N21 "law" (defScope s21) f cdv A outer s H E) 0 "_law_taken" n) (F : FunD G.K "law" "law" (defArgs s21) (defBody s21) (defScope s21) [] [] f fd) :
  FnX P w G.K mg base true (5 * (n + 1)) f fd ["_law_script"] (spF G Φ tf (n + 1) 21) :=
  fnX_of F S21 rfl rfl rfl fun cdv A outer s H E hc hg hr =>
    have hC := CAT cdv A outer s H E hc hr
    have k : Kx (Lk G) _ E n true := kx_def S21 hg hr m hF
    (ss_c (s_for k.c k.o (ti_r1 rfl (k.m.fr 9 _ rfl) (ta_c (k.bi 7 false .max (ta_c te_i (ta_c (k.bi 8 false .min (ta_c te_i (ta_c (k.bi 5 false .len (ta_c (k.v 0) ta_n)) ta_n))) ta_n))) ta_n)) (tg_v (i := 1) k.c rfl (by first | exact Or.inl rfl | exact Or.inr rfl)) (ss_c (s_set (i := 2) k.c rfl (by first | exact Or.inl rfl | exact Or.inr rfl) (k.call 10 (ta_c (k.v 0) (ta_c (k.v 1) ta_n))))
    (ss_c (s_if (tb_not (tb_val k.c (k.call 17 (ta_c (k.call 12 (ta_c (k.v 2) (ta_c (te_l (m := false) (ta_c (k.s []) (ta_c (k.s [97, 32, 119, 111, 114, 100, 32, 105, 115, 32, 101, 120, 112, 101, 99, 116, 101, 100]) (ta_c (k.s [110, 111]) (ta_c (k.s [97, 98]) (ta_c (k.s [32]) (ta_c (k.s [49]) ta_n))))))) ta_n))) ta_n)) (bv_call _ _))) (ss_c (s_ret te_b)
    ss_n) ss_n)
    (ss_c (s_set (i := 3) k.c rfl (by first | exact Or.inl rfl | exact Or.inr rfl) (k.call 12 (ta_c (k.v 2) (ta_c (te_l (m := false) (ta_c te_n (ta_c (te_t ta_n) (ta_c (te_d (m := false)) (ta_c (te_l (m := false) ta_n) (ta_c te_i (ta_c te_b (ta_c (k.s [65]) (ta_c (k.s [97, 32, 98]) (ta_c (k.s [49]) (ta_c (te_t (ta_c (k.s [97, 98]) (ta_c (k.s [97, 99]) ta_n))) (ta_c (te_dct1 (k.s [97]) te_i atK_s) (ta_c (te_l (m := false) (ta_c (k.s []) (ta_c (k.s []) ta_n))) ta_n))))))))))))) ta_n))))
    (ss_c (s_if (tb_not (tb_val k.c (k.call 19 (ta_c (k.v 2) ta_n)) (bv_call _ _))) (ss_c (s_ret te_b)
    ss_n) ss_n)
    (ss_c (s_set (i := 4) k.c rfl (by first | exact Or.inl rfl | exact Or.inr rfl) (te_l (m := true) (ta_c (te_told (g := 0) k hC rfl (LamX.lamS_by (sc := defScope s21) (by decide +kernel)) rfl (fun _ _ _ _ _ => rfl) fun _ _ _ _ _ _ _ kl => (kl.call 7 (ta_c (kl.v 3) (ta_c (kl.s [97]) ta_n)))) ta_n)))
    (ss_c (s_ex (te_app k.c (k.v 4) (ta_c (te_told (g := 0) k hC rfl (LamX.lamS_by (sc := defScope s21) (by decide +kernel)) rfl (fun _ _ _ _ _ => rfl) fun _ _ _ _ _ _ _ kl => (kl.call 7 (ta_c (kl.s [97]) (ta_c (kl.v 3) ta_n)))) ta_n)))
    (ss_c (s_ex (te_app k.c (k.v 4) (ta_c (te_told (g := 0) k hC rfl (LamX.lamS_by (sc := defScope s21) (by decide +kernel)) rfl (fun _ _ _ _ _ => rfl) fun _ _ _ _ _ _ _ kl => (kl.mkn FI100 (ta_c (kl.v 3) (ta_c (te_d (m := false)) (ta_c (te_t ta_n) (ta_c (te_d (m := false)) ta_n)))))) ta_n)))
    (ss_c (s_ex (te_app k.c (k.v 4) (ta_c (te_told (g := 0) k hC rfl (LamX.lamS_by (sc := defScope s21) (by decide +kernel)) rfl (fun _ _ _ _ _ => rfl) fun _ _ _ _ _ _ _ kl => (kl.call 9 (ta_c (kl.v 3) (ta_c (kl.s []) (ta_c (kl.s []) ta_n))))) ta_n)))
    (ss_c (s_set (i := 5) k.c rfl (by first | exact Or.inl rfl | exact Or.inr rfl) (te_bin (m := false) (op := .add) k.c (te_bin (m := false) (op := .mul) k.c (te_l (m := false) (ta_c (k.call 16 (ta_c (te_t (ta_c te_i ta_n)) (ta_c te_i ta_n))) ta_n)) te_i) (te_l (m := false) (ta_c (k.call 16 (ta_c (te_t (ta_c te_i ta_n)) (ta_c te_i ta_n))) (ta_c (k.call 16 (ta_c (te_t (ta_c te_i ta_n)) (ta_c te_i ta_n))) ta_n)))))
    (ss_c (s_if (tb_cmp (op := .ne) k.c (k.v 4) (k.v 5)) (ss_c (s_ret te_b)
    ss_n) ss_n)
    ss_n)))))))))))
    (ss_c (s_ret (te_and k.c (te_cmp (op := .eq) k.c (te_told (g := 0) k hC rfl (LamX.lamS_by (sc := defScope s21) (by decide +kernel)) rfl (fun _ _ _ _ _ => rfl) fun _ _ _ _ _ _ _ kl => (kl.call 7 (ta_c (kl.s []) (ta_c (kl.s []) ta_n)))) (te_l (m := false) ta_n)) (te_one (te_cmp (op := .eq) k.c (k.att FX 5 (k.mkc FX 5 (f := 214) (te_bin (m := false) (op := .pow) k.c te_i te_i))) (te_bin (m := false) (op := .pow) k.c te_i te_i)))))
    ss_n))
abbrev N28 : List PySem.Str := ["self", "letters", "starts", "edges", "ends", "states", "useful", "edge"]
theorem S28 : FnScope N28 ["self", "letters", "starts", "edges", "ends"] (defScope s28) := C8.fnScope_by (by decide +kernel)
theorem w28 {G : Gx} {P : Program} {w : World} {mg : PySem.Str → Option Value} {base : Heap} {n : Nat} {f : Addr} {fd : FuncData} (FX : Xf G P w mg base tgs mks fns) (m : Mg G fr is ss cs mg) (hF : ∀ (j : Nat) q, tbl[j]? = some q → Fn1 G P w mg base Φ tf n q.1 q.2.1 q.2.2) (F : FunD G.K "__init__" "Rewriter.__init__" (defArgs s28) (defBody s28) (defScope s28) [] [] f fd) :
  FnX P w G.K mg base false (5 * (n + 1)) f fd ["self", "letters", "starts", "edges", "ends"] (spF G Φ tf (n + 1) 28) :=
  fnX_of F S28 rfl rfl rfl fun cdv A outer s H E hc hg hr =>
     have k : Kx (Lk G) _ E n false := kx_def S28 hg hr m hF
    (ss_c (s_if (PW.pt (tw_or (tb_not (tb_val k.c (k.call 2 (ta_c (k.v 1) ta_n)) (bv_call _ _))) (tw_or (tb_not tb_bad) (tw_or (tb_not tb_bad) (tw_or1 (tb_not tb_bad)))))) (ss_c (k.raise tk_def 2)
    ss_n) ss_n)
    (ss_c (s_set (i := 5) k.c rfl (by first | exact Or.inl rfl | exact Or.inr rfl) te_bad)
    ss_bad))
end K00
end
/-! part K00c -/
section
set_option Elab.async false
set_option linter.all false
set_option maxRecDepth 100000
set_option maxHeartbeats 0
/-! K00c: the catcher of law k00: the def that tells the classes, called while the exception is handled; the try around a lambda. -/
namespace K00
open PySem PySem.Spec PyProof.Rows L2 Tw Hd00

/-- isinstance of the thing that is pinned -/
theorem call_isP {X : Cx} {a D : Addr} {oe : Obj} (T : Ox.IsC X.K D) (hp : (a, oe) ∈ X.pn) (hz : Zc (.ref D) none oe) (hf : ∃ vs, oe.data = .fields vs) : CallR X (.builtin "isinstance") (rIsE X.K D a) := by
  intro pins s σ H xs us Q I r h
  obtain ⟨c, cv, b, rfl, hcv, e, q⟩ := h
  obtain ⟨u1, u2, rfl, r1, r2⟩ := vals2 r
  have ec := hcv _ r2
  subst ec
  cases (show u1 = Value.ref a from r1)
  obtain ⟨hget, _⟩ := I.pin (a, oe) (List.mem_append.mpr (.inl hp))
  obtain ⟨vs, hv⟩ := hf
  have J : PySem.W.InstAt s.heap a oe D none := by
    obtain ⟨oc, od, oda, osl⟩ := oe
    obtain ⟨h1, h2⟩ := hz
    dsimp only at h1 h2 hv
    subst h1 h2 hv
    exact ⟨hget, rfl, rfl, trivial⟩
  exact PySem.W.kia_one (PySem.W.kitx_exc T.cl T.ga T.gg T.sb T.ca T.gt T.tk T.ob) I.kIn J e (fun z => nomatch z) fun tk => ⟨.bl b, H, I.tok tk, rfl, q⟩
/-- a def called while the exception at p is handled -/
theorem run_ofH {CX : CXT} {P : Program} {w : World} {K : PySem.W.Frag} {mg : PySem.Str → Option Value} {base : Heap} {k : Nat} {f : Addr} {fd : FuncData} {name qual : PySem.Str} {params : Arguments} {body : List Stmt} {scope : Scope}
    {N ps : List PySem.Str} (F : FunD K name qual params body scope [] [] f fd) (S : FnScope N ps scope) {A : Around} {outer : List PySem.Env} {s : Shared} {H : Hp} {args : Args} {us : List Value} {vs : List V} {Q : VK} {E : XK} {p : Addr × Obj}
    (hr : L2H.RoomH (k + 1) A) (hpin : L2H.PinOk outer H s p) (e0 : Env0 P w K mg base A outer s H) (hb : BindsTo s fd args (ps.zip us)) (r : Vals vs us) (hl : vs.length = ps.length)
    (hbody : ∀ cdv : Value, ∃ t, PSs (L2H.cxH CX P w K mg base N qual scope f cdv A outer s H E p) body t ∧ t { nx := fun _ H' => Q .non H', rt := Q } (L2.start N vs) H) :
    codeAny (model P w) A (.call (.ref f) args) (CR CX outer P w H s Q E) s := by
  obtain ⟨oc, od, dV, kV, doc, pm, an, cdv, ct, osl, rfl, lk, hcd, _, _⟩ := F.ex
  have KX : K.In s.heap := e0.mod.kin.keeps fun b o e => (e0.bs b o e).1
  have lim : s.heap.NoLimit := e0.mod.nolimit.keeps fun b o e => (e0.bs b o e).1
  have hkind : ∀ y ∈ ps.zip us, scope.names.lookup y.1 = some .local ∨ (scope.names.lookup y.1 = some .cell ∧ ((cellsFrom (s.heap.objs.size + 1) scope.names []).lookup y.1).isSome = true) := fun ⟨n, v⟩ hy => by
    rcases S.par n (List.of_mem_zip hy).1 with q | q
    · exact .inl q
    · exact .inr ⟨q, PySem.W.cellsFrom_some _ _ _ (.inl q)⟩
  refine codeAny_call_function hr.depth (KX _ _ lk) rfl S.co S.gen rfl (PySem.W.codeRec_of KX hcd) (hb _ _ _ _ ?_)
  refine wpAny_newFunctionEnv_cells S.kind hkind fun env he s1 x => ?_
  subst he
  refine ⟨lim.keeps x.toInCall.keep, codeAny_func ?_⟩
  obtain ⟨t, ht, hq⟩ := hbody cdv
  have I : Inv (L2H.cxH CX P w K mg base N qual scope f cdv A outer s H E p) [] (L2.start N vs) H s1 := L2H.inv_startH S hpin e0 hl r x
  refine wpAny_mono (ht.run [] s1 (L2.start N vs) H _ I hq) (fun fl s' hs => ?_) fun e s' hs => hs
  have fin : ∀ {σ' : L2.St} {H' : Hp} {v : V} {u : Value}, Inv (L2H.cxH CX P w K mg base N qual scope f cdv A outer s H E p) [] σ' H' s' → RelV v u → Q v H' → CE outer P w H s Q u s' :=
    fun {σ' H' v u} J rv q => ⟨v, H', J.os, J.bare, J.base, J.hok, rv, q⟩
  cases fl with
  | ret u =>
    obtain ⟨v, σ', H', J, rv, q⟩ := hs
    exact fin J rv q
  | next =>
    obtain ⟨σ', H', J, q⟩ := hs
    exact fin (v := V.non) (u := Value.none) J rfl q
  | brk =>
    obtain ⟨_, _, _, q⟩ := hs
    exact False.elim q
  | cont =>
    obtain ⟨_, _, _, q⟩ := hs
    exact False.elim q

/-! ### the def that tells the classes -/
def flV (B : Nat → Bool) : List V := [.bl (B 1), .bl (B 2), .bl (B 3), .bl (B 4), .bl (B 5), .bl (B 6), .bl (B 7), .bl (B 8), .bl (B 9), .bl (B 10), .bl (B 11), .bl (B 12), .bl (B 13), .bl (B 14)]
section
variable {X : Cx} {a D : Addr} {oe : Obj} {B : Nat → Bool}
/-- isinstance(_law_one, x) -/
def tIs (a : Addr) (b : Bool) : TE := fun σ H Q => σ[0]? = some (some (V.ref a)) ∧ Q (.bl b) H
theorem pe_is (T : Ox.IsC X.K D) (hp : (a, oe) ∈ X.pn) (hz : Zc (.ref D) none oe) (hf : ∃ vs, oe.data = .fields vs) (hI : X.mg "isinstance" = none) (C : Addr) (b : Bool) {x y : PySem.Str} {p1 p2 p3 p4 : Pos} (hm : X.mg x = some (.ref C)) (hk : PySem.W.kitOne X.K (.ref D) (.ref C) = some b)
    (hy : PE X (.Name y p2) (tVar 0)) (hgI : Gl X "isinstance") (hg : Gl X x := by rfl) (hdb : (x == ("__debug__" : PySem.Str)) = false := by decide)
    (he : starEach [.Name y p2, .Name x p3] X.env = (false, eval (.Name y p2) X.env) :: starEach [.Name x p3] X.env := by rfl) (he2 : starEach [.Name x p3] X.env = (false, eval (.Name x p3) X.env) :: starEach [] X.env := by rfl) (hpl : (backTo p4 (starEach [.Name x p3] X.env)).any (·.1) = false := by rfl) :
    PE X (.Call (.Name "isinstance" p1) [.Name y p2, .Name x p3] [] p4) (tIs a b) := by
  refine pe_imp (pe_callB (call_isP T hp hz hf) hgI hI rfl (pa_cons hy (pa_cons (pe_glob (v := .ref C) hg hm rfl hdb) pa_nil he2) he) (by decide) (by decide) he hpl) fun σ H Q ⟨h1, h2⟩ => ?_
  exact ⟨.ref a, h1, .ref C, .ref C, b, rfl, fun u r => r, hk, h2⟩
end
abbrev N14' : List PySem.Str := ["_law_one", "_law_found"]
theorem S14' : FnScope N14' ["_law_one"] (defScope s14) := C8.fnScope_by (by decide +kernel)
theorem sub_upd {H H1 : Hp} {p : Addr} {u : HO} (k : ∀ b o, H b = some o → H1 b = some o) (h : H1 p = none) : ∀ b o, H b = some o → upd H1 p u b = some o := fun b o e => by
  rw [upd_ne (ne_of_none (k b o e) h)]
  exact k b o e
/-- its body, while p is handled -/
theorem flags_body {P : Program} {w : World} {K : PySem.W.Frag} {mg : PySem.Str → Option Value} {base : Heap} {f : Addr} {A : Around} {outer : List PySem.Env} {s : Shared} {H : Hp} {E : XK} {a D : Addr} {oe : Obj} {B : Nat → Bool} {ca : Nat → Addr} {cdv : Value} {Q : VK}
    (T : Ox.IsC K D) (hz : Zc (.ref D) none oe) (hf : ∃ vs, oe.data = .fields vs) (hI : mg "isinstance" = none) (hm : ∀ j, 1 ≤ j → j ≤ 14 → mg (cnm j) = some (.ref (ca j))) (hk : ∀ j, 1 ≤ j → j ≤ 14 → PySem.W.kitOne K (.ref D) (.ref (ca j)) = some (B j))
    (q : ∀ H' p, (∀ b o, H b = some o → H' b = some o) → H p = none → H' p = some (.lst (flV B)) → Q (.ref p) H') :
    ∃ t, PSs (L2H.cxH (L2.CX P w) P w K mg base N14' "_law_flags" (defScope s14) f cdv A outer s H E (a, oe)) (defBody s14) t ∧ t { nx := fun _ H' => Q .non H', rt := Q } (L2.start N14' [.ref a]) H := by
  have is : ∀ (j : Nat) (h1 : 1 ≤ j) (h2 : j ≤ 14) {p1 p2 p3 p4 : Pos} (hdb : (cnm j == ("__debug__" : PySem.Str)) = false) (hg : Gl (L2H.cxH (L2.CX P w) P w K mg base N14' "_law_flags" (defScope s14) f cdv A outer s H E (a, oe)) (cnm j)),
      PE (L2H.cxH (L2.CX P w) P w K mg base N14' "_law_flags" (defScope s14) f cdv A outer s H E (a, oe)) (.Call (.Name "isinstance" p1) [.Name "_law_one" p2, .Name (cnm j) p3] [] p4) (tIs a (B j)) := fun j h1 h2 {p1 p2 p3 p4} hdb hg =>
    pe_is (oe := oe) (D := D) T List.mem_cons_self hz hf hI (ca j) (B j) (hm j h1 h2) (hk j h1 h2) (pv 0) rfl hg hdb
  refine ⟨_, pss_cons (ps_set (i := 1) S14'.nd rfl (Or.inl rfl) (pe_lst (pa_cons (is 1 (by decide) (by decide) rfl rfl) (pa_cons (is 2 (by decide) (by decide) rfl rfl) (pa_cons (is 3 (by decide) (by decide) rfl rfl) pa_nil)))))
    (pss_cons (ps_set (i := 1) S14'.nd rfl (Or.inl rfl) (pe_op op_catL (pv 1) (pe_lst (pa_cons (is 4 (by decide) (by decide) rfl rfl) (pa_cons (is 5 (by decide) (by decide) rfl rfl) (pa_cons (is 6 (by decide) (by decide) rfl rfl) pa_nil))))))
    (pss_cons (ps_set (i := 1) S14'.nd rfl (Or.inl rfl) (pe_op op_catL (pv 1) (pe_lst (pa_cons (is 7 (by decide) (by decide) rfl rfl) (pa_cons (is 8 (by decide) (by decide) rfl rfl) (pa_cons (is 9 (by decide) (by decide) rfl rfl) pa_nil))))))
    (pss_cons (ps_set (i := 1) S14'.nd rfl (Or.inl rfl) (pe_op op_catL (pv 1) (pe_lst (pa_cons (is 10 (by decide) (by decide) rfl rfl) (pa_cons (is 11 (by decide) (by decide) rfl rfl) (pa_cons (is 12 (by decide) (by decide) rfl rfl) pa_nil))))))
    (pss_one (ps_ret (pe_op op_catL (pv 1) (pe_lst (pa_cons (is 13 (by decide) (by decide) rfl rfl) (pa_cons (is 14 (by decide) (by decide) rfl rfl) pa_nil))))))))), ?_⟩
  have z3 : ∀ {x y z : V}, [x, y, z].length ≤ sizeLine := fun {x y z} => by show 3 ≤ sizeLine; decide
  have stay : ∀ {H1 : Hp} {p q : Addr} {l l2 : List V}, H1 q = none → H1 p = some (.lst l) → SqL K (upd H1 q (.lst l2)) p l := fun {H1 p q l l2} h1 h2 => .of (by rw [upd_ne (ne_of_none h2 h1)]; exact h2)
  refine ⟨rfl, rfl, rfl, z3, fun p1 n1 => ?_⟩
  have k1 := sub_upd (u := .lst [.bl (B 1), .bl (B 2), .bl (B 3)]) (fun b o (e : H b = some o) => e) n1
  refine ⟨.ref p1, rfl, rfl, rfl, rfl, z3, fun q1 m1 => ⟨p1, q1, _, _, rfl, rfl, stay m1 upd_same, .of upd_same, by show 6 ≤ sizeLine; decide, fun p2 n2 => ?_⟩⟩
  have k2 := sub_upd (u := .lst [.bl (B 1), .bl (B 2), .bl (B 3), .bl (B 4), .bl (B 5), .bl (B 6)]) (sub_upd (u := .lst [.bl (B 4), .bl (B 5), .bl (B 6)]) k1 m1) n2
  refine ⟨.ref p2, rfl, rfl, rfl, rfl, z3, fun q2 m2 => ⟨p2, q2, _, _, rfl, rfl, stay m2 upd_same, .of upd_same, by show 9 ≤ sizeLine; decide, fun p3 n3 => ?_⟩⟩
  have k3 := sub_upd (u := .lst [.bl (B 1), .bl (B 2), .bl (B 3), .bl (B 4), .bl (B 5), .bl (B 6), .bl (B 7), .bl (B 8), .bl (B 9)]) (sub_upd (u := .lst [.bl (B 7), .bl (B 8), .bl (B 9)]) k2 m2) n3
  refine ⟨.ref p3, rfl, rfl, rfl, rfl, z3, fun q3 m3 => ⟨p3, q3, _, _, rfl, rfl, stay m3 upd_same, .of upd_same, by show 12 ≤ sizeLine; decide, fun p4 n4 => ?_⟩⟩
  have k4 := sub_upd (u := .lst [.bl (B 1), .bl (B 2), .bl (B 3), .bl (B 4), .bl (B 5), .bl (B 6), .bl (B 7), .bl (B 8), .bl (B 9), .bl (B 10), .bl (B 11), .bl (B 12)]) (sub_upd (u := .lst [.bl (B 10), .bl (B 11), .bl (B 12)]) k3 m3) n4
  refine ⟨.ref p4, rfl, rfl, rfl, by show 2 ≤ sizeLine; decide, fun q4 m4 => ⟨p4, q4, _, _, rfl, rfl, stay m4 upd_same, .of upd_same, by show 14 ≤ sizeLine; decide, fun p5 n5 => ?_⟩⟩
  have k5 := sub_upd (u := .lst (flV B)) (sub_upd (u := .lst [.bl (B 13), .bl (B 14)]) k4 m4) n5
  refine q _ p5 k5 ?_ upd_same
  cases e : H p5 with
  | none => rfl
  | some o =>
    have z : none = some o := n5.symm.trans (sub_upd (u := .lst [.bl (B 13), .bl (B 14)]) k4 m4 p5 o e)
    cases z

/-! ### the catcher -/
abbrev sTold : Stmt := s20
def bTold : List Stmt := defBody sTold
def suiteB : List Stmt := match bTold with
  | .Try _ (.ExceptHandler _ _ b _ :: _) _ _ _ :: _ => b
  | _ => []
abbrev NT : List PySem.Str := ["_law_call", "e"]
theorem ST : FnScope NT ["_law_call"] (defScope sTold) := C8.fnScope_by (by decide +kernel)
/-- the call of the def, e its argument -/
theorem pe_hot {Y : Cx} {a D fF : Addr} {oe : Obj} {fdF : FuncData} {B : Nat → Bool} {ca : Nat → Addr} {p1 p2 p3 : Pos} {y : PySem.Str} (hp : (a, oe) ∈ Y.pn) (hr : L2H.RoomH 3 Y.A) (FF : FunD Y.K "_law_flags" "_law_flags" (defArgs s14) (defBody s14) (defScope s14) [] [] fF fdF)
    (hF : Y.mg "_law_flags" = some (.ref fF)) (hbF : L2.Binds Y.K fdF ["_law_one"] []) (T : Ox.IsC Y.K D) (hz : Zc (.ref D) none oe) (hf : ∃ vs, oe.data = .fields vs) (hI : Y.mg "isinstance" = none) (hm : ∀ j, 1 ≤ j → j ≤ 14 → Y.mg (cnm j) = some (.ref (ca j)))
    (hk : ∀ j, 1 ≤ j → j ≤ 14 → PySem.W.kitOne Y.K (.ref D) (.ref (ca j)) = some (B j)) (hy : PE Y (.Name y p2) (tVar 1)) (hg : Gl Y "_law_flags")
    (he : starEach [.Name y p2] Y.env = (false, eval (.Name y p2) Y.env) :: starEach [] Y.env := by rfl) (hpl : (backTo p3 (starEach [] Y.env)).any (·.1) = false := by rfl) :
    PE Y (.Call (.Name "_law_flags" p1) [.Name y p2] [] p3) (fun σ H Q => σ[1]? = some (some (V.ref a)) ∧ ∀ H' p, (∀ b o, H b = some o → H' b = some o) → H p = none → H' p = some (.lst (flV B)) → Q (.ref p) H') := by
  refine ⟨fun pins s σ H Q I ⟨h1, h2⟩ => ?_⟩
  refine wpAny_Call_Name_kw (ld_glob I hg hF ?_ rfl)
  refine PySem.W.callWith_K (h₀ := Y.base) I.ok.mod.kin FF.kp (thn ((pa_cons hy pa_nil he).run p3 pins s σ H (fun vs H1 => vs = [V.ref a] ∧ H1 = H) I ⟨.ref a, h1, rfl, rfl⟩) fun us s1 ⟨vs, H1, I1, r, e1, e2⟩ => ⟨I1.kIn, ?_⟩) he hpl
  subst e1 e2
  have P1 := I1.pin (a, oe) (List.mem_append_left _ hp)
  have hpin : L2H.PinOk Y.stack H1 s1 (a, oe) := ⟨P1.1, P1.2.1, fun hm => (List.mem_cons.mp (I1.stkSub a hm)).elim P1.2.2.1 P1.2.2.2.1, P1.2.2.2.2⟩
  have hbt := hbF s1 us I1.kIn (by rw [List.append_nil, ← r.length]; rfl)
  rw [List.append_nil] at hbt
  refine wpAny_call (codeAny_mono (run_ofH (CX := L2.CX Y.prog Y.w) (E := fun _ _ _ => False) (Q := Q) FF S14' hr hpin I1.env0 hbt r rfl fun cdv => flags_body T hz hf hI hm hk h2) fun r s' hq => ?_)
  cases r with
  | error er =>
    obtain ⟨_, _, _, _, _, _, _, _, _, _, _, _, z⟩ := hq
    exact z.elim
  | ok fl =>
    cases fl with
    | ret u => exact I1.after hq
    | next => exact False.elim hq
    | brk => exact False.elim hq
    | cont => exact False.elim hq
/-- what the catcher makes of a call -/
def TT (ca : Nat → Addr) (B : Nat → Nat → Bool) : (XK → Hp → VK → Prop) → Hp → VK → Prop := fun tl H Q =>
  tl (fun cls d H' => d = none ∧ ∃ c, c < 9 ∧ cls = .ref (ca c) ∧ ∀ H'' p, (∀ b o, H' b = some o → H'' b = some o) → H' p = none → H'' p = some (.lst (flV (B c))) → Q (.ref p) H'') H fun _ H' => ([] : List V).length ≤ sizeLine ∧ ∀ p, H' p = none → Q (.ref p) (upd H' p (.lst []))
theorem told_gives {X : Cx} {q : PySem.Str} {g ME fF : Addr} {cdg : Value} {fdF : FuncData} {ca : Nat → Addr} {B : Nat → Nat → Bool} (hr : Room 4 X.A) (hME : X.mg "MarkError" = some (.ref ME)) (hI : X.mg "isinstance" = none)
    (FF : FunD X.K "_law_flags" "_law_flags" (defArgs s14) (defBody s14) (defScope s14) [] [] fF fdF) (hF : X.mg "_law_flags" = some (.ref fF)) (hbF : L2.Binds X.K fdF ["_law_one"] []) (hm : ∀ j, 1 ≤ j → j ≤ 14 → X.mg (cnm j) = some (.ref (ca j)))
    (xe : ∀ c, c < 9 → PySem.W.exmOne X.K (.ref (ca c)) (.ref ME) = some true) (hT : ∀ c, c < 9 → Ox.IsC X.K (ca c)) (hk : ∀ c, c < 9 → ∀ j, 1 ≤ j → j ≤ 14 → PySem.W.kitOne X.K (.ref (ca c)) (.ref (ca j)) = some (B c j)) :
    LamX.GivesTo X NT "_law_taken" (defScope sTold) g cdg bTold "_law_call" q (TT ca B) := by
  intro f c' s H Q tl act hc h
  have suite : ∀ (c : Nat) (hc9 : c < 9) (a : Addr) (oe : Obj) (pn : List (Addr × Obj)) (hz : Zc (.ref (ca c)) none oe) (hf : ∃ vs, oe.data = .fields vs), ∃ t : TS, PSs ((cxOf C8.CX0 X.prog X.w X.K X.mg X.base NT "_law_taken" (defScope sTold) g cdg X.A X.stack s H C8.E0).nox.suite a ((a, oe) :: pn)) suiteB t ∧
      ∀ (Dn : Ends) (σ : L2.St) (H1 : Hp), σ[1]? = some (some (V.ref a)) → (∀ H' p, (∀ b o, H1 b = some o → H' b = some o) → H1 p = none → H' p = some (.lst (flV (B c))) → Dn.rt (.ref p) H') → t Dn σ H1 := fun c hc9 a oe pn hz hf => by
    refine ⟨_, pss_one (ps_ret (pe_hot (D := ca c) (B := B c) (ca := ca) List.mem_cons_self ?_ FF hF hbF (hT c hc9) hz hf hI hm (hk c hc9) (pv 1) rfl)), fun Dn σ H1 h1 h2 => ⟨h1, h2⟩⟩
    have h3 := (L2H.roomH_of hr).deeper (envOfC "_law_taken" (defScope sTold) s.heap.objs.size g cdg)
    exact ⟨h3.dp, h3.un⟩
  refine ⟨_, pss_cons (ps_try_as (X := (cxOf C8.CX0 X.prog X.w X.K X.mg X.base NT "_law_taken" (defScope sTold) g cdg X.A X.stack s H C8.E0).nox) (i := 1) (c := .ref ME)
      (tb := fun W D σ H => ∃ Ech : XK, (∀ cls d σ' H', Ech cls d H' → W cls d σ' H') ∧ σ[0]? = some (some (.ref f)) ∧ H c' = some (LamX.CodeO c' q) ∧ tl Ech H fun _ H1 => D.nx σ H1)
      (ts := fun a cls d Dn σ H1 => ∃ c, c < 9 ∧ cls = .ref (ca c) ∧ d = none ∧ (∃ σ' : L2.St, σ = σ'.set 1 (some (.ref a))) ∧ ∀ H' p, (∀ b o, H1 b = some o → H' b = some o) → H1 p = none → H' p = some (.lst (flV (B c))) → Dn.rt (.ref p) H')
      rfl rfl ST.nd rfl rfl ⟨rfl, by decide, .inl hME⟩ LamX.takes0 (fun W pn xe tk _ => ?_) (fun a oe cls d pn hz hf => ?_)) (pss_one (ps_ret (pe_lst pa_nil))), ?_⟩
  · refine ⟨fun pins s' σ H' D I h' => ?_⟩
    obtain ⟨Ech, hW, h1, h2, h3⟩ := h'
    exact (pss_one (ps_expr (act W pn xe Ech _ _ tk hW))).run pins s' σ H' D I ⟨h1, h2, h3⟩
  · refine ⟨fun pins s' σ H' Dn I h' => ?_⟩
    obtain ⟨c, hc9, rfl, rfl, hσ, k⟩ := h'
    obtain ⟨t, ht, hk⟩ := suite c hc9 a oe pn hz hf
    refine ht.run pins s' σ H' Dn I (hk Dn σ H' ?_ k)
    obtain ⟨σ', rfl⟩ := hσ
    have hl : (σ'.set 1 (some (V.ref a))).length = 2 := I.len
    rw [List.length_set] at hl
    rw [List.getElem?_set_self (by omega)]
  · unfold TT at h
    refine ⟨_, fun cls d σ' H' e => ?_, rfl, hc, h⟩
    obtain ⟨rfl, c, hc9, rfl, k⟩ := e
    exact ⟨true, xe c hc9, fun _ a ha => ⟨c, hc9, rfl, rfl, ⟨σ', rfl⟩, k⟩, fun z => Bool.noConfusion z⟩
end K00
end
/-! part K00q -/
section
set_option Elab.async false
set_option linter.all false
set_option maxRecDepth 100000
set_option maxHeartbeats 0
/-! K00q: all functions of the law at every depth. Printed by gen_end2.py. -/
namespace K00
open PySem PySem.Spec PyProof.Rows L2 Tw Hd00
def fnm : Nat → PySem.Str
  | 0 => "value"
  | 1 => "name"
  | 2 => "limit"
  | 3 => "paper"
  | 4 => "fork"
  | 5 => "many"
  | _ => ""
def GK (K : PySem.W.Frag) : Gx := ⟨K, ca K, fnm, [((He.cT K ("law", none)).2, (("law" : PySem.Str) ++ (".<locals>." : PySem.Str)) ++ ("<lambda>" : PySem.Str))]⟩
/-- the catcher's facts wherever the lambdas are made -/
def CatAll (P : Program) (w : World) (K : PySem.W.Frag) (mg : PySem.Str → Option Value) (base : Heap) : Prop := ∀ (n : Nat) (cdv : Value) (A : Around) (outer : List PySem.Env) (s : Shared) (H : Hp) (E : XK),
  (∃ oc od osl fd', K.lookup (He.fAd K ("law", none)) = some ⟨oc, od, .func fd', osl⟩ ∧ fd'.code = cdv ∧ PySem.W.codeIn K cdv "law" = true) →
  Room (5 * n + 4) (A.deeper (envOfC "law" (defScope s21) s.heap.objs.size (He.fAd K ("law", none)) cdv)) → Mg (GK K) fr is ss cs mg → (∀ (j : Nat) q, tbl[j]? = some q → Fn1 (GK K) P w mg base Φ tf n q.1 q.2.1 q.2.2) →
  Cat (Lk (GK K)) (cxOf (L2.CX P w) P w K mg base N21 "law" (defScope s21) (He.fAd K ("law", none)) cdv A outer s H E) 0 "_law_taken" n
section
variable {P : Program} {w : World} {K : PySem.W.Frag} {h base : Heap} {mg : PySem.Str → Option Value}
theorem mgs (KX : K.In h) (N : h.Ns mainGlobals mg) (c : He.SaysD fcs Hd00.fns K) : Mg (GK K) fr is ss cs mg where
  fr := fun j p e => match j, e with
    | 0, e => by cases e; exact He.free_ok KX N (c.fact 40 (f := .free "abs") rfl)
    | 1, e => by cases e; exact He.free_ok KX N (c.fact 41 (f := .free "all") rfl)
    | 2, e => by cases e; exact He.free_ok KX N (c.fact 42 (f := .free "enumerate") rfl)
    | 3, e => by cases e; exact He.free_ok KX N (c.fact 43 (f := .free "int") rfl)
    | 4, e => by cases e; exact He.free_ok KX N (c.fact 44 (f := .free "isinstance") rfl)
    | 5, e => by cases e; exact He.free_ok KX N (c.fact 45 (f := .free "len") rfl)
    | 6, e => by cases e; exact He.free_ok KX N (c.fact 46 (f := .free "list") rfl)
    | 7, e => by cases e; exact He.free_ok KX N (c.fact 47 (f := .free "max") rfl)
    | 8, e => by cases e; exact He.free_ok KX N (c.fact 48 (f := .free "min") rfl)
    | 9, e => by cases e; exact He.free_ok KX N (c.fact 49 (f := .free "range") rfl)
    | 10, e => by cases e; exact He.free_ok KX N (c.fact 50 (f := .free "repr") rfl)
    | 11, e => by cases e; exact He.free_ok KX N (c.fact 51 (f := .free "str") rfl)
    | 12, e => by cases e; exact He.free_ok KX N (c.fact 52 (f := .free "tuple") rfl)
    | 13, e => by cases e; exact He.free_ok KX N (c.fact 53 (f := .free "zip") rfl)
    | 14, e => by cases e; exact He.free_ok KX N (c.fact 54 (f := .free "ValueError") rfl)
    | 15, e => by cases e; exact He.free_ok KX N (c.fact 55 (f := .free "IndexError") rfl)
    | 16, e => by cases e; exact He.free_ok KX N (c.fact 56 (f := .free "KeyError") rfl)
    | 17, e => by cases e; exact He.free_ok KX N (c.fact 57 (f := .free "OverflowError") rfl)
    | 18, e => by cases e; exact He.free_ok KX N (c.fact 58 (f := .free "LookupError") rfl)
    | 19, e => by cases e; exact He.free_ok KX N (c.fact 59 (f := .free "ArithmeticError") rfl)
    | 20, e => by cases e; exact He.free_ok KX N (c.fact 60 (f := .free "RuntimeError") rfl)
    | _ + 21, e => by simp [fr] at e
  is := fun j p e => match j, e with
    | 0, e => by cases e; exact He.int_ok KX N (c.fact 38 (f := .int "MOST_LETTERS_words" 4) rfl)
    | _ + 1, e => by simp [is] at e
  ss := fun j p e => match j, e with
    | 0, e => by cases e; exact He.str_ok KX N (c.fact 39 (f := .str "LETTERS" "abcdefghijklmnopqrstuvwxyz") rfl)
    | _ + 1, e => by simp [ss] at e
  cs := fun j p e => match j, e with
    | 0, e => by cases e; exact ⟨He.glo_ok KX N (c.fact 22 (f := .glo "MarkError") rfl), He.exc_ok (c.fact 61 (f := .exc "MarkError") rfl)⟩
    | 1, e => by cases e; exact ⟨He.glo_ok KX N (c.fact 23 (f := .glo "InvalidText") rfl), He.exc_ok (c.fact 62 (f := .exc "InvalidText") rfl)⟩
    | 2, e => by cases e; exact ⟨He.glo_ok KX N (c.fact 24 (f := .glo "InvalidRewriter") rfl), He.exc_ok (c.fact 63 (f := .exc "InvalidRewriter") rfl)⟩
    | 3, e => by cases e; exact ⟨He.glo_ok KX N (c.fact 25 (f := .glo "InvalidMachine") rfl), He.exc_ok (c.fact 64 (f := .exc "InvalidMachine") rfl)⟩
    | 4, e => by cases e; exact ⟨He.glo_ok KX N (c.fact 26 (f := .glo "InvalidBook") rfl), He.exc_ok (c.fact 65 (f := .exc "InvalidBook") rfl)⟩
    | 5, e => by cases e; exact ⟨He.glo_ok KX N (c.fact 27 (f := .glo "InvalidOperation") rfl), He.exc_ok (c.fact 66 (f := .exc "InvalidOperation") rfl)⟩
    | 6, e => by cases e; exact ⟨He.glo_ok KX N (c.fact 28 (f := .glo "InvalidEdit") rfl), He.exc_ok (c.fact 67 (f := .exc "InvalidEdit") rfl)⟩
    | 7, e => by cases e; exact ⟨He.glo_ok KX N (c.fact 29 (f := .glo "ParseError") rfl), He.exc_ok (c.fact 68 (f := .exc "ParseError") rfl)⟩
    | 8, e => by cases e; exact ⟨He.glo_ok KX N (c.fact 30 (f := .glo "InvalidCommand") rfl), He.exc_ok (c.fact 69 (f := .exc "InvalidCommand") rfl)⟩
    | _ + 9, e => by simp [cs] at e
theorem rows_ok (h : rowsB K = true) : row0 K = true ∧ row1 K = true ∧ row2 K = true ∧ row3 K = true ∧ row4 K = true ∧ row5 K = true ∧ row6 K = true ∧ row7 K = true ∧ row8 K = true ∧ row9 K = true ∧ row10 K = true ∧ row11 K = true ∧ row12 K = true ∧ row13 K = true ∧ row14 K = true ∧ row15 K = true ∧ row16 K = true ∧ row17 K = true ∧ row18 K = true ∧ row19 K = true ∧ row20 K = true ∧ row21 K = true := by
  unfold rowsB at h
  obtain ⟨h_, r21⟩ := Bool.and_eq_true_iff.mp h
  obtain ⟨h_, r20⟩ := Bool.and_eq_true_iff.mp h_
  obtain ⟨h_, r19⟩ := Bool.and_eq_true_iff.mp h_
  obtain ⟨h_, r18⟩ := Bool.and_eq_true_iff.mp h_
  obtain ⟨h_, r17⟩ := Bool.and_eq_true_iff.mp h_
  obtain ⟨h_, r16⟩ := Bool.and_eq_true_iff.mp h_
  obtain ⟨h_, r15⟩ := Bool.and_eq_true_iff.mp h_
  obtain ⟨h_, r14⟩ := Bool.and_eq_true_iff.mp h_
  obtain ⟨h_, r13⟩ := Bool.and_eq_true_iff.mp h_
  obtain ⟨h_, r12⟩ := Bool.and_eq_true_iff.mp h_
  obtain ⟨h_, r11⟩ := Bool.and_eq_true_iff.mp h_
  obtain ⟨h_, r10⟩ := Bool.and_eq_true_iff.mp h_
  obtain ⟨h_, r9⟩ := Bool.and_eq_true_iff.mp h_
  obtain ⟨h_, r8⟩ := Bool.and_eq_true_iff.mp h_
  obtain ⟨h_, r7⟩ := Bool.and_eq_true_iff.mp h_
  obtain ⟨h_, r6⟩ := Bool.and_eq_true_iff.mp h_
  obtain ⟨h_, r5⟩ := Bool.and_eq_true_iff.mp h_
  obtain ⟨h_, r4⟩ := Bool.and_eq_true_iff.mp h_
  obtain ⟨h_, r3⟩ := Bool.and_eq_true_iff.mp h_
  obtain ⟨h_, r2⟩ := Bool.and_eq_true_iff.mp h_
  obtain ⟨r0, r1⟩ := Bool.and_eq_true_iff.mp h_
  exact ⟨r0, r1, r2, r3, r4, r5, r6, r7, r8, r9, r10, r11, r12, r13, r14, r15, r16, r17, r18, r19, r20, r21⟩
theorem xf (KX : K.In h) (N : h.Ns mainGlobals mg) (c : He.SaysD fcs Hd00.fns K) (hm : more K = true) (b1 : ∃ o, base.get? sysModules = some o ∧ o.cls = .type "dict") : Xf (GK K) P w mg base tgs mks fns := by
  unfold more moreB at hm
  obtain ⟨hm, hx⟩ := Bool.and_eq_true_iff.mp hm
  obtain ⟨hA, hr⟩ := Bool.and_eq_true_iff.mp hm
  obtain ⟨r0, r1, r2, r3, r4, r5, r6, r7, r8, r9, r10, r11, r12, r13, r14, r15, r16, r17, r18, r19, r20, r21⟩ := rows_ok hr
  unfold oxsB at hx
  obtain ⟨h_, x5⟩ := Bool.and_eq_true_iff.mp hx
  obtain ⟨h_, x4⟩ := Bool.and_eq_true_iff.mp h_
  obtain ⟨h_, x3⟩ := Bool.and_eq_true_iff.mp h_
  obtain ⟨h_, x2⟩ := Bool.and_eq_true_iff.mp h_
  obtain ⟨x0, x1⟩ := Bool.and_eq_true_iff.mp h_
  refine ⟨b1, fun j p e => ?_, fun j p e => ?_, fun j x e => ?_⟩
  · match j, e with
    | 0, e => cases e; exact ⟨.ref (ca K 0), .ref (ca K 0), .own _, .inl ⟨_, He.glo_ok KX N (c.fact 22 (f := .glo "MarkError") rfl), rfl⟩, by decide, fun c r e => ⟨all_isC hA c (Nat.lt_of_lt_of_le (List.getElem?_eq_some_iff.mp e).1 (by decide)), TwI.rowB_ok r0 c r e⟩⟩
    | 1, e => cases e; exact ⟨.ref (ca K 1), .ref (ca K 1), .own _, .inl ⟨_, He.glo_ok KX N (c.fact 23 (f := .glo "InvalidText") rfl), rfl⟩, by decide, fun c r e => ⟨all_isC hA c (Nat.lt_of_lt_of_le (List.getElem?_eq_some_iff.mp e).1 (by decide)), TwI.rowB_ok r1 c r e⟩⟩
    | 2, e => cases e; exact ⟨.ref (ca K 2), .ref (ca K 2), .own _, .inl ⟨_, He.glo_ok KX N (c.fact 24 (f := .glo "InvalidRewriter") rfl), rfl⟩, by decide, fun c r e => ⟨all_isC hA c (Nat.lt_of_lt_of_le (List.getElem?_eq_some_iff.mp e).1 (by decide)), TwI.rowB_ok r2 c r e⟩⟩
    | 3, e => cases e; exact ⟨.ref (ca K 3), .ref (ca K 3), .own _, .inl ⟨_, He.glo_ok KX N (c.fact 25 (f := .glo "InvalidMachine") rfl), rfl⟩, by decide, fun c r e => ⟨all_isC hA c (Nat.lt_of_lt_of_le (List.getElem?_eq_some_iff.mp e).1 (by decide)), TwI.rowB_ok r3 c r e⟩⟩
    | 4, e => cases e; exact ⟨.ref (ca K 4), .ref (ca K 4), .own _, .inl ⟨_, He.glo_ok KX N (c.fact 26 (f := .glo "InvalidBook") rfl), rfl⟩, by decide, fun c r e => ⟨all_isC hA c (Nat.lt_of_lt_of_le (List.getElem?_eq_some_iff.mp e).1 (by decide)), TwI.rowB_ok r4 c r e⟩⟩
    | 5, e => cases e; exact ⟨.ref (ca K 5), .ref (ca K 5), .own _, .inl ⟨_, He.glo_ok KX N (c.fact 27 (f := .glo "InvalidOperation") rfl), rfl⟩, by decide, fun c r e => ⟨all_isC hA c (Nat.lt_of_lt_of_le (List.getElem?_eq_some_iff.mp e).1 (by decide)), TwI.rowB_ok r5 c r e⟩⟩
    | 6, e => cases e; exact ⟨.ref (ca K 6), .ref (ca K 6), .own _, .inl ⟨_, He.glo_ok KX N (c.fact 28 (f := .glo "InvalidEdit") rfl), rfl⟩, by decide, fun c r e => ⟨all_isC hA c (Nat.lt_of_lt_of_le (List.getElem?_eq_some_iff.mp e).1 (by decide)), TwI.rowB_ok r6 c r e⟩⟩
    | 7, e => cases e; exact ⟨.ref (ca K 7), .ref (ca K 7), .own _, .inl ⟨_, He.glo_ok KX N (c.fact 29 (f := .glo "ParseError") rfl), rfl⟩, by decide, fun c r e => ⟨all_isC hA c (Nat.lt_of_lt_of_le (List.getElem?_eq_some_iff.mp e).1 (by decide)), TwI.rowB_ok r7 c r e⟩⟩
    | 8, e => cases e; exact ⟨.ref (ca K 8), .ref (ca K 8), .own _, .inl ⟨_, He.glo_ok KX N (c.fact 30 (f := .glo "InvalidCommand") rfl), rfl⟩, by decide, fun c r e => ⟨all_isC hA c (Nat.lt_of_lt_of_le (List.getElem?_eq_some_iff.mp e).1 (by decide)), TwI.rowB_ok r8 c r e⟩⟩
    | 9, e => cases e; exact ⟨.ref (ca K 9), .ref (ca K 9), .own _, .inl ⟨_, He.glo_ok KX N (c.fact 31 (f := .glo "InvalidNumber") rfl), rfl⟩, by decide, fun c r e => ⟨all_isC hA c (Nat.lt_of_lt_of_le (List.getElem?_eq_some_iff.mp e).1 (by decide)), TwI.rowB_ok r9 c r e⟩⟩
    | 10, e => cases e; exact ⟨.ref (ca K 10), .ref (ca K 10), .own _, .inl ⟨_, He.glo_ok KX N (c.fact 32 (f := .glo "UnknownName") rfl), rfl⟩, by decide, fun c r e => ⟨all_isC hA c (Nat.lt_of_lt_of_le (List.getElem?_eq_some_iff.mp e).1 (by decide)), TwI.rowB_ok r10 c r e⟩⟩
    | 11, e => cases e; exact ⟨.ref (ca K 11), .ref (ca K 11), .own _, .inl ⟨_, He.glo_ok KX N (c.fact 33 (f := .glo "TooMany") rfl), rfl⟩, by decide, fun c r e => ⟨all_isC hA c (Nat.lt_of_lt_of_le (List.getElem?_eq_some_iff.mp e).1 (by decide)), TwI.rowB_ok r11 c r e⟩⟩
    | 12, e => cases e; exact ⟨.ref (ca K 12), .ref (ca K 12), .own _, .inl ⟨_, He.glo_ok KX N (c.fact 34 (f := .glo "NotSingle") rfl), rfl⟩, by decide, fun c r e => ⟨all_isC hA c (Nat.lt_of_lt_of_le (List.getElem?_eq_some_iff.mp e).1 (by decide)), TwI.rowB_ok r12 c r e⟩⟩
    | 13, e => cases e; exact ⟨.ref (ca K 13), .ref (ca K 13), .own _, .inl ⟨_, He.glo_ok KX N (c.fact 35 (f := .glo "NeedsMarks") rfl), rfl⟩, by decide, fun c r e => ⟨all_isC hA c (Nat.lt_of_lt_of_le (List.getElem?_eq_some_iff.mp e).1 (by decide)), TwI.rowB_ok r13 c r e⟩⟩
    | 14, e => cases e; exact ⟨.ref (ca K 14), .ref (ca K 14), .own _, .inl ⟨_, He.glo_ok KX N (c.fact 36 (f := .glo "NothingToUndo") rfl), rfl⟩, by decide, fun c r e => ⟨all_isC hA c (Nat.lt_of_lt_of_le (List.getElem?_eq_some_iff.mp e).1 (by decide)), TwI.rowB_ok r14 c r e⟩⟩
    | 15, e => cases e; exact ⟨.ty "ValueError", .type "ValueError", .ty _, .inr ⟨"ValueError", He.free_ok KX N (c.fact 54 (f := .free "ValueError") rfl), rfl, rfl⟩, by decide, fun c r e => ⟨all_isC hA c (Nat.lt_of_lt_of_le (List.getElem?_eq_some_iff.mp e).1 (by decide)), TwI.rowB_ok r15 c r e⟩⟩
    | 16, e => cases e; exact ⟨.ty "IndexError", .type "IndexError", .ty _, .inr ⟨"IndexError", He.free_ok KX N (c.fact 55 (f := .free "IndexError") rfl), rfl, rfl⟩, by decide, fun c r e => ⟨all_isC hA c (Nat.lt_of_lt_of_le (List.getElem?_eq_some_iff.mp e).1 (by decide)), TwI.rowB_ok r16 c r e⟩⟩
    | 17, e => cases e; exact ⟨.ty "KeyError", .type "KeyError", .ty _, .inr ⟨"KeyError", He.free_ok KX N (c.fact 56 (f := .free "KeyError") rfl), rfl, rfl⟩, by decide, fun c r e => ⟨all_isC hA c (Nat.lt_of_lt_of_le (List.getElem?_eq_some_iff.mp e).1 (by decide)), TwI.rowB_ok r17 c r e⟩⟩
    | 18, e => cases e; exact ⟨.ty "OverflowError", .type "OverflowError", .ty _, .inr ⟨"OverflowError", He.free_ok KX N (c.fact 57 (f := .free "OverflowError") rfl), rfl, rfl⟩, by decide, fun c r e => ⟨all_isC hA c (Nat.lt_of_lt_of_le (List.getElem?_eq_some_iff.mp e).1 (by decide)), TwI.rowB_ok r18 c r e⟩⟩
    | 19, e => cases e; exact ⟨.ty "LookupError", .type "LookupError", .ty _, .inr ⟨"LookupError", He.free_ok KX N (c.fact 58 (f := .free "LookupError") rfl), rfl, rfl⟩, by decide, fun c r e => ⟨all_isC hA c (Nat.lt_of_lt_of_le (List.getElem?_eq_some_iff.mp e).1 (by decide)), TwI.rowB_ok r19 c r e⟩⟩
    | 20, e => cases e; exact ⟨.ty "ArithmeticError", .type "ArithmeticError", .ty _, .inr ⟨"ArithmeticError", He.free_ok KX N (c.fact 59 (f := .free "ArithmeticError") rfl), rfl, rfl⟩, by decide, fun c r e => ⟨all_isC hA c (Nat.lt_of_lt_of_le (List.getElem?_eq_some_iff.mp e).1 (by decide)), TwI.rowB_ok r20 c r e⟩⟩
    | 21, e => cases e; exact ⟨.ty "RuntimeError", .type "RuntimeError", .ty _, .inr ⟨"RuntimeError", He.free_ok KX N (c.fact 60 (f := .free "RuntimeError") rfl), rfl, rfl⟩, by decide, fun c r e => ⟨all_isC hA c (Nat.lt_of_lt_of_le (List.getElem?_eq_some_iff.mp e).1 (by decide)), TwI.rowB_ok r21 c r e⟩⟩
    | _ + 22, e => simp [tgs] at e
  · match j, e with
    | 0, e =>
      cases e
      obtain ⟨fd, F⟩ := c.def_ 22 (d := d22) rfl
      have OC : Ox.OxC K (ca K 9) (He.fAd K ("InvalidNumber", some "__init__")) "value" := oxC_of PySem.F.excBase_IndexError x0 (by decide +kernel) (by decide +kernel) (by decide +kernel) (by decide +kernel) (fun self => by kernel_rfl)
      exact ⟨⟨⟨_, fd, "value", OC, Ox.init_ok OC F (C8.fnScope_by (by decide +kernel)) (.inl rfl) (.inl rfl) rfl rfl, F.bindsN fun _ _ _ _ _ _ us hl => (match us, hl with | [_, _], _ => rfl), He.glo_ok KX N (c.fact 31 (f := .glo "InvalidNumber") rfl)⟩⟩, by decide, all_isC hA 9 (by decide)⟩
    | 1, e =>
      cases e
      obtain ⟨fd, F⟩ := c.def_ 23 (d := d23) rfl
      have OC : Ox.OxC K (ca K 10) (He.fAd K ("UnknownName", some "__init__")) "name" := oxC_of PySem.F.excBase_LookupError x1 (by decide +kernel) (by decide +kernel) (by decide +kernel) (by decide +kernel) (fun self => by kernel_rfl)
      exact ⟨⟨⟨_, fd, "name", OC, Ox.init_ok OC F (C8.fnScope_by (by decide +kernel)) (.inl rfl) (.inl rfl) rfl rfl, F.bindsN fun _ _ _ _ _ _ us hl => (match us, hl with | [_, _], _ => rfl), He.glo_ok KX N (c.fact 32 (f := .glo "UnknownName") rfl)⟩⟩, by decide, all_isC hA 10 (by decide)⟩
    | 2, e =>
      cases e
      obtain ⟨fd, F⟩ := c.def_ 24 (d := d24) rfl
      have OC : Ox.OxC K (ca K 11) (He.fAd K ("TooMany", some "__init__")) "limit" := oxC_of PySem.F.excBase_OverflowError x2 (by decide +kernel) (by decide +kernel) (by decide +kernel) (by decide +kernel) (fun self => by kernel_rfl)
      exact ⟨⟨⟨_, fd, "limit", OC, Ox.init_ok OC F (C8.fnScope_by (by decide +kernel)) (.inl rfl) (.inl rfl) rfl rfl, F.bindsN fun _ _ _ _ _ _ us hl => (match us, hl with | [_, _], _ => rfl), He.glo_ok KX N (c.fact 33 (f := .glo "TooMany") rfl)⟩⟩, by decide, all_isC hA 11 (by decide)⟩
    | 3, e =>
      cases e
      obtain ⟨fd, F⟩ := c.def_ 25 (d := d25) rfl
      have OC : Ox.OxC K (ca K 12) (He.fAd K ("NotSingle", some "__init__")) "paper" := oxC_of PySem.F.excBase_ArithmeticError x3 (by decide +kernel) (by decide +kernel) (by decide +kernel) (by decide +kernel) (fun self => by kernel_rfl)
      exact ⟨⟨⟨_, fd, "paper", OC, Ox.init_ok OC F (C8.fnScope_by (by decide +kernel)) (.inl rfl) (.inl rfl) rfl rfl, F.bindsN fun _ _ _ _ _ _ us hl => (match us, hl with | [_, _], _ => rfl), He.glo_ok KX N (c.fact 34 (f := .glo "NotSingle") rfl)⟩⟩, by decide, all_isC hA 12 (by decide)⟩
    | 4, e =>
      cases e
      obtain ⟨fd, F⟩ := c.def_ 26 (d := d26) rfl
      have OC : Ox.OxC K (ca K 13) (He.fAd K ("NeedsMarks", some "__init__")) "fork" := oxC_of PySem.F.excBase_RuntimeError x4 (by decide +kernel) (by decide +kernel) (by decide +kernel) (by decide +kernel) (fun self => by kernel_rfl)
      exact ⟨⟨⟨_, fd, "fork", OC, Ox.init_ok OC F (C8.fnScope_by (by decide +kernel)) (.inl rfl) (.inl rfl) rfl rfl, F.bindsN fun _ _ _ _ _ _ us hl => (match us, hl with | [_, _], _ => rfl), He.glo_ok KX N (c.fact 35 (f := .glo "NeedsMarks") rfl)⟩⟩, by decide, all_isC hA 13 (by decide)⟩
    | 5, e =>
      cases e
      obtain ⟨fd, F⟩ := c.def_ 27 (d := d27) rfl
      have OC : Ox.OxC K (ca K 14) (He.fAd K ("NothingToUndo", some "__init__")) "many" := oxC_of PySem.F.excBase_LookupError x5 (by decide +kernel) (by decide +kernel) (by decide +kernel) (by decide +kernel) (fun self => by kernel_rfl)
      exact ⟨⟨⟨_, fd, "many", OC, Ox.init_ok OC F (C8.fnScope_by (by decide +kernel)) (.inl rfl) (.inl rfl) rfl rfl, F.bindsN fun _ _ _ _ _ _ us hl => (match us, hl with | [_, _], _ => rfl), He.glo_ok KX N (c.fact 36 (f := .glo "NothingToUndo") rfl)⟩⟩, by decide, all_isC hA 14 (by decide)⟩
    | _ + 6, e => simp [mks] at e
  · match j, e with
    | 0, e => cases e; rfl
    | 1, e => cases e; rfl
    | 2, e => cases e; rfl
    | 3, e => cases e; rfl
    | 4, e => cases e; rfl
    | 5, e => cases e; rfl
    | _ + 6, e => simp [fns] at e
theorem ini100_0 (KX : K.In h) (N : h.Ns mainGlobals mg) (c : He.SaysD fcs Hd00.fns K) : Ini1 (GK K) P w mg base Φ tf 0 100 28 "Rewriter" := by
  obtain ⟨fd, F⟩ := c.def_ 28 (d := d28) rfl
  exact ⟨⟨_, fd, ["self", "letters", "starts", "edges", "ends"], by decide, He.mkr_ok (c.fact 77 (f := .mkr "Rewriter") rfl), fnX_zero, (F.bindsN fun _ _ _ _ _ _ us hl => match us, hl with | [_, _, _, _, _], _ => rfl), He.glo_ok KX N (c.fact 37 (f := .glo "Rewriter") rfl)⟩⟩
theorem ini100_s (KX : K.In h) (N : h.Ns mainGlobals mg) (c : He.SaysD fcs Hd00.fns K) (FX : Xf (GK K) P w mg base tgs mks fns) (n : Nat) (m : Mg (GK K) fr is ss cs mg) (ih : ∀ (j : Nat) q, tbl[j]? = some q → Fn1 (GK K) P w mg base Φ tf n q.1 q.2.1 q.2.2) : Ini1 (GK K) P w mg base Φ tf (n + 1) 100 28 "Rewriter" := by
  obtain ⟨fd, F⟩ := c.def_ 28 (d := d28) rfl
  exact ⟨⟨_, fd, ["self", "letters", "starts", "edges", "ends"], by decide, He.mkr_ok (c.fact 77 (f := .mkr "Rewriter") rfl), w28 (G := GK K) FX m ih F, (F.bindsN fun _ _ _ _ _ _ us hl => match us, hl with | [_, _, _, _, _], _ => rfl), He.glo_ok KX N (c.fact 37 (f := .glo "Rewriter") rfl)⟩⟩
theorem z0 (KX : K.In h) (N : h.Ns mainGlobals mg) (c : He.SaysD fcs Hd00.fns K) : Fn1 (GK K) P w mg base Φ tf 0 (tbl.getD 0 (0, false, "")).1 (tbl.getD 0 (0, false, "")).2.1 (tbl.getD 0 (0, false, "")).2.2 := by
  obtain ⟨fd, F⟩ := c.def_ 0 (d := d0) rfl
  exact ⟨⟨_, fd, ["value"], fnX_zero, He.glo_ok KX N (c.fact 0 (f := .glo "is_word") rfl), F.kp, (F.bindsN fun _ _ _ _ _ _ us hl => match us, hl with | [_], _ => rfl)⟩⟩
theorem a0 (KX : K.In h) (N : h.Ns mainGlobals mg) (c : He.SaysD fcs Hd00.fns K) (CAT : CatAll P w K mg base) (FX : Xf (GK K) P w mg base tgs mks fns) (n : Nat) (m : Mg (GK K) fr is ss cs mg) (ih : ∀ (j : Nat) q, tbl[j]? = some q → Fn1 (GK K) P w mg base Φ tf n q.1 q.2.1 q.2.2) (FI100 : Ini1 (GK K) P w mg base Φ tf n 100 28 "Rewriter") : Fn1 (GK K) P w mg base Φ tf (n + 1) (tbl.getD 0 (0, false, "")).1 (tbl.getD 0 (0, false, "")).2.1 (tbl.getD 0 (0, false, "")).2.2 := by
  obtain ⟨fd, F⟩ := c.def_ 0 (d := d0) rfl
  exact ⟨⟨_, fd, ["value"], w0 (G := GK K) FX  m ih F, He.glo_ok KX N (c.fact 0 (f := .glo "is_word") rfl), F.kp, (F.bindsN fun _ _ _ _ _ _ us hl => match us, hl with | [_], _ => rfl)⟩⟩
theorem z1 (KX : K.In h) (N : h.Ns mainGlobals mg) (c : He.SaysD fcs Hd00.fns K) : Fn1 (GK K) P w mg base Φ tf 0 (tbl.getD 1 (0, false, "")).1 (tbl.getD 1 (0, false, "")).2.1 (tbl.getD 1 (0, false, "")).2.2 := by
  obtain ⟨fd, F⟩ := c.def_ 1 (d := d1) rfl
  exact ⟨⟨_, fd, ["signs"], fnX_zero, He.glo_ok KX N (c.fact 1 (f := .glo "are_ascending") rfl), F.kp, (F.bindsN fun _ _ _ _ _ _ us hl => match us, hl with | [_], _ => rfl)⟩⟩
theorem a1 (KX : K.In h) (N : h.Ns mainGlobals mg) (c : He.SaysD fcs Hd00.fns K) (CAT : CatAll P w K mg base) (FX : Xf (GK K) P w mg base tgs mks fns) (n : Nat) (m : Mg (GK K) fr is ss cs mg) (ih : ∀ (j : Nat) q, tbl[j]? = some q → Fn1 (GK K) P w mg base Φ tf n q.1 q.2.1 q.2.2) (FI100 : Ini1 (GK K) P w mg base Φ tf n 100 28 "Rewriter") : Fn1 (GK K) P w mg base Φ tf (n + 1) (tbl.getD 1 (0, false, "")).1 (tbl.getD 1 (0, false, "")).2.1 (tbl.getD 1 (0, false, "")).2.2 := by
  obtain ⟨fd, F⟩ := c.def_ 1 (d := d1) rfl
  exact ⟨⟨_, fd, ["signs"], w1 (G := GK K) FX  m ih F, He.glo_ok KX N (c.fact 1 (f := .glo "are_ascending") rfl), F.kp, (F.bindsN fun _ _ _ _ _ _ us hl => match us, hl with | [_], _ => rfl)⟩⟩
theorem z2 (KX : K.In h) (N : h.Ns mainGlobals mg) (c : He.SaysD fcs Hd00.fns K) : Fn1 (GK K) P w mg base Φ tf 0 (tbl.getD 2 (0, false, "")).1 (tbl.getD 2 (0, false, "")).2.1 (tbl.getD 2 (0, false, "")).2.2 := by
  obtain ⟨fd, F⟩ := c.def_ 2 (d := d2) rfl
  exact ⟨⟨_, fd, ["value"], fnX_zero, He.glo_ok KX N (c.fact 2 (f := .glo "are_letters") rfl), F.kp, (F.bindsN fun _ _ _ _ _ _ us hl => match us, hl with | [_], _ => rfl)⟩⟩
theorem a2 (KX : K.In h) (N : h.Ns mainGlobals mg) (c : He.SaysD fcs Hd00.fns K) (CAT : CatAll P w K mg base) (FX : Xf (GK K) P w mg base tgs mks fns) (n : Nat) (m : Mg (GK K) fr is ss cs mg) (ih : ∀ (j : Nat) q, tbl[j]? = some q → Fn1 (GK K) P w mg base Φ tf n q.1 q.2.1 q.2.2) (FI100 : Ini1 (GK K) P w mg base Φ tf n 100 28 "Rewriter") : Fn1 (GK K) P w mg base Φ tf (n + 1) (tbl.getD 2 (0, false, "")).1 (tbl.getD 2 (0, false, "")).2.1 (tbl.getD 2 (0, false, "")).2.2 := by
  obtain ⟨fd, F⟩ := c.def_ 2 (d := d2) rfl
  exact ⟨⟨_, fd, ["value"], w2 (G := GK K) FX  m ih F, He.glo_ok KX N (c.fact 2 (f := .glo "are_letters") rfl), F.kp, (F.bindsN fun _ _ _ _ _ _ us hl => match us, hl with | [_], _ => rfl)⟩⟩
theorem z3 (KX : K.In h) (N : h.Ns mainGlobals mg) (c : He.SaysD fcs Hd00.fns K) : Fn1 (GK K) P w mg base Φ tf 0 (tbl.getD 3 (0, false, "")).1 (tbl.getD 3 (0, false, "")).2.1 (tbl.getD 3 (0, false, "")).2.2 := by
  obtain ⟨fd, F⟩ := c.def_ 3 (d := d3) rfl
  exact ⟨⟨_, fd, ["value"], fnX_zero, He.glo_ok KX N (c.fact 3 (f := .glo "is_delay") rfl), F.kp, (F.bindsN fun _ _ _ _ _ _ us hl => match us, hl with | [_], _ => rfl)⟩⟩
theorem a3 (KX : K.In h) (N : h.Ns mainGlobals mg) (c : He.SaysD fcs Hd00.fns K) (CAT : CatAll P w K mg base) (FX : Xf (GK K) P w mg base tgs mks fns) (n : Nat) (m : Mg (GK K) fr is ss cs mg) (ih : ∀ (j : Nat) q, tbl[j]? = some q → Fn1 (GK K) P w mg base Φ tf n q.1 q.2.1 q.2.2) (FI100 : Ini1 (GK K) P w mg base Φ tf n 100 28 "Rewriter") : Fn1 (GK K) P w mg base Φ tf (n + 1) (tbl.getD 3 (0, false, "")).1 (tbl.getD 3 (0, false, "")).2.1 (tbl.getD 3 (0, false, "")).2.2 := by
  obtain ⟨fd, F⟩ := c.def_ 3 (d := d3) rfl
  exact ⟨⟨_, fd, ["value"], w3 (G := GK K) FX  m ih F, He.glo_ok KX N (c.fact 3 (f := .glo "is_delay") rfl), F.kp, (F.bindsN fun _ _ _ _ _ _ us hl => match us, hl with | [_], _ => rfl)⟩⟩
theorem z4 (KX : K.In h) (N : h.Ns mainGlobals mg) (c : He.SaysD fcs Hd00.fns K) : Fn1 (GK K) P w mg base Φ tf 0 (tbl.getD 4 (0, false, "")).1 (tbl.getD 4 (0, false, "")).2.1 (tbl.getD 4 (0, false, "")).2.2 := by
  obtain ⟨fd, F⟩ := c.def_ 4 (d := d4) rfl
  exact ⟨⟨_, fd, ["value"], fnX_zero, He.glo_ok KX N (c.fact 4 (f := .glo "require_word") rfl), F.kp, (F.bindsN fun _ _ _ _ _ _ us hl => match us, hl with | [_], _ => rfl)⟩⟩
theorem a4 (KX : K.In h) (N : h.Ns mainGlobals mg) (c : He.SaysD fcs Hd00.fns K) (CAT : CatAll P w K mg base) (FX : Xf (GK K) P w mg base tgs mks fns) (n : Nat) (m : Mg (GK K) fr is ss cs mg) (ih : ∀ (j : Nat) q, tbl[j]? = some q → Fn1 (GK K) P w mg base Φ tf n q.1 q.2.1 q.2.2) (FI100 : Ini1 (GK K) P w mg base Φ tf n 100 28 "Rewriter") : Fn1 (GK K) P w mg base Φ tf (n + 1) (tbl.getD 4 (0, false, "")).1 (tbl.getD 4 (0, false, "")).2.1 (tbl.getD 4 (0, false, "")).2.2 := by
  obtain ⟨fd, F⟩ := c.def_ 4 (d := d4) rfl
  exact ⟨⟨_, fd, ["value"], w4 (G := GK K) FX  m ih F, He.glo_ok KX N (c.fact 4 (f := .glo "require_word") rfl), F.kp, (F.bindsN fun _ _ _ _ _ _ us hl => match us, hl with | [_], _ => rfl)⟩⟩
theorem z5 (KX : K.In h) (N : h.Ns mainGlobals mg) (c : He.SaysD fcs Hd00.fns K) : Fn1 (GK K) P w mg base Φ tf 0 (tbl.getD 5 (0, false, "")).1 (tbl.getD 5 (0, false, "")).2.1 (tbl.getD 5 (0, false, "")).2.2 := by
  obtain ⟨fd, F⟩ := c.def_ 5 (d := d5) rfl
  exact ⟨⟨_, fd, ["word", "other"], fnX_zero, He.glo_ok KX N (c.fact 5 (f := .glo "shared_letters") rfl), F.kp, (F.bindsN fun _ _ _ _ _ _ us hl => match us, hl with | [_, _], _ => rfl)⟩⟩
theorem a5 (KX : K.In h) (N : h.Ns mainGlobals mg) (c : He.SaysD fcs Hd00.fns K) (CAT : CatAll P w K mg base) (FX : Xf (GK K) P w mg base tgs mks fns) (n : Nat) (m : Mg (GK K) fr is ss cs mg) (ih : ∀ (j : Nat) q, tbl[j]? = some q → Fn1 (GK K) P w mg base Φ tf n q.1 q.2.1 q.2.2) (FI100 : Ini1 (GK K) P w mg base Φ tf n 100 28 "Rewriter") : Fn1 (GK K) P w mg base Φ tf (n + 1) (tbl.getD 5 (0, false, "")).1 (tbl.getD 5 (0, false, "")).2.1 (tbl.getD 5 (0, false, "")).2.2 := by
  obtain ⟨fd, F⟩ := c.def_ 5 (d := d5) rfl
  exact ⟨⟨_, fd, ["word", "other"], w5 (G := GK K) FX  m ih F, He.glo_ok KX N (c.fact 5 (f := .glo "shared_letters") rfl), F.kp, (F.bindsN fun _ _ _ _ _ _ us hl => match us, hl with | [_, _], _ => rfl)⟩⟩
theorem z6 (KX : K.In h) (N : h.Ns mainGlobals mg) (c : He.SaysD fcs Hd00.fns K) : Fn1 (GK K) P w mg base Φ tf 0 (tbl.getD 6 (0, false, "")).1 (tbl.getD 6 (0, false, "")).2.1 (tbl.getD 6 (0, false, "")).2.2 := by
  obtain ⟨fd, F⟩ := c.def_ 6 (d := d6) rfl
  exact ⟨⟨_, fd, ["word", "other"], fnX_zero, He.glo_ok KX N (c.fact 6 (f := .glo "delay_in") rfl), F.kp, (F.bindsN fun _ _ _ _ _ _ us hl => match us, hl with | [_, _], _ => rfl)⟩⟩
theorem a6 (KX : K.In h) (N : h.Ns mainGlobals mg) (c : He.SaysD fcs Hd00.fns K) (CAT : CatAll P w K mg base) (FX : Xf (GK K) P w mg base tgs mks fns) (n : Nat) (m : Mg (GK K) fr is ss cs mg) (ih : ∀ (j : Nat) q, tbl[j]? = some q → Fn1 (GK K) P w mg base Φ tf n q.1 q.2.1 q.2.2) (FI100 : Ini1 (GK K) P w mg base Φ tf n 100 28 "Rewriter") : Fn1 (GK K) P w mg base Φ tf (n + 1) (tbl.getD 6 (0, false, "")).1 (tbl.getD 6 (0, false, "")).2.1 (tbl.getD 6 (0, false, "")).2.2 := by
  obtain ⟨fd, F⟩ := c.def_ 6 (d := d6) rfl
  exact ⟨⟨_, fd, ["word", "other"], w6 (G := GK K) FX  m ih F, He.glo_ok KX N (c.fact 6 (f := .glo "delay_in") rfl), F.kp, (F.bindsN fun _ _ _ _ _ _ us hl => match us, hl with | [_, _], _ => rfl)⟩⟩
theorem z7 (KX : K.In h) (N : h.Ns mainGlobals mg) (c : He.SaysD fcs Hd00.fns K) : Fn1 (GK K) P w mg base Φ tf 0 (tbl.getD 7 (0, false, "")).1 (tbl.getD 7 (0, false, "")).2.1 (tbl.getD 7 (0, false, "")).2.2 := by
  obtain ⟨fd, F⟩ := c.def_ 7 (d := d7) rfl
  exact ⟨⟨_, fd, ["word", "other"], fnX_zero, He.glo_ok KX N (c.fact 7 (f := .glo "delay") rfl), F.kp, (F.bindsN fun _ _ _ _ _ _ us hl => match us, hl with | [_, _], _ => rfl)⟩⟩
theorem a7 (KX : K.In h) (N : h.Ns mainGlobals mg) (c : He.SaysD fcs Hd00.fns K) (CAT : CatAll P w K mg base) (FX : Xf (GK K) P w mg base tgs mks fns) (n : Nat) (m : Mg (GK K) fr is ss cs mg) (ih : ∀ (j : Nat) q, tbl[j]? = some q → Fn1 (GK K) P w mg base Φ tf n q.1 q.2.1 q.2.2) (FI100 : Ini1 (GK K) P w mg base Φ tf n 100 28 "Rewriter") : Fn1 (GK K) P w mg base Φ tf (n + 1) (tbl.getD 7 (0, false, "")).1 (tbl.getD 7 (0, false, "")).2.1 (tbl.getD 7 (0, false, "")).2.2 := by
  obtain ⟨fd, F⟩ := c.def_ 7 (d := d7) rfl
  exact ⟨⟨_, fd, ["word", "other"], w7 (G := GK K) FX  m ih F, He.glo_ok KX N (c.fact 7 (f := .glo "delay") rfl), F.kp, (F.bindsN fun _ _ _ _ _ _ us hl => match us, hl with | [_, _], _ => rfl)⟩⟩
theorem z8 (KX : K.In h) (N : h.Ns mainGlobals mg) (c : He.SaysD fcs Hd00.fns K) : Fn1 (GK K) P w mg base Φ tf 0 (tbl.getD 8 (0, false, "")).1 (tbl.getD 8 (0, false, "")).2.1 (tbl.getD 8 (0, false, "")).2.2 := by
  obtain ⟨fd, F⟩ := c.def_ 8 (d := d8) rfl
  exact ⟨⟨_, fd, ["value"], fnX_zero, He.glo_ok KX N (c.fact 8 (f := .glo "require_delay") rfl), F.kp, (F.bindsN fun _ _ _ _ _ _ us hl => match us, hl with | [_], _ => rfl)⟩⟩
theorem a8 (KX : K.In h) (N : h.Ns mainGlobals mg) (c : He.SaysD fcs Hd00.fns K) (CAT : CatAll P w K mg base) (FX : Xf (GK K) P w mg base tgs mks fns) (n : Nat) (m : Mg (GK K) fr is ss cs mg) (ih : ∀ (j : Nat) q, tbl[j]? = some q → Fn1 (GK K) P w mg base Φ tf n q.1 q.2.1 q.2.2) (FI100 : Ini1 (GK K) P w mg base Φ tf n 100 28 "Rewriter") : Fn1 (GK K) P w mg base Φ tf (n + 1) (tbl.getD 8 (0, false, "")).1 (tbl.getD 8 (0, false, "")).2.1 (tbl.getD 8 (0, false, "")).2.2 := by
  obtain ⟨fd, F⟩ := c.def_ 8 (d := d8) rfl
  exact ⟨⟨_, fd, ["value"], w8 (G := GK K) FX  m ih F, He.glo_ok KX N (c.fact 8 (f := .glo "require_delay") rfl), F.kp, (F.bindsN fun _ _ _ _ _ _ us hl => match us, hl with | [_], _ => rfl)⟩⟩
theorem z9 (KX : K.In h) (N : h.Ns mainGlobals mg) (c : He.SaysD fcs Hd00.fns K) : Fn1 (GK K) P w mg base Φ tf 0 (tbl.getD 9 (0, false, "")).1 (tbl.getD 9 (0, false, "")).2.1 (tbl.getD 9 (0, false, "")).2.2 := by
  obtain ⟨fd, F⟩ := c.def_ 9 (d := d9) rfl
  exact ⟨⟨_, fd, ["delay", "word", "other"], fnX_zero, He.glo_ok KX N (c.fact 9 (f := .glo "led_on") rfl), F.kp, (F.bindsN fun _ _ _ _ _ _ us hl => match us, hl with | [_, _, _], _ => rfl)⟩⟩
theorem a9 (KX : K.In h) (N : h.Ns mainGlobals mg) (c : He.SaysD fcs Hd00.fns K) (CAT : CatAll P w K mg base) (FX : Xf (GK K) P w mg base tgs mks fns) (n : Nat) (m : Mg (GK K) fr is ss cs mg) (ih : ∀ (j : Nat) q, tbl[j]? = some q → Fn1 (GK K) P w mg base Φ tf n q.1 q.2.1 q.2.2) (FI100 : Ini1 (GK K) P w mg base Φ tf n 100 28 "Rewriter") : Fn1 (GK K) P w mg base Φ tf (n + 1) (tbl.getD 9 (0, false, "")).1 (tbl.getD 9 (0, false, "")).2.1 (tbl.getD 9 (0, false, "")).2.2 := by
  obtain ⟨fd, F⟩ := c.def_ 9 (d := d9) rfl
  exact ⟨⟨_, fd, ["delay", "word", "other"], w9 (G := GK K) FX  m ih F, He.glo_ok KX N (c.fact 9 (f := .glo "led_on") rfl), F.kp, (F.bindsN fun _ _ _ _ _ _ us hl => match us, hl with | [_, _, _], _ => rfl)⟩⟩
theorem z10 (KX : K.In h) (N : h.Ns mainGlobals mg) (c : He.SaysD fcs Hd00.fns K) : Fn1 (GK K) P w mg base Φ tf 0 (tbl.getD 10 (0, false, "")).1 (tbl.getD 10 (0, false, "")).2.1 (tbl.getD 10 (0, false, "")).2.2 := by
  obtain ⟨fd, F⟩ := c.def_ 10 (d := d10) rfl
  exact ⟨⟨_, fd, ["_law_script", "_law_at"], fnX_zero, He.glo_ok KX N (c.fact 10 (f := .glo "_law_start") rfl), F.kp, (F.bindsN fun _ _ _ _ _ _ us hl => match us, hl with | [_, _], _ => rfl)⟩⟩
theorem a10 (KX : K.In h) (N : h.Ns mainGlobals mg) (c : He.SaysD fcs Hd00.fns K) (CAT : CatAll P w K mg base) (FX : Xf (GK K) P w mg base tgs mks fns) (n : Nat) (m : Mg (GK K) fr is ss cs mg) (ih : ∀ (j : Nat) q, tbl[j]? = some q → Fn1 (GK K) P w mg base Φ tf n q.1 q.2.1 q.2.2) (FI100 : Ini1 (GK K) P w mg base Φ tf n 100 28 "Rewriter") : Fn1 (GK K) P w mg base Φ tf (n + 1) (tbl.getD 10 (0, false, "")).1 (tbl.getD 10 (0, false, "")).2.1 (tbl.getD 10 (0, false, "")).2.2 := by
  obtain ⟨fd, F⟩ := c.def_ 10 (d := d10) rfl
  exact ⟨⟨_, fd, ["_law_script", "_law_at"], w10 (G := GK K) FX  m ih F, He.glo_ok KX N (c.fact 10 (f := .glo "_law_start") rfl), F.kp, (F.bindsN fun _ _ _ _ _ _ us hl => match us, hl with | [_, _], _ => rfl)⟩⟩
theorem z11 (KX : K.In h) (N : h.Ns mainGlobals mg) (c : He.SaysD fcs Hd00.fns K) : Fn1 (GK K) P w mg base Φ tf 0 (tbl.getD 11 (0, false, "")).1 (tbl.getD 11 (0, false, "")).2.1 (tbl.getD 11 (0, false, "")).2.2 := by
  obtain ⟨fd, F⟩ := c.def_ 11 (d := d11) rfl
  exact ⟨⟨_, fd, ["_law_bag", "_law_total"], fnX_zero, He.glo_ok KX N (c.fact 11 (f := .glo "_law_throw") rfl), F.kp, (F.bindsN fun _ _ _ _ _ _ us hl => match us, hl with | [_, _], _ => rfl)⟩⟩
theorem a11 (KX : K.In h) (N : h.Ns mainGlobals mg) (c : He.SaysD fcs Hd00.fns K) (CAT : CatAll P w K mg base) (FX : Xf (GK K) P w mg base tgs mks fns) (n : Nat) (m : Mg (GK K) fr is ss cs mg) (ih : ∀ (j : Nat) q, tbl[j]? = some q → Fn1 (GK K) P w mg base Φ tf n q.1 q.2.1 q.2.2) (FI100 : Ini1 (GK K) P w mg base Φ tf n 100 28 "Rewriter") : Fn1 (GK K) P w mg base Φ tf (n + 1) (tbl.getD 11 (0, false, "")).1 (tbl.getD 11 (0, false, "")).2.1 (tbl.getD 11 (0, false, "")).2.2 := by
  obtain ⟨fd, F⟩ := c.def_ 11 (d := d11) rfl
  exact ⟨⟨_, fd, ["_law_bag", "_law_total"], w11 (G := GK K) FX  m ih F, He.glo_ok KX N (c.fact 11 (f := .glo "_law_throw") rfl), F.kp, (F.bindsN fun _ _ _ _ _ _ us hl => match us, hl with | [_, _], _ => rfl)⟩⟩
theorem z12 (KX : K.In h) (N : h.Ns mainGlobals mg) (c : He.SaysD fcs Hd00.fns K) : Fn1 (GK K) P w mg base Φ tf 0 (tbl.getD 12 (0, false, "")).1 (tbl.getD 12 (0, false, "")).2.1 (tbl.getD 12 (0, false, "")).2.2 := by
  obtain ⟨fd, F⟩ := c.def_ 12 (d := d12) rfl
  exact ⟨⟨_, fd, ["_law_bag", "_law_items"], fnX_zero, He.glo_ok KX N (c.fact 12 (f := .glo "_law_pick") rfl), F.kp, (F.bindsN fun _ _ _ _ _ _ us hl => match us, hl with | [_, _], _ => rfl)⟩⟩
theorem a12 (KX : K.In h) (N : h.Ns mainGlobals mg) (c : He.SaysD fcs Hd00.fns K) (CAT : CatAll P w K mg base) (FX : Xf (GK K) P w mg base tgs mks fns) (n : Nat) (m : Mg (GK K) fr is ss cs mg) (ih : ∀ (j : Nat) q, tbl[j]? = some q → Fn1 (GK K) P w mg base Φ tf n q.1 q.2.1 q.2.2) (FI100 : Ini1 (GK K) P w mg base Φ tf n 100 28 "Rewriter") : Fn1 (GK K) P w mg base Φ tf (n + 1) (tbl.getD 12 (0, false, "")).1 (tbl.getD 12 (0, false, "")).2.1 (tbl.getD 12 (0, false, "")).2.2 := by
  obtain ⟨fd, F⟩ := c.def_ 12 (d := d12) rfl
  exact ⟨⟨_, fd, ["_law_bag", "_law_items"], w12 (G := GK K) FX  m ih F, He.glo_ok KX N (c.fact 12 (f := .glo "_law_pick") rfl), F.kp, (F.bindsN fun _ _ _ _ _ _ us hl => match us, hl with | [_, _], _ => rfl)⟩⟩
theorem z13 (KX : K.In h) (N : h.Ns mainGlobals mg) (c : He.SaysD fcs Hd00.fns K) : Fn1 (GK K) P w mg base Φ tf 0 (tbl.getD 13 (0, false, "")).1 (tbl.getD 13 (0, false, "")).2.1 (tbl.getD 13 (0, false, "")).2.2 := by
  obtain ⟨fd, F⟩ := c.def_ 13 (d := d13) rfl
  exact ⟨⟨_, fd, ["_law_message"], fnX_zero, He.glo_ok KX N (c.fact 13 (f := .glo "_law_told") rfl), F.kp, (F.bindsN fun _ _ _ _ _ _ us hl => match us, hl with | [_], _ => rfl)⟩⟩
theorem a13 (KX : K.In h) (N : h.Ns mainGlobals mg) (c : He.SaysD fcs Hd00.fns K) (CAT : CatAll P w K mg base) (FX : Xf (GK K) P w mg base tgs mks fns) (n : Nat) (m : Mg (GK K) fr is ss cs mg) (ih : ∀ (j : Nat) q, tbl[j]? = some q → Fn1 (GK K) P w mg base Φ tf n q.1 q.2.1 q.2.2) (FI100 : Ini1 (GK K) P w mg base Φ tf n 100 28 "Rewriter") : Fn1 (GK K) P w mg base Φ tf (n + 1) (tbl.getD 13 (0, false, "")).1 (tbl.getD 13 (0, false, "")).2.1 (tbl.getD 13 (0, false, "")).2.2 := by
  obtain ⟨fd, F⟩ := c.def_ 13 (d := d13) rfl
  exact ⟨⟨_, fd, ["_law_message"], w13 (G := GK K) FX  m ih F, He.glo_ok KX N (c.fact 13 (f := .glo "_law_told") rfl), F.kp, (F.bindsN fun _ _ _ _ _ _ us hl => match us, hl with | [_], _ => rfl)⟩⟩
theorem z14 (KX : K.In h) (N : h.Ns mainGlobals mg) (c : He.SaysD fcs Hd00.fns K) : Fn1 (GK K) P w mg base Φ tf 0 (tbl.getD 14 (0, false, "")).1 (tbl.getD 14 (0, false, "")).2.1 (tbl.getD 14 (0, false, "")).2.2 := by
  obtain ⟨fd, F⟩ := c.def_ 14 (d := d14) rfl
  exact ⟨⟨_, fd, ["_law_one"], fnX_zero, He.glo_ok KX N (c.fact 14 (f := .glo "_law_flags") rfl), F.kp, (F.bindsN fun _ _ _ _ _ _ us hl => match us, hl with | [_], _ => rfl)⟩⟩
theorem a14 (KX : K.In h) (N : h.Ns mainGlobals mg) (c : He.SaysD fcs Hd00.fns K) (CAT : CatAll P w K mg base) (FX : Xf (GK K) P w mg base tgs mks fns) (n : Nat) (m : Mg (GK K) fr is ss cs mg) (ih : ∀ (j : Nat) q, tbl[j]? = some q → Fn1 (GK K) P w mg base Φ tf n q.1 q.2.1 q.2.2) (FI100 : Ini1 (GK K) P w mg base Φ tf n 100 28 "Rewriter") : Fn1 (GK K) P w mg base Φ tf (n + 1) (tbl.getD 14 (0, false, "")).1 (tbl.getD 14 (0, false, "")).2.1 (tbl.getD 14 (0, false, "")).2.2 := by
  obtain ⟨fd, F⟩ := c.def_ 14 (d := d14) rfl
  exact ⟨⟨_, fd, ["_law_one"], w14 (G := GK K) FX  m ih F, He.glo_ok KX N (c.fact 14 (f := .glo "_law_flags") rfl), F.kp, (F.bindsN fun _ _ _ _ _ _ us hl => match us, hl with | [_], _ => rfl)⟩⟩
theorem z15 (KX : K.In h) (N : h.Ns mainGlobals mg) (c : He.SaysD fcs Hd00.fns K) : Fn1 (GK K) P w mg base Φ tf 0 (tbl.getD 15 (0, false, "")).1 (tbl.getD 15 (0, false, "")).2.1 (tbl.getD 15 (0, false, "")).2.2 := by
  obtain ⟨fd, F⟩ := c.def_ 15 (d := d15) rfl
  exact ⟨⟨_, fd, ["_law_one"], fnX_zero, He.glo_ok KX N (c.fact 15 (f := .glo "_law_bases") rfl), F.kp, (F.bindsN fun _ _ _ _ _ _ us hl => match us, hl with | [_], _ => rfl)⟩⟩
theorem a15 (KX : K.In h) (N : h.Ns mainGlobals mg) (c : He.SaysD fcs Hd00.fns K) (CAT : CatAll P w K mg base) (FX : Xf (GK K) P w mg base tgs mks fns) (n : Nat) (m : Mg (GK K) fr is ss cs mg) (ih : ∀ (j : Nat) q, tbl[j]? = some q → Fn1 (GK K) P w mg base Φ tf n q.1 q.2.1 q.2.2) (FI100 : Ini1 (GK K) P w mg base Φ tf n 100 28 "Rewriter") : Fn1 (GK K) P w mg base Φ tf (n + 1) (tbl.getD 15 (0, false, "")).1 (tbl.getD 15 (0, false, "")).2.1 (tbl.getD 15 (0, false, "")).2.2 := by
  obtain ⟨fd, F⟩ := c.def_ 15 (d := d15) rfl
  exact ⟨⟨_, fd, ["_law_one"], w15 (G := GK K) FX  m ih F, He.glo_ok KX N (c.fact 15 (f := .glo "_law_bases") rfl), F.kp, (F.bindsN fun _ _ _ _ _ _ us hl => match us, hl with | [_], _ => rfl)⟩⟩
theorem z16 (KX : K.In h) (N : h.Ns mainGlobals mg) (c : He.SaysD fcs Hd00.fns K) : Fn1 (GK K) P w mg base Φ tf 0 (tbl.getD 16 (0, false, "")).1 (tbl.getD 16 (0, false, "")).2.1 (tbl.getD 16 (0, false, "")).2.2 := by
  obtain ⟨fd, F⟩ := c.def_ 16 (d := d16) rfl
  exact ⟨⟨_, fd, ["_law_spots", "_law_total"], fnX_zero, He.glo_ok KX N (c.fact 16 (f := .glo "_law_only") rfl), F.kp, (F.bindsN fun _ _ _ _ _ _ us hl => match us, hl with | [_, _], _ => rfl)⟩⟩
theorem a16 (KX : K.In h) (N : h.Ns mainGlobals mg) (c : He.SaysD fcs Hd00.fns K) (CAT : CatAll P w K mg base) (FX : Xf (GK K) P w mg base tgs mks fns) (n : Nat) (m : Mg (GK K) fr is ss cs mg) (ih : ∀ (j : Nat) q, tbl[j]? = some q → Fn1 (GK K) P w mg base Φ tf n q.1 q.2.1 q.2.2) (FI100 : Ini1 (GK K) P w mg base Φ tf n 100 28 "Rewriter") : Fn1 (GK K) P w mg base Φ tf (n + 1) (tbl.getD 16 (0, false, "")).1 (tbl.getD 16 (0, false, "")).2.1 (tbl.getD 16 (0, false, "")).2.2 := by
  obtain ⟨fd, F⟩ := c.def_ 16 (d := d16) rfl
  exact ⟨⟨_, fd, ["_law_spots", "_law_total"], w16 (G := GK K) FX  m ih F, He.glo_ok KX N (c.fact 16 (f := .glo "_law_only") rfl), F.kp, (F.bindsN fun _ _ _ _ _ _ us hl => match us, hl with | [_, _], _ => rfl)⟩⟩
theorem z17 (KX : K.In h) (N : h.Ns mainGlobals mg) (c : He.SaysD fcs Hd00.fns K) : Fn1 (GK K) P w mg base Φ tf 0 (tbl.getD 17 (0, false, "")).1 (tbl.getD 17 (0, false, "")).2.1 (tbl.getD 17 (0, false, "")).2.2 := by
  obtain ⟨fd, F⟩ := c.def_ 17 (d := d17) rfl
  exact ⟨⟨_, fd, ["_law_message"], fnX_zero, He.glo_ok KX N (c.fact 17 (f := .glo "_law_messages_right") rfl), F.kp, (F.bindsN fun _ _ _ _ _ _ us hl => match us, hl with | [_], _ => rfl)⟩⟩
theorem a17 (KX : K.In h) (N : h.Ns mainGlobals mg) (c : He.SaysD fcs Hd00.fns K) (CAT : CatAll P w K mg base) (FX : Xf (GK K) P w mg base tgs mks fns) (n : Nat) (m : Mg (GK K) fr is ss cs mg) (ih : ∀ (j : Nat) q, tbl[j]? = some q → Fn1 (GK K) P w mg base Φ tf n q.1 q.2.1 q.2.2) (FI100 : Ini1 (GK K) P w mg base Φ tf n 100 28 "Rewriter") : Fn1 (GK K) P w mg base Φ tf (n + 1) (tbl.getD 17 (0, false, "")).1 (tbl.getD 17 (0, false, "")).2.1 (tbl.getD 17 (0, false, "")).2.2 := by
  obtain ⟨fd, F⟩ := c.def_ 17 (d := d17) rfl
  exact ⟨⟨_, fd, ["_law_message"], w17 (G := GK K) FX  m ih F, He.glo_ok KX N (c.fact 17 (f := .glo "_law_messages_right") rfl), F.kp, (F.bindsN fun _ _ _ _ _ _ us hl => match us, hl with | [_], _ => rfl)⟩⟩
theorem z18 (KX : K.In h) (N : h.Ns mainGlobals mg) (c : He.SaysD fcs Hd00.fns K) : Fn1 (GK K) P w mg base Φ tf 0 (tbl.getD 18 (0, false, "")).1 (tbl.getD 18 (0, false, "")).2.1 (tbl.getD 18 (0, false, "")).2.2 := by
  obtain ⟨fd, F⟩ := c.def_ 18 (d := d18) rfl
  exact ⟨⟨_, fd, ["_law_bag"], fnX_zero, He.glo_ok KX N (c.fact 18 (f := .glo "_law_drawn_values") rfl), F.kp, (F.bindsN fun _ _ _ _ _ _ us hl => match us, hl with | [_], _ => rfl)⟩⟩
theorem a18 (KX : K.In h) (N : h.Ns mainGlobals mg) (c : He.SaysD fcs Hd00.fns K) (CAT : CatAll P w K mg base) (FX : Xf (GK K) P w mg base tgs mks fns) (n : Nat) (m : Mg (GK K) fr is ss cs mg) (ih : ∀ (j : Nat) q, tbl[j]? = some q → Fn1 (GK K) P w mg base Φ tf n q.1 q.2.1 q.2.2) (FI100 : Ini1 (GK K) P w mg base Φ tf n 100 28 "Rewriter") : Fn1 (GK K) P w mg base Φ tf (n + 1) (tbl.getD 18 (0, false, "")).1 (tbl.getD 18 (0, false, "")).2.1 (tbl.getD 18 (0, false, "")).2.2 := by
  obtain ⟨fd, F⟩ := c.def_ 18 (d := d18) rfl
  exact ⟨⟨_, fd, ["_law_bag"], w18 (G := GK K) FX  m ih F, He.glo_ok KX N (c.fact 18 (f := .glo "_law_drawn_values") rfl), F.kp, (F.bindsN fun _ _ _ _ _ _ us hl => match us, hl with | [_], _ => rfl)⟩⟩
theorem z19 (KX : K.In h) (N : h.Ns mainGlobals mg) (c : He.SaysD fcs Hd00.fns K) : Fn1 (GK K) P w mg base Φ tf 0 (tbl.getD 19 (0, false, "")).1 (tbl.getD 19 (0, false, "")).2.1 (tbl.getD 19 (0, false, "")).2.2 := by
  obtain ⟨fd, F⟩ := c.def_ 19 (d := d19) rfl
  exact ⟨⟨_, fd, ["_law_bag"], fnX_zero, He.glo_ok KX N (c.fact 19 (f := .glo "_law_values_right") rfl), F.kp, (F.bindsN fun _ _ _ _ _ _ us hl => match us, hl with | [_], _ => rfl)⟩⟩
theorem a19 (KX : K.In h) (N : h.Ns mainGlobals mg) (c : He.SaysD fcs Hd00.fns K) (CAT : CatAll P w K mg base) (FX : Xf (GK K) P w mg base tgs mks fns) (n : Nat) (m : Mg (GK K) fr is ss cs mg) (ih : ∀ (j : Nat) q, tbl[j]? = some q → Fn1 (GK K) P w mg base Φ tf n q.1 q.2.1 q.2.2) (FI100 : Ini1 (GK K) P w mg base Φ tf n 100 28 "Rewriter") : Fn1 (GK K) P w mg base Φ tf (n + 1) (tbl.getD 19 (0, false, "")).1 (tbl.getD 19 (0, false, "")).2.1 (tbl.getD 19 (0, false, "")).2.2 := by
  obtain ⟨fd, F⟩ := c.def_ 19 (d := d19) rfl
  exact ⟨⟨_, fd, ["_law_bag"], w19 (G := GK K) FX  m ih F, He.glo_ok KX N (c.fact 19 (f := .glo "_law_values_right") rfl), F.kp, (F.bindsN fun _ _ _ _ _ _ us hl => match us, hl with | [_], _ => rfl)⟩⟩
theorem z21 (KX : K.In h) (N : h.Ns mainGlobals mg) (c : He.SaysD fcs Hd00.fns K) : Fn1 (GK K) P w mg base Φ tf 0 (tbl.getD 20 (0, false, "")).1 (tbl.getD 20 (0, false, "")).2.1 (tbl.getD 20 (0, false, "")).2.2 := by
  obtain ⟨fd, F⟩ := c.def_ 21 (d := d21) rfl
  exact ⟨⟨_, fd, ["_law_script"], fnX_zero, He.glo_ok KX N (c.fact 21 (f := .glo "law") rfl), F.kp, (F.bindsN fun _ _ _ _ _ _ us hl => match us, hl with | [_], _ => rfl)⟩⟩
theorem a21 (KX : K.In h) (N : h.Ns mainGlobals mg) (c : He.SaysD fcs Hd00.fns K) (CAT : CatAll P w K mg base) (FX : Xf (GK K) P w mg base tgs mks fns) (n : Nat) (m : Mg (GK K) fr is ss cs mg) (ih : ∀ (j : Nat) q, tbl[j]? = some q → Fn1 (GK K) P w mg base Φ tf n q.1 q.2.1 q.2.2) (FI100 : Ini1 (GK K) P w mg base Φ tf n 100 28 "Rewriter") : Fn1 (GK K) P w mg base Φ tf (n + 1) (tbl.getD 20 (0, false, "")).1 (tbl.getD 20 (0, false, "")).2.1 (tbl.getD 20 (0, false, "")).2.2 := by
  obtain ⟨fd, F⟩ := c.def_ 21 (d := d21) rfl
  exact ⟨⟨_, fd, ["_law_script"], w21 (G := GK K) FX FI100 m ih (fun cdv A outer s H E hc hr => CAT n cdv A outer s H E hc hr m ih) F, He.glo_ok KX N (c.fact 21 (f := .glo "law") rfl), F.kp, (F.bindsN fun _ _ _ _ _ _ us hl => match us, hl with | [_], _ => rfl)⟩⟩
theorem zs (KX : K.In h) (N : h.Ns mainGlobals mg) (c : He.SaysD fcs Hd00.fns K) : ∀ j : Nat, j < 21 → Fn1 (GK K) P w mg base Φ tf 0 (tbl.getD j (0, false, "")).1 (tbl.getD j (0, false, "")).2.1 (tbl.getD j (0, false, "")).2.2
  | 0, _ => z0 KX N c
  | 1, _ => z1 KX N c
  | 2, _ => z2 KX N c
  | 3, _ => z3 KX N c
  | 4, _ => z4 KX N c
  | 5, _ => z5 KX N c
  | 6, _ => z6 KX N c
  | 7, _ => z7 KX N c
  | 8, _ => z8 KX N c
  | 9, _ => z9 KX N c
  | 10, _ => z10 KX N c
  | 11, _ => z11 KX N c
  | 12, _ => z12 KX N c
  | 13, _ => z13 KX N c
  | 14, _ => z14 KX N c
  | 15, _ => z15 KX N c
  | 16, _ => z16 KX N c
  | 17, _ => z17 KX N c
  | 18, _ => z18 KX N c
  | 19, _ => z19 KX N c
  | 20, _ => z21 KX N c
  | j + 21, h => absurd h (Nat.not_lt.mpr (Nat.le_add_left _ _))
theorem as (KX : K.In h) (N : h.Ns mainGlobals mg) (c : He.SaysD fcs Hd00.fns K) (CAT : CatAll P w K mg base) (FX : Xf (GK K) P w mg base tgs mks fns) (n : Nat) (m : Mg (GK K) fr is ss cs mg) (ih : ∀ (j : Nat) q, tbl[j]? = some q → Fn1 (GK K) P w mg base Φ tf n q.1 q.2.1 q.2.2) (FI100 : Ini1 (GK K) P w mg base Φ tf n 100 28 "Rewriter") : ∀ j : Nat, j < 21 → Fn1 (GK K) P w mg base Φ tf (n + 1) (tbl.getD j (0, false, "")).1 (tbl.getD j (0, false, "")).2.1 (tbl.getD j (0, false, "")).2.2
  | 0, _ => a0 KX N c CAT FX n m ih FI100
  | 1, _ => a1 KX N c CAT FX n m ih FI100
  | 2, _ => a2 KX N c CAT FX n m ih FI100
  | 3, _ => a3 KX N c CAT FX n m ih FI100
  | 4, _ => a4 KX N c CAT FX n m ih FI100
  | 5, _ => a5 KX N c CAT FX n m ih FI100
  | 6, _ => a6 KX N c CAT FX n m ih FI100
  | 7, _ => a7 KX N c CAT FX n m ih FI100
  | 8, _ => a8 KX N c CAT FX n m ih FI100
  | 9, _ => a9 KX N c CAT FX n m ih FI100
  | 10, _ => a10 KX N c CAT FX n m ih FI100
  | 11, _ => a11 KX N c CAT FX n m ih FI100
  | 12, _ => a12 KX N c CAT FX n m ih FI100
  | 13, _ => a13 KX N c CAT FX n m ih FI100
  | 14, _ => a14 KX N c CAT FX n m ih FI100
  | 15, _ => a15 KX N c CAT FX n m ih FI100
  | 16, _ => a16 KX N c CAT FX n m ih FI100
  | 17, _ => a17 KX N c CAT FX n m ih FI100
  | 18, _ => a18 KX N c CAT FX n m ih FI100
  | 19, _ => a19 KX N c CAT FX n m ih FI100
  | 20, _ => a21 KX N c CAT FX n m ih FI100
  | j + 21, h => absurd h (Nat.not_lt.mpr (Nat.le_add_left _ _))
theorem by_ix {Pr : Nat → Bool → PySem.Str → Prop} (H : ∀ j, j < 21 → Pr (tbl.getD j (0, false, "")).1 (tbl.getD j (0, false, "")).2.1 (tbl.getD j (0, false, "")).2.2) (j : Nat) (q : Nat × Bool × PySem.Str) (e : tbl[j]? = some q) : Pr q.1 q.2.1 q.2.2 := by
  have hj : j < 21 := (List.getElem?_eq_some_iff.mp e).1
  have h := H j hj
  rw [List.getD_eq_getElem?_getD, e] at h
  exact h
theorem all (KX : K.In h) (N : h.Ns mainGlobals mg) (c : He.SaysD fcs Hd00.fns K) (CAT : CatAll P w K mg base) (FX : Xf (GK K) P w mg base tgs mks fns) : ∀ n : Nat, (∀ (j : Nat) q, tbl[j]? = some q → Fn1 (GK K) P w mg base Φ tf n q.1 q.2.1 q.2.2) ∧ Ini1 (GK K) P w mg base Φ tf n 100 28 "Rewriter"
  | 0 => ⟨by_ix (Pr := fun i b x => Fn1 (GK K) P w mg base Φ tf 0 i b x) (zs KX N c), ini100_0 KX N c⟩
  | n + 1 => let ⟨ih, FI100⟩ := all KX N c CAT FX n; ⟨by_ix (Pr := fun i b x => Fn1 (GK K) P w mg base Φ tf (n + 1) i b x) (as KX N c CAT FX n (mgs KX N c) ih FI100), ini100_s KX N c FX n (mgs KX N c) ih⟩
end
end K00
end
/-! part K00y -/
section
set_option Elab.async false
set_option linter.all false
set_option maxRecDepth 100000
set_option maxHeartbeats 0
/-! K00y: the catcher's facts, the law's end. -/
namespace K00
open PySem PySem.Spec PyProof.Rows L2 Tw Hd00
theorem tbm (K : PySem.W.Frag) : ((He.cT K ("law", none)).2, (("law" : PySem.Str) ++ (".<locals>." : PySem.Str)) ++ ("<lambda>" : PySem.Str)) ∈ (GK K).tb := List.mem_cons_self
theorem tbu (K : PySem.W.Frag) (P : Addr) : ∀ p ∈ (GK K).tb, p.1 = P → p.2 = (("law" : PySem.Str) ++ (".<locals>." : PySem.Str)) ++ ("<lambda>" : PySem.Str) := fun p hp _ => by
  cases hp with
  | head => exact Eq.refl _
  | tail _ h => cases h
theorem tbmX {K : PySem.W.Frag} {X : Cx} (q : X.env.qual = (("law" : PySem.Str) ++ (".<locals>." : PySem.Str))) : ((He.cT K ("law", none)).2, X.env.qual ++ "<lambda>") ∈ (Lk (GK K)).G.tb := by rw [q]; exact tbm K
theorem tbuX {K : PySem.W.Frag} {X : Cx} {P : Addr} (q : X.env.qual = (("law" : PySem.Str) ++ (".<locals>." : PySem.Str))) : ∀ p ∈ (Lk (GK K)).G.tb, p.1 = P → p.2 = X.env.qual ++ "<lambda>" := by rw [q]; exact tbu K P
/-- the row of a class -/
def BB (c j : Nat) : Bool := ((tgs.map (·.2)).getD j []).getD c false
theorem tgs_row {K : PySem.W.Frag} {P : Program} {w : World} {mg : PySem.Str → Option Value} {base : Heap} (FX : Xf (GK K) P w mg base tgs mks fns) (hr : rowsB K = true) (c : Nat) (hc : c < 9) : ∀ j, 1 ≤ j → j ≤ 14 → PySem.W.kitOne K (.ref (ca K c)) (.ref (ca K j)) = some (BB c j) := by
  obtain ⟨r0, r1, r2, r3, r4, r5, r6, r7, r8, r9, r10, r11, r12, r13, r14, _⟩ := rows_ok hr
  have go : ∀ {j : Nat} {l : List Bool} (h : TwI.rowB K (ca K) (.ref (ca K j)) l = true) (hl : l.length = 15), PySem.W.kitOne K (.ref (ca K c)) (.ref (ca K j)) = some (l.getD c false) := fun {j l} h hl => by
    refine TwI.rowB_ok h c _ ?_
    rw [List.getD_eq_getElem?_getD, List.getElem?_eq_getElem (by omega)]
    rfl
  intro j h1 h2
  match j, h1, h2 with
  | 1, _, _ => exact go r1 rfl
  | 2, _, _ => exact go r2 rfl
  | 3, _, _ => exact go r3 rfl
  | 4, _, _ => exact go r4 rfl
  | 5, _, _ => exact go r5 rfl
  | 6, _, _ => exact go r6 rfl
  | 7, _, _ => exact go r7 rfl
  | 8, _, _ => exact go r8 rfl
  | 9, _, _ => exact go r9 rfl
  | 10, _, _ => exact go r10 rfl
  | 11, _, _ => exact go r11 rfl
  | 12, _, _ => exact go r12 rfl
  | 13, _, _ => exact go r13 rfl
  | 14, _, _ => exact go r14 rfl
  | j + 15, _, h => omega
theorem glos {K : PySem.W.Frag} {h : Heap} {mg : PySem.Str → Option Value} (KX : K.In h) (N : h.Ns mainGlobals mg) (c : He.SaysD fcs Hd00.fns K) : ∀ j, 1 ≤ j → j ≤ 14 → mg (cnm j) = some (.ref (ca K j)) := fun j h1 h2 => by
  match j, h1, h2 with
  | 1, _, _ => exact He.glo_ok KX N (c.fact 23 (f := .glo "InvalidText") rfl)
  | 2, _, _ => exact He.glo_ok KX N (c.fact 24 (f := .glo "InvalidRewriter") rfl)
  | 3, _, _ => exact He.glo_ok KX N (c.fact 25 (f := .glo "InvalidMachine") rfl)
  | 4, _, _ => exact He.glo_ok KX N (c.fact 26 (f := .glo "InvalidBook") rfl)
  | 5, _, _ => exact He.glo_ok KX N (c.fact 27 (f := .glo "InvalidOperation") rfl)
  | 6, _, _ => exact He.glo_ok KX N (c.fact 28 (f := .glo "InvalidEdit") rfl)
  | 7, _, _ => exact He.glo_ok KX N (c.fact 29 (f := .glo "ParseError") rfl)
  | 8, _, _ => exact He.glo_ok KX N (c.fact 30 (f := .glo "InvalidCommand") rfl)
  | 9, _, _ => exact He.glo_ok KX N (c.fact 31 (f := .glo "InvalidNumber") rfl)
  | 10, _, _ => exact He.glo_ok KX N (c.fact 32 (f := .glo "UnknownName") rfl)
  | 11, _, _ => exact He.glo_ok KX N (c.fact 33 (f := .glo "TooMany") rfl)
  | 12, _, _ => exact He.glo_ok KX N (c.fact 34 (f := .glo "NotSingle") rfl)
  | 13, _, _ => exact He.glo_ok KX N (c.fact 35 (f := .glo "NeedsMarks") rfl)
  | 14, _, _ => exact He.glo_ok KX N (c.fact 36 (f := .glo "NothingToUndo") rfl)
  | j + 15, _, h => omega
theorem exms {K : PySem.W.Frag} (c : He.SaysD fcs Hd00.fns K) : ∀ j, j < 9 → PySem.W.exmOne K (.ref (ca K j)) (.ref (ca K 0)) = some true := fun j h => by
  match j, h with
  | 0, _ => exact He.exm_ok (c.fact 78 (f := .exm "MarkError" "MarkError" true) rfl)
  | 1, _ => exact He.exm_ok (c.fact 79 (f := .exm "InvalidText" "MarkError" true) rfl)
  | 2, _ => exact He.exm_ok (c.fact 80 (f := .exm "InvalidRewriter" "MarkError" true) rfl)
  | 3, _ => exact He.exm_ok (c.fact 81 (f := .exm "InvalidMachine" "MarkError" true) rfl)
  | 4, _ => exact He.exm_ok (c.fact 82 (f := .exm "InvalidBook" "MarkError" true) rfl)
  | 5, _ => exact He.exm_ok (c.fact 83 (f := .exm "InvalidOperation" "MarkError" true) rfl)
  | 6, _ => exact He.exm_ok (c.fact 84 (f := .exm "InvalidEdit" "MarkError" true) rfl)
  | 7, _ => exact He.exm_ok (c.fact 85 (f := .exm "ParseError" "MarkError" true) rfl)
  | 8, _ => exact He.exm_ok (c.fact 86 (f := .exm "InvalidCommand" "MarkError" true) rfl)
  | j + 9, h => omega
theorem bls_rts {G : Gx} {W : Wd} : ∀ bs : List Bool, RTs G W (bs.map T.bl) (bs.map V.bl)
  | [] => rfl
  | b :: bs => ⟨_, _, rfl, rfl, bls_rts bs⟩
theorem cats {P : Program} {w : World} {K : PySem.W.Frag} {h base : Heap} {mg : PySem.Str → Option Value} (KX : K.In h) (N : h.Ns mainGlobals mg) (c : He.SaysD fcs Hd00.fns K) (FX : Xf (GK K) P w mg base tgs mks fns) (hm : more K = true) (TB : LamX.TabB base mg (He.cT K ("law", none)).1 (He.cT K ("law", none)).2) : CatAll P w K mg base := by
  intro n cdv A outer s H E hc hr m ih
  obtain ⟨fdT, FT⟩ := c.def_ 20 (d := d20) rfl
  obtain ⟨fdF, FF⟩ := c.def_ 14 (d := d14) rfl
  have hb : L2.Binds K fdT ["_law_call"] [] := FT.bindsN fun _ _ _ _ _ _ us hl => match us, hl with | [_], _ => rfl
  have hbF : L2.Binds K fdF ["_law_one"] [] := FF.bindsN fun _ _ _ _ _ _ us hl => match us, hl with | [_], _ => rfl
  have kp := FT.kp
  obtain ⟨oc, od, dV, kV, doc, pm, an, cdvT, ct, osl, rfl, lk, hcd, _, _⟩ := FT.ex
  obtain ⟨oc', od', osl', fd', lk', rfl, hcd'⟩ := hc
  obtain ⟨c0, ec⟩ := He.codeIn_ref hcd'
  have e := He.codeOf_eq (p := ("law", none)) lk' ec
  unfold more moreB at hm
  obtain ⟨hm, hx⟩ := Bool.and_eq_true_iff.mp hm
  obtain ⟨hA, hrw⟩ := Bool.and_eq_true_iff.mp hm
  refine ⟨⟨"_law_call", He.ga K "_law_taken", (He.cT K ("law", none)).1, (He.cT K ("law", none)).2, _, _, _, dV, kV, doc, pm, cdvT, ct, oc, an, od, osl, NT, TT (ca K) BB, He.glo_ok KX N (c.fact 20 (f := .glo "_law_taken") rfl), kp, lk, hcd, hb, ST, rfl, Or.inl rfl, by decide, by decide,
    told_gives (fF := He.fAd K ("_law_flags", none)) (fdF := fdF) (ca := ca K) (B := BB) (hr.mono (Nat.le_add_left 4 _)) (He.glo_ok KX N (c.fact 22 (f := .glo "MarkError") rfl)) (He.free_ok KX N (c.fact 44 (f := .free "isinstance") rfl)) FF (He.glo_ok KX N (c.fact 14 (f := .glo "_law_flags") rfl)) hbF
      (glos KX N c) (exms c) (fun j hj => all_isC hA j (Nat.lt_trans hj (by decide))) (tgs_row FX hrw),
    TB, ?_, tbmX (X := cxOf (L2.CX P w) P w K mg base N21 "law" (defScope s21) (He.fAd K ("law", none)) fd'.code A outer s H E) rfl, ?_, hr, ?_⟩⟩
  · show fd'.code = .ref (He.codeOf K ("law", none))
    rw [e, ec]
  · exact tbuX (K := K) (Eq.refl (("law" : PySem.Str) ++ (".<locals>." : PySem.Str)))
  · intro A' σt W σ Q E' ok rs p
    refine ⟨W, σ, rfl, ok, rs, ?_⟩
    have p : PostE (GK K) W (tf 0 (evE ((Lk (GK K)).Γ n) A' σ W.h)) Q E' := p
    generalize evE ((Lk (GK K)).Γ n) A' σ W.h = r at p
    cases r with
    | bad => exact p
    | ok t h' =>
      intro W' b e ex ok' _
      subst e
      refine ⟨by show 0 ≤ sizeLine; decide, fun q hq => ?_⟩
      exact p ⟨upd W'.H q (.lst []), W'.β, W'.h⟩ _ rfl (ex.trans (.new hq)) (ok'.new hq) ⟨q, [], rfl, .inl ⟨.of upd_same, fun z => ok'.notM hq z⟩, rfl⟩
    | exc k ts h' =>
      cases ts with
      | cons a b => exact False.elim p
      | nil =>
        have p : PostE (GK K) W (if k < 9 then .ok (flags k) h' else .bad) Q E' := p
        split at p
        · rename_i hk
          intro W' cls d e ex ok' r
          subst e
          refine ⟨r.2, k, hk, r.1, fun H'' q hx hq hl => ?_⟩
          have ex2 : Ext W' ⟨H'', W'.β, W'.h⟩ := .grow (.of hx)
          refine p ⟨H'', W'.β, W'.h⟩ _ rfl (ex.trans ex2) (ok'.grow (.of hx) (ok'.tabs.ext hx)) ⟨q, flV (BB k), rfl, .inl ⟨.of hl, fun z => ok'.notM hq z⟩, ?_⟩
          exact bls_rts [BB k 1, BB k 2, BB k 3, BB k 4, BB k 5, BB k 6, BB k 7, BB k 8, BB k 9, BB k 10, BB k 11, BB k 12, BB k 13, BB k 14]
        · exact False.elim p
/-- the plain law -/
def Plain : Prop := ∀ ns : List Int, ns.length ≤ 63 → ∃ h, Tw.call Φ tf 20 21 [.lst (ns.map .int)] [] = .ok (.bl true) h
theorem ints_rts {G : Gx} {W : Wd} : ∀ ns : List Int, RTs G W (ns.map T.int) (ns.map V.int)
  | [] => rfl
  | n :: ns => ⟨_, _, rfl, rfl, ints_rts ns⟩
theorem the_end (plain : Plain) {w : World} {mg : PySem.Str → Option Value} {fa : Addr} {h : Heap} {K : PySem.W.Frag} {P : Program} (KX : K.In h) (N : h.Ns mainGlobals mg) (hmg : mg "law" = some (.ref fa)) (c : He.SaysX fcs Hd00.fns [] tfs more w h K) : End P w K 100 63 "_law_script" mg fa h := by
  have cd := c.t.d
  obtain ⟨fd, F⟩ := cd.def_ 21 (d := d21) rfl
  have e := hmg.symm.trans (He.glo_ok KX N (cd.fact 21 (f := .glo "law") rfl))
  cases e
  have hb := FunD.bindsA (ps := ["_law_script"]) F fun _ _ _ _ _ _ us hl => match us, hl with | [_], _ => rfl
  refine ⟨⟨true, fd, [He.cT K ("law", none)], spF (GK K) Φ tf 20 21, fun p hp => ?_, fun p hp => ?_, fun p hp => ?_, fun s v => hb s [v] rfl, fun H a ns hl _ hT hS => ?_, fun base _ hN TB sd => ?_⟩⟩
  · rw [List.mem_singleton.mp hp]; exact c.empty _ (List.mem_singleton.mpr rfl)
  · rw [List.mem_singleton.mp hp]; exact c.out _ (List.mem_singleton.mpr rfl)
  · rw [List.mem_singleton.mp hp]; exact PySem.W.codeHd_of_K KX (c.hd _ (List.mem_singleton.mpr rfl))
  · obtain ⟨h', e⟩ := plain ns hl
    refine ⟨⟨H, [], []⟩, [.lst (ns.map .int)], rfl, ⟨rfl, fun i mo a e => by simp at e, fun i j a mi mj e => by simp at e, fun p hp => ?_⟩, ⟨.ref a, [], rfl, ⟨a, ns.map .int, rfl, hS.elim (fun q => .inl ⟨q, fun ⟨i, m, q, _⟩ => by simp at q⟩) .inr, ints_rts ns⟩, rfl⟩, ?_⟩
    · rw [List.mem_singleton.mp hp]
      exact LamX.TabS.nil (hT _ (List.mem_singleton.mpr rfl))
    · show PostE (GK K) _ (Tw.call Φ tf 20 21 [.lst (ns.map .int)] []) _ _
      rw [e]
      exact fun W' b _ _ _ r => r
  · have FX : Xf (GK K) P w mg base tgs mks fns := xf KX N cd c.more sd.b1
    obtain ⟨A, FI⟩ := all (P := P) (w := w) (base := base) KX N cd (cats KX N cd FX c.more (TB _ (List.mem_singleton.mpr rfl))) FX 19
    exact w21 (G := GK K) (P := P) (w := w) (base := base) FX FI (mgs KX N cd) A (fun cdv A' outer s H E hc hr => cats KX N cd FX c.more (TB _ (List.mem_singleton.mpr rfl)) 19 cdv A' outer s H E hc hr (mgs KX N cd) A) F
end K00
end
/-! part K00z -/
section
set_option Elab.async false
set_option linter.all false
set_option maxRecDepth 100000
set_option maxHeartbeats 0
/-! K00z: law k00, from the plain law. -/
open PySem PySem.W PySem.Calls PyProof.Rows
theorem k00_of (plain : K00.Plain) : PySem.Challenge.rw_fewmarks_k00_errors.Holds := by
  w_on; o_law
  refine HandSHeadRun.head_any (r := OpenLaw.row PySem.Challenge.rw_fewmarks_k00_errors) (q := Hd00.qv) (H := Hd00.hk) (ob := Hd00.ob) (M := Hd00.M) (loose := Hd00.loose) (d := HandSHeadRun.topDef (OpenLaw.row PySem.Challenge.rw_fewmarks_k00_errors).prog Hd00.lawAt) (kwd := []) Hd00.ob_eq
    (by kernel_rfl) (fun s => by kernel_rfl) Hd00.run (by kernel_rfl) (by kernel_rfl) (by kernel_rfl) (by rfl) (by first | assumption | decide +kernel) (by decide +kernel) ⟨rfl, rfl, rfl, rfl, rfl, by decide +kernel⟩ ?hw ?hc
  case hw => w_witness2
  case hc =>
    refine Tw.end_walk (l := PySem.Challenge.rw_fewmarks_k00_errors) (n := 63) (k := 100) (x := "_law_script") rfl (by decide) (by kernel_rfl) ⟨rfl, by decide, by decide⟩ ?F
    intro w mg fa h Y G hmg0
    obtain ⟨K, KX, c, sd⟩ := Y
    have hmg : mg ("law" : PySem.Str) = some (.ref fa) := by
      have e : (HandSHeadRun.topDef (OpenLaw.row PySem.Challenge.rw_fewmarks_k00_errors).prog Hd00.lawAt).name = ("law" : PySem.Str) := by kernel_rfl
      rw [← e]
      exact hmg0
    exact ⟨K, KX, sd, K00.the_end plain KX G hmg c⟩
end
/-! part Pl -/
section
set_option autoImplicit false
set_option linter.all false
set_option maxRecDepth 10000
/-! Pl: how the evaluator runs: comprehensions, calls, words, the bag. For all laws. -/
namespace Pl
open Tw

theorem ofO_s {α : Type} (a : α) (h : Hm) : ofO (some a) h = .ok a h := rfl
theorem lk_str (h : Hm) (s : List Nat) : look h (.str s) = .str s := rfl
theorem lk_int (h : Hm) (i : Int) : look h (.int i) = .int i := rfl
theorem lk_bl (h : Hm) (b : Bool) : look h (.bl b) = .bl b := rfl
theorem lk_non (h : Hm) : look h .non = .non := rfl
theorem lk_tup (h : Hm) (l : List T) : look h (.tup l) = .tup l := rfl
theorem lk_lst (h : Hm) (l : List T) : look h (.lst l) = .lst l := rfl
theorem tr_bl (b : Bool) : truth (.bl b) = some b := rfl
theorem mkF (t : T) (h : Hm) : mk false t h = .ok t h := rfl
theorem R_ok {α β : Type} (a : α) (h : Hm) (f : α → Hm → R β) : (R.ok a h).bind f = f a h := rfl
theorem R_exc {α β : Type} (c : Nat) (l : List T) (h : Hm) (f : α → Hm → R β) : (R.exc c l h : R α).bind f = .exc c l h := rfl
mutual
theorem beq_refl : ∀ t : T, T.beq t t = true
  | .non => rfl
  | .bl b => by simp [T.beq]
  | .int _ => by simp [T.beq]
  | .str _ => by simp [T.beq]
  | .tup l => beqs_refl l
  | .lst l => beqs_refl l
  | .dct a b => by simp [T.beq, beqs_refl a, beqs_refl b]
  | .ins c n l => by simp [T.beq, beqs_refl l]
  | .ref _ => by simp [T.beq]
theorem beqs_refl : ∀ l : List T, T.beqs l l = true
  | [] => rfl
  | t :: l => by simp [T.beqs, beq_refl t, beqs_refl l]
end
theorem slotB_refl (o : Option MO) : slotB o o = true := by
  cases o with
  | none => rfl
  | some m => cases m <;> simp [slotB, MO.beq, beqs_refl]
theorem preB_app (n : Nat) : ∀ (h l : Hm), preB n h (h ++ l) = true
  | [], _ => rfl
  | a :: h, l => by simp [preB, slotB_refl, preB_app n h l]
theorem preB_set (n : Nat) : ∀ (h l : Hm) (j : Nat) (m : MO), m.und n = true → preB n h (h.set j (some m) ++ l) = true
  | [], _, _, _, _ => rfl
  | a :: h, l, 0, m, u => by simp [preB, u, preB_app n h l]
  | a :: h, l, j + 1, m, u => by simp [preB, slotB_refl, preB_set n h l j m u]
theorem leave_app {h : Hm} {t : T} (l : Hm) (u : t.und h.length = true) : leave h t (h ++ l) = .ok t h := by
  simp [leave, u, preB_app]
theorem leave_same {h : Hm} {t : T} (u : t.und h.length = true) : leave h t h = .ok t h := by
  have := leave_app (h := h) [] u
  simpa using this
theorem leave_set {h : Hm} {t : T} {j : Nat} {m : MO} (l : Hm) (u : t.und h.length = true) (v : m.und h.length = true) : leave h t (h.set j (some m) ++ l) = .ok t (h.set j (some m)) := by
  simp [leave, u, preB_set _ _ _ _ _ v]
theorem leave_set0 {h : Hm} {t : T} {j : Nat} {m : MO} (u : t.und h.length = true) (v : m.und h.length = true) : leave h t (h.set j (some m)) = .ok t (h.set j (some m)) := by
  have := leave_set (h := h) (j := j) [] u v
  simpa using this
theorem leaveX_same {h : Hm} {c : Nat} {ts : List T} (u : T.unds h.length ts = true) : leaveX h c ts h = .exc c ts h := by
  have := preB_app h.length h []
  simp at this
  simp [leaveX, u, this]
/-- a comprehension whose turns do nothing but answer -/
theorem lcLoop_pure {go : T → Sl → Hm → R (Option T)} {f : T → Option T} {σ : Sl} {h : Hm} : ∀ (xs : List T) (acc : List T), (∀ x ∈ xs, ∀ h', go x σ h' = .ok (f x) h') → acc.length + xs.length < lim →
    lcLoop go σ h.length xs (h ++ [some (.lst acc)]) = .ok () (h ++ [some (.lst (acc ++ xs.filterMap f))])
  | [], acc, _, _ => by simp [lcLoop]
  | x :: xs, acc, hg, hl => by
    have e := hg x List.mem_cons_self (h ++ [some (.lst acc)])
    have hg' : ∀ x ∈ xs, ∀ h', go x σ h' = .ok (f x) h' := fun y hy => hg y (List.mem_cons_of_mem _ hy)
    simp only [List.length_cons] at hl
    unfold lcLoop
    rw [e]
    cases q : f x with
    | none =>
      simp only [List.filterMap_cons, q]
      exact lcLoop_pure xs acc hg' (by omega)
    | some y =>
      simp only [List.filterMap_cons, q]
      have hlt : acc.length < lim := by omega
      simp only [List.getElem?_append_right (Nat.le_refl _), Nat.sub_self, List.getElem?_cons_zero, if_pos hlt]
      have e2 : (h ++ [some (MO.lst acc)]).set h.length (some (.lst (acc ++ [y]))) = h ++ [some (.lst (acc ++ [y]))] := by
        rw [List.set_append_right _ _ (Nat.le_refl _), Nat.sub_self]
        rfl
      rw [e2]
      have ih := lcLoop_pure (go := go) (f := f) (σ := σ) (h := h) xs (acc ++ [y]) hg' (by simp; omega)
      rw [ih]
      simp
theorem lc_pure {go : T → Sl → Hm → R (Option T)} {f : T → Option T} {σ : Sl} {h : Hm} {xs : List T} (hg : ∀ x ∈ xs, ∀ h', go x σ h' = .ok (f x) h') (hl : xs.length < lim) :
    ((lcLoop go σ h.length xs (h ++ [some (.lst [])])).bind fun _ h' => lcEnd false h.length h') = .ok (.lst (xs.filterMap f)) (h ++ [none]) := by
  rw [lcLoop_pure xs [] hg (by simpa using hl)]
  simp only [R_ok, lcEnd, if_neg Bool.false_ne_true, frzR, List.getElem?_append_right (Nat.le_refl _), Nat.sub_self, List.getElem?_cons_zero, List.nil_append]
  rw [List.set_append_right _ _ (Nat.le_refl _), Nat.sub_self]
  rfl
/-- a comprehension, by what it walks and its turn -/
theorem ev_lcp {Γ : Env} {g : Tg} {it : It} {cs : List Ex} {e : Ex} {σ : Sl} {h : Hm} {xs : List T} (f : T → Option T) (hi : evI Γ it σ h = .ok xs h) (hg : ∀ x ∈ xs, ∀ h', lcGo g (fun σ h => evBs Γ cs σ h) (fun σ h => evE Γ e σ h) x σ h' = .ok (f x) h') (hl : xs.length < lim) :
    evE Γ (.lc false g it cs e) σ h = .ok (.lst (xs.filterMap f)) (h ++ [none]) := by
  rw [evE, hi]
  exact lc_pure hg hl
/-- behind a body -/
def cEnd (h : Hm) : R Fl → R T
  | .ok (.ret t) h' => leave h t h'
  | .ok (.next _) h' => leave h .non h'
  | .exc c ts h' => leaveX h c ts h'
  | _ => .bad
variable {Φ : Nat → Option FD} {tf : Nat → R T → R T}
theorem call_eq {n f : Nat} {ts : List T} {h : Hm} {d : FD} (e : Φ f = some d) (hl : ts.length = d.np) :
    call Φ tf (n + 1) f ts h = cEnd h (evSs ⟨call Φ tf n, tf⟩ d.body (ts.map some ++ List.replicate (d.nl - d.np) none) h) := by
  rw [call, e]
  simp only [if_pos hl]
  cases evSs ⟨call Φ tf n, tf⟩ d.body (ts.map some ++ List.replicate (d.nl - d.np) none) h with
  | ok fl h' => cases fl <;> rfl
  | exc _ _ _ => rfl
  | bad => rfl
/-! ### is_word -/
def abc : List Nat := [97, 98, 99, 100, 101, 102, 103, 104, 105, 106, 107, 108, 109, 110, 111, 112, 113, 114, 115, 116, 117, 118, 119, 120, 121, 122]
mutual
/-- a value without references, instances -/
def nr : T → Bool
  | .non => true
  | .bl _ => true
  | .int _ => true
  | .str s => decide (s.length ≤ 1000)
  | .tup l => decide (l.length ≤ 1000) && nrs l
  | .lst l => decide (l.length ≤ 1000) && nrs l
  | .dct a b => nrs a && nrs b
  | .ins _ _ _ => false
  | .ref _ => false
def nrs : List T → Bool
  | [] => true
  | t :: l => nr t && nrs l
end
mutual
theorem nr_und (n : Nat) : ∀ t : T, nr t = true → t.und n = true
  | .non, _ => rfl
  | .bl _, _ => rfl
  | .int _, _ => rfl
  | .str _, _ => rfl
  | .tup l, h => nrs_und n l (by simp only [nr, Bool.and_eq_true] at h; exact h.2)
  | .lst l, h => nrs_und n l (by simp only [nr, Bool.and_eq_true] at h; exact h.2)
  | .dct a b, h => by
    simp only [nr, Bool.and_eq_true] at h
    simp [T.und, nrs_und n a h.1, nrs_und n b h.2]
  | .ins _ _ _, h => by simp [nr] at h
  | .ref _, h => by simp [nr] at h
theorem nrs_und (n : Nat) : ∀ l : List T, nrs l = true → T.unds n l = true
  | [], _ => rfl
  | t :: l, h => by
    simp only [nrs, Bool.and_eq_true] at h
    simp [T.unds, nr_und n t h.1, nrs_und n l h.2]
end
theorem nr_look {t : T} (h : Hm) (e : nr t = true) : look h t = t := by cases t <;> first | rfl | simp [nr] at e
def isW : T → Bool
  | .str s => s.all fun c => abc.contains c
  | _ => false
theorem bls_map {α : Type} (g : α → Bool) : ∀ l : List α, bls (l.map fun x => T.bl (g x)) = some (l.map g)
  | [] => rfl
  | x :: l => by simp [bls, bls_map g l]
theorem filterMap_some {α β : Type} (g : α → β) (l : List α) : l.filterMap (fun x => some (g x)) = l.map g := by
  induction l with
  | nil => rfl
  | cons x l ih => simp [ih]
def chT (s : List Nat) : List T := s.map fun c => T.str [c]
theorem cE (h : Hm) (t : T) (l : Hm) (u : t.und h.length = true) : cEnd h (.ok (.ret t) (h ++ l)) = .ok t h := leave_app l u
theorem cE0 (h : Hm) (t : T) (u : t.und h.length = true) : cEnd h (.ok (.ret t) h) = .ok t h := leave_same u
theorem cN0 (h : Hm) (σ : Sl) : cEnd h (.ok (.next σ) h) = .ok .non h := leave_same rfl
theorem cX0 (h : Hm) (c : Nat) : cEnd h (.exc c [] h) = .exc c [] h := leaveX_same rfl
theorem chT_len (s : List Nat) : (chT s).length = s.length := by simp [chT]
theorem nr_len {s : List Nat} (h : nr (.str s) = true) : s.length < lim := Nat.lt_of_le_of_lt (of_decide_eq_true h) (by decide)
/-- is_word -/
def bW : List St := [.ret (.and (.isi (.v 0) .str) (.bi false .all [.lc false (.v 1) (.e (.v 0)) [] (.cmp .in_ (.v 1) (.c (.str abc)))]))]
theorem sp_word (n : Nat) {f : Nat} (hf : Φ f = some ⟨1, 2, bW⟩) (v : T) (hv : nr v = true) (h : Hm) : call Φ tf (n + 1) f [v] h = .ok (.bl (isW v)) h := by
  rw [call_eq hf rfl]
  cases v with
  | str s =>
    have e : ∀ h, evE ⟨call Φ tf n, tf⟩ (.lc false (.v 1) (.e (.v 0)) [] (.cmp .in_ (.v 1) (.c (.str abc)))) [some (.str s), none] h = .ok (.lst ((chT s).filterMap fun x => some (.bl (match x with | .str [c] => abc.contains c | _ => false)))) (h ++ [none]) := fun h => by
      refine ev_lcp _ (by simp only [evI, evE, List.getElem?_cons_zero, R_ok, itemsO, ofO_s]; rfl) (fun x hx h' => ?_) (by rw [chT_len]; exact nr_len hv)
      obtain ⟨c, _, rfl⟩ := List.mem_map.mp hx
      simp only [lcGo, Tg.put, evBs, evE, List.set_cons_succ, List.set_cons_zero, List.getElem?_cons_succ, List.getElem?_cons_zero, R_ok, lk_str, cmO, inO, Option.map_some, ofO_s, if_pos]
    have e2 : bls ((chT s).filterMap fun x => some (.bl (match x with | .str [c] => abc.contains c | _ => false))) = some (s.map fun c => abc.contains c) := by
      rw [filterMap_some, chT, List.map_map]
      exact bls_map (fun c => abc.contains c) s
    have e3 : (s.map fun c => abc.contains c).all id = s.all fun c => abc.contains c := by rw [List.all_map]; rfl
    simp only [bW, evSs, evS, ↓e, evE, evEs, List.map_cons, List.map_nil, List.replicate, List.cons_append, List.nil_append, List.getElem?_cons_zero, R_ok, lk_str, isiO, Option.map_some, ofO_s, lk_bl, tr_bl, lk_lst, biO, e2, e3, mkF]
    exact cE h _ _ rfl
  | ins _ _ _ => simp [nr] at hv
  | ref _ => simp [nr] at hv
  | _ =>
    simp only [bW, evSs, evS, evE, evEs, List.map_cons, List.map_nil, List.replicate, List.cons_append, List.nil_append, List.getElem?_cons_zero, R_ok, look, isiO, Option.map_some, ofO_s, lk_bl, tr_bl]
    exact cE0 h _ rfl
theorem ss_step {Γ : Env} {st : St} {ss : List St} {σ σ' : Sl} {h h' : Hm} (e : evS Γ st σ h = .ok (.next σ') h') : evSs Γ (st :: ss) σ h = evSs Γ ss σ' h' := by rw [evSs, e]; rfl
theorem ss_ret {Γ : Env} {st : St} {ss : List St} {σ : Sl} {t : T} {h h' : Hm} (e : evS Γ st σ h = .ok (.ret t) h') : evSs Γ (st :: ss) σ h = .ok (.ret t) h' := by rw [evSs, e]; rfl
/-- the bag at j -/
def bag (a b c : Int) : Option MO := some (.lst [.int a, .int b, .int c])
theorem lk_bag {h : Hm} {j : Nat} {a b c : Int} (e : h[j]? = some (bag a b c)) : look h (.ref j) = .lst [.int a, .int b, .int c] := by
  simp only [look, e, bag]
theorem und_bag (n : Nat) (a b c : Int) : MO.und n (.lst [.int a, .int b, .int c]) = true := rfl
theorem set_bag {h : Hm} {j : Nat} {a b c : Int} (e : h[j]? = some (bag a b c)) (o : Option MO) : (h.set j o)[j]? = some o := List.getElem?_set_self (List.getElem?_eq_some_iff.mp e).1
theorem b0_ (a b c : Int) : ixO (.lst [.int a, .int b, .int c]) (.int 0) = some (.int a) := rfl
theorem b1_ (a b c : Int) : ixO (.lst [.int a, .int b, .int c]) (.int 1) = some (.int b) := rfl
theorem b2_ (a b c : Int) : ixO (.lst [.int a, .int b, .int c]) (.int 2) = some (.int c) := rfl
theorem set0 {h : Hm} {j : Nat} {a b c : Int} (e : h[j]? = some (bag a b c)) (x : Int) : setR (.ref j) (.int 0) (.int x) h = .ok () (h.set j (bag x b c)) := by
  simp only [setR, e, bag]
  rfl
theorem set2 {h : Hm} {j : Nat} {a b c : Int} (e : h[j]? = some (bag a b c)) (x : Int) : setR (.ref j) (.int 2) (.int x) h = .ok () (h.set j (bag a b x)) := by
  simp only [setR, e, bag]
  rfl
theorem md {i j : Int} (h : 0 < j) : opO .mod (.int i) (.int j) = some (.int (i % j)) := by simp [opO, h]
theorem fd {i j : Int} (h : 0 < j) (k : j < 1073741824) : opO .fdiv (.int i) (.int j) = some (.int (i / j)) := by simp [opO, h, k]
theorem ad {i j : Int} : opO .add (.int i) (.int j) = some (.int (i + j)) := rfl
theorem ml {i j : Int} (h : mulOk i j = true) : opO .mul (.int i) (.int j) = some (.int (i * j)) := by simp [opO, h]
theorem mlL {i j : Int} (h : -(2 ^ 64) < i) (k : i < 2 ^ 64) : mulOk i j = true := by simp only [mulOk, h, k]; rfl
theorem bint (i : Int) : biO .int [.int i] = some (.int i) := rfl
def bT : List St := [.if_ (.cmp .gt (.ix (.v 0) (.c (.int 0))) (.c (.int 0))) [.asg (.v 4) (.bin false .mod (.bi false .int [.ix (.v 0) (.c (.int 0))]) (.v 1)),
    .set (.v 0) (.c (.int 0)) (.bin false .fdiv (.ix (.v 0) (.c (.int 0))) (.v 1)),
    .ret (.v 4)] [],
    .set (.v 0) (.c (.int 2)) (.bin false .add (.ix (.v 0) (.c (.int 2))) (.c (.int 1))),
    .asg (.v 2) (.bin false .mod (.bi false .int [.bin false .add (.ix (.v 0) (.c (.int 1))) (.bin false .mul (.c (.int 1000403)) (.ix (.v 0) (.c (.int 2))))]) (.c (.int 2305843009213693951))),
    .asg (.v 3) (.bin false .add (.bin false .mul (.bin false .mod (.bi false .int [.bin false .mul (.v 2) (.v 2)]) (.c (.int 2305843009213693951))) (.v 2)) (.bin false .mul (.c (.int 8111)) (.ix (.v 0) (.c (.int 2))))),
    .asg (.v 3) (.bin false .mod (.bi false .int [.v 3]) (.c (.int 2305843009213693907))),
    .ret (.bin false .mod (.bi false .int [.bin false .fdiv (.v 3) (.c (.int 8192))]) (.v 1))]
theorem sp_throw (n j : Nat) {f : Nat} (hf : Φ f = some ⟨2, 5, bT⟩) (t a b c : Int) (h : Hm) (ht : 0 < t) (ht2 : t < 1073741824) (e : h[j]? = some (bag a b c)) :
    ∃ r a' b' c' : Int, 0 ≤ r ∧ r < t ∧ call Φ tf (n + 1) f [.ref j, .int t] h = .ok (.int r) (h.set j (bag a' b' c')) := by
  have lk := lk_bag e
  by_cases ha : 0 < a
  · refine ⟨a % t, a / t, b, c, Int.emod_nonneg _ (by omega), Int.emod_lt_of_pos _ ht, ?_⟩
    rw [call_eq hf rfl, bT]
    have d1 : decide ((0 : Int) < a) = true := decide_eq_true ha
    rw [ss_ret (t := .int (a % t)) (h' := h.set j (bag (a / t) b c))]
    · exact leave_set0 rfl rfl
    · simp only [evSs, evS, evB, evE, evEs, evI, List.map_cons, List.map_nil, List.replicate, List.cons_append, List.nil_append, List.getElem?_cons_zero, List.getElem?_cons_succ, List.set_cons_zero, List.set_cons_succ, R_ok, R_exc, lk_str, lk_int, lk_bl, lk_non, lk_tup, lk_lst, tr_bl, Option.map_some, ofO_s, mkF, if_pos, if_neg Bool.false_ne_true, Bool.not_true, Bool.not_false, Tg.put, Tg.puts, Option.bind_some, lk, b0_, cmO, d1, bint, md ht, fd ht ht2, set0 e]
  · have e' := set_bag e (bag a b (c + 1))
    have lk' := lk_bag e'
    have d1 : decide ((0 : Int) < a) = false := decide_eq_false ha
    obtain ⟨x, hx⟩ : ∃ x, x = (b + 1000403 * (c + 1)) % 2305843009213693951 := ⟨_, rfl⟩
    obtain ⟨y, hy⟩ : ∃ y, y = x * x % 2305843009213693951 * x + 8111 * (c + 1) := ⟨_, rfl⟩
    have hx0 : 0 ≤ x := hx ▸ Int.emod_nonneg _ (by decide)
    have hx1 : x < 2305843009213693951 := hx ▸ Int.emod_lt_of_pos _ (by decide)
    have hz0 : 0 ≤ x * x % 2305843009213693951 := Int.emod_nonneg _ (by decide)
    have hz1 : x * x % 2305843009213693951 < 2305843009213693951 := Int.emod_lt_of_pos _ (by decide)
    have m1 : mulOk 1000403 (c + 1) = true := mlL (by decide) (by decide)
    have m2 : mulOk x x = true := mlL (by omega) (by omega)
    have m3 : mulOk (x * x % 2305843009213693951) x = true := mlL (by omega) (by omega)
    have m4 : mulOk 8111 (c + 1) = true := mlL (by decide) (by decide)
    have q1 : (0 : Int) < 2305843009213693951 := by decide
    have q2 : (0 : Int) < 2305843009213693907 := by decide
    have q3 : (0 : Int) < 8192 := by decide
    have q4 : (8192 : Int) < 1073741824 := by decide
    refine ⟨y % 2305843009213693907 / 8192 % t, a, b, c + 1, Int.emod_nonneg _ (by omega), Int.emod_lt_of_pos _ ht, ?_⟩
    rw [call_eq hf rfl, bT]
    rw [ss_step (σ' := [some (.ref j), some (.int t), none, none, none]) (h' := h) (by simp only [evSs, evS, evB, evE, evEs, evI, List.map_cons, List.map_nil, List.replicate, List.cons_append, List.nil_append, List.getElem?_cons_zero, List.getElem?_cons_succ, List.set_cons_zero, List.set_cons_succ, R_ok, R_exc, lk_str, lk_int, lk_bl, lk_non, lk_tup, lk_lst, tr_bl, Option.map_some, ofO_s, mkF, if_pos, if_neg Bool.false_ne_true, Bool.not_true, Bool.not_false, Tg.put, Tg.puts, Option.bind_some, lk, b0_, cmO, d1])]
    rw [ss_step (σ' := [some (.ref j), some (.int t), none, none, none]) (h' := h.set j (bag a b (c + 1))) (by simp only [evSs, evS, evB, evE, evEs, evI, List.map_cons, List.map_nil, List.replicate, List.cons_append, List.nil_append, List.getElem?_cons_zero, List.getElem?_cons_succ, List.set_cons_zero, List.set_cons_succ, R_ok, R_exc, lk_str, lk_int, lk_bl, lk_non, lk_tup, lk_lst, tr_bl, Option.map_some, ofO_s, mkF, if_pos, if_neg Bool.false_ne_true, Bool.not_true, Bool.not_false, Tg.put, Tg.puts, Option.bind_some, lk, b2_, ad, set2 e])]
    rw [ss_step (σ' := [some (.ref j), some (.int t), some (.int x), none, none]) (h' := h.set j (bag a b (c + 1))) (by simp only [evSs, evS, evB, evE, evEs, evI, List.map_cons, List.map_nil, List.replicate, List.cons_append, List.nil_append, List.getElem?_cons_zero, List.getElem?_cons_succ, List.set_cons_zero, List.set_cons_succ, R_ok, R_exc, lk_str, lk_int, lk_bl, lk_non, lk_tup, lk_lst, tr_bl, Option.map_some, ofO_s, mkF, if_pos, if_neg Bool.false_ne_true, Bool.not_true, Bool.not_false, Tg.put, Tg.puts, Option.bind_some, lk', b1_, b2_, ad, ml m1, md q1, bint, ← hx])]
    rw [ss_step (σ' := [some (.ref j), some (.int t), some (.int x), some (.int y), none]) (h' := h.set j (bag a b (c + 1))) (by simp only [evSs, evS, evB, evE, evEs, evI, List.map_cons, List.map_nil, List.replicate, List.cons_append, List.nil_append, List.getElem?_cons_zero, List.getElem?_cons_succ, List.set_cons_zero, List.set_cons_succ, R_ok, R_exc, lk_str, lk_int, lk_bl, lk_non, lk_tup, lk_lst, tr_bl, Option.map_some, ofO_s, mkF, if_pos, if_neg Bool.false_ne_true, Bool.not_true, Bool.not_false, Tg.put, Tg.puts, Option.bind_some, lk', b1_, b2_, ad, ml m2, ml m3, ml m4, md q1, bint, ← hy])]
    rw [ss_step (σ' := [some (.ref j), some (.int t), some (.int x), some (.int (y % 2305843009213693907)), none]) (h' := h.set j (bag a b (c + 1))) (by simp only [evSs, evS, evB, evE, evEs, evI, List.map_cons, List.map_nil, List.replicate, List.cons_append, List.nil_append, List.getElem?_cons_zero, List.getElem?_cons_succ, List.set_cons_zero, List.set_cons_succ, R_ok, R_exc, lk_str, lk_int, lk_bl, lk_non, lk_tup, lk_lst, tr_bl, Option.map_some, ofO_s, mkF, if_pos, if_neg Bool.false_ne_true, Bool.not_true, Bool.not_false, Tg.put, Tg.puts, Option.bind_some, md q2, bint])]
    rw [ss_ret (t := .int (y % 2305843009213693907 / 8192 % t)) (h' := h.set j (bag a b (c + 1))) (by simp only [evSs, evS, evB, evE, evEs, evI, List.map_cons, List.map_nil, List.replicate, List.cons_append, List.nil_append, List.getElem?_cons_zero, List.getElem?_cons_succ, List.set_cons_zero, List.set_cons_succ, R_ok, R_exc, lk_str, lk_int, lk_bl, lk_non, lk_tup, lk_lst, tr_bl, Option.map_some, ofO_s, mkF, if_pos, if_neg Bool.false_ne_true, Bool.not_true, Bool.not_false, Tg.put, Tg.puts, Option.bind_some, md ht, fd q3 q4, bint])]
    exact leave_set0 rfl rfl
/-- _law_pick: an item of a list, a sign of a text -/
def bP (f : Nat) : List St := [.ret (.ix (.v 1) (.call f [.v 0, .bi false .len [.v 1]]))]
theorem sp_pick (n j : Nat) {f g : Nat} (hf : Φ f = some ⟨2, 5, bT⟩) (hg : Φ g = some ⟨2, 2, bP f⟩) (l : List T) (a b c : Int) (h : Hm) (hl : l ≠ []) (hz : l.length < 1000) (hu : ∀ t ∈ l, t.und h.length = true) (e : h[j]? = some (bag a b c)) :
    ∃ (t : T) (a' b' c' : Int), t ∈ l ∧ call Φ tf (n + 2) g [.ref j, .lst l] h = .ok t (h.set j (bag a' b' c')) := by
  have h0 : 0 < l.length := List.length_pos_iff.mpr hl
  obtain ⟨r, a', b', c', r0, r1, q⟩ := sp_throw (Φ := Φ) (tf := tf) n j hf l.length a b c h (by omega) (by omega) e
  have hr : r.toNat < l.length := by omega
  have ix : ixO (.lst l) (.int r) = some l[r.toNat] := by
    simp [ixO, atI, ixN, r0, r1, hr]
  refine ⟨l[r.toNat], a', b', c', List.getElem_mem _, ?_⟩
  rw [call_eq hg rfl, bP]
  rw [ss_ret (t := l[r.toNat]) (h' := h.set j (bag a' b' c')) (by simp only [evSs, evS, evB, evE, evEs, evI, List.map_cons, List.map_nil, List.replicate, List.cons_append, List.nil_append, List.getElem?_cons_zero, List.getElem?_cons_succ, List.set_cons_zero, List.set_cons_succ, R_ok, R_exc, lk_str, lk_int, lk_bl, lk_non, lk_tup, lk_lst, tr_bl, Option.map_some, ofO_s, mkF, if_pos, if_neg Bool.false_ne_true, Bool.not_true, Bool.not_false, Tg.put, Tg.puts, Option.bind_some, biO, lenO, lenI, q, ix])]
  exact leave_set0 (hu _ (List.getElem_mem _)) rfl
theorem sp_pickS (n j : Nat) {f g : Nat} (hf : Φ f = some ⟨2, 5, bT⟩) (hg : Φ g = some ⟨2, 2, bP f⟩) (s : List Nat) (a b c : Int) (h : Hm) (hl : s ≠ []) (hz : s.length < 1000) (e : h[j]? = some (bag a b c)) :
    ∃ (x : Nat) (a' b' c' : Int), x ∈ s ∧ call Φ tf (n + 2) g [.ref j, .str s] h = .ok (.str [x]) (h.set j (bag a' b' c')) := by
  have h0 : 0 < s.length := List.length_pos_iff.mpr hl
  obtain ⟨r, a', b', c', r0, r1, q⟩ := sp_throw (Φ := Φ) (tf := tf) n j hf s.length a b c h (by omega) (by omega) e
  have hr : r.toNat < s.length := by omega
  have ix : ixO (.str s) (.int r) = some (.str [s[r.toNat]]) := by
    simp [ixO, atI, ixN, r0, r1, hr]
  refine ⟨s[r.toNat], a', b', c', List.getElem_mem _, ?_⟩
  rw [call_eq hg rfl, bP]
  rw [ss_ret (t := .str [s[r.toNat]]) (h' := h.set j (bag a' b' c')) (by simp only [evSs, evS, evB, evE, evEs, evI, List.map_cons, List.map_nil, List.replicate, List.cons_append, List.nil_append, List.getElem?_cons_zero, List.getElem?_cons_succ, List.set_cons_zero, List.set_cons_succ, R_ok, R_exc, lk_str, lk_int, lk_bl, lk_non, lk_tup, lk_lst, tr_bl, Option.map_some, ofO_s, mkF, if_pos, if_neg Bool.false_ne_true, Bool.not_true, Bool.not_false, Tg.put, Tg.puts, Option.bind_some, biO, lenO, lenI, q, ix])]
  exact leave_set0 rfl rfl
/-- _law_start: a new bag -/
theorem cell_ (ns : List Int) (k : Nat) (h : Hm) (Γ : Env) : ∃ x : Int, evE Γ (.ite (.cmp .lt (.v 1) (.bi false .len [.v 0])) (.ix (.v 0) (.v 1)) (.bin false .add (.bin false .mul (.c (.int 29)) (.v 1)) (.c (.int 11)))) [some (.lst (ns.map .int)), some (.int k), none, none, none] h = .ok (.int x) h := by
  by_cases hk : k < ns.length
  · have d1 : decide ((k : Int) < (ns.length : Int)) = true := decide_eq_true (by omega)
    have ix : ixO (.lst (ns.map .int)) (.int k) = some (.int ns[k]) := by
      have h0 : (0 : Int) ≤ k := by omega
      have h1 : (k : Int) < (ns.length : Int) := by omega
      simp [ixO, atI, ixN, h1, hk]
    exact ⟨ns[k], by simp only [evSs, evS, evB, evE, evEs, evI, List.map_cons, List.map_nil, List.replicate, List.cons_append, List.nil_append, List.getElem?_cons_zero, List.getElem?_cons_succ, List.set_cons_zero, List.set_cons_succ, R_ok, R_exc, lk_str, lk_int, lk_bl, lk_non, lk_tup, lk_lst, tr_bl, Option.map_some, ofO_s, mkF, if_pos, if_neg Bool.false_ne_true, Bool.not_true, Bool.not_false, Tg.put, Tg.puts, Option.bind_some, biO, lenO, lenI, cmO, List.length_map, d1, ix]⟩
  · have d1 : decide ((k : Int) < (ns.length : Int)) = false := decide_eq_false (by omega)
    exact ⟨29 * k + 11, by simp only [evSs, evS, evB, evE, evEs, evI, List.map_cons, List.map_nil, List.replicate, List.cons_append, List.nil_append, List.getElem?_cons_zero, List.getElem?_cons_succ, List.set_cons_zero, List.set_cons_succ, R_ok, R_exc, lk_str, lk_int, lk_bl, lk_non, lk_tup, lk_lst, tr_bl, Option.map_some, ofO_s, mkF, if_pos, if_neg Bool.false_ne_true, Bool.not_true, Bool.not_false, Tg.put, Tg.puts, Option.bind_some, biO, lenO, lenI, cmO, List.length_map, d1, ad, ml (mlL (i := 29) (j := k) (by decide) (by decide))]⟩
theorem pw {i j : Int} (h : powOk i j = true) : opO .pow (.int i) (.int j) = some (.int (i ^ j.toNat)) := by simp [opO, h]
theorem sb {i j : Int} : opO .sub (.int i) (.int j) = some (.int (i - j)) := rfl
def bS : List St := [.asg (.v 2) (.ite (.cmp .lt (.v 1) (.bi false .len [.v 0])) (.ix (.v 0) (.v 1)) (.bin false .add (.bin false .mul (.c (.int 29)) (.v 1)) (.c (.int 11)))),
    .asg (.v 3) (.bin false .mod (.bi false .int [.bi false .abs [.v 2]]) (.bin false .pow (.bin false .pow (.c (.int 10)) (.c (.int 58))) (.c (.int 12)))),
    .asg (.v 4) (.bin false .add (.bin false .add (.bin false .add (.bin false .mul (.bin false .mod (.bi false .int [.v 3]) (.c (.int 2147483497))) (.c (.int 41381))) (.bin false .mul (.c (.int 4003)) (.v 1))) (.bin false .mul (.c (.int 13)) (.bi false .int [.cmp .lt (.v 2) (.c (.int 0))]))) (.c (.int 17))),
    .ret (.lst true [.bi false .max [.c (.int 0), .bin false .sub (.v 3) (.bin false .pow (.c (.int 10)) (.c (.int 18)))], .bin false .mod (.bi false .int [.v 4]) (.c (.int 2147483353)), .c (.int 0)])]
theorem sp_start (n : Nat) {f : Nat} (hf : Φ f = some ⟨2, 5, bS⟩) (ns : List Int) (k : Nat) (h : Hm) : ∃ a b c : Int, call Φ tf (n + 1) f [.lst (ns.map .int), .int k] h = .ok (.ref h.length) (h ++ [bag a b c]) := by
  obtain ⟨x, hx⟩ := cell_ ns k h ⟨call Φ tf n, tf⟩
  obtain ⟨M, hM⟩ : ∃ M : Int, M = (10 ^ (58 : Int).toNat) ^ (12 : Int).toNat := ⟨_, rfl⟩
  have hM0 : 0 < M := by rw [hM]; decide +kernel
  have p1 : powOk 10 58 = true := by decide +kernel
  have p2 : powOk (10 ^ (58 : Int).toNat) 12 = true := by decide +kernel
  have p3 : powOk 10 18 = true := by decide +kernel
  obtain ⟨g, hg⟩ : ∃ g : Int, g = (x.natAbs : Int) % M := ⟨_, rfl⟩
  have z1 : (0 : Int) < 2147483497 := by decide
  have z2 : (0 : Int) < 2147483353 := by decide
  have g0 : 0 ≤ g % 2147483497 := Int.emod_nonneg _ (by decide)
  have g1 : g % 2147483497 < 2147483497 := Int.emod_lt_of_pos _ (by decide)
  have m1 : mulOk (g % 2147483497) 41381 = true := mlL (by omega) (by omega)
  have m2 : mulOk 4003 k = true := mlL (by decide) (by decide)
  obtain ⟨lt, hlt⟩ : ∃ lt : Bool, decide (x < 0) = lt := ⟨_, rfl⟩
  obtain ⟨w, hw⟩ : ∃ w : Int, w = g % 2147483497 * 41381 + 4003 * (k : Int) + 13 * (if lt then 1 else 0) + 17 := ⟨_, rfl⟩
  have m3 : mulOk 13 (if lt then 1 else 0) = true := mlL (by decide) (by decide)
  have bb : biO .int [.bl lt] = some (.int (if lt then 1 else 0)) := rfl
  have ab : biO .abs [.int x] = some (.int (x.natAbs : Int)) := rfl
  have mx : ∀ i j : Int, biO .max [.int i, .int j] = some (.int (if j > i then j else i)) := fun _ _ => rfl
  refine ⟨if g - 10 ^ (18 : Int).toNat > 0 then g - 10 ^ (18 : Int).toNat else 0, w % 2147483353, 0, ?_⟩
  rw [call_eq hf rfl, bS]
  rw [ss_step (σ' := [some (.lst (ns.map .int)), some (.int k), some (.int x), none, none]) (h' := h) (by rw [evS]; erw [hx]; rfl)]
  rw [ss_step (σ' := [some (.lst (ns.map .int)), some (.int k), some (.int x), some (.int g), none]) (h' := h) (by simp only [evSs, evS, evB, evE, evEs, evI, List.map_cons, List.map_nil, List.replicate, List.cons_append, List.nil_append, List.getElem?_cons_zero, List.getElem?_cons_succ, List.set_cons_zero, List.set_cons_succ, R_ok, R_exc, lk_str, lk_int, lk_bl, lk_non, lk_tup, lk_lst, tr_bl, Option.map_some, ofO_s, mkF, if_pos, if_neg Bool.false_ne_true, Bool.not_true, Bool.not_false, Tg.put, Tg.puts, Option.bind_some, ab, bint, pw p1, pw p2, ← hM, md hM0, ← hg])]
  rw [ss_step (σ' := [some (.lst (ns.map .int)), some (.int k), some (.int x), some (.int g), some (.int w)]) (h' := h) (by simp only [evSs, evS, evB, evE, evEs, evI, List.map_cons, List.map_nil, List.replicate, List.cons_append, List.nil_append, List.getElem?_cons_zero, List.getElem?_cons_succ, List.set_cons_zero, List.set_cons_succ, R_ok, R_exc, lk_str, lk_int, lk_bl, lk_non, lk_tup, lk_lst, tr_bl, Option.map_some, ofO_s, mkF, if_pos, if_neg Bool.false_ne_true, Bool.not_true, Bool.not_false, Tg.put, Tg.puts, Option.bind_some, bint, md z1, ml m1, ml m2, cmO, hlt, bb, ml m3, ad, ← hw])]
  rw [ss_ret (t := .ref h.length) (h' := h ++ [bag (if g - 10 ^ (18 : Int).toNat > 0 then g - 10 ^ (18 : Int).toNat else 0) (w % 2147483353) 0]) (by simp only [evSs, evS, evB, evE, evEs, evI, List.map_cons, List.map_nil, List.replicate, List.cons_append, List.nil_append, List.getElem?_cons_zero, List.getElem?_cons_succ, List.set_cons_zero, List.set_cons_succ, R_ok, R_exc, lk_str, lk_int, lk_bl, lk_non, lk_tup, lk_lst, tr_bl, Option.map_some, ofO_s, mkF, if_pos, if_neg Bool.false_ne_true, Bool.not_true, Bool.not_false, Tg.put, Tg.puts, Option.bind_some, bint, pw p3, sb, mx, md z2, mk]; rfl)]
  show leave h (.ref h.length) (h ++ [bag _ _ _]) = _
  have e : (T.ref h.length).und h.length = false := by simp [T.und]
  unfold leave
  simp only [e, Bool.false_and, if_neg Bool.false_ne_true, List.getElem?_append_right (Nat.le_refl _), Nat.sub_self, List.getElem?_cons_zero, bag, und_bag, preB_app, Bool.and_self, if_pos, List.take_left']
end Pl
end
/-! part K00b -/
section
set_option autoImplicit false
set_option linter.all false
set_option maxRecDepth 100000
set_option maxHeartbeats 0
/-! K00b: the plain law k00, part one: the rows of the classes, the messages. -/
namespace K00P
open Tw Pl K00

theorem R_ok {α β : Type} (a : α) (h : Hm) (f : α → Hm → R β) : (R.ok a h).bind f = f a h := rfl
mutual
theorem eqv_refl : ∀ (n : Nat) (t : T), T.pl n t = true → T.eqv t t = true
  | _, .non, _ => rfl
  | _, .bl b, _ => by simp [T.eqv]
  | _, .int b, _ => by simp [T.eqv]
  | _, .str b, _ => by simp [T.eqv]
  | 0, .tup l, h => by simp [T.pl] at h
  | 0, .lst l, h => by simp [T.pl] at h
  | n + 1, .tup l, h => by
    rw [T.eqv]
    exact eqvs_refl n l (by simpa [T.pl] using h)
  | n + 1, .lst l, h => by
    rw [T.eqv]
    exact eqvs_refl n l (by simpa [T.pl] using h)
  | n, .dct _ _, h => by cases n <;> simp [T.pl] at h
  | n, .ins _ _ _, h => by cases n <;> simp [T.pl] at h
  | n, .ref _, h => by cases n <;> simp [T.pl] at h
theorem eqvs_refl : ∀ (n : Nat) (l : List T), T.pls n l = true → T.eqvs l l = true
  | _, [], _ => rfl
  | n, t :: l, h => by
    simp only [T.pls, Bool.and_eq_true] at h
    rw [T.eqvs, eqv_refl n t h.1, eqvs_refl n l h.2]
    rfl
end
theorem eq_self {t : T} (h : T.pl deepest t = true) : eqO t t = some true := by
  simp [eqO, h, eqv_refl _ t h]
theorem ne_self {t : T} (h : T.pl deepest t = true) : cmO .ne t t = some false := by
  simp [cmO, eq_self h]
/-! ### the rows -/
def basesT (c : Nat) : T := .lst ([tg0, tg15, tg16, tg17, tg18, tg19, tg20, tg21].map fun l => .bl (l.getD c false))
theorem pl_flags (c : Nat) : T.pl deepest (flags c) = true := rfl
theorem pl_bases (c : Nat) : T.pl deepest (basesT c) = true := rfl
theorem sp14 (n c : Nat) (ns : List Nat) (vs : List T) (h : Hm) (hc : c < 15) : call Φ tf (n + 1) 14 [.ins c ns vs] h = .ok (flags c) h := by
  rw [call_eq (d := ⟨1, 2, b14⟩) rfl rfl]
  have e : evSs ⟨call Φ tf n, tf⟩ b14 [some (.ins c ns vs), none] h = .ok (.ret (flags c)) h := by
    match c, hc with
    | 0, _ => rfl
    | 1, _ => rfl
    | 2, _ => rfl
    | 3, _ => rfl
    | 4, _ => rfl
    | 5, _ => rfl
    | 6, _ => rfl
    | 7, _ => rfl
    | 8, _ => rfl
    | 9, _ => rfl
    | 10, _ => rfl
    | 11, _ => rfl
    | 12, _ => rfl
    | 13, _ => rfl
    | 14, _ => rfl
    | c + 15, h => omega
  show cEnd h (evSs _ b14 [some (.ins c ns vs), none] h) = _
  rw [e]
  exact cE0 h _ rfl
theorem sp15 (n c : Nat) (ns : List Nat) (vs : List T) (h : Hm) (hc : c < 15) : call Φ tf (n + 1) 15 [.ins c ns vs] h = .ok (basesT c) h := by
  rw [call_eq (d := ⟨1, 2, b15⟩) rfl rfl]
  have e : evSs ⟨call Φ tf n, tf⟩ b15 [some (.ins c ns vs), none] h = .ok (.ret (basesT c)) h := by
    match c, hc with
    | 0, _ => rfl
    | 1, _ => rfl
    | 2, _ => rfl
    | 3, _ => rfl
    | 4, _ => rfl
    | 5, _ => rfl
    | 6, _ => rfl
    | 7, _ => rfl
    | 8, _ => rfl
    | 9, _ => rfl
    | 10, _ => rfl
    | 11, _ => rfl
    | 12, _ => rfl
    | 13, _ => rfl
    | 14, _ => rfl
    | c + 15, h => omega
  show cEnd h (evSs _ b15 [some (.ins c ns vs), none] h) = _
  rw [e]
  exact cE0 h _ rfl
theorem sp16 (n t : Nat) (l : List T) (g : T → Bool) (h : Hm) (ht : t < 1000) (hx : ∀ x ∈ steps 0 1 t, inO x (.tup l) = some (g x)) : call Φ tf (n + 1) 16 [.tup l, .int t] h = .ok (.lst ((steps 0 1 t).map fun x => .bl (g x))) h := by
  rw [call_eq (d := ⟨2, 3, b16⟩) rfl rfl]
  have len : ∀ (n : Nat) (i c : Int), (steps i c n).length = n := fun n => by
    induction n with
    | zero => intro i c; rfl
    | succ n ih => intro i c; simp [steps, ih]
  have hz : -(lim : Int) ≤ (t : Int) ∧ (t : Int) ≤ (lim : Int) := by unfold lim; omega
  have hi : evI ⟨call Φ tf n, tf⟩ (.range [.v 1]) [some (.tup l), some (.int t), none] h = .ok (steps 0 1 t) h := by
    simp only [evSs, evS, evB, evE, evEs, evI, List.map_cons, List.map_nil, List.replicate, List.cons_append, List.nil_append, List.getElem?_cons_zero, List.getElem?_cons_succ, List.set_cons_zero, List.set_cons_succ, R_ok, R_exc, lk_str, lk_int, lk_bl, lk_non, lk_tup, lk_lst, tr_bl, Option.map_some, ofO_s, mkF, if_pos, if_neg Bool.false_ne_true, Bool.not_true, Bool.not_false, Tg.put, Tg.puts, Option.bind_some]
    simp only [rngO, if_pos hz, ofO_s, Int.toNat_natCast]
  have e := ev_lcp (Γ := ⟨call Φ tf n, tf⟩) (g := .v 2) (cs := []) (e := .cmp .in_ (.v 2) (.v 0)) (σ := [some (.tup l), some (.int t), none]) (h := h) (fun x => some (.bl (g x))) hi (fun x hm h' => by
    have ix : ∀ i : Int, x = .int i → look h' x = x := fun i e => by rw [e]; rfl
    have hxi : look h' x = x := by
      have : ∀ (n : Nat) (i : Int), x ∈ steps i 1 n → ∃ k : Int, x = .int k := fun n => by
        induction n with
        | zero => intro i q; cases q
        | succ n ih =>
          intro i q
          rcases List.mem_cons.mp q with q | q
          · exact ⟨_, q⟩
          · exact ih _ q
      obtain ⟨k, e⟩ := this _ _ hm
      exact ix k e
    simp only [lcGo, Tg.put, evBs, evE, List.set_cons_succ, List.set_cons_zero, List.getElem?_cons_succ, List.getElem?_cons_zero, R_ok, lk_tup, hxi, cmO, hx x hm, Option.map_some, ofO_s, if_pos]) (by rw [len]; unfold lim; omega)
  show cEnd h (evSs _ b16 [some (.tup l), some (.int t), none] h) = _
  rw [b16, ss_ret (t := .lst ((steps 0 1 t).filterMap fun x => some (.bl (g x)))) (h' := h ++ [none]) (by rw [evS, e]; rfl), filterMap_some]
  refine cE h _ _ ?_
  have : ∀ l : List T, T.unds h.length (l.map fun x => T.bl (g x)) = true := fun l => by
    induction l with
    | nil => rfl
    | cons a l ih => simp [T.unds, T.und, ih]
  exact this _
/-- the spots of one -/
def inG (l : List T) (x : T) : Bool := (inO x (.tup l)).getD false
theorem only_row (n t : Nat) (l : List T) (r : T) (h : Hm) (ht : t < 1000) (hx : (steps 0 1 t).all (fun x => (inO x (.tup l)).isSome) = true) (hr : T.lst ((steps 0 1 t).map fun x => .bl (inG l x)) = r) : call Φ tf (n + 1) 16 [.tup l, .int t] h = .ok r h := by
  rw [sp16 n t l (inG l) h ht, hr]
  intro x hm
  have := List.all_eq_true.mp hx x hm
  obtain ⟨b, e⟩ := Option.isSome_iff_exists.mp this
  simp [inG, e]
theorem only14 (n k : Nat) (h : Hm) (hk : k < 14) : call Φ tf (n + 1) 16 [.tup [.int k], .int 14] h = .ok (flags (k + 1)) h := by
  match k, hk with
  | 0, _ => exact only_row n 14 _ _ h (by decide) (by decide +kernel) rfl
  | 1, _ => exact only_row n 14 _ _ h (by decide) (by decide +kernel) rfl
  | 2, _ => exact only_row n 14 _ _ h (by decide) (by decide +kernel) rfl
  | 3, _ => exact only_row n 14 _ _ h (by decide) (by decide +kernel) rfl
  | 4, _ => exact only_row n 14 _ _ h (by decide) (by decide +kernel) rfl
  | 5, _ => exact only_row n 14 _ _ h (by decide) (by decide +kernel) rfl
  | 6, _ => exact only_row n 14 _ _ h (by decide) (by decide +kernel) rfl
  | 7, _ => exact only_row n 14 _ _ h (by decide) (by decide +kernel) rfl
  | 8, _ => exact only_row n 14 _ _ h (by decide) (by decide +kernel) rfl
  | 9, _ => exact only_row n 14 _ _ h (by decide) (by decide +kernel) rfl
  | 10, _ => exact only_row n 14 _ _ h (by decide) (by decide +kernel) rfl
  | 11, _ => exact only_row n 14 _ _ h (by decide) (by decide +kernel) rfl
  | 12, _ => exact only_row n 14 _ _ h (by decide) (by decide +kernel) rfl
  | 13, _ => exact only_row n 14 _ _ h (by decide) (by decide +kernel) rfl
  | k + 14, h => omega
theorem only8 (n c : Nat) (h : Hm) (hc : c < 9) : call Φ tf (n + 1) 16 [.tup [.int 0, .int 1], .int 8] h = .ok (basesT c) h := by
  match c, hc with
  | 0, _ => exact only_row n 8 _ _ h (by decide) (by decide +kernel) rfl
  | 1, _ => exact only_row n 8 _ _ h (by decide) (by decide +kernel) rfl
  | 2, _ => exact only_row n 8 _ _ h (by decide) (by decide +kernel) rfl
  | 3, _ => exact only_row n 8 _ _ h (by decide) (by decide +kernel) rfl
  | 4, _ => exact only_row n 8 _ _ h (by decide) (by decide +kernel) rfl
  | 5, _ => exact only_row n 8 _ _ h (by decide) (by decide +kernel) rfl
  | 6, _ => exact only_row n 8 _ _ h (by decide) (by decide +kernel) rfl
  | 7, _ => exact only_row n 8 _ _ h (by decide) (by decide +kernel) rfl
  | 8, _ => exact only_row n 8 _ _ h (by decide) (by decide +kernel) rfl
  | c + 9, h => omega
/-- the bases of the others -/
def hereT : Nat → List T
  | 9 => [.int 2, .int 5]
  | 10 => [.int 3, .int 5]
  | 11 => [.int 4, .int 6]
  | 12 => [.int 6]
  | 13 => [.int 7]
  | _ => [.int 5]
theorem only8x (n c : Nat) (h : Hm) (h9 : 9 ≤ c) (hc : c < 15) : call Φ tf (n + 1) 16 [.tup (hereT c), .int 8] h = .ok (basesT c) h := by
  match c, h9, hc with
  | 9, _, _ => exact only_row n 8 _ _ h (by decide) (by decide +kernel) rfl
  | 10, _, _ => exact only_row n 8 _ _ h (by decide) (by decide +kernel) rfl
  | 11, _, _ => exact only_row n 8 _ _ h (by decide) (by decide +kernel) rfl
  | 12, _, _ => exact only_row n 8 _ _ h (by decide) (by decide +kernel) rfl
  | 13, _, _ => exact only_row n 8 _ _ h (by decide) (by decide +kernel) rfl
  | 14, _, _ => exact only_row n 8 _ _ h (by decide) (by decide +kernel) rfl
  | c + 15, _, h => omega
/-! ### the messages -/
theorem sp13 (n : Nat) (m : T) (h : Hm) : call Φ tf (n + 1) 13 [m] h = .ok (.lst [.ins 1 [] [], .ins 2 [] [], .ins 3 [] [], .ins 4 [] [], .ins 5 [] [], .ins 6 [] [], .ins 7 [] [], .ins 8 [] []]) h := by
  rw [call_eq (d := ⟨1, 2, b13⟩) rfl rfl]
  exact cE0 h _ rfl
def T17 (a : Ex) (t : List Ex) (s : Ex) : Ex := .or (.cmp .ne (.call 14 [.v 2]) (.call 16 [.tup t, a])) (.cmp .ne (.call 15 [.v 2]) (.call 16 [s, .c (.int 8)]))
/-- one turn: an exception whose rows are right -/
theorem turn {Γ : Env} {σ : Sl} {h : Hm} {x : Ex} {y z w : Ex} {c : Nat} (e1 : evE Γ x σ h = .ok (flags c) h) (e2 : evE Γ y σ h = .ok (flags c) h) (e3 : evE Γ z σ h = .ok (basesT c) h) (e4 : evE Γ w σ h = .ok (basesT c) h) :
    evS Γ (.if_ (.or (.cmp .ne x y) (.cmp .ne z w)) [.ret (.c (.bl false))] []) σ h = .ok (.next σ) h := by
  have q1 : cmO .ne (look h (flags c)) (look h (flags c)) = some false := ne_self (pl_flags c)
  have q2 : cmO .ne (look h (basesT c)) (look h (basesT c)) = some false := ne_self (pl_bases c)
  simp only [evS, evB, e1, e2, e3, e4, R_ok, q1, q2, ofO_s, if_neg Bool.false_ne_true, evSs]
theorem ev_call {Γ : Env} {f : Nat} {es : List Ex} {σ : Sl} {h : Hm} {ts : List T} {r : R T} (e : evEs Γ es σ h = .ok ts h) (q : Γ.cf f ts h = r) : evE Γ (.call f es) σ h = r := by rw [evE, e]; exact q
theorem sp17 (n : Nat) (m : T) (h : Hm) : call Φ tf (n + 2) 17 [m] h = .ok (.bl true) h := by
  rw [call_eq (d := ⟨1, 3, b17⟩) rfl rfl]
  show cEnd h (evSs _ b17 [some m, none, none] h) = _
  rw [b17]
  rw [ss_step (σ' := [some m, none, none]) (h' := h) (turn (c := 0) (ev_call (ts := [.ins 0 [] []]) rfl (sp14 n 0 [] [] h (by decide))) rfl (ev_call (ts := [.ins 0 [] []]) rfl (sp15 n 0 [] [] h (by decide))) (ev_call (ts := [.tup [.int 0, .int 1], .int 8]) rfl (only8 n 0 h (by decide))))]
  have st : ∀ (k : Nat) (s1 s2 : Option T), k < 8 → evSs ⟨call Φ tf (n + 1), tf⟩ [.if_ (.or (.cmp .ne (.call 14 [.v 2]) (.call 16 [.tup [.v 1], .c (.int 14)])) (.cmp .ne (.call 15 [.v 2]) (.call 16 [.tup [.c (.int 0), .c (.int 1)], .c (.int 8)]))) [.ret (.c (.bl false))] []] [some m, some (.int k), some (.ins (k + 1) [] [])] h = .ok (.next [some m, some (.int k), some (.ins (k + 1) [] [])]) h := fun k s1 s2 hk => by
    rw [ss_step (turn (c := k + 1) (ev_call (ts := [.ins (k + 1) [] []]) rfl (sp14 n (k + 1) [] [] h (by omega))) (ev_call (ts := [.tup [.int k], .int 14]) rfl (only14 n k h (by omega))) (ev_call (ts := [.ins (k + 1) [] []]) rfl (sp15 n (k + 1) [] [] h (by omega))) (ev_call (ts := [.tup [.int 0, .int 1], .int 8]) rfl (only8 n (k + 1) h (by omega))))]
    rfl
  have lp : ∀ (k : Nat) (s1 s2 : Option T) (m1 : Nat), k + m1 = 8 → ∃ σ', forLoop (.u [.v 1, .v 2]) (fun σ h => evSs ⟨call Φ tf (n + 1), tf⟩ [.if_ (.or (.cmp .ne (.call 14 [.v 2]) (.call 16 [.tup [.v 1], .c (.int 14)])) (.cmp .ne (.call 15 [.v 2]) (.call 16 [.tup [.c (.int 0), .c (.int 1)], .c (.int 8)]))) [.ret (.c (.bl false))] []] σ h)
      (enumT k ((List.range' (k + 1) m1).map fun c => T.ins c [] [])) [some m, s1, s2] h = .ok (.next σ') h := fun k s1 s2 m1 => by
    induction m1 generalizing k s1 s2 with
    | zero => intro _; exact ⟨_, rfl⟩
    | succ m1 ih =>
      intro hk
      obtain ⟨σ', e⟩ := ih (k + 1) (some (.int k)) (some (.ins (k + 1) [] [])) (by omega)
      refine ⟨σ', ?_⟩
      rw [List.range'_succ, List.map_cons, enumT, forLoop]
      simp only [Tg.put, Tg.puts, Option.bind_some, List.set_cons_succ, List.set_cons_zero]
      rw [st k s1 s2 (by omega)]
      exact e
  obtain ⟨σ', e⟩ := lp 0 none none 8 rfl
  have ei : evI ⟨call Φ tf (n + 1), tf⟩ (.enum (.call 13 [.v 0])) [some m, none, none] h = .ok (enumT 0 ((List.range' 1 8).map fun c => T.ins c [] [])) h := by
    rw [evI, ev_call (ts := [m]) rfl (sp13 n m h)]
    rfl
  rw [ss_step (σ' := σ') (h' := h) (by rw [evS, ei]; exact e)]
  exact cE0 h _ rfl
end K00P
end
/-! part Pl2 -/
section
set_option autoImplicit false
set_option linter.all false
set_option maxRecDepth 10000
/-! Pl2: a heap with one thing stored anew (the bag) and new things at its end. For all laws. -/
namespace Pl
open Tw
/-- h, o at j, L behind it -/
def U (h : Hm) (j : Nat) (o : Option MO) (L : Hm) : Hm := h.set j o ++ L
section
variable {h : Hm} {j : Nat} {o p : Option MO} {L M : Hm}
theorem U_0 (e : h[j]? = some o) : U h j o [] = h := by
  unfold U
  rw [List.append_nil]
  obtain ⟨hl, e⟩ := List.getElem?_eq_some_iff.mp e
  rw [← e]
  exact List.set_getElem_self hl
theorem U_set (hj : j < h.length) : (U h j o L).set j p = U h j p L := by
  unfold U
  rw [List.set_append_left _ _ (by simpa using hj), List.set_set]
theorem U_at (hj : j < h.length) : (U h j o L)[j]? = some o := by
  unfold U
  rw [List.getElem?_append_left (by simpa using hj), List.getElem?_set_self hj]
theorem U_len : (U h j o L).length = h.length + L.length := by simp [U]
theorem U_app : U h j o L ++ M = U h j o (L ++ M) := by simp [U, List.append_assoc]
theorem U_get (i : Nat) : (U h j o L)[h.length + i]? = L[i]? := by
  unfold U
  rw [List.getElem?_append_right (by simp), List.length_set, Nat.add_sub_cancel_left]
theorem U_put (i : Nat) : (U h j o L).set (h.length + i) p = U h j o (L.set i p) := by
  unfold U
  rw [List.set_append_right _ _ (by simp), List.length_set, Nat.add_sub_cancel_left]
theorem U_leave {t : T} {m : MO} (u : t.und h.length = true) (v : m.und h.length = true) : cEnd h (.ok (.ret t) (U h j (some m) L)) = .ok t (h.set j (some m)) := leave_set L u v
theorem U_mk {l : List T} (k : Nat) (hk : L.length = k) : mk true (.lst l) (U h j o L) = .ok (.ref (h.length + k)) (U h j o (L ++ [some (.lst l)])) := by
  show R.ok (T.ref (U h j o L).length) (U h j o L ++ [some (.lst l)]) = _
  rw [U_len, U_app, hk]
theorem U_mk' {l : List T} {L' : Hm} (k : Nat) (hk : L.length = k) (e : L ++ [some (.lst l)] = L') : mk true (.lst l) (U h j o L) = .ok (.ref (h.length + k)) (U h j o L') := by rw [U_mk k hk, e]
theorem U_look {l : List T} (i : Nat) (e : L[i]? = some (some (.lst l))) : look (U h j o L) (.ref (h.length + i)) = .lst l := by
  simp only [look, U_get, e]
theorem U_me {l : List T} {x : T} (i : Nat) (e : L[i]? = some (some (.lst l))) (hl : l.length < lim) : meR .append (.ref (h.length + i)) [x] (U h j o L) = .ok .non (U h j o (L.set i (some (.lst (l ++ [x]))))) := by
  simp only [meR, U_get, e, if_pos hl, U_put]
theorem U_frz {l : List T} (i : Nat) (e : L[i]? = some (some (.lst l))) : frzR (.ref (h.length + i)) (U h j o L) = .ok (.lst l) (U h j o (L.set i none)) := by
  simp only [frzR, U_get, e, U_put]
end
/-- a dict of one pair, its parts plain -/
theorem ev_dct1 {Γ : Env} {a b : Ex} {σ : Sl} {h : Hm} {k v : T} (hk : isKey k = true) (e1 : ∀ h, evE Γ a σ h = .ok k h) (e2 : ∀ h, evE Γ b σ h = .ok v h) : evE Γ (.dct1 a b) σ h = .ok (.dct [k] [v]) (h ++ [none]) := by
  rw [evE, e1]
  simp only [R_ok, e2, if_pos hk, List.getElem?_append_right (Nat.le_refl _), Nat.sub_self, List.getElem?_cons_zero, List.set_append_right _ _ (Nat.le_refl _), List.set_cons_zero]
/-- an append statement -/
theorem s_app {Γ : Env} {i : Nat} {x : Ex} {σ : Sl} {h h' : Hm} {r y : T} {l : List T} (e : σ[i]? = some (some r)) (lk : look h r = .lst l) (ex : evE Γ x σ h = .ok y h') {h2 : Hm} (em : meR .append r [y] h' = .ok .non h2) : evS Γ (.ex (.me .append (.v i) [x])) σ h = .ok (.next σ) h2 := by
  simp only [evS, evE, evEs, e, R_ok, lk, meOk, if_pos, ex, em]
theorem evEs_cons {Γ : Env} {a : Ex} {es : List Ex} {σ : Sl} {h h1 h2 : Hm} {t : T} {ts : List T} (e1 : evE Γ a σ h = .ok t h1) (e2 : evEs Γ es σ h1 = .ok ts h2) : evEs Γ (a :: es) σ h = .ok (t :: ts) h2 := by rw [evEs, e1, R_ok, e2, R_ok]
theorem evEs_nil {Γ : Env} {σ : Sl} {h : Hm} : evEs Γ [] σ h = .ok [] h := by rw [evEs]
theorem ev_lst {Γ : Env} {m : Bool} {es : List Ex} {σ : Sl} {h h1 : Hm} {ts : List T} (e : evEs Γ es σ h = .ok ts h1) : evE Γ (.lst m es) σ h = mk m (.lst ts) h1 := by rw [evE, e, R_ok]
theorem s_asgv {Γ : Env} {i : Nat} {x : Ex} {σ : Sl} {h h1 : Hm} {t : T} (e : evE Γ x σ h = .ok t h1) : evS Γ (.asg (.v i) x) σ h = .ok (.next (σ.set i (some t))) h1 := by rw [evS, e]; rfl
theorem s_asg' {Γ : Env} {i : Nat} {x : Ex} {σ σ' : Sl} {h h1 : Hm} {t : T} (e : evE Γ x σ h = .ok t h1) (es : σ.set i (some t) = σ') : evS Γ (.asg (.v i) x) σ h = .ok (.next σ') h1 := by rw [s_asgv e, es]
/-- + of two lists -/
theorem ev_add {Γ : Env} {m : Bool} {a b : Ex} {σ : Sl} {h h1 h2 : Hm} {t u : T} {l k : List T} (e1 : evE Γ a σ h = .ok t h1) (e2 : evE Γ b σ h1 = .ok u h2) (l1 : look h2 t = .lst l) (l2 : look h2 u = .lst k) (hz : l.length + k.length ≤ lim) : evE Γ (.bin m .add a b) σ h = mk m (.lst (l ++ k)) h2 := by
  simp only [evE, e1, R_ok, e2, l1, l2, opO, if_pos hz, ofO_s]
theorem ev_call {Γ : Env} {f : Nat} {es : List Ex} {σ : Sl} {h h1 : Hm} {ts : List T} {r : R T} (e : evEs Γ es σ h = .ok ts h1) (q : Γ.cf f ts h1 = r) : evE Γ (.call f es) σ h = r := by rw [evE, e]; exact q
theorem ev_v {Γ : Env} {i : Nat} {σ : Sl} {h : Hm} {t : T} (e : σ[i]? = some (some t)) : evE Γ (.v i) σ h = .ok t h := by simp only [evE, e]
/-- a pick on such a heap -/
theorem U_pick {Φ : Nat → Option FD} {tf : Nat → R T → R T} (n : Nat) {f g : Nat} (hf : Φ f = some ⟨2, 5, bT⟩) (hg : Φ g = some ⟨2, 2, bP f⟩) {h : Hm} {j : Nat} {a b c : Int} {L : Hm} (hj : j < h.length) (l : List T) (hl : l ≠ []) (hz : l.length < 1000) (hu : ∀ t ∈ l, nr t = true) :
    ∃ (t : T) (a' b' c' : Int), t ∈ l ∧ call Φ tf (n + 2) g [.ref j, .lst l] (U h j (bag a b c) L) = .ok t (U h j (bag a' b' c') L) := by
  obtain ⟨t, a', b', c', ht, e⟩ := sp_pick (Φ := Φ) (tf := tf) n j hf hg l a b c (U h j (bag a b c) L) hl hz (fun t ht => nr_und _ t (hu t ht)) (U_at hj)
  exact ⟨t, a', b', c', ht, by rw [e, U_set hj]⟩
/-- .. its items in a mutable list -/
theorem U_pickR {Φ : Nat → Option FD} {tf : Nat → R T → R T} (n : Nat) {f g : Nat} (hf : Φ f = some ⟨2, 5, bT⟩) (hg : Φ g = some ⟨2, 2, bP f⟩) {h : Hm} {j : Nat} {a b c : Int} {L : Hm} (hj : j < h.length) (l : List T) (i : Nat) (hi : L[i]? = some (some (.lst l))) (hl : l ≠ []) (hz : l.length < 1000) (hu : ∀ t ∈ l, nr t = true) :
    ∃ (t : T) (a' b' c' : Int), t ∈ l ∧ call Φ tf (n + 2) g [.ref j, .ref (h.length + i)] (U h j (bag a b c) L) = .ok t (U h j (bag a' b' c') L) := by
  have h0 : 0 < l.length := List.length_pos_iff.mpr hl
  obtain ⟨r, a', b', c', r0, r1, q⟩ := sp_throw (Φ := Φ) (tf := tf) n j hf l.length a b c (U h j (bag a b c) L) (by omega) (by omega) (U_at hj)
  rw [U_set hj] at q
  have hr : r.toNat < l.length := by omega
  have ix : ixO (.lst l) (.int r) = some l[r.toNat] := by simp [ixO, atI, ixN, r0, r1, hr]
  refine ⟨l[r.toNat], a', b', c', List.getElem_mem _, ?_⟩
  have lk : ∀ (o : Option MO), look (U h j o L) (.ref (h.length + i)) = .lst l := fun o => U_look i hi
  have ut : (l[r.toNat]).und (U h j (bag a b c) L).length = true := nr_und _ _ (hu _ (List.getElem_mem _))
  rw [call_eq hg rfl, bP]
  rw [ss_ret (t := l[r.toNat]) (h' := U h j (bag a' b' c') L) (by simp only [evSs, evS, evB, evE, evEs, evI, List.map_cons, List.map_nil, List.replicate, List.cons_append, List.nil_append, List.getElem?_cons_zero, List.getElem?_cons_succ, List.set_cons_zero, List.set_cons_succ, R_ok, R_exc, lk_str, lk_int, lk_bl, lk_non, lk_tup, lk_lst, tr_bl, Option.map_some, ofO_s, mkF, if_pos, if_neg Bool.false_ne_true, Bool.not_true, Bool.not_false, Tg.put, Tg.puts, Option.bind_some, biO, lenO, lenI, lk, q, ix])]
  have e : U h j (bag a' b' c') L = (U h j (bag a b c) L).set j (bag a' b' c') := (U_set hj).symm
  rw [e]
  exact leave_set0 ut rfl
end Pl
end
/-! part K00d -/
section
set_option autoImplicit false
set_option linter.all false
set_option maxRecDepth 100000
set_option maxHeartbeats 0
/-! K00d: the plain law k00, part two: the drawn values. -/
namespace K00P
open Tw Pl K00
def big : Int := 10 ^ 39
theorem ev_big {Γ : Env} {σ : Sl} {h : Hm} : evE Γ (.bin false .pow (.c (.int 10)) (.c (.int 39))) σ h = .ok (.int big) h := by
  simp only [evE, R_ok, lk_int, pw (i := 10) (j := 39) (by decide +kernel), ofO_s, mkF]
  rfl
def S1 : List T := [.int (-1), .int 9, .non, .bl true, .str [110, 111], .tup [], .lst [.int 1], .dct [.str [97]] [.int 1], .int big, .tup [.str [116, 119, 111], .str [97, 98]], .dct [.tup [.int 0, .int 0]] [.tup [.str [], .str []]]]
def S2 : List T := [.str [110, 111], .str [97], .str [110, 97, 109, 101, 115], .str [122, 122, 122, 122, 122, 122, 122, 122]]
def S3 : List T := [.int 8, .int 12, .int 64, .int 256, .int 1000]
def one_ : T := .tup [.int 0, .tup [.tup [.int 0, .str [97], .str [97], .int 0]]]
def two_ : T := .tup [.int 2, .tup [.tup [.int 2, .str [97], .str [97, 97], .int 2]]]
def S4 : List T := [.tup [.str [116, 119, 111], .str [], .tup [.int 0, .tup []], .tup [.int 1, .tup []]], .tup [.str [116, 119, 111], .str [97], one_, two_], .tup [.str [116, 119, 111], .str [97], two_, one_]]
def F2 : List T := [.tup [.str [], .str [97], .str [], one_, two_], .tup [.str [], .str [97], .str [], two_, one_]]
def f3 : T := .tup [.str [97], .str [97], .str [], .tup [.int 0, .tup [.tup [.int 0, .str [97], .str [97], .int 0], .tup [.int 0, .str [97], .str [97], .int 0]]], .tup [.int 2, .tup [.tup [.int 2, .str [97], .str [97, 97], .int 2], .tup [.int 2, .str [97], .str [97, 97], .int 2]]]]
def S5 : List T := F2 ++ [f3]
def S6 : List T := [.int 1, .int 2, .int 7, .int 61, .int big]
theorem nrS {l : List T} (h : l.all nr = true) : ∀ t ∈ l, nr t = true := fun t ht => List.all_eq_true.mp h t ht
theorem sp18 (n j : Nat) (a b c : Int) (h : Hm) (e : h[j]? = some (bag a b c)) : ∃ (x1 x2 x3 x4 x5 x6 : T) (a' b' c' : Int), x1 ∈ S1 ∧ x2 ∈ S2 ∧ x3 ∈ S3 ∧ x4 ∈ S4 ∧ x5 ∈ S5 ∧ x6 ∈ S6 ∧ call Φ tf (n + 3) 18 [.ref j] h = .ok (.lst [x1, x2, x3, x4, x5, x6]) (U h j (bag a' b' c') []) := by
  have hj : j < h.length := (List.getElem?_eq_some_iff.mp e).1
  have hU : h = U h j (bag a b c) [] := (U_0 e).symm
  have hf : Φ 11 = some ⟨2, 5, bT⟩ := rfl
  have hg : Φ 12 = some ⟨2, 2, bP 11⟩ := rfl
  obtain ⟨x1, a1, b1, c1, m1, p1⟩ := U_pick (Φ := Φ) (tf := tf) n hf hg (L := [none, none, some (.lst S5)]) (a := a) (b := b) (c := c) hj S1 (by decide) (by decide) (nrS (by decide +kernel))
  obtain ⟨x2, a2, b2, c2, m2, p2⟩ := U_pick (Φ := Φ) (tf := tf) n hf hg (L := [none, none, some (.lst S5)]) (a := a1) (b := b1) (c := c1) hj S2 (by decide) (by decide) (nrS (by decide +kernel))
  obtain ⟨x3, a3, b3, c3, m3, p3⟩ := U_pick (Φ := Φ) (tf := tf) n hf hg (L := [none, none, some (.lst S5), some (.lst [x1, x2])]) (a := a2) (b := b2) (c := c2) hj S3 (by decide) (by decide) (nrS (by decide +kernel))
  obtain ⟨x4, a4, b4, c4, m4, p4⟩ := U_pick (Φ := Φ) (tf := tf) n hf hg (L := [none, none, some (.lst S5), some (.lst [x1, x2, x3])]) (a := a3) (b := b3) (c := c3) hj S4 (by decide) (by decide) (nrS (by decide +kernel))
  obtain ⟨x5, a5, b5, c5, m5, p5⟩ := U_pickR (Φ := Φ) (tf := tf) n hf hg (L := [none, none, some (.lst S5), some (.lst [x1, x2, x3])]) (a := a4) (b := b4) (c := c4) hj S5 2 rfl (by decide) (by decide) (nrS (by decide +kernel))
  obtain ⟨x6, a6, b6, c6, m6, p6⟩ := U_pick (Φ := Φ) (tf := tf) n hf hg (L := [none, none, some (.lst S5), some (.lst [x1, x2, x3]), some (.lst [x1, x2, x3, x4, x5])]) (a := a5) (b := b5) (c := c5) hj S6 (by decide) (by decide) (nrS (by decide +kernel))
  refine ⟨x1, x2, x3, x4, x5, x6, a6, b6, c6, m1, m2, m3, m4, m5, m6, ?_⟩
  have nrx : T.unds h.length [x1, x2, x3, x4, x5, x6] = true := by
    simp [T.unds, nr_und _ _ (nrS (l := S1) (by decide +kernel) _ m1), nr_und _ _ (nrS (l := S2) (by decide +kernel) _ m2), nr_und _ _ (nrS (l := S3) (by decide +kernel) _ m3), nr_und _ _ (nrS (l := S4) (by decide +kernel) _ m4), nr_und _ _ (nrS (l := S5) (by decide +kernel) _ m5), nr_und _ _ (nrS (l := S6) (by decide +kernel) _ m6)]
  rw [call_eq (d := ⟨1, 7, b18⟩) rfl rfl]
  show cEnd h (evSs _ b18 [some (.ref j), none, none, none, none, none, none] h) = _
  have fin : evSs ⟨call Φ tf (n + 2), tf⟩ b18 [some (.ref j), none, none, none, none, none, none] (U h j (bag a b c) []) = .ok (.ret (.lst [x1, x2, x3, x4, x5, x6])) (U h j (bag a6 b6 c6) [none, none, some (.lst S5), some (.lst [x1, x2, x3]), none]) := by
    rw [b18]
    -- the values
    rw [ss_step (σ' := [some (.ref j), some (.lst S1), none, none, none, none, none]) (h' := U h j (bag a b c) [none, none]) (by
      refine s_asgv (t := .lst S1) ?_
      refine (ev_lst (ts := S1) (h1 := U h j (bag a b c) [none, none]) ?_)
      refine evEs_cons (t := .int (-1)) rfl (evEs_cons (t := .int 9) rfl (evEs_cons (t := .non) rfl (evEs_cons (t := .bl true) rfl (evEs_cons (t := .str [110, 111]) rfl (evEs_cons (t := .tup []) rfl (evEs_cons (t := .lst [.int 1]) rfl (evEs_cons (t := .dct [.str [97]] [.int 1]) (h1 := U h j (bag a b c) [none]) ?_ (evEs_cons (t := .int big) ev_big (evEs_cons (t := .tup [.str [116, 119, 111], .str [97, 98]]) rfl (evEs_cons (t := .dct [.tup [.int 0, .int 0]] [.tup [.str [], .str []]]) (h1 := U h j (bag a b c) [none, none]) ?_ evEs_nil))))))))))
      · rw [ev_dct1 (k := .str [97]) (v := .int 1) rfl (fun _ => rfl) (fun _ => rfl), U_app]; rfl
      · rw [ev_dct1 (k := .tup [.int 0, .int 0]) (v := .tup [.str [], .str []]) rfl (fun _ => rfl) (fun _ => rfl), U_app]; rfl)]
    rw [ss_step (σ' := [some (.ref j), some (.lst S1), none, none, none, some one_, some two_]) (h' := U h j (bag a b c) [none, none]) rfl]
    rw [ss_step (σ' := [some (.ref j), some (.lst S1), some (.lst S4), none, none, some one_, some two_]) (h' := U h j (bag a b c) [none, none]) rfl]
    rw [ss_step (σ' := [some (.ref j), some (.lst S1), some (.lst S4), some (.ref (h.length + 2)), none, some one_, some two_]) (h' := U h j (bag a b c) [none, none, some (.lst F2)]) (s_asg' ((ev_lst (ts := F2) rfl).trans (U_mk' 2 rfl rfl)) rfl)]
    rw [ss_step (σ' := [some (.ref j), some (.lst S1), some (.lst S4), some (.ref (h.length + 2)), none, some one_, some two_]) (h' := U h j (bag a b c) [none, none, some (.lst S5)]) (s_app (r := .ref (h.length + 2)) (y := f3) (l := F2) rfl (U_look 2 rfl) rfl (U_me 2 rfl (by decide)))]
    -- the picks
    rw [ss_step (σ' := [some (.ref j), some (.lst S1), some (.lst S4), some (.ref (h.length + 2)), some (.ref (h.length + 3)), some one_, some two_]) (h' := U h j (bag a2 b2 c2) [none, none, some (.lst S5), some (.lst [x1, x2])]) (s_asg' ((ev_lst (ts := [x1, x2]) (evEs_cons (Pl.ev_call (ts := [.ref j, .lst S1]) rfl p1) (evEs_cons (Pl.ev_call (ts := [.ref j, .lst S2]) rfl p2) evEs_nil))).trans (U_mk' 3 rfl rfl)) rfl)]
    rw [ss_step (σ' := [some (.ref j), some (.lst S1), some (.lst S4), some (.ref (h.length + 2)), some (.ref (h.length + 3)), some one_, some two_]) (h' := U h j (bag a3 b3 c3) [none, none, some (.lst S5), some (.lst [x1, x2, x3])]) (s_app (r := .ref (h.length + 3)) (y := x3) (l := [x1, x2]) rfl (U_look 3 rfl) (Pl.ev_call (ts := [.ref j, .lst S3]) rfl p3) (U_me (l := [x1, x2]) 3 rfl (by show 2 < lim; decide)))]
    rw [ss_step (σ' := [some (.ref j), some (.lst S1), some (.lst S4), some (.ref (h.length + 2)), some (.ref (h.length + 4)), some one_, some two_]) (h' := U h j (bag a5 b5 c5) [none, none, some (.lst S5), some (.lst [x1, x2, x3]), some (.lst [x1, x2, x3, x4, x5])]) (s_asg' ((ev_add (t := .ref (h.length + 3)) (u := .lst [x4, x5]) (l := [x1, x2, x3]) (k := [x4, x5]) rfl ((ev_lst (ts := [x4, x5]) (evEs_cons (Pl.ev_call (ts := [.ref j, .lst S4]) rfl p4) (evEs_cons (Pl.ev_call (ts := [.ref j, .ref (h.length + 2)]) rfl p5) evEs_nil))).trans rfl) (U_look 3 rfl) rfl (by show 5 ≤ lim; decide)).trans (U_mk' 4 rfl rfl)) rfl)]
    rw [ss_step (σ' := [some (.ref j), some (.lst S1), some (.lst S4), some (.ref (h.length + 2)), some (.ref (h.length + 4)), some one_, some two_]) (h' := U h j (bag a6 b6 c6) [none, none, some (.lst S5), some (.lst [x1, x2, x3]), some (.lst [x1, x2, x3, x4, x5, x6])]) (s_app (r := .ref (h.length + 4)) (y := x6) (l := [x1, x2, x3, x4, x5]) rfl (U_look 4 rfl) (Pl.ev_call (ts := [.ref j, .lst S6]) (evEs_cons rfl (evEs_cons (t := .lst S6) ((ev_lst (ts := S6) (evEs_cons rfl (evEs_cons rfl (evEs_cons rfl (evEs_cons rfl (evEs_cons ev_big evEs_nil)))))).trans rfl) evEs_nil)) p6) (U_me (l := [x1, x2, x3, x4, x5]) 4 rfl (by show 5 < lim; decide)))]
    rw [ss_step (σ' := [some (.ref j), some (.lst S1), some (.lst S4), some (.ref (h.length + 2)), some (.lst [x1, x2, x3, x4, x5, x6]), some one_, some two_]) (h' := U h j (bag a6 b6 c6) [none, none, some (.lst S5), some (.lst [x1, x2, x3]), none]) (s_asg' (by rw [evE, ev_v (t := .ref (h.length + 4)) rfl, R_ok]; exact U_frz 4 rfl) rfl)]
    rw [ss_ret (t := .lst [x1, x2, x3, x4, x5, x6]) (h' := U h j (bag a6 b6 c6) [none, none, some (.lst S5), some (.lst [x1, x2, x3]), none]) rfl]
  rw [← hU] at fin
  rw [fin]
  exact (U_leave (m := .lst [.int a6, .int b6, .int c6]) (by simpa [T.und] using nrx) rfl).trans (by simp [U, bag])
end K00P
end
/-! part K00e -/
section
set_option autoImplicit false
set_option linter.all false
set_option maxRecDepth 100000
set_option maxHeartbeats 0
/-! K00e: the plain law k00, part three: the exceptions that hold values. -/
namespace K00P
open Tw Pl K00
/-! ### how six values are shown -/
def okV (x : T) : Bool := T.dat 19 x && (toPD x).showable && decide ((toPD x).shown.length ≤ 1000)
theorem ok1 : S1.all okV = true := by decide +kernel
theorem ok2 : S2.all okV = true := by decide +kernel
theorem ok3 : S3.all okV = true := by decide +kernel
theorem ok4 : S4.all okV = true := by decide +kernel
theorem ok5 : S5.all okV = true := by decide +kernel
theorem ok6 : S6.all okV = true := by decide +kernel
theorem tf_le : ∀ (ts : List PySem.Str) (k : Nat) (acc : PySem.Str), (∀ t ∈ ts, t.length ≤ 1000) → (PySem.textFrom k acc ts).length ≤ acc.length + 1002 * ts.length
  | [], k, acc, _ => by show acc.length ≤ acc.length + 1002 * 0; omega
  | t :: ts, k, acc, h => by
    have ih := tf_le ts (k + 1) (acc ++ (if k > 0 then ", " else "" : String) ++ t) fun t ht => h t (List.mem_cons_of_mem _ ht)
    have h1 := h t List.mem_cons_self
    have e : (acc ++ (if k > 0 then ", " else "" : String) ++ t : PySem.Str).length = acc.length + (if k > 0 then 2 else 0) + t.length := by
      rw [PySem.strLen_append, PySem.strLen_append]
      split <;> rfl
    have h2 : (if k > 0 then 2 else 0) ≤ 2 := by split <;> omega
    rw [e] at ih
    show (PySem.textFrom (k + 1) (acc ++ (if k > 0 then ", " else "" : String) ++ t) ts).length ≤ _
    simp only [List.length_cons]
    omega
theorem all_of {l : List T} (h : ∀ x ∈ l, okV x = true) : T.dats 19 l = true ∧ PySem.PyData.showableAll (toPDs l) = true ∧ (∀ t ∈ PySem.PyData.shownAll (toPDs l), t.length ≤ 1000) ∧ (PySem.PyData.shownAll (toPDs l)).length = l.length := by
  induction l with
  | nil => exact ⟨rfl, by simp [toPDs, PySem.PyData.showableAll], by simp [toPDs, PySem.PyData.shownAll], by simp [toPDs, PySem.PyData.shownAll]⟩
  | cons x l ih =>
    obtain ⟨h1, h2, h3, h4⟩ := ih fun y hy => h y (List.mem_cons_of_mem _ hy)
    have hx := h x List.mem_cons_self
    unfold okV at hx
    simp only [Bool.and_eq_true, decide_eq_true_eq] at hx
    obtain ⟨⟨k1, k2⟩, k3⟩ := hx
    refine ⟨by simp [T.dats, k1, h1], by simp [toPDs, PySem.PyData.showableAll, k2, h2], ?_, by simp [toPDs, PySem.PyData.shownAll, h4]⟩
    intro t ht
    simp only [toPDs, PySem.PyData.shownAll, List.mem_cons] at ht
    rcases ht with rfl | ht
    · exact k3
    · exact h3 t ht
theorem rp_lst {l : List T} (h : ∀ x ∈ l, okV x = true) (hl : l.length ≤ 1000) : rpOk (.lst l) = true := by
  obtain ⟨h1, h2, h3, h4⟩ := all_of h
  have z := tf_le (PySem.PyData.shownAll (toPDs l)) 0 "[" h3
  have e : (toPD (.lst l)).shown = PySem.textFrom 0 "[" (PySem.PyData.shownAll (toPDs l)) ++ "]" := by simp only [toPD, PySem.PyData.shown]; rfl
  have e2 : (toPD (.lst l)).showable = true := by simp only [toPD, PySem.PyData.showable]; exact h2
  have e3 : (toPD (.lst l)).shown.length ≤ lim := by
    rw [e, PySem.strLen_append]
    rw [h4] at z
    have : ("[" : PySem.Str).length = 1 := rfl
    have : ("]" : PySem.Str).length = 1 := rfl
    unfold lim
    omega
  have e0 : T.dat 20 (.lst l) = true := by simp only [T.dat]; exact h1
  simp [rpOk, isCon, e0, e2, e3]
/-! ### exceptions with a value -/
theorem sp_mk (n c i : Nat) (f : Nat) (x : T) (h : Hm) (hf : Φ f = some ⟨1, 1, [.ret (.mki c i (.v 0))]⟩) (hx : nr x = true) : call Φ tf (n + 1) f [x] h = .ok (.ins c [i] [x]) h := by
  rw [call_eq hf rfl]
  exact cE0 h _ (by simp [T.und, T.unds, nr_und _ _ hx])
/-- the turns of a for, one by one -/
theorem for_cons {g : Tg} {body : Sl → Hm → R Fl} {x : T} {xs : List T} {σ σ1 σ2 : Sl} {h h1 : Hm} {r : R Fl} (e1 : g.put x σ = some σ1) (e2 : body σ1 h = .ok (.next σ2) h1) (e3 : forLoop g body xs σ2 h1 = r) : forLoop g body (x :: xs) σ h = r := by
  rw [forLoop, e1]
  simp only [e2, R_ok]
  exact e3
def rowsHere : T := .lst [.tup [.int 2, .int 5], .tup [.int 3, .int 5], .tup [.int 4, .int 6], .tup [.int 6], .tup [.int 7], .tup [.int 5]]
def B19 : List St := [.if_ (.or (.cmp .ne (.call 14 [.v 6]) (.call 16 [.tup [.bin false .add (.c (.int 8)) (.v 5)], .c (.int 14)])) (.cmp .ne (.call 15 [.v 6]) (.call 16 [.ix (.v 3) (.v 5), .c (.int 8)]))) [.ret (.c (.bl false))] []]
theorem turn19 (n k : Nat) (s0 s1 s2 s4 : Option T) (x : T) (h : Hm) (hk : k < 6) : evSs ⟨call Φ tf (n + 1), tf⟩ B19 [s0, s1, s2, some rowsHere, s4, some (.int k), some (.ins (9 + k) [k] [x])] h = .ok (.next [s0, s1, s2, some rowsHere, s4, some (.int k), some (.ins (9 + k) [k] [x])]) h := by
  have go : ∀ (y : Ex), evE ⟨call Φ tf (n + 1), tf⟩ (.call 16 [.tup [.bin false .add (.c (.int 8)) (.v 5)], .c (.int 14)]) [s0, s1, s2, some rowsHere, s4, some (.int k), some (.ins (9 + k) [k] [x])] h = .ok (flags (9 + k)) h := fun _ => by
    refine Pl.ev_call (ts := [.tup [.int (8 + k : Nat)], .int 14]) (by
      match k, hk with
      | 0, _ => rfl
      | 1, _ => rfl
      | 2, _ => rfl
      | 3, _ => rfl
      | 4, _ => rfl
      | 5, _ => rfl) ?_
    have := only14 n (8 + k) h (by omega)
    rw [show 8 + k + 1 = 9 + k by omega] at this
    exact this
  have go2 : evE ⟨call Φ tf (n + 1), tf⟩ (.call 16 [.ix (.v 3) (.v 5), .c (.int 8)]) [s0, s1, s2, some rowsHere, s4, some (.int k), some (.ins (9 + k) [k] [x])] h = .ok (basesT (9 + k)) h := by
    refine Pl.ev_call (ts := [.tup (hereT (9 + k)), .int 8]) (by
      match k, hk with
      | 0, _ => rfl
      | 1, _ => rfl
      | 2, _ => rfl
      | 3, _ => rfl
      | 4, _ => rfl
      | 5, _ => rfl) (only8x n (9 + k) h (by omega) (by omega))
  rw [B19, ss_step (turn (c := 9 + k) (Pl.ev_call (ts := [.ins (9 + k) [k] [x]]) rfl (sp14 n (9 + k) [k] [x] h (by omega))) (go (.c .non)) (Pl.ev_call (ts := [.ins (9 + k) [k] [x]]) rfl (sp15 n (9 + k) [k] [x] h (by omega))) go2)]
  rfl
theorem put19 (s0 s1 s2 s3 s4 s5 s6 : Option T) (a b : T) : Tg.put (.u [.v 5, .v 6]) (.tup [a, b]) [s0, s1, s2, s3, s4, s5, s6] = some [s0, s1, s2, s3, s4, some a, some b] := rfl
theorem sp19 (n j : Nat) (a b c : Int) (h : Hm) (e : h[j]? = some (bag a b c)) : ∃ a' b' c' : Int, call Φ tf (n + 4) 19 [.ref j] h = .ok (.bl true) (U h j (bag a' b' c') []) := by
  have hj : j < h.length := (List.getElem?_eq_some_iff.mp e).1
  obtain ⟨x1, x2, x3, x4, x5, x6, a', b', c', m1, m2, m3, m4, m5, m6, q⟩ := sp18 n j a b c h e
  refine ⟨a', b', c', ?_⟩
  have n1 := nrS (l := S1) (by decide +kernel) _ m1
  have n2 := nrS (l := S2) (by decide +kernel) _ m2
  have n3 := nrS (l := S3) (by decide +kernel) _ m3
  have n4 := nrS (l := S4) (by decide +kernel) _ m4
  have n5 := nrS (l := S5) (by decide +kernel) _ m5
  have n6 := nrS (l := S6) (by decide +kernel) _ m6
  have rp : rpOk (.lst [x1, x2, x3, x4, x5, x6]) = true := rp_lst (fun x hx => by
    simp only [List.mem_cons, List.not_mem_nil, or_false] at hx
    rcases hx with rfl | rfl | rfl | rfl | rfl | rfl
    · exact List.all_eq_true.mp ok1 _ m1
    · exact List.all_eq_true.mp ok2 _ m2
    · exact List.all_eq_true.mp ok3 _ m3
    · exact List.all_eq_true.mp ok4 _ m4
    · exact List.all_eq_true.mp ok5 _ m5
    · exact List.all_eq_true.mp ok6 _ m6) (by show 6 ≤ 1000; decide)
  rw [call_eq (d := ⟨1, 7, b19⟩) rfl rfl]
  show cEnd h (evSs _ b19 [some (.ref j), none, none, none, none, none, none] h) = _
  have fin : ∃ L, evSs ⟨call Φ tf (n + 3), tf⟩ b19 [some (.ref j), none, none, none, none, none, none] h = .ok (.ret (.bl true)) (U h j (bag a' b' c') L) := by
    refine ⟨[none], ?_⟩
    rw [b19]
    rw [ss_step (σ' := [some (.ref j), some (.lst [x1, x2, x3, x4, x5, x6]), none, none, none, none, none]) (h' := U h j (bag a' b' c') []) (s_asg' (Pl.ev_call (ts := [.ref j]) rfl q) rfl)]
    rw [ss_step (σ' := [some (.ref j), some (.lst [x1, x2, x3, x4, x5, x6]), some (.ref (h.length + 0)), none, none, none, none]) (h' := U h j (bag a' b' c') [some (.lst [.ins 9 [0] [x1], .ins 10 [1] [x2], .ins 11 [2] [x3], .ins 12 [3] [x4], .ins 13 [4] [x5]])])
      (s_asg' ((ev_lst (ts := [.ins 9 [0] [x1], .ins 10 [1] [x2], .ins 11 [2] [x3], .ins 12 [3] [x4], .ins 13 [4] [x5]]) (evEs_cons (Pl.ev_call (ts := [x1]) rfl (sp_mk (n + 2) 9 0 209 x1 _ rfl n1)) (evEs_cons (Pl.ev_call (ts := [x2]) rfl (sp_mk (n + 2) 10 1 210 x2 _ rfl n2)) (evEs_cons (Pl.ev_call (ts := [x3]) rfl (sp_mk (n + 2) 11 2 211 x3 _ rfl n3)) (evEs_cons (Pl.ev_call (ts := [x4]) rfl (sp_mk (n + 2) 12 3 212 x4 _ rfl n4)) (evEs_cons (Pl.ev_call (ts := [x5]) rfl (sp_mk (n + 2) 13 4 213 x5 _ rfl n5)) evEs_nil)))))).trans (U_mk' 0 rfl rfl)) rfl)]
    rw [ss_step (σ' := [some (.ref j), some (.lst [x1, x2, x3, x4, x5, x6]), some (.ref (h.length + 0)), none, none, none, none]) (h' := U h j (bag a' b' c') [some (.lst [.ins 9 [0] [x1], .ins 10 [1] [x2], .ins 11 [2] [x3], .ins 12 [3] [x4], .ins 13 [4] [x5], .ins 14 [5] [x6]])])
      (s_app (r := .ref (h.length + 0)) (y := .ins 14 [5] [x6]) (l := [.ins 9 [0] [x1], .ins 10 [1] [x2], .ins 11 [2] [x3], .ins 12 [3] [x4], .ins 13 [4] [x5]]) rfl (U_look 0 rfl) (Pl.ev_call (ts := [x6]) rfl (sp_mk (n + 2) 14 5 214 x6 _ rfl n6)) (U_me (l := [.ins 9 [0] [x1], .ins 10 [1] [x2], .ins 11 [2] [x3], .ins 12 [3] [x4], .ins 13 [4] [x5]]) 0 rfl (by show 5 < lim; decide)))]
    rw [ss_step (σ' := [some (.ref j), some (.lst [x1, x2, x3, x4, x5, x6]), some (.ref (h.length + 0)), some rowsHere, none, none, none]) (h' := U h j (bag a' b' c') [some (.lst [.ins 9 [0] [x1], .ins 10 [1] [x2], .ins 11 [2] [x3], .ins 12 [3] [x4], .ins 13 [4] [x5], .ins 14 [5] [x6]])]) rfl]
    rw [ss_step (σ' := [some (.ref j), some (.lst [x1, x2, x3, x4, x5, x6]), some (.lst [.ins 9 [0] [x1], .ins 10 [1] [x2], .ins 11 [2] [x3], .ins 12 [3] [x4], .ins 13 [4] [x5], .ins 14 [5] [x6]]), some rowsHere, none, none, none]) (h' := U h j (bag a' b' c') [none]) (s_asg' (by rw [evE, ev_v (t := .ref (h.length + 0)) rfl, R_ok]; exact U_frz 0 rfl) rfl)]
    generalize hM : (T.lst [.ins 9 [0] [x1], .ins 10 [1] [x2], .ins 11 [2] [x3], .ins 12 [3] [x4], .ins 13 [4] [x5], .ins 14 [5] [x6]]) = M
    rw [ss_step (σ' := [some (.ref j), some (.lst [x1, x2, x3, x4, x5, x6]), some M, some rowsHere, none, some (.int (5 : Nat)), some (.ins (9 + 5) [5] [x6])]) (h' := U h j (bag a' b' c') [none]) (by
      have ei : evI ⟨call Φ tf (n + 3), tf⟩ (.enum (.v 2)) [some (.ref j), some (.lst [x1, x2, x3, x4, x5, x6]), some M, some rowsHere, none, none, none] (U h j (bag a' b' c') [none]) = .ok [.tup [.int (0 : Nat), .ins (9 + 0) [0] [x1]], .tup [.int (1 : Nat), .ins (9 + 1) [1] [x2]], .tup [.int (2 : Nat), .ins (9 + 2) [2] [x3]], .tup [.int (3 : Nat), .ins (9 + 3) [3] [x4]], .tup [.int (4 : Nat), .ins (9 + 4) [4] [x5]], .tup [.int (5 : Nat), .ins (9 + 5) [5] [x6]]] (U h j (bag a' b' c') [none]) := by
        rw [evI, ev_v (t := M) rfl, ← hM]
        rfl
      rw [evS, ei]
      exact for_cons (put19 _ _ _ _ _ _ _ _ _) (turn19 (n + 2) 0 _ _ _ _ x1 _ (by decide)) (for_cons (put19 _ _ _ _ _ _ _ _ _) (turn19 (n + 2) 1 _ _ _ _ x2 _ (by decide)) (for_cons (put19 _ _ _ _ _ _ _ _ _) (turn19 (n + 2) 2 _ _ _ _ x3 _ (by decide)) (for_cons (put19 _ _ _ _ _ _ _ _ _) (turn19 (n + 2) 3 _ _ _ _ x4 _ (by decide)) (for_cons (put19 _ _ _ _ _ _ _ _ _) (turn19 (n + 2) 4 _ _ _ _ x5 _ (by decide)) (for_cons (put19 _ _ _ _ _ _ _ _ _) (turn19 (n + 2) 5 _ _ _ _ x6 _ (by decide)) rfl))))))]
    rw [ss_step (σ' := [some (.ref j), some (.lst [x1, x2, x3, x4, x5, x6]), some M, some rowsHere, some (.lst [x1, x2, x3, x4, x5, x6]), some (.int (5 : Nat)), some (.ins (9 + 5) [5] [x6])]) (h' := U h j (bag a' b' c') [none]) (by rw [← hM]; rfl)]
    rw [ss_ret (t := .bl true) (h' := U h j (bag a' b' c') [none]) (by
      have er : ∀ (i : Nat), [some (T.ref j), some (.lst [x1, x2, x3, x4, x5, x6]), some M, some rowsHere, some (.lst [x1, x2, x3, x4, x5, x6]), some (.int (5 : Nat)), some (.ins (9 + 5) [5] [x6])][i]? = some (some (.lst [x1, x2, x3, x4, x5, x6])) → evE ⟨call Φ tf (n + 3), tf⟩ (.rpr (.v i)) [some (.ref j), some (.lst [x1, x2, x3, x4, x5, x6]), some M, some rowsHere, some (.lst [x1, x2, x3, x4, x5, x6]), some (.int (5 : Nat)), some (.ins (9 + 5) [5] [x6])] (U h j (bag a' b' c') [none]) = .ok (.str (rpT (.lst [x1, x2, x3, x4, x5, x6]))) (U h j (bag a' b' c') [none]) := fun i ei => by
        rw [evE, ev_v ei, R_ok, lk_lst, rp, if_pos rfl]
      rw [evS, evE, er 4 rfl, R_ok, er 1 rfl, R_ok, lk_str]
      simp only [cmO, eqO, T.pl, T.eqv, beq_self_eq_true, Bool.and_self, if_pos, Option.map_some, ofO_s, R_ok])]
  obtain ⟨L, fin⟩ := fin
  rw [fin]
  exact (U_leave (m := .lst [.int a', .int b', .int c']) rfl rfl).trans (by simp [U, bag])
end K00P
end
/-! part K00f -/
section
set_option autoImplicit false
set_option linter.all false
set_option maxRecDepth 100000
set_option maxHeartbeats 0
/-! K00f: the plain law k00, part four: the refusals, the law. -/
namespace K00P
open Tw Pl K00
theorem sp4 (n : Nat) (v : T) (hv : nr v = true) (h : Hm) : call Φ tf (n + 2) 4 [v] h = if isW v then .ok .non h else .exc 1 [] h := by
  rw [call_eq (d := ⟨1, 1, b4⟩) rfl rfl]
  have e := sp_word (Φ := Φ) (tf := tf) n (f := 0) rfl v hv
  cases q : isW v with
  | true =>
    simp only [b4, evSs, evS, evB, evE, evEs, evI, List.map_cons, List.map_nil, List.replicate, List.cons_append, List.nil_append, List.getElem?_cons_zero, List.getElem?_cons_succ, List.set_cons_zero, List.set_cons_succ, R_ok, R_exc, lk_str, lk_int, lk_bl, lk_non, lk_tup, lk_lst, tr_bl, Option.map_some, ofO_s, mkF, if_pos, if_neg Bool.false_ne_true, Bool.not_true, Bool.not_false, Tg.put, Tg.puts, Option.bind_some, e, q, lk_bl, tr_bl]
    exact cN0 h _
  | false =>
    simp only [b4, evSs, evS, evB, evE, evEs, evI, List.map_cons, List.map_nil, List.replicate, List.cons_append, List.nil_append, List.getElem?_cons_zero, List.getElem?_cons_succ, List.set_cons_zero, List.set_cons_succ, R_ok, R_exc, lk_str, lk_int, lk_bl, lk_non, lk_tup, lk_lst, tr_bl, Option.map_some, ofO_s, mkF, if_pos, if_neg Bool.false_ne_true, Bool.not_true, Bool.not_false, Tg.put, Tg.puts, Option.bind_some, e, q, lk_bl, tr_bl]
    exact cX0 h _
theorem sp7a (n : Nat) (v w : T) (hv : nr v = true) (h : Hm) (e : isW v = false) : call Φ tf (n + 3) 7 [v, w] h = .exc 1 [] h := by
  rw [call_eq (d := ⟨2, 2, b7⟩) rfl rfl]
  have e1 := sp4 n v hv
  simp only [e, if_neg Bool.false_ne_true] at e1
  simp only [b7, evSs, evS, evB, evE, evEs, evI, List.map_cons, List.map_nil, List.replicate, List.cons_append, List.nil_append, List.getElem?_cons_zero, List.getElem?_cons_succ, List.set_cons_zero, List.set_cons_succ, R_ok, R_exc, lk_str, lk_int, lk_bl, lk_non, lk_tup, lk_lst, tr_bl, Option.map_some, ofO_s, mkF, if_pos, if_neg Bool.false_ne_true, Bool.not_true, Bool.not_false, Tg.put, Tg.puts, Option.bind_some, e1]
  exact cX0 h _
theorem sp7b (n : Nat) (v w : T) (hv : nr v = true) (hw : nr w = true) (h : Hm) (e : isW v = true) (f : isW w = false) : call Φ tf (n + 3) 7 [v, w] h = .exc 1 [] h := by
  rw [call_eq (d := ⟨2, 2, b7⟩) rfl rfl]
  have e1 := sp4 n v hv
  have e2 := sp4 n w hw
  simp only [e, if_pos] at e1
  simp only [f, if_neg Bool.false_ne_true] at e2
  simp only [b7, evSs, evS, evB, evE, evEs, evI, List.map_cons, List.map_nil, List.replicate, List.cons_append, List.nil_append, List.getElem?_cons_zero, List.getElem?_cons_succ, List.set_cons_zero, List.set_cons_succ, R_ok, R_exc, lk_str, lk_int, lk_bl, lk_non, lk_tup, lk_lst, tr_bl, Option.map_some, ofO_s, mkF, if_pos, if_neg Bool.false_ne_true, Bool.not_true, Bool.not_false, Tg.put, Tg.puts, Option.bind_some, e1, e2]
  exact cX0 h _
theorem sp2 (n : Nat) (v : T) (hv : nr v = true) (h : Hm) (e : isW v = false) : call Φ tf (n + 2) 2 [v] h = .ok (.bl false) h := by
  rw [call_eq (d := ⟨1, 1, b2⟩) rfl rfl]
  have e1 := sp_word (Φ := Φ) (tf := tf) n (f := 0) rfl v hv
  simp only [b2, evSs, evS, evB, evE, evEs, evI, List.map_cons, List.map_nil, List.replicate, List.cons_append, List.nil_append, List.getElem?_cons_zero, List.getElem?_cons_succ, List.set_cons_zero, List.set_cons_succ, R_ok, R_exc, lk_str, lk_int, lk_bl, lk_non, lk_tup, lk_lst, tr_bl, Option.map_some, ofO_s, mkF, if_pos, if_neg Bool.false_ne_true, Bool.not_true, Bool.not_false, Tg.put, Tg.puts, Option.bind_some, e1, e, lk_bl, tr_bl]
  exact cE0 h _ rfl
theorem mkn_bad (n : Nat) (v : T) (hv : nr v = true) (σ : Sl) (h : Hm) (e : isW v = false) (hs : σ[3]? = some (some v)) : evE ⟨call Φ tf (n + 3), tf⟩ (.mkn 100 28 [.v 3, .dct0 false, .tup [], .dct0 false]) σ h = .exc 2 [] (h ++ [some (.ins 100 [] [])]) := by
  have c : call Φ tf (n + 3) 28 [.ref h.length, v, .dct [] [], .tup [], .dct [] []] (h ++ [some (.ins 100 [] [])]) = .exc 2 [] (h ++ [some (.ins 100 [] [])]) := by
    have e1 := sp2 n v hv (h := h ++ [some (.ins 100 [] [])]) (e := e)
    have e0 : ∃ d, Φ 28 = some d ∧ d.np = 5 ∧ d.body = b28 ∧ d.nl = d.nl := ⟨_, rfl, rfl, rfl, rfl⟩
    obtain ⟨d, hd, h5, hb, _⟩ := e0
    rw [call_eq hd (by rw [h5]; rfl), hb, b28]
    have : evSs ⟨call Φ tf (n + 2), tf⟩ [.if_ (.or (.not (.call 2 [.v 1])) (.or (.not .bad) (.or (.not .bad) (.not .bad)))) [.raise 2 []] [], .asg (.v 5) .bad, .bad] ([T.ref h.length, v, .dct [] [], .tup [], .dct [] []].map some ++ List.replicate (d.nl - d.np) none) (h ++ [some (.ins 100 [] [])]) = .exc 2 [] (h ++ [some (.ins 100 [] [])]) := by
      simp only [evSs, evS, evB, evE, evEs, evI, List.map_cons, List.map_nil, List.replicate, List.cons_append, List.nil_append, List.getElem?_cons_zero, List.getElem?_cons_succ, List.set_cons_zero, List.set_cons_succ, R_ok, R_exc, lk_str, lk_int, lk_bl, lk_non, lk_tup, lk_lst, tr_bl, Option.map_some, ofO_s, mkF, if_pos, if_neg Bool.false_ne_true, Bool.not_true, Bool.not_false, Tg.put, Tg.puts, Option.bind_some, e1, lk_bl, tr_bl]
    rw [this]
    exact cX0 _ _
  simp only [evE, evEs, hs, R_ok, mkF]
  rw [c]
  rfl
/-- what is no word, no delay -/
def S7 : List T := [.non, .tup [], .dct [] [], .lst [], .int 7, .bl true, .str [65], .str [97, 32, 98], .str [49], .tup [.str [97, 98], .str [97, 99]], .dct [.str [97]] [.int 1], .lst [.str [], .str []]]
theorem sp3 (n : Nat) (v : T) (hv : v ∈ S7) (h : Hm) : call Φ tf (n + 2) 3 [v] h = .ok (.bl false) h := by
  rw [call_eq (d := ⟨1, 2, b3⟩) rfl rfl]
  simp only [S7, List.mem_cons, List.not_mem_nil, or_false] at hv
  rcases hv with rfl | rfl | rfl | rfl | rfl | rfl | rfl | rfl | rfl | rfl | rfl | rfl
  all_goals first
    | exact cE0 h _ rfl
    | skip
  have e1 := fun (x : T) (hx : nr x = true) (h : Hm) => sp_word (Φ := Φ) (tf := tf) n (f := 0) rfl x hx h
  have el : evE ⟨call Φ tf (n + 1), tf⟩ (.lc false (.v 1) (.e (.v 0)) [] (.call 0 [.v 1])) [some (.tup [.str [97, 98], .str [97, 99]]), none] h = .ok (.lst [.bl true, .bl true]) (h ++ [none]) := by
    have := ev_lcp (Γ := ⟨call Φ tf (n + 1), tf⟩) (g := .v 1) (it := .e (.v 0)) (cs := []) (e := .call 0 [.v 1]) (σ := [some (.tup [.str [97, 98], .str [97, 99]]), none]) (h := h) (xs := [.str [97, 98], .str [97, 99]]) (fun _ => some (.bl true)) rfl (fun x hx h' => by
      simp only [List.mem_cons, List.not_mem_nil, or_false] at hx
      rcases hx with rfl | rfl
      · simp only [lcGo, Tg.put, evBs, evE, evEs, List.set_cons_succ, List.set_cons_zero, List.getElem?_cons_succ, List.getElem?_cons_zero, R_ok, if_pos, e1 (.str [97, 98]) (by decide)]
        rfl
      · simp only [lcGo, Tg.put, evBs, evE, evEs, List.set_cons_succ, List.set_cons_zero, List.getElem?_cons_succ, List.getElem?_cons_zero, R_ok, if_pos, e1 (.str [97, 99]) (by decide)]
        rfl) (by decide)
    exact this
  show cEnd h (evSs _ b3 [some (.tup [.str [97, 98], .str [97, 99]]), none] h) = _
  rw [b3, ss_step (σ' := [some (.tup [.str [97, 98], .str [97, 99]]), none]) (h' := h ++ [none]) (by
    have t1 : evB ⟨call Φ tf (n + 1), tf⟩ (.not (.bi false .all [.lc false (.v 1) (.e (.v 0)) [] (.call 0 [.v 1])])) [some (.tup [.str [97, 98], .str [97, 99]]), none] h = .ok false (h ++ [none]) := by
      rw [evB, evB, evEs, el, R_ok, evEs_nil]
      rfl
    have t2 : evB ⟨call Φ tf (n + 1), tf⟩ (.not (.isi (.v 0) .tuple)) [some (.tup [.str [97, 98], .str [97, 99]]), none] h = .ok false h := rfl
    have t3 : evB ⟨call Φ tf (n + 1), tf⟩ (.cmp .ne (.bi false .len [.v 0]) (.c (.int 2))) [some (.tup [.str [97, 98], .str [97, 99]]), none] h = .ok false h := rfl
    rw [evS, evB, t2, R_ok, if_neg Bool.false_ne_true, evB, t3, R_ok, if_neg Bool.false_ne_true, t1, R_ok, if_neg Bool.false_ne_true]
    rfl)]
  exact cE h _ [none] rfl
theorem sp9 (n : Nat) (v a b : T) (hv : v ∈ S7) (h : Hm) : call Φ tf (n + 4) 9 [v, a, b] h = .exc 5 [] h := by
  have e8 : call Φ tf (n + 3) 8 [v] h = .exc 5 [] h := by
    rw [call_eq (d := ⟨1, 1, b8⟩) rfl rfl]
    have e := sp3 n v hv h
    simp only [b8, evSs, evS, evB, evE, evEs, evI, List.map_cons, List.map_nil, List.replicate, List.cons_append, List.nil_append, List.getElem?_cons_zero, List.getElem?_cons_succ, List.set_cons_zero, List.set_cons_succ, R_ok, R_exc, lk_str, lk_int, lk_bl, lk_non, lk_tup, lk_lst, tr_bl, Option.map_some, ofO_s, mkF, if_pos, if_neg Bool.false_ne_true, Bool.not_true, Bool.not_false, Tg.put, Tg.puts, Option.bind_some, e, lk_bl, tr_bl]
    exact cX0 h _
  rw [call_eq (d := ⟨3, 3, b9⟩) rfl rfl]
  simp only [b9, evSs, evS, evB, evE, evEs, evI, List.map_cons, List.map_nil, List.replicate, List.cons_append, List.nil_append, List.getElem?_cons_zero, List.getElem?_cons_succ, List.set_cons_zero, List.set_cons_succ, R_ok, R_exc, lk_str, lk_int, lk_bl, lk_non, lk_tup, lk_lst, tr_bl, Option.map_some, ofO_s, mkF, if_pos, if_neg Bool.false_ne_true, Bool.not_true, Bool.not_false, Tg.put, Tg.puts, Option.bind_some, e8]
  exact cX0 h _
theorem nr7 : S7.all nr = true := by decide +kernel
theorem w7 : S7.all (fun v => !isW v) = true := by decide +kernel
end K00P
end
/-! part K00g -/
section
set_option autoImplicit false
set_option linter.all false
set_option maxRecDepth 100000
set_option maxHeartbeats 0
/-! K00g: the plain law k00, part five: one turn, the law. -/
namespace K00P
open Tw Pl K00
def Ms : List T := [.str [], .str [97, 32, 119, 111, 114, 100, 32, 105, 115, 32, 101, 120, 112, 101, 99, 116, 101, 100], .str [110, 111], .str [97, 98], .str [32], .str [49]]
theorem told_exc {Γ : Env} {x : Ex} {σ : Sl} {h h' : Hm} {c : Nat} (hΓ : Γ.tf = tf) (e : evE Γ x σ h = .exc c [] h') (hc : c < 9) : evE Γ (.told 0 x) σ h = .ok (flags c) h' := by
  rw [evE, e, hΓ]
  show (if c < 9 then R.ok (flags c) h' else .bad) = _
  rw [if_pos hc]
theorem eb_notc {Γ : Env} {f : Nat} {es : List Ex} {σ : Sl} {h h1 h2 : Hm} {ts : List T} (e : evEs Γ es σ h = .ok ts h1) (q : Γ.cf f ts h1 = .ok (.bl true) h2) : evB Γ (.not (.call f es)) σ h = .ok false h2 := by
  rw [evB, evB, e, R_ok, q]
  rfl
/-- the turn's body -/
def B21 : List St := match b21 with
  | .for_ _ _ b :: _ => b
  | _ => []
theorem turn21 (n : Nat) (ns : List Int) (k : Nat) (s2 s3 s4 s5 : Option T) (h : Hm) : ∃ (t2 t3 t4 t5 : Option T) (h' : Hm), evSs ⟨call Φ tf (n + 5), tf⟩ B21 [some (.lst (ns.map .int)), some (.int k), s2, s3, s4, s5] h = .ok (.next [some (.lst (ns.map .int)), some (.int k), t2, t3, t4, t5]) h' := by
  have hf : Φ 11 = some ⟨2, 5, bT⟩ := rfl
  have hg : Φ 12 = some ⟨2, 2, bP 11⟩ := rfl
  obtain ⟨a0, b0, c0, q0⟩ := sp_start (Φ := Φ) (tf := tf) (n + 4) (f := 10) rfl ns k h
  obtain ⟨h1, hh1⟩ : ∃ h1, h1 = h ++ [bag a0 b0 c0] := ⟨_, rfl⟩
  have e0 : h1[h.length]? = some (bag a0 b0 c0) := by rw [hh1]; simp
  have hj : h.length < h1.length := (List.getElem?_eq_some_iff.mp e0).1
  obtain ⟨m, a1, b1, c1, hm, q1⟩ := U_pick (Φ := Φ) (tf := tf) (n + 3) hf hg (L := []) (a := a0) (b := b0) (c := c0) hj Ms (by decide) (by decide) (nrS (by decide +kernel))
  rw [U_0 e0] at q1
  obtain ⟨v, a2, b2, c2, hv, q2⟩ := U_pick (Φ := Φ) (tf := tf) (n + 3) hf hg (L := [none]) (a := a1) (b := b1) (c := c1) hj S7 (by decide) (by decide) (nrS nr7)
  obtain ⟨a3, b3, c3, q3⟩ := sp19 (n + 1) h.length a2 b2 c2 (U h1 h.length (bag a2 b2 c2) [none]) (U_at hj)
  have nv := nrS nr7 v hv
  have wv : isW v = false := by simpa using List.all_eq_true.mp w7 v hv
  -- the heap behind the bag's use
  obtain ⟨H, hH⟩ : ∃ H, H = U (U h1 h.length (bag a2 b2 c2) [none]) h.length (bag a3 b3 c3) [] := ⟨_, rfl⟩
  have eH : H[h.length]? = some (bag a3 b3 c3) := by
    rw [hH]
    exact U_at (by rw [U_len]; omega)
  have hU : H = U H h.length (bag a3 b3 c3) [] := (U_0 eH).symm
  rw [← hH] at q3
  refine ⟨some (.ref h.length), some v, some (.ref (H.length + 0)), some (.lst [flags 1, flags 1, flags 2, flags 5]), U H h.length (bag a3 b3 c3) [some (.lst [flags 1, flags 1, flags 2, flags 5]), some (.ins 100 [] [])], ?_⟩
  rw [B21, b21]
  rw [ss_step (σ' := [some (.lst (ns.map .int)), some (.int k), some (.ref h.length), s3, s4, s5]) (h' := h1) (s_asg' (Pl.ev_call (ts := [.lst (ns.map .int), .int k]) rfl (by rw [hh1]; exact q0)) rfl)]
  rw [ss_step (σ' := [some (.lst (ns.map .int)), some (.int k), some (.ref h.length), s3, s4, s5]) (h' := U h1 h.length (bag a1 b1 c1) []) (by
    have e1 : evE ⟨call Φ tf (n + 5), tf⟩ (.call 12 [.v 2, .lst false [.c (.str []), .c (.str [97, 32, 119, 111, 114, 100, 32, 105, 115, 32, 101, 120, 112, 101, 99, 116, 101, 100]), .c (.str [110, 111]), .c (.str [97, 98]), .c (.str [32]), .c (.str [49])]]) [some (.lst (ns.map .int)), some (.int k), some (.ref h.length), s3, s4, s5] h1 = .ok m (U h1 h.length (bag a1 b1 c1) []) := Pl.ev_call (ts := [.ref h.length, .lst Ms]) rfl q1
    have e2 : evB ⟨call Φ tf (n + 5), tf⟩ (.not (.call 17 [.call 12 [.v 2, .lst false [.c (.str []), .c (.str [97, 32, 119, 111, 114, 100, 32, 105, 115, 32, 101, 120, 112, 101, 99, 116, 101, 100]), .c (.str [110, 111]), .c (.str [97, 98]), .c (.str [32]), .c (.str [49])]]])) [some (.lst (ns.map .int)), some (.int k), some (.ref h.length), s3, s4, s5] h1 = .ok false (U h1 h.length (bag a1 b1 c1) []) := eb_notc (evEs_cons e1 evEs_nil) (sp17 (n + 3) m _)
    rw [evS, e2, R_ok, if_neg Bool.false_ne_true, evSs])]
  rw [ss_step (σ' := [some (.lst (ns.map .int)), some (.int k), some (.ref h.length), some v, s4, s5]) (h' := U h1 h.length (bag a2 b2 c2) [none]) (by
    refine s_asg' (Pl.ev_call (ts := [.ref h.length, .lst S7]) (h1 := U h1 h.length (bag a1 b1 c1) [none]) (evEs_cons rfl (evEs_cons (t := .lst S7) (h1 := U h1 h.length (bag a1 b1 c1) [none]) ((ev_lst (ts := S7) (h1 := U h1 h.length (bag a1 b1 c1) [none]) ?_).trans rfl) evEs_nil)) q2) rfl
    refine evEs_cons (t := .non) rfl (evEs_cons (t := .tup []) rfl (evEs_cons (t := .dct [] []) rfl (evEs_cons (t := .lst []) rfl (evEs_cons (t := .int 7) rfl (evEs_cons (t := .bl true) rfl (evEs_cons (t := .str [65]) rfl (evEs_cons (t := .str [97, 32, 98]) rfl (evEs_cons (t := .str [49]) rfl (evEs_cons (t := .tup [.str [97, 98], .str [97, 99]]) rfl (evEs_cons (t := .dct [.str [97]] [.int 1]) (h1 := U h1 h.length (bag a1 b1 c1) [none]) ?_ (evEs_cons (t := .lst [.str [], .str []]) rfl evEs_nil)))))))))))
    rw [ev_dct1 (k := .str [97]) (v := .int 1) rfl (fun _ => rfl) (fun _ => rfl), U_app]; rfl)]
  rw [ss_step (σ' := [some (.lst (ns.map .int)), some (.int k), some (.ref h.length), some v, s4, s5]) (h' := U H h.length (bag a3 b3 c3) []) (by
    have e2 : evB ⟨call Φ tf (n + 5), tf⟩ (.not (.call 19 [.v 2])) [some (.lst (ns.map .int)), some (.int k), some (.ref h.length), some v, s4, s5] (U h1 h.length (bag a2 b2 c2) [none]) = .ok false (U H h.length (bag a3 b3 c3) []) := by
      rw [← hU]
      exact eb_notc (evEs_cons (t := .ref h.length) rfl evEs_nil) q3
    rw [evS, e2, R_ok, if_neg Bool.false_ne_true, evSs])]
  clear hU eH q3 hH
  generalize bag a3 b3 c3 = bb
  rw [ss_step (σ' := [some (.lst (ns.map .int)), some (.int k), some (.ref h.length), some v, some (.ref (H.length + 0)), s5]) (h' := U H h.length bb [some (.lst [flags 1])]) (s_asg' ((ev_lst (ts := [flags 1]) (evEs_cons (told_exc rfl (Pl.ev_call (ts := [v, .str [97]]) rfl (sp7a (n + 2) v _ nv _ wv)) (by decide)) evEs_nil)).trans (U_mk' 0 rfl rfl)) rfl)]
  rw [ss_step (σ' := [some (.lst (ns.map .int)), some (.int k), some (.ref h.length), some v, some (.ref (H.length + 0)), s5]) (h' := U H h.length bb [some (.lst [flags 1, flags 1])]) (s_app (r := .ref (H.length + 0)) (y := flags 1) (l := [flags 1]) rfl (U_look 0 rfl) (told_exc rfl (Pl.ev_call (ts := [.str [97], v]) rfl (sp7b (n + 2) (.str [97]) v (by decide) nv _ (by decide) wv)) (by decide)) (U_me (l := [flags 1]) 0 rfl (by show 1 < lim; decide)))]
  rw [ss_step (σ' := [some (.lst (ns.map .int)), some (.int k), some (.ref h.length), some v, some (.ref (H.length + 0)), s5]) (h' := U H h.length bb [some (.lst [flags 1, flags 1, flags 2]), some (.ins 100 [] [])]) (s_app (r := .ref (H.length + 0)) (y := flags 2) (l := [flags 1, flags 1]) rfl (U_look 0 rfl) (told_exc (h' := U H h.length bb [some (.lst [flags 1, flags 1]), some (.ins 100 [] [])]) rfl ((mkn_bad (n + 2) v nv _ _ wv rfl).trans (by rw [U_app]; rfl)) (by decide)) (U_me (l := [flags 1, flags 1]) 0 rfl (by show 2 < lim; decide)))]
  rw [ss_step (σ' := [some (.lst (ns.map .int)), some (.int k), some (.ref h.length), some v, some (.ref (H.length + 0)), s5]) (h' := U H h.length bb [some (.lst [flags 1, flags 1, flags 2, flags 5]), some (.ins 100 [] [])]) (s_app (r := .ref (H.length + 0)) (y := flags 5) (l := [flags 1, flags 1, flags 2]) rfl (U_look 0 rfl) (told_exc rfl (Pl.ev_call (ts := [v, .str [], .str []]) rfl (sp9 (n + 1) v _ _ hv _)) (by decide)) (U_me (l := [flags 1, flags 1, flags 2]) 0 rfl (by show 3 < lim; decide)))]
  generalize hL : U H h.length bb [some (.lst [flags 1, flags 1, flags 2, flags 5]), some (.ins 100 [] [])] = G
  have lkG : look G (.ref (H.length + 0)) = .lst [flags 1, flags 1, flags 2, flags 5] := by rw [← hL]; exact U_look 0 rfl
  rw [ss_step (σ' := [some (.lst (ns.map .int)), some (.int k), some (.ref h.length), some v, some (.ref (H.length + 0)), some (.lst [flags 1, flags 1, flags 2, flags 5])]) (h' := G) (by
    refine s_asg' ((ev_add (t := .lst [flags 1, flags 1]) (u := .lst [flags 2, flags 5]) (l := [flags 1, flags 1]) (k := [flags 2, flags 5]) (h1 := G) (h2 := G) ?_ ?_ rfl rfl (by show 4 ≤ lim; decide)).trans (mkF _ _)) rfl
    · rw [evE, (ev_lst (ts := [flags 1]) (evEs_cons (Pl.ev_call (ts := [.tup [.int (0 : Nat)], .int 14]) rfl (only14 (n + 4) 0 G (by decide))) evEs_nil)), mkF, R_ok, evE, R_ok]
      rfl
    · exact (ev_lst (ts := [flags 2, flags 5]) (evEs_cons (Pl.ev_call (ts := [.tup [.int (1 : Nat)], .int 14]) rfl (only14 (n + 4) 1 G (by decide))) (evEs_cons (Pl.ev_call (ts := [.tup [.int (4 : Nat)], .int 14]) rfl (only14 (n + 4) 4 G (by decide))) evEs_nil))).trans (mkF _ _))]
  rw [ss_step (σ' := [some (.lst (ns.map .int)), some (.int k), some (.ref h.length), some v, some (.ref (H.length + 0)), some (.lst [flags 1, flags 1, flags 2, flags 5])]) (h' := G) (by
    have e2 : evB ⟨call Φ tf (n + 5), tf⟩ (.cmp .ne (.v 4) (.v 5)) [some (.lst (ns.map .int)), some (.int k), some (.ref h.length), some v, some (.ref (H.length + 0)), some (.lst [flags 1, flags 1, flags 2, flags 5])] G = .ok false G := by
      rw [evB, ev_v (t := .ref (H.length + 0)) rfl, R_ok, ev_v (t := .lst [flags 1, flags 1, flags 2, flags 5]) rfl, R_ok, lkG, lk_lst, ne_self rfl]
      rfl
    rw [evS, e2, R_ok, if_neg Bool.false_ne_true, evSs])]
  rw [evSs]
theorem steps_nat : ∀ (m i : Nat) (x : T), x ∈ steps (i : Int) 1 m → ∃ k : Nat, x = .int k
  | 0, _, _, h => by cases h
  | m + 1, i, x, h => by
    rcases List.mem_cons.mp h with h | h
    · exact ⟨i, h⟩
    · exact steps_nat m (i + 1) x (by rw [Int.natCast_add]; exact h)
theorem loop21 (n : Nat) (ns : List Int) : ∀ (xs : List T) (s1 s2 s3 s4 s5 : Option T) (h : Hm), (∀ x ∈ xs, ∃ k : Nat, x = .int k) → ∃ (t1 t2 t3 t4 t5 : Option T) (h' : Hm), forLoop (.v 1) (fun σ h => evSs ⟨call Φ tf (n + 5), tf⟩ B21 σ h) xs [some (.lst (ns.map .int)), s1, s2, s3, s4, s5] h = .ok (.next [some (.lst (ns.map .int)), t1, t2, t3, t4, t5]) h'
  | [], s1, s2, s3, s4, s5, h, _ => ⟨s1, s2, s3, s4, s5, h, rfl⟩
  | x :: xs, s1, s2, s3, s4, s5, h, hx => by
    obtain ⟨k, rfl⟩ := hx x List.mem_cons_self
    obtain ⟨t2, t3, t4, t5, h1, e⟩ := turn21 n ns k s2 s3 s4 s5 h
    obtain ⟨u1, u2, u3, u4, u5, h2, e2⟩ := loop21 n ns xs (some (.int k)) t2 t3 t4 t5 h1 fun y hy => hx y (List.mem_cons_of_mem _ hy)
    exact ⟨u1, u2, u3, u4, u5, h2, for_cons rfl e e2⟩
theorem sp5e (n : Nat) (h : Hm) : call Φ tf (n + 1) 5 [.str [], .str []] h = .ok (.int 0) h := by
  rw [call_eq (d := ⟨2, 5, b5⟩) rfl rfl]
  exact cE0 h _ rfl
theorem sp6e (n : Nat) (h : Hm) : call Φ tf (n + 2) 6 [.str [], .str []] h = .ok (.tup [.str [], .str []]) h := by
  rw [call_eq (d := ⟨2, 3, b6⟩) rfl rfl]
  show cEnd h (evSs _ b6 [some (.str []), some (.str []), none] h) = _
  rw [b6, ss_step (σ' := [some (.str []), some (.str []), some (.int 0)]) (h' := h) (s_asg' (Pl.ev_call (ts := [.str [], .str []]) rfl (sp5e n h)) rfl)]
  exact cE0 h _ rfl
theorem sp7e (n : Nat) (h : Hm) : call Φ tf (n + 3) 7 [.str [], .str []] h = .ok (.tup [.str [], .str []]) h := by
  rw [call_eq (d := ⟨2, 2, b7⟩) rfl rfl]
  have e1 := sp4 n (.str []) (by decide) h
  simp only [show isW (.str []) = true from rfl, if_pos] at e1
  have e2 := sp6e n h
  simp only [b7, evSs, evS, evB, evE, evEs, evI, List.map_cons, List.map_nil, List.replicate, List.cons_append, List.nil_append, List.getElem?_cons_zero, List.getElem?_cons_succ, List.set_cons_zero, List.set_cons_succ, R_ok, R_exc, lk_str, lk_int, lk_bl, lk_non, lk_tup, lk_lst, tr_bl, Option.map_some, ofO_s, mkF, if_pos, if_neg Bool.false_ne_true, Bool.not_true, Bool.not_false, Tg.put, Tg.puts, Option.bind_some, e1, e2]
  exact cE0 h _ rfl
theorem plainN (ns : List Int) (hn : ns.length ≤ 63) : ∃ h, Tw.call Φ tf 20 21 [.lst (ns.map .int)] [] = .ok (.bl true) h := by
  rw [call_eq (n := 19) (d := ⟨1, 6, b21⟩) rfl rfl]
  obtain ⟨m, hm, hr⟩ : ∃ m : Nat, m < 100 ∧ evI ⟨call Φ tf 19, tf⟩ (.range [.bi false .max [.c (.int 1), .bi false .min [.c (.int 8), .bi false .len [.v 0]]]]) [some (.lst (ns.map .int)), none, none, none, none, none] [] = .ok (steps 0 1 m) [] := by
    have e1 : biO .len [.lst (ns.map .int)] = some (.int ns.length) := by simp [biO, lenO, lenI]
    have e2 : biO .min [.int 8, .int ns.length] = some (.int (if (ns.length : Int) < 8 then ns.length else 8)) := rfl
    obtain ⟨z, hz⟩ : ∃ z : Int, z = if (ns.length : Int) < 8 then (ns.length : Int) else 8 := ⟨_, rfl⟩
    have hz8 : z ≤ 8 := by rw [hz]; split <;> omega
    have e3 : biO .max [.int 1, .int z] = some (.int (if z > 1 then z else 1)) := rfl
    obtain ⟨y, hy⟩ : ∃ y : Int, y = if z > 1 then z else 1 := ⟨_, rfl⟩
    have hy8 : 0 ≤ y ∧ y ≤ 8 := by rw [hy]; split <;> omega
    have hl : -(lim : Int) ≤ y ∧ y ≤ (lim : Int) := by unfold lim; omega
    refine ⟨y.toNat, by omega, ?_⟩
    simp only [evSs, evS, evB, evE, evEs, evI, List.map_cons, List.map_nil, List.replicate, List.cons_append, List.nil_append, List.getElem?_cons_zero, List.getElem?_cons_succ, List.set_cons_zero, List.set_cons_succ, R_ok, R_exc, lk_str, lk_int, lk_bl, lk_non, lk_tup, lk_lst, tr_bl, Option.map_some, ofO_s, mkF, if_pos, if_neg Bool.false_ne_true, Bool.not_true, Bool.not_false, Tg.put, Tg.puts, Option.bind_some, e1, e2, ← hz, e3, ← hy]
    simp only [rngO, if_pos hl, ofO_s]
  obtain ⟨t1, t2, t3, t4, t5, h', e⟩ := loop21 14 ns (steps 0 1 m) none none none none none [] (fun x hx => steps_nat m 0 x hx)
  have hb : b21 = [.for_ (.v 1) (.range [.bi false .max [.c (.int 1), .bi false .min [.c (.int 8), .bi false .len [.v 0]]]]) B21, .ret (.and (.cmp .eq (.told 0 (.call 7 [.c (.str []), .c (.str [])])) (.lst false [])) (.cmp .eq (.att (.call 214 [.bin false .pow (.c (.int 10)) (.c (.int 39))]) 14 5) (.bin false .pow (.c (.int 10)) (.c (.int 39)))))] := rfl
  refine ⟨[], ?_⟩
  show cEnd [] (evSs ⟨call Φ tf 19, tf⟩ b21 [some (.lst (ns.map .int)), none, none, none, none, none] []) = _
  rw [hb, ss_step (σ' := [some (.lst (ns.map .int)), t1, t2, t3, t4, t5]) (h' := h') (by rw [evS, hr]; exact e)]
  generalize [some (.lst (ns.map .int)), t1, t2, t3, t4, t5] = σ
  have q1 : evE ⟨call Φ tf 19, tf⟩ (.told 0 (.call 7 [.c (.str []), .c (.str [])])) σ h' = .ok (.lst []) h' := by
    rw [evE, Pl.ev_call (ts := [.str [], .str []]) rfl (sp7e 16 h')]
    rfl
  have q2 : evE ⟨call Φ tf 19, tf⟩ (.call 214 [.bin false .pow (.c (.int 10)) (.c (.int 39))]) σ h' = .ok (.ins 14 [5] [.int big]) h' := Pl.ev_call (ts := [.int big]) (evEs_cons ev_big evEs_nil) (sp_mk 18 14 5 214 (.int big) h' rfl rfl)
  have q3 : evE ⟨call Φ tf 19, tf⟩ (.att (.call 214 [.bin false .pow (.c (.int 10)) (.c (.int 39))]) 14 5) σ h' = .ok (.int big) h' := by
    rw [evE, q2]
    rfl
  rw [ss_ret (t := .bl true) (h' := h') (by
    have q4 : evE ⟨call Φ tf 19, tf⟩ (.cmp .eq (.told 0 (.call 7 [.c (.str []), .c (.str [])])) (.lst false [])) σ h' = .ok (.bl true) h' := by
      rw [evE, q1, R_ok, ev_lst (ts := []) evEs_nil, mkF, R_ok]
      rfl
    have q5 : evE ⟨call Φ tf 19, tf⟩ (.cmp .eq (.att (.call 214 [.bin false .pow (.c (.int 10)) (.c (.int 39))]) 14 5) (.bin false .pow (.c (.int 10)) (.c (.int 39)))) σ h' = .ok (.bl true) h' := by
      rw [evE, q3, R_ok, ev_big, R_ok, lk_int]
      simp only [cmO, eq_self (t := .int big) rfl, Option.map_some, ofO_s]
    rw [evS, evE, q4, R_ok, lk_bl, tr_bl]
    simp only [q5, R_ok])]
  show leave [] (.bl true) h' = _
  simp [leave, T.und, preB]
end K00P
end
/-! part K00end -/
set_option Elab.async false
set_option linter.all false
set_option maxRecDepth 100000
theorem PySem.Challenge.cw_fewmarks_k00_errors_holds : PySem.Challenge.rw_fewmarks_k00_errors.Holds := by
  exact k00_of K00P.plainN
