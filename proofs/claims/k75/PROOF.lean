import PyProof.Rows.All
import Wide.All
import OpenK.AllK
import Wide.FinOn
import HandS.ForMost
import HandS.Property
import HandS.HeadHook1
import HandS.HeadHook2
import HandS.HeadHook4
import HandS.Head0
import HandS.Head1
import HandS.Head2
import HandS.AnyAll
import HandS.Wide
import HandS.SetKeys
import HandS.DictComp
import HandS.TupMul
import HandS.TupAny
import HandS.More
import HandS.Iter
import HandS.Zip
import HandS.Walk
import KE.GoesZip
import KE.GoesEnum
import PyProof.TupleOfGen
import KE.KDictZip
import HandS.Nested
import HandS.Conv
import HandS.DictTup
import HandS.Style
import HandS.IsInst
import HandS.HeadEnd
import HandS.HeadWalk
import HandS.NestedK
import PySem.Challenge.RW_surecrossing_k75_whole_reading_ticks_and
set_option Elab.async false
set_option linter.all false
set_option maxRecDepth 100000
set_option maxHeartbeats 2000000
/-! The facts of the top by names, over a small part of the heap: what the wanted names reach by function, code, class, namespace, property. -/
namespace Hz
open PySem PySem.Spec PyProof.Rows L2
/-- one hop: a def's code, a class's namespace, a namespace's values, a property's defs -/
def hop (g : Addr → Option Obj) (a : Addr) : List Addr := match g a with
  | some ⟨.type "property", _, .fields vs, _⟩ => vs.toList.flatMap He.refV
  | some ⟨_, _, .func fd, _⟩ => He.refV fd.code
  | some ⟨_, _, .cls cd, _⟩ => [cd.ns]
  | some ⟨_, _, .dict es _, _⟩ => es.toList.flatMap fun e => He.refV e.val
  | _ => []
def roots (g : Addr → Option Obj) (xs : List Str) : List Addr := xs.filterMap fun x => match PySem.W.nsIn (He.frG g [mainGlobals]) mainGlobals x with
  | some (some (.ref a)) => some a
  | _ => none
def reach (g : Addr → Option Obj) (xs : List Str) : List Addr :=
  let l0 := roots g xs
  let l1 := l0.flatMap (hop g)
  let l2 := l1.flatMap (hop g)
  let l3 := l2.flatMap (hop g)
  let l4 := l3.flatMap (hop g)
  mainGlobals :: (l0 ++ (l1 ++ (l2 ++ (l3 ++ l4))))
/-- where a def stands: the module's name; a class's name and its; a property of a class -/
inductive Wh where
  | glo (x : Str)
  | met (C m : Str)
  | get (C f : Str)
def Wh.at_ (K : PySem.W.Frag) : Wh → Addr
  | .glo x => He.ga K x
  | .met C m => He.ma K (He.ga K C) m
  | .get C f => match PySem.W.recIn K (He.ma K (He.ga K C) f) "property" with
    | some (.ref g :: _) => g
    | _ => 0
structure Df where
  wh : Wh
  name : Str
  qual : Str
  st : Stmt
def Df.val (d : Df) : He.FnV := some (d.name, d.qual, defArgs d.st, .stmts (defBody d.st), defScope d.st, mainGlobals, [], .none, builtinsNs)
def fnO (K : PySem.W.Frag) (a : Addr) : He.FnV := match K.lookup a with
  | some ⟨_, _, .func fd, _⟩ => some (fd.name, fd.qualname, fd.params, fd.body, fd.scope, fd.globals, fd.closure, fd.defaults, fd.builtins)
  | _ => none
def Df.ok (K : PySem.W.Frag) (d : Df) : Bool := PySem.W.keepIn K (.ref (d.wh.at_ K)) && (match K.lookup (d.wh.at_ K) with
  | some ⟨_, _, .func fd, _⟩ => PySem.W.codeIn K fd.code d.qual
  | _ => false)
theorem Df.fn {K : PySem.W.Frag} {d : Df} (e : fnO K (d.wh.at_ K) = d.val) (c : d.ok K = true) : ∃ fd, Fun K d.name d.qual d.st (d.wh.at_ K) fd := by
  obtain ⟨kp, c2⟩ := He.ba c
  unfold fnO at e
  cases q : K.lookup (d.wh.at_ K) with
  | none => rw [q] at c2; cases c2
  | some o =>
    obtain ⟨oc, od, dt, osl⟩ := o
    rw [q] at c2 e
    cases dt with
    | func fd =>
      obtain ⟨n1, n2, n3, n4, n5, n6, n7, n8, n9, n10, n11, n12, n13, n14, n15⟩ := fd
      have z : (some (n1, n2, n3, n4, n5, n6, n7, n8, n15) : He.FnV) = some (d.name, d.qual, defArgs d.st, .stmts (defBody d.st), defScope d.st, mainGlobals, [], .none, builtinsNs) := e
      simp only [Option.some.injEq, Prod.mk.injEq] at z
      obtain ⟨h1, h2, h3, h4, h5, h6, h7, h8, h9⟩ := z
      subst h1 h2 h3 h4 h5 h6 h7 h8 h9
      exact ⟨_, ⟨oc, od, n9, n10, n11, n12, n13, n14, osl, rfl, q, c2⟩, kp⟩
    | _ => cases c2
/-- a property of a class -/
def prB (K : PySem.W.Frag) (p : Str × Str) : Bool :=
  let a := He.ma K (He.ga K p.1) p.2
  He.eqO (PySem.W.findIn K (.ref (He.ga K p.1)) p.2) (some (some (.ref a))) && (He.eqO (PySem.W.specialIn K (.ref a) "__get__") (some (some (.builtin "property.__get__"))) && (decide (PySem.W.takesIn K (.ref a) = some true) && (match PySem.W.recIn K a "property" with
    | some (.ref _ :: _) => true
    | _ => false)))
theorem prB_ok {K : PySem.W.Frag} {C f : Str} (h : prB K (C, f) = true) : PropOf K (He.ga K C) f (He.ma K (He.ga K C) f) ((Wh.get C f).at_ K) := by
  obtain ⟨h1, h⟩ := He.ba h
  obtain ⟨h2, h⟩ := He.ba h
  obtain ⟨h3, h4⟩ := He.ba h
  refine ⟨He.eqO_ok h1, He.eqO_ok h2, of_decide_eq_true h3, ?_⟩
  show ∃ rest, PySem.W.recIn K (He.ma K (He.ga K C) f) "property" = some (.ref (match PySem.W.recIn K (He.ma K (He.ga K C) f) "property" with | some (.ref g :: _) => g | _ => 0) :: rest)
  have h5 : (match PySem.W.recIn K (He.ma K (He.ga K C) f) "property" with
    | some (.ref _ :: _) => true
    | _ => false) = true := h4
  cases q : PySem.W.recIn K (He.ma K (He.ga K C) f) "property" with
  | none => rw [q] at h5; cases h5
  | some l =>
    rw [q] at h5
    cases l with
    | nil => cases h5
    | cons v r => cases v with
      | ref g => exact ⟨r, rfl⟩
      | _ => cases h5
/-- a def whose table of code objects is empty and not in K -/
def codeW (K : PySem.W.Frag) (w : Wh) : Addr := match K.lookup (w.at_ K) with
  | some ⟨_, _, .func fd, _⟩ => (match fd.code with
    | .ref c => c
    | _ => 0)
  | _ => 0
def tabW (K : PySem.W.Frag) (w : Wh) : Addr := He.tabOf K (codeW K w)
def tbB (g : Addr → Option Obj) (K : PySem.W.Frag) (w : Wh) : Bool := PySem.W.codeHdIn K (codeW K w) (tabW K w) && ((K.lookup (tabW K w)).isNone && (match g (tabW K w) with
  | some o => He.emptyTab o
  | none => false))
structure Ask where
  xs : List Str
  fa : List He.Fa
  df : List Df
  pr : List (Str × Str)
  tf : List Wh
abbrev Al : Type := Bool × List He.FnV
def obsK (A : Ask) (g : Addr → Option Obj) (K : PySem.W.Frag) : Al :=
  ((A.fa.all fun f => f.ok K) && ((A.df.all fun d => d.ok K) && ((A.pr.all fun p => prB K p) && (A.tf.all fun w => tbB g K w))), A.df.map fun d => fnO K (d.wh.at_ K))
def valK (A : Ask) : Al := (true, A.df.map Df.val)
structure Says (A : Ask) (h : Heap) (K : PySem.W.Frag) : Prop where
  fa : ∀ f ∈ A.fa, f.ok K = true
  df : ∀ d ∈ A.df, ∃ fd, Fun K d.name d.qual d.st (d.wh.at_ K) fd
  pr : ∀ p ∈ A.pr, prB K p = true
  hd : ∀ w ∈ A.tf, PySem.W.codeHdIn K (codeW K w) (tabW K w) = true
  out : ∀ w ∈ A.tf, K.lookup (tabW K w) = none
  emp : ∀ w ∈ A.tf, h.get? (tabW K w) = some { cls := .none, data := .fields #[] }
theorem says_of {A : Ask} {h : Heap} {K : PySem.W.Frag} (e : obsK A h.get? K = valK A) : Says A h K := by
  have e1 := congrArg (fun z : Al => z.1) e
  have e2 : A.df.map (fun d => fnO K (d.wh.at_ K)) = A.df.map Df.val := congrArg (fun z : Al => z.2) e
  obtain ⟨a1, e1⟩ := He.ba e1
  obtain ⟨a2, e1⟩ := He.ba e1
  obtain ⟨a3, a4⟩ := He.ba e1
  have key : ∀ w ∈ A.tf, PySem.W.codeHdIn K (codeW K w) (tabW K w) = true ∧ K.lookup (tabW K w) = none ∧ h.get? (tabW K w) = some { cls := .none, data := .fields #[] } := fun w hw => by
    obtain ⟨b1, b⟩ := He.ba (List.all_eq_true.mp a4 w hw)
    obtain ⟨b2, b3⟩ := He.ba b
    refine ⟨b1, Option.isNone_iff_eq_none.mp b2, ?_⟩
    have b4 : (match h.get? (tabW K w) with | some o => He.emptyTab o | none => false) = true := b3
    cases q : h.get? (tabW K w) with
    | none => rw [q] at b4; cases b4
    | some o => rw [q] at b4; rw [He.emptyTab_eq b4]
  refine ⟨fun f hf => List.all_eq_true.mp a1 f hf, fun d hd => ?_, fun p hp => List.all_eq_true.mp a3 p hp, fun w hw => (key w hw).1, fun w hw => (key w hw).2.1, fun w hw => (key w hw).2.2⟩
  exact Df.fn (List.map_inj_left.mp e2 d hd) (List.all_eq_true.mp a2 d hd)
def obsG (A : Ask) (g : Addr → Option Obj) : Al := obsK A g (He.frG g (reach g A.xs))
def hookZ (A : Ask) : PySem.W.Hook where
  α := Al
  obs := fun s => obsG A s.heap.get?
  val := fun _ => valK A
  says := fun _ h => ∃ K : PySem.W.Frag, K.In h ∧ Says A h K
  of := fun _ s e => ⟨_, He.frG_in, says_of e⟩
  keeps := fun _ _ _ ⟨K, hK, c⟩ k => ⟨K, PySem.W.Frag.In.keeps hK k, ⟨c.fa, c.df, c.pr, c.hd, c.out, fun w hw => k _ _ (c.emp w hw)⟩⟩
theorem obsG_eq {A : Ask} {g : Addr → Option Obj} {s : Shared} (h : ∀ a, g a = s.heap.get? a) : obsG A g = (hookZ A).obs s := by
  have e : g = s.heap.get? := funext h
  rw [e]
  all_goals rfl
end Hz

set_option Elab.async false
set_option linter.all false
set_option maxRecDepth 100000
set_option maxHeartbeats 0
/-! the text by places; what is asked of the top; the run of the top -/
namespace Su
open PySem PySem.Spec PyProof.Rows L2
def top (i : Nat) : Stmt := PySem.Challenge.pw_surecrossing_k75_whole_reading_ticks_and.main.body.getD i (.Pass ⟨0, 0, 0, 0⟩)
abbrev s_as_ranges : Stmt := top 6
abbrev s_Reader_init : Stmt := inClass (top 7) 0
abbrev s_Reader_take : Stmt := inClass (top 7) 2
abbrev s_Reader_read_on : Stmt := inClass (top 7) 3
abbrev s_Reader_is_due : Stmt := inClass (top 7) 4
abbrev s_Reader_ack : Stmt := inClass (top 7) 5
abbrev s_divisor : Stmt := top 9
abbrev s_lowest : Stmt := top 11
abbrev s_plus : Stmt := top 12
abbrev s_product : Stmt := top 13
abbrev s_is_less : Stmt := top 14
abbrev s_greater_of : Stmt := top 15
abbrev s_gap_size : Stmt := top 16
abbrev s_rounded_down : Stmt := top 17
abbrev s_back_of : Stmt := top 19
abbrev s_most_trip : Stmt := top 20
abbrev s_Shown_init : Stmt := inClass (top 22) 0
abbrev s_Shown_is_bound : Stmt := inClass (top 22) 1
abbrev s_Shown_is_silent : Stmt := inClass (top 22) 2
abbrev s_Shown_is_lost : Stmt := inClass (top 22) 3
abbrev s_Proving_init : Stmt := inClass (top 23) 0
abbrev s_Proving_hear : Stmt := inClass (top 23) 2
abbrev s_Proving_unheard : Stmt := inClass (top 23) 3
abbrev s_Proving_shown : Stmt := inClass (top 23) 4
abbrev s_smoothed : Stmt := top 25
abbrev s_first_pair : Stmt := top 26
abbrev s_length_of : Stmt := top 27
abbrev s_Sender_init : Stmt := inClass (top 33) 0
abbrev s_Sender_out : Stmt := inClass (top 33) 3
abbrev s_Sender_length : Stmt := inClass (top 33) 4
abbrev s_Sender_hear : Stmt := inClass (top 33) 5
abbrev s_Sender_settle : Stmt := inClass (top 33) 6
abbrev s_Sender_measure : Stmt := inClass (top 33) 7
abbrev s_Sender_grow : Stmt := inClass (top 33) 8
abbrev s_Sender_lost_now : Stmt := inClass (top 33) 9
abbrev s_Sender_patience : Stmt := inClass (top 33) 10
abbrev s_Sender_take_lost : Stmt := inClass (top 33) 11
abbrev s_Sender_cut_window : Stmt := inClass (top 33) 12
abbrev s_Sender_is_written : Stmt := inClass (top 33) 13
abbrev s_Sender_timer : Stmt := inClass (top 33) 14
abbrev s_Sender_next_letter : Stmt := inClass (top 33) 15
abbrev s_Sender_probe_letter : Stmt := inClass (top 33) 16
abbrev s_Sender_send : Stmt := inClass (top 33) 17
abbrev s_Core_init : Stmt := inClass (top 35) 0
abbrev s_Core_reading : Stmt := inClass (top 35) 2
abbrev s_Core_sending : Stmt := inClass (top 35) 3
abbrev s_Core_go : Stmt := inClass (top 35) 4
abbrev s_new_core : Stmt := top 36
abbrev s_Crossing_init : Stmt := inClass (top 39) 0
abbrev s_Crossing_kept_now : Stmt := inClass (top 39) 1
abbrev s_Crossing_tick : Stmt := inClass (top 39) 8
abbrev s_Queue_init : Stmt := inClass (top 41) 0
abbrev s_Queue_enter : Stmt := inClass (top 41) 1
abbrev s_road_of : Stmt := top 42
abbrev s_queued : Stmt := top 43
abbrev s_empty_trip : Stmt := top 44
abbrev s_reading_ticks : Stmt := top 45
abbrev s_L_bag : Stmt := top 47
abbrev s_L_draw : Stmt := top 48
abbrev s_L_pick : Stmt := top 49
abbrev s_L_same : Stmt := top 50
abbrev s_L_up : Stmt := top 51
abbrev s_L_book : Stmt := top 52
abbrev s_L_trip : Stmt := top 53
abbrev s_L_room : Stmt := top 54
abbrev s_L_own_ticks : Stmt := top 55
abbrev s_L_drawn : Stmt := top 56
abbrev s_L_read_ticks : Stmt := top 57
abbrev s_law : Stmt := top 58
def d_as_ranges : Hz.Df := ⟨.glo "as_ranges", "as_ranges", "as_ranges", s_as_ranges⟩
def d_Reader_init : Hz.Df := ⟨.met "Reader" "__init__", "__init__", "Reader.__init__", s_Reader_init⟩
def d_Reader_take : Hz.Df := ⟨.met "Reader" "take", "take", "Reader.take", s_Reader_take⟩
def d_Reader_read_on : Hz.Df := ⟨.met "Reader" "read_on", "read_on", "Reader.read_on", s_Reader_read_on⟩
def d_Reader_is_due : Hz.Df := ⟨.met "Reader" "is_due", "is_due", "Reader.is_due", s_Reader_is_due⟩
def d_Reader_ack : Hz.Df := ⟨.met "Reader" "ack", "ack", "Reader.ack", s_Reader_ack⟩
def d_divisor : Hz.Df := ⟨.glo "divisor", "divisor", "divisor", s_divisor⟩
def d_lowest : Hz.Df := ⟨.glo "lowest", "lowest", "lowest", s_lowest⟩
def d_plus : Hz.Df := ⟨.glo "plus", "plus", "plus", s_plus⟩
def d_product : Hz.Df := ⟨.glo "product", "product", "product", s_product⟩
def d_is_less : Hz.Df := ⟨.glo "is_less", "is_less", "is_less", s_is_less⟩
def d_greater_of : Hz.Df := ⟨.glo "greater_of", "greater_of", "greater_of", s_greater_of⟩
def d_gap_size : Hz.Df := ⟨.glo "gap_size", "gap_size", "gap_size", s_gap_size⟩
def d_rounded_down : Hz.Df := ⟨.glo "rounded_down", "rounded_down", "rounded_down", s_rounded_down⟩
def d_back_of : Hz.Df := ⟨.glo "back_of", "back_of", "back_of", s_back_of⟩
def d_most_trip : Hz.Df := ⟨.glo "most_trip", "most_trip", "most_trip", s_most_trip⟩
def d_Shown_init : Hz.Df := ⟨.met "Shown" "__init__", "__init__", "Shown.__init__", s_Shown_init⟩
def d_Shown_is_bound : Hz.Df := ⟨.met "Shown" "is_bound", "is_bound", "Shown.is_bound", s_Shown_is_bound⟩
def d_Shown_is_silent : Hz.Df := ⟨.met "Shown" "is_silent", "is_silent", "Shown.is_silent", s_Shown_is_silent⟩
def d_Shown_is_lost : Hz.Df := ⟨.met "Shown" "is_lost", "is_lost", "Shown.is_lost", s_Shown_is_lost⟩
def d_Proving_init : Hz.Df := ⟨.met "Proving" "__init__", "__init__", "Proving.__init__", s_Proving_init⟩
def d_Proving_hear : Hz.Df := ⟨.met "Proving" "hear", "hear", "Proving.hear", s_Proving_hear⟩
def d_Proving_unheard : Hz.Df := ⟨.met "Proving" "unheard", "unheard", "Proving.unheard", s_Proving_unheard⟩
def d_Proving_shown : Hz.Df := ⟨.met "Proving" "shown", "shown", "Proving.shown", s_Proving_shown⟩
def d_smoothed : Hz.Df := ⟨.glo "smoothed", "smoothed", "smoothed", s_smoothed⟩
def d_first_pair : Hz.Df := ⟨.glo "first_pair", "first_pair", "first_pair", s_first_pair⟩
def d_length_of : Hz.Df := ⟨.glo "length_of", "length_of", "length_of", s_length_of⟩
def d_Sender_init : Hz.Df := ⟨.met "Sender" "__init__", "__init__", "Sender.__init__", s_Sender_init⟩
def d_Sender_out : Hz.Df := ⟨.met "Sender" "out", "out", "Sender.out", s_Sender_out⟩
def d_Sender_length : Hz.Df := ⟨.met "Sender" "length", "length", "Sender.length", s_Sender_length⟩
def d_Sender_hear : Hz.Df := ⟨.met "Sender" "hear", "hear", "Sender.hear", s_Sender_hear⟩
def d_Sender_settle : Hz.Df := ⟨.met "Sender" "settle", "settle", "Sender.settle", s_Sender_settle⟩
def d_Sender_measure : Hz.Df := ⟨.met "Sender" "measure", "measure", "Sender.measure", s_Sender_measure⟩
def d_Sender_grow : Hz.Df := ⟨.met "Sender" "grow", "grow", "Sender.grow", s_Sender_grow⟩
def d_Sender_lost_now : Hz.Df := ⟨.met "Sender" "lost_now", "lost_now", "Sender.lost_now", s_Sender_lost_now⟩
def d_Sender_patience : Hz.Df := ⟨.met "Sender" "patience", "patience", "Sender.patience", s_Sender_patience⟩
def d_Sender_take_lost : Hz.Df := ⟨.met "Sender" "take_lost", "take_lost", "Sender.take_lost", s_Sender_take_lost⟩
def d_Sender_cut_window : Hz.Df := ⟨.met "Sender" "cut_window", "cut_window", "Sender.cut_window", s_Sender_cut_window⟩
def d_Sender_is_written : Hz.Df := ⟨.met "Sender" "is_written", "is_written", "Sender.is_written", s_Sender_is_written⟩
def d_Sender_timer : Hz.Df := ⟨.met "Sender" "timer", "timer", "Sender.timer", s_Sender_timer⟩
def d_Sender_next_letter : Hz.Df := ⟨.met "Sender" "next_letter", "next_letter", "Sender.next_letter", s_Sender_next_letter⟩
def d_Sender_probe_letter : Hz.Df := ⟨.met "Sender" "probe_letter", "probe_letter", "Sender.probe_letter", s_Sender_probe_letter⟩
def d_Sender_send : Hz.Df := ⟨.met "Sender" "send", "send", "Sender.send", s_Sender_send⟩
def d_Core_init : Hz.Df := ⟨.met "Core" "__init__", "__init__", "Core.__init__", s_Core_init⟩
def d_Core_reading : Hz.Df := ⟨.met "Core" "reading", "reading", "Core.reading", s_Core_reading⟩
def d_Core_sending : Hz.Df := ⟨.met "Core" "sending", "sending", "Core.sending", s_Core_sending⟩
def d_Core_go : Hz.Df := ⟨.met "Core" "go", "go", "Core.go", s_Core_go⟩
def d_new_core : Hz.Df := ⟨.glo "new_core", "new_core", "new_core", s_new_core⟩
def d_Crossing_init : Hz.Df := ⟨.met "Crossing" "__init__", "__init__", "Crossing.__init__", s_Crossing_init⟩
def d_Crossing_kept_now : Hz.Df := ⟨.get "Crossing" "kept_now", "kept_now", "Crossing.kept_now", s_Crossing_kept_now⟩
def d_Crossing_tick : Hz.Df := ⟨.met "Crossing" "tick", "tick", "Crossing.tick", s_Crossing_tick⟩
def d_Queue_init : Hz.Df := ⟨.met "Queue" "__init__", "__init__", "Queue.__init__", s_Queue_init⟩
def d_Queue_enter : Hz.Df := ⟨.met "Queue" "enter", "enter", "Queue.enter", s_Queue_enter⟩
def d_road_of : Hz.Df := ⟨.glo "road_of", "road_of", "road_of", s_road_of⟩
def d_queued : Hz.Df := ⟨.glo "queued", "queued", "queued", s_queued⟩
def d_empty_trip : Hz.Df := ⟨.glo "empty_trip", "empty_trip", "empty_trip", s_empty_trip⟩
def d_reading_ticks : Hz.Df := ⟨.glo "reading_ticks", "reading_ticks", "reading_ticks", s_reading_ticks⟩
def d_L_bag : Hz.Df := ⟨.glo "_law_bag", "_law_bag", "_law_bag", s_L_bag⟩
def d_L_draw : Hz.Df := ⟨.glo "_law_draw", "_law_draw", "_law_draw", s_L_draw⟩
def d_L_pick : Hz.Df := ⟨.glo "_law_pick", "_law_pick", "_law_pick", s_L_pick⟩
def d_L_same : Hz.Df := ⟨.glo "_law_same", "_law_same", "_law_same", s_L_same⟩
def d_L_up : Hz.Df := ⟨.glo "_law_up", "_law_up", "_law_up", s_L_up⟩
def d_L_book : Hz.Df := ⟨.glo "_law_book", "_law_book", "_law_book", s_L_book⟩
def d_L_trip : Hz.Df := ⟨.glo "_law_trip", "_law_trip", "_law_trip", s_L_trip⟩
def d_L_room : Hz.Df := ⟨.glo "_law_room", "_law_room", "_law_room", s_L_room⟩
def d_L_own_ticks : Hz.Df := ⟨.glo "_law_own_ticks", "_law_own_ticks", "_law_own_ticks", s_L_own_ticks⟩
def d_L_drawn : Hz.Df := ⟨.glo "_law_drawn", "_law_drawn", "_law_drawn", s_L_drawn⟩
def d_L_read_ticks : Hz.Df := ⟨.glo "_law_read_ticks", "_law_read_ticks", "_law_read_ticks", s_L_read_ticks⟩
def d_law : Hz.Df := ⟨.glo "law", "law", "law", s_law⟩
def fa : List He.Fa := [
  .glo "Reader", .cls "Reader", .mkr "Reader", .noat "Reader" "data", .noat "Reader" "wait", .noat "Reader" "came", .noat "Reader" "kept", .noat "Reader" "read",
  .noat "Reader" "acks", .noat "Reader" "greatest", .noat "Reader" "greatest_tick", .noat "Reader" "told", .noat "Reader" "first", .noat "Reader" "at_once", .glo "Shown", .cls "Shown",
  .mkr "Shown", .noat "Shown" "now", .noat "Shown" "rule", .noat "Shown" "sent", .noat "Shown" "reach", .noat "Shown" "trip", .noat "Shown" "wait", .noat "Shown" "bound",
  .noat "Shown" "least", .noat "Shown" "greatest", .glo "Proving", .cls "Proving", .mkr "Proving", .noat "Proving" "road", .noat "Proving" "ticks", .noat "Proving" "tellers",
  .noat "Proving" "greatest", .noat "Proving" "best", .noat "Proving" "least", .noat "Proving" "most", .glo "Sender", .cls "Sender", .mkr "Sender", .noat "Sender" "road",
  .noat "Sender" "data", .noat "Sender" "next_of", .noat "Sender" "allowed", .noat "Sender" "greatest", .noat "Sender" "proving", .noat "Sender" "book", .noat "Sender" "sent", .noat "Sender" "letters",
  .noat "Sender" "states", .noat "Sender" "going", .noat "Sender" "settled", .noat "Sender" "anew", .noat "Sender" "pair", .noat "Sender" "latest", .noat "Sender" "count", .noat "Sender" "probe",
  .noat "Sender" "window", .noat "Sender" "knee", .noat "Sender" "grown", .noat "Sender" "mark", .glo "Core", .cls "Core", .mkr "Core", .noat "Core" "sender",
  .noat "Core" "reader", .noat "Core" "packets", .noat "Core" "acks", .glo "Crossing", .cls "Crossing", .mkr "Crossing", .noat "Crossing" "_road", .noat "Crossing" "_core",
  .noat "Crossing" "_now", .glo "Queue", .cls "Queue", .mkr "Queue", .noat "Queue" "leaves", .noat "Queue" "lo", .noat "Queue" "rate", .noat "Queue" "room",
  .glo "as_ranges", .meth "Reader" "take", .meth "Reader" "read_on", .meth "Reader" "is_due", .meth "Reader" "ack", .glo "divisor", .glo "lowest", .glo "plus",
  .glo "product", .glo "is_less", .glo "greater_of", .glo "gap_size", .glo "rounded_down", .glo "back_of", .glo "most_trip", .meth "Shown" "is_bound",
  .meth "Shown" "is_silent", .meth "Shown" "is_lost", .meth "Proving" "hear", .meth "Proving" "unheard", .meth "Proving" "shown", .glo "smoothed", .glo "first_pair", .glo "length_of",
  .meth "Sender" "out", .meth "Sender" "length", .meth "Sender" "hear", .meth "Sender" "settle", .meth "Sender" "measure", .meth "Sender" "grow", .meth "Sender" "lost_now", .meth "Sender" "patience",
  .meth "Sender" "take_lost", .meth "Sender" "cut_window", .meth "Sender" "is_written", .meth "Sender" "timer", .meth "Sender" "next_letter", .meth "Sender" "probe_letter", .meth "Sender" "send", .meth "Core" "reading",
  .meth "Core" "sending", .meth "Core" "go", .glo "new_core", .meth "Crossing" "tick", .meth "Queue" "enter", .glo "road_of", .glo "queued", .glo "empty_trip",
  .glo "reading_ticks", .glo "_law_bag", .glo "_law_draw", .glo "_law_pick", .glo "_law_same", .glo "_law_up", .glo "_law_book", .glo "_law_trip",
  .glo "_law_room", .glo "_law_own_ticks", .glo "_law_drawn", .glo "_law_read_ticks", .glo "law", .free "abs", .free "all", .free "any",
  .free "bool", .free "enumerate", .free "int", .free "isinstance", .free "len", .free "list", .free "max", .free "min",
  .free "property", .free "range", .free "sorted", .free "str", .free "tuple", .free "zip", .int "OUT" 0, .int "TOLD" 1,
  .int "TAKEN" 2, .int "TOLD_LATE" 3, .int "MOST_LOG" 4000]
def fn : List Hz.Df := [d_as_ranges, d_Reader_init, d_Reader_take, d_Reader_read_on, d_Reader_is_due, d_Reader_ack, d_divisor, d_lowest, d_plus, d_product, d_is_less, d_greater_of, d_gap_size, d_rounded_down, d_back_of, d_most_trip, d_Shown_init, d_Shown_is_bound, d_Shown_is_silent, d_Shown_is_lost, d_Proving_init, d_Proving_hear, d_Proving_unheard, d_Proving_shown, d_smoothed, d_first_pair, d_length_of, d_Sender_init, d_Sender_out, d_Sender_length, d_Sender_hear, d_Sender_settle, d_Sender_measure, d_Sender_grow, d_Sender_lost_now, d_Sender_patience, d_Sender_take_lost, d_Sender_cut_window, d_Sender_is_written, d_Sender_timer, d_Sender_next_letter, d_Sender_probe_letter, d_Sender_send, d_Core_init, d_Core_reading, d_Core_sending, d_Core_go, d_new_core, d_Crossing_init, d_Crossing_kept_now, d_Crossing_tick, d_Queue_init, d_Queue_enter, d_road_of, d_queued, d_empty_trip, d_reading_ticks, d_L_bag, d_L_draw, d_L_pick, d_L_same, d_L_up, d_L_book, d_L_trip, d_L_room, d_L_own_ticks, d_L_drawn, d_L_read_ticks, d_law]
def rootsL : List PySem.Str := (["as_ranges", "Reader", "divisor", "lowest", "plus", "product", "is_less", "greater_of", "gap_size", "rounded_down", "back_of", "most_trip", "Shown", "Proving", "smoothed", "first_pair", "length_of", "Sender", "Core", "new_core"] : List PySem.Str) ++ (["Crossing", "Queue", "road_of", "queued", "empty_trip", "reading_ticks", "_law_bag", "_law_draw", "_law_pick", "_law_same", "_law_up", "_law_book", "_law_trip", "_law_room", "_law_own_ticks", "_law_drawn", "_law_read_ticks", "law"] : List PySem.Str)
def loose : List PySem.Str := (["_wall", "CrossingError", "Refused", "TooLong", "as_ranges", "Reader", "divisor", "lowest", "plus", "product", "is_less", "greater_of", "gap_size", "rounded_down", "back_of", "most_trip", "Shown", "Proving", "smoothed", "first_pair"] : List PySem.Str) ++ (["length_of", "OUT", "TOLD", "TAKEN", "TOLD_LATE", "Sender", "Core", "new_core", "MOST_LOG", "Crossing", "Queue", "road_of", "queued", "empty_trip", "reading_ticks", "_law_bag", "_law_draw", "_law_pick", "_law_same", "_law_up"] : List PySem.Str) ++ (["_law_book", "_law_trip", "_law_room", "_law_own_ticks", "_law_drawn", "_law_read_ticks"] : List PySem.Str)
def asks : Hz.Ask := ⟨rootsL, fa, fn, [("Crossing", "kept_now")], [.met "Reader" "ack", .met "Sender" "take_lost", .met "Crossing" "tick"]⟩
abbrev R : PySem.W.OpenRow := PySem.W.OpenLaw.row PySem.Challenge.rw_surecrossing_k75_whole_reading_ticks_and
abbrev hk : PySem.W.Hook := Hz.hookZ asks
def ob (s : PySem.W.SharedT) : Hz.Al := Hz.obsG asks (HandSHeadRun.getT s)
theorem ob_eq (s : PySem.W.SharedT) : ob s = hk.obs s.abs := Hz.obsG_eq (HandSHeadRun.getT_eq s)
theorem run (w : World) : HandSHeadRun.RunEq R (PySem.W.view R.prog [58]) hk ob 8000 loose w := by
  intro os
  kernel_rfl
end Su

set_option Elab.async false
set_option linter.all false
set_option maxRecDepth 100000
set_option maxHeartbeats 2000000
/-! own cells, stable facts: what is known of the abstract heap at a point of a walk -/
namespace Su
open PySem PySem.Spec PyProof.Rows L2
abbrev Cell := Addr × HO
/-- what stays tracked through everything: tuples, locked things -/
structure Kp (H H' : Hp) : Prop where
  tu : ∀ b xs, H b = some (.tup xs) → H' b = some (.tup xs)
  fr : ∀ b o u, H b = some (.frz o u) → H' b = some (.frz o u)
  tb : ∀ b, GxR.TabG H b → GxR.TabG H' b
theorem Kp.refl (H : Hp) : Kp H H := ⟨fun _ _ h => h, fun _ _ _ h => h, fun _ h => h⟩
theorem Kp.trans {H H1 H2 : Hp} (a : Kp H H1) (b : Kp H1 H2) : Kp H H2 := ⟨fun c x h => b.tu c x (a.tu c x h), fun c o u h => b.fr c o u (a.fr c o u h), fun c h => b.tb c (a.tb c h)⟩
/-- a fact of the heap that stays -/
structure As where
  φ : Hp → Prop
  st : ∀ H H', Kp H H' → φ H → φ H'
def tupA (p : Addr) (xs : List V) : As := ⟨fun H => H p = some (.tup xs), fun _ _ k h => k.tu _ _ h⟩
/-- a family of tuples -/
def famA (n : Nat) (p : Nat → Addr) (xs : Nat → List V) : As := ⟨fun H => ∀ i, i < n → H (p i) = some (.tup (xs i)), fun _ _ k h i hi => k.tu _ _ (h i hi)⟩
/-- no tuple, not locked -/
def Nt : HO → Bool
  | .tup _ => false
  | .frz _ _ => false
  | .tbl _ => false
  | _ => true
structure W (H : Hp) (M : List Cell) (T : List As) : Prop where
  nd : (M.map (·.1)).Nodup
  at_ : ∀ c ∈ M, H c.1 = some c.2
  st : ∀ a ∈ T, a.φ H
  nt : ∀ c ∈ M, Nt c.2 = true
section
variable {H H' : Hp} {M M' X R : List Cell} {T T' : List As} {a p : Addr} {o o' : HO}
theorem W.g (w : W H M T) (i : Nat) (h : M[i]? = some (a, o)) : H a = some o := w.at_ (a, o) (List.mem_of_getElem? h)
theorem W.t (w : W H M T) (i : Nat) {φ : As} (h : T[i]? = some φ) : φ.φ H := w.st φ (List.mem_of_getElem? h)
theorem Kp.upd (h : H a = some o) (n : Nt o = true) : Kp H (upd H a o') := by
  refine ⟨fun b xs e => ?_, fun b u v e => ?_, fun b ⟨ps, e, ok⟩ => ⟨ps, ?_, ok⟩⟩
  · rw [upd_ne (fun z => ?_)]
    · exact e
    · rw [z, h] at e; cases e; cases n
  · rw [upd_ne (fun z => ?_)]
    · exact e
    · rw [z, h] at e; cases e; cases n
  · rw [upd_ne (fun z => ?_)]
    · exact e
    · rw [z, h] at e; cases e; cases n
theorem Kp.new (h : H p = none) : Kp H (L2.upd H p o) :=
  ⟨fun b xs e => by rw [upd_ne (ne_of_none e h)]; exact e, fun b u v e => by rw [upd_ne (ne_of_none e h)]; exact e, fun b ⟨ps, e, ok⟩ => ⟨ps, by rw [upd_ne (ne_of_none e h)]; exact e, ok⟩⟩
/-- a code object's table -/
def tabA (p : Addr) : As := ⟨fun H => GxR.TabG H p, fun _ _ k h => k.tb p h⟩
theorem Kp.tabbed {p : Addr} (h : GxR.TabG H p) (t : GxR.Tabbed p H H') : Kp H H' := by
  obtain ⟨ps, e, _⟩ := h
  refine ⟨fun b xs q => ?_, fun b o u q => ?_, fun b q => ?_⟩
  · rw [t.2 b (fun z => by rw [z, e] at q; cases q)]; exact q
  · rw [t.2 b (fun z => by rw [z, e] at q; cases q)]; exact q
  · by_cases z : b = p
    · rw [z]; exact t.1
    · obtain ⟨ps', e', ok⟩ := q
      exact ⟨ps', by rw [t.2 b z]; exact e', ok⟩
theorem W.kp (w : W H M T) (k : Kp H H') (e : ∀ c ∈ M, H' c.1 = some c.2) : W H' M T := ⟨w.nd, e, fun φ hφ => φ.st _ _ k (w.st φ hφ), w.nt⟩
/-- a cell is written -/
theorem W.set (w : W H M T) (i : Nat) (h : M[i]? = some (a, o)) (n : Nt o = true) (o' : HO) (n' : Nt o' = true) : W (upd H a o') (M.set i (a, o')) T := by
  obtain ⟨hi, e⟩ := List.getElem?_eq_some_iff.mp h
  refine ⟨?_, fun c hc => ?_, fun φ hφ => φ.st _ _ (Kp.upd (w.g i h) n) (w.st φ hφ), fun c hc => (List.mem_or_eq_of_mem_set hc).elim (w.nt c) fun z => by rw [z]; exact n'⟩
  · have z : (M.set i (a, o')).map (·.1) = M.map (·.1) := by
      rw [List.map_set]
      refine List.ext_getElem (by simp) fun j h1 h2 => ?_
      rw [List.getElem_set]
      split
      · rename_i q; subst q; simp [e]
      · rfl
    rw [z]; exact w.nd
  · obtain ⟨j, hj, ej⟩ := List.mem_iff_getElem.mp hc
    rw [List.length_set] at hj
    by_cases q : i = j
    · subst q
      rw [List.getElem_set_self] at ej
      subst ej
      exact upd_same
    · rw [List.getElem_set_ne q] at ej
      have ne : c.1 ≠ a := fun z => by
        have h1 : (M.map (·.1))[i]'(by simpa using hi) = (M.map (·.1))[j]'(by simpa using hj) := by simp [e, ej, z]
        exact q ((List.getElem_inj w.nd).mp h1)
      rw [upd_ne ne]
      exact w.at_ c (ej ▸ List.getElem_mem hj)
/-- a new cell -/
theorem W.new (w : W H M T) (h : H p = none) (o : HO) (n : Nt o = true := by rfl) : W (upd H p o) ((p, o) :: M) T := by
  refine ⟨?_, fun c hc => ?_, fun φ hφ => φ.st _ _ (Kp.new h) (w.st φ hφ), fun c hc => (List.mem_cons.mp hc).elim (fun z => by rw [z]; exact n) (w.nt c)⟩
  · refine List.nodup_cons.mpr ⟨fun hm => ?_, w.nd⟩
    obtain ⟨c, hc, e⟩ := List.mem_map.mp hm
    have q := w.at_ c hc
    have e' : c.1 = p := e
    rw [e', h] at q
    cases q
  · rcases List.mem_cons.mp hc with z | z
    · subst z; exact upd_same
    · rw [upd_ne (ne_of_none (w.at_ c z) h)]
      exact w.at_ c z
/-- a new thing that is not kept as a cell -/
theorem W.drop (w : W H M T) (h : H p = none) (o : HO) : W (upd H p o) M T :=
  w.kp (Kp.new h) fun c hc => by rw [upd_ne (ne_of_none (w.at_ c hc) h)]; exact w.at_ c hc
theorem W.newT (w : W H M T) (h : H p = none) (xs : List V) : W (upd H p (.tup xs)) M (tupA p xs :: T) := by
  refine ⟨w.nd, (w.drop h _).at_, fun φ hφ => ?_, w.nt⟩
  rcases List.mem_cons.mp hφ with z | z
  · subst z; exact upd_same
  · exact φ.st _ _ (Kp.new h) (w.st φ z)
/-- a table has grown -/
theorem W.tab (w : W H M T) (h : GxR.TabG H p) (t : GxR.Tabbed p H H') : W H' M T := by
  refine w.kp (Kp.tabbed h t) fun c hc => ?_
  obtain ⟨ps, e, _⟩ := h
  have q := w.at_ c hc
  rw [t.2 c.1 (fun z => ?_)]
  · exact q
  · rw [z, e] at q
    have k := w.nt c hc
    rw [← Option.some.inj q] at k
    cases k
theorem W.say (w : W H M T) (φ : As) (h : φ.φ H) : W H M (φ :: T) := ⟨w.nd, w.at_, fun ψ hψ => (List.mem_cons.mp hψ).elim (fun z => z ▸ h) (w.st ψ), w.nt⟩
theorem W.sub (w : W H M T) (h : ∀ φ ∈ T', φ ∈ T) : W H M T' := ⟨w.nd, w.at_, fun ψ hψ => w.st ψ (h ψ hψ), w.nt⟩
theorem W.perm (w : W H M T) (h : M'.Perm M) : W H M' T := ⟨(List.Perm.nodup_iff (h.map _)).mpr w.nd, fun c hc => w.at_ c (h.mem_iff.mp hc), w.st, fun c hc => w.nt c (h.mem_iff.mp hc)⟩
theorem all_places {α : Type} : ∀ X : List α, (List.range X.length).filterMap (fun i => X[i]?) = X
  | [] => rfl
  | x :: r => by
    rw [List.length_cons, List.range_succ_eq_map, List.filterMap_cons]
    show x :: ((List.range r.length).map Nat.succ).filterMap (fun i => (x :: r)[i]?) = x :: r
    rw [List.filterMap_map]
    exact congrArg _ (all_places r)
theorem perm_pick {α : Type} (X : List α) (ix : List Nat) (h : ix.Perm (List.range X.length)) : (ix.filterMap fun i => X[i]?).Perm X := by
  have q := h.filterMap (fun i => X[i]?)
  rw [all_places X] at q
  exact q
/-- the cells in another order -/
theorem W.pick (w : W H (X ++ R) T) (ix : List Nat) (h : ix.Perm (List.range X.length)) : W H ((ix.filterMap fun i => X[i]?) ++ R) T :=
  w.perm ((perm_pick X ix h).append (List.Perm.refl R))
/-- some cells forgotten -/
theorem W.tail (w : W H (X ++ R) T) : W H R T := ⟨by
  have q := w.nd
  rw [List.map_append] at q
  exact (List.nodup_append.mp q).2.1, fun c hc => w.at_ c (List.mem_append_right _ hc), w.st, fun c hc => w.nt c (List.mem_append_right _ hc)⟩
theorem W.free (w : W H M T) (h : H p = none) : p ∉ M.map (·.1) := fun hm => by
  obtain ⟨c, hc, e⟩ := List.mem_map.mp hm
  have q := w.at_ c hc
  have e' : c.1 = p := e
  rw [e', h] at q
  cases q
end
/-! ### looked up by the search for instances -/
class InT (φ : As) (T : List As) : Prop where
  mem : φ ∈ T
instance (priority := high) {φ : As} {T : List As} : InT φ (φ :: T) := ⟨List.mem_cons_self⟩
instance {φ ψ : As} {T : List As} [h : InT φ T] : InT φ (ψ :: T) := ⟨List.mem_cons_of_mem _ h.mem⟩
class At (a : Addr) (M : List Cell) (o : outParam HO) : Prop where
  mem : (a, o) ∈ M
instance (priority := high) {a : Addr} {o : HO} {M : List Cell} : At a ((a, o) :: M) o := ⟨List.mem_cons_self⟩
instance {a : Addr} {o : HO} {c : Cell} {M : List Cell} [h : At a M o] : At a (c :: M) o := ⟨List.mem_cons_of_mem _ h.mem⟩
/-- the cell a of M holds o; with o' there it is M' -/
class Put (a : Addr) (o' : HO) (M : List Cell) (o : outParam HO) (M' : outParam (List Cell)) : Prop where
  eq : ∃ i : Nat, M[i]? = some (a, o) ∧ M.set i (a, o') = M'
instance (priority := high) {a : Addr} {o o' : HO} {M : List Cell} : Put a o' ((a, o) :: M) o ((a, o') :: M) := ⟨0, rfl, rfl⟩
instance {a : Addr} {o o' : HO} {c : Cell} {M M' : List Cell} [h : Put a o' M o M'] : Put a o' (c :: M) o (c :: M') := ⟨by
  obtain ⟨i, e1, e2⟩ := h.eq
  exact ⟨i + 1, e1, congrArg (c :: ·) e2⟩⟩
/-- the cell a of M holds o; without it M1 is left -/
class Rem (a : Addr) (M : List Cell) (o : outParam HO) (M1 : outParam (List Cell)) : Prop where
  perm : ((a, o) :: M1).Perm M
instance (priority := high) {a : Addr} {o : HO} {M : List Cell} : Rem a ((a, o) :: M) o M := ⟨List.Perm.refl _⟩
instance {a : Addr} {o : HO} {c : Cell} {M M1 : List Cell} [h : Rem a M o M1] : Rem a (c :: M) o (c :: M1) := ⟨(List.Perm.swap _ _ _).trans (h.perm.cons c)⟩
/-- the cells at as, in this order, then the rest -/
class Tk (as : List Addr) (M : List Cell) (M' : outParam (List Cell)) : Prop where
  perm : M'.Perm M
instance {M : List Cell} : Tk [] M M := ⟨List.Perm.refl _⟩
instance {a : Addr} {as : List Addr} {o : HO} {M M1 M2 : List Cell} [h : Rem a M o M1] [k : Tk as M1 M2] : Tk (a :: as) M ((a, o) :: M2) := ⟨(k.perm.cons _).trans h.perm⟩
/-- T stands at the end of L -/
class Tl (T L : List As) : Prop where
  sub : ∀ φ ∈ T, φ ∈ L
instance (priority := high) {T : List As} : Tl T T := ⟨fun _ h => h⟩
instance {T L : List As} {φ : As} [h : Tl T L] : Tl T (φ :: L) := ⟨fun _ hp => List.mem_cons_of_mem _ (h.sub _ hp)⟩
section
variable {H : Hp} {M M' : List Cell} {T L : List As} {a : Addr} {o : HO}
/-- the facts of the entry and a new one -/
theorem W.e (w : W H M L) (φ : As) (h : φ.φ H) [t : Tl T L] : W H M (φ :: T) := (w.say φ h).sub fun ψ hψ => by
  rcases List.mem_cons.mp hψ with z | z
  · subst z; exact List.mem_cons_self
  · exact List.mem_cons_of_mem _ (t.sub ψ z)
/-- the facts of the entry -/
theorem W.e0 (w : W H M L) [t : Tl T L] : W H M T := w.sub t.sub
theorem W.f (w : W H M T) (φ : As) [h : InT φ T] : φ.φ H := w.st φ h.mem
theorem W.c (w : W H M T) (a : Addr) {o : HO} [h : At a M o] : H a = some o := w.at_ (a, o) h.mem
theorem W.p (w : W H M T) (a : Addr) (o' : HO) {o : HO} {M' : List Cell} [h : Put a o' M o M'] (n : Nt o = true := by rfl) (n' : Nt o' = true := by rfl) : W (upd H a o') M' T := by
  obtain ⟨i, e1, e2⟩ := h.eq
  rw [← e2]
  exact w.set i e1 n o' n'
/-- a cell forgotten -/
theorem W.x (w : W H M T) (a : Addr) {o : HO} {M' : List Cell} [h : Rem a M o M'] : W H M' T := by
  have q := w.perm h.perm
  exact ⟨(List.nodup_cons.mp q.nd).2, fun c hc => q.at_ c (List.mem_cons_of_mem _ hc), q.st, fun c hc => q.nt c (List.mem_cons_of_mem _ hc)⟩
theorem W.k (w : W H M T) (as : List Addr) {M' : List Cell} [h : Tk as M M'] : W H M' T := w.perm h.perm
end
/-! ### fields by place -/
def fl (ns : List Str) (vs : List V) : List (Str × V) := ns.zip vs
theorem fl_get : ∀ {ns : List Str} {vs : List V} {k : Nat} {f : Str} {v : V}, ns.Nodup → ns[k]? = some f → vs[k]? = some v → (fl ns vs).lookup f = some v
  | [], _, _, _, _, _, h, _ => by simp at h
  | _ :: _, [], _, _, _, _, _, h => by simp at h
  | n :: ns, u :: vs, 0, f, v, _, h1, h2 => by
    simp at h1 h2; subst h1 h2
    show List.lookup n ((n, u) :: ns.zip vs) = some u
    simp [List.lookup]
  | n :: ns, u :: vs, k + 1, f, v, hn, h1, h2 => by
    simp at h1 h2
    have ne : f ≠ n := fun z => by
      subst z
      exact (List.nodup_cons.mp hn).1 (List.mem_of_getElem? h1)
    show List.lookup f ((n, u) :: ns.zip vs) = some v
    have e : (f == n) = false := by simpa using ne
    rw [List.lookup, e]
    exact fl_get (List.nodup_cons.mp hn).2 h1 h2
theorem fl_no : ∀ {ns : List Str} {vs : List V} {f : Str}, f ∉ ns → (fl ns vs).lookup f = none
  | [], _, _, _ => rfl
  | _ :: _, [], _, _ => rfl
  | n :: ns, u :: vs, f, h => by
    have ne : f ≠ n := fun z => h (z ▸ List.mem_cons_self)
    show List.lookup f ((n, u) :: ns.zip vs) = none
    have e : (f == n) = false := by simpa using ne
    rw [List.lookup, e]
    exact fl_no fun z => h (List.mem_cons_of_mem _ z)
theorem fl_put : ∀ {ns : List Str} {vs : List V} {k : Nat} {f : Str} {v : V}, ns.Nodup → ns[k]? = some f → k < vs.length → putF f v (fl ns vs) = fl ns (vs.set k v)
  | [], _, _, _, _, _, h, _ => by simp at h
  | _ :: _, [], _, _, _, _, _, h => by simp at h
  | n :: ns, u :: vs, 0, f, v, _, h1, _ => by
    simp at h1; subst h1
    show putF n v ((n, u) :: ns.zip vs) = (n, v) :: ns.zip vs
    unfold putF; rw [if_pos rfl]
  | n :: ns, u :: vs, k + 1, f, v, hn, h1, h2 => by
    simp at h1 h2
    have ne : ¬ n = f := fun z => by
      subst z
      exact (List.nodup_cons.mp hn).1 (List.mem_of_getElem? h1)
    show putF f v ((n, u) :: ns.zip vs) = (n, u) :: fl ns (vs.set k v)
    rw [← fl_put (List.nodup_cons.mp hn).2 h1 h2]
    show (if n = f then _ else (n, u) :: putF f v (ns.zip vs)) = _
    rw [if_neg ne]
    all_goals rfl
theorem fl_add : ∀ {ns : List Str} {vs : List V} {f : Str} {v : V}, ns.Nodup → ns[vs.length]? = some f → putF f v (fl ns vs) = fl ns (vs ++ [v])
  | [], _, _, _, _, h => by simp at h
  | n :: ns, [], f, v, _, h => by
    simp at h; subst h
    show putF n v [] = [(n, v)] ++ ns.zip []
    simp [putF]
  | n :: ns, u :: vs, f, v, hn, h => by
    simp at h
    have ne : ¬ n = f := fun z => by
      subst z
      exact (List.nodup_cons.mp hn).1 (List.mem_of_getElem? h)
    show putF f v ((n, u) :: ns.zip vs) = (n, u) :: fl ns (vs ++ [v])
    rw [← fl_add (List.nodup_cons.mp hn).2 h]
    show (if n = f then _ else (n, u) :: putF f v (ns.zip vs)) = _
    rw [if_neg ne]
    all_goals rfl
theorem fl_len (ns : List Str) (vs : List V) : (fl ns vs).length ≤ ns.length := by
  unfold fl; rw [List.length_zip]; omega
/-- what is known of a class: its fields' names -/
structure CO (K : PySem.W.Frag) (C : Addr) (ns : List Str) : Prop where
  cl : Cls K C
  na : ∀ f ∈ ns, NoAttr K C f
  nd : ns.Nodup
  sz : ns.length < 1000
/-- a field is written -/
theorem W.s {H : Hp} {M M' : List Cell} {T : List As} {C dx : Addr} {ns : List Str} {vs : List V} (w : W H M T) (a : Addr) (k : Nat) (v : V) [h : At a M (.ins C dx (fl ns vs))] [p : Put a (.ins C dx (fl ns (vs.set k v))) M (.ins C dx (fl ns vs)) M'] :
    W (upd H a (.ins C dx (fl ns (vs.set k v)))) M' T := w.p a _
/-- a field is made -/
theorem W.n {H : Hp} {M M' : List Cell} {T : List As} {C dx : Addr} {ns : List Str} {vs : List V} (w : W H M T) (a : Addr) (v : V) [h : At a M (.ins C dx (fl ns vs))] [p : Put a (.ins C dx (fl ns (vs ++ [v]))) M (.ins C dx (fl ns vs)) M'] :
    W (upd H a (.ins C dx (fl ns (vs ++ [v])))) M' T := w.p a _
theorem fl_nil (ns : List Str) : fl ns [] = [] := by cases ns <;> rfl
/-- a new instance -/
theorem W.made {H : Hp} {M : List Cell} {T : List As} {C x dx : Addr} (ns : List Str) (w : W H M T) (hx : H x = none) (hd : H dx = none) (ne : dx ≠ x) : W (upd (upd H dx (.own x)) x (.ins C dx [])) ((x, .ins C dx (fl ns [])) :: M) T := by
  rw [fl_nil]
  exact (w.drop hd _).new (by rw [upd_ne (Ne.symm ne)]; exact hx) _
theorem CO.ln {K : PySem.W.Frag} {C : Addr} {ns : List Str} (c : CO K C ns) {vs : List V} : (fl ns vs).length < 1000 := Nat.lt_of_le_of_lt (fl_len _ _) c.sz
section
variable {K : PySem.W.Frag} {σ : L2.St} {H : Hp} {Qv : V → Prop} {Ph : Hp → Prop} {i k : Nat} {a C dx p : Addr} {ns : List Str} {vs xs : List V} {f : Str} {v : V} {n j : Int}
/-- x.f -/
theorem r_fld (c : CO K C ns) (hσ : σ[i]? = some (some (.ref a))) (ha : H a = some (.ins C dx (fl ns vs))) (hk : ns[k]? = some f) (hv : vs[k]? = some v) (q : Qv v) :
    ∃ u, σ[i]? = some (some u) ∧ ∃ a' C' dx' fs v', u = .ref a' ∧ H a' = some (.ins C' dx' fs) ∧ Cls K C' ∧ NoAttr K C' f ∧ fs.lookup f = some v' ∧ Qv v' :=
  ⟨.ref a, hσ, a, C, dx, _, v, rfl, ha, c.cl, c.na f (List.mem_of_getElem? hk), fl_get c.nd hk hv, q⟩
/-- e.f behind e's own reading -/
theorem r_fldv (c : CO K C ns) (ha : H a = some (.ins C dx (fl ns vs))) (hk : ns[k]? = some f) (hv : vs[k]? = some v) (q : Qv v) :
    ∃ a' C' dx' fs v', V.ref a = .ref a' ∧ H a' = some (.ins C' dx' fs) ∧ Cls K C' ∧ NoAttr K C' f ∧ fs.lookup f = some v' ∧ Qv v' :=
  ⟨a, C, dx, _, v, rfl, ha, c.cl, c.na f (List.mem_of_getElem? hk), fl_get c.nd hk hv, q⟩
/-- x.f = v, v read already; x.f as a target -/
theorem r_put (c : CO K C ns) (hσ : σ[i]? = some (some (.ref a))) (ha : H a = some (.ins C dx (fl ns vs))) (hk : ns[k]? = some f) (hl : k < vs.length) (q : Ph (upd H a (.ins C dx (fl ns (vs.set k v))))) :
    ∃ u, σ[i]? = some (some u) ∧ ∃ a' C' dx' fs, u = .ref a' ∧ H a' = some (.ins C' dx' fs) ∧ Cls K C' ∧ NoAttr K C' f ∧ fs.length < 1000 ∧ Ph (upd H a' (.ins C' dx' (putF f v fs))) :=
  ⟨.ref a, hσ, a, C, dx, _, rfl, ha, c.cl, c.na f (List.mem_of_getElem? hk), Nat.lt_of_le_of_lt (fl_len _ _) c.sz, by rw [fl_put c.nd hk hl]; exact q⟩
theorem r_add (c : CO K C ns) (hσ : σ[i]? = some (some (.ref a))) (ha : H a = some (.ins C dx (fl ns vs))) (hk : ns[vs.length]? = some f) (q : Ph (upd H a (.ins C dx (fl ns (vs ++ [v]))))) :
    ∃ u, σ[i]? = some (some u) ∧ ∃ a' C' dx' fs, u = .ref a' ∧ H a' = some (.ins C' dx' fs) ∧ Cls K C' ∧ NoAttr K C' f ∧ fs.length < 1000 ∧ Ph (upd H a' (.ins C' dx' (putF f v fs))) :=
  ⟨.ref a, hσ, a, C, dx, _, rfl, ha, c.cl, c.na f (List.mem_of_getElem? hk), Nat.lt_of_le_of_lt (fl_len _ _) c.sz, by rw [fl_add c.nd hk]; exact q⟩
/-- x.f += j -/
theorem r_inc (c : CO K C ns) (hσ : σ[i]? = some (some (.ref a))) (ha : H a = some (.ins C dx (fl ns vs))) (hk : ns[k]? = some f) (hv : vs[k]? = some (.int n)) (q : Ph (upd H a (.ins C dx (fl ns (vs.set k (.int (n + j))))))) :
    ∃ u, σ[i]? = some (some u) ∧ ∃ a' C' dx' fs v', u = .ref a' ∧ H a' = some (.ins C' dx' fs) ∧ Cls K C' ∧ NoAttr K C' f ∧ fs.lookup f = some v' ∧
      ∃ m l : Int, v' = .int m ∧ V.int j = .int l ∧ ∃ dx2 fs2, H a' = some (.ins C' dx2 fs2) ∧ fs2.length < 1000 ∧ Ph (upd H a' (.ins C' dx2 (putF f (.int (m + l)) fs2))) := by
  refine ⟨.ref a, hσ, a, C, dx, _, _, rfl, ha, c.cl, c.na f (List.mem_of_getElem? hk), fl_get c.nd hk hv, n, j, rfl, rfl, dx, _, ha, Nat.lt_of_le_of_lt (fl_len _ _) c.sz, ?_⟩
  rw [fl_put c.nd hk (List.getElem?_eq_some_iff.mp hv).1]
  exact q
/-- x[j], x a tuple -/
theorem r_ixT (hσ : σ[i]? = some (some (.ref p))) (h : H p = some (.tup xs)) (ha : atI xs j = some v) (q : Qv v) :
    ∃ u, σ[i]? = some (some u) ∧ ∃ p' xs' j' v', u = .ref p' ∧ V.int j = .int j' ∧ SqT K H p' xs' ∧ atI xs' j' = some v' ∧ Qv v' := ⟨_, hσ, p, xs, j, v, rfl, rfl, SqT.of h, ha, q⟩
end
end Su

set_option Elab.async false
set_option linter.all false
set_option maxRecDepth 100000
set_option maxHeartbeats 2000000
/-! the facts of the top by names; a def with its promise; calls -/
namespace Su
open PySem PySem.Spec PyProof.Rows L2
/-- what is known of the written part -/
structure Tp (K : PySem.W.Frag) (mg : Str → Option Value) (base : Heap) : Prop where
  ok : ∀ f ∈ fa, f.ok K = true
  glo : ∀ x, He.Fa.glo x ∈ fa → mg x = some (.ref (He.ga K x))
  free : ∀ x, He.Fa.free x ∈ fa → mg x = none
  int : ∀ x i, He.Fa.int x i ∈ fa → ∃ t, mg x = some (.int i t)
  df : ∀ d ∈ fn, ∃ fd, Fun K d.name d.qual d.st (d.wh.at_ K) fd
  pr : ∀ p ∈ asks.pr, Hz.prB K p = true
  tb : ∀ w ∈ asks.tf, GxR.TabB base mg (Hz.codeW K w) (Hz.tabW K w)
section
variable {K : PySem.W.Frag} {mg : Str → Option Value} {base : Heap}
theorem Tp.g_Reader (T : Tp K mg base) : mg "Reader" = some (.ref (He.ga K "Reader")) := T.glo _ (List.mem_of_getElem? (i := 0) rfl)
theorem Tp.c_Reader (T : Tp K mg base) : Cls K (He.ga K "Reader") := He.cls_ok (T.ok _ (List.mem_of_getElem? (i := 1) rfl))
theorem Tp.m_Reader (T : Tp K mg base) : Mk K (He.ga K "Reader") (He.ma K (He.ga K "Reader") "__init__") := He.mkr_ok (T.ok _ (List.mem_of_getElem? (i := 2) rfl))
theorem Tp.g_Shown (T : Tp K mg base) : mg "Shown" = some (.ref (He.ga K "Shown")) := T.glo _ (List.mem_of_getElem? (i := 14) rfl)
theorem Tp.c_Shown (T : Tp K mg base) : Cls K (He.ga K "Shown") := He.cls_ok (T.ok _ (List.mem_of_getElem? (i := 15) rfl))
theorem Tp.m_Shown (T : Tp K mg base) : Mk K (He.ga K "Shown") (He.ma K (He.ga K "Shown") "__init__") := He.mkr_ok (T.ok _ (List.mem_of_getElem? (i := 16) rfl))
theorem Tp.g_Proving (T : Tp K mg base) : mg "Proving" = some (.ref (He.ga K "Proving")) := T.glo _ (List.mem_of_getElem? (i := 26) rfl)
theorem Tp.c_Proving (T : Tp K mg base) : Cls K (He.ga K "Proving") := He.cls_ok (T.ok _ (List.mem_of_getElem? (i := 27) rfl))
theorem Tp.m_Proving (T : Tp K mg base) : Mk K (He.ga K "Proving") (He.ma K (He.ga K "Proving") "__init__") := He.mkr_ok (T.ok _ (List.mem_of_getElem? (i := 28) rfl))
theorem Tp.g_Sender (T : Tp K mg base) : mg "Sender" = some (.ref (He.ga K "Sender")) := T.glo _ (List.mem_of_getElem? (i := 36) rfl)
theorem Tp.c_Sender (T : Tp K mg base) : Cls K (He.ga K "Sender") := He.cls_ok (T.ok _ (List.mem_of_getElem? (i := 37) rfl))
theorem Tp.m_Sender (T : Tp K mg base) : Mk K (He.ga K "Sender") (He.ma K (He.ga K "Sender") "__init__") := He.mkr_ok (T.ok _ (List.mem_of_getElem? (i := 38) rfl))
theorem Tp.g_Core (T : Tp K mg base) : mg "Core" = some (.ref (He.ga K "Core")) := T.glo _ (List.mem_of_getElem? (i := 60) rfl)
theorem Tp.c_Core (T : Tp K mg base) : Cls K (He.ga K "Core") := He.cls_ok (T.ok _ (List.mem_of_getElem? (i := 61) rfl))
theorem Tp.m_Core (T : Tp K mg base) : Mk K (He.ga K "Core") (He.ma K (He.ga K "Core") "__init__") := He.mkr_ok (T.ok _ (List.mem_of_getElem? (i := 62) rfl))
theorem Tp.g_Crossing (T : Tp K mg base) : mg "Crossing" = some (.ref (He.ga K "Crossing")) := T.glo _ (List.mem_of_getElem? (i := 67) rfl)
theorem Tp.c_Crossing (T : Tp K mg base) : Cls K (He.ga K "Crossing") := He.cls_ok (T.ok _ (List.mem_of_getElem? (i := 68) rfl))
theorem Tp.m_Crossing (T : Tp K mg base) : Mk K (He.ga K "Crossing") (He.ma K (He.ga K "Crossing") "__init__") := He.mkr_ok (T.ok _ (List.mem_of_getElem? (i := 69) rfl))
theorem Tp.g_Queue (T : Tp K mg base) : mg "Queue" = some (.ref (He.ga K "Queue")) := T.glo _ (List.mem_of_getElem? (i := 73) rfl)
theorem Tp.c_Queue (T : Tp K mg base) : Cls K (He.ga K "Queue") := He.cls_ok (T.ok _ (List.mem_of_getElem? (i := 74) rfl))
theorem Tp.m_Queue (T : Tp K mg base) : Mk K (He.ga K "Queue") (He.ma K (He.ga K "Queue") "__init__") := He.mkr_ok (T.ok _ (List.mem_of_getElem? (i := 75) rfl))
theorem Tp.g_as_ranges (T : Tp K mg base) : mg "as_ranges" = some (.ref (He.ga K "as_ranges")) := T.glo _ (List.mem_of_getElem? (i := 80) rfl)
theorem Tp.m_Reader_take (T : Tp K mg base) : Meth K (He.ga K "Reader") "take" (He.ma K (He.ga K "Reader") "take") := He.meth_ok (T.ok _ (List.mem_of_getElem? (i := 81) rfl))
theorem Tp.m_Reader_read_on (T : Tp K mg base) : Meth K (He.ga K "Reader") "read_on" (He.ma K (He.ga K "Reader") "read_on") := He.meth_ok (T.ok _ (List.mem_of_getElem? (i := 82) rfl))
theorem Tp.m_Reader_is_due (T : Tp K mg base) : Meth K (He.ga K "Reader") "is_due" (He.ma K (He.ga K "Reader") "is_due") := He.meth_ok (T.ok _ (List.mem_of_getElem? (i := 83) rfl))
theorem Tp.m_Reader_ack (T : Tp K mg base) : Meth K (He.ga K "Reader") "ack" (He.ma K (He.ga K "Reader") "ack") := He.meth_ok (T.ok _ (List.mem_of_getElem? (i := 84) rfl))
theorem Tp.g_divisor (T : Tp K mg base) : mg "divisor" = some (.ref (He.ga K "divisor")) := T.glo _ (List.mem_of_getElem? (i := 85) rfl)
theorem Tp.g_lowest (T : Tp K mg base) : mg "lowest" = some (.ref (He.ga K "lowest")) := T.glo _ (List.mem_of_getElem? (i := 86) rfl)
theorem Tp.g_plus (T : Tp K mg base) : mg "plus" = some (.ref (He.ga K "plus")) := T.glo _ (List.mem_of_getElem? (i := 87) rfl)
theorem Tp.g_product (T : Tp K mg base) : mg "product" = some (.ref (He.ga K "product")) := T.glo _ (List.mem_of_getElem? (i := 88) rfl)
theorem Tp.g_is_less (T : Tp K mg base) : mg "is_less" = some (.ref (He.ga K "is_less")) := T.glo _ (List.mem_of_getElem? (i := 89) rfl)
theorem Tp.g_greater_of (T : Tp K mg base) : mg "greater_of" = some (.ref (He.ga K "greater_of")) := T.glo _ (List.mem_of_getElem? (i := 90) rfl)
theorem Tp.g_gap_size (T : Tp K mg base) : mg "gap_size" = some (.ref (He.ga K "gap_size")) := T.glo _ (List.mem_of_getElem? (i := 91) rfl)
theorem Tp.g_rounded_down (T : Tp K mg base) : mg "rounded_down" = some (.ref (He.ga K "rounded_down")) := T.glo _ (List.mem_of_getElem? (i := 92) rfl)
theorem Tp.g_back_of (T : Tp K mg base) : mg "back_of" = some (.ref (He.ga K "back_of")) := T.glo _ (List.mem_of_getElem? (i := 93) rfl)
theorem Tp.g_most_trip (T : Tp K mg base) : mg "most_trip" = some (.ref (He.ga K "most_trip")) := T.glo _ (List.mem_of_getElem? (i := 94) rfl)
theorem Tp.m_Shown_is_bound (T : Tp K mg base) : Meth K (He.ga K "Shown") "is_bound" (He.ma K (He.ga K "Shown") "is_bound") := He.meth_ok (T.ok _ (List.mem_of_getElem? (i := 95) rfl))
theorem Tp.m_Shown_is_silent (T : Tp K mg base) : Meth K (He.ga K "Shown") "is_silent" (He.ma K (He.ga K "Shown") "is_silent") := He.meth_ok (T.ok _ (List.mem_of_getElem? (i := 96) rfl))
theorem Tp.m_Shown_is_lost (T : Tp K mg base) : Meth K (He.ga K "Shown") "is_lost" (He.ma K (He.ga K "Shown") "is_lost") := He.meth_ok (T.ok _ (List.mem_of_getElem? (i := 97) rfl))
theorem Tp.m_Proving_hear (T : Tp K mg base) : Meth K (He.ga K "Proving") "hear" (He.ma K (He.ga K "Proving") "hear") := He.meth_ok (T.ok _ (List.mem_of_getElem? (i := 98) rfl))
theorem Tp.m_Proving_unheard (T : Tp K mg base) : Meth K (He.ga K "Proving") "unheard" (He.ma K (He.ga K "Proving") "unheard") := He.meth_ok (T.ok _ (List.mem_of_getElem? (i := 99) rfl))
theorem Tp.m_Proving_shown (T : Tp K mg base) : Meth K (He.ga K "Proving") "shown" (He.ma K (He.ga K "Proving") "shown") := He.meth_ok (T.ok _ (List.mem_of_getElem? (i := 100) rfl))
theorem Tp.g_smoothed (T : Tp K mg base) : mg "smoothed" = some (.ref (He.ga K "smoothed")) := T.glo _ (List.mem_of_getElem? (i := 101) rfl)
theorem Tp.g_first_pair (T : Tp K mg base) : mg "first_pair" = some (.ref (He.ga K "first_pair")) := T.glo _ (List.mem_of_getElem? (i := 102) rfl)
theorem Tp.g_length_of (T : Tp K mg base) : mg "length_of" = some (.ref (He.ga K "length_of")) := T.glo _ (List.mem_of_getElem? (i := 103) rfl)
theorem Tp.m_Sender_out (T : Tp K mg base) : Meth K (He.ga K "Sender") "out" (He.ma K (He.ga K "Sender") "out") := He.meth_ok (T.ok _ (List.mem_of_getElem? (i := 104) rfl))
theorem Tp.m_Sender_length (T : Tp K mg base) : Meth K (He.ga K "Sender") "length" (He.ma K (He.ga K "Sender") "length") := He.meth_ok (T.ok _ (List.mem_of_getElem? (i := 105) rfl))
theorem Tp.m_Sender_hear (T : Tp K mg base) : Meth K (He.ga K "Sender") "hear" (He.ma K (He.ga K "Sender") "hear") := He.meth_ok (T.ok _ (List.mem_of_getElem? (i := 106) rfl))
theorem Tp.m_Sender_settle (T : Tp K mg base) : Meth K (He.ga K "Sender") "settle" (He.ma K (He.ga K "Sender") "settle") := He.meth_ok (T.ok _ (List.mem_of_getElem? (i := 107) rfl))
theorem Tp.m_Sender_measure (T : Tp K mg base) : Meth K (He.ga K "Sender") "measure" (He.ma K (He.ga K "Sender") "measure") := He.meth_ok (T.ok _ (List.mem_of_getElem? (i := 108) rfl))
theorem Tp.m_Sender_grow (T : Tp K mg base) : Meth K (He.ga K "Sender") "grow" (He.ma K (He.ga K "Sender") "grow") := He.meth_ok (T.ok _ (List.mem_of_getElem? (i := 109) rfl))
theorem Tp.m_Sender_lost_now (T : Tp K mg base) : Meth K (He.ga K "Sender") "lost_now" (He.ma K (He.ga K "Sender") "lost_now") := He.meth_ok (T.ok _ (List.mem_of_getElem? (i := 110) rfl))
theorem Tp.m_Sender_patience (T : Tp K mg base) : Meth K (He.ga K "Sender") "patience" (He.ma K (He.ga K "Sender") "patience") := He.meth_ok (T.ok _ (List.mem_of_getElem? (i := 111) rfl))
theorem Tp.m_Sender_take_lost (T : Tp K mg base) : Meth K (He.ga K "Sender") "take_lost" (He.ma K (He.ga K "Sender") "take_lost") := He.meth_ok (T.ok _ (List.mem_of_getElem? (i := 112) rfl))
theorem Tp.m_Sender_cut_window (T : Tp K mg base) : Meth K (He.ga K "Sender") "cut_window" (He.ma K (He.ga K "Sender") "cut_window") := He.meth_ok (T.ok _ (List.mem_of_getElem? (i := 113) rfl))
theorem Tp.m_Sender_is_written (T : Tp K mg base) : Meth K (He.ga K "Sender") "is_written" (He.ma K (He.ga K "Sender") "is_written") := He.meth_ok (T.ok _ (List.mem_of_getElem? (i := 114) rfl))
theorem Tp.m_Sender_timer (T : Tp K mg base) : Meth K (He.ga K "Sender") "timer" (He.ma K (He.ga K "Sender") "timer") := He.meth_ok (T.ok _ (List.mem_of_getElem? (i := 115) rfl))
theorem Tp.m_Sender_next_letter (T : Tp K mg base) : Meth K (He.ga K "Sender") "next_letter" (He.ma K (He.ga K "Sender") "next_letter") := He.meth_ok (T.ok _ (List.mem_of_getElem? (i := 116) rfl))
theorem Tp.m_Sender_probe_letter (T : Tp K mg base) : Meth K (He.ga K "Sender") "probe_letter" (He.ma K (He.ga K "Sender") "probe_letter") := He.meth_ok (T.ok _ (List.mem_of_getElem? (i := 117) rfl))
theorem Tp.m_Sender_send (T : Tp K mg base) : Meth K (He.ga K "Sender") "send" (He.ma K (He.ga K "Sender") "send") := He.meth_ok (T.ok _ (List.mem_of_getElem? (i := 118) rfl))
theorem Tp.m_Core_reading (T : Tp K mg base) : Meth K (He.ga K "Core") "reading" (He.ma K (He.ga K "Core") "reading") := He.meth_ok (T.ok _ (List.mem_of_getElem? (i := 119) rfl))
theorem Tp.m_Core_sending (T : Tp K mg base) : Meth K (He.ga K "Core") "sending" (He.ma K (He.ga K "Core") "sending") := He.meth_ok (T.ok _ (List.mem_of_getElem? (i := 120) rfl))
theorem Tp.m_Core_go (T : Tp K mg base) : Meth K (He.ga K "Core") "go" (He.ma K (He.ga K "Core") "go") := He.meth_ok (T.ok _ (List.mem_of_getElem? (i := 121) rfl))
theorem Tp.g_new_core (T : Tp K mg base) : mg "new_core" = some (.ref (He.ga K "new_core")) := T.glo _ (List.mem_of_getElem? (i := 122) rfl)
theorem Tp.m_Crossing_tick (T : Tp K mg base) : Meth K (He.ga K "Crossing") "tick" (He.ma K (He.ga K "Crossing") "tick") := He.meth_ok (T.ok _ (List.mem_of_getElem? (i := 123) rfl))
theorem Tp.m_Queue_enter (T : Tp K mg base) : Meth K (He.ga K "Queue") "enter" (He.ma K (He.ga K "Queue") "enter") := He.meth_ok (T.ok _ (List.mem_of_getElem? (i := 124) rfl))
theorem Tp.g_road_of (T : Tp K mg base) : mg "road_of" = some (.ref (He.ga K "road_of")) := T.glo _ (List.mem_of_getElem? (i := 125) rfl)
theorem Tp.g_queued (T : Tp K mg base) : mg "queued" = some (.ref (He.ga K "queued")) := T.glo _ (List.mem_of_getElem? (i := 126) rfl)
theorem Tp.g_empty_trip (T : Tp K mg base) : mg "empty_trip" = some (.ref (He.ga K "empty_trip")) := T.glo _ (List.mem_of_getElem? (i := 127) rfl)
theorem Tp.g_reading_ticks (T : Tp K mg base) : mg "reading_ticks" = some (.ref (He.ga K "reading_ticks")) := T.glo _ (List.mem_of_getElem? (i := 128) rfl)
theorem Tp.g_law_bag (T : Tp K mg base) : mg "_law_bag" = some (.ref (He.ga K "_law_bag")) := T.glo _ (List.mem_of_getElem? (i := 129) rfl)
theorem Tp.g_law_draw (T : Tp K mg base) : mg "_law_draw" = some (.ref (He.ga K "_law_draw")) := T.glo _ (List.mem_of_getElem? (i := 130) rfl)
theorem Tp.g_law_pick (T : Tp K mg base) : mg "_law_pick" = some (.ref (He.ga K "_law_pick")) := T.glo _ (List.mem_of_getElem? (i := 131) rfl)
theorem Tp.g_law_same (T : Tp K mg base) : mg "_law_same" = some (.ref (He.ga K "_law_same")) := T.glo _ (List.mem_of_getElem? (i := 132) rfl)
theorem Tp.g_law_up (T : Tp K mg base) : mg "_law_up" = some (.ref (He.ga K "_law_up")) := T.glo _ (List.mem_of_getElem? (i := 133) rfl)
theorem Tp.g_law_book (T : Tp K mg base) : mg "_law_book" = some (.ref (He.ga K "_law_book")) := T.glo _ (List.mem_of_getElem? (i := 134) rfl)
theorem Tp.g_law_trip (T : Tp K mg base) : mg "_law_trip" = some (.ref (He.ga K "_law_trip")) := T.glo _ (List.mem_of_getElem? (i := 135) rfl)
theorem Tp.g_law_room (T : Tp K mg base) : mg "_law_room" = some (.ref (He.ga K "_law_room")) := T.glo _ (List.mem_of_getElem? (i := 136) rfl)
theorem Tp.g_law_own_ticks (T : Tp K mg base) : mg "_law_own_ticks" = some (.ref (He.ga K "_law_own_ticks")) := T.glo _ (List.mem_of_getElem? (i := 137) rfl)
theorem Tp.g_law_drawn (T : Tp K mg base) : mg "_law_drawn" = some (.ref (He.ga K "_law_drawn")) := T.glo _ (List.mem_of_getElem? (i := 138) rfl)
theorem Tp.g_law_read_ticks (T : Tp K mg base) : mg "_law_read_ticks" = some (.ref (He.ga K "_law_read_ticks")) := T.glo _ (List.mem_of_getElem? (i := 139) rfl)
theorem Tp.g_law (T : Tp K mg base) : mg "law" = some (.ref (He.ga K "law")) := T.glo _ (List.mem_of_getElem? (i := 140) rfl)
theorem Tp.b_abs (T : Tp K mg base) : mg "abs" = none := T.free _ (List.mem_of_getElem? (i := 141) rfl)
theorem Tp.b_all (T : Tp K mg base) : mg "all" = none := T.free _ (List.mem_of_getElem? (i := 142) rfl)
theorem Tp.b_any (T : Tp K mg base) : mg "any" = none := T.free _ (List.mem_of_getElem? (i := 143) rfl)
theorem Tp.b_bool (T : Tp K mg base) : mg "bool" = none := T.free _ (List.mem_of_getElem? (i := 144) rfl)
theorem Tp.b_enumerate (T : Tp K mg base) : mg "enumerate" = none := T.free _ (List.mem_of_getElem? (i := 145) rfl)
theorem Tp.b_int (T : Tp K mg base) : mg "int" = none := T.free _ (List.mem_of_getElem? (i := 146) rfl)
theorem Tp.b_isinstance (T : Tp K mg base) : mg "isinstance" = none := T.free _ (List.mem_of_getElem? (i := 147) rfl)
theorem Tp.b_len (T : Tp K mg base) : mg "len" = none := T.free _ (List.mem_of_getElem? (i := 148) rfl)
theorem Tp.b_list (T : Tp K mg base) : mg "list" = none := T.free _ (List.mem_of_getElem? (i := 149) rfl)
theorem Tp.b_max (T : Tp K mg base) : mg "max" = none := T.free _ (List.mem_of_getElem? (i := 150) rfl)
theorem Tp.b_min (T : Tp K mg base) : mg "min" = none := T.free _ (List.mem_of_getElem? (i := 151) rfl)
theorem Tp.b_property (T : Tp K mg base) : mg "property" = none := T.free _ (List.mem_of_getElem? (i := 152) rfl)
theorem Tp.b_range (T : Tp K mg base) : mg "range" = none := T.free _ (List.mem_of_getElem? (i := 153) rfl)
theorem Tp.b_sorted (T : Tp K mg base) : mg "sorted" = none := T.free _ (List.mem_of_getElem? (i := 154) rfl)
theorem Tp.b_str (T : Tp K mg base) : mg "str" = none := T.free _ (List.mem_of_getElem? (i := 155) rfl)
theorem Tp.b_tuple (T : Tp K mg base) : mg "tuple" = none := T.free _ (List.mem_of_getElem? (i := 156) rfl)
theorem Tp.b_zip (T : Tp K mg base) : mg "zip" = none := T.free _ (List.mem_of_getElem? (i := 157) rfl)
theorem Tp.i_OUT (T : Tp K mg base) : ∃ t, mg "OUT" = some (.int 0 t) := T.int _ _ (List.mem_of_getElem? (i := 158) rfl)
theorem Tp.i_TOLD (T : Tp K mg base) : ∃ t, mg "TOLD" = some (.int 1 t) := T.int _ _ (List.mem_of_getElem? (i := 159) rfl)
theorem Tp.i_TAKEN (T : Tp K mg base) : ∃ t, mg "TAKEN" = some (.int 2 t) := T.int _ _ (List.mem_of_getElem? (i := 160) rfl)
theorem Tp.i_TOLD_LATE (T : Tp K mg base) : ∃ t, mg "TOLD_LATE" = some (.int 3 t) := T.int _ _ (List.mem_of_getElem? (i := 161) rfl)
theorem Tp.i_MOST_LOG (T : Tp K mg base) : ∃ t, mg "MOST_LOG" = some (.int 4000 t) := T.int _ _ (List.mem_of_getElem? (i := 162) rfl)
def nsReader : List Str := ["data", "wait", "came", "kept", "read", "acks", "greatest", "greatest_tick", "told", "first", "at_once"]
theorem Tp.o_Reader (T : Tp K mg base) : CO K (He.ga K "Reader") nsReader := by
  refine ⟨T.c_Reader, fun f hf => ?_, by unfold nsReader; decide +kernel, by unfold nsReader; decide⟩
  simp only [nsReader, List.mem_cons, List.not_mem_nil, or_false] at hf
  rcases hf with rfl | rfl | rfl | rfl | rfl | rfl | rfl | rfl | rfl | rfl | rfl
  · exact He.noat_ok (T.ok _ (List.mem_of_getElem? (i := 3) rfl))
  · exact He.noat_ok (T.ok _ (List.mem_of_getElem? (i := 4) rfl))
  · exact He.noat_ok (T.ok _ (List.mem_of_getElem? (i := 5) rfl))
  · exact He.noat_ok (T.ok _ (List.mem_of_getElem? (i := 6) rfl))
  · exact He.noat_ok (T.ok _ (List.mem_of_getElem? (i := 7) rfl))
  · exact He.noat_ok (T.ok _ (List.mem_of_getElem? (i := 8) rfl))
  · exact He.noat_ok (T.ok _ (List.mem_of_getElem? (i := 9) rfl))
  · exact He.noat_ok (T.ok _ (List.mem_of_getElem? (i := 10) rfl))
  · exact He.noat_ok (T.ok _ (List.mem_of_getElem? (i := 11) rfl))
  · exact He.noat_ok (T.ok _ (List.mem_of_getElem? (i := 12) rfl))
  · exact He.noat_ok (T.ok _ (List.mem_of_getElem? (i := 13) rfl))
def nsShown : List Str := ["now", "rule", "sent", "reach", "trip", "wait", "bound", "least", "greatest"]
theorem Tp.o_Shown (T : Tp K mg base) : CO K (He.ga K "Shown") nsShown := by
  refine ⟨T.c_Shown, fun f hf => ?_, by unfold nsShown; decide +kernel, by unfold nsShown; decide⟩
  simp only [nsShown, List.mem_cons, List.not_mem_nil, or_false] at hf
  rcases hf with rfl | rfl | rfl | rfl | rfl | rfl | rfl | rfl | rfl
  · exact He.noat_ok (T.ok _ (List.mem_of_getElem? (i := 17) rfl))
  · exact He.noat_ok (T.ok _ (List.mem_of_getElem? (i := 18) rfl))
  · exact He.noat_ok (T.ok _ (List.mem_of_getElem? (i := 19) rfl))
  · exact He.noat_ok (T.ok _ (List.mem_of_getElem? (i := 20) rfl))
  · exact He.noat_ok (T.ok _ (List.mem_of_getElem? (i := 21) rfl))
  · exact He.noat_ok (T.ok _ (List.mem_of_getElem? (i := 22) rfl))
  · exact He.noat_ok (T.ok _ (List.mem_of_getElem? (i := 23) rfl))
  · exact He.noat_ok (T.ok _ (List.mem_of_getElem? (i := 24) rfl))
  · exact He.noat_ok (T.ok _ (List.mem_of_getElem? (i := 25) rfl))
def nsProving : List Str := ["road", "ticks", "tellers", "greatest", "best", "least", "most"]
theorem Tp.o_Proving (T : Tp K mg base) : CO K (He.ga K "Proving") nsProving := by
  refine ⟨T.c_Proving, fun f hf => ?_, by unfold nsProving; decide +kernel, by unfold nsProving; decide⟩
  simp only [nsProving, List.mem_cons, List.not_mem_nil, or_false] at hf
  rcases hf with rfl | rfl | rfl | rfl | rfl | rfl | rfl
  · exact He.noat_ok (T.ok _ (List.mem_of_getElem? (i := 29) rfl))
  · exact He.noat_ok (T.ok _ (List.mem_of_getElem? (i := 30) rfl))
  · exact He.noat_ok (T.ok _ (List.mem_of_getElem? (i := 31) rfl))
  · exact He.noat_ok (T.ok _ (List.mem_of_getElem? (i := 32) rfl))
  · exact He.noat_ok (T.ok _ (List.mem_of_getElem? (i := 33) rfl))
  · exact He.noat_ok (T.ok _ (List.mem_of_getElem? (i := 34) rfl))
  · exact He.noat_ok (T.ok _ (List.mem_of_getElem? (i := 35) rfl))
def nsSender : List Str := ["road", "data", "sent", "letters", "states", "going", "settled", "anew", "next_of", "allowed", "pair", "latest", "count", "probe", "window", "knee", "grown", "mark", "greatest", "proving", "book"]
theorem Tp.o_Sender (T : Tp K mg base) : CO K (He.ga K "Sender") nsSender := by
  refine ⟨T.c_Sender, fun f hf => ?_, by unfold nsSender; decide +kernel, by unfold nsSender; decide⟩
  simp only [nsSender, List.mem_cons, List.not_mem_nil, or_false] at hf
  rcases hf with rfl | rfl | rfl | rfl | rfl | rfl | rfl | rfl | rfl | rfl | rfl | rfl | rfl | rfl | rfl | rfl | rfl | rfl | rfl | rfl | rfl
  · exact He.noat_ok (T.ok _ (List.mem_of_getElem? (i := 39) rfl))
  · exact He.noat_ok (T.ok _ (List.mem_of_getElem? (i := 40) rfl))
  · exact He.noat_ok (T.ok _ (List.mem_of_getElem? (i := 46) rfl))
  · exact He.noat_ok (T.ok _ (List.mem_of_getElem? (i := 47) rfl))
  · exact He.noat_ok (T.ok _ (List.mem_of_getElem? (i := 48) rfl))
  · exact He.noat_ok (T.ok _ (List.mem_of_getElem? (i := 49) rfl))
  · exact He.noat_ok (T.ok _ (List.mem_of_getElem? (i := 50) rfl))
  · exact He.noat_ok (T.ok _ (List.mem_of_getElem? (i := 51) rfl))
  · exact He.noat_ok (T.ok _ (List.mem_of_getElem? (i := 41) rfl))
  · exact He.noat_ok (T.ok _ (List.mem_of_getElem? (i := 42) rfl))
  · exact He.noat_ok (T.ok _ (List.mem_of_getElem? (i := 52) rfl))
  · exact He.noat_ok (T.ok _ (List.mem_of_getElem? (i := 53) rfl))
  · exact He.noat_ok (T.ok _ (List.mem_of_getElem? (i := 54) rfl))
  · exact He.noat_ok (T.ok _ (List.mem_of_getElem? (i := 55) rfl))
  · exact He.noat_ok (T.ok _ (List.mem_of_getElem? (i := 56) rfl))
  · exact He.noat_ok (T.ok _ (List.mem_of_getElem? (i := 57) rfl))
  · exact He.noat_ok (T.ok _ (List.mem_of_getElem? (i := 58) rfl))
  · exact He.noat_ok (T.ok _ (List.mem_of_getElem? (i := 59) rfl))
  · exact He.noat_ok (T.ok _ (List.mem_of_getElem? (i := 43) rfl))
  · exact He.noat_ok (T.ok _ (List.mem_of_getElem? (i := 44) rfl))
  · exact He.noat_ok (T.ok _ (List.mem_of_getElem? (i := 45) rfl))
def nsCore : List Str := ["sender", "reader", "packets", "acks"]
theorem Tp.o_Core (T : Tp K mg base) : CO K (He.ga K "Core") nsCore := by
  refine ⟨T.c_Core, fun f hf => ?_, by unfold nsCore; decide +kernel, by unfold nsCore; decide⟩
  simp only [nsCore, List.mem_cons, List.not_mem_nil, or_false] at hf
  rcases hf with rfl | rfl | rfl | rfl
  · exact He.noat_ok (T.ok _ (List.mem_of_getElem? (i := 63) rfl))
  · exact He.noat_ok (T.ok _ (List.mem_of_getElem? (i := 64) rfl))
  · exact He.noat_ok (T.ok _ (List.mem_of_getElem? (i := 65) rfl))
  · exact He.noat_ok (T.ok _ (List.mem_of_getElem? (i := 66) rfl))
def nsCrossing : List Str := ["_road", "_core", "_now"]
theorem Tp.o_Crossing (T : Tp K mg base) : CO K (He.ga K "Crossing") nsCrossing := by
  refine ⟨T.c_Crossing, fun f hf => ?_, by unfold nsCrossing; decide +kernel, by unfold nsCrossing; decide⟩
  simp only [nsCrossing, List.mem_cons, List.not_mem_nil, or_false] at hf
  rcases hf with rfl | rfl | rfl
  · exact He.noat_ok (T.ok _ (List.mem_of_getElem? (i := 70) rfl))
  · exact He.noat_ok (T.ok _ (List.mem_of_getElem? (i := 71) rfl))
  · exact He.noat_ok (T.ok _ (List.mem_of_getElem? (i := 72) rfl))
def nsQueue : List Str := ["lo", "rate", "room", "leaves"]
theorem Tp.o_Queue (T : Tp K mg base) : CO K (He.ga K "Queue") nsQueue := by
  refine ⟨T.c_Queue, fun f hf => ?_, by unfold nsQueue; decide +kernel, by unfold nsQueue; decide⟩
  simp only [nsQueue, List.mem_cons, List.not_mem_nil, or_false] at hf
  rcases hf with rfl | rfl | rfl | rfl
  · exact He.noat_ok (T.ok _ (List.mem_of_getElem? (i := 77) rfl))
  · exact He.noat_ok (T.ok _ (List.mem_of_getElem? (i := 78) rfl))
  · exact He.noat_ok (T.ok _ (List.mem_of_getElem? (i := 79) rfl))
  · exact He.noat_ok (T.ok _ (List.mem_of_getElem? (i := 76) rfl))
theorem Tp.f_as_ranges (T : Tp K mg base) : ∃ fd, Fun K "as_ranges" "as_ranges" s_as_ranges (Hz.Wh.at_ K (.glo "as_ranges")) fd := T.df d_as_ranges (List.mem_of_getElem? (i := 0) rfl)
theorem Tp.f_Reader_init (T : Tp K mg base) : ∃ fd, Fun K "__init__" "Reader.__init__" s_Reader_init (Hz.Wh.at_ K (.met "Reader" "__init__")) fd := T.df d_Reader_init (List.mem_of_getElem? (i := 1) rfl)
theorem Tp.f_Reader_take (T : Tp K mg base) : ∃ fd, Fun K "take" "Reader.take" s_Reader_take (Hz.Wh.at_ K (.met "Reader" "take")) fd := T.df d_Reader_take (List.mem_of_getElem? (i := 2) rfl)
theorem Tp.f_Reader_read_on (T : Tp K mg base) : ∃ fd, Fun K "read_on" "Reader.read_on" s_Reader_read_on (Hz.Wh.at_ K (.met "Reader" "read_on")) fd := T.df d_Reader_read_on (List.mem_of_getElem? (i := 3) rfl)
theorem Tp.f_Reader_is_due (T : Tp K mg base) : ∃ fd, Fun K "is_due" "Reader.is_due" s_Reader_is_due (Hz.Wh.at_ K (.met "Reader" "is_due")) fd := T.df d_Reader_is_due (List.mem_of_getElem? (i := 4) rfl)
theorem Tp.f_Reader_ack (T : Tp K mg base) : ∃ fd, Fun K "ack" "Reader.ack" s_Reader_ack (Hz.Wh.at_ K (.met "Reader" "ack")) fd := T.df d_Reader_ack (List.mem_of_getElem? (i := 5) rfl)
theorem Tp.f_divisor (T : Tp K mg base) : ∃ fd, Fun K "divisor" "divisor" s_divisor (Hz.Wh.at_ K (.glo "divisor")) fd := T.df d_divisor (List.mem_of_getElem? (i := 6) rfl)
theorem Tp.f_lowest (T : Tp K mg base) : ∃ fd, Fun K "lowest" "lowest" s_lowest (Hz.Wh.at_ K (.glo "lowest")) fd := T.df d_lowest (List.mem_of_getElem? (i := 7) rfl)
theorem Tp.f_plus (T : Tp K mg base) : ∃ fd, Fun K "plus" "plus" s_plus (Hz.Wh.at_ K (.glo "plus")) fd := T.df d_plus (List.mem_of_getElem? (i := 8) rfl)
theorem Tp.f_product (T : Tp K mg base) : ∃ fd, Fun K "product" "product" s_product (Hz.Wh.at_ K (.glo "product")) fd := T.df d_product (List.mem_of_getElem? (i := 9) rfl)
theorem Tp.f_is_less (T : Tp K mg base) : ∃ fd, Fun K "is_less" "is_less" s_is_less (Hz.Wh.at_ K (.glo "is_less")) fd := T.df d_is_less (List.mem_of_getElem? (i := 10) rfl)
theorem Tp.f_greater_of (T : Tp K mg base) : ∃ fd, Fun K "greater_of" "greater_of" s_greater_of (Hz.Wh.at_ K (.glo "greater_of")) fd := T.df d_greater_of (List.mem_of_getElem? (i := 11) rfl)
theorem Tp.f_gap_size (T : Tp K mg base) : ∃ fd, Fun K "gap_size" "gap_size" s_gap_size (Hz.Wh.at_ K (.glo "gap_size")) fd := T.df d_gap_size (List.mem_of_getElem? (i := 12) rfl)
theorem Tp.f_rounded_down (T : Tp K mg base) : ∃ fd, Fun K "rounded_down" "rounded_down" s_rounded_down (Hz.Wh.at_ K (.glo "rounded_down")) fd := T.df d_rounded_down (List.mem_of_getElem? (i := 13) rfl)
theorem Tp.f_back_of (T : Tp K mg base) : ∃ fd, Fun K "back_of" "back_of" s_back_of (Hz.Wh.at_ K (.glo "back_of")) fd := T.df d_back_of (List.mem_of_getElem? (i := 14) rfl)
theorem Tp.f_most_trip (T : Tp K mg base) : ∃ fd, Fun K "most_trip" "most_trip" s_most_trip (Hz.Wh.at_ K (.glo "most_trip")) fd := T.df d_most_trip (List.mem_of_getElem? (i := 15) rfl)
theorem Tp.f_Shown_init (T : Tp K mg base) : ∃ fd, Fun K "__init__" "Shown.__init__" s_Shown_init (Hz.Wh.at_ K (.met "Shown" "__init__")) fd := T.df d_Shown_init (List.mem_of_getElem? (i := 16) rfl)
theorem Tp.f_Shown_is_bound (T : Tp K mg base) : ∃ fd, Fun K "is_bound" "Shown.is_bound" s_Shown_is_bound (Hz.Wh.at_ K (.met "Shown" "is_bound")) fd := T.df d_Shown_is_bound (List.mem_of_getElem? (i := 17) rfl)
theorem Tp.f_Shown_is_silent (T : Tp K mg base) : ∃ fd, Fun K "is_silent" "Shown.is_silent" s_Shown_is_silent (Hz.Wh.at_ K (.met "Shown" "is_silent")) fd := T.df d_Shown_is_silent (List.mem_of_getElem? (i := 18) rfl)
theorem Tp.f_Shown_is_lost (T : Tp K mg base) : ∃ fd, Fun K "is_lost" "Shown.is_lost" s_Shown_is_lost (Hz.Wh.at_ K (.met "Shown" "is_lost")) fd := T.df d_Shown_is_lost (List.mem_of_getElem? (i := 19) rfl)
theorem Tp.f_Proving_init (T : Tp K mg base) : ∃ fd, Fun K "__init__" "Proving.__init__" s_Proving_init (Hz.Wh.at_ K (.met "Proving" "__init__")) fd := T.df d_Proving_init (List.mem_of_getElem? (i := 20) rfl)
theorem Tp.f_Proving_hear (T : Tp K mg base) : ∃ fd, Fun K "hear" "Proving.hear" s_Proving_hear (Hz.Wh.at_ K (.met "Proving" "hear")) fd := T.df d_Proving_hear (List.mem_of_getElem? (i := 21) rfl)
theorem Tp.f_Proving_unheard (T : Tp K mg base) : ∃ fd, Fun K "unheard" "Proving.unheard" s_Proving_unheard (Hz.Wh.at_ K (.met "Proving" "unheard")) fd := T.df d_Proving_unheard (List.mem_of_getElem? (i := 22) rfl)
theorem Tp.f_Proving_shown (T : Tp K mg base) : ∃ fd, Fun K "shown" "Proving.shown" s_Proving_shown (Hz.Wh.at_ K (.met "Proving" "shown")) fd := T.df d_Proving_shown (List.mem_of_getElem? (i := 23) rfl)
theorem Tp.f_smoothed (T : Tp K mg base) : ∃ fd, Fun K "smoothed" "smoothed" s_smoothed (Hz.Wh.at_ K (.glo "smoothed")) fd := T.df d_smoothed (List.mem_of_getElem? (i := 24) rfl)
theorem Tp.f_first_pair (T : Tp K mg base) : ∃ fd, Fun K "first_pair" "first_pair" s_first_pair (Hz.Wh.at_ K (.glo "first_pair")) fd := T.df d_first_pair (List.mem_of_getElem? (i := 25) rfl)
theorem Tp.f_length_of (T : Tp K mg base) : ∃ fd, Fun K "length_of" "length_of" s_length_of (Hz.Wh.at_ K (.glo "length_of")) fd := T.df d_length_of (List.mem_of_getElem? (i := 26) rfl)
theorem Tp.f_Sender_init (T : Tp K mg base) : ∃ fd, Fun K "__init__" "Sender.__init__" s_Sender_init (Hz.Wh.at_ K (.met "Sender" "__init__")) fd := T.df d_Sender_init (List.mem_of_getElem? (i := 27) rfl)
theorem Tp.f_Sender_out (T : Tp K mg base) : ∃ fd, Fun K "out" "Sender.out" s_Sender_out (Hz.Wh.at_ K (.met "Sender" "out")) fd := T.df d_Sender_out (List.mem_of_getElem? (i := 28) rfl)
theorem Tp.f_Sender_length (T : Tp K mg base) : ∃ fd, Fun K "length" "Sender.length" s_Sender_length (Hz.Wh.at_ K (.met "Sender" "length")) fd := T.df d_Sender_length (List.mem_of_getElem? (i := 29) rfl)
theorem Tp.f_Sender_hear (T : Tp K mg base) : ∃ fd, Fun K "hear" "Sender.hear" s_Sender_hear (Hz.Wh.at_ K (.met "Sender" "hear")) fd := T.df d_Sender_hear (List.mem_of_getElem? (i := 30) rfl)
theorem Tp.f_Sender_settle (T : Tp K mg base) : ∃ fd, Fun K "settle" "Sender.settle" s_Sender_settle (Hz.Wh.at_ K (.met "Sender" "settle")) fd := T.df d_Sender_settle (List.mem_of_getElem? (i := 31) rfl)
theorem Tp.f_Sender_measure (T : Tp K mg base) : ∃ fd, Fun K "measure" "Sender.measure" s_Sender_measure (Hz.Wh.at_ K (.met "Sender" "measure")) fd := T.df d_Sender_measure (List.mem_of_getElem? (i := 32) rfl)
theorem Tp.f_Sender_grow (T : Tp K mg base) : ∃ fd, Fun K "grow" "Sender.grow" s_Sender_grow (Hz.Wh.at_ K (.met "Sender" "grow")) fd := T.df d_Sender_grow (List.mem_of_getElem? (i := 33) rfl)
theorem Tp.f_Sender_lost_now (T : Tp K mg base) : ∃ fd, Fun K "lost_now" "Sender.lost_now" s_Sender_lost_now (Hz.Wh.at_ K (.met "Sender" "lost_now")) fd := T.df d_Sender_lost_now (List.mem_of_getElem? (i := 34) rfl)
theorem Tp.f_Sender_patience (T : Tp K mg base) : ∃ fd, Fun K "patience" "Sender.patience" s_Sender_patience (Hz.Wh.at_ K (.met "Sender" "patience")) fd := T.df d_Sender_patience (List.mem_of_getElem? (i := 35) rfl)
theorem Tp.f_Sender_take_lost (T : Tp K mg base) : ∃ fd, Fun K "take_lost" "Sender.take_lost" s_Sender_take_lost (Hz.Wh.at_ K (.met "Sender" "take_lost")) fd := T.df d_Sender_take_lost (List.mem_of_getElem? (i := 36) rfl)
theorem Tp.f_Sender_cut_window (T : Tp K mg base) : ∃ fd, Fun K "cut_window" "Sender.cut_window" s_Sender_cut_window (Hz.Wh.at_ K (.met "Sender" "cut_window")) fd := T.df d_Sender_cut_window (List.mem_of_getElem? (i := 37) rfl)
theorem Tp.f_Sender_is_written (T : Tp K mg base) : ∃ fd, Fun K "is_written" "Sender.is_written" s_Sender_is_written (Hz.Wh.at_ K (.met "Sender" "is_written")) fd := T.df d_Sender_is_written (List.mem_of_getElem? (i := 38) rfl)
theorem Tp.f_Sender_timer (T : Tp K mg base) : ∃ fd, Fun K "timer" "Sender.timer" s_Sender_timer (Hz.Wh.at_ K (.met "Sender" "timer")) fd := T.df d_Sender_timer (List.mem_of_getElem? (i := 39) rfl)
theorem Tp.f_Sender_next_letter (T : Tp K mg base) : ∃ fd, Fun K "next_letter" "Sender.next_letter" s_Sender_next_letter (Hz.Wh.at_ K (.met "Sender" "next_letter")) fd := T.df d_Sender_next_letter (List.mem_of_getElem? (i := 40) rfl)
theorem Tp.f_Sender_probe_letter (T : Tp K mg base) : ∃ fd, Fun K "probe_letter" "Sender.probe_letter" s_Sender_probe_letter (Hz.Wh.at_ K (.met "Sender" "probe_letter")) fd := T.df d_Sender_probe_letter (List.mem_of_getElem? (i := 41) rfl)
theorem Tp.f_Sender_send (T : Tp K mg base) : ∃ fd, Fun K "send" "Sender.send" s_Sender_send (Hz.Wh.at_ K (.met "Sender" "send")) fd := T.df d_Sender_send (List.mem_of_getElem? (i := 42) rfl)
theorem Tp.f_Core_init (T : Tp K mg base) : ∃ fd, Fun K "__init__" "Core.__init__" s_Core_init (Hz.Wh.at_ K (.met "Core" "__init__")) fd := T.df d_Core_init (List.mem_of_getElem? (i := 43) rfl)
theorem Tp.f_Core_reading (T : Tp K mg base) : ∃ fd, Fun K "reading" "Core.reading" s_Core_reading (Hz.Wh.at_ K (.met "Core" "reading")) fd := T.df d_Core_reading (List.mem_of_getElem? (i := 44) rfl)
theorem Tp.f_Core_sending (T : Tp K mg base) : ∃ fd, Fun K "sending" "Core.sending" s_Core_sending (Hz.Wh.at_ K (.met "Core" "sending")) fd := T.df d_Core_sending (List.mem_of_getElem? (i := 45) rfl)
theorem Tp.f_Core_go (T : Tp K mg base) : ∃ fd, Fun K "go" "Core.go" s_Core_go (Hz.Wh.at_ K (.met "Core" "go")) fd := T.df d_Core_go (List.mem_of_getElem? (i := 46) rfl)
theorem Tp.f_new_core (T : Tp K mg base) : ∃ fd, Fun K "new_core" "new_core" s_new_core (Hz.Wh.at_ K (.glo "new_core")) fd := T.df d_new_core (List.mem_of_getElem? (i := 47) rfl)
theorem Tp.f_Crossing_init (T : Tp K mg base) : ∃ fd, Fun K "__init__" "Crossing.__init__" s_Crossing_init (Hz.Wh.at_ K (.met "Crossing" "__init__")) fd := T.df d_Crossing_init (List.mem_of_getElem? (i := 48) rfl)
theorem Tp.f_Crossing_kept_now (T : Tp K mg base) : ∃ fd, Fun K "kept_now" "Crossing.kept_now" s_Crossing_kept_now (Hz.Wh.at_ K (.get "Crossing" "kept_now")) fd := T.df d_Crossing_kept_now (List.mem_of_getElem? (i := 49) rfl)
theorem Tp.f_Crossing_tick (T : Tp K mg base) : ∃ fd, Fun K "tick" "Crossing.tick" s_Crossing_tick (Hz.Wh.at_ K (.met "Crossing" "tick")) fd := T.df d_Crossing_tick (List.mem_of_getElem? (i := 50) rfl)
theorem Tp.f_Queue_init (T : Tp K mg base) : ∃ fd, Fun K "__init__" "Queue.__init__" s_Queue_init (Hz.Wh.at_ K (.met "Queue" "__init__")) fd := T.df d_Queue_init (List.mem_of_getElem? (i := 51) rfl)
theorem Tp.f_Queue_enter (T : Tp K mg base) : ∃ fd, Fun K "enter" "Queue.enter" s_Queue_enter (Hz.Wh.at_ K (.met "Queue" "enter")) fd := T.df d_Queue_enter (List.mem_of_getElem? (i := 52) rfl)
theorem Tp.f_road_of (T : Tp K mg base) : ∃ fd, Fun K "road_of" "road_of" s_road_of (Hz.Wh.at_ K (.glo "road_of")) fd := T.df d_road_of (List.mem_of_getElem? (i := 53) rfl)
theorem Tp.f_queued (T : Tp K mg base) : ∃ fd, Fun K "queued" "queued" s_queued (Hz.Wh.at_ K (.glo "queued")) fd := T.df d_queued (List.mem_of_getElem? (i := 54) rfl)
theorem Tp.f_empty_trip (T : Tp K mg base) : ∃ fd, Fun K "empty_trip" "empty_trip" s_empty_trip (Hz.Wh.at_ K (.glo "empty_trip")) fd := T.df d_empty_trip (List.mem_of_getElem? (i := 55) rfl)
theorem Tp.f_reading_ticks (T : Tp K mg base) : ∃ fd, Fun K "reading_ticks" "reading_ticks" s_reading_ticks (Hz.Wh.at_ K (.glo "reading_ticks")) fd := T.df d_reading_ticks (List.mem_of_getElem? (i := 56) rfl)
theorem Tp.f_L_bag (T : Tp K mg base) : ∃ fd, Fun K "_law_bag" "_law_bag" s_L_bag (Hz.Wh.at_ K (.glo "_law_bag")) fd := T.df d_L_bag (List.mem_of_getElem? (i := 57) rfl)
theorem Tp.f_L_draw (T : Tp K mg base) : ∃ fd, Fun K "_law_draw" "_law_draw" s_L_draw (Hz.Wh.at_ K (.glo "_law_draw")) fd := T.df d_L_draw (List.mem_of_getElem? (i := 58) rfl)
theorem Tp.f_L_pick (T : Tp K mg base) : ∃ fd, Fun K "_law_pick" "_law_pick" s_L_pick (Hz.Wh.at_ K (.glo "_law_pick")) fd := T.df d_L_pick (List.mem_of_getElem? (i := 59) rfl)
theorem Tp.f_L_same (T : Tp K mg base) : ∃ fd, Fun K "_law_same" "_law_same" s_L_same (Hz.Wh.at_ K (.glo "_law_same")) fd := T.df d_L_same (List.mem_of_getElem? (i := 60) rfl)
theorem Tp.f_L_up (T : Tp K mg base) : ∃ fd, Fun K "_law_up" "_law_up" s_L_up (Hz.Wh.at_ K (.glo "_law_up")) fd := T.df d_L_up (List.mem_of_getElem? (i := 61) rfl)
theorem Tp.f_L_book (T : Tp K mg base) : ∃ fd, Fun K "_law_book" "_law_book" s_L_book (Hz.Wh.at_ K (.glo "_law_book")) fd := T.df d_L_book (List.mem_of_getElem? (i := 62) rfl)
theorem Tp.f_L_trip (T : Tp K mg base) : ∃ fd, Fun K "_law_trip" "_law_trip" s_L_trip (Hz.Wh.at_ K (.glo "_law_trip")) fd := T.df d_L_trip (List.mem_of_getElem? (i := 63) rfl)
theorem Tp.f_L_room (T : Tp K mg base) : ∃ fd, Fun K "_law_room" "_law_room" s_L_room (Hz.Wh.at_ K (.glo "_law_room")) fd := T.df d_L_room (List.mem_of_getElem? (i := 64) rfl)
theorem Tp.f_L_own_ticks (T : Tp K mg base) : ∃ fd, Fun K "_law_own_ticks" "_law_own_ticks" s_L_own_ticks (Hz.Wh.at_ K (.glo "_law_own_ticks")) fd := T.df d_L_own_ticks (List.mem_of_getElem? (i := 65) rfl)
theorem Tp.f_L_drawn (T : Tp K mg base) : ∃ fd, Fun K "_law_drawn" "_law_drawn" s_L_drawn (Hz.Wh.at_ K (.glo "_law_drawn")) fd := T.df d_L_drawn (List.mem_of_getElem? (i := 66) rfl)
theorem Tp.f_L_read_ticks (T : Tp K mg base) : ∃ fd, Fun K "_law_read_ticks" "_law_read_ticks" s_L_read_ticks (Hz.Wh.at_ K (.glo "_law_read_ticks")) fd := T.df d_L_read_ticks (List.mem_of_getElem? (i := 67) rfl)
theorem Tp.f_law (T : Tp K mg base) : ∃ fd, Fun K "law" "law" s_law (Hz.Wh.at_ K (.glo "law")) fd := T.df d_law (List.mem_of_getElem? (i := 68) rfl)
theorem Tp.p_Crossing_kept_now (T : Tp K mg base) : PropOf K (He.ga K "Crossing") "kept_now" (He.ma K (He.ga K "Crossing") "kept_now") (Hz.Wh.at_ K (.get "Crossing" "kept_now")) := Hz.prB_ok (T.pr _ (List.mem_of_getElem? (i := 0) rfl))
theorem Tp.t_Reader_ack (T : Tp K mg base) : GxR.TabB base mg (Hz.codeW K (.met "Reader" "ack")) (Hz.tabW K (.met "Reader" "ack")) := T.tb _ (List.mem_of_getElem? (i := 0) rfl)
theorem Tp.t_Sender_take_lost (T : Tp K mg base) : GxR.TabB base mg (Hz.codeW K (.met "Sender" "take_lost")) (Hz.tabW K (.met "Sender" "take_lost")) := T.tb _ (List.mem_of_getElem? (i := 1) rfl)
theorem Tp.t_Crossing_tick (T : Tp K mg base) : GxR.TabB base mg (Hz.codeW K (.met "Crossing" "tick")) (Hz.tabW K (.met "Crossing" "tick")) := T.tb _ (List.mem_of_getElem? (i := 2) rfl)
end
/-- a def keeps its promise -/
structure Def (P : Program) (w : World) (K : PySem.W.Frag) (mg : Str → Option Value) (base : Heap) (wh : Hz.Wh) (ps : List Str) (k : Nat) (sp : Sp) : Prop where
  ex : ∃ fd, PySem.W.keepIn K (.ref (wh.at_ K)) = true ∧ Binds K fd ps [] ∧ FnOk P w K mg base CX0 k (wh.at_ K) fd ps sp
section
variable {P : Program} {w : World} {K : PySem.W.Frag} {mg : Str → Option Value} {base : Heap} {wh : Hz.Wh} {ps : List Str} {k : Nat} {sp : Sp}
theorem def_mk {name qual : Str} {st : Stmt} {N : List Str} (F : ∃ fd, Fun K name qual st (wh.at_ K) fd) (S : FnScope N ps (defScope st)) (len : ∀ vs H Q E, sp vs H Q E → vs.length = ps.length)
    (b : ∀ (kV doc pm : Value) (an : Option Addr) (cdv ct : Value) (us : List Value), us.length = ps.length → bindArgs (PySem.W.fnOf name qual (defArgs st) (defBody st) (defScope st) .none kV doc pm an cdv ct) ⟨us, []⟩ = pure (ps.zip us))
    (body : ∀ (cdv : Value) (A : Around) (outer : List Env) (s : Shared) (H : Hp) (vs : List V) (Q : VK) (E : XK), Room k (A.deeper (envOfC qual (defScope st) s.heap.objs.size (wh.at_ K) cdv)) → sp vs H Q E →
      ∃ t, PSs (cxOf CX0 P w K mg base N qual (defScope st) (wh.at_ K) cdv A outer s H E).nox (defBody st) t ∧ t { nx := fun _ H' => Q .non H', rt := Q } (start N vs) H) : Def P w K mg base wh ps (k + 1) sp := by
  obtain ⟨fd, F⟩ := F
  exact ⟨fd, F.kp, F.binds b, F.ok S len body⟩
theorem Def.mono (D : Def P w K mg base wh ps k sp) {j : Nat} (h : k ≤ j) : Def P w K mg base wh ps j sp := by
  obtain ⟨fd, a, b, c⟩ := D.ex
  exact ⟨fd, a, b, c.mono h⟩
end
section
variable {X : Cx} {wh : Hz.Wh} {ps : List Str} {k : Nat} {sp : Sp} {x m : Str} {C : Addr} {p pos apos : Pos} {e o : Expr} {es : List Expr} {ta : TE} {t : TA}
/-- f(a, ..) -/
theorem pe_d (D : Def X.prog X.w X.K X.mg X.base wh ps k sp) (hr : Room k X.A) (hm : X.mg x = some (.ref (wh.at_ X.K))) (ha : PA X (e :: es) t) (hg : Gl X x := by rfl) (hdb : (x == ("__debug__" : Str)) = false := by decide)
    (he : starEach (e :: es) X.env = (false, eval e X.env) :: starEach es X.env := by rfl) (hpl : (backTo pos (starEach es X.env)).any (·.1) = false := by rfl) : PE X (.Call (.Name x p) (e :: es) [] pos) (tCall sp [] E0 t) := by
  obtain ⟨fd, kp, b, F⟩ := D.ex
  exact pe_call F hr hg hm kp b .nil pass0 ha hdb he hpl
/-- o.m(a, ..) -/
theorem pe_dm {pl : Sem Bool} (D : Def X.prog X.w X.K X.mg X.base wh ps k sp) (hr : Room k X.A) (c : Cls X.K C) (hm : Meth X.K C m (wh.at_ X.K)) (he : PE X o ta) (ha : PA X (e :: es) t)
    (hst : starEach (e :: es) X.env = (false, eval e X.env) :: starEach es X.env := by rfl) (hpl : (backTo pos (starEach es X.env)).any (·.1) = false := by rfl)
    (ht : eval (.Call (.Attribute o m apos) (e :: es) [] pos) X.env = (do
      let ov ← eval o X.env
      standAt apos.atName
      let (f, first) ← holding [ov] (getMethod ov m pl)
      callWith pos f first (backTo pos (starEach (e :: es) X.env)) (backToKw pos (keywordEach [] X.env))) := by rfl) : PE X (.Call (.Attribute o m apos) (e :: es) [] pos) (tMeth C m sp [] E0 ta t) := by
  obtain ⟨fd, kp, b, F⟩ := D.ex
  exact pe_meth he c hm F hr b .nil pass0 ha hst hpl ht
theorem pe_dm0 {pl : Sem Bool} (D : Def X.prog X.w X.K X.mg X.base wh ps k sp) (hr : Room k X.A) (c : Cls X.K C) (hm : Meth X.K C m (wh.at_ X.K)) (he : PE X o ta)
    (ht : eval (.Call (.Attribute o m apos) [] [] pos) X.env = (do
      let ov ← eval o X.env
      standAt apos.atName
      let (f, first) ← holding [ov] (getMethod ov m pl)
      callWith pos f first (backTo pos (starEach [] X.env)) (backToKw pos (keywordEach [] X.env))) := by rfl) : PE X (.Call (.Attribute o m apos) [] [] pos) (tMeth C m sp [] E0 ta tNil) := by
  obtain ⟨fd, kp, b, F⟩ := D.ex
  exact pe_meth0 he c hm F hr b .nil pass0 ht
/-- C(a, ..) -/
theorem pe_dk {f : Addr} (M : Mk X.K C (wh.at_ X.K)) (D : Def X.prog X.w X.K X.mg X.base wh ps k sp) (hr : Room (k + 1) X.A) (hm : X.mg x = some (.ref C)) (ha : PA X (e :: es) t) (hg : Gl X x := by rfl) (hdb : (x == ("__debug__" : Str)) = false := by decide)
    (he : starEach (e :: es) X.env = (false, eval e X.env) :: starEach es X.env := by rfl) (hpl : (backTo pos (starEach es X.env)).any (·.1) = false := by rfl) : PE X (.Call (.Name x p) (e :: es) [] pos) (tMake C sp [] E0 t) := by
  obtain ⟨fd, kp, b, F⟩ := D.ex
  exact pe_make M F hr hg hm b .nil pass0 ha hdb he hpl
/-- never reached -/
def tNo : TE := fun _ _ _ => False
def tNoT : TT := fun _ _ _ => False
theorem pe_no : PE X e tNo := ⟨fun _ _ _ _ _ _ h => h.elim⟩
theorem pt_no : PT X e tNoT := ⟨fun _ _ _ _ _ _ h => h.elim⟩
end
end Su

set_option Elab.async false
set_option linter.all false
set_option maxRecDepth 100000
set_option maxHeartbeats 2000000
/-! fractions: what the defs hand back, and that they do -/
namespace Su
open PySem PySem.Spec PyProof.Rows L2
abbrev Fr := Int × Int
def gI (a b : Int) : Int := (Int.gcd a b : Nat)
def lowF (a b : Int) : Fr := (a / gI a b, b / gI a b)
def plusF (x y : Fr) : Fr := lowF (x.1 * y.2 + y.1 * x.2) (x.2 * y.2)
def prodF (x y : Fr) : Fr := lowF (x.1 * y.1) (x.2 * y.2)
def lessF (x y : Fr) : Bool := decide (x.1 * y.2 < y.1 * x.2)
def maxF (x y : Fr) : Fr := if lessF x y = true then y else x
def absI (i : Int) : Int := if i < 0 then -i else i
def gapF (x y : Fr) : Fr := lowF (absI (x.1 * y.2 - y.1 * x.2)) (x.2 * y.2)
def smF (sm sp : Fr) (r : Int) : Fr × Fr := (plusF (prodF (7, 8) sm) (prodF (1, 8) (r, 1)), plusF (prodF (3, 4) sp) (prodF (1, 4) (gapF sm (r, 1))))
def firstF (r : Int) : Fr × Fr := ((r, 1), lowF r 2)
def lenF (sm sp : Fr) (g : Int) : Fr := plusF sm (maxF (g, 1) (prodF (4, 1) sp))
/-- small: below 2 ^ n, the lower part above 0 -/
def Sm (n : Nat) (x : Fr) : Prop := x.1.natAbs < 2 ^ n ∧ 0 < x.2 ∧ x.2.natAbs < 2 ^ n
theorem Sm.mono {m n : Nat} {x : Fr} (h : Sm m x) (e : m ≤ n) : Sm n x :=
  ⟨Nat.lt_of_lt_of_le h.1 (Nat.pow_le_pow_right (by decide) e), h.2.1, Nat.lt_of_lt_of_le h.2.2 (Nat.pow_le_pow_right (by decide) e)⟩
theorem gI_pos {a b : Int} (h : 0 < b) : 0 < gI a b := by
  have q : 0 < Int.gcd a b := Int.gcd_pos_of_ne_zero_right a (by omega)
  unfold gI; omega
theorem gI_lt {a b : Int} {n : Nat} (h : 0 < b) (hb : b.natAbs < 2 ^ n) : (gI a b).natAbs < 2 ^ n := by
  have q : Int.gcd a b ≤ b.natAbs := Nat.le_of_dvd (by omega) (Int.gcd_dvd_natAbs_right a b)
  unfold gI; omega
theorem gI_step {x y : Int} (hx : 0 ≤ x) (hy : 0 < y) : gI y (x % y) = gI x y := by
  obtain ⟨m, rfl⟩ := Int.eq_ofNat_of_zero_le hx
  obtain ⟨n, rfl⟩ := Int.eq_ofNat_of_zero_le (Int.le_of_lt hy)
  show ((Nat.gcd n (m % n) : Nat) : Int) = (Nat.gcd m n : Nat)
  rw [Nat.gcd_comm n (m % n), ← Nat.gcd_rec n m, Nat.gcd_comm]
theorem div_le {a g : Int} (h : 0 < g) : (a / g).natAbs ≤ a.natAbs := Int.natAbs_ediv_le_natAbs a g
theorem low_sm {a b : Int} {n : Nat} (ha : a.natAbs < 2 ^ n) (h : 0 < b) (hb : b.natAbs < 2 ^ n) : Sm n (lowF a b) := by
  refine ⟨Nat.lt_of_le_of_lt (div_le (gI_pos h)) ha, ?_, Nat.lt_of_le_of_lt (div_le (gI_pos h)) hb⟩
  show 0 < b / gI a b
  have d : gI a b ∣ b := Int.gcd_dvd_right a b
  exact Int.ediv_pos_of_pos_of_dvd h (Int.le_of_lt (gI_pos h)) d
theorem mul_lt {i j : Int} {a b : Nat} (ha : i.natAbs < 2 ^ a) (hb : j.natAbs < 2 ^ b) : (i * j).natAbs < 2 ^ (a + b) := wide_lt ha hb
theorem add_lt {i j : Int} {n : Nat} (ha : i.natAbs < 2 ^ n) (hb : j.natAbs < 2 ^ n) : (i + j).natAbs < 2 ^ (n + 1) := by
  rw [Nat.pow_succ]; omega
theorem sub_lt {i j : Int} {n : Nat} (ha : i.natAbs < 2 ^ n) (hb : j.natAbs < 2 ^ n) : (i - j).natAbs < 2 ^ (n + 1) := by
  rw [Nat.pow_succ]; omega
theorem up1 {i : Int} {n : Nat} (ha : i.natAbs < 2 ^ n) : i.natAbs < 2 ^ (n + 1) := by rw [Nat.pow_succ]; omega
theorem plus_sm {x y : Fr} {m n : Nat} (hx : Sm m x) (hy : Sm n y) : Sm (m + n + 1) (plusF x y) :=
  low_sm (add_lt (mul_lt hx.1 hy.2.2) (by rw [Nat.add_comm]; exact mul_lt hy.1 hx.2.2)) (Int.mul_pos hx.2.1 hy.2.1) (up1 (mul_lt hx.2.2 hy.2.2))
theorem prod_sm {x y : Fr} {m n : Nat} (hx : Sm m x) (hy : Sm n y) : Sm (m + n) (prodF x y) :=
  low_sm (mul_lt hx.1 hy.1) (Int.mul_pos hx.2.1 hy.2.1) (mul_lt hx.2.2 hy.2.2)
theorem absI_abs (i : Int) : (absI i).natAbs = i.natAbs := by unfold absI; split <;> omega
theorem gap_sm {x y : Fr} {m n : Nat} (hx : Sm m x) (hy : Sm n y) : Sm (m + n + 1) (gapF x y) :=
  low_sm (by rw [absI_abs]; exact sub_lt (mul_lt hx.1 hy.2.2) (by rw [Nat.add_comm]; exact mul_lt hy.1 hx.2.2)) (Int.mul_pos hx.2.1 hy.2.1) (up1 (mul_lt hx.2.2 hy.2.2))
theorem max_sm {x y : Fr} {n : Nat} (hx : Sm n x) (hy : Sm n y) : Sm n (maxF x y) := by unfold maxF; split <;> assumption
theorem int_sm {r : Int} {n : Nat} (h : r.natAbs < 2 ^ n) (h0 : 0 < n) : Sm n (r, 1) := ⟨h, by show (0 : Int) < 1; decide, by show 1 < 2 ^ n; exact Nat.one_lt_two_pow (by omega)⟩
/-! ### how they stand in the heap -/
def frA (p : Addr) (x : Fr) : As := tupA p [.int x.1, .int x.2]
section
variable {K : PySem.W.Frag} {σ : L2.St} {H : Hp} {Q : VK} 
theorem r_mul {x y : Int} {a b : Nat} (ha : x.natAbs < 2 ^ a) (hb : y.natAbs < 2 ^ b) (h0 : 0 < a) (h1 : 0 < b) (h : a + b ≤ 1000000) (q : Q (.int (x * y)) H) : rI CMulW (fun i j => .int (i * j)) (.int x) (.int y) H Q := ⟨x, y, rfl, rfl, wide_mul ha hb h0 h1 h, q⟩
theorem r_int2 {g : Int → Int → V} {x y : Int} (q : Q (g x y) H) : rI0 g (.int x) (.int y) H Q := ⟨x, y, rfl, rfl, q⟩
end
theorem q_seq {t u : TS} {D : Ends} {σ : L2.St} {H : Hp} (h : t { D with nx := u D } σ H) : tSeq t u D σ H := h
/-! ### promises -/
def spDivisor : Sp := fun vs H Q _ => ∃ a b : Int, vs = [.int a, .int b] ∧ Q (.int (gI a b)) H
def spLowest : Sp := fun vs H Q _ => ∃ (a b : Int) (n : Nat) (M : List Cell) (T : List As), vs = [.int a, .int b] ∧ 0 < b ∧ b.natAbs < 2 ^ n ∧ 0 < n ∧ n ≤ 9000 ∧ W H M T ∧ ∀ p H', W H' M (frA p (lowF a b) :: T) → Q (.ref p) H'
/-- of two fractions a new one -/
def spFr2 (f : Fr → Fr → Fr) : Sp := fun vs H Q _ => ∃ (p q : Addr) (x y : Fr) (M : List Cell) (T : List As), vs = [.ref p, .ref q] ∧ W H M T ∧ (frA p x).φ H ∧ (frA q y).φ H ∧ Sm 1000 x ∧ Sm 1000 y ∧ ∀ r H', W H' M (frA r (f x y) :: T) → Q (.ref r) H'
def spLess : Sp := fun vs H Q _ => ∃ (p q : Addr) (x y : Fr), vs = [.ref p, .ref q] ∧ (frA p x).φ H ∧ (frA q y).φ H ∧ Sm 1000 x ∧ Sm 1000 y ∧ Q (.bl (lessF x y)) H
def spGreater : Sp := fun vs H Q _ => ∃ (p q : Addr) (x y : Fr), vs = [.ref p, .ref q] ∧ (frA p x).φ H ∧ (frA q y).φ H ∧ Sm 1000 x ∧ Sm 1000 y ∧ (∀ r, (frA r (maxF x y)).φ H → Q (.ref r) H)
section
variable {P : Program} {w : World} {K : PySem.W.Frag} {mg : Str → Option Value} {base : Heap}
theorem sc_divisor : FnScope ["one", "other"] ["one", "other"] (defScope s_divisor) := ⟨rfl, rfl, rfl, by decide +kernel, rfl, by decide +kernel, by decide +kernel⟩
theorem ok_divisor (T : Tp K mg base) : Def P w K mg base (.glo "divisor") ["one", "other"] 1 spDivisor := by
  refine def_mk T.f_divisor sc_divisor (fun vs H Q E h => ?_) (fun _ _ _ _ _ _ us hl => match us, hl with | [_, _], _ => rfl) (fun cdv A outer s H vs Q E hr h => ?_)
  · obtain ⟨a, b, rfl, _⟩ := h; rfl
  · obtain ⟨a, b, rfl, k⟩ := h
    refine ⟨_, pss_cons (ps_par rfl sc_divisor.nd (i := 0) (j := 1) rfl rfl (by decide) rfl rfl (pa_cons (pe_callB call_abs rfl T.b_abs (by decide +kernel) (pa_cons (pv 0) pa_nil)) (pa_cons (pe_callB call_abs rfl T.b_abs (by decide +kernel) (pa_cons (pv 1) pa_nil)) pa_nil)) (by rfl))
      (pss_cons (ps_while PassesOwn.never (pt_truth (pv 1) (by intro _; rfl)) (pss_one (ps_par rfl sc_divisor.nd (i := 0) (j := 1) rfl rfl (by decide) rfl rfl (pa_cons (pv 1) (pa_cons (pe_op op_mod (pv 0) (pv 1)) pa_nil)) (by rfl))))
      (pss_one (ps_ret (pv 0)))), ?_⟩
    refine ⟨_, rfl, a, rfl, _, rfl, b, rfl, _, _, rfl, ?_⟩
    dsimp only
    refine q_seq (while_by (fun σ H' => H' = H ∧ ∃ x y : Int, σ = [some (.int x), some (.int y)] ∧ 0 ≤ x ∧ 0 ≤ y ∧ gI x y = gI a b) (fun σ _ => match σ with | [_, some (.int y)] => y.natAbs | _ => 0) ⟨rfl, _, _, rfl, ?_, ?_, ?_⟩ ?_ ?_)
    · split <;> omega
    · split <;> omega
    · unfold gI
      congr 1
      split <;> split <;> simp [Int.gcd_neg, Int.neg_gcd]
    · rintro σ H' ⟨rfl, x, y, rfl, hx, hy, e⟩
      refine ⟨_, rfl, _, rfl, ?_⟩
      by_cases hz : y = 0
      · subst hz
        refine iteF ?_
        refine ⟨_, rfl, ?_⟩
        have q : gI x 0 = x := by unfold gI; simp; omega
        rw [q] at e; rw [e]; exact k
      · have hb : (y != 0) = true := by simpa using hz
        rw [hb]
        refine iteT ?_
        refine ⟨_, rfl, _, rfl, _, rfl, x, y, rfl, rfl, (by omega), _, _, rfl, ⟨rfl, _, _, rfl, hy, Int.emod_nonneg _ hz, ?_⟩, ?_⟩
        · rw [← e]; exact gI_step hx (by omega)
        · show (x % y).natAbs < y.natAbs
          have := Int.emod_lt_of_pos x (show 0 < y by omega)
          have := Int.emod_nonneg x hz
          omega
    · intro σ H' Q1 Q2 hQ hc
      obtain ⟨v, h1, k1, h2, h3⟩ := hc
      exact ⟨v, h1, k1, h2, hQ _ _ h3⟩
theorem sc_lowest : FnScope ["above", "below", "by"] ["above", "below"] (defScope s_lowest) := ⟨rfl, rfl, rfl, by decide +kernel, rfl, by decide +kernel, by decide +kernel⟩
theorem ok_lowest (T : Tp K mg base) : Def P w K mg base (.glo "lowest") ["above", "below"] 2 spLowest := by
  refine def_mk T.f_lowest sc_lowest (fun vs H Q E h => ?_) (fun _ _ _ _ _ _ us hl => match us, hl with | [_, _], _ => rfl) (fun cdv A outer s H vs Q E hr h => ?_)
  · obtain ⟨a, b, n, M, T', rfl, _⟩ := h; rfl
  · obtain ⟨a, b, n, M, T', rfl, hb, hn, n0, n9, W0, k⟩ := h
    refine ⟨_, pss_cons (ps_set (i := 2) sc_lowest.nd rfl (.inl rfl) (pe_d (ok_divisor T) hr T.g_divisor (pa_cons (pv 0) (pa_cons (pv 1) pa_nil))))
      (pss_one (ps_ret (pe_tup (pa_cons (pe_op op_fdivW (pv 0) (pv 2)) (pa_cons (pe_op op_fdivW (pv 1) (pv 2)) pa_nil))))), ?_⟩
    have g0 := gI_pos (a := a) hb
    have g1 := gI_lt (a := a) hb hn
    refine ⟨_, rfl, _, rfl, a, b, rfl, ?_⟩
    dsimp only
    refine ⟨_, rfl, _, rfl, _, _, rfl, rfl, wide_div g0 g1 n0 n9, _, rfl, _, rfl, _, _, rfl, rfl, wide_div g0 g1 n0 n9, (by show 2 ≤ sizeLine; decide), fun p hp => ?_⟩
    exact k p _ (W0.newT hp _)
theorem sc_plus : FnScope ["one", "other"] ["one", "other"] (defScope s_plus) := ⟨rfl, rfl, rfl, by decide +kernel, rfl, by decide +kernel, by decide +kernel⟩
theorem ok_plus (T : Tp K mg base) : Def P w K mg base (.glo "plus") ["one", "other"] 3 (spFr2 plusF) := by
  refine def_mk T.f_plus sc_plus (fun vs H Q E h => ?_) (fun _ _ _ _ _ _ us hl => match us, hl with | [_, _], _ => rfl) (fun cdv A outer s H vs Q E hr h => ?_)
  · obtain ⟨p, q, x, y, M, T', rfl, _⟩ := h; rfl
  · obtain ⟨p, q, x, y, M, T', rfl, W0, hp, hq, sx, sy, k⟩ := h
    refine ⟨_, pss_one (ps_ret (pe_d (ok_lowest T) hr T.g_lowest
      (pa_cons (pe_op op_add (pe_op op_mulW (pe_ix ix_tup (pv 0) pe_int (fun _ _ => rfl)) (pe_ix ix_tup (pv 1) pe_int (fun _ _ => rfl))) (pe_op op_mulW (pe_ix ix_tup (pv 1) pe_int (fun _ _ => rfl)) (pe_ix ix_tup (pv 0) pe_int (fun _ _ => rfl))))
      (pa_cons (pe_op op_mulW (pe_ix ix_tup (pv 0) pe_int (fun _ _ => rfl)) (pe_ix ix_tup (pv 1) pe_int (fun _ _ => rfl))) pa_nil)))), ?_⟩
    refine r_ixT rfl hp rfl (r_ixT rfl hq rfl (r_mul sx.1 sy.2.2 (by decide) (by decide) (by decide) ?_))
    refine r_ixT rfl hq rfl (r_ixT rfl hp rfl (r_mul sy.1 sx.2.2 (by decide) (by decide) (by decide) (r_int2 ?_)))
    refine r_ixT rfl hp rfl (r_ixT rfl hq rfl (r_mul sx.2.2 sy.2.2 (by decide) (by decide) (by decide) ?_))
    exact ⟨_, _, 2000, M, T', rfl, Int.mul_pos sx.2.1 sy.2.1, mul_lt sx.2.2 sy.2.2, by decide, by decide, W0, k⟩
theorem sc_product : FnScope ["one", "other"] ["one", "other"] (defScope s_product) := ⟨rfl, rfl, rfl, by decide +kernel, rfl, by decide +kernel, by decide +kernel⟩
theorem ok_product (T : Tp K mg base) : Def P w K mg base (.glo "product") ["one", "other"] 3 (spFr2 prodF) := by
  refine def_mk T.f_product sc_product (fun vs H Q E h => ?_) (fun _ _ _ _ _ _ us hl => match us, hl with | [_, _], _ => rfl) (fun cdv A outer s H vs Q E hr h => ?_)
  · obtain ⟨p, q, x, y, M, T', rfl, _⟩ := h; rfl
  · obtain ⟨p, q, x, y, M, T', rfl, W0, hp, hq, sx, sy, k⟩ := h
    refine ⟨_, pss_one (ps_ret (pe_d (ok_lowest T) hr T.g_lowest
      (pa_cons (pe_op op_mulW (pe_ix ix_tup (pv 0) pe_int (fun _ _ => rfl)) (pe_ix ix_tup (pv 1) pe_int (fun _ _ => rfl)))
      (pa_cons (pe_op op_mulW (pe_ix ix_tup (pv 0) pe_int (fun _ _ => rfl)) (pe_ix ix_tup (pv 1) pe_int (fun _ _ => rfl))) pa_nil)))), ?_⟩
    refine r_ixT rfl hp rfl (r_ixT rfl hq rfl (r_mul sx.1 sy.1 (by decide) (by decide) (by decide) ?_))
    refine r_ixT rfl hp rfl (r_ixT rfl hq rfl (r_mul sx.2.2 sy.2.2 (by decide) (by decide) (by decide) ?_))
    exact ⟨_, _, 2000, M, T', rfl, Int.mul_pos sx.2.1 sy.2.1, mul_lt sx.2.2 sy.2.2, by decide, by decide, W0, k⟩
theorem sc_is_less : FnScope ["one", "other"] ["one", "other"] (defScope s_is_less) := ⟨rfl, rfl, rfl, by decide +kernel, rfl, by decide +kernel, by decide +kernel⟩
theorem ok_is_less (T : Tp K mg base) : Def P w K mg base (.glo "is_less") ["one", "other"] 1 spLess := by
  refine def_mk T.f_is_less sc_is_less (fun vs H Q E h => ?_) (fun _ _ _ _ _ _ us hl => match us, hl with | [_, _], _ => rfl) (fun cdv A outer s H vs Q E hr h => ?_)
  · obtain ⟨p, q, x, y, rfl, _⟩ := h; rfl
  · obtain ⟨p, q, x, y, rfl, hp, hq, sx, sy, k⟩ := h
    refine ⟨_, pss_one (ps_ret (pe_cmpR op_lt (pe_op op_mulW (pe_ix ix_tup (pv 0) pe_int (fun _ _ => rfl)) (pe_ix ix_tup (pv 1) pe_int (fun _ _ => rfl)))
      (pe_op op_mulW (pe_ix ix_tup (pv 1) pe_int (fun _ _ => rfl)) (pe_ix ix_tup (pv 0) pe_int (fun _ _ => rfl))) (nomark _))), ?_⟩
    refine r_ixT rfl hp rfl (r_ixT rfl hq rfl (r_mul sx.1 sy.2.2 (by decide) (by decide) (by decide) ?_))
    refine r_ixT rfl hq rfl (r_ixT rfl hp rfl (r_mul sy.1 sx.2.2 (by decide) (by decide) (by decide) (r_int2 ?_)))
    exact k
theorem sc_greater_of : FnScope ["one", "other"] ["one", "other"] (defScope s_greater_of) := ⟨rfl, rfl, rfl, by decide +kernel, rfl, by decide +kernel, by decide +kernel⟩
theorem ok_greater_of (T : Tp K mg base) : Def P w K mg base (.glo "greater_of") ["one", "other"] 2 spGreater := by
  refine def_mk T.f_greater_of sc_greater_of (fun vs H Q E h => ?_) (fun _ _ _ _ _ _ us hl => match us, hl with | [_, _], _ => rfl) (fun cdv A outer s H vs Q E hr h => ?_)
  · obtain ⟨p, q, x, y, rfl, _⟩ := h; rfl
  · obtain ⟨p, q, x, y, rfl, hp, hq, sx, sy, k⟩ := h
    refine ⟨_, pss_one (ps_ret (pe_ifExp (pt_val (pe_d (ok_is_less T) hr T.g_is_less (pa_cons (pv 0) (pa_cons (pv 1) pa_nil)))) (pv 1) (pv 0))), ?_⟩
    refine ⟨_, rfl, _, rfl, p, q, x, y, rfl, hp, hq, sx, sy, _, rfl, ?_⟩
    cases e : lessF x y with
    | true => exact iteT ⟨_, rfl, k q (by unfold maxF; rw [if_pos e]; exact hq)⟩
    | false => exact iteF ⟨_, rfl, k p (by unfold maxF; rw [if_neg (by rw [e]; decide)]; exact hp)⟩
theorem sc_gap_size : FnScope ["one", "other"] ["one", "other"] (defScope s_gap_size) := ⟨rfl, rfl, rfl, by decide +kernel, rfl, by decide +kernel, by decide +kernel⟩
theorem ok_gap_size (T : Tp K mg base) : Def P w K mg base (.glo "gap_size") ["one", "other"] 3 (spFr2 gapF) := by
  refine def_mk T.f_gap_size sc_gap_size (fun vs H Q E h => ?_) (fun _ _ _ _ _ _ us hl => match us, hl with | [_, _], _ => rfl) (fun cdv A outer s H vs Q E hr h => ?_)
  · obtain ⟨p, q, x, y, M, T', rfl, _⟩ := h; rfl
  · obtain ⟨p, q, x, y, M, T', rfl, W0, hp, hq, sx, sy, k⟩ := h
    refine ⟨_, pss_one (ps_ret (pe_d (ok_lowest T) hr T.g_lowest
      (pa_cons (pe_callB call_abs rfl T.b_abs (by decide +kernel) (pa_cons (pe_op op_sub (pe_op op_mulW (pe_ix ix_tup (pv 0) pe_int (fun _ _ => rfl)) (pe_ix ix_tup (pv 1) pe_int (fun _ _ => rfl))) (pe_op op_mulW (pe_ix ix_tup (pv 1) pe_int (fun _ _ => rfl)) (pe_ix ix_tup (pv 0) pe_int (fun _ _ => rfl)))) pa_nil))
      (pa_cons (pe_op op_mulW (pe_ix ix_tup (pv 0) pe_int (fun _ _ => rfl)) (pe_ix ix_tup (pv 1) pe_int (fun _ _ => rfl))) pa_nil)))), ?_⟩
    refine r_ixT rfl hp rfl (r_ixT rfl hq rfl (r_mul sx.1 sy.2.2 (by decide) (by decide) (by decide) ?_))
    refine r_ixT rfl hq rfl (r_ixT rfl hp rfl (r_mul sy.1 sx.2.2 (by decide) (by decide) (by decide) (r_int2 ?_)))
    refine ⟨_, rfl, ?_⟩
    refine r_ixT rfl hp rfl (r_ixT rfl hq rfl (r_mul sx.2.2 sy.2.2 (by decide) (by decide) (by decide) ?_))
    exact ⟨_, _, 2000, M, T', rfl, Int.mul_pos sx.2.1 sy.2.1, mul_lt sx.2.2 sy.2.2, by decide, by decide, W0, k⟩
end
end Su

set_option Elab.async false
set_option linter.all false
set_option maxRecDepth 100000
set_option maxHeartbeats 2000000
set_option exponentiation.threshold 10000
/-! round trips, lengths, roads -/
namespace Su
open PySem PySem.Spec PyProof.Rows L2
/-- a pair of fractions -/
def prA (r : Addr) (x : Fr × Fr) : As := ⟨fun H => ∃ p q, H r = some (.tup [.ref p, .ref q]) ∧ (frA p x.1).φ H ∧ (frA q x.2).φ H, fun _ _ k ⟨p, q, a, b, c⟩ => ⟨p, q, k.tu _ _ a, k.tu _ _ b, k.tu _ _ c⟩⟩
def spSmoothed : Sp := fun vs H Q _ => ∃ (p q : Addr) (x y : Fr) (r : Int) (M : List Cell) (T : List As), vs = [.ref p, .ref q, .int r] ∧ W H M T ∧ (frA p x).φ H ∧ (frA q y).φ H ∧ Sm 300 x ∧ Sm 300 y ∧ r.natAbs < 2 ^ 20 ∧ ∀ z H', W H' M (prA z (smF x y r) :: T) → Q (.ref z) H'
def spFirst : Sp := fun vs H Q _ => ∃ (r : Int) (M : List Cell) (T : List As), vs = [.int r] ∧ W H M T ∧ r.natAbs < 2 ^ 20 ∧ ∀ z H', W H' M (prA z (firstF r) :: T) → Q (.ref z) H'
def spLength : Sp := fun vs H Q _ => ∃ (p q : Addr) (x y : Fr) (g : Int) (M : List Cell) (T : List As), vs = [.ref p, .ref q, .int g] ∧ W H M T ∧ (frA p x).φ H ∧ (frA q y).φ H ∧ Sm 300 x ∧ Sm 300 y ∧ g.natAbs < 2 ^ 20 ∧ ∀ z H', W H' M (frA z (lenF x y g) :: T) → Q (.ref z) H'
/-- of a road's items two -/
def spTwo (i j : Nat) : Sp := fun vs H Q _ => ∃ (p : Addr) (xs : List V) (M : List Cell) (T : List As) (u v : V), vs = [.ref p] ∧ W H M T ∧ H p = some (.tup xs) ∧ xs[i]? = some u ∧ xs[j]? = some v ∧ ∀ r H', W H' M (tupA r [u, v] :: T) → Q (.ref r) H'
section
variable {P : Program} {w : World} {K : PySem.W.Frag} {mg : Str → Option Value} {base : Heap}
theorem two_le : 2 ≤ sizeLine := by decide
theorem sc_smoothed : FnScope ["smooth", "spread", "sample", "told"] ["smooth", "spread", "sample"] (defScope s_smoothed) := ⟨rfl, rfl, rfl, by decide +kernel, rfl, by decide +kernel, by decide +kernel⟩
theorem ok_smoothed (T : Tp K mg base) : Def P w K mg base (.glo "smoothed") ["smooth", "spread", "sample"] 4 spSmoothed := by
  refine def_mk T.f_smoothed sc_smoothed (fun vs H Q E h => ?_) (fun _ _ _ _ _ _ us hl => match us, hl with | [_, _, _], _ => rfl) (fun cdv A outer s H vs Q E hr h => ?_)
  · obtain ⟨p, q, x, y, r, M, T', rfl, _⟩ := h; rfl
  · obtain ⟨p, q, x, y, r, M, T', rfl, W0, hp, hq, sx, sy, hr1, k⟩ := h
    refine ⟨_, pss_cons (ps_set (i := 3) sc_smoothed.nd rfl (.inl rfl) (pe_tup (pa_cons (pv 2) (pa_cons pe_int pa_nil))))
      (pss_cons (ps_set (i := 1) sc_smoothed.nd rfl (.inl rfl) (pe_d (ok_plus T) hr T.g_plus
        (pa_cons (pe_d (ok_product T) hr T.g_product (pa_cons (pe_tup (pa_cons pe_int (pa_cons pe_int pa_nil))) (pa_cons (pv 1) pa_nil)))
        (pa_cons (pe_d (ok_product T) hr T.g_product (pa_cons (pe_tup (pa_cons pe_int (pa_cons pe_int pa_nil))) (pa_cons (pe_d (ok_gap_size T) hr T.g_gap_size (pa_cons (pv 0) (pa_cons (pv 3) pa_nil))) pa_nil))) pa_nil))))
      (pss_one (ps_ret (pe_tup (pa_cons (pe_d (ok_plus T) hr T.g_plus
        (pa_cons (pe_d (ok_product T) hr T.g_product (pa_cons (pe_tup (pa_cons pe_int (pa_cons pe_int pa_nil))) (pa_cons (pv 0) pa_nil)))
        (pa_cons (pe_d (ok_product T) hr T.g_product (pa_cons (pe_tup (pa_cons pe_int (pa_cons pe_int pa_nil))) (pa_cons (pv 3) pa_nil))) pa_nil)))
        (pa_cons (pv 1) pa_nil)))))), ?_⟩
    have w0 := (W0.say (frA p x) hp).say (frA q y) hq
    have st : Sm 20 ((r, 1) : Fr) := int_sm hr1 (by decide)
    have s34 : Sm 3 ((3, 4) : Fr) := ⟨by decide, by decide, by decide⟩
    have s14 : Sm 3 ((1, 4) : Fr) := ⟨by decide, by decide, by decide⟩
    have s78 : Sm 4 ((7, 8) : Fr) := ⟨by decide, by decide, by decide⟩
    have s18 : Sm 4 ((1, 8) : Fr) := ⟨by decide, by decide, by decide⟩
    have sg := gap_sm sx st
    have sa := prod_sm s34 sy
    have sb := prod_sm s14 sg
    have sc := prod_sm s78 sx
    have sd := prod_sm s18 st
    -- told = (sample, 1)
    refine ⟨_, rfl, two_le, fun a na => ?_⟩
    have w1 : W _ M (frA a (r, 1) :: _) := w0.newT na _
    dsimp only
    -- product((3, 4), spread)
    refine ⟨two_le, fun b nb => ?_⟩
    have w2 : W _ M (frA b (3, 4) :: _) := w1.newT nb _
    refine ⟨_, rfl, b, q, (3, 4), y, M, _, rfl, w2, w2.f _, w2.f _, s34.mono (by decide), sy.mono (by decide), fun c H1 w3 => ?_⟩
    -- product((1, 4), gap_size(smooth, told))
    refine ⟨two_le, fun d nd => ?_⟩
    have w4 : W _ M (frA d (1, 4) :: _) := w3.newT nd _
    refine ⟨_, rfl, _, rfl, p, a, x, (r, 1), M, _, rfl, w4, w4.f _, w4.f _, sx.mono (by decide), st.mono (by decide), fun e H2 w5 => ?_⟩
    refine ⟨d, e, (1, 4), _, M, _, rfl, w5, w5.f _, w5.f _, s14.mono (by decide), sg.mono (by decide), fun f H3 w6 => ?_⟩
    refine ⟨c, f, _, _, M, _, rfl, w6, w6.f _, w6.f _, sa.mono (by decide), sb.mono (by decide), fun g H4 w7 => ?_⟩
    dsimp only
    -- plus(product((7, 8), smooth), product((1, 8), told))
    refine ⟨two_le, fun b1 nb1 => ?_⟩
    have w8 : W _ M (frA b1 (7, 8) :: _) := w7.newT nb1 _
    refine ⟨_, rfl, b1, p, (7, 8), x, M, _, rfl, w8, w8.f _, w8.f _, s78.mono (by decide), sx.mono (by decide), fun c1 H5 w9 => ?_⟩
    refine ⟨two_le, fun d1 nd1 => ?_⟩
    have w10 : W _ M (frA d1 (1, 8) :: _) := w9.newT nd1 _
    refine ⟨_, rfl, d1, a, (1, 8), (r, 1), M, _, rfl, w10, w10.f _, w10.f _, s18.mono (by decide), st.mono (by decide), fun e1 H6 w11 => ?_⟩
    refine ⟨c1, e1, _, _, M, _, rfl, w11, w11.f _, w11.f _, sc.mono (by decide), sd.mono (by decide), fun f1 H7 w12 => ?_⟩
    refine ⟨_, rfl, two_le, fun z nz => ?_⟩
    have w13 := w12.newT nz [V.ref f1, V.ref g]
    exact k z _ (w13.e _ ⟨f1, g, w13.f (tupA z _), w13.f (frA f1 (plusF (prodF (7, 8) x) (prodF (1, 8) (r, 1)))), w13.f (frA g (plusF (prodF (3, 4) y) (prodF (1, 4) (gapF x (r, 1)))))⟩)
theorem sc_first_pair : FnScope ["sample"] ["sample"] (defScope s_first_pair) := ⟨rfl, rfl, rfl, by decide +kernel, rfl, by decide +kernel, by decide +kernel⟩
theorem ok_first_pair (T : Tp K mg base) : Def P w K mg base (.glo "first_pair") ["sample"] 3 spFirst := by
  refine def_mk T.f_first_pair sc_first_pair (fun vs H Q E h => ?_) (fun _ _ _ _ _ _ us hl => match us, hl with | [_], _ => rfl) (fun cdv A outer s H vs Q E hr h => ?_)
  · obtain ⟨r, M, T', rfl, _⟩ := h; rfl
  · obtain ⟨r, M, T', rfl, W0, hr1, k⟩ := h
    refine ⟨_, pss_one (ps_ret (pe_tup (pa_cons (pe_tup (pa_cons (pv 0) (pa_cons pe_int pa_nil))) (pa_cons (pe_d (ok_lowest T) hr T.g_lowest (pa_cons (pv 0) (pa_cons pe_int pa_nil))) pa_nil)))), ?_⟩
    refine ⟨_, rfl, two_le, fun a na => ?_⟩
    have w1 : W _ M (frA a (r, 1) :: _) := W0.newT na _
    refine ⟨_, rfl, r, 2, 20, M, _, rfl, by decide, by decide, by decide, by decide, w1, fun b H1 w2 => ?_⟩
    refine ⟨two_le, fun z nz => ?_⟩
    have w3 := w2.newT nz [V.ref a, V.ref b]
    exact k z _ (w3.e _ ⟨a, b, w3.f (tupA z _), w3.f (frA a (r, 1)), w3.f (frA b (lowF r 2))⟩)
theorem sc_length_of : FnScope ["smooth", "spread", "grain"] ["smooth", "spread", "grain"] (defScope s_length_of) := ⟨rfl, rfl, rfl, by decide +kernel, rfl, by decide +kernel, by decide +kernel⟩
theorem ok_length_of (T : Tp K mg base) : Def P w K mg base (.glo "length_of") ["smooth", "spread", "grain"] 4 spLength := by
  refine def_mk T.f_length_of sc_length_of (fun vs H Q E h => ?_) (fun _ _ _ _ _ _ us hl => match us, hl with | [_, _, _], _ => rfl) (fun cdv A outer s H vs Q E hr h => ?_)
  · obtain ⟨p, q, x, y, g, M, T', rfl, _⟩ := h; rfl
  · obtain ⟨p, q, x, y, g, M, T', rfl, W0, hp, hq, sx, sy, hg, k⟩ := h
    refine ⟨_, pss_one (ps_ret (pe_d (ok_plus T) hr T.g_plus (pa_cons (pv 0) (pa_cons (pe_d (ok_greater_of T) (hr.mono (by decide)) T.g_greater_of (pa_cons (pe_tup (pa_cons (pv 2) (pa_cons pe_int pa_nil)))
      (pa_cons (pe_d (ok_product T) hr T.g_product (pa_cons (pe_tup (pa_cons pe_int (pa_cons pe_int pa_nil))) (pa_cons (pv 1) pa_nil))) pa_nil))) pa_nil)))), ?_⟩
    have w0 := (W0.say (frA p x) hp).say (frA q y) hq
    have sg : Sm 20 ((g, 1) : Fr) := int_sm hg (by decide)
    have s41 : Sm 3 ((4, 1) : Fr) := ⟨by decide, by decide, by decide⟩
    have sa := prod_sm s41 sy
    refine ⟨_, rfl, _, rfl, two_le, fun a na => ?_⟩
    have w1 : W _ M (frA a (g, 1) :: _) := w0.newT na _
    refine ⟨two_le, fun b nb => ?_⟩
    have w2 : W _ M (frA b (4, 1) :: _) := w1.newT nb _
    refine ⟨_, rfl, b, q, (4, 1), y, M, _, rfl, w2, w2.f _, w2.f _, s41.mono (by decide), sy.mono (by decide), fun c H1 w3 => ?_⟩
    refine ⟨a, c, (g, 1), _, rfl, w3.f _, w3.f _, sg.mono (by decide), sa.mono (by decide), fun d hd => ?_⟩
    refine ⟨p, d, x, _, M, _, rfl, w3, w3.f _, hd, sx.mono (by decide), max_sm (sg.mono (by decide)) (sa.mono (by decide)), fun z H2 w4 => ?_⟩
    exact k z _ (w4.e _ (w4.f (frA z (plusF x (maxF (g, 1) (prodF (4, 1) y))))))
theorem sc_back_of : FnScope ["road"] ["road"] (defScope s_back_of) := ⟨rfl, rfl, rfl, by decide +kernel, rfl, by decide +kernel, by decide +kernel⟩
theorem ok_back_of (T : Tp K mg base) : Def P w K mg base (.glo "back_of") ["road"] 1 (spTwo 2 3) := by
  refine def_mk T.f_back_of sc_back_of (fun vs H Q E h => ?_) (fun _ _ _ _ _ _ us hl => match us, hl with | [_], _ => rfl) (fun cdv A outer s H vs Q E hr h => ?_)
  · obtain ⟨p, xs, M, T', u, v, rfl, _⟩ := h; rfl
  · obtain ⟨p, xs, M, T', u, v, rfl, W0, hp, hu, hv, k⟩ := h
    refine ⟨_, pss_one (ps_ret (pe_tup (pa_cons (pe_ix ix_tup (pv 0) pe_int (fun _ _ => rfl)) (pa_cons (pe_ix ix_tup (pv 0) pe_int (fun _ _ => rfl)) pa_nil)))), ?_⟩
    refine r_ixT rfl hp (atI_nat hu) (r_ixT rfl hp (atI_nat hv) ⟨two_le, fun z nz => ?_⟩)
    exact k z _ (W0.newT nz _)
def spTrip : Sp := fun vs H Q _ => ∃ (p : Addr) (a b c d : Int), vs = [.ref p] ∧ H p = some (.tup [.int a, .int b, .int c, .int d]) ∧ Q (.int (b + d)) H
theorem sc_most_trip : FnScope ["road"] ["road"] (defScope s_most_trip) := ⟨rfl, rfl, rfl, by decide +kernel, rfl, by decide +kernel, by decide +kernel⟩
theorem ok_most_trip (T : Tp K mg base) : Def P w K mg base (.glo "most_trip") ["road"] 1 spTrip := by
  refine def_mk T.f_most_trip sc_most_trip (fun vs H Q E h => ?_) (fun _ _ _ _ _ _ us hl => match us, hl with | [_], _ => rfl) (fun cdv A outer s H vs Q E hr h => ?_)
  · obtain ⟨p, a, b, c, d, rfl, _⟩ := h; rfl
  · obtain ⟨p, a, b, c, d, rfl, hp, k⟩ := h
    refine ⟨_, pss_one (ps_ret (pe_op op_add (pe_ix ix_tup (pv 0) pe_int (fun _ _ => rfl)) (pe_ix ix_tup (pv 0) pe_int (fun _ _ => rfl)))), ?_⟩
    exact r_ixT rfl hp rfl (r_ixT rfl hp rfl (r_int2 k))
end
end Su

set_option Elab.async false
set_option linter.all false
set_option maxRecDepth 100000
set_option maxHeartbeats 2000000
/-! rules for constructs of our own: an attribute as a target, an item of a list op= a number -/
namespace Su
open PySem PySem.Spec PyProof.Rows L2
section
variable {X : Cx} {o : Expr} {f : Str} {pos : Pos} {ta : TE}
def gFld (K : PySem.W.Frag) (ta : TE) (f : Str) : TG := fun v σ H Q => ta σ H fun x H1 => ∃ a C dx fs, x = .ref a ∧ H1 a = some (.ins C dx fs) ∧ Cls K C ∧ NoAttr K C f ∧ fs.length < 1000 ∧ Q σ (upd H1 a (.ins C dx (putF f v fs)))
theorem pg_fld (ho : PE X o ta) : PG X (.Attribute o f pos) (gFld X.K ta f) := by
  refine ⟨fun pins s σ H v u Q I r h => ?_⟩
  rw [assign_Attribute]
  refine wpAny_bind (wpAny_holding (thn (ho.run pins s σ H _ I h) fun ov s1 ⟨x, H1, I1, rx, a, C, dx, fs, ex, ea, c, n, l, q⟩ => ?_))
  subst ex
  obtain rfl : ov = Value.ref a := rx
  refine wpAny_bind (wpAny_standAt (wpAny_bind (wpAny_holding (setattr_ok I1 ea c n l r fun s3 I3 => ?_))))
  exact wpAny_release ⟨σ, _, I3, q⟩
theorem pget_list : PGet X (rIxL X.K) := by
  intro pins s σ H x y v u Q I rx ry h
  obtain ⟨p, xs, i, z, rfl, rfl, hq, he, q⟩ := h
  cases rx
  obtain ⟨t, rfl⟩ := ry
  obtain ⟨its, r, pl, hz⟩ := I.list hq
  obtain ⟨j, h1, h2, h3, h4, h5⟩ := atI_get he
  obtain ⟨w, ew, rw'⟩ := r.get h2
  have hl := r.length
  have hn := line63
  have fin : EP X pins σ Q w s := ⟨z, H, I, rw', q⟩
  by_cases h0 : 0 ≤ i
  · have hj : i.toNat = j := by
      rw [seqIndex_of h0 h5] at h1
      exact Option.some.inj h1
    exact wpAny_getItem_list pl.isList h0 (by omega) (by rw [hj]; simpa using ew) fin
  · have hj : (i + (its.toArray.size : Int)).toNat = j := by
      rw [seqIndex_neg (by omega) h4] at h1
      rw [List.size_toArray, ← hl]
      exact Option.some.inj h1
    exact wpAny_getItem_list_neg pl.isList (by omega) (by rw [List.size_toArray] <;> omega) (by omega) (by rw [hj]; simpa using ew) fin
end
end Su

set_option Elab.async false
set_option linter.all false
set_option maxRecDepth 100000
set_option maxHeartbeats 4000000
/-! tuple times a number from 1 on -/
namespace Su
open PySem PySem.Spec PyProof.Rows L2
theorem tuple_mul1 (l : Addr) (items : Array Value) (n : Nat) (dd : Option Addr) (sl : Array (Option Value)) (u : Tok) :
    Meets (Builtin.«tuple.__mul__» ⟨[.ref l, .int 1 u], []⟩) (fun _ R s => s.heap.get? l = some { cls := .type "tuple", dict := dd, data := .seq items n, slots := sl } ∧ R (.ok (.ret (Value.ref l))) s) :=
  .of_wp fun prog w A R s h => by
    obtain ⟨hp, g, d, tk, os⟩ := s
    obtain ⟨hl, h⟩ := h
    have f1 := AutoSeq1.idx_int
    wp_walk using wpAny_loadPart' hl
    repeat (first
      | (refine wpAny_ite_false (by decide) ?_; wp_walk using wpAny_loadPart' hl)
      | (refine wpAny_ite_true (by simp) ?_; wp_walk using wpAny_loadPart' hl))
    exact ⟨_, rfl, h⟩
/-- (v,) * k -/
def rRepA (K : PySem.W.Frag) : R2 := fun x y H Q => ∃ l v k, x = .ref l ∧ y = .int k ∧ SqT K H l [v] ∧ 1 ≤ k ∧ k ≤ 1000 ∧ ∀ p H', (p = l ∧ H' = H ∧ k = 1 ∨ H p = none ∧ H' = upd H p (.tup (List.replicate k.toNat v))) → Q (.ref p) H'
theorem op_repA {X : Cx} : OpR X (binaryOp .Mult) (rRepA X.K) := by
  intro pins s σ H x y v u Q I rx ry h
  obtain ⟨l, z, k, ex, ey, hT, h1, h2, q⟩ := h
  by_cases hk : k = 1
  · subst hk ex ey
    cases rx
    obtain ⟨t, rfl⟩ := ry
    obtain ⟨its, r, ⟨⟨cls, dd, data, sl⟩, ho, hc, n, hd⟩, hs⟩ := I.tuple hT
    simp only at hc hd
    subst hc hd
    refine wpAny_binaryOp_repeat_ref (T := "tuple") (U := "int") (by decide) ⟨_, ho, rfl⟩ (fun s' => typeIs_int s' 1 t) noFill_tuple_mul F.fills_int_mul F.slot_int_rmul repeat_tuple F.slot_int_index.lookup
      (call_meets F.slot_int_rmul (typeIs_int s 1 t) F.entry_int_rmul (F.args_int_rmul_2 _ _) (int_rmul_tuple 1 t l its.toArray n dd sl)
        ⟨ho, rfl, ⟨_, ho, rfl⟩, call_meets F.slot_tuple_mul ⟨_, ho, rfl⟩ F.entry_tuple_mul (F.args_tuple_mul_2 _ _) (tuple_mul1 l its.toArray n dd sl t) ⟨ho, ?_⟩⟩)
    exact ⟨.ref l, H, I, rfl, q l H (.inl ⟨rfl, rfl, rfl⟩)⟩
  · refine op_repT pins s σ H x y v u Q I rx ry ⟨l, k, [z], ex, ey, hT, by simp, by omega, h2, by simp, fun p hp => ?_⟩
    have e : (List.replicate k.toNat [z]).flatten = List.replicate k.toNat z := by
      generalize k.toNat = m
      induction m with
      | zero => rfl
      | succ m ih => rw [List.replicate_succ, List.flatten_cons, ih, List.replicate_succ]; rfl
    rw [e]
    exact q p _ (.inr ⟨hp, rfl⟩)
/-- t[lo:hi], the whole one or a part -/
def rSlB (K : PySem.W.Frag) : V → Option Int → Option Int → Hp → VK → Prop := fun x lo hi H Q => ∃ a xs, x = .ref a ∧ SqT K H a xs ∧ ∀ p H', (p = a ∧ H' = H ∧ cutV xs lo hi = xs ∨ H p = none ∧ H' = upd H p (.tup (cutV xs lo hi))) → Q (.ref p) H'
theorem sl_tupB {X : Cx} : SlR X (rSlB X.K) := by
  intro pins s σ H x v vl vu lo hi sl Q I rx hs pl pu ⟨a, xs, ex, hT, q⟩
  refine sl_tupA pins s σ H x v vl vu lo hi sl Q I rx hs pl pu ⟨a, xs, ex, hT, fun w => q a H (.inl ⟨rfl, rfl, ?_⟩), fun _ p hp => q p _ (.inr ⟨hp, rfl⟩)⟩
  unfold cutV
  rw [w.1, w.2, List.drop_zero, Nat.sub_zero, List.take_length]
theorem lay_ints : ∀ xs : List Int, PyData.canLayAll0 (xs.map PyData.int) = true
  | [] => rfl
  | x :: xs => by simp [PyData.canLayAll0, PyData.canLay0, lay_ints xs]
theorem depth_ints : ∀ xs : List Int, PyData.depthAll (xs.map PyData.int) = 0
  | [] => rfl
  | x :: xs => by simp [PyData.depthAll, PyData.depth, depth_ints xs]
theorem dpAll_ints {K : PySem.W.Frag} {H : Hp} : ∀ xs : List Int, DpAll K H (xs.map V.int) (xs.map PyData.int)
  | [] => .nil
  | x :: xs => .cons (.int x) (dpAll_ints xs)
/-- two tuples of the same numbers: != -/
def rNeIs (K : PySem.W.Frag) : R2 := fun x y H Q => ∃ (a b : Addr) (ns : List Int), x = .ref a ∧ y = .ref b ∧ SqT K H a (ns.map V.int) ∧ SqT K H b (ns.map V.int) ∧ Q (.bl false) H
theorem op_neIs {X : Cx} (hu : X.A.units + 64 < cLine) : OpR X (compareOp .NotEq) (rNeIs X.K) := by
  intro pins s σ H x y v u Q I rx ry ⟨a, b, ns, ex, ey, h1, h2, q⟩
  have hl : PyData.canLay0 (.tuple (ns.map PyData.int)) = true := lay_ints ns
  have hs : SeqAt.shaped (.tuple (ns.map PyData.int)) = true := by
    unfold SeqAt.shaped
    rw [hl, Bool.true_and]
    refine decide_eq_true ?_
    show PyData.depthAll (ns.map PyData.int) + 1 ≤ 64
    rw [depth_ints]; decide
  refine op_neD hu pins s σ H x y v u Q I rx ry ⟨_, _, ex ▸ .tup h1 (dpAll_ints ns), ey ▸ .tup h2 (dpAll_ints ns), hs, hs, ?_⟩
  rw [SeqAt.eqv_refl _ hl]
  exact q
end Su

set_option Elab.async false
set_option linter.all false
set_option maxRecDepth 100000
set_option maxHeartbeats 4000000
/-! a def called by keywords alone -/
namespace Su
open PySem PySem.Spec PyProof.Rows L2
section
variable {X : Cx} {CX : CXT} {k : Nat} {f : Addr} {fd : FuncData} {ps ks : List Str} {sp : Sp} {E : XK} {x : Str} {p pos : Pos} {kws : List Keyword} {tk : TA} {g : List Value → List Value → List Value} {gV : List V → List V → List V}
/-- f(k = v, ..) -/
theorem pe_kw (F : FnOk X.prog X.w X.K X.mg X.base CX k f fd ps sp) (hr : Room k X.A) (hg : Gl X x) (hm : X.mg x = some (.ref f)) (hk : PySem.W.keepIn X.K (.ref f) = true) (hb : KBinds X.K fd ps ks g gV) (hx : Passes CX X E)
    (hkw : PK X kws tk) (hall : (backToKw pos (keywordEach kws X.env)).all (·.1.isSome) = true := by rfl) (hks : (backToKw pos (keywordEach kws X.env)).filterMap (·.1) = ks := by rfl)
    (hdb : (x == ("__debug__" : Str)) = false := by decide)
    (hpl : ((backTo pos (starEach [] X.env)).any (·.1) || (backToKw pos (keywordEach kws X.env)).any (·.1.isNone)) = false := by rfl) :
    PE X (.Call (.Name x p) [] kws pos) (tCallK sp gV E tNil tk) := by
  refine ⟨fun pins s σ H Q I h => ?_⟩
  refine wpAny_Call_Name_kw (ld_glob I hg hm ?_ hdb)
  refine PySem.W.callWith_KW0 (h₀ := X.base) I.ok.mod.kin hk hall (thn (hkw.run pos pins s σ H _ I h) fun ws s2 ⟨zs, H2, I2, rz, q2⟩ => ⟨I2.kIn, ?_⟩) hpl
  rw [hks]
  exact run_fnk F hr hb hx I2 .nil rz q2
end
/-- as def_mk, the function object told -/
theorem defF_mk {P : Program} {w : World} {K : PySem.W.Frag} {mg : Str → Option Value} {base : Heap} {wh : Hz.Wh} {ps : List Str} {k : Nat} {sp : Sp} {name qual : Str} {st : Stmt} {N : List Str} (F : ∃ fd, Fun K name qual st (wh.at_ K) fd) (S : FnScope N ps (defScope st)) (len : ∀ vs H Q E, sp vs H Q E → vs.length = ps.length)
    (body : ∀ (cdv : Value) (A : Around) (outer : List Env) (s : Shared) (H : Hp) (vs : List V) (Q : VK) (E : XK), Room k (A.deeper (envOfC qual (defScope st) s.heap.objs.size (wh.at_ K) cdv)) → sp vs H Q E →
      ∃ t, PSs (cxOf CX0 P w K mg base N qual (defScope st) (wh.at_ K) cdv A outer s H E).nox (defBody st) t ∧ t { nx := fun _ H' => Q .non H', rt := Q } (start N vs) H) : ∃ fd, Fun K name qual st (wh.at_ K) fd ∧ FnOk P w K mg base CX0 (k + 1) (wh.at_ K) fd ps sp := by
  obtain ⟨fd, F⟩ := F
  exact ⟨fd, F, F.ok S len body⟩
theorem defF_def {P : Program} {w : World} {K : PySem.W.Frag} {mg : Str → Option Value} {base : Heap} {wh : Hz.Wh} {ps : List Str} {k : Nat} {sp : Sp} {name qual : Str} {st : Stmt} (D : ∃ fd, Fun K name qual st (wh.at_ K) fd ∧ FnOk P w K mg base CX0 k (wh.at_ K) fd ps sp)
    (b : ∀ (kV doc pm : Value) (an : Option Addr) (cdv ct : Value) (us : List Value), us.length = ps.length → bindArgs (PySem.W.fnOf name qual (defArgs st) (defBody st) (defScope st) .none kV doc pm an cdv ct) ⟨us, []⟩ = pure (ps.zip us)) : Def P w K mg base wh ps k sp := by
  obtain ⟨fd, F, G⟩ := D
  exact ⟨fd, F.kp, F.binds b, G⟩
/-- three keywords in the order of the third, second, first parameter -/
def kw3 {α : Type} : List α → List α → List α
  | [], [c, b, a] => [a, b, c]
  | _, _ => []
theorem kbinds3 {K : PySem.W.Frag} {name qual : Str} {st : Stmt} {f : Addr} {fd : FuncData} {x y z : Str} (F : Fun K name qual st f fd)
    (h : ∀ (kV doc pm : Value) (an : Option Addr) (cdv ct : Value) (a b c : Value), bindArgs (PySem.W.fnOf name qual (defArgs st) (defBody st) (defScope st) .none kV doc pm an cdv ct) ⟨[], [(z, c), (y, b), (x, a)]⟩ = pure [(x, a), (y, b), (z, c)]) :
    KBinds K fd [x, y, z] [z, y, x] kw3 kw3 := by
  obtain ⟨oc, od, kV, doc, pm, an, cdv, ct, osl, rfl, lk, hcd⟩ := F.ex
  refine ⟨fun s us ws _ hl => ?_, fun {vs us zs ws} h1 h2 => ?_⟩
  · match us, ws, hl with
    | [], [c, b, a], _ => exact .of_eq (h kV doc pm an cdv ct a b c)
  · cases h1 with
    | cons _ _ => exact .nil
    | nil =>
      match zs, ws, h2 with
      | [], _, .nil => exact .nil
      | [_], _, .cons _ .nil => exact .nil
      | [_, _], _, .cons _ (.cons _ .nil) => exact .nil
      | [_, _, _], _, .cons r1 (.cons r2 (.cons r3 .nil)) => exact .cons r3 (.cons r2 (.cons r1 .nil))
      | _ :: _ :: _ :: _ :: _, _, .cons _ (.cons _ (.cons _ (.cons _ _))) => exact .nil
end Su

set_option Elab.async false
set_option linter.all false
set_option maxRecDepth 100000
set_option maxHeartbeats 2000000
/-! further rules of our own: sorted of a dict's numbers -/
namespace Su
open PySem PySem.Spec PyProof.Rows L2
theorem ints_at : ∀ {us : List Value} {ks : List Int}, us.length = ks.length → (∀ (j : Nat) (v : Value), us[j]? = some v → ∃ (x : Int) (t : Tok), ks[j]? = some x ∧ v = Value.int x t) → IntsAre us ks
  | [], [], _, _ => .nil
  | u :: us, k :: ks, hl, h => by
    obtain ⟨x, t, e1, rfl⟩ := h 0 u rfl
    obtain rfl : k = x := Option.some.inj e1
    exact .cons _ _ (ints_at (by simpa using hl) fun j v e => h (j + 1) v (by simpa using e))
  | [], _ :: _, hl, _ => by simp at hl
  | _ :: _, [], hl, _ => by simp at hl
/-- sorted(d), d a dict of fewer than 64 numbers -/
def rSortD : List V → Hp → VK → Prop := fun xs H Q => ∃ (a : Addr) (kvs : List (Key × V)) (ks : List Int), xs = [.ref a] ∧ H a = some (.dK kvs) ∧ kvs.map (·.1) = ks.map Sum.inl ∧ ks.length < 64 ∧
  ∀ (ys : List Int) (p : Addr), ys.Perm ks → ys.Pairwise (· ≤ ·) → H p = none → Q (.ref p) (upd H p (.lst (ys.map V.int)))
theorem cr_sortD {X : Cx} (calm : X.calm = true) : CallR X (.builtin "sorted") rSortD := by
  intro pins s σ H xs us Q I r q
  obtain ⟨a, kvs, ks, ex, hd, hks, h64, q⟩ := q
  subst ex
  obtain ⟨u, eu, rx⟩ := vals1 r
  subst eu
  cases rx
  obtain ⟨z, lo, vs, rel, dd⟩ := dk_rd I.hok (.inl hd)
  obtain ⟨ep, hat⟩ := dd.dictAt
  have hkeys : vs.map (·.1) = ks.map Sum.inl := rel.keys.symm.trans hks
  have hl : vs.length = ks.length := by simpa using congrArg List.length hkeys
  refine Calls.call_function_entry PyProof.Rows.kind_sorted PyProof.Rows.plain_sorted PyProof.Rows.entry_sorted (PyProof.Rows.args_sorted1 _) ?_
  unfold Builtin.«sorted»
  refine wpAny_bind (m := checkCount "sorted" 1 1 _) (wpAny_pure (wpAny_bind (PySem.W.kdu_collect (A := X.A.in1) (PySem.W.kdl_dict (knd := mixKind X.prog X.w) (kvs := vs) (ep := ep) lo) (I.ok.hd calm) hat (by rw [hl, sizeLine_eq]; omega) fun h' tk acc hk hacc => ?_)))
  have hal : acc.toList.length = ks.length := by rw [Array.length_toList, hacc.1, hl]
  have hS : IntsAre acc.toList ks := ints_at hal fun j v e => by
    obtain ⟨k, x, e1, e2⟩ := hacc.2 j v (by rw [← Array.getElem?_toList]; exact e)
    have e3 : (ks.map (Sum.inl : Int → Key))[j]? = some k := by rw [← hkeys, List.getElem?_map, e1]; rfl
    rw [List.getElem?_map] at e3
    obtain ⟨y, e4, e5⟩ := Option.map_eq_some_iff.mp e3
    subst e5
    obtain ⟨t, ev⟩ := Value.isInt_shape (k := y) (v := v) e2
    exact ⟨y, t, e4, ev⟩
  have I1 : Inv X pins σ H { s with heap := h', toks := tk } := I.kept hk
  refine wpAny_bind (wpAny_newList ?_ (by rw [hal, sizeLine_eq]; omega))
  have ho : (h'.push (seqObj "list" acc.toList.toArray 0)).get? h'.objs.size = some (seqObj "list" acc.toList.toArray 0) := Heap.get?_push_size _ rfl
  refine wpAny_bind (wpAny_holding (wpAny_call_entry (s := { s with heap := h'.push (seqObj "list" acc.toList.toArray 0), toks := tk }) PyProof.Rows.slot_list_sort ⟨_, ho, rfl⟩ PyProof.Rows.entry_list_sort
    (PyProof.Rows.list_sort_tree (s := { s with heap := h'.push (seqObj "list" acc.toList.toArray 0), toks := tk }) ho hS (by rw [hal]; exact h64) fun out ys g1 g2 g3 => ⟨_, rfl, ?_⟩) (PyProof.Rows.args_list_sort _)))
  obtain ⟨e', he'⟩ := PyProof.Rows.sortedHeap_at (vs := acc.toList) (out := out) ho
  have hlen : (ys.map V.int).length ≤ sizeLine := by rw [List.length_map, g2.length_eq, sizeLine_eq]; omega
  refine wpAny_pure ⟨_, rfl, .ref h'.objs.size, upd H h'.objs.size (.lst (ys.map V.int)), I1.laid (t' := tk) (fun b u e => ?_) (Nat.le_refl _)
    (show ObjOk X.prog X.w _ _ _ (.lst (ys.map V.int)) from ⟨hlen, out.toList, e', vals_of_ints g1, by rw [Array.toArray_toList]; exact he'⟩), rfl, q ys _ g2 g3 (I1.hok.fresh (Nat.le_refl _))⟩
  have hb : b < h'.objs.size := Heap.lt_size e
  rw [PyProof.Rows.sortedHeap_old (Nat.ne_of_lt hb) (by rw [size_push']; exact Nat.lt_succ_of_lt hb)]
  exact Heap.get?_push_of_some _ e
end Su

set_option Elab.async false
set_option linter.all false
set_option maxRecDepth 100000
set_option maxHeartbeats 2000000
/-! the reader -/
namespace Su
open PySem PySem.Spec PyProof.Rows L2
/-- a dict of the numbers below n -/
def kR (n : Nat) : List (Key × V) := (List.range n).map fun (i : Nat) => (Sum.inl (i : Int), V.bl true)
theorem kR_len (n : Nat) : (kR n).length = n := by unfold kR; simp
theorem kR_val (n : Nat) (i : Int) : valV (kR n) (Sum.inl i : Key) = if 0 ≤ i ∧ i < n then some (V.bl true) else none := by
  unfold valV kR
  split
  · rename_i h
    obtain ⟨j, rfl⟩ := Int.eq_ofNat_of_zero_le h.1
    have hj : j < n := by omega
    cases e : ((List.range n).map fun (i : Nat) => ((Sum.inl (i : Int) : Key), V.bl true)).find? (fun kv => decide (kv.1 = (Sum.inl (j : Int) : Key))) with
    | none =>
      have q := List.find?_eq_none.mp e ((Sum.inl (j : Int) : Key), V.bl true) (List.mem_map.mpr ⟨j, List.mem_range.mpr hj, rfl⟩)
      simp at q
    | some p =>
      obtain ⟨k, _, hk⟩ := List.mem_map.mp (List.mem_of_find?_eq_some e)
      rw [← hk]; rfl
  · rename_i h
    have e : ((List.range n).map fun (i : Nat) => ((Sum.inl (i : Int) : Key), V.bl true)).find? (fun kv => decide (kv.1 = (Sum.inl i : Key))) = none := by
      refine List.find?_eq_none.mpr fun p hp => ?_
      obtain ⟨k, hk, rfl⟩ := List.mem_map.mp hp
      have hk := List.mem_range.mp hk
      simp only [decide_eq_true_eq]
      intro z
      have z := Sum.inl.inj z
      omega
    rw [e]; rfl
theorem kR_put (n : Nat) : putK (kR n) (Sum.inl (n : Int) : Key) (V.bl true) = kR (n + 1) := by
  rw [putK_new _ (by rw [kR_val, if_neg (by omega)])]
  unfold kR
  rw [List.range_succ, List.map_append]
  rfl
/-- where the reader's parts stand -/
structure RdA where
  r : Addr
  dx : Addr
  pd : Addr
  dc : Addr
  lk : Addr
  d0 : Addr
  lr : Addr
/-- what it knows: what came, what is kept, read, acks sent .. -/
structure RdS where
  came : Nat
  kept : Nat
  rd : Nat
  acks : Nat
  g : Int
  gt : Int
  told : Int
  first : V
abbrev rdM (K : PySem.W.Frag) (x : RdA) (s : RdS) (M : List Cell) : List Cell :=
  (x.r, .ins (He.ga K "Reader") x.dx (fl nsReader [.ref x.pd, .int 0, .ref x.dc, .ref x.lk, .ref x.lr, .int s.acks, .int s.g, .int s.gt, .int s.told, s.first, .bl false])) ::
  (x.dc, .dK (kR s.came)) :: (x.lk, .lst [.ref x.d0]) :: (x.d0, .dK (kR s.kept)) :: (x.lr, .lst [.int s.rd]) :: M
/-- between two ticks: n packets came, were read and acked, the last one at gt -/
def rdAt (n : Nat) (gt : Int) : RdS := ⟨n, n, n, n, (n : Int) - 1, gt, (n : Int) - 1, .non⟩
/-- one more has come -/
def rdIn (n : Nat) (now : Int) : RdS := ⟨n + 1, n + 1, n, n, n, now, (n : Int) - 1, .int now⟩
/-- .. and was read -/
def rdRd (n : Nat) (now : Int) : RdS := ⟨n + 1, n + 1, n + 1, n, n, now, (n : Int) - 1, .int now⟩
def spTake (K : PySem.W.Frag) : Sp := fun vs H Q _ => ∃ (x : RdA) (n : Nat) (now gt : Int) (p : Addr) (M : List Cell) (T : List As), vs = [.ref x.r, .int now, .int n, .ref p] ∧ n ≤ 1000 ∧ W H (rdM K x (rdAt n gt) M) T ∧ H p = some (.tup [.int 0, .int n]) ∧
  ∀ H', W H' (rdM K x (rdIn n now) M) T → Q .non H'
def spDue (K : PySem.W.Frag) : Sp := fun vs H Q _ => ∃ (x : RdA) (s : RdS) (now : Int) (M : List Cell) (T : List As), vs = [.ref x.r, .int now] ∧ W H (rdM K x s M) T ∧ (s.first = .non ∧ Q (.bl false) H ∨ s.first = .int now ∧ (s.came : Int) > s.g ∧ Q (.bl true) H)
section
variable {P : Program} {w : World} {K : PySem.W.Frag} {mg : Str → Option Value} {base : Heap}
theorem sc_Reader_take : FnScope ["self", "now", "number", "letter"] ["self", "now", "number", "letter"] (defScope s_Reader_take) := ⟨rfl, rfl, rfl, by decide +kernel, rfl, by decide +kernel, by decide +kernel⟩
theorem ok_Reader_take (T : Tp K mg base) : Def P w K mg base (.met "Reader" "take") ["self", "now", "number", "letter"] 1 (spTake K) := by
  refine def_mk T.f_Reader_take sc_Reader_take (fun vs H Q E h => ?_) (fun _ _ _ _ _ _ us hl => match us, hl with | [_, _, _, _], _ => rfl) (fun cdv A outer s H vs Q E hr h => ?_)
  · obtain ⟨x, n, now, gt, p, M, T', rfl, _⟩ := h; rfl
  · obtain ⟨x, n, now, gt, p, M, T', rfl, hn, W0, hp, k⟩ := h
    have hu := hu_of hr
    refine ⟨_, pss_cons (ps_dput hu (pe_fld (pv 0) rfl) (pv 2) pe_bl rfl)
      (pss_cons (ps_if (pt_cmpR op_lt (pv 2) (pe_fld (pv 0) rfl) (nomark _)) pss_never (pss_one (ps_asg (pe_tup (pa_cons (pv 2) (pa_cons (pv 1) pa_nil))) (pg_tup (n := 2) rfl (pgs_cons (pg_fld (pv 0)) (pgs_cons (pg_fld (pv 0)) pgs_nil))))))
      (pss_cons (ps_if (pt_cmpR op_isN (pe_fld (pv 0) rfl) pe_non (nomark _)) (pss_one (ps_fld (pv 0) (pv 1) rfl)) pss_nil)
      (pss_one (ps_if (pt_cmpR op_notN (pv 3) pe_non (nomark _)) (pss_one (ps_dput hu (pe_ix ix_list (pe_fld (pv 0) rfl) (pe_ix ix_tup (pv 3) pe_int (fun _ _ => rfl)) (fun _ _ => rfl)) (pe_ix ix_tup (pv 3) pe_int (fun _ _ => rfl)) pe_bl rfl)) pss_nil)))), ?_⟩
    have w0 := W0.say (tupA p _) hp
    -- self.came[number] = True
    refine r_fld (k := 2) T.o_Reader rfl (w0.c x.r) rfl rfl ⟨_, rfl, x.dc, _, rfl, DPut.k (k := Sum.inl (n : Int)) (w0.c x.dc) (small1000 (by rw [kR_len]; exact hn)), ?_⟩
    dsimp only
    rw [show (rdAt n gt).came = n from rfl, kR_put]
    have w1 := w0.p x.dc (.dK (kR (n + 1)))
    -- if number < self.greatest .. else ..
    refine ⟨_, rfl, r_fld (k := 6) T.o_Reader rfl (w1.c x.r) rfl rfl ⟨_, _, rfl, rfl, _, rfl, ?_⟩⟩
    rw [show decide ((n : Int) < (rdAt n gt).g) = false from decide_eq_false (by show ¬ (n : Int) < (n : Int) - 1; omega)]
    refine iteF ?_
    refine ⟨_, rfl, _, rfl, two_le, fun a na => ?_⟩
    have w2 := w1.newT na [.int n, .int now]
    refine ⟨a, [.int n, .int now], rfl, SqT.of (w2.f (tupA a _)), rfl, _, _, rfl, ?_⟩
    refine ⟨_, rfl, x.r, _, _, _, rfl, w2.c x.r, T.o_Reader.cl, T.o_Reader.na _ (List.mem_of_getElem? (i := 6) rfl), T.o_Reader.ln, ?_⟩
    rw [fl_put (k := 6) T.o_Reader.nd rfl (by simp)]
    have w3 := w2.s x.r 6 (.int n)
    refine ⟨_, _, rfl, ?_⟩
    refine ⟨_, rfl, x.r, _, _, _, rfl, w3.c x.r, T.o_Reader.cl, T.o_Reader.na _ (List.mem_of_getElem? (i := 7) rfl), T.o_Reader.ln, ?_⟩
    rw [fl_put (k := 7) T.o_Reader.nd rfl (by simp)]
    refine ⟨rfl, ?_⟩
    have w4 := w3.s x.r 7 (.int now)
    dsimp only
    -- if self.first is None: self.first = now
    refine r_fld (k := 9) T.o_Reader rfl (w4.c x.r) rfl rfl ⟨rfl, _, rfl, iteT ?_⟩
    refine ⟨_, rfl, ?_⟩
    refine ⟨_, rfl, x.r, _, _, _, rfl, w4.c x.r, T.o_Reader.cl, T.o_Reader.na _ (List.mem_of_getElem? (i := 9) rfl), T.o_Reader.ln, ?_⟩
    rw [fl_put (k := 9) T.o_Reader.nd rfl (by simp)]
    have w5 := w4.s x.r 9 (.int now)
    dsimp only
    -- if letter is not None: self.kept[letter[0]][letter[1]] = True
    refine ⟨_, rfl, rfl, _, rfl, iteT ?_⟩
    refine r_fld (k := 3) T.o_Reader rfl (w5.c x.r) rfl rfl (r_ixT rfl (w5.f (tupA p [.int 0, .int n])) rfl ⟨_, _, _, _, rfl, rfl, SqL.of (w5.c x.lk), rfl, r_ixT rfl (w5.f (tupA p [.int 0, .int n])) rfl ⟨x.d0, _, rfl, DPut.k (k := Sum.inl (n : Int)) (w5.c x.d0) (small1000 (by rw [kR_len]; exact hn)), ?_⟩⟩)
    dsimp only
    rw [show (rdAt n gt).kept = n from rfl, kR_put]
    exact k _ (w5.p x.d0 (.dK (kR (n + 1)))).e0
theorem sc_Reader_is_due : FnScope ["self", "now", "has_hole"] ["self", "now"] (defScope s_Reader_is_due) := ⟨rfl, rfl, rfl, by decide +kernel, rfl, by decide +kernel, by decide +kernel⟩
theorem ok_Reader_is_due (T : Tp K mg base) : Def P w K mg base (.met "Reader" "is_due") ["self", "now"] 1 (spDue K) := by
  refine def_mk T.f_Reader_is_due sc_Reader_is_due (fun vs H Q E h => ?_) (fun _ _ _ _ _ _ us hl => match us, hl with | [_, _], _ => rfl) (fun cdv A outer s H vs Q E hr h => ?_)
  · obtain ⟨x, z, now, M, T', rfl, _⟩ := h; rfl
  · obtain ⟨x, z, now, M, T', rfl, W0, k⟩ := h
    refine ⟨_, pss_cons (ps_if (pt_cmpR op_isN (pe_fld (pv 0) rfl) pe_non (nomark _)) (pss_one (ps_ret pe_bl)) pss_nil)
      (pss_cons (ps_set (i := 2) sc_Reader_is_due.nd rfl (.inl rfl) (pe_cmpR op_le (pe_callB call_lenD rfl T.b_len boot_len (pa_cons (pe_fld (pv 0) rfl) pa_nil)) (pe_fld (pv 0) rfl) (nomark _)))
      (pss_one (ps_ret (pe_or (pe_fld (pv 0) rfl) (pe_or (pv 2) (pe_one (pe_cmpR op_ge (pv 1) (pe_op op_add (pe_fld (pv 0) rfl) (pe_fld (pv 0) rfl)) (nomark _)))))))), ?_⟩
    refine r_fld (k := 9) T.o_Reader rfl (W0.c x.r) rfl rfl ⟨rfl, _, rfl, ?_⟩
    rcases k with ⟨e, k⟩ | ⟨e, hc, k⟩
    · rw [e]; exact iteT k
    · rw [e]
      refine iteF ?_
      refine r_fld (k := 2) T.o_Reader rfl (W0.c x.r) rfl rfl ⟨_, _, rfl, W0.c x.dc, r_fld (k := 6) T.o_Reader rfl (W0.c x.r) rfl rfl ⟨_, _, rfl, rfl, ?_⟩⟩
      dsimp only
      refine r_fld (k := 10) T.o_Reader rfl (W0.c x.r) rfl rfl ⟨_, rfl, ?_⟩
      refine iteF ⟨_, rfl, _, rfl, ?_⟩
      rw [show decide (((kR z.came).length : Int) ≤ z.g) = false from decide_eq_false (by rw [kR_len]; omega)]
      refine iteF ⟨_, rfl, r_fld (k := 9) T.o_Reader rfl (W0.c x.r) rfl rfl (r_fld (k := 1) T.o_Reader rfl (W0.c x.r) rfl rfl ?_)⟩
      rw [e]
      refine ⟨now, 0, rfl, rfl, _, _, rfl, rfl, ?_⟩
      show Q (.bl (decide (now + 0 ≤ now))) H
      rw [show decide (now + 0 ≤ now) = true from decide_eq_true (by omega)]
      exact k
def spRdInit (K : PySem.W.Frag) : Sp := fun vs H Q _ => ∃ (r dx pd : Addr) (u : V) (M : List Cell) (T : List As), vs = [.ref r, .ref pd, .int 0] ∧ W H ((r, .ins (He.ga K "Reader") dx (fl nsReader [])) :: M) T ∧ H pd = some (.tup [u]) ∧
  ∀ H' (dc lk d0 lr : Addr), W H' (rdM K ⟨r, dx, pd, dc, lk, d0, lr⟩ (rdAt 0 0) M) T → Q .non H'
theorem sc_Reader_init : FnScope ["self", "data", "wait", "_"] ["self", "data", "wait"] (defScope s_Reader_init) := ⟨rfl, rfl, rfl, by decide +kernel, rfl, by decide +kernel, by decide +kernel⟩
theorem ok_Reader_init (T : Tp K mg base) : Def P w K mg base (.met "Reader" "__init__") ["self", "data", "wait"] 1 (spRdInit K) := by
  refine def_mk T.f_Reader_init sc_Reader_init (fun vs H Q E h => ?_) (fun _ _ _ _ _ _ us hl => match us, hl with | [_, _, _], _ => rfl) (fun cdv A outer s H vs Q E hr h => ?_)
  · obtain ⟨r, dx, pd, u, M, T', rfl, _⟩ := h; rfl
  · obtain ⟨r, dx, pd, u, M, T', rfl, W0, hp, k⟩ := h
    refine ⟨_, pss_cons (ps_fld (pv 0) (pv 1) rfl) (pss_cons (ps_fld (pv 0) (pv 2) rfl) (pss_cons (ps_fld (pv 0) pe_dnewK rfl)
      (pss_cons (ps_fld (pv 0) (pe_lc (own := [("_", 3)]) (g := gName 3) (tt := tYes) rfl sc_Reader_init.nd (pi_tup (pv 1)) (blkOk_by (N := ["self", "data", "wait", "_"]) (sc := defScope s_Reader_init) (by decide +kernel)) (fun _ _ _ _ _ => pg_name (i := 3) sc_Reader_init.nd rfl (.inl rfl)) (fun _ _ _ _ _ => pts_nil) (fun _ _ _ _ _ => pe_dnewK)) rfl)
      (pss_cons (ps_fld (pv 0) (pe_op op_rep (pe_lst (pa_cons pe_int pa_nil)) (pe_callB call_len_seq rfl T.b_len boot_len (pa_cons (pv 1) pa_nil))) rfl)
      (pss_cons (ps_fld (pv 0) pe_int rfl) (pss_cons (ps_fld (pv 0) (pe_un un_neg pe_int) rfl) (pss_cons (ps_fld (pv 0) pe_int rfl) (pss_cons (ps_fld (pv 0) (pe_un un_neg pe_int) rfl) (pss_cons (ps_fld (pv 0) pe_non rfl) (pss_one (ps_fld (pv 0) pe_bl rfl))))))))))), ?_⟩
    have w0 := W0.say (tupA pd [u]) hp
    refine ⟨_, rfl, ?_⟩
    refine ⟨_, rfl, r, _, _, _, rfl, w0.c r, T.o_Reader.cl, T.o_Reader.na _ (List.mem_of_getElem? (i := 0) rfl), T.o_Reader.ln, ?_⟩
    rw [fl_add T.o_Reader.nd rfl]
    have w1 := w0.n r (.ref pd)
    refine ⟨_, rfl, ?_⟩
    refine ⟨_, rfl, r, _, _, _, rfl, w1.c r, T.o_Reader.cl, T.o_Reader.na _ (List.mem_of_getElem? (i := 1) rfl), T.o_Reader.ln, ?_⟩
    rw [fl_add T.o_Reader.nd rfl]
    have w2 := w1.n r (.int 0)
    refine fun dc hdc => ?_
    have w3 := w2.new hdc (.dK [])
    refine ⟨_, rfl, r, _, _, _, rfl, w3.c r, T.o_Reader.cl, T.o_Reader.na _ (List.mem_of_getElem? (i := 2) rfl), T.o_Reader.ln, ?_⟩
    rw [fl_add T.o_Reader.nd rfl]
    have w4 := w3.n r (.ref dc)
    dsimp only
    refine ⟨_, rfl, pd, rfl, ⟨_, SqT.of (w4.f (tupA pd [u]))⟩, fun lk hlk => ?_⟩
    have w5 := w4.new hlk (.lst [])
    refine lc_tup (xs := [u]) (fun i H => (i = 0 ∧ W H ((lk, .lst []) :: (dc, .dK []) :: (r, .ins (He.ga K "Reader") dx (fl nsReader [.ref pd, .int 0, .ref dc])) :: M) (tupA pd [u] :: T')) ∨
      (i = 1 ∧ ∃ d0, W H ((d0, .dK []) :: (lk, .lst [.ref d0]) :: (dc, .dK []) :: (r, .ins (He.ga K "Reader") dx (fl nsReader [.ref pd, .int 0, .ref dc])) :: M) (tupA pd [u] :: T'))) (.inl ⟨rfl, w5⟩) (fun i H hi h => ?_) (fun i x H hx h => ?_) (fun H h => ?_)
    · rcases h with ⟨rfl, h⟩ | ⟨rfl, d0, h⟩
      · exact SqT.of (h.f (tupA pd [u]))
      · exact SqT.of (h.f (tupA pd [u]))
    · rcases h with ⟨rfl, h⟩ | ⟨rfl, d0, h⟩
      · refine ⟨rfl, fun d0 h0 => ?_⟩
        have w6 := h.new h0 (.dK [])
        exact ⟨[], w6.c lk, by decide, .inr ⟨rfl, d0, w6.p lk (.lst [.ref d0])⟩⟩
      · cases hx
    · rcases h with ⟨h0, h⟩ | ⟨h0, d0, w6⟩
      · cases h0
      · refine ⟨_, rfl, r, _, _, _, rfl, w6.c r, T.o_Reader.cl, T.o_Reader.na _ (List.mem_of_getElem? (i := 3) rfl), T.o_Reader.ln, ?_⟩
        rw [fl_add T.o_Reader.nd rfl]
        have w7 := w6.n r (.ref lk)
        dsimp only
        refine ⟨by decide, fun l1 hl1 => ?_⟩
        have w8 := w7.new hl1 (.lst [.int 0])
        refine ⟨_, rfl, pd, [u], rfl, .inr (SqT.of (w8.f (tupA pd [u]))), l1, _, _, rfl, rfl, w8.c l1, by show -(2 ^ 63) ≤ (1 : Int); decide, by show (1 : Int) < 2 ^ 63; decide, by show 1 ≤ sizeLine; decide, fun lr hlr => ?_⟩
        have w9 := w8.new hlr (.lst [.int 0])
        refine ⟨_, rfl, r, _, _, _, rfl, w9.c r, T.o_Reader.cl, T.o_Reader.na _ (List.mem_of_getElem? (i := 4) rfl), T.o_Reader.ln, ?_⟩
        rw [fl_add T.o_Reader.nd rfl]
        have w10 := w9.n r (.ref lr)
        refine ⟨_, rfl, r, _, _, _, rfl, w10.c r, T.o_Reader.cl, T.o_Reader.na _ (List.mem_of_getElem? (i := 5) rfl), T.o_Reader.ln, ?_⟩
        rw [fl_add T.o_Reader.nd rfl]
        have w11 := w10.n r (.int 0)
        refine ⟨_, rfl, ?_⟩
        refine ⟨_, rfl, r, _, _, _, rfl, w11.c r, T.o_Reader.cl, T.o_Reader.na _ (List.mem_of_getElem? (i := 6) rfl), T.o_Reader.ln, ?_⟩
        rw [fl_add T.o_Reader.nd rfl]
        have w12 := w11.n r (.int (-1))
        refine ⟨_, rfl, r, _, _, _, rfl, w12.c r, T.o_Reader.cl, T.o_Reader.na _ (List.mem_of_getElem? (i := 7) rfl), T.o_Reader.ln, ?_⟩
        rw [fl_add T.o_Reader.nd rfl]
        have w13 := w12.n r (.int 0)
        refine ⟨_, rfl, ?_⟩
        refine ⟨_, rfl, r, _, _, _, rfl, w13.c r, T.o_Reader.cl, T.o_Reader.na _ (List.mem_of_getElem? (i := 8) rfl), T.o_Reader.ln, ?_⟩
        rw [fl_add T.o_Reader.nd rfl]
        have w14 := w13.n r (.int (-1))
        refine ⟨_, rfl, r, _, _, _, rfl, w14.c r, T.o_Reader.cl, T.o_Reader.na _ (List.mem_of_getElem? (i := 9) rfl), T.o_Reader.ln, ?_⟩
        rw [fl_add T.o_Reader.nd rfl]
        have w15 := w14.n r .non
        refine ⟨_, rfl, r, _, _, _, rfl, w15.c r, T.o_Reader.cl, T.o_Reader.na _ (List.mem_of_getElem? (i := 10) rfl), T.o_Reader.ln, ?_⟩
        rw [fl_add T.o_Reader.nd rfl]
        have w16 := w15.n r (.bl false)
        exact k _ dc lk d0 lr ((w16.x l1).k [r, dc, lk, d0, lr]).e0
end
end Su


set_option Elab.async false
set_option linter.all false
set_option maxRecDepth 100000
set_option maxHeartbeats 2000000
/-! walking pairs: enumerate over a tuple, zip of a list and a tuple -/
namespace Su
open PySem PySem.Spec PyProof.Rows L2
/-- numbered items of the tuple at a -/
def ItNum (K : PySem.W.Frag) (a : Addr) : It :=
  ⟨fun i H => ∃ (xs : List V) (x : V), SqT K H a xs ∧ xs[i]? = some x,
    fun i H v H' => ∃ T x, v = .ref T ∧ H T = none ∧ H' = upd H T (.tup [.int (i : Nat), x]) ∧ ∀ ys, SqT K H a ys → ys[i]? = some x,
    fun i H => ∃ xs : List V, SqT K H a xs ∧ xs.length = i⟩
theorem tw_num {P : Program} {w : World} {K : PySem.W.Frag} {es : List Expr} {kk : Nat} {tp : Pos} (a e it : Addr) (hai : a ≠ it) (hae : a ≠ e) :
    Turn P w K (.Tuple es kk tp) (ItNum K a) [e, it] e (fun i h => (∃ old, IsEnum h e it ((i : Nat) : Int) old) ∧ h.IsTupleIter it a i ∧ e ≠ it) where
  mem := List.mem_cons_self
  obj := fun i h ⟨⟨old, z⟩, ⟨o, ho, hc, hd⟩, _⟩ b hb => by
    simp only [List.mem_cons, List.not_mem_nil, or_false] at hb
    rcases hb with rfl | rfl
    · exact ⟨_, z, fun v q => nomatch q⟩
    · exact ⟨o, ho, fun v q => by rw [hd] at q; cases q⟩
  keep := fun i h h' ⟨⟨old, z⟩, y, ne⟩ k => ⟨⟨old, k e (by simp) _ z⟩, y.at fun o q => k it (by simp) o q, ne⟩
  item := by
    rintro X rfl rfl rfl hc i pins s σ H E I hf ⟨⟨old, z⟩, y, ne⟩ ⟨xs, x, hq, hx⟩
    obtain ⟨its, rv, p, _⟩ := I.tuple hq
    obtain ⟨u, hu, ru⟩ := rv.get hx
    have hel : e < s.heap.objs.size := Heap.lt_size z
    have hil : it < s.heap.objs.size := by obtain ⟨_, q, _⟩ := y; exact Heap.lt_size q
    have hlt : i < its.toArray.size := by
      obtain ⟨q, _⟩ := List.getElem?_eq_some_iff.mp hu
      simpa using q
    refine wpAny_pyNext_enum_itemD (Draws.tuple (A := X.A.in1) (I.ok.hd hc) it a hai its.toArray) z ⟨y, p⟩ hlt ne (by simp [ne, Ne.symm hae]) fun x' h' tk hx' ho st' hT hsz hk => ?_
    obtain rfl : u = x' := by
      have q : its.toArray[i]? = some u := by simpa using hu
      exact Option.some.inj (q.symm.trans hx')
    refine ⟨_, rfl, wpAny_letOwnedTupleGo_enum (s := { s with heap := h', toks := tk + 1 }) ho fun h2 he2 sb => ?_⟩
    have hT2 : h2.get? s.heap.objs.size = some { cls := .type "tuple", data := .seq #[.int i tk, u] } := (sb.2 _ (Nat.ne_of_gt hel)).trans hT
    have J : Inv X pins σ (upd H s.heap.objs.size (.tup [.int (i : Nat), x])) { s with heap := h2, toks := tk + 1 } :=
      I.turnedNew (ch := [e, it]) (fun b ob hb q => (sb.2 b (fun z => hb (by simp [z]))).trans (hk b ob (fun z => hb (by simp [z])) (fun z => hb (by simp [z])) q)) hf (Nat.le_refl _)
        ⟨by show 2 ≤ sizeLine; decide, [.int i tk, u], .cons ⟨_, rfl⟩ (.cons ru .nil), ⟨_, hT2, rfl, _, rfl⟩⟩
    refine ⟨.ref s.heap.objs.size, _, J, rfl, ⟨_, x, rfl, I.hok.fresh (Nat.le_refl _), rfl, fun ys hy => by rw [I.tuple_inj hy hq]; exact hx⟩, ⟨⟨u, ?_⟩, st'.1.at fun o q => (sb.2 it (Ne.symm ne)).trans q, ne⟩, fun b hb => ?_⟩
    · rw [show ((i + 1 : Nat) : Int) = (i : Int) + 1 from by omega]
      exact he2
    · have hb' : b < s.heap.objs.size := by
        simp only [List.mem_cons, List.not_mem_nil, or_false] at hb
        rcases hb with rfl | rfl
        · exact hel
        · exact hil
      rw [upd_ne (Nat.ne_of_lt hb')]
      exact (hf b hb).1
  done := by
    rintro X rfl rfl rfl hc i pins s σ H E I hf ⟨⟨old, z⟩, y, ne⟩ ⟨xs, hq, hl⟩
    obtain ⟨its, rv, p, _⟩ := I.tuple hq
    have hl2 : i = its.toArray.size := by rw [List.size_toArray, ← rv.length, hl]
    exact wpAny_pyNext_enum_endD (Draws.tuple (A := X.A.in1) (I.ok.hd hc) it a hai its.toArray) z ⟨hl2 ▸ y, p⟩ fun h' hk =>
      ⟨rfl, I.turnedL (t' := s.toks) (ch := [e, it]) (fun c o hb q => hk c o (fun q' => hb (by simp [q'])) q) hf⟩
  self := fun A i s Q E ⟨⟨old, z⟩, _⟩ h => wpAny_pyIter_enum z h
/-- enumerate(v): its two new cells -/
theorem mk_num {v : Value} {o : Obj} {G : Heap → Prop} (B : Begins v o G) :
    Meets (Builtin.«enumerate.__new__» ⟨[.type "enumerate", v], []⟩) (fun _ R s => G s.heap ∧
      R (.ok (.ret (.ref (s.heap.push o).objs.size))) { s with heap := (s.heap.push o).push { cls := .type "enumerate", data := .fields #[.none, .bool false, .ref s.heap.objs.size, rawInt 0, .none, .none] } }) :=
  .of_wp fun prog w A R s h => by
    obtain ⟨hp, g, d, tk, os⟩ := s
    obtain ⟨h1, h⟩ := h
    have hsub := sub_enumerate
    have q1 : ∀ {B' : Around} {E : Value → Shared → Prop} {Q : Value → Shared → Prop}, Q (.ref hp.objs.size) ⟨hp.push o, g, d, tk, os⟩ → wpAny (model prog w) B' (pyIter v) Q E ⟨hp, g, d, tk, os⟩ :=
      fun q => B.iter prog w _ _ ⟨hp, g, d, tk, os⟩ _ h1 q
    wp_walk using q1
    refine wpAny_stack_any fun st => wpAny_pure ?_
    split
    · rename_i c _ _ _ _ _
      cases (c == Value.type "enumerate") <;> (wp_walk using q1; exact ⟨_, rfl, h⟩)
    · wp_walk using q1
      exact ⟨_, rfl, h⟩
theorem call_num {P : Program} {w : World} {A : Around} {E : Value → Shared → Prop} {s : Shared} {v : Value} {o : Obj} {G : Heap → Prop} {Q : Value → Shared → Prop} (B : Begins v o G) (h1 : G s.heap)
    (h : ∀ h', IsEnum h' (s.heap.objs.size + 1) s.heap.objs.size 0 .none → h'.get? s.heap.objs.size = some o → (∀ b o, s.heap.get? b = some o → h'.get? b = some o) → Q (.ref (s.heap.objs.size + 1)) { s with heap := h' }) :
    wpAny (model P w) A (call (.type "enumerate") [v]) Q E s := by
  refine callType_new F.called_enumerate (by decide) (F.typeCall_enumerate_1 _) (F.newCall_enumerate_1 _) (fun obj => F.args_object_init_2 obj _) F.entry_enumerate_new (mk_num B) ⟨h1, ?_⟩
  have hz : (s.heap.push o).objs.size = s.heap.objs.size + 1 := Heap.size_push ..
  show _ ∧ _
  rw [hz]
  have he := Heap.get?_push_size (s.heap.push o) (o := { cls := .type "enumerate", data := .fields #[.none, .bool false, .ref s.heap.objs.size, rawInt 0, .none, .none] }) rfl
  rw [hz] at he
  exact ⟨⟨_, he, rfl⟩, h _ he (Heap.get?_push_of_some _ (Heap.get?_push_size _ B.free)) fun b o x => Heap.get?_push_of_some _ (Heap.get?_push_of_some _ x)⟩
def iNum (K : PySem.W.Frag) (ta : TA) : TI := fun σ H R => ta σ H fun vs H1 => ∃ a xs, vs = [.ref a] ∧ SqT K H1 a xs ∧ R (ItNum K a) H1
theorem pi_num {X : Cx} {e : Expr} {ta : TA} {p pos tp : Pos} {es : List Expr} {kk : Nat} (hg : Gl X "enumerate") (hm : X.mg "enumerate" = none) (ha : PA X [e] ta) (hs : starEach [e] X.env = [(false, eval e X.env)] := by rfl) :
    PI X (.Tuple es kk tp) (.Call (.Name "enumerate" p) [e] [] pos) (iNum X.K ta) := by
  refine ⟨fun pins s σ H R I h => Call_ (ld_blt I hg hm boot_enumerate (PyProof.Rows.callWith_type1 (thn (ha.run pos pins s σ H _ I h) fun us t ⟨vs, H1, J, r1, a, xs, ex, hq, q⟩ => ?_) hs rfl))⟩
  subst ex
  obtain ⟨u, eu, ru⟩ := vals1 r1
  subst eu
  cases ru
  obtain ⟨its, rv, p', _⟩ := J.tuple hq
  refine call_num (begins_tuple a its.toArray) p' fun h' he hit hk => wpAny_pyIter_enum he ?_
  have hl : a < t.heap.objs.size := by obtain ⟨_, e, _⟩ := p'; exact Heap.lt_size e
  refine ⟨t.heap.objs.size + 1, [t.heap.objs.size + 1, t.heap.objs.size], _, _, H1, rfl, J.kept (t' := t.toks) hk, tw_num a (t.heap.objs.size + 1) t.heap.objs.size (Nat.ne_of_lt hl) (Nat.ne_of_lt (Nat.lt_succ_of_lt hl)), ⟨⟨.none, he⟩, ⟨_, hit, rfl, rfl⟩, Nat.succ_ne_self _⟩, fun b hb => ?_, q⟩
  have hle : t.heap.objs.size ≤ b := by
    simp only [List.mem_cons, List.not_mem_nil, or_false] at hb
    rcases hb with rfl | rfl
    · exact Nat.le_succ _
    · exact Nat.le_refl _
  exact J.fpOk hle (J.hok.fresh hle)
/-- a loop over one numbered item -/
theorem for_num1 {K : PySem.W.Frag} {a : Addr} {x : V} {g : TG} {tb : TS} {D : Ends} {σ : L2.St} {H : Hp} (h0 : SqT K H a [x]) (Pe : L2.St → Hp → Prop) (hp : ∀ σ H, Pe σ H → SqT K H a [x])
    (hs : ∀ T, H T = none → g (.ref T) σ (upd H T (.tup [.int 0, x])) fun σ2 H2 => tb { D with nx := Pe, ct := Pe, bk := D.nx } σ2 H2) (hd : ∀ σ H, Pe σ H → D.nx σ H) :
    ∃ W : Nat → Nat → L2.St → Hp → Prop, (∃ m, W 0 m σ H) ∧ ∀ i m σ H, W i m σ H →
      ((ItNum K a).stop i H ∧ D.nx σ H) ∨ ((ItNum K a).go i H ∧ ∃ N : L2.St → Hp → Prop, (∀ σ' H', N σ' H' → ∃ m', m' < m ∧ W (i + 1) m' σ' H') ∧ ∀ v H', (ItNum K a).yld i H v H' → g v σ H' fun σ2 H2 => tb { D with nx := N, ct := N, bk := D.nx } σ2 H2) := by
  refine ⟨fun i m σ' H' => (i = 0 ∧ m = 1 ∧ σ' = σ ∧ H' = H) ∨ (i = 1 ∧ m = 0 ∧ Pe σ' H'), ⟨1, .inl ⟨rfl, rfl, rfl, rfl⟩⟩, ?_⟩
  rintro i m σ' H' (⟨rfl, rfl, rfl, rfl⟩ | ⟨rfl, rfl, p⟩)
  · refine .inr ⟨⟨[x], x, h0, rfl⟩, Pe, fun σ2 H2 p => ⟨0, by decide, .inr ⟨rfl, rfl, p⟩⟩, fun v H2 y => ?_⟩
    obtain ⟨T, x', rfl, hT, rfl, e⟩ := y
    obtain rfl : x = x' := Option.some.inj (e [x] h0)
    exact hs T hT
  · exact .inl ⟨⟨[x], hp _ _ p, rfl⟩, hd _ _ p⟩
/-- pairs of the items of the list at a and the tuple at b -/
def ItPr (K : PySem.W.Frag) (a b : Addr) : It :=
  ⟨fun i H => ∃ (xs ys : List V) (x y : V), SqL K H a xs ∧ SqT K H b ys ∧ xs[i]? = some x ∧ ys[i]? = some y ∧ i < min xs.length ys.length,
    fun i H v H' => ∃ T x y, v = .ref T ∧ H T = none ∧ H' = upd H T (.tup [x, y]) ∧ (∀ xs, SqL K H a xs → xs[i]? = some x) ∧ ∀ ys, SqT K H b ys → ys[i]? = some y,
    fun i H => ∃ xs ys : List V, SqL K H a xs ∧ SqT K H b ys ∧ xs.length = i ∧ ys.length = i⟩
/-- its records lie apart -/
def Lie (z TI TO i1 i2 a b : Addr) : Prop := ZipSep2 z TI TO i1 i2 [i1, a] [i2, b] ∧ a ≠ i1 ∧ b ≠ i2 ∧ TI ≠ z
theorem tw_pr {P : Program} {w : World} {K : PySem.W.Frag} {es : List Expr} {kk : Nat} {tp : Pos} {z TI TO i1 i2 a b : Addr} (S : Lie z TI TO i1 i2 a b) :
    Turn P w K (.Tuple es kk tp) (ItPr K a b) [z, TI, TO, i1, i2] z (fun i h => IsZip h z TI TO .none ∧ IsTupOf2 h TI (.ref i1) (.ref i2) ∧ (∃ x y, IsTupOf2 h TO x y) ∧ h.IsListIter i1 a i ∧ h.IsTupleIter i2 b i) where
  mem := List.mem_cons_self
  obj := fun i h ⟨hz, hI, ⟨x, y, hO⟩, ⟨o1, e1, _, d1⟩, ⟨o2, e2, _, d2⟩⟩ c hc => by
    simp only [List.mem_cons, List.not_mem_nil, or_false] at hc
    rcases hc with rfl | rfl | rfl | rfl | rfl
    · exact ⟨_, hz, fun v q => nomatch q⟩
    · exact ⟨_, hI, fun v q => nomatch q⟩
    · exact ⟨_, hO, fun v q => nomatch q⟩
    · exact ⟨o1, e1, fun v q => by rw [d1] at q; cases q⟩
    · exact ⟨o2, e2, fun v q => by rw [d2] at q; cases q⟩
  keep := fun i h h' ⟨hz, hI, ⟨x, y, hO⟩, h1, h2⟩ k => ⟨k z (by simp) _ hz, k TI (by simp) _ hI, ⟨x, y, k TO (by simp) _ hO⟩, h1.at fun o q => k i1 (by simp) o q, h2.at fun o q => k i2 (by simp) o q⟩
  item := by
    rintro X rfl rfl rfl hc i pins s σ H E I hf ⟨hz, hI, ⟨x0, y0, hO⟩, h1, h2⟩ ⟨xs, ys, x, y, hqx, hqy, hx, hy, hmin⟩
    obtain ⟨its, rv, p, _⟩ := I.list hqx
    obtain ⟨its2, rv2, p2, _⟩ := I.tuple hqy
    obtain ⟨u, hu, ru⟩ := rv.get hx
    obtain ⟨u2, hu2, ru2⟩ := rv2.get hy
    have hzl : z < s.heap.objs.size := Heap.lt_size hz
    have lt1 : i < its.toArray.size := by rw [List.size_toArray, ← rv.length]; exact Nat.lt_of_lt_of_le hmin (Nat.min_le_left _ _)
    have lt2 : i < its2.toArray.size := by rw [List.size_toArray, ← rv2.length]; exact Nat.lt_of_lt_of_le hmin (Nat.min_le_right _ _)
    refine wpAny_pyNext_zipD2_item S.1 (Draws.list (A := X.A.in1) (I.ok.hd hc) i1 a S.2.1 its.toArray) (Draws.tuple (A := X.A.in1) (I.ok.hd hc) i2 b S.2.2.1 its2.toArray) hz hI hO ⟨h1, p.isList⟩ ⟨h2, p2⟩ lt1 lt2 fun v1 v2 h' tk e1 e2 z' O' s1' s2' hT hsz hk => ?_
    obtain rfl : u = v1 := Option.some.inj ((show its.toArray[i]? = some u by simpa using hu).symm.trans e1)
    obtain rfl : u2 = v2 := Option.some.inj ((show its2.toArray[i]? = some u2 by simpa using hu2).symm.trans e2)
    refine ⟨_, rfl, wpAny_letOwnedTupleGo_zip (s := { s with heap := h', toks := tk }) z' fun h'' z'' sb => ?_⟩
    have hT2 : h''.get? s.heap.objs.size = some { cls := .type "tuple", data := .seq #[u, u2] } := (sb.2 _ (Nat.ne_of_gt hzl)).trans hT
    have J : Inv X pins σ (upd H s.heap.objs.size (.tup [x, y])) { s with heap := h'', toks := tk } :=
      I.turnedNew (ch := [z, TI, TO, i1, i2]) (fun c o hb q => (sb.2 c (fun q' => hb (by simp [q']))).trans (hk c o (fun q' => hb (by simp [q'])) (fun q' => hb (by simp [q'])) (fun q' => hb (by simp [q'])) (fun q' => hb (by simp [q'])) q)) hf (Nat.le_refl _)
        ⟨by show 2 ≤ sizeLine; decide, [u, u2], .cons ru (.cons ru2 .nil), ⟨_, hT2, rfl, _, rfl⟩⟩
    refine ⟨.ref s.heap.objs.size, _, J, rfl, ⟨_, x, y, rfl, I.hok.fresh (Nat.le_refl _), rfl, fun l hl => by rw [I.list_inj hl hqx]; exact hx, fun l hl => by rw [I.tuple_inj hl hqy]; exact hy⟩, ⟨z'', ?_, ⟨u, u2, (sb.2 _ S.1.TOz).trans O'⟩, s1'.1.at fun o q => (sb.2 _ (Ne.symm S.1.zi1)).trans q, s2'.1.at fun o q => (sb.2 _ (Ne.symm S.1.zi2)).trans q⟩, fun c hcm => ?_⟩
    · exact (sb.2 _ S.1.TIz).trans (hk _ _ S.1.TIz S.1.TITO S.1.TIi1 S.1.TIi2 hI)
    · have hlt : c < s.heap.objs.size := by
        simp only [List.mem_cons, List.not_mem_nil, or_false] at hcm
        rcases hcm with rfl | rfl | rfl | rfl | rfl
        · exact hzl
        · exact Heap.lt_size hI
        · exact Heap.lt_size hO
        · obtain ⟨_, e1, _⟩ := h1; exact Heap.lt_size e1
        · obtain ⟨_, e2, _⟩ := h2; exact Heap.lt_size e2
      rw [upd_ne (Nat.ne_of_lt hlt)]
      exact (hf c hcm).1
  done := by
    rintro X rfl rfl rfl hc i pins s σ H E I hf ⟨hz, hI, ⟨x0, y0, hO⟩, h1, h2⟩ ⟨xs, ys, hqx, hqy, l1, l2⟩
    obtain ⟨its, rv, p, _⟩ := I.list hqx
    obtain ⟨its2, rv2, p2, _⟩ := I.tuple hqy
    have e1 : i = its.toArray.size := by rw [List.size_toArray, ← rv.length, l1]
    have e2 : i = its2.toArray.size := by rw [List.size_toArray, ← rv2.length, l2]
    exact wpAny_pyNext_zipD2_end S.1 (Draws.list (A := X.A.in1) (I.ok.hd hc) i1 a S.2.1 its.toArray) (Draws.tuple (A := X.A.in1) (I.ok.hd hc) i2 b S.2.2.1 its2.toArray) hz hI hO ⟨h1, p.isList⟩ ⟨h2, p2⟩ (Nat.le_of_eq e1) (Nat.le_of_eq e2) (.inl e1)
      fun h' tk hk => ⟨rfl, I.turnedL (t' := tk) (ch := [z, TI, TO, i1, i2]) (fun c o hb q => hk c o (fun q' => hb (by simp [q'])) (fun q' => hb (by simp [q'])) (fun q' => hb (by simp [q'])) (fun q' => hb (by simp [q'])) q) hf⟩
  self := fun A i s Q E st h => wpAny_pyIter_zip st.1 h
theorem lie_new {n a b : Addr} (ha : a < n) (hb : b < n) : Lie (n + 4) (n + 2) (n + 3) n (n + 1) a b := by
  have h1 : ∀ j : Nat, n + j ≠ a := fun j => Nat.ne_of_gt (Nat.lt_of_lt_of_le ha (Nat.le_add_right _ _))
  have h2 : ∀ j : Nat, n + j ≠ b := fun j => Nat.ne_of_gt (Nat.lt_of_lt_of_le hb (Nat.le_add_right _ _))
  have h3 : n ≠ a := h1 0
  have h4 : n ≠ b := h2 0
  have ne : ∀ i j : Nat, i ≠ j → n + i ≠ n + j := fun i j e z => e (Nat.add_left_cancel z)
  have n0 : ∀ j : Nat, 0 < j → n + j ≠ n := fun j e z => absurd z (Nat.ne_of_gt (Nat.lt_add_of_pos_right e))
  refine ⟨⟨ne 2 4 (by decide), ne 3 4 (by decide), ne 2 3 (by decide), n0 2 (by decide), by simp, ?_, ?_, ne 2 1 (by decide), by simp, ?_, ?_, ?_, ?_⟩, Ne.symm h3, Ne.symm (h2 1), ne 2 4 (by decide)⟩
  · simp only [List.mem_cons, List.not_mem_nil, or_false]; exact fun q => q.elim (fun z => n0 4 (by decide) z) (fun z => h1 4 z)
  · simp only [List.mem_cons, List.not_mem_nil, or_false]; exact fun q => q.elim (fun z => n0 3 (by decide) z) (fun z => h1 3 z)
  · simp only [List.mem_cons, List.not_mem_nil, or_false]; exact fun q => q.elim (fun z => ne 4 1 (by decide) z) (fun z => h2 4 z)
  · simp only [List.mem_cons, List.not_mem_nil, or_false]; exact fun q => q.elim (fun z => ne 3 1 (by decide) z) (fun z => h2 3 z)
  · simp only [List.mem_cons, List.not_mem_nil, or_false]; exact fun q => q.elim (fun z => n0 1 (by decide) z.symm) (fun z => h4 z)
  · simp only [List.mem_cons, List.not_mem_nil, or_false]; exact fun q => q.elim (fun z => n0 1 (by decide) z) (fun z => h1 1 z)
def iPr (K : PySem.W.Frag) (ta : TA) : TI := fun σ H R => ta σ H fun vs H1 => ∃ a b xs ys, vs = [.ref a, .ref b] ∧ SqL K H1 a xs ∧ SqT K H1 b ys ∧ R (ItPr K a b) H1
theorem pi_pr {X : Cx} {e e2 : Expr} {ta : TA} {p pos tp : Pos} {es : List Expr} {kk : Nat} (hg : Gl X "zip") (hm : X.mg "zip" = none) (ha : PA X [e, e2] ta)
    (hs : starEach [e, e2] X.env = (false, eval e X.env) :: starEach [e2] X.env := by rfl) (hpl : (backTo pos (starEach [e2] X.env)).any (·.1) = false := by rfl) :
    PI X (.Tuple es kk tp) (.Call (.Name "zip" p) [e, e2] [] pos) (iPr X.K ta) := by
  refine ⟨fun pins s σ H R I h => Call_ (ld_blt I hg hm PyProof.Rows.boot_zip (PyProof.Rows.callWith_type1 (thn (ha.run pos pins s σ H _ I h) fun us t ⟨vs, H1, J, r1, a, b, xs, ys, ex, hqx, hqy, q⟩ => ?_) hs hpl))⟩
  subst ex
  obtain ⟨u1, u2, eu, ra, rb⟩ := vals2 r1
  subst eu
  cases ra
  cases rb
  obtain ⟨its, rv, p1, _⟩ := J.list hqx
  obtain ⟨its2, rv2, p2, _⟩ := J.tuple hqy
  have hl : a < t.heap.objs.size := p1.lt
  have hl2 : b < t.heap.objs.size := by obtain ⟨_, e, _⟩ := p2; exact Heap.lt_size e
  refine zip_begins2 (begins_list a its.toArray) (begins_tuple b its2.toArray) p1.isList p2 fun h' hz hI hO g1 g2 hsz hk => wpAny_pyIter_zip hz ?_
  refine ⟨t.heap.objs.size + 4, [t.heap.objs.size + 4, t.heap.objs.size + 2, t.heap.objs.size + 3, t.heap.objs.size, t.heap.objs.size + 1], _, _, H1, rfl, J.kept (t' := t.toks) hk, tw_pr (lie_new hl hl2), ⟨hz, hI, ⟨_, _, hO⟩, ⟨_, g1, rfl, rfl⟩, ⟨_, g2, rfl, rfl⟩⟩, fun c hc => ?_, q⟩
  have hle : t.heap.objs.size ≤ c := by
    simp only [List.mem_cons, List.not_mem_nil, or_false] at hc
    rcases hc with rfl | rfl | rfl | rfl | rfl <;> first | exact Nat.le_refl _ | exact Nat.le_add_right _ _
  exact J.fpOk hle (J.hok.fresh hle)
/-- a list comprehension over one pair -/
theorem lc_pr1 {K : PySem.W.Frag} {a b : Addr} {x y : V} {g : TG} {te : TE} {vs : List Nat} {σ : L2.St} {H1 : Hp} {D : Addr} {Qd : Hp → Prop} (Pe : Hp → Prop) (h0 : SqL K (upd H1 D (.lst [])) a [x]) (h1 : SqT K (upd H1 D (.lst [])) b [y]) (hp : ∀ H, Pe H → SqL K H a [x] ∧ SqT K H b [y])
    (hs : ∀ T, upd H1 D (.lst []) T = none → g (.ref T) (wipe σ vs) (upd (upd H1 D (.lst [])) T (.tup [x, y])) fun σ2 H2 => wipe σ2 vs = wipe σ vs ∧ tYes σ2 H2 fun b H3 =>
      if b = true then te σ2 H3 fun z H4 => ∃ zs, H4 D = some (.lst zs) ∧ zs.length < sizeLine ∧ Pe (upd H4 D (.lst (zs ++ [z]))) else Pe H3) (hd : ∀ H, Pe H → Qd H) :
    ∃ W : Nat → Nat → Hp → Prop, (∃ m, W 0 m (upd H1 D (.lst []))) ∧ ∀ i m H, W i m H →
      ((ItPr K a b).stop i H ∧ Qd H) ∨ ((ItPr K a b).go i H ∧ ∃ Nx : Hp → Prop, (∀ H', Nx H' → ∃ m', m' < m ∧ W (i + 1) m' H') ∧ ∀ x H', (ItPr K a b).yld i H x H' → g x (wipe σ vs) H' fun σ2 H2 => wipe σ2 vs = wipe σ vs ∧ tYes σ2 H2 fun b H3 =>
        if b = true then te σ2 H3 fun z H4 => ∃ zs, H4 D = some (.lst zs) ∧ zs.length < sizeLine ∧ Nx (upd H4 D (.lst (zs ++ [z]))) else Nx H3) := by
  refine ⟨fun i m H' => (i = 0 ∧ m = 1 ∧ H' = upd H1 D (.lst [])) ∨ (i = 1 ∧ m = 0 ∧ Pe H'), ⟨1, .inl ⟨rfl, rfl, rfl⟩⟩, ?_⟩
  rintro i m H' (⟨rfl, rfl, rfl⟩ | ⟨rfl, rfl, p⟩)
  · refine .inr ⟨⟨[x], [y], x, y, h0, h1, rfl, rfl, by show 0 < 1; decide⟩, Pe, fun H2 p => ⟨0, by decide, .inr ⟨rfl, rfl, p⟩⟩, fun v H2 yl => ?_⟩
    obtain ⟨T, x', y', rfl, hT, rfl, e1, e2⟩ := yl
    obtain rfl : x = x' := Option.some.inj (e1 [x] h0)
    obtain rfl : y = y' := Option.some.inj (e2 [y] h1)
    exact hs T hT
  · exact .inl ⟨⟨[x], [y], (hp _ p).1, (hp _ p).2, rfl, rfl⟩, hd _ p⟩
end Su

set_option Elab.async false
set_option linter.all false
set_option maxRecDepth 100000
set_option maxHeartbeats 2000000
/-! generator expressions over a tuple, over a zip: elements that only read -/
namespace Su
open PySem PySem.Spec PyProof.Rows L2
/-- e is x, whatever the tokens; nothing is changed -/
def QE (P : Program) (w : World) (env : Env) (t : Shared) (e : Expr) (x : V) : Prop :=
  ∀ (A : Around) (E : Value → Shared → Prop) (k : Nat) (Q : Value → Shared → Prop), (∀ v k', RelV x v → Q v { t with toks := k' }) → wpAny (model P w) A (eval e env) Q E { t with toks := k }
/-- an element's frame cenv at t: X's def at σ, H stands around it -/
structure GX (X : Cx) (σ : L2.St) (H : Hp) (scope : Scope) (cenv : Env) (t : Shared) : Prop where
  inv : ∃ pins s', Inv X pins σ H s' ∧ s'.heap = t.heap
  sc : cenv.scope = scope
  kind : scope.kind = .function
  cap : ∀ y c, (y, NameKind.free) ∈ scope.names → X.env.cells.lookup y = some c → cenv.cells.lookup y = some c
section
variable {X : Cx} {σ : L2.St} {H : Hp} {scope : Scope} {cenv : Env} {t : Shared} {y f : Str} {p p2 p3 : Pos} {m : Str → Option Value} {u : Value} {v : V} {e o i : Expr} {a C dx : Addr} {fs : List (Str × V)} {n j l : Int}
theorem q_loc (G : GX X σ H scope cenv t) (hl : scope.names.lookup y = some .local) (hn : t.heap.Ns cenv.locals m) (hm : m y = some u) (r : RelV v u) (hd : (y == ("__debug__" : Str)) = false := by decide) : QE X.prog X.w cenv t (.Name y p) v := by
  intro A E k Q h
  refine wpAny_Name (wpAny_loadName_local (by rw [G.sc]; exact G.kind) (show cenv.scope.names.lookup y = some .local by rw [G.sc]; exact hl) hn hm (h u k r)) hd
theorem q_cap (G : GX X σ H scope cenv t) {i : Nat} (hl : scope.names.lookup y = some .free) (hN : X.N[i]? = some y) (hs : σ[i]? = some (some v)) (hv : X.env.scope.names.lookup y = some .cell) (hd : (y == ("__debug__" : Str)) = false := by decide) (hcd : (y == ("__classdict__" : Str)) = false := by decide) : QE X.prog X.w cenv t (.Name y p) v := by
  intro A E k Q h
  obtain ⟨pins, s', I, hh⟩ := G.inv
  obtain ⟨m, _, hm⟩ := I.loc
  obtain ⟨u, r, lk⟩ := hm i y v hN hs (.inr (.inl hv))
  rcases lk with ⟨q, _⟩ | ⟨_, c, hc, ic⟩
  · have q' : X.env.scope.names.lookup y = some .local := q
    rw [hv] at q'; cases q'
  · rw [hh] at ic
    have hc2 := G.cap y c (PySem.mem_of_lookup hl) hc
    exact wpAny_Name (wpAny_loadName_free (by rw [G.sc]; exact G.kind) (show cenv.scope.names.lookup y = some .free by rw [G.sc]; exact hl) hc2 ic (h u k r) hcd) hd
theorem q_fld (G : GX X σ H scope cenv t) (he : QE X.prog X.w cenv t e (.ref a)) (ea : H a = some (.ins C dx fs)) (c : Cls X.K C) (na : NoAttr X.K C f) (l : fs.lookup f = some v) (hb : attributeBase e f cenv (eval e cenv) = eval e cenv := by rfl) : QE X.prog X.w cenv t (.Attribute e f p) v := by
  intro A E k Q h
  obtain ⟨pins, s', I, hh⟩ := G.inv
  refine attr_of hb (he A E k _ fun v0 k' r => ?_)
  cases r
  obtain ⟨mA, O, r, _, _, _⟩ := ins_get I.hok ea
  obtain ⟨u, hu, ru⟩ := RelO.some_of (v := v) (o := mA f) (by rw [← l]; exact r f)
  rw [hh] at O
  have kin : X.K.In t.heap := by rw [← hh]; exact I.kIn
  exact get_map (s := { t with toks := k' }) kin O (c.get f) c.hd na hu (handed_of ru) (h u _ ru)
theorem q_int {j : Nat} : QE X.prog X.w cenv t (.Constant (.int n) j p) (.int n) := fun A E k Q h => wpAny_Constant_int (s := { t with toks := k }) (h _ _ ⟨_, rfl⟩)
theorem q_in {d : Addr} {kvs : List (Key × V)} (G : GX X σ H scope cenv t) (hi : QE X.prog X.w cenv t i (.int n)) (ho : QE X.prog X.w cenv t o (.ref d)) (ed : H d = some (.dK kvs)) (hm : behindInMarks .In o = false := by rfl) :
    QE X.prog X.w cenv t (.Compare i [.In] [o] p) (.bl (valV kvs (Sum.inl n : Key)).isSome) := by
  intro A E k Q h
  obtain ⟨pins, s', I, hh⟩ := G.inv
  refine wpAny_Compare1 (hi A E k _ fun v1 k1 r1 => ho A E k1 _ fun v2 k2 r2 => ?_) hm
  cases r2
  obtain ⟨z, hd, vs, rel, dd⟩ := dk_of I.hok ed
  rw [hh] at dd
  refine wpAny_in_of (s := { t with toks := k2 }) (knd := mixKind X.prog X.w) (k := (Sum.inl n : Key)) (kV_is (k := Sum.inl n) r1) hd dd.mapOf ?_
  rw [← (rel.val (Sum.inl n)).isSome_eq]
  exact h _ _ rfl
theorem q_get {d : Addr} {kvs : List (Key × V)} (G : GX X σ H scope cenv t) (ho : QE X.prog X.w cenv t o (.ref d)) (hi : QE X.prog X.w cenv t i (.int n)) (ed : H d = some (.dK kvs)) (hv : valV kvs (Sum.inl n : Key) = some v) (hs : NoSl i := by exact fun _ _ => rfl) :
    QE X.prog X.w cenv t (.Subscript o i p) v := by
  intro A E k Q h
  obtain ⟨pins, s', I, hh⟩ := G.inv
  refine subD_of PySem.F.slot_dict_getitem.lookup hs (ho A E k _ fun v2 k2 r2 => hi A E k2 _ fun v1 k1 r1 => ?_)
  cases r2
  obtain ⟨z, hd, vs, rel, dd⟩ := dk_of I.hok ed
  rw [hh] at dd
  obtain ⟨w', hw, rw'⟩ := RelO.some_of (v := v) (o := valueAt vs (Sum.inl n)) (by rw [← hv]; exact rel.val (Sum.inl n))
  exact ⟨dd.typeIs, wpAny_getItem_of (s := { t with toks := k1 }) (knd := mixKind X.prog X.w) (k := (Sum.inl n : Key)) (kV_is (k := Sum.inl n) r1) dd.mapOf hw (h w' _ rw')⟩
theorem q_tup {xs : List V} (G : GX X σ H scope cenv t) (ho : QE X.prog X.w cenv t o (.ref a)) (hi : QE X.prog X.w cenv t i (.int n)) (ea : H a = some (.tup xs)) (hv : atI xs n = some v) (hs : PlainIx i := by exact fun _ _ => rfl) :
    QE X.prog X.w cenv t (.Subscript o i p) v := by
  intro A E k Q h
  obtain ⟨pins, s', I, hh⟩ := G.inv
  refine Subscript_ (ho A E k _ fun v2 k2 r2 => hi A E k2 _ fun v1 k1 r1 => ?_)
  cases r2
  obtain ⟨tk, rfl⟩ := r1
  obtain ⟨its, r, pl, hz⟩ := I.tuple (.inl (.inl ea))
  rw [hh] at pl
  obtain ⟨j, h1, h2, h3, h4, h5⟩ := atI_get hv
  obtain ⟨w, ew, rw'⟩ := r.get h2
  have hl := r.length
  have hn := line63
  have pl' : ({ t with toks := k1 } : Shared).heap.IsTuple a its.toArray := pl
  exact subscriptTail_builtinR (x := w) (s := { t with toks := k1 }) pl'.typeIs slot_tuple_getitem.lookup
    (getItem_tuple (j := j) (Q := fun r s' => r = w ∧ Q r s') pl' (by omega) (by omega) (by rw [List.size_toArray, ← hl]; exact h1) (by simpa using ew) ⟨rfl, h w k1 rw'⟩) (hs _ _)
theorem q_sub (h1 : QE X.prog X.w cenv t e (.int n)) (h2 : QE X.prog X.w cenv t o (.int j)) : QE X.prog X.w cenv t (.BinOp e .Sub o p) (.int (n - j)) := by
  intro A E k Q h
  refine wpAny_BinOp (h1 A E k _ fun v1 k1 r1 => h2 A E k1 _ fun v2 k2 r2 => ?_)
  obtain ⟨t1, rfl⟩ := r1
  obtain ⟨t2, rfl⟩ := r2
  exact sub_int (s := { t with toks := k2 }) (h _ _ ⟨_, rfl⟩)
theorem q_add (h1 : QE X.prog X.w cenv t e (.int n)) (h2 : QE X.prog X.w cenv t o (.int j)) : QE X.prog X.w cenv t (.BinOp e .Add o p) (.int (n + j)) := by
  intro A E k Q h
  refine wpAny_BinOp (h1 A E k _ fun v1 k1 r1 => h2 A E k1 _ fun v2 k2 r2 => ?_)
  obtain ⟨t1, rfl⟩ := r1
  obtain ⟨t2, rfl⟩ := r2
  exact add_int (s := { t with toks := k2 }) (h _ _ ⟨_, rfl⟩)
/-- a ≤ b ≤ c -/
theorem q_le2 (h1 : QE X.prog X.w cenv t e (.int n)) (h2 : QE X.prog X.w cenv t o (.int j)) (h3 : QE X.prog X.w cenv t i (.int l)) (hm : lastMarks [.LtE, .LtE] [o, i] = false := by with_unfolding_all rfl) :
    QE X.prog X.w cenv t (.Compare e [.LtE, .LtE] [o, i] p) (.bl (decide (n ≤ j) && decide (j ≤ l))) := by
  intro A E k Q h
  refine Compare_chain (h1 A E k _ fun v1 k1 r1 => chain_link (h2 A E k1 _ fun v2 k2 r2 => ?_)) hm
  obtain ⟨t1, rfl⟩ := r1
  obtain ⟨t2, rfl⟩ := r2
  refine le_int (s := { t with toks := k2 }) (wpAny_truthy_bool ?_)
  cases e1 : decide (n ≤ j) with
  | false => rw [e1] at h; exact ite_ff (h _ _ rfl)
  | true =>
    refine ite_tt (chain_last (h3 A E k2 _ fun v3 k3 r3 => ?_))
    obtain ⟨t3, rfl⟩ := r3
    rw [e1] at h
    exact le_int (s := { t with toks := k3 }) (h _ _ rfl)
theorem q_and {b : Bool} (h1 : QE X.prog X.w cenv t e (.bl true)) (h2 : QE X.prog X.w cenv t o (.bl b)) : QE X.prog X.w cenv t (.BoolOp .And [e, o] p) (.bl b) := by
  intro A E k Q h
  refine BoolOp_and (h1 A E k _ fun v1 k1 r1 => ?_)
  cases r1
  refine wpAny_truthy_bool (ite_tt ?_)
  exact BoolOp_one (h2 A E k1 _ h)
end
/-! ### the generator itself -/
section
variable {X : Cx} {pins : List (Addr × Obj)} {σ : L2.St} {H : Hp} {s : Shared}
theorem ws_mono {M : Program} {w : World} {A : Around} {g : Addr} {fp wr : List Addr} {G : Array GenState → Array GenState → Prop} {n : Nat} {P P' : Nat → Value → Prop} {St : Nat → Shared → Prop} (W : WalksS M w A g fp wr G n P St) (h : ∀ i v, P i v → P' i v) : WalksS M w A g fp wr G n P' St :=
  ⟨W.sub, W.grefl, W.gtrans, W.frame, fun i s Q E hi st hQ => W.item i s Q E hi st fun v s' hv a b => hQ v s' (h i v hv) a b, W.done, W.self⟩
/-- in the element's frame -/
theorem gx_of {P : Addr} {H1 : Hp} {s1 : Shared} {ps ps' : Array Value} {scope : Scope} {C : Addr} {code : Value} {bi : Addr} {t : Shared} (I : Inv X pins σ H1 s1) (hP : H1 P = some (.tbl ps)) (hk : scope.kind = .function)
    (free : ∀ y ∈ scope.names, y.2 = .free → ∃ c, X.env.cells.lookup y.1 = some c)
    (hm : ∃ more, ps' = ps ++ more) (ht : GxR.TabG (L2.upd H1 P (.tbl ps')) P) (k : ∀ b o, b ≠ P → s1.heap.get? b = some o → t.heap.get? b = some o) (kP : t.heap.get? P = some { cls := .none, data := .fields ps' }) :
    ∃ H2, GxR.Tabbed P H1 H2 ∧ GX X σ H2 scope (genEnv scope (cloFrom X.env.cells scope.names []) C code bi X.env) t := by
  obtain ⟨more, rfl⟩ := hm
  refine ⟨L2.upd H1 P (.tbl (ps ++ more)), ⟨ht, fun b hb => upd_ne hb⟩, ⟨pins, { s1 with heap := t.heap }, ?_, rfl⟩, rfl, hk, fun y c hy hc => NdefX.clo_has free hy hc⟩
  have J := GxR.inv_tab (h' := t.heap) (g' := s1.gens) (d' := s1.drawn) (t' := s1.toks) I hP k kP I.bare
  exact J
/-- a generator at g is ready: n items, each y with F -/
def GenUp (X : Cx) (pins : List (Addr × Obj)) (σ : L2.St) (H1 : Hp) (P : Addr) (n : Nat) (F : Nat → Value → Prop) (g : Addr) (s5 : Shared) : Prop :=
  ∃ (fp wr : List Addr) (m : Nat) (St : Nat → Shared → Prop), WalksS X.prog X.w X.A.in4 g fp wr (GenOnlyQ m) n F St ∧ St 0 s5 ∧ (∀ i s, St i s → s.TypeIs (.ref g) "generator") ∧ (∀ b ∈ fp, b < s5.heap.objs.size) ∧ g ∈ fp ∧
    ∀ s', Moved wr (GenOnlyQ m) s5 s' → ∃ H2, GxR.Tabbed P H1 H2 ∧ Inv X pins σ H2 s'
/-- the generator expression's own scope: its names, captured ones are cells of the def -/
structure GenN (env : Env) (scope : Scope) (x : Str) : Prop where
  kind : scope.kind = .function
  co : scope.isCoroutine = false
  cell : ∀ y ∈ scope.names, y.2 ≠ .cell
  dot : scope.names.lookup (".0" : Str) = some NameKind.local
  loc : scope.names.lookup x = some .local
  cap : ∀ y ∈ scope.names, y.2 = .free → env.kindOf y.1 = some .cell
theorem GenN.up {scope : Scope} {x : Str} (S : GenN X.env scope x) (I : Inv X pins σ H s) : GxR.GenS X.env scope x := ⟨S.kind, S.co, S.cell, S.dot, S.loc, fun y hy e => I.ok.has _ (.inl (S.cap y hy e))⟩
theorem gen_one {c P : Addr} {elt iter : Expr} {x : Str} {px gpos : Pos} {scope : Scope} {te : TE} {k : Nat} {Q' : Value → Shared → Prop} {R : V → Hp → Prop}
    (hr : Room k X.A) (TB : GxR.TabB X.base X.mg c P) (hcode : X.env.code = .ref c) (S0 : GenN X.env scope x) (hi : PE X iter te)
    (hs : ∀ v, genFold iter X.env v = pure v) (I : Inv X pins σ H s)
    (h : te σ H R) (hR : ∀ v H1, R v H1 → ∃ (a : Addr) (xs : List V) (f : Nat → V), v = .ref a ∧ SqT X.K H1 a xs ∧ GxR.TabG H1 P ∧ (∀ H2 cenv t m u w (i : Nat), GxR.Tabbed P H1 H2 → GX X σ H2 scope cenv t → t.heap.Ns cenv.locals m → m x = some u → xs[i]? = some w → RelV w u → QE X.prog X.w cenv t elt (f i)) ∧
      ∀ g s5, GenUp X pins σ H1 P xs.length (fun i y => RelV (f i) y) g s5 → Q' (.ref g) s5) :
    wpAny (model X.prog X.w) X.A (eval (.GeneratorExp elt [⟨.Name x px, iter, [], 0⟩] scope gpos) X.env) Q' X.xe s := by
  have S := S0.up I
  refine wpAny_GeneratorExp_walksQ hr.hd S.co (closure_ok S.free) S.cell S.dot S.loc S.kind (by have := hr.dp; omega) ?_ hs
  refine thn (hi.run pins s σ H _ I h) fun xv s1 ⟨v, H1, I1, r1, q1⟩ => ?_
  obtain ⟨a, xs, f, rfl, hq, ⟨ps, hP, ht⟩, hel, hQ⟩ := hR _ _ q1
  cases r1
  obtain ⟨its, rv, pt, _⟩ := I1.tuple hq
  have pt' : s1.heap.IsTuple a its.toArray := pt
  have hal : a < s1.heap.objs.size := by obtain ⟨_, e, _⟩ := pt'; exact Heap.lt_size e
  refine wpAny_pyIter_tuple pt' ?_
  generalize ho : ({ cls := .type "tuple_iterator", data := .fields #[.ref a, .int 0 0] } : Obj) = o
  have hPs : s1.heap.get? P = some { cls := .none, data := .fields ps } := I1.hok P _ hP
  have hPlt : P < s1.heap.objs.size := Heap.lt_size hPs
  have hP2 : (s1.heap.push o).get? P = some { cls := .none, data := .fields ps } := Heap.get?_push_of_some _ hPs
  have cd : PySem.W.CodeHd (s1.heap.push o) c P := TB.code.keeps fun b u e => Heap.get?_push_of_some _ (I1.bk b u e)
  have lim2 : (s1.heap.push o).NoLimit := I1.nolimit.push o
  have sz2 : (s1.heap.push o).objs.size = s1.heap.objs.size + 1 := Heap.size_push ..
  have cont : ∀ (code : Value) (h3 : Heap) (tk : Nat) (ps' : Array Value), Heap.ExtBut P (s1.heap.push o) h3 → (s1.heap.push o).objs.size ≤ h3.objs.size → h3.get? P = some { cls := .none, data := .fields ps' } → (∃ more, ps' = ps ++ more) → TriplesOk ps'.toList →
      wpAny (model X.prog X.w) X.A (builtinsFor X.env.globals X.env.builtins) (fun bi s₄ =>
        ∃ Ia fp wr n₀ Pf St₀ pz F, Value.ref s1.heap.objs.size = .ref Ia ∧ (∀ A' : Around, A'.handled = none → Walks X.prog X.w A' Ia fp wr n₀ Pf St₀) ∧ St₀ 0 s₄.heap ∧ (∀ b ∈ fp, b < s₄.heap.objs.size) ∧ s₄.heap.NoLimit ∧ cStatics ∉ wr ∧
          (∀ href : Heap, (∀ b o, s₄.heap.get? b = some o → href.get? b = some o) →
            QuietGen X.prog X.w (genEnv scope (cloFrom X.env.cells scope.names []) s₄.heap.objs.size code bi X.env) x [] elt (List.range s₄.heap.objs.size) wr Pf pz F href) ∧
          (∀ a h₅ tk gs, gs.bare = true → s₄.heap.objs.size < a → h₅.objs.size = a + 1 → (∀ b o, s₄.heap.get? b = some o → h₅.get? b = some o) →
            WalksS X.prog X.w X.A.in4 a (a :: s₄.heap.objs.size :: List.range s₄.heap.objs.size) (s₄.heap.objs.size :: wr) (GenOnlyQ s₄.gens.size) (passing pz n₀ 0).length
              (fun j y => ∃ i, (passing pz n₀ 0)[j]? = some i ∧ F i y) (GenAt X.prog X.w X.A.in4 a s₄.gens.size s₄.heap.objs.size (List.range s₄.heap.objs.size) wr pz n₀ F) →
            GenAt X.prog X.w X.A.in4 a s₄.gens.size s₄.heap.objs.size (List.range s₄.heap.objs.size) wr pz n₀ F 0 { s₄ with gens := s₄.gens.push gs, toks := tk, heap := h₅ } →
            Q' (.ref a) { s₄ with gens := s₄.gens.push gs, toks := tk, heap := h₅ })) X.xe { s1 with heap := h3, toks := tk } := by
    intro code h3 tk ps' hx hsz hP3 hmore ht3
    obtain ⟨bm, ob, e1, e2, e3, e4, e5, e6, e7, e8⟩ := TB.bm
    have hcP : cStatics ≠ P := fun e => by
      obtain ⟨_, hns, _⟩ := I1.nolimit
      obtain ⟨o', es, ep, ho', hd, _⟩ := hns
      rw [e, hPs] at ho'
      cases ho'
      cases hd
    have hcl : cStatics < s1.heap.objs.size := let ⟨_, hns, _⟩ := I1.nolimit; hns.lt
    have keep3 : ∀ b u, b ≠ P → s1.heap.get? b = some u → h3.get? b = some u := fun b u hb e => hx b u hb (Heap.get?_push_of_some _ e)
    have it3 : h3.IsTupleIter s1.heap.objs.size a 0 := ⟨o, hx _ _ (Nat.ne_of_gt hPlt) (Heap.get?_push_size _ (by rw [← ho]; rfl)), by rw [← ho], by rw [← ho]; rfl⟩
    have tp3 : h3.IsTuple a its.toArray := pt'.at fun ob e => keep3 a ob (fun z => by
      obtain ⟨oa, ea, _, _, da⟩ := pt'
      rw [z, hPs] at ea
      cases ea
      cases da) e
    refine wpAny_builtinsFor (m := X.mg) (by rw [I1.ok.glob]; exact ((I1.mod.glob.keeps I1.bk).push o).extBut hx TB.gP) e1 e2 (keep3 _ _ e4 (I1.bk _ _ e5)) e6 e7 e8 ?_
    refine ⟨s1.heap.objs.size, [s1.heap.objs.size, a], [s1.heap.objs.size], its.toArray.size, (fun i v => its.toArray[i]? = some v), _, (fun _ => true), (fun i y => RelV (f i) y), rfl, fun A' hA => Walks.tuple hA s1.heap.objs.size a (Nat.ne_of_lt hal) its.toArray, ⟨it3, tp3⟩, ?_, lim2.extBut hx hcP, ?_, ?_, ?_⟩
    · intro b hb
      simp only [List.mem_cons, List.not_mem_nil, or_false] at hb
      rcases hb with rfl | rfl
      · show s1.heap.objs.size < h3.objs.size; omega
      · exact Nat.lt_of_lt_of_le hal (by show s1.heap.objs.size ≤ h3.objs.size; omega)
    · intro z
      rcases List.mem_cons.mp z with z | z
      · exact Nat.ne_of_lt hcl z
      · cases z
    · intro href hhref
      refine ⟨fun A' E' i v s₂ m₂ hA hPv hn hm hk => ?_, fun A' E' i v s₂ m₂ hA hPv hp hn hm hk => ?_⟩
      · simp only [List.forIn_nil]
        exact wpAny_pure ⟨rfl, GxR.keeps_refl _⟩
      · have hv : its[i]? = some v := by simpa using hPv
        have hi2 : i < xs.length := by
          rw [rv.length]
          exact (List.getElem?_eq_some_iff.mp hv).1
        obtain ⟨u2, hu2, ru⟩ := rv.get (List.getElem?_eq_getElem hi2)
        rw [hv] at hu2
        cases hu2
        have up : ∀ b ob, b ≠ s1.heap.objs.size → h3.get? b = some ob → s₂.heap.get? b = some ob := fun b ob hb e => hk b (List.mem_range.mpr (Heap.lt_size e)) (by simp [hb]) ob (hhref b ob e)
        obtain ⟨H2, tb, G⟩ := gx_of (C := h3.objs.size) (code := code) (bi := builtinsNs) (t := s₂) I1 hP S.kind S.free hmore ⟨ps', upd_same, ht3⟩ (fun b ob hb e => up b ob (Nat.ne_of_lt (Heap.lt_size e)) (keep3 b ob hb e)) (up P _ (Nat.ne_of_lt hPlt) hP3)
        have q := hel H2 _ s₂ m₂ v _ i tb G hn hm (List.getElem?_eq_getElem hi2) ru A' E' s₂.toks (fun y s₃ => RelV (f i) y ∧ Keeps s₂ s₃) (fun y k' r => ⟨r, GxR.keeps_tok _ _⟩)
        exact q
    · intro g h5 tk5 gs hgb hag hsz5 hk5 W5 hat
      have e5 : (passing (fun _ => true) its.toArray.size 0).length = xs.length := by rw [GxR.passing_true, List.length_range, List.size_toArray, ← rv.length]
      rw [e5] at W5
      have W6 := ws_mono (P' := fun i y => RelV (f i) y) W5 fun j y ⟨i, hij, r⟩ => by
        rw [GxR.passing_true] at hij
        obtain ⟨hj, ej⟩ := List.getElem?_eq_some_iff.mp hij
        rw [List.getElem_range] at ej
        subst ej
        exact r
      refine hQ g _ ⟨_, _, _, _, W6, hat, fun i s' z => z.1.typeIs, fun b hb => ?_, List.mem_cons_self, fun s' hm => ?_⟩
      · rcases List.mem_cons.mp hb with z | z
        · rw [z]; show g < h5.objs.size; omega
        · rcases List.mem_cons.mp z with z | z
          · rw [z]; show h3.objs.size < h5.objs.size; exact Nat.lt_of_lt_of_le hag (by omega)
          · have hz := List.mem_range.mp z
            exact Nat.lt_trans hz (Nat.lt_of_lt_of_le hag (by show g ≤ h5.objs.size; omega))
      · obtain ⟨more, em⟩ := hmore
        have nwr : ∀ b u, s1.heap.get? b = some u → b ∉ h3.objs.size :: [s1.heap.objs.size] := fun b u e hb => by
          have hl := Heap.lt_size e
          rcases List.mem_cons.mp hb with z | z
          · rw [z] at hl
            have h9 : (h3.objs.size : Nat) < s1.heap.objs.size := hl
            omega
          · rcases List.mem_cons.mp z with z | z
            · rw [z] at hl
              exact Nat.lt_irrefl _ hl
            · cases z
        have J := GxR.inv_tab (more := more) (h' := s'.heap) (g' := s'.gens) (d' := s'.drawn) (t' := s'.toks) I1 hP (fun b u hb e => hm.heap b u (nwr b u e) (hk5 b u (keep3 b u hb e)))
          (by rw [← em]; exact hm.heap P _ (nwr P _ hPs) (hk5 P _ hP3)) (AllBare.movedS (I1.bare.push hgb) hm)
        rw [GxR.sh_eta s1 s' hm.os] at J
        exact ⟨L2.upd H1 P (.tbl (ps ++ more)), ⟨⟨ps ++ more, upd_same, by rw [← em]; exact ht3⟩, fun b hb => upd_ne hb⟩, J⟩
  refine ⟨lim2, ?_⟩
  cases hf : codeAmong gpos ps.toList with
  | none =>
    refine wpAny_genexprCodeX hcode (cd.code hP2 ht) (cd.tab hP2) hf fun c' h' tk hx hge hlt hco' _ htab' _ => ?_
    obtain ⟨o1, vs, f1, tf, fl, tg, inF, tx, tt, op, _, _, _, _, _, _, _, _, _, htr, _⟩ := hco'
    exact cont _ h' tk _ hx (Nat.le_trans hge (Nat.le_of_lt hlt)) htab'.2 ⟨_, rfl⟩ htr
  | some cv =>
    refine wpAny_genexprCode_hit hcode (cd.code hP2 ht) hf ?_
    exact cont cv (s1.heap.push o) s1.toks ps (Heap.ExtBut.refl _ _) (Nat.le_refl _) hP2 ⟨#[], by simp⟩ ht
theorem gen_two {c P : Addr} {elt ea eb : Expr} {x y : Str} {px py pz0 gpos zp zpos : Pos} {kt : Nat} {scope : Scope} {te : TA} {k : Nat} {Q' : Value → Shared → Prop} {R : List V → Hp → Prop}
    (hr : Room k X.A) (TB : GxR.TabB X.base X.mg c P) (hcode : X.env.code = .ref c) (S0 : GenN X.env scope x) (hy : scope.names.lookup y = some .local) (hxy : x ≠ y) (hgz : Gl X "zip") (hmz : X.mg "zip" = none) (hi : PA X [ea, eb] te)
    (hs1 : starEach [ea, eb] X.env = (false, eval ea X.env) :: starEach [eb] X.env) (hpl : (backTo zpos (starEach [eb] X.env)).any (·.1) = false)
    (hs : ∀ v, genFold (.Call (.Name "zip" zp) [ea, eb] [] zpos) X.env v = pure v) (I : Inv X pins σ H s)
    (h : te σ H R) (hR : ∀ vs H1, R vs H1 → ∃ (a b : Addr) (xs ys : List V) (f : Nat → V), vs = [.ref a, .ref b] ∧ SqL X.K H1 a xs ∧ SqT X.K H1 b ys ∧ GxR.TabG H1 P ∧ (∀ H2 cenv t m u w u' w' (i : Nat), GxR.Tabbed P H1 H2 → GX X σ H2 scope cenv t → t.heap.Ns cenv.locals m → m x = some u → m y = some u' → xs[i]? = some w → ys[i]? = some w' → RelV w u → RelV w' u' → QE X.prog X.w cenv t elt (f i)) ∧
      ∀ g s5, GenUp X pins σ H1 P (min xs.length ys.length) (fun i y => RelV (f i) y) g s5 → Q' (.ref g) s5) :
    wpAny (model X.prog X.w) X.A (eval (.GeneratorExp elt [⟨.Tuple [.Name x px, .Name y py] kt pz0, .Call (.Name "zip" zp) [ea, eb] [] zpos, [], 0⟩] scope gpos) X.env) Q' X.xe s := by
  have S := S0.up I
  refine wpAny_GeneratorExp_walksQT hr.hd S.co (closure_ok S.free) S.cell S.dot S.loc hy hxy S.kind (by have := hr.dp; omega) ?_ hs
  refine Call_ (ld_blt I hgz hmz PyProof.Rows.boot_zip (PyProof.Rows.callWith_type1 (thn (hi.run zpos pins s σ H _ I h) fun us s1 ⟨vs, H1, I1, r1, q1⟩ => ?_) hs1 hpl))
  obtain ⟨a, b, xs, ys, f, ex, hqx, hqy, ⟨ps, hP, ht⟩, hel, hQ⟩ := hR _ _ q1
  subst ex
  obtain ⟨u1, u2, eu, ra, rb⟩ := vals2 r1
  subst eu
  cases ra
  cases rb
  obtain ⟨its, rv, p1, _⟩ := I1.list hqx
  obtain ⟨its2, rv2, p2, _⟩ := I1.tuple hqy
  have hal : a < s1.heap.objs.size := p1.lt
  have hbl : b < s1.heap.objs.size := by obtain ⟨_, e, _⟩ := p2; exact Heap.lt_size e
  refine zip_begins2 (begins_list a its.toArray) (begins_tuple b its2.toArray) p1.isList p2 fun h' hz hI hO g1 g2 hsz' hk' => wpAny_pyIter_zip hz ?_
  have hPs : s1.heap.get? P = some { cls := .none, data := .fields ps } := I1.hok P _ hP
  have hPlt : P < s1.heap.objs.size := Heap.lt_size hPs
  have hP2 : h'.get? P = some { cls := .none, data := .fields ps } := hk' _ _ hPs
  have cd : PySem.W.CodeHd h' c P := TB.code.keeps fun b u e => hk' _ _ (I1.bk b u e)
  have lim2 : h'.NoLimit := I1.nolimit.keeps hk'
  have hP3' : ∀ j : Nat, s1.heap.objs.size + j ≠ P := fun j => Nat.ne_of_gt (Nat.lt_of_lt_of_le hPlt (Nat.le_add_right _ _))
  have hP4 : s1.heap.objs.size ≠ P := hP3' 0
  have cont : ∀ (code : Value) (h3 : Heap) (tk : Nat) (ps' : Array Value), Heap.ExtBut P h' h3 → h'.objs.size ≤ h3.objs.size → h3.get? P = some { cls := .none, data := .fields ps' } → (∃ more, ps' = ps ++ more) → TriplesOk ps'.toList →
      wpAny (model X.prog X.w) X.A (builtinsFor X.env.globals X.env.builtins) (fun bi s₄ =>
        ∃ Ia fp wr n₀ Pf St₀ Mid pz F, Value.ref (s1.heap.objs.size + 4) = .ref Ia ∧ (∀ A' : Around, A'.handled = none → WalksU X.prog X.w A' Ia fp wr n₀ Pf St₀ Mid) ∧ (∀ i vals, Pf i vals → ∃ va vb, vals = #[va, vb]) ∧ St₀ 0 s₄.heap ∧ (∀ b ∈ fp, b < s₄.heap.objs.size) ∧ s₄.heap.NoLimit ∧ cStatics ∉ wr ∧
          (∀ href : Heap, (∀ b o, s₄.heap.get? b = some o → href.get? b = some o) →
            QuietGenT X.prog X.w (genEnv scope (cloFrom X.env.cells scope.names []) s₄.heap.objs.size code bi X.env) x y [] elt (List.range s₄.heap.objs.size) wr Pf pz F href) ∧
          (∀ a h₅ tk gs, gs.bare = true → s₄.heap.objs.size < a → h₅.objs.size = a + 1 → (∀ b o, s₄.heap.get? b = some o → h₅.get? b = some o) →
            WalksS X.prog X.w X.A.in4 a (a :: s₄.heap.objs.size :: List.range s₄.heap.objs.size) (s₄.heap.objs.size :: wr) (GenOnlyQ s₄.gens.size) (passing pz n₀ 0).length
              (fun j y => ∃ i, (passing pz n₀ 0)[j]? = some i ∧ F i y) (GenAt X.prog X.w X.A.in4 a s₄.gens.size s₄.heap.objs.size (List.range s₄.heap.objs.size) wr pz n₀ F) →
            GenAt X.prog X.w X.A.in4 a s₄.gens.size s₄.heap.objs.size (List.range s₄.heap.objs.size) wr pz n₀ F 0 { s₄ with gens := s₄.gens.push gs, toks := tk, heap := h₅ } →
            Q' (.ref a) { s₄ with gens := s₄.gens.push gs, toks := tk, heap := h₅ })) X.xe { s1 with heap := h3, toks := tk } := by
    intro code h3 tk ps' hx hsz hP3 hmore ht3
    obtain ⟨bm, ob, e1, e2, e3, e4, e5, e6, e7, e8⟩ := TB.bm
    have hcP : cStatics ≠ P := fun e => by
      obtain ⟨_, hns, _⟩ := I1.nolimit
      obtain ⟨o', es, ep, ho', hd, _⟩ := hns
      rw [e, hPs] at ho'
      cases ho'
      cases hd
    have hcl : cStatics < s1.heap.objs.size := let ⟨_, hns, _⟩ := I1.nolimit; hns.lt
    have keep3 : ∀ b u, b ≠ P → s1.heap.get? b = some u → h3.get? b = some u := fun b u hb e => hx b u hb (hk' _ _ e)
    have hz3 : IsZip h3 (s1.heap.objs.size + 4) (s1.heap.objs.size + 2) (s1.heap.objs.size + 3) .none := hx _ _ (hP3' 4) hz
    have hI3 : IsTupOf2 h3 (s1.heap.objs.size + 2) (.ref s1.heap.objs.size) (.ref (s1.heap.objs.size + 1)) := hx _ _ (hP3' 2) hI
    have hO3 : IsTupOf2 h3 (s1.heap.objs.size + 3) .none .none := hx _ _ (hP3' 3) hO
    have l3 : h3.IsListIter s1.heap.objs.size a 0 := ⟨_, hx _ _ hP4 g1, rfl, rfl⟩
    have t3 : h3.IsTupleIter (s1.heap.objs.size + 1) b 0 := ⟨_, hx _ _ (hP3' 1) g2, rfl, rfl⟩
    have la3 : h3.IsList a its.toArray := p1.isList.at fun ob e => keep3 a ob (fun z => by
      obtain ⟨oa, ea', _, _, da⟩ := p1.isList
      rw [z, hPs] at ea'
      cases ea'
      cases da) e
    have tb3 : h3.IsTuple b its2.toArray := by
      have p2' : s1.heap.IsTuple b its2.toArray := p2
      exact p2'.at fun ob e => keep3 b ob (fun z => by
        obtain ⟨oa, ea', _, _, da⟩ := p2'
        rw [z, hPs] at ea'
        cases ea'
        cases da) e
    have S2 := lie_new hal hbl
    have hsz3 : s1.heap.objs.size + 5 ≤ h3.objs.size := by rw [← hsz']; exact hsz
    refine wpAny_builtinsFor (m := X.mg) (by rw [I1.ok.glob]; exact ((I1.mod.glob.keeps I1.bk).keeps hk').extBut hx TB.gP) e1 e2 (keep3 _ _ e4 (I1.bk _ _ e5)) e6 e7 e8 ?_
    refine ⟨s1.heap.objs.size + 4, _, _, _, _, _, _, (fun _ => true), (fun i y => RelV (f i) y), rfl, fun A' hA => (WalksT.zipD2 S2.1 (Draws.list (A := A'.in1) hA s1.heap.objs.size a S2.2.1 its.toArray) (Draws.tuple (A := A'.in1) hA (s1.heap.objs.size + 1) b S2.2.2.1 its2.toArray)).toU, fun i vals z => ?_, ⟨hz3, hI3, ⟨_, _, hO3⟩, ⟨l3, la3⟩, ⟨t3, tb3⟩⟩, ?_, lim2.extBut hx hcP, ?_, ?_, ?_⟩
    · obtain ⟨x1, x2, _, _, e⟩ := z
      exact ⟨x1, x2, e⟩
    · intro c hc
      have hc' : c = s1.heap.objs.size + 4 ∨ c = s1.heap.objs.size + 2 ∨ c = s1.heap.objs.size + 3 ∨ c = s1.heap.objs.size ∨ c = a ∨ c = s1.heap.objs.size + 1 ∨ c = b := by simpa using hc
      have n0 : (s1.heap.objs.size : Nat) ≤ s1.heap.objs.size := Nat.le_refl _
      rcases hc' with rfl | rfl | rfl | rfl | rfl | rfl | rfl
      · show s1.heap.objs.size + 4 < h3.objs.size; omega
      · show s1.heap.objs.size + 2 < h3.objs.size; omega
      · show s1.heap.objs.size + 3 < h3.objs.size; omega
      · show s1.heap.objs.size < h3.objs.size; omega
      · exact Nat.lt_of_lt_of_le hal (by show s1.heap.objs.size ≤ h3.objs.size; omega)
      · show s1.heap.objs.size + 1 < h3.objs.size; omega
      · exact Nat.lt_of_lt_of_le hbl (by show s1.heap.objs.size ≤ h3.objs.size; omega)
    · intro z
      have z' : cStatics = s1.heap.objs.size + 4 ∨ cStatics = s1.heap.objs.size + 3 ∨ cStatics = s1.heap.objs.size ∨ cStatics = s1.heap.objs.size + 1 := by simpa using z
      have hcl' : (cStatics : Nat) < s1.heap.objs.size := hcl
      rcases z' with z | z | z | z
      · exact absurd hcl' (by rw [z]; exact Nat.not_lt.mpr (Nat.le_add_right _ _))
      · exact absurd hcl' (by rw [z]; exact Nat.not_lt.mpr (Nat.le_add_right _ _))
      · exact absurd hcl' (by rw [z]; exact Nat.lt_irrefl _)
      · exact absurd hcl' (by rw [z]; exact Nat.not_lt.mpr (Nat.le_add_right _ _))
    · intro href hhref
      refine ⟨fun A' E' i va vb s₂ m₂ hA hPv hn hm hm2 hk => ?_, fun A' E' i va vb s₂ m₂ hA hPv hp hn hm hm2 hk => ?_⟩
      · simp only [List.forIn_nil]
        exact wpAny_pure ⟨rfl, GxR.keeps_refl _⟩
      · obtain ⟨x1, x2, e1', e2', e3'⟩ := hPv
        have q3 : [va, vb] = [x1, x2] := congrArg Array.toList e3'
        cases q3
        have hv : its[i]? = some va := by simpa using e1'
        have hv2 : its2[i]? = some vb := by simpa using e2'
        have hi1 : i < xs.length := by rw [rv.length]; exact (List.getElem?_eq_some_iff.mp hv).1
        have hi2 : i < ys.length := by rw [rv2.length]; exact (List.getElem?_eq_some_iff.mp hv2).1
        obtain ⟨u5, hu5, ru⟩ := rv.get (List.getElem?_eq_getElem hi1)
        obtain ⟨u6, hu6, ru2⟩ := rv2.get (List.getElem?_eq_getElem hi2)
        rw [hv] at hu5
        cases hu5
        rw [hv2] at hu6
        cases hu6
        have up : ∀ b ob, b < s1.heap.objs.size → h3.get? b = some ob → s₂.heap.get? b = some ob := fun b ob hb e => hk b (List.mem_range.mpr (Heap.lt_size e)) (fun z => by
          have z' : b = s1.heap.objs.size + 4 ∨ b = s1.heap.objs.size + 3 ∨ b = s1.heap.objs.size ∨ b = s1.heap.objs.size + 1 := by simpa using z
          have hb' : (b : Nat) < s1.heap.objs.size := hb
          rcases z' with z | z | z | z
          · exact absurd hb' (by rw [z]; exact Nat.not_lt.mpr (Nat.le_add_right _ _))
          · exact absurd hb' (by rw [z]; exact Nat.not_lt.mpr (Nat.le_add_right _ _))
          · exact absurd hb' (by rw [z]; exact Nat.lt_irrefl _)
          · exact absurd hb' (by rw [z]; exact Nat.not_lt.mpr (Nat.le_add_right _ _))) ob (hhref b ob e)
        obtain ⟨H2, tb, G⟩ := gx_of (C := h3.objs.size) (code := code) (bi := builtinsNs) (t := s₂) I1 hP S.kind S.free hmore ⟨ps', upd_same, ht3⟩ (fun b ob hb e => up b ob (Heap.lt_size e) (keep3 b ob hb e)) (up P _ hPlt hP3)
        have q := hel H2 _ s₂ m₂ va _ vb _ i tb G hn hm hm2 (List.getElem?_eq_getElem hi1) (List.getElem?_eq_getElem hi2) ru ru2 A' E' s₂.toks (fun y s₃ => RelV (f i) y ∧ Keeps s₂ s₃) (fun y k' r => ⟨r, GxR.keeps_tok _ _⟩)
        exact q
    · intro g h5 tk5 gs hgb hag hsz5 hk5 W5 hat
      have e5 : (passing (fun _ => true) (min its.toArray.size its2.toArray.size) 0).length = min xs.length ys.length := by rw [GxR.passing_true, List.length_range, List.size_toArray, List.size_toArray, ← rv.length, ← rv2.length]
      rw [e5] at W5
      have W6 := ws_mono (P' := fun i y => RelV (f i) y) W5 fun j y ⟨i, hij, r⟩ => by
        rw [GxR.passing_true] at hij
        obtain ⟨hj, ej⟩ := List.getElem?_eq_some_iff.mp hij
        rw [List.getElem_range] at ej
        subst ej
        exact r
      refine hQ g _ ⟨_, _, _, _, W6, hat, fun i s' z => z.1.typeIs, fun b hb => ?_, List.mem_cons_self, fun s' hm => ?_⟩
      · rcases List.mem_cons.mp hb with z | z
        · rw [z]; show g < h5.objs.size; omega
        · rcases List.mem_cons.mp z with z | z
          · rw [z]; show h3.objs.size < h5.objs.size; exact Nat.lt_of_lt_of_le hag (by omega)
          · have hz := List.mem_range.mp z
            exact Nat.lt_trans hz (Nat.lt_of_lt_of_le hag (by show g ≤ h5.objs.size; omega))
      · obtain ⟨more, em⟩ := hmore
        have nwr : ∀ b u, s1.heap.get? b = some u → b ∉ h3.objs.size :: [s1.heap.objs.size + 4, s1.heap.objs.size + 3, s1.heap.objs.size, s1.heap.objs.size + 1] := fun b u e hb => by
          have hl : (b : Nat) < s1.heap.objs.size := Heap.lt_size e
          have z' : b = h3.objs.size ∨ b = s1.heap.objs.size + 4 ∨ b = s1.heap.objs.size + 3 ∨ b = s1.heap.objs.size ∨ b = s1.heap.objs.size + 1 := by simpa using hb
          rcases z' with z | z | z | z | z
          · exact absurd hl (by rw [z]; exact Nat.not_lt.mpr (by omega))
          · exact absurd hl (by rw [z]; exact Nat.not_lt.mpr (Nat.le_add_right _ _))
          · exact absurd hl (by rw [z]; exact Nat.not_lt.mpr (Nat.le_add_right _ _))
          · exact absurd hl (by rw [z]; exact Nat.lt_irrefl _)
          · exact absurd hl (by rw [z]; exact Nat.not_lt.mpr (Nat.le_add_right _ _))
        have J := GxR.inv_tab (more := more) (h' := s'.heap) (g' := s'.gens) (d' := s'.drawn) (t' := s'.toks) I1 hP (fun b u hb e => hm.heap b u (nwr b u e) (hk5 b u (keep3 b u hb e)))
          (by rw [← em]; exact hm.heap P _ (nwr P _ hPs) (hk5 P _ hP3)) (AllBare.movedS (I1.bare.push hgb) hm)
        rw [GxR.sh_eta s1 s' hm.os] at J
        exact ⟨L2.upd H1 P (.tbl (ps ++ more)), ⟨⟨ps ++ more, upd_same, by rw [← em]; exact ht3⟩, fun b hb => upd_ne hb⟩, J⟩
  refine ⟨lim2, ?_⟩
  cases hf : codeAmong gpos ps.toList with
  | none =>
    refine wpAny_genexprCodeX hcode (cd.code hP2 ht) (cd.tab hP2) hf fun c' h6 tk hx hge hlt hco' _ htab' _ => ?_
    obtain ⟨o1, vs, f1, tf, fl, tg, inF, tx, tt, op, _, _, _, _, _, _, _, _, _, htr, _⟩ := hco'
    exact cont _ h6 tk _ hx (Nat.le_trans hge (Nat.le_of_lt hlt)) htab'.2 ⟨_, rfl⟩ htr
  | some cv =>
    refine wpAny_genexprCode_hit hcode (cd.code hP2 ht) hf ?_
    exact cont cv h' s1.toks ps (Heap.ExtBut.refl _ _) (Nat.le_refl _) hP2 ⟨#[], by simp⟩ ht
/-- all(test for x in e), e a tuple, every test true -/
def tAllT (X : Cx) (P : Addr) (x : Str) (scope : Scope) (elt : Expr) (te : TE) : TE := fun σ H Q => te σ H fun v H1 => ∃ (a : Addr) (xs : List V), v = .ref a ∧ SqT X.K H1 a xs ∧ GxR.TabG H1 P ∧
  (∀ H2 cenv t m u w (i : Nat), GxR.Tabbed P H1 H2 → GX X σ H2 scope cenv t → t.heap.Ns cenv.locals m → m x = some u → xs[i]? = some w → RelV w u → QE X.prog X.w cenv t elt (.bl true)) ∧ ∀ H2, GxR.Tabbed P H1 H2 → Q (.bl true) H2
theorem pe_allT {c P : Addr} {elt iter : Expr} {x : Str} {px gpos p pos : Pos} {scope : Scope} {te : TE} {k : Nat} (hr : Room k X.A) (hg : Gl X "all") (hm : X.mg "all" = none) (hb : bootBuiltins "all" = some (.builtin "all"))
    (TB : GxR.TabB X.base X.mg c P) (hcode : X.env.code = .ref c) (S0 : GenN X.env scope x) (hi : PE X iter te) (hs : ∀ v, genFold iter X.env v = pure v)
    (he : starEach [.GeneratorExp elt [⟨.Name x px, iter, [], 0⟩] scope gpos] X.env = (false, eval (.GeneratorExp elt [⟨.Name x px, iter, [], 0⟩] scope gpos) X.env) :: starEach [] X.env := by rfl) :
    PE X (.Call (.Name "all" p) [.GeneratorExp elt [⟨.Name x px, iter, [], 0⟩] scope gpos] [] pos) (tAllT X P x scope elt te) := by
  refine ⟨fun pins s σ H Q I h => wpAny_Call_Name_kw (ld_blt I hg hm hb (PyProof.Rows.callWith_builtin1 ?_ he (by rfl)))⟩
  rw [he]
  show wpAny _ _ (spliced ((false, eval (.GeneratorExp elt [⟨.Name x px, iter, [], 0⟩] scope gpos) X.env) :: backTo pos (starEach [] X.env))) _ _ s
  refine Calls.spliced_cons (gen_one hr TB hcode S0 hi hs I h fun v H1 h1 => ?_)
  obtain ⟨a, xs, ea, hq, tb, el, q⟩ := h1
  refine ⟨a, xs, fun _ => .bl true, ea, hq, tb, el, fun g s5 hG => Calls.spliced_nil ?_⟩
  obtain ⟨fp, wr, n, St, W, hst, hT, hfp, hgf, hI⟩ := hG
  refine call_all_walkS (W.in4_1.self 0 _ _ _ hst ⟨g, fp, wr, _, _, _, St, fun _ => true, rfl, W.in4_1, hst, fun i y sj Qj Ej hy hQj => ?_, fun s' hmv => ?_⟩)
  · cases hy
    exact wpAny_truthy_bool hQj
  · obtain ⟨H2, hT, J⟩ := hI s' hmv
    refine ⟨.bl _, H2, J, rfl, ?_⟩
    rw [show (List.range xs.length).all (fun _ => true) = true from List.all_eq_true.mpr fun _ _ => rfl]
    exact q H2 hT
/-- tuple(e for x, y in zip(a, b)) -/
def tTupG (X : Cx) (P : Addr) (x y : Str) (scope : Scope) (elt : Expr) (te : TA) : TE := fun σ H Q => te σ H fun vs H1 => ∃ (a b : Addr) (xs ys : List V) (f : Nat → V), vs = [.ref a, .ref b] ∧ SqL X.K H1 a xs ∧ SqT X.K H1 b ys ∧ GxR.TabG H1 P ∧ min xs.length ys.length ≤ sizeLine ∧
  (∀ H2 cenv t m u w u' w' (i : Nat), GxR.Tabbed P H1 H2 → GX X σ H2 scope cenv t → t.heap.Ns cenv.locals m → m x = some u → m y = some u' → xs[i]? = some w → ys[i]? = some w' → RelV w u → RelV w' u' → QE X.prog X.w cenv t elt (f i)) ∧
  ∀ H2 p, GxR.Tabbed P H1 H2 → H2 p = none → Q (.ref p) (L2.upd H2 p (.tup ((List.range (min xs.length ys.length)).map f)))
theorem pe_tupG {c P : Addr} {elt ea eb : Expr} {x y : Str} {px py pz0 gpos zp zpos p pos : Pos} {kt : Nat} {scope : Scope} {te : TA} {k : Nat} (hr : Room k X.A) (hg : Gl X "tuple") (hm : X.mg "tuple" = none) (hb : bootBuiltins "tuple" = some (.type "tuple"))
    (TB : GxR.TabB X.base X.mg c P) (hcode : X.env.code = .ref c) (S0 : GenN X.env scope x) (hy : scope.names.lookup y = some .local) (hxy : x ≠ y) (hgz : Gl X "zip") (hmz : X.mg "zip" = none) (hi : PA X [ea, eb] te)
    (hs1 : starEach [ea, eb] X.env = (false, eval ea X.env) :: starEach [eb] X.env := by rfl) (hpl : (backTo zpos (starEach [eb] X.env)).any (·.1) = false := by rfl)
    (hs : ∀ v, genFold (.Call (.Name "zip" zp) [ea, eb] [] zpos) X.env v = pure v := by intro _; rfl)
    (he : starEach [.GeneratorExp elt [⟨.Tuple [.Name x px, .Name y py] kt pz0, .Call (.Name "zip" zp) [ea, eb] [] zpos, [], 0⟩] scope gpos] X.env = (false, eval (.GeneratorExp elt [⟨.Tuple [.Name x px, .Name y py] kt pz0, .Call (.Name "zip" zp) [ea, eb] [] zpos, [], 0⟩] scope gpos) X.env) :: starEach [] X.env := by rfl) :
    PE X (.Call (.Name "tuple" p) [.GeneratorExp elt [⟨.Tuple [.Name x px, .Name y py] kt pz0, .Call (.Name "zip" zp) [ea, eb] [] zpos, [], 0⟩] scope gpos] [] pos) (tTupG X P x y scope elt te) := by
  refine ⟨fun pins s σ H Q I h => Call_ (ld_blt I hg hm hb (PyProof.Rows.callWith_type1 ?_ he (by rfl)))⟩
  rw [he]
  show wpAny _ _ (spliced ((false, eval (.GeneratorExp elt [⟨.Tuple [.Name x px, .Name y py] kt pz0, .Call (.Name "zip" zp) [ea, eb] [] zpos, [], 0⟩] scope gpos) X.env) :: backTo pos (starEach [] X.env))) _ _ s
  refine Calls.spliced_cons (gen_two hr TB hcode S0 hy hxy hgz hmz hi hs1 hpl hs I h fun vs H1 h1 => ?_)
  obtain ⟨a, b, xs, ys, f, ea, hqx, hqy, tb, hsz, el, q⟩ := h1
  refine ⟨a, b, xs, ys, f, ea, hqx, hqy, tb, el, fun g s5 hG => Calls.spliced_nil ?_⟩
  obtain ⟨fp, wr, n, St, W, hst, hT, hfp, hgf, hI⟩ := hG
  refine call_tuple_gen W.in4_3 hT hst hfp hgf (fun s' acc hm hacc => ?_) hsz
  obtain ⟨H2, hT2, J⟩ := hI s' hm
  have hv : Vals ((List.range (min xs.length ys.length)).map f) acc.toList := by
    have e : min xs.length ys.length = acc.toList.length := hacc.1.symm.trans (by simp)
    rw [e]
    exact vals_of_get acc.toList f fun j u ej => hacc.2 j u (by rw [← Array.getElem?_toList]; exact ej)
  refine ⟨.ref s'.heap.objs.size, _, J.laid (t' := s'.toks) (fun b ob e => Heap.get?_push_of_some _ e) (Nat.le_refl _) ?_, rfl, q H2 _ hT2 (J.hok.fresh (Nat.le_refl _))⟩
  exact ⟨by rw [List.length_map, List.length_range]; exact hsz, acc.toList, hv, ⟨_, Heap.get?_push_size _ rfl, rfl, _, by rw [Array.toArray_toList]⟩⟩
end
end Su

set_option Elab.async false
set_option linter.all false
set_option maxRecDepth 100000
set_option maxHeartbeats 2000000
/-! a dict comprehension whose keys are tuples -/
namespace Su
open PySem PySem.Spec PyProof.Rows L2
theorem dT_set {X : Cx} {pz : List (Addr × Obj)} {σ : L2.St} {H : Hp} {s : Shared} {E : Value → Shared → Prop} {D b : Addr} {kvs : List (List Key × V)} {k : List Key} {v : V} {u r : Value} {Q : Unit → Shared → Prop} (hu : X.A.units + 1 < cLine) (I : Inv X pz σ H s) (e : H D = some (.dT kvs)) (hz : kvs.length < sizeLine)
    (eb : H b = some (.tup (k.map kV))) (ry : RelV (.ref b) u) (rv : RelV v r) (h : ∀ s', Inv X pz σ (upd H D (.dT (putK kvs k v))) s' → Q () s') : wpAny (model X.prog X.w) X.A (dictSet D u r) Q E s := by
  cases (show u = Value.ref b from ry)
  obtain ⟨z, hd, xs, rel, dd⟩ := dt_of I.hok e
  have hl : (putK kvs k v).length ≤ sizeLine := by have := length_putK kvs k v; omega
  refine wpAny_dictSet_heap (hsz := by rw [← Paired.length rel]; exact z) (show X.A.units < cLine by omega) (key_of I.hok eb) dd fun h' dd' hs => h _ ?_
  obtain ⟨q, es, ep, hq, h2, h3, h4, _, h5⟩ := dd'
  refine d_write I (by rw [e]; exact True.intro) hs ⟨q, hq⟩ ⟨hl, hd, _, (rel.put k eb rv).keeps fun c ys ec => ?_, q, es, ep, hq, h2, h3, h4, h5⟩
  rw [upd_ne (ne_of ec e (fun z => nomatch z))]
  exact ec
section
variable {X : Cx}
def tDct (wi : TI) (g : TG) (tt : TT) (tk tv : TE) (vs : List Nat) : TE := fun σ H Q => wi σ H fun J H1 => ∀ D, H1 D = none → ∃ W : Nat → Nat → Hp → Prop, (∃ m, W 0 m (upd H1 D (.dT []))) ∧ ∀ i m H, W i m H →
  (J.stop i H ∧ Q (.ref D) H) ∨ (J.go i H ∧ ∃ Nx : Hp → Prop, (∀ H', Nx H' → ∃ m', m' < m ∧ W (i + 1) m' H') ∧ ∀ x H', J.yld i H x H' → g x (wipe σ vs) H' fun σ2 H2 => wipe σ2 vs = wipe σ vs ∧ tt σ2 H2 fun b H3 =>
    if b = true then tk σ2 H3 fun y H4 => tv σ2 H4 fun z H5 => ∃ kvs k kb, y = .ref kb ∧ H5 kb = some (.tup (k.map kV)) ∧ H5 D = some (.dT kvs) ∧ kvs.length < sizeLine ∧ Nx (upd H5 D (.dT (putK kvs k z))) else Nx H3)
theorem dct_core {pz : List (Addr × Obj)} {s : Shared} {σ : L2.St} {H : Hp} {Q : VK} {ke ve tgt it0 : Expr} {fs0 : List Expr} {sc : Scope} {ow0 : List (Str × Nat)} {pos pos' : Pos} {wj : TI} {g : TG} {tt : TT} {tk tv : TE} {use : Option (Value → Sem Unit)} {Qf : Value → Shared → Prop}
    (hu : X.A.units + 1 < cLine) (hc : X.calm = true) (hN : X.N.Nodup) (I : Inv X pz σ H s) (hi : PI X tgt it0 wj) (ok : BlkOk X.N X.env.scope sc ow0)
    (hg : ∀ (s : Shared) (H : Hp) (C : Addr) (cl : List (Str × Addr)) (fq : List Addr), PG (X.blk s H sc (compEnvC sc cl C X.env) fq) tgt g) (ht : ∀ (s : Shared) (H : Hp) (C : Addr) (cl : List (Str × Addr)) (fq : List Addr), PTs (X.blk s H sc (compEnvC sc cl C X.env) fq) fs0 tt)
    (hk : ∀ (s : Shared) (H : Hp) (C : Addr) (cl : List (Str × Addr)) (fq : List Addr), PE (X.blk s H sc (compEnvC sc cl C X.env) fq) ke tk)
    (he : ∀ (s : Shared) (H : Hp) (C : Addr) (cl : List (Str × Addr)) (fq : List Addr), PE (X.blk s H sc (compEnvC sc cl C X.env) fq) ve tv) (hs : ∀ x, foldedSetIterable it0 X.env x = pure x)
    (h : tDct wj g tt tk tv (ow0.map (·.2)) σ H Q)
    (hRR : ∀ D C s' m H', Inv X pz σ H' s' → Q (.ref D) H' → s'.heap.Ns C m → FpOk X pz H' C → compPost (model X.prog X.w) X.A X.xe use Qf (.ref D) C (.ok .next) s') :
    wpAny (model X.prog X.w) X.A (comprehension (.DictComp ke ve [⟨tgt, it0, fs0, 0⟩] sc pos) sc X.env pos' newDict false (eval it0 X.env) use) Qf X.xe s := by
  have hfree : ∀ y ∈ sc.names, y.2 = .free → ∃ c, X.env.cells.lookup y.1 = some c := fun y hy e => by
    rcases ok.free y hy e with k | k
    · exact I.ok.has _ (.inl k)
    · exact I.ok.has _ (.inr k)
  refine wpAny_comprehension_free (use := use) rfl hs (closure_ok hfree) ok.kind (fun y hy e => by rw [ok.uniq y hy, e])
    (thn (hi.run pz s σ H _ I h) fun xv s1 hx => thn hx fun itv t2 h2 => ?_)
  obtain ⟨it, fq, tm, J, G2, e, J2, T, v2, g2, q⟩ := h2
  subst e
  refine wpAny_newObj_type (newEnv_comp ?_)
  generalize hD : t2.heap.objs.size = D
  have hDn : G2 D = none := J2.hok.fresh (Nat.le_of_eq hD)
  obtain ⟨W, ⟨m0, w0⟩, tr⟩ := q D hDn
  generalize et3 : ({ t2 with heap := t2.heap.push { cls := .type "dict", data := .dict #[] } } : Shared) = t3
  have J3 : Inv X pz σ (upd G2 D (.dT [])) t3 := by
    rw [← et3]
    refine J2.laid (t' := t2.toks) (fun b o e => Heap.get?_push_of_some _ e) (Nat.le_of_eq hD) ?_
    rw [← hD]
    exact dt_empty t2.heap J2.big
  have h3 : t3.heap = t2.heap.push { cls := .type "dict", data := .dict #[] } := by rw [← et3]
  have sz : ∀ b ∈ fq, b < t2.heap.objs.size := fun b hb => by
    obtain ⟨o, e, _⟩ := T.obj _ _ v2 b hb
    exact Heap.lt_size e
  have g3 : ∀ b ∈ fq, FpOk X pz (upd G2 D (.dT [])) b ∧ b < t3.heap.objs.size := fun b hb => by
    have hlt := sz b hb
    refine ⟨⟨?_, (g2 b hb).2⟩, by rw [h3, Heap.size_push]; exact Nat.lt_succ_of_lt hlt⟩
    rw [upd_ne (by rw [← hD]; exact Nat.ne_of_lt hlt)]
    exact (g2 b hb).1
  have v3 : tm 0 t3.heap := T.keep _ _ _ v2 fun b _ o e => by rw [h3]; exact Heap.get?_push_of_some _ e
  have J4 := block_start J3 ok hN g3
  have pg0 := hg t3 (upd G2 D (.dT [])) t3.heap.objs.size (cellsFrom (t3.heap.objs.size + 1) sc.names (cloFrom X.env.cells sc.names [])) fq
  have pt0 := ht t3 (upd G2 D (.dT [])) t3.heap.objs.size (cellsFrom (t3.heap.objs.size + 1) sc.names (cloFrom X.env.cells sc.names [])) fq
  have pk0 := hk t3 (upd G2 D (.dT [])) t3.heap.objs.size (cellsFrom (t3.heap.objs.size + 1) sc.names (cloFrom X.env.cells sc.names [])) fq
  have pv0 := he t3 (upd G2 D (.dT [])) t3.heap.objs.size (cellsFrom (t3.heap.objs.size + 1) sc.names (cloFrom X.env.cells sc.names [])) fq
  show codeAny _ _ (.compStart (.DictComp ke ve [⟨tgt, it0, fs0, 0⟩] sc pos) 0 (.ref it) (.ref D) (compEnvC sc (cellsFrom (t3.heap.objs.size + 1) sc.names (cloFrom X.env.cells sc.names [])) t3.heap.objs.size X.env)) (compPost (model X.prog X.w) X.A X.xe use Qf (.ref D) t3.heap.objs.size) { t3 with heap := pushCells (t3.heap.push { cls := .type "dict", data := .dict #[] }) sc.names }
  have nfp : ∀ b ∈ fq, (upd G2 D (.dT [])) b = none := fun b hb => (g3 b hb).1.1
  generalize hcc : compEnvC sc (cellsFrom (t3.heap.objs.size + 1) sc.names (cloFrom X.env.cells sc.names [])) t3.heap.objs.size X.env = cv at J4 pg0 pt0 pk0 pv0 ⊢
  have cl0 : cv.locals = t3.heap.objs.size := by subst hcc; rfl
  generalize hH3 : upd G2 D (.dT []) = G3 at J3 J4 pg0 pt0 pk0 pv0 w0 nfp g3
  generalize et4 : ({ t3 with heap := pushCells (t3.heap.push { cls := .type "dict", data := .dict #[] }) sc.names } : Shared) = t4 at J4 ⊢
  have v4 : tm 0 t4.heap := T.keep _ _ _ v3 fun b _ o e => by rw [← et4]; exact pushCells_keeps _ _ _ _ (Heap.get?_push_of_some _ e)
  have ow : ∀ {σ' : L2.St} {H' : Hp} {s' : Shared}, Inv (X.blk t3 G3 sc cv fq) [] σ' H' s' → (∀ b ∈ fq, H' b = none) → ∀ b ∈ fq, FpOk (X.blk t3 G3 sc cv fq) [] H' b := fun {σ' H' s'} I' hn b hb =>
    ⟨hn b hb, (I'.ok.exf b hb).1, I'.ok.exfs b hb, .inl hb, fun x c e => (I'.ok.exf b hb).2 x c e, fun p hp => absurd (show p ∈ ([] : List (Addr × Obj)) ++ [] from hp) (by simp)⟩
  have lp : codeAny (model X.prog X.w) X.A (.compLoop (.DictComp ke ve [⟨tgt, it0, fs0, 0⟩] sc pos) 0 (.ref it) (.ref D) cv) (compPost (model X.prog X.w) X.A X.xe use Qf (.ref D) t3.heap.objs.size) t4 := by
    refine compLoop_anyD (fun n s' => ∃ i H', Inv (X.blk t3 G3 sc cv fq) [] (wipe σ (ow0.map (·.2))) H' s' ∧ tm i s'.heap ∧ (∀ b ∈ fq, H' b = none) ∧ W i n H') ?_ m0 ⟨0, G3, J4, v4, nfp, w0⟩
    rintro n t5 ⟨i, G5, J5, v5, n5, w5⟩
    rcases tr i n G5 w5 with ⟨stop, qq⟩ | ⟨go, Ny, hnx, stp⟩
    · have td := T.done (X.blk t3 G3 sc cv fq) rfl rfl rfl hc i [] t5 _ G5 (fun _ _ => False) J5 (ow J5 n5) v5 stop
      refine thnF td fun r t6 ⟨hr, J6⟩ => ?_
      subst hr
      have J7 : Inv X pz σ G5 t6 := J3.call' (ch := fq) J6.os J6.base J6.hok J6.bare fun b hb => ⟨(g3 b hb).1.2.2.2.1, (g3 b hb).1.2.1, (g3 b hb).1.2.2.2.2.1, (g3 b hb).1.2.2.2.2.2⟩
      have nC : G5 t3.heap.objs.size = none := by
        have z : G5 cv.locals = none := J6.free
        rw [cl0] at z
        exact z
      obtain ⟨m, hn, _⟩ := J6.loc
      have hn : t6.heap.Ns cv.locals m := hn
      rw [cl0] at hn
      exact hRR D t3.heap.objs.size t6 m G5 J7 qq hn (J3.fpOk (Nat.le_refl _) nC)
    · have ti := T.item (X.blk t3 G3 sc cv fq) rfl rfl rfl hc i [] t5 _ G5 (fun _ _ => False) J5 (ow J5 n5) v5 go
      refine thnF ti fun r t6 ⟨u, hr, h6⟩ => ?_
      subst hr
      refine thnF h6 fun _ t7 ⟨x, G7, J7, r7, y7, v7, n7⟩ => ?_
      have J7' := J7.pinned (ow J7 n7) (T.obj _ _ v7)
      refine thnF (pg0.run _ t7 _ G7 x u _ J7' r7 (stp x G7 y7)) fun _ t8 ⟨σ8, G8, J8, hw8, q8⟩ => ?_
      refine thnF (pt0.run _ t8 σ8 G8 _ J8 q8) fun b t9 ⟨G9, J9, q9⟩ => ?_
      have en : ∀ {s' : Shared} {H' : Hp}, Inv (X.blk t3 G3 sc cv fq) ([] ++ pinsAt fq t7.heap) σ8 H' s' → Ny H' → ∃ m, m < n ∧ ∃ i H', Inv (X.blk t3 G3 sc cv fq) [] (wipe σ (ow0.map (·.2))) H' s' ∧ tm i s'.heap ∧ (∀ b ∈ fq, H' b = none) ∧ W i m H' := fun {s' H'} I' nx => by
        obtain ⟨m', hm, w'⟩ := hnx H' nx
        have pin' : ∀ b ∈ fq, ∀ o, t7.heap.get? b = some o → s'.heap.get? b = some o ∧ H' b = none := fun b hb o e =>
          let z := I'.pin (b, o) (List.mem_append_right _ (List.mem_append_right _ (mem_pinsAt hb e)))
          ⟨z.1, z.2.1⟩
        have hl : (wipe σ (ow0.map (·.2))).length = σ8.length := by rw [← hw8, wipe_length]
        refine ⟨m', hm, i + 1, H', (I'.unpinned (pins := [])).weak hl (fun j v e => ?_), T.keep _ _ _ v7 fun b hb o e => (pin' b hb o e).1, fun b hb => ?_, w'⟩
        · rw [← hw8] at e
          exact (wipe_some e).1
        · obtain ⟨o, e, _⟩ := T.obj _ _ v7 b hb
          exact (pin' b hb o e).2
      cases b with
      | false =>
        simp only [Bool.false_eq_true, if_false] at q9 ⊢
        exact en J9 q9
      | true =>
        simp only [if_true] at q9 ⊢
        refine thnF (pk0.run _ t9 σ8 G9 _ J9 q9) fun z ta ⟨yk, G10, J10, r10, q10⟩ => ?_
        refine thnF (pv0.run _ ta σ8 G10 _ J10 q10) fun z2 tb9 ⟨yv, G11, J11, r11, kvs, k, kb, ek, hkb, hD11, hz11, nx⟩ => ?_
        subst ek
        exact dT_set (X := X.blk t3 G3 sc cv fq) hu J11 hD11 hz11 hkb r10 r11 fun tc J12 => en J12 nx
  exact codeAny_compStart_dict lp (T.self X.A 0 _ _ _ v4 lp)
theorem pe_dct {ke ve tgt it0 : Expr} {fs0 : List Expr} {sc : Scope} {ow0 : List (Str × Nat)} {pos : Pos} {wj : TI} {g : TG} {tt : TT} {tk tv : TE} (hu : X.A.units + 1 < cLine) (hc : X.calm = true) (hN : X.N.Nodup) (hi : PI X tgt it0 wj) (ok : BlkOk X.N X.env.scope sc ow0)
    (hg : ∀ (s : Shared) (H : Hp) (C : Addr) (cl : List (Str × Addr)) (fq : List Addr), PG (X.blk s H sc (compEnvC sc cl C X.env) fq) tgt g) (ht : ∀ (s : Shared) (H : Hp) (C : Addr) (cl : List (Str × Addr)) (fq : List Addr), PTs (X.blk s H sc (compEnvC sc cl C X.env) fq) fs0 tt)
    (hk : ∀ (s : Shared) (H : Hp) (C : Addr) (cl : List (Str × Addr)) (fq : List Addr), PE (X.blk s H sc (compEnvC sc cl C X.env) fq) ke tk)
    (he : ∀ (s : Shared) (H : Hp) (C : Addr) (cl : List (Str × Addr)) (fq : List Addr), PE (X.blk s H sc (compEnvC sc cl C X.env) fq) ve tv) (hs : ∀ x, foldedSetIterable it0 X.env x = pure x := by intro _; rfl) :
    PE X (.DictComp ke ve [⟨tgt, it0, fs0, 0⟩] sc pos) (tDct wj g tt tk tv (ow0.map (·.2))) := by
  refine ⟨fun pz s σ H Q I h => ?_⟩
  rw [arm_eval_DictComp]
  refine dct_core hu hc hN I hi ok hg ht hk he hs h fun D C s' m H' I' q hn f => ⟨m, hn, fun h'' sb => ?_⟩
  obtain ⟨f0, f1, g2, g3, f4, f5⟩ := f
  exact ⟨.ref D, H', I'.turned (t' := s'.toks) (fun b o hb e => (sb.2 b hb).trans e) f0 f1 g3 f4 f5, rfl, q⟩
end
end Su

set_option Elab.async false
set_option linter.all false
set_option maxRecDepth 100000
set_option maxHeartbeats 2000000
/-! dicts by a stretch of numbers, lists by counts -/
namespace Su
open PySem PySem.Spec PyProof.Rows L2
/-- the dict a: f a, .., b-1: f (b-1) -/
def kF (a b : Nat) (f : Nat → V) : List (Key × V) := (List.range' a (b - a)).map fun (i : Nat) => (Sum.inl (i : Int), f i)
theorem kF_len (a b : Nat) (f : Nat → V) : (kF a b f).length = b - a := by unfold kF; simp
theorem kF_nil (a : Nat) (f : Nat → V) : kF a a f = [] := by unfold kF; simp
theorem kF_val {a b : Nat} {f : Nat → V} {i : Nat} (h1 : a ≤ i) (h2 : i < b) : valV (kF a b f) (Sum.inl (i : Int) : Key) = some (f i) := by
  unfold valV kF
  cases e : ((List.range' a (b - a)).map fun (i : Nat) => ((Sum.inl (i : Int) : Key), f i)).find? (fun kv => decide (kv.1 = (Sum.inl (i : Int) : Key))) with
  | none =>
    have q := List.find?_eq_none.mp e ((Sum.inl (i : Int) : Key), f i) (List.mem_map.mpr ⟨i, List.mem_range'_1.mpr ⟨h1, by omega⟩, rfl⟩)
    simp at q
  | some p =>
    obtain ⟨k, _, hk⟩ := List.mem_map.mp (List.mem_of_find?_eq_some e)
    have z := List.find?_some e
    rw [← hk] at z
    have z2 : (Sum.inl (k : Int) : Key) = Sum.inl (i : Int) := by simpa using z
    have z3 := Sum.inl.inj z2
    have z4 : k = i := by omega
    rw [← hk, z4]; rfl
theorem kF_none {a b : Nat} {f : Nat → V} {i : Int} (h : ¬ ((a : Int) ≤ i ∧ i < b)) : valV (kF a b f) (Sum.inl i : Key) = none := by
  unfold valV kF
  have e : ((List.range' a (b - a)).map fun (i : Nat) => ((Sum.inl (i : Int) : Key), f i)).find? (fun kv => decide (kv.1 = (Sum.inl i : Key))) = none := by
    refine List.find?_eq_none.mpr fun p hp => ?_
    obtain ⟨k, hk, rfl⟩ := List.mem_map.mp hp
    have hk := List.mem_range'_1.mp hk
    simp only [decide_eq_true_eq]
    intro z
    have z := Sum.inl.inj z
    omega
  rw [e]; rfl
theorem kF_put {a b : Nat} {f g : Nat → V} (h : a ≤ b) (e : ∀ i, a ≤ i → i < b → g i = f i) : putK (kF a b f) (Sum.inl (b : Int) : Key) (g b) = kF a (b + 1) g := by
  rw [putK_new _ (by rw [kF_none (by omega)])]
  unfold kF
  rw [show b + 1 - a = (b - a) + 1 from by omega, List.range'_1_concat, List.map_append, show a + (b - a) = b from by omega]
  refine congrArg (· ++ _) (List.map_congr_left fun i hi => ?_)
  have q := List.mem_range'_1.mp hi
  rw [e i q.1 (by omega)]
theorem kF_drop {a b : Nat} {f : Nat → V} (h : a < b) : dropK (kF a b f) (Sum.inl (a : Int) : Key) = kF (a + 1) b f := by
  unfold kF dropK
  rw [show b - a = (b - (a + 1)) + 1 from by omega, List.range'_succ, List.map_cons, List.filter_cons_of_neg (by simp)]
  refine List.filter_eq_self.mpr fun p hp => ?_
  obtain ⟨k, hk, rfl⟩ := List.mem_map.mp hp
  have q := List.mem_range'_1.mp hk
  simp only [ne_eq, decide_eq_true_eq]
  intro z
  have z := Sum.inl.inj z
  omega
theorem kF_keys (a b : Nat) (f : Nat → V) : (kF a b f).map (·.1) = ((List.range' a (b - a)).map fun (i : Nat) => (i : Int)).map Sum.inl := by
  unfold kF; rw [List.map_map, List.map_map]; rfl
theorem kR_kF (n : Nat) : kR n = kF 0 n fun _ => .bl true := by
  unfold kR kF; rw [Nat.sub_zero, List.range_eq_range']
/-- a list by a function -/
def lF (n : Nat) (f : Nat → V) : List V := (List.range n).map f
theorem lF_len (n : Nat) (f : Nat → V) : (lF n f).length = n := by unfold lF; simp
theorem lF_at {n i : Nat} {f : Nat → V} (h : i < n) : (lF n f)[i]? = some (f i) := by unfold lF; simp [h]
theorem lF_snoc {n : Nat} {f g : Nat → V} {v : V} (e : ∀ i, i < n → g i = f i) (ev : g n = v) : lF n f ++ [v] = lF (n + 1) g := by
  unfold lF
  rw [List.range_succ, List.map_append, List.map_singleton, ev]
  exact congrArg (· ++ [v]) (List.map_congr_left fun i hi => (e i (List.mem_range.mp hi)).symm)
theorem lF_set {n j : Nat} {f g : Nat → V} {v : V} (h : j < n) (e : ∀ i, i < n → i ≠ j → g i = f i) (ev : g j = v) : (lF n f).set j v = lF n g := by
  refine List.ext_getElem? fun i => ?_
  rw [List.getElem?_set]
  by_cases z : i = j
  · subst z
    rw [if_pos rfl, if_pos (by rw [lF_len]; exact h), lF_at h, ev]
  · rw [if_neg (Ne.symm z)]
    by_cases hi : i < n
    · rw [lF_at hi, lF_at hi, e i hi z]
    · rw [List.getElem?_eq_none (by rw [lF_len]; omega), List.getElem?_eq_none (by rw [lF_len]; omega)]
theorem lF_congr {n : Nat} {f g : Nat → V} (e : ∀ i, i < n → g i = f i) : lF n f = lF n g := by
  unfold lF; exact List.map_congr_left fun i hi => (e i (List.mem_range.mp hi)).symm
theorem atI_lF {n i : Nat} {f : Nat → V} (h : i < n) : atI (lF n f) (i : Int) = some (f i) := atI_nat (lF_at h)
theorem atI_last {n : Nat} {f : Nat → V} : atI (lF (n + 1) f) (-1) = some (f n) := by
  unfold atI ixN
  rw [if_neg (by decide), lF_len, if_pos (by omega)]
  show (lF (n + 1) f)[((-1 : Int) + ((n + 1 : Nat) : Int)).toNat]? = some (f n)
  rw [show ((-1 : Int) + ((n + 1 : Nat) : Int)).toNat = n from by omega]
  exact lF_at (Nat.lt_succ_self n)
theorem ixN_nat {n i : Nat} (h : i < n) : ixN n (i : Int) = some i := by
  unfold ixN
  rw [if_pos (by omega), if_pos (by omega)]
  simp
/-- a dict whose keys are (0, a), .., (0, b-1) -/
def kT (a b : Nat) : List (List Key × V) := (List.range' a (b - a)).map fun (i : Nat) => ([Sum.inl 0, Sum.inl (i : Int)], V.bl true)
theorem kT_len (a b : Nat) : (kT a b).length = b - a := by unfold kT; simp
theorem kT_none {a b : Nat} {i : Nat} (h : ¬ (a ≤ i ∧ i < b)) : valV (kT a b) ([Sum.inl 0, Sum.inl (i : Int)] : List Key) = none := by
  unfold valV kT
  have e : ((List.range' a (b - a)).map fun (i : Nat) => (([Sum.inl 0, Sum.inl (i : Int)] : List Key), V.bl true)).find? (fun kv => decide (kv.1 = ([Sum.inl 0, Sum.inl (i : Int)] : List Key))) = none := by
    refine List.find?_eq_none.mpr fun p hp => ?_
    obtain ⟨k, hk, rfl⟩ := List.mem_map.mp hp
    have hk := List.mem_range'_1.mp hk
    simp only [decide_eq_true_eq, List.cons.injEq, Sum.inl.injEq, true_and, and_true]
    omega
  rw [e]; rfl
theorem kT_put {a b : Nat} (h : a ≤ b) : putK (kT a b) ([Sum.inl 0, Sum.inl (b : Int)] : List Key) (V.bl true) = kT a (b + 1) := by
  rw [putK_new _ (by rw [kT_none (by omega)])]
  unfold kT
  rw [show b + 1 - a = (b - a) + 1 from by omega, List.range'_1_concat, List.map_append, show a + (b - a) = b from by omega]
  rfl
theorem dget_kF {H : Hp} {d : Addr} {a b i : Nat} {f : Nat → V} (e : H d = some (.dK (kF a b f))) (h1 : a ≤ i) (h2 : i < b) : DGet H d (.int i) (some (f i)) := by
  rw [← kF_val h1 h2]; exact DGet.k (k := Sum.inl (i : Int)) e
theorem dget_no {H : Hp} {d : Addr} {a b i : Nat} {f : Nat → V} (e : H d = some (.dK (kF a b f))) (h : ¬ (a ≤ i ∧ i < b)) : DGet H d (.int i) none := by
  rw [← kF_none (a := a) (b := b) (f := f) (i := (i : Int)) (by omega)]; exact DGet.k (k := Sum.inl (i : Int)) e
end Su

set_option Elab.async false
set_option linter.all false
set_option maxRecDepth 100000
set_option maxHeartbeats 2000000
/-! the reader's further defs -/
namespace Su
open PySem PySem.Spec PyProof.Rows L2
/-- the one pair (0, n) -/
def spRanges : Sp := fun vs H Q _ => ∃ (l : Addr) (n : Nat) (M : List Cell) (T : List As), vs = [.ref l] ∧ W H ((l, .lst (lF (n + 1) fun i => .int i)) :: M) T ∧ ∀ p r H', W H' M (tupA p [.ref r] :: tupA r [.int 0, .int n] :: T) → Q (.ref p) H'
section
variable {P : Program} {w : World} {K : PySem.W.Frag} {mg : Str → Option Value} {base : Heap}
theorem r_app {σ : L2.St} {H : Hp} {K : PySem.W.Frag} {l : Addr} {xs : List V} {y : V} {Q : VK} (h : H l = some (.lst xs)) (hz : xs.length < sizeLine) (q : Q .non (upd H l (.lst (xs ++ [y])))) : rAppend (.ref l) [y] H Q := ⟨l, xs, y, rfl, rfl, h, hz, q⟩
theorem ty_list {K : PySem.W.Frag} {H : Hp} {l : Addr} {xs : List V} (h : H l = some (.lst xs)) : tyV K "list" (.ref l) H := .inl ⟨rfl, _, SqL.of h⟩
theorem sc_as_ranges : FnScope ["numbers", "found", "number"] ["numbers"] (defScope s_as_ranges) := ⟨rfl, rfl, rfl, by decide +kernel, rfl, by decide +kernel, by decide +kernel⟩
theorem ok_as_ranges (T : Tp K mg base) : Def P w K mg base (.glo "as_ranges") ["numbers"] 1 spRanges := by
  refine def_mk T.f_as_ranges sc_as_ranges (fun vs H Q E h => ?_) (fun _ _ _ _ _ _ us hl => match us, hl with | [_], _ => rfl) (fun cdv A outer s H vs Q E hr h => ?_)
  · obtain ⟨l, n, M, T', rfl, _⟩ := h; rfl
  · obtain ⟨l, n, M, T', rfl, W0, k⟩ := h
    refine ⟨_, pss_cons (ps_set (i := 1) sc_as_ranges.nd rfl (.inl rfl) (pe_lst pa_nil))
      (pss_cons (ps_for PassesOwn.never rfl (pi_list (pv 0)) (pg_name (i := 2) sc_as_ranges.nd rfl (.inl rfl)) (pss_one (ps_if (pw_and (pt_truth (pv 1) (by intro _; rfl)) (pw_and1 (pt_cmpR op_eq (pe_ix ix_tup (pe_ix ix_list (pv 1) (pe_un un_neg pe_int) (fun _ _ => rfl)) pe_int (fun _ _ => rfl)) (pe_op op_sub (pv 2) pe_int) (nomark _)))).pt
        (pss_one (ps_asg (pe_tup (pa_cons (pe_ix ix_tup (pe_ix ix_list (pv 1) (pe_un un_neg pe_int) (fun _ _ => rfl)) pe_int (fun _ _ => rfl)) (pa_cons (pv 2) pa_nil))) (pg_sub (pv 1) (pe_un un_neg pe_int) set_list)))
        (pss_one (ps_expr (pe_bm PySem.F.plainAttrs_list PySem.F.slot_list_append PySem.F.type_list_append mt_append (pv 1) (pa_cons (pe_tup (pa_cons (pv 2) (pa_cons (pv 2) pa_nil))) pa_nil)))))))
      (pss_one (ps_ret (pe_callTy call_tuple_of rfl T.b_tuple (by decide +kernel) (pa_cons (pv 1) pa_nil))))), ?_⟩
    refine ⟨Nat.zero_le _, fun fo hfo => ?_⟩
    have w1 := W0.new hfo (.lst [])
    dsimp only
    refine q_seq ⟨_, rfl, l, rfl, ⟨_, SqL.of (w1.c l)⟩, ?_⟩
    refine for_list (xs := lF (n + 1) fun i => .int i) (fun i σ H => (i = 0 ∧ σ = [some (.ref l), some (.ref fo), none] ∧ W H ((fo, .lst []) :: (l, .lst (lF (n + 1) fun i => .int i)) :: M) T') ∨
      (∃ j r, i = j + 1 ∧ σ = [some (.ref l), some (.ref fo), some (.int j)] ∧ W H ((fo, .lst [.ref r]) :: (l, .lst (lF (n + 1) fun i => .int i)) :: M) (tupA r [.int 0, .int j] :: T'))) (.inl ⟨rfl, rfl, w1⟩) (fun i σ H hi h => ?_) (fun i x σ H hx h => ?_) (fun σ H h => ?_)
    · rcases h with ⟨_, _, w⟩ | ⟨_, _, _, _, w⟩
      · exact SqL.of (w.c l)
      · exact SqL.of (w.c l)
    · have hi : i < n + 1 := by
        have q := (List.getElem?_eq_some_iff.mp hx).1
        rw [lF_len] at q; exact q
      rw [lF_at hi] at hx
      cases hx
      rcases h with ⟨rfl, rfl, w⟩ | ⟨j, r, rfl, rfl, w⟩
      · dsimp only
        refine ⟨_, rfl, _, .inl ⟨_, SqL.of (w.c fo), rfl⟩, iteF (iteF ?_)⟩
        refine ⟨_, rfl, ty_list (w.c fo), _, rfl, _, rfl, two_le, fun r hr => ?_⟩
        have w2 := w.newT hr [.int 0, .int 0]
        refine ⟨fo, _, _, rfl, rfl, w2.c fo, by show 0 < sizeLine; decide, ?_⟩
        exact .inr ⟨0, r, rfl, rfl, w2.p fo _⟩
      · dsimp only
        refine ⟨_, rfl, _, .inl ⟨_, SqL.of (w.c fo), rfl⟩, iteT ?_⟩
        refine ⟨_, rfl, 1, rfl, _, _, _, _, rfl, rfl, SqL.of (w.c fo), rfl, _, _, _, _, rfl, rfl, SqT.of (w.f (tupA r [.int 0, .int j])), rfl, _, rfl, _, _, rfl, rfl, rfl, _, rfl, ?_⟩
        rw [show decide ((V.int (j : Int)) = V.int (((j + 1 : Nat) : Int) - 1)) = true from decide_eq_true (by congr 1; omega)]
        refine iteT ?_
        refine ⟨_, rfl, 1, rfl, _, _, _, _, rfl, rfl, SqL.of (w.c fo), rfl, _, _, _, _, rfl, rfl, SqT.of (w.f (tupA r [.int 0, .int j])), rfl, _, rfl, two_le, fun r2 hr2 => ?_⟩
        have w2 := w.newT hr2 [.int 0, .int ((j + 1 : Nat) : Int)]
        refine ⟨_, rfl, 1, rfl, _, _, _, 0, rfl, rfl, w2.c fo, rfl, ?_⟩
        exact .inr ⟨j + 1, r2, rfl, rfl, (w2.p fo (.lst [.ref r2])).e (tupA r2 _) (w2.p fo (.lst [.ref r2]) |>.f _)⟩
    · rcases h with ⟨h0, _, _⟩ | ⟨j, r, h0, rfl, w⟩
      · rw [lF_len] at h0; cases h0
      · rw [lF_len] at h0
        obtain rfl : n = j := by omega
        dsimp only
        refine ⟨_, rfl, fo, _, rfl, .inl ⟨SqL.of (w.c fo), fun p hp => ?_⟩⟩
        exact k p r _ (((w.newT hp [.ref r]).x fo).x l)
/-- what is read in a tick: nothing, or one letter -/
def spReadOn (K : PySem.W.Frag) : Sp := fun vs H Q _ => ∃ (x : RdA) (s : RdS) (st : Addr) (u : V) (M : List Cell) (T : List As), vs = [.ref x.r] ∧ W H (rdM K x s M) T ∧ (tupA x.pd [.ref st]).φ H ∧ (tupA st [u, .int 60, .int 0]).φ H ∧
  (s.kept = s.rd ∧ (∀ l H', W H' ((l, .lst []) :: rdM K x s M) T → Q (.ref l) H') ∨ s.kept = s.rd + 1 ∧ ∀ l p H', W H' ((l, .lst [.ref p]) :: rdM K x { s with rd := s.rd + 1 } M) (tupA p [.int 0, .int 1] :: T) → Q (.ref l) H')
theorem kR_in {n i : Nat} : (valV (kR n) (Sum.inl (i : Int) : Key)).isSome = decide (i < n) := by
  rw [kR_val]
  by_cases h : i < n
  · rw [if_pos ⟨by omega, by omega⟩, decide_eq_true h]; rfl
  · rw [if_neg (by omega), decide_eq_false h]; rfl
theorem sc_Reader_read_on : FnScope ["self", "found", "stream", "ticks", "credit", "pace", "many"] ["self"] (defScope s_Reader_read_on) := ⟨rfl, rfl, rfl, by decide +kernel, rfl, by decide +kernel, by decide +kernel⟩
theorem ok_Reader_read_on (T : Tp K mg base) : Def P w K mg base (.met "Reader" "read_on") ["self"] 1 (spReadOn K) := by
  refine def_mk T.f_Reader_read_on sc_Reader_read_on (fun vs H Q E h => ?_) (fun _ _ _ _ _ _ us hl => match us, hl with | [_], _ => rfl) (fun cdv A outer s H vs Q E hr h => ?_)
  · obtain ⟨x, z, st, u, M, T', rfl, _⟩ := h; rfl
  · obtain ⟨x, z, st, u, M, T', rfl, W0, hp, hst, k⟩ := h
    have hu := hu_of hr
    have nd := sc_Reader_read_on.nd
    refine ⟨_, pss_cons (ps_set (i := 1) nd rfl (.inl rfl) (pe_lst pa_nil))
      (pss_cons (ps_for PassesOwn.never rfl (pi_num rfl T.b_enumerate (pa_cons (pe_fld (pv 0) rfl) pa_nil)) (pg_tup (n := 2) rfl (pgs_cons (pg_name (i := 2) nd rfl (.inl rfl)) (pgs_cons (pg_tup (n := 3) rfl (pgs_cons (pg_name (i := 3) nd rfl (.inl rfl)) (pgs_cons (pg_name (i := 4) nd rfl (.inl rfl)) (pgs_cons (pg_name (i := 5) nd rfl (.inl rfl)) pgs_nil)))) pgs_nil)))
        (pss_cons (ps_set (i := 6) nd rfl (.inl rfl) pe_int)
        (pss_cons (ps_while PassesOwn.never (pw_and (pt_cmp (pc_din hu (pe_ix ix_list (pe_fld (pv 0) rfl) (pv 2) (fun _ _ => rfl)) (pe_ix ix_list (pe_fld (pv 0) rfl) (pv 2) (fun _ _ => rfl)))) (pw_and1 (pw_or (pt_cmpR op_eq (pv 5) pe_int (nomark _)) (pw_or1 pt_no)).pt)).pt
          (pss_cons (ps_augS (pe_fld (pv 0) rfl) (pv 2) pget_list pe_int ip_add set_list) (pss_one (ps_aug (i := 6) nd rfl (.inl rfl) pe_int ip_add))))
        (pss_one (ps_if (pt_truth (pv 6) (by intro _; rfl)) (pss_one (ps_expr (pe_bm PySem.F.plainAttrs_list PySem.F.slot_list_append PySem.F.type_list_append mt_append (pv 1) (pa_cons (pe_tup (pa_cons (pv 2) (pa_cons (pv 6) pa_nil))) pa_nil)))) pss_nil)))))
      (pss_one (ps_ret (pv 1)))), ?_⟩
    have w0 := (W0.say (tupA x.pd [.ref st]) hp).say (tupA st [u, .int 60, .int 0]) hst
    refine ⟨Nat.zero_le _, fun fo hfo => ?_⟩
    have w1 := w0.new hfo (.lst [])
    dsimp only
    refine q_seq (r_fld (k := 0) T.o_Reader rfl (w1.c x.r) rfl rfl ⟨x.pd, _, rfl, SqT.of (w1.f (tupA x.pd [.ref st])), ?_⟩)
    refine for_num1 (x := .ref st) (SqT.of (w1.f (tupA x.pd [.ref st]))) (fun σ H => σ[1]? = some (some (.ref fo)) ∧ (tupA x.pd [.ref st]).φ H ∧ (z.kept = z.rd ∧ W H ((fo, .lst []) :: rdM K x z M) T' ∨ z.kept = z.rd + 1 ∧ ∃ p, W H ((fo, .lst [.ref p]) :: rdM K x { z with rd := z.rd + 1 } M) (tupA p [.int 0, .int 1] :: T'))) (fun σ H h => SqT.of h.2.1) (fun tp htp => ?_) (fun σ H h => ?_)
    · have w2 := w1.newT htp [.int 0, .ref st]
      refine ⟨tp, [.int 0, .ref st], rfl, SqT.of (w2.f (tupA tp _)), rfl, _, _, rfl, _, _, rfl, st, [u, .int 60, .int 0], rfl, SqT.of (w2.f (tupA st _)), rfl, _, _, rfl, _, _, rfl, _, _, rfl, rfl, rfl, ?_⟩
      dsimp only
      refine q_seq ⟨fun m σ H => σ[0]? = some (some (.ref x.r)) ∧ σ[1]? = some (some (.ref fo)) ∧ σ[2]? = some (some (.int 0)) ∧ σ[5]? = some (some (.int 0)) ∧ σ.length = 7 ∧ (m = 1 ∧ σ[6]? = some (some (.int 0)) ∧ W H ((fo, .lst []) :: rdM K x z M) (tupA x.pd [.ref st] :: T') ∨ m = 0 ∧ z.kept = z.rd + 1 ∧ σ[6]? = some (some (.int 1)) ∧ W H ((fo, .lst []) :: rdM K x { z with rd := z.rd + 1 } M) (tupA x.pd [.ref st] :: T')), ⟨1, rfl, rfl, rfl, rfl, rfl, .inl ⟨rfl, rfl, w2.e (tupA x.pd [.ref st]) (w2.f _)⟩⟩, ?_⟩
      rintro m σ H ⟨s0, s1, s2, s5, sl, h⟩
      rcases h with ⟨rfl, s6, w⟩ | ⟨rfl, hk, s6, w⟩
      · refine r_fld (k := 4) T.o_Reader s0 (w.c x.r) rfl rfl ⟨_, s2, _, _, _, _, rfl, rfl, SqL.of (w.c x.lr), rfl, r_fld (k := 3) T.o_Reader s0 (w.c x.r) rfl rfl ⟨_, s2, _, _, _, _, rfl, rfl, SqL.of (w.c x.lk), rfl, x.d0, _, rfl, DGet.k (k := Sum.inl (z.rd : Int)) (w.c x.d0), _, rfl, ?_⟩⟩
        rw [kR_in]
        rcases k with ⟨hk, k⟩ | ⟨hk, k⟩
        · rw [decide_eq_false (by omega)]
          refine iteF (iteF ⟨_, s6, _, rfl, iteF ?_⟩)
          exact ⟨s1, w.f (tupA x.pd [.ref st]), .inl ⟨hk, w.e0⟩⟩
        · rw [decide_eq_true (by omega)]
          refine iteT ⟨_, s5, rfl, _, rfl, iteT (iteT ?_)⟩
          refine ⟨fun σ H => σ[0]? = some (some (.ref x.r)) ∧ σ[1]? = some (some (.ref fo)) ∧ σ[2]? = some (some (.int 0)) ∧ σ[5]? = some (some (.int 0)) ∧ σ.length = 7 ∧ σ[6]? = some (some (.int 1)) ∧ W H ((fo, .lst []) :: rdM K x { z with rd := z.rd + 1 } M) (tupA x.pd [.ref st] :: T'), fun σ' H' h => ⟨0, by decide, h.1, h.2.1, h.2.2.1, h.2.2.2.1, h.2.2.2.2.1, .inr ⟨rfl, hk, h.2.2.2.2.2⟩⟩, ?_⟩
          refine r_fld (k := 4) T.o_Reader s0 (w.c x.r) rfl rfl ⟨_, s2, _, _, _, _, rfl, rfl, SqL.of (w.c x.lr), rfl, _, _, rfl, rfl, _, _, _, 0, rfl, rfl, w.c x.lr, rfl, _, s6, _, _, rfl, rfl, ?_⟩
          refine ⟨?_, ?_, ?_, ?_, ?_, ?_, w.p x.lr (.lst [.int ((z.rd + 1 : Nat) : Int)])⟩
          · rw [List.getElem?_set_ne (by decide)]; exact s0
          · rw [List.getElem?_set_ne (by decide)]; exact s1
          · rw [List.getElem?_set_ne (by decide)]; exact s2
          · rw [List.getElem?_set_ne (by decide)]; exact s5
          · rw [List.length_set]; exact sl
          · rw [List.getElem?_set_self (by omega)]; rfl
      · refine r_fld (k := 4) T.o_Reader s0 (w.c x.r) rfl rfl ⟨_, s2, _, _, _, _, rfl, rfl, SqL.of (w.c x.lr), rfl, r_fld (k := 3) T.o_Reader s0 (w.c x.r) rfl rfl ⟨_, s2, _, _, _, _, rfl, rfl, SqL.of (w.c x.lk), rfl, x.d0, _, rfl, DGet.k (k := Sum.inl ((z.rd + 1 : Nat) : Int)) (w.c x.d0), _, rfl, ?_⟩⟩
        rw [kR_in, decide_eq_false (by show ¬ z.rd + 1 < z.kept; omega)]
        refine iteF (iteF ⟨_, s6, _, rfl, iteT ?_⟩)
        refine ⟨_, s1, ty_list (w.c fo), _, s2, _, s6, two_le, fun p hp => ?_⟩
        have w3 := w.newT hp [.int 0, .int 1]
        refine ⟨fo, _, _, rfl, rfl, w3.c fo, by show 0 < sizeLine; decide, ?_⟩
        exact ⟨s1, (w3.p fo (.lst [.ref p])).f (tupA x.pd [.ref st]), .inr ⟨hk, p, (w3.p fo (.lst [.ref p])).e (tupA p _) ((w3.p fo (.lst [.ref p])).f _)⟩⟩
    · obtain ⟨s1, _, h⟩ := h
      refine ⟨_, s1, ?_⟩
      rcases h with ⟨hk, w⟩ | ⟨hk, p, w⟩ <;> rcases k with ⟨hk2, k⟩ | ⟨hk2, k⟩
      · exact k fo _ w
      · omega
      · omega
      · exact k fo p _ w
end
end Su


set_option Elab.async false
set_option linter.all false
set_option maxRecDepth 100000
set_option maxHeartbeats 2000000
/-! the reader's acks -/
namespace Su
open PySem PySem.Spec PyProof.Rows L2
section
variable {P : Program} {w : World} {K : PySem.W.Frag} {mg : Str → Option Value} {base : Heap}
theorem def_mkC {wh : Hz.Wh} {ps : List Str} {k : Nat} {sp : Sp} {name qual : Str} {st : Stmt} {N : List Str} (F : ∃ fd, Fun K name qual st (wh.at_ K) fd) (S : FnScope N ps (defScope st)) (len : ∀ vs H Q E, sp vs H Q E → vs.length = ps.length)
    (b : ∀ (kV doc pm : Value) (an : Option Addr) (cdv ct : Value) (us : List Value), us.length = ps.length → bindArgs (PySem.W.fnOf name qual (defArgs st) (defBody st) (defScope st) .none kV doc pm an cdv ct) ⟨us, []⟩ = pure (ps.zip us))
    (body : ∀ (A : Around) (outer : List Env) (s : Shared) (H : Hp) (vs : List V) (Q : VK) (E : XK), Room k (A.deeper (envOfC qual (defScope st) s.heap.objs.size (wh.at_ K) (.ref (Hz.codeW K wh)))) → sp vs H Q E →
      ∃ t, PSs (cxOf CX0 P w K mg base N qual (defScope st) (wh.at_ K) (.ref (Hz.codeW K wh)) A outer s H E).nox (defBody st) t ∧ t { nx := fun _ H' => Q .non H', rt := Q } (start N vs) H) : Def P w K mg base wh ps (k + 1) sp := by
  obtain ⟨fd, F⟩ := F
  refine ⟨fd, F.kp, F.binds b, ?_⟩
  obtain ⟨oc, od, kV, doc, pm, an, cdv, ct, osl, rfl, lk, hcd⟩ := F.ex
  have e : cdv = .ref (Hz.codeW K wh) := by
    unfold Hz.codeW
    rw [lk]
    cases cdv with
    | ref c => rfl
    | _ => simp [PySem.W.codeIn] at hcd
  subst e
  refine fn_of lk hcd S len fun A outer s H vs Q E hr hsp => ?_
  obtain ⟨t, h, q⟩ := body A outer s H vs Q E hr hsp
  exact ⟨t, h.nox, q⟩
/-- an ack with number n, made when the packets up to n had come -/
def akA (a : Addr) (n : Nat) : As := ⟨fun H => ∃ rg r gr, H a = some (.tup [.int n, .ref rg, .ref gr, .int 0]) ∧ H rg = some (.tup [.ref r]) ∧ H r = some (.tup [.int 0, .int n]) ∧ H gr = some (.tup [.int (n + 1 + 60)]),
  fun _ _ k ⟨rg, r, gr, h1, h2, h3, h4⟩ => ⟨rg, r, gr, k.tu _ _ h1, k.tu _ _ h2, k.tu _ _ h3, k.tu _ _ h4⟩⟩
def spAck (K : PySem.W.Frag) : Sp := fun vs H Q _ => ∃ (x : RdA) (n : Nat) (now : Int) (st : Addr) (u : V) (M : List Cell) (T : List As), vs = [.ref x.r, .int now] ∧ W H (rdM K x (rdRd n now) M) T ∧ (tupA x.pd [.ref st]).φ H ∧ (tupA st [u, .int 60, .int 0]).φ H ∧ (tabA (Hz.tabW K (.met "Reader" "ack"))).φ H ∧ n < 60 ∧
  ∀ ak H', W H' (rdM K x (rdAt (n + 1) now) M) (akA ak n :: T) → Q (.ref ak) H'
theorem nofree3 {env : Env} {a b c : Str} : ∀ y ∈ [(a, NameKind.local), (b, NameKind.local), (c, NameKind.local)], y.2 = .free → env.kindOf y.1 = some .cell := by
  intro y hy e
  simp only [List.mem_cons, List.not_mem_nil, or_false] at hy
  rcases hy with rfl | rfl | rfl <;> cases e
theorem kR_keys (n : Nat) : (kR n).map (·.1) = ((List.range n).map fun (i : Nat) => (i : Int)).map Sum.inl := by
  unfold kR; rw [List.map_map, List.map_map]; rfl
theorem range_sorted (n : Nat) : ((List.range n).map fun (i : Nat) => (i : Int)).Pairwise (· ≤ ·) := by
  rw [List.pairwise_map]
  exact (List.pairwise_lt_range (n := n)).imp fun h => by omega
theorem sorted_unique {n : Nat} {ys : List Int} (h : ys.Perm ((List.range n).map fun (i : Nat) => (i : Int))) (hs : ys.Pairwise (· ≤ ·)) : ys = (List.range n).map fun (i : Nat) => (i : Int) :=
  h.eq_of_pairwise (fun a b _ _ h1 h2 => Int.le_antisymm h1 h2) hs (range_sorted n)
theorem sc_Reader_ack : FnScope ["self", "now", "late", "grants"] ["self", "now"] (defScope s_Reader_ack) := ⟨rfl, rfl, rfl, by decide +kernel, rfl, by decide +kernel, by decide +kernel⟩
theorem ok_Reader_ack (T : Tp K mg base) : Def P w K mg base (.met "Reader" "ack") ["self", "now"] 3 (spAck K) := by
  refine def_mkC T.f_Reader_ack sc_Reader_ack (fun vs H Q E h => ?_) (fun _ _ _ _ _ _ us hl => match us, hl with | [_, _], _ => rfl) (fun A outer s H vs Q E hr h => ?_)
  · obtain ⟨x, n, now, st, u, M, T', rfl, _⟩ := h; rfl
  · obtain ⟨x, n, now, st, u, M, T', rfl, W0, hp, hst, htb, hn, k⟩ := h
    have nd := sc_Reader_ack.nd
    refine ⟨_, pss_cons (ps_set (i := 2) nd rfl (.inl rfl) (pe_ifExp (pt_cmpR op_gt (pe_fld (pv 0) rfl) (pe_fld (pv 0) rfl) (nomark _)) (pe_op op_sub (pv 1) (pe_fld (pv 0) rfl)) pe_int))
      (pss_cons (ps_fld (pv 0) (pe_fld (pv 0) rfl) rfl)
      (pss_cons (ps_asg (pe_tup (pa_cons pe_non (pa_cons pe_bl pa_nil))) (pg_tup (n := 2) rfl (pgs_cons (pg_fld (pv 0)) (pgs_cons (pg_fld (pv 0)) pgs_nil))))
      (pss_cons (ps_fldaug (pv 0) pe_int in_add)
      (pss_cons (ps_set (i := 3) nd rfl (.inl rfl) (pe_tupG (x := "read") (y := "stream") hr rfl T.b_tuple (by decide +kernel) T.t_Reader_ack rfl ⟨rfl, rfl, by decide +kernel, rfl, rfl, nofree3⟩ rfl (by decide) rfl T.b_zip (pa_cons (pe_fld (pv 0) rfl) (pa_cons (pe_fld (pv 0) rfl) pa_nil))))
      (pss_one (ps_ret (pe_tup (pa_cons (pe_op op_sub (pe_fld (pv 0) rfl) pe_int) (pa_cons (pe_d (ok_as_ranges T) (hr.mono (by decide)) T.g_as_ranges (pa_cons (pe_callB (cr_sortD rfl) rfl T.b_sorted (by decide +kernel) (pa_cons (pe_fld (pv 0) rfl) pa_nil)) pa_nil)) (pa_cons (pv 3) (pa_cons (pv 2) pa_nil))))))))))), ?_⟩
    have w0 := ((W0.say (tupA x.pd [.ref st]) hp).say (tupA st [u, .int 60, .int 0]) hst).say (tabA _) htb
    -- late
    refine r_fld (k := 6) T.o_Reader rfl (w0.c x.r) rfl rfl (r_fld (k := 8) T.o_Reader rfl (w0.c x.r) rfl rfl ⟨_, _, rfl, rfl, _, rfl, ?_⟩)
    rw [show decide ((rdRd n now).told < (rdRd n now).g) = true from decide_eq_true (by show (n : Int) - 1 < n; omega)]
    refine iteT ⟨_, rfl, r_fld (k := 7) T.o_Reader rfl (w0.c x.r) rfl rfl ⟨_, _, rfl, rfl, ?_⟩⟩
    dsimp only
    -- told = greatest
    refine r_fld (k := 6) T.o_Reader rfl (w0.c x.r) rfl rfl ?_
    refine ⟨_, rfl, x.r, _, _, _, rfl, w0.c x.r, T.o_Reader.cl, T.o_Reader.na _ (List.mem_of_getElem? (i := 8) rfl), T.o_Reader.ln, ?_⟩
    rw [fl_put (k := 8) T.o_Reader.nd rfl (by simp)]
    have w1 := w0.s x.r 8 (.int (n : Int))
    -- first, at_once
    refine ⟨two_le, fun a na => ?_⟩
    have w2 := w1.newT na [.non, .bl false]
    refine ⟨a, [.non, .bl false], rfl, SqT.of (w2.f (tupA a _)), rfl, _, _, rfl, ?_⟩
    refine ⟨_, rfl, x.r, _, _, _, rfl, w2.c x.r, T.o_Reader.cl, T.o_Reader.na _ (List.mem_of_getElem? (i := 9) rfl), T.o_Reader.ln, ?_⟩
    rw [fl_put (k := 9) T.o_Reader.nd rfl (by simp)]
    have w3 := w2.s x.r 9 .non
    refine ⟨_, _, rfl, ?_⟩
    refine ⟨_, rfl, x.r, _, _, _, rfl, w3.c x.r, T.o_Reader.cl, T.o_Reader.na _ (List.mem_of_getElem? (i := 10) rfl), T.o_Reader.ln, ?_⟩
    rw [fl_put (k := 10) T.o_Reader.nd rfl (by simp)]
    refine ⟨rfl, ?_⟩
    have w4 := w3.s x.r 10 (.bl false)
    dsimp only
    -- acks += 1
    refine r_inc (k := 5) (j := 1) T.o_Reader rfl (w4.c x.r) rfl rfl ?_
    have w5 := w4.s x.r 5 (.int ((n : Int) + 1))
    dsimp only
    -- grants
    refine r_fld (k := 4) T.o_Reader rfl (w5.c x.r) rfl rfl (r_fld (k := 0) T.o_Reader rfl (w5.c x.r) rfl rfl ?_)
    refine ⟨x.lr, x.pd, [.int ((n + 1 : Nat) : Int)], [.ref st], fun _ => .int (n + 1 + 60), rfl, SqL.of (w5.c x.lr), SqT.of (w5.f (tupA x.pd [.ref st])), w5.f (tabA _), by show min 1 1 ≤ sizeLine; decide, fun H2 cenv t m u1 v1 u2 v2 i tb G hns hm1 hm2 hx1 hx2 ru1 ru2 => ?_, fun H2 gp tb hgp => ?_⟩
    · have w6 := w5.tab (w5.f (tabA _)) tb
      match i, hx1, hx2 with
      | 0, h1, h2 =>
        cases h1
        cases h2
        exact q_add (q_loc G rfl hns hm1 ru1) (q_tup G (q_loc G rfl hns hm2 ru2) q_int (w6.f (tupA st [u, .int 60, .int 0])) rfl)
    have w6 := w5.tab (w5.f (tabA _)) tb
    have w7 := w6.newT hgp [.int (n + 1 + 60)]
    dsimp only
    -- return
    refine r_fld (k := 5) T.o_Reader rfl (w7.c x.r) rfl rfl ⟨_, _, rfl, rfl, ?_⟩
    refine r_fld (k := 2) T.o_Reader rfl (w7.c x.r) rfl rfl ⟨x.dc, _, _, rfl, w7.c x.dc, kR_keys (n + 1), by simp; omega, fun ys l hpm hsr hl => ?_⟩
    rw [sorted_unique hpm hsr]
    have w8 := w7.new hl (.lst (((List.range (n + 1)).map fun (i : Nat) => (i : Int)).map V.int))
    have el : ((List.range (n + 1)).map fun (i : Nat) => (i : Int)).map V.int = lF (n + 1) fun i => .int i := by unfold lF; rw [List.map_map]; rfl
    rw [el] at w8 ⊢
    refine ⟨l, n, _, _, rfl, w8, fun rg r H3 w9 => ?_⟩
    refine ⟨_, rfl, _, rfl, (by show 4 ≤ sizeLine; decide), fun ak hak => ?_⟩
    have w10 := w9.newT hak [.int n, .ref rg, .ref gp, .int 0]
    have e1 : ((n : Int) + 1 - 1) = n := by omega
    have e2 : now - now = 0 := by omega
    show Q (.ref ak) (L2.upd H3 ak (.tup [.int ((n : Int) + 1 - 1), .ref rg, .ref gp, .int (now - now)]))
    rw [e1, e2]
    have e3 : (((n + 1 : Nat) : Int) - 1) = n := by omega
    refine k ak _ ?_
    have w11 := W.e (T := T') w10 (akA ak n) ⟨rg, r, gp, w10.f (tupA ak _), w10.f (tupA rg [.ref r]), w10.f (tupA r [.int 0, .int n]), w10.f (tupA gp [.int (n + 1 + 60)])⟩
    have e4 : rdM K x (rdAt (n + 1) now) M = rdM K x { rdRd n now with acks := n + 1, told := n, first := .non } M := by
      unfold rdM rdAt rdRd
      simp only [e3]
    rw [e4]
    exact w11
end
end Su


set_option Elab.async false
set_option linter.all false
set_option maxRecDepth 100000
set_option maxHeartbeats 2000000
/-! what is shown lost: nothing, in a calm run -/
namespace Su
open PySem PySem.Spec PyProof.Rows L2
abbrev shO (K : PySem.W.Frag) (dx : Addr) (now : Int) (rule : Str) (sent : Addr) (reach trip : Int) (bnd : V) (least gr : Int) : HO :=
  .ins (He.ga K "Shown") dx (fl nsShown [.int now, .str rule, .ref sent, .int reach, .int trip, .int 0, bnd, .int least, .int gr])
def spShInit (K : PySem.W.Frag) : Sp := fun vs H Q _ => ∃ (r dx sent road : Addr) (now a b c d : Int) (rule : Str) (M : List Cell) (T : List As), vs = [.ref r, .int now, .str rule, .ref sent, .ref road, .int 0] ∧ W H ((r, .ins (He.ga K "Shown") dx (fl nsShown [])) :: M) T ∧
  (tupA road [.int a, .int b, .int c, .int d]).φ H ∧ ∀ H', W H' ((r, shO K dx now rule sent b (b + d) .non 0 (-1)) :: M) T → Q .non H'
/-- no packet is shown lost -/
def NoLoss (now : Int) (reach trip : Int) (bnd : V) (sn : Int) : Prop := (bnd = .non ∨ ∃ b : Int, bnd = .int b ∧ b < sn + reach) ∧ now < sn + trip
def spNoLoss (K : PySem.W.Frag) : Sp := fun vs H Q _ => ∃ (r dx sent : Addr) (now reach trip least gr : Int) (rule : Str) (bnd : V) (S n : Nat) (s : Nat → Int), vs = [.ref r, .int n] ∧ H r = some (shO K dx now rule sent reach trip bnd least gr) ∧
  H sent = some (.lst (lF S fun i => .int (s i))) ∧ n < S ∧ NoLoss now reach trip bnd (s n) ∧ Q (.bl false) H
section
variable {P : Program} {w : World} {K : PySem.W.Frag} {mg : Str → Option Value} {base : Heap}
theorem sc_Shown_init : FnScope ["self", "now", "rule", "sent", "road", "wait"] ["self", "now", "rule", "sent", "road", "wait"] (defScope s_Shown_init) := ⟨rfl, rfl, rfl, by decide +kernel, rfl, by decide +kernel, by decide +kernel⟩
theorem ok_Shown_init (T : Tp K mg base) : Def P w K mg base (.met "Shown" "__init__") ["self", "now", "rule", "sent", "road", "wait"] 2 (spShInit K) := by
  refine def_mk T.f_Shown_init sc_Shown_init (fun vs H Q E h => ?_) (fun _ _ _ _ _ _ us hl => match us, hl with | [_, _, _, _, _, _], _ => rfl) (fun cdv A outer s H vs Q E hr h => ?_)
  · obtain ⟨r, dx, sent, road, now, a, b, c, d, rule, M, T', rfl, _⟩ := h; rfl
  · obtain ⟨r, dx, sent, road, now, a, b, c, d, rule, M, T', rfl, W0, hp, k⟩ := h
    refine ⟨_, pss_cons (ps_fld (pv 0) (pv 1) rfl) (pss_cons (ps_fld (pv 0) (pv 2) rfl) (pss_cons (ps_fld (pv 0) (pv 3) rfl) (pss_cons (ps_fld (pv 0) (pe_ix ix_tup (pv 4) pe_int (fun _ _ => rfl)) rfl)
      (pss_cons (ps_fld (pv 0) (pe_d (ok_most_trip T) hr T.g_most_trip (pa_cons (pv 4) pa_nil)) rfl) (pss_cons (ps_fld (pv 0) (pv 5) rfl) (pss_cons (ps_fld (pv 0) pe_non rfl) (pss_cons (ps_fld (pv 0) pe_int rfl) (pss_one (ps_fld (pv 0) (pe_un un_neg pe_int) rfl))))))))), ?_⟩
    have w0 := W0.say (tupA road [.int a, .int b, .int c, .int d]) hp
    refine ⟨_, rfl, ?_⟩
    refine ⟨_, rfl, r, _, _, _, rfl, w0.c r, T.o_Shown.cl, T.o_Shown.na _ (List.mem_of_getElem? (i := 0) rfl), T.o_Shown.ln, ?_⟩
    rw [fl_add T.o_Shown.nd rfl]
    have w1 := w0.n r (.int now)
    refine ⟨_, rfl, ?_⟩
    refine ⟨_, rfl, r, _, _, _, rfl, w1.c r, T.o_Shown.cl, T.o_Shown.na _ (List.mem_of_getElem? (i := 1) rfl), T.o_Shown.ln, ?_⟩
    rw [fl_add T.o_Shown.nd rfl]
    have w2 := w1.n r (.str rule)
    refine ⟨_, rfl, ?_⟩
    refine ⟨_, rfl, r, _, _, _, rfl, w2.c r, T.o_Shown.cl, T.o_Shown.na _ (List.mem_of_getElem? (i := 2) rfl), T.o_Shown.ln, ?_⟩
    rw [fl_add T.o_Shown.nd rfl]
    have w3 := w2.n r (.ref sent)
    refine r_ixT rfl (w3.f (tupA road [.int a, .int b, .int c, .int d])) rfl ?_
    refine ⟨_, rfl, r, _, _, _, rfl, w3.c r, T.o_Shown.cl, T.o_Shown.na _ (List.mem_of_getElem? (i := 3) rfl), T.o_Shown.ln, ?_⟩
    rw [fl_add T.o_Shown.nd rfl]
    have w4 := w3.n r (.int b)
    refine ⟨_, rfl, road, a, b, c, d, rfl, w4.f (tupA road [.int a, .int b, .int c, .int d]), ?_⟩
    refine ⟨_, rfl, r, _, _, _, rfl, w4.c r, T.o_Shown.cl, T.o_Shown.na _ (List.mem_of_getElem? (i := 4) rfl), T.o_Shown.ln, ?_⟩
    rw [fl_add T.o_Shown.nd rfl]
    have w5 := w4.n r (.int (b + d))
    refine ⟨_, rfl, ?_⟩
    refine ⟨_, rfl, r, _, _, _, rfl, w5.c r, T.o_Shown.cl, T.o_Shown.na _ (List.mem_of_getElem? (i := 5) rfl), T.o_Shown.ln, ?_⟩
    rw [fl_add T.o_Shown.nd rfl]
    have w6 := w5.n r (.int 0)
    refine ⟨_, rfl, r, _, _, _, rfl, w6.c r, T.o_Shown.cl, T.o_Shown.na _ (List.mem_of_getElem? (i := 6) rfl), T.o_Shown.ln, ?_⟩
    rw [fl_add T.o_Shown.nd rfl]
    have w7 := w6.n r .non
    refine ⟨_, rfl, r, _, _, _, rfl, w7.c r, T.o_Shown.cl, T.o_Shown.na _ (List.mem_of_getElem? (i := 7) rfl), T.o_Shown.ln, ?_⟩
    rw [fl_add T.o_Shown.nd rfl]
    have w8 := w7.n r (.int 0)
    refine ⟨_, rfl, ?_⟩
    refine ⟨_, rfl, r, _, _, _, rfl, w8.c r, T.o_Shown.cl, T.o_Shown.na _ (List.mem_of_getElem? (i := 8) rfl), T.o_Shown.ln, ?_⟩
    rw [fl_add T.o_Shown.nd rfl]
    have w9 := w8.n r (.int (-1))
    exact k _ w9.e0
theorem sc_Shown_is_bound : FnScope ["self", "number"] ["self", "number"] (defScope s_Shown_is_bound) := ⟨rfl, rfl, rfl, by decide +kernel, rfl, by decide +kernel, by decide +kernel⟩
theorem ok_Shown_is_bound (T : Tp K mg base) : Def P w K mg base (.met "Shown" "is_bound") ["self", "number"] 1 (spNoLoss K) := by
  refine def_mk T.f_Shown_is_bound sc_Shown_is_bound (fun vs H Q E h => ?_) (fun _ _ _ _ _ _ us hl => match us, hl with | [_, _], _ => rfl) (fun cdv A outer s H vs Q E hr h => ?_)
  · obtain ⟨r, dx, sent, now, reach, trip, least, gr, rule, bnd, S, n, s, rfl, _⟩ := h; rfl
  · obtain ⟨r, dx, sent, now, reach, trip, least, gr, rule, bnd, S, n, s, rfl, hr0, hs, hn, ⟨hb, ht⟩, k⟩ := h
    refine ⟨_, pss_one (ps_ret (pe_and (pe_cmpR op_notN (pe_fld (pv 0) rfl) pe_non (nomark _)) (pe_one (pe_cmpR op_ge (pe_fld (pv 0) rfl) (pe_op op_add (pe_ix ix_list (pe_fld (pv 0) rfl) (pv 1) (fun _ _ => rfl)) (pe_fld (pv 0) rfl)) (nomark _))))), ?_⟩
    refine r_fld (k := 6) T.o_Shown rfl hr0 rfl rfl ⟨rfl, _, rfl, ?_⟩
    rcases hb with rfl | ⟨b, rfl, hb⟩
    · exact iteF k
    · refine iteT ?_
      refine r_fld (k := 6) T.o_Shown rfl hr0 rfl rfl (r_fld (k := 2) T.o_Shown rfl hr0 rfl rfl ⟨_, rfl, _, _, _, _, rfl, rfl, SqL.of hs, atI_lF hn, r_fld (k := 3) T.o_Shown rfl hr0 rfl rfl ⟨_, _, rfl, rfl, _, _, rfl, rfl, ?_⟩⟩)
      show Q (.bl (decide (s n + reach ≤ b))) H
      rw [show decide (s n + reach ≤ b) = false from decide_eq_false (by omega)]
      exact k
theorem sc_Shown_is_silent : FnScope ["self", "number"] ["self", "number"] (defScope s_Shown_is_silent) := ⟨rfl, rfl, rfl, by decide +kernel, rfl, by decide +kernel, by decide +kernel⟩
theorem ok_Shown_is_silent (T : Tp K mg base) : Def P w K mg base (.met "Shown" "is_silent") ["self", "number"] 1 (spNoLoss K) := by
  refine def_mk T.f_Shown_is_silent sc_Shown_is_silent (fun vs H Q E h => ?_) (fun _ _ _ _ _ _ us hl => match us, hl with | [_, _], _ => rfl) (fun cdv A outer s H vs Q E hr h => ?_)
  · obtain ⟨r, dx, sent, now, reach, trip, least, gr, rule, bnd, S, n, s, rfl, _⟩ := h; rfl
  · obtain ⟨r, dx, sent, now, reach, trip, least, gr, rule, bnd, S, n, s, rfl, hr0, hs, hn, ⟨hb, ht⟩, k⟩ := h
    refine ⟨_, pss_cons (ps_if (pw_or (pt_cmpR op_ne (pe_fld (pv 0) rfl) pe_str (nomark _)) (pw_or1 (pt_cmpR op_lt (pe_fld (pv 0) rfl) (pe_op op_add (pe_ix ix_list (pe_fld (pv 0) rfl) (pv 1) (fun _ _ => rfl)) (pe_fld (pv 0) rfl)) (nomark _)))).pt (pss_one (ps_ret pe_bl)) pss_nil) pss_never, ?_⟩
    refine r_fld (k := 1) T.o_Shown rfl hr0 rfl rfl ⟨rfl, _, rfl, ?_⟩
    cases e : (!decide (V.str rule = V.str "proof")) with
    | true => exact iteT (iteT k)
    | false =>
      refine iteF ?_
      refine r_fld (k := 0) T.o_Shown rfl hr0 rfl rfl (r_fld (k := 2) T.o_Shown rfl hr0 rfl rfl ⟨_, rfl, _, _, _, _, rfl, rfl, SqL.of hs, atI_lF hn, r_fld (k := 4) T.o_Shown rfl hr0 rfl rfl ⟨_, _, rfl, rfl, _, _, rfl, rfl, _, rfl, ?_⟩⟩)
      rw [show decide (now < s n + trip) = true from decide_eq_true ht]
      exact iteT k
theorem sc_Shown_is_lost : FnScope ["self", "number"] ["self", "number"] (defScope s_Shown_is_lost) := ⟨rfl, rfl, rfl, by decide +kernel, rfl, by decide +kernel, by decide +kernel⟩
theorem ok_Shown_is_lost (T : Tp K mg base) : Def P w K mg base (.met "Shown" "is_lost") ["self", "number"] 2 (spNoLoss K) := by
  refine def_mk T.f_Shown_is_lost sc_Shown_is_lost (fun vs H Q E h => ?_) (fun _ _ _ _ _ _ us hl => match us, hl with | [_, _], _ => rfl) (fun cdv A outer s H vs Q E hr h => ?_)
  · obtain ⟨r, dx, sent, now, reach, trip, least, gr, rule, bnd, S, n, s, rfl, _⟩ := h; rfl
  · obtain ⟨r, dx, sent, now, reach, trip, least, gr, rule, bnd, S, n, s, rfl, hr0, hs, hn, hb, k⟩ := h
    refine ⟨_, pss_one (ps_ret (pe_or (pe_dm (ok_Shown_is_bound T) hr T.c_Shown T.m_Shown_is_bound (pv 0) (pa_cons (pv 1) pa_nil)) (pe_one (pe_dm (ok_Shown_is_silent T) hr T.c_Shown T.m_Shown_is_silent (pv 0) (pa_cons (pv 1) pa_nil))))), ?_⟩
    refine ⟨_, rfl, r, dx, _, rfl, hr0, fl_no (by decide +kernel), _, rfl, r, dx, sent, now, reach, trip, least, gr, rule, bnd, S, n, s, rfl, hr0, hs, hn, hb, _, rfl, iteF ?_⟩
    exact ⟨_, rfl, r, dx, _, rfl, hr0, fl_no (by decide +kernel), _, rfl, r, dx, sent, now, reach, trip, least, gr, rule, bnd, S, n, s, rfl, hr0, hs, hn, hb, k⟩
end
end Su


set_option Elab.async false
set_option linter.all false
set_option maxRecDepth 100000
set_option maxHeartbeats 2000000
/-! what the acks prove, kept along a run -/
namespace Su
open PySem PySem.Spec PyProof.Rows L2
/-- a calm run in numbers: what is sent when (s), when it leaves the queue (lv) -/
structure Cf where
  lo : Int
  rate : Int
  room : Int
  gap : Int
  most : Int
  grain : Int
  first : Int
  rule : Str
  short : Nat
  s : Nat → Int
  lv : Nat → Int
/-- when it comes, when that is heard -/
abbrev Cf.a (c : Cf) (n : Nat) : Int := c.lo + c.lv n
abbrev Cf.h (c : Cf) (n : Nat) : Int := c.lo + c.lv n + c.lo
abbrev Cf.hi (c : Cf) : Int := c.lo + c.rate * c.room
abbrev Cf.rv (c : Cf) : List V := [.int (c.lo + c.rate), .int c.hi, .int c.lo, .int c.lo]
structure PvA where
  p : Addr
  dx : Addr
  road : Addr
  tk : Addr
  tl : Addr
def bestV (c : Cf) : Nat → V
  | 0 => .non
  | g + 1 => .int (c.a g - g)
abbrev pvM (K : PySem.W.Frag) (c : Cf) (x : PvA) (G : Nat) (M : List Cell) : List Cell :=
  (x.p, .ins (He.ga K "Proving") x.dx (fl nsProving [.ref x.road, .ref x.tk, .ref x.tl, .int ((G : Int) - 1), bestV c G, .int G, .int ((G : Int) - 1)])) :: (x.tk, .dK (kF 0 G fun i => .int (c.h i))) :: (x.tl, .dK (kF 0 G fun i => .int i)) :: M
def spPvInit (K : PySem.W.Frag) : Sp := fun vs H Q _ => ∃ (c : Cf) (r dx road : Addr) (M : List Cell) (T : List As), vs = [.ref r, .ref road] ∧ W H ((r, .ins (He.ga K "Proving") dx (fl nsProving [])) :: M) T ∧ ∀ H' tk tl, W H' (pvM K c ⟨r, dx, road, tk, tl⟩ 0 M) T → Q .non H'
/-- the next ack is heard, at its tick -/
structure Heard (c : Cf) (G : Nat) : Prop where
  up : c.s G + (c.lo + c.rate) ≤ c.a G
  mono : ∀ g, G = g + 1 → c.a g + 1 ≤ c.a G
def spPvHear (K : PySem.W.Frag) : Sp := fun vs H Q _ => ∃ (c : Cf) (x : PvA) (G S : Nat) (ak sent : Addr) (M : List Cell) (T : List As), vs = [.ref x.p, .int (c.h G), .ref ak, .ref sent] ∧ W H (pvM K c x G M) T ∧ (tupA x.road c.rv).φ H ∧ (akA ak G).φ H ∧
  At sent M (.lst (lF S fun i => .int (c.s i))) ∧ G < S ∧ S < 1000 ∧ Heard c G ∧ ∀ H', W H' (pvM K c x (G + 1) M) T → Q .non H'
section
variable {P : Program} {w : World} {K : PySem.W.Frag} {mg : Str → Option Value} {base : Heap}
theorem ite_pick {c : Bool} {A B Z : Prop} (hA : c = true → Z → A) (hB : c = false → Z → B) (z : Z) : if c = true then A else B := by
  cases c with
  | true => exact iteT (hA rfl z)
  | false => exact iteF (hB rfl z)
theorem sc_Proving_init : FnScope ["self", "road"] ["self", "road"] (defScope s_Proving_init) := ⟨rfl, rfl, rfl, by decide +kernel, rfl, by decide +kernel, by decide +kernel⟩
theorem ok_Proving_init (T : Tp K mg base) : Def P w K mg base (.met "Proving" "__init__") ["self", "road"] 1 (spPvInit K) := by
  refine def_mk T.f_Proving_init sc_Proving_init (fun vs H Q E h => ?_) (fun _ _ _ _ _ _ us hl => match us, hl with | [_, _], _ => rfl) (fun cdv A outer s H vs Q E hr h => ?_)
  · obtain ⟨c, r, dx, road, M, T', rfl, _⟩ := h; rfl
  · obtain ⟨c, r, dx, road, M, T', rfl, w0, k⟩ := h
    refine ⟨_, pss_cons (ps_fld (pv 0) (pv 1) rfl) (pss_cons (ps_fld (pv 0) pe_dnewK rfl) (pss_cons (ps_fld (pv 0) pe_dnewK rfl) (pss_cons (ps_fld (pv 0) (pe_un un_neg pe_int) rfl) (pss_cons (ps_fld (pv 0) pe_non rfl) (pss_cons (ps_fld (pv 0) pe_int rfl) (pss_one (ps_fld (pv 0) (pe_un un_neg pe_int) rfl))))))), ?_⟩
    refine ⟨_, rfl, ?_⟩
    refine ⟨_, rfl, r, _, _, _, rfl, w0.c r, T.o_Proving.cl, T.o_Proving.na _ (List.mem_of_getElem? (i := 0) rfl), T.o_Proving.ln, ?_⟩
    rw [fl_add T.o_Proving.nd rfl]
    have w1 := w0.n r (.ref road)
    refine fun tk htk => ?_
    have w2 := w1.new htk (.dK [])
    refine ⟨_, rfl, r, _, _, _, rfl, w2.c r, T.o_Proving.cl, T.o_Proving.na _ (List.mem_of_getElem? (i := 1) rfl), T.o_Proving.ln, ?_⟩
    rw [fl_add T.o_Proving.nd rfl]
    have w3 := w2.n r (.ref tk)
    refine fun tl htl => ?_
    have w4 := w3.new htl (.dK [])
    refine ⟨_, rfl, r, _, _, _, rfl, w4.c r, T.o_Proving.cl, T.o_Proving.na _ (List.mem_of_getElem? (i := 2) rfl), T.o_Proving.ln, ?_⟩
    rw [fl_add T.o_Proving.nd rfl]
    have w5 := w4.n r (.ref tl)
    refine ⟨_, rfl, ?_⟩
    refine ⟨_, rfl, r, _, _, _, rfl, w5.c r, T.o_Proving.cl, T.o_Proving.na _ (List.mem_of_getElem? (i := 3) rfl), T.o_Proving.ln, ?_⟩
    rw [fl_add T.o_Proving.nd rfl]
    have w6 := w5.n r (.int (-1))
    refine ⟨_, rfl, r, _, _, _, rfl, w6.c r, T.o_Proving.cl, T.o_Proving.na _ (List.mem_of_getElem? (i := 4) rfl), T.o_Proving.ln, ?_⟩
    rw [fl_add T.o_Proving.nd rfl]
    have w7 := w6.n r .non
    refine ⟨_, rfl, r, _, _, _, rfl, w7.c r, T.o_Proving.cl, T.o_Proving.na _ (List.mem_of_getElem? (i := 5) rfl), T.o_Proving.ln, ?_⟩
    rw [fl_add T.o_Proving.nd rfl]
    have w8 := w7.n r (.int 0)
    refine ⟨_, rfl, ?_⟩
    refine ⟨_, rfl, r, _, _, _, rfl, w8.c r, T.o_Proving.cl, T.o_Proving.na _ (List.mem_of_getElem? (i := 6) rfl), T.o_Proving.ln, ?_⟩
    rw [fl_add T.o_Proving.nd rfl]
    have w9 := w8.n r (.int (-1))
    exact k _ tk tl (w9.k [r, tk, tl])
theorem sc_Proving_hear : FnScope ["self", "now", "ack", "sent", "number", "ranges", "grants", "late", "lo", "told", "low", "high", "packet"] ["self", "now", "ack", "sent"] (defScope s_Proving_hear) := ⟨rfl, rfl, rfl, by decide +kernel, rfl, by decide +kernel, by decide +kernel⟩
theorem ok_Proving_hear (T : Tp K mg base) : Def P w K mg base (.met "Proving" "hear") ["self", "now", "ack", "sent"] 1 (spPvHear K) := by
  refine def_mk T.f_Proving_hear sc_Proving_hear (fun vs H Q E h => ?_) (fun _ _ _ _ _ _ us hl => match us, hl with | [_, _, _, _], _ => rfl) (fun cdv A outer s H vs Q E hr h => ?_)
  · obtain ⟨c, x, G, S, ak, sent, M, T', rfl, _⟩ := h; rfl
  · obtain ⟨c, x, G, S, ak, sent, M, T', rfl, W0, hrd, hak, hsent, hGS, hS, hH, k⟩ := h
    have nd := sc_Proving_hear.nd
    have hu := hu_of hr
    refine ⟨_, pss_cons (ps_asg (pv 2) (pg_tup (n := 4) rfl (pgs_cons (pg_name (i := 4) nd rfl (.inl rfl)) (pgs_cons (pg_name (i := 5) nd rfl (.inl rfl)) (pgs_cons (pg_name (i := 6) nd rfl (.inl rfl)) (pgs_cons (pg_name (i := 7) nd rfl (.inl rfl)) pgs_nil))))))
      (pss_cons (ps_set (i := 8) nd rfl (.inl rfl) (pe_ix ix_tup (pe_fld (pv 0) rfl) pe_int (fun _ _ => rfl)))
      (pss_cons (ps_dput hu (pe_fld (pv 0) rfl) (pv 4) (pv 1) rfl)
      (pss_cons (ps_fld (pv 0) (pe_callB (call_max2 rfl) rfl T.b_max (by decide +kernel) (pa_cons (pe_fld (pv 0) rfl) (pa_cons (pv 4) pa_nil))) rfl)
      (pss_cons (ps_set (i := 9) nd rfl (.inl rfl) (pe_op op_sub (pe_op op_sub (pv 1) (pe_ix ix_tup (pe_fld (pv 0) rfl) pe_int (fun _ _ => rfl))) (pv 4)))
      (pss_cons (ps_if (pt_truth (pv 7) (by intro _; rfl)) pss_never pss_nil)
      (pss_cons (ps_for PassesOwn.never rfl (pi_tup (pv 5)) (pg_tup (n := 2) rfl (pgs_cons (pg_name (i := 10) nd rfl (.inl rfl)) (pgs_cons (pg_name (i := 11) nd rfl (.inl rfl)) pgs_nil)))
        (pss_one (ps_for PassesOwn.never rfl (pi_range2 rfl T.b_range (pa_cons (pv 10) (pa_cons (pe_op op_add (pv 11) pe_int) pa_nil))) (pg_name (i := 12) nd rfl (.inl rfl))
          (pss_one (ps_if (pw_or (pt_cmp (pc_dnotin hu (pv 12) (pe_fld (pv 0) rfl))) (pw_or1 (pt_cmpR op_lt (pv 4) (pe_dget hu (pe_fld (pv 0) rfl) (pv 12) (fun _ _ => rfl)) (nomark _)))).pt
            (pss_cons (ps_dput hu (pe_fld (pv 0) rfl) (pv 12) (pv 4) rfl) (pss_one (ps_set (i := 9) nd rfl (.inl rfl) (pe_callB (call_max2 rfl) rfl T.b_max (by decide +kernel) (pa_cons (pv 9) (pa_cons (pe_op op_sub (pe_op op_add (pe_ix ix_list (pv 3) (pv 12) (fun _ _ => rfl)) (pv 8)) (pv 4)) pa_nil)))))) pss_nil)))))
      (pss_cons (ps_fld (pv 0) (pe_ifExp (pt_cmpR op_isN (pe_fld (pv 0) rfl) pe_non (nomark _)) (pv 9) (pe_callB (call_max2 rfl) rfl T.b_max (by decide +kernel) (pa_cons (pe_fld (pv 0) rfl) (pa_cons (pv 9) pa_nil)))) rfl)
      (pss_cons (ps_fld (pv 0) (pe_callB (call_max2 rfl) rfl T.b_max (by decide +kernel) (pa_cons (pe_fld (pv 0) rfl) (pa_cons (pe_ix ix_tup (pe_ix ix_tup (pv 5) (pe_un un_neg pe_int) (fun _ _ => rfl)) pe_int (fun _ _ => rfl)) pa_nil))) rfl)
      (pss_one (ps_while PassesOwn.never (pt_cmp (pc_din hu (pe_fld (pv 0) rfl) (pe_fld (pv 0) rfl))) (pss_one (ps_fldaug (pv 0) pe_int in_add)))))))))))), ?_⟩
    obtain ⟨rg, r, gr, h1, h2, h3, h4⟩ := hak
    haveI := hsent
    have w0 := (((W0.say (tupA x.road c.rv) hrd).say (tupA ak _) h1).say (tupA rg _) h2).say (tupA r _) h3
    have eg : ((G : Int) > (G : Int) - 1) := by omega
    have etv : c.h G - c.lo - (G : Int) = c.a G - G := by show c.lo + c.lv G + c.lo - c.lo - (G : Int) = c.lo + c.lv G - G; omega
    -- the ack's parts
    refine ⟨_, rfl, ak, [.int G, .ref rg, .ref gr, .int 0], rfl, SqT.of (w0.f (tupA ak [.int G, .ref rg, .ref gr, .int 0])), rfl, _, _, rfl, _, _, rfl, _, _, rfl, _, _, rfl, rfl, ?_⟩
    dsimp only
    -- lo
    refine r_fld (k := 0) T.o_Proving rfl (w0.c x.p) rfl rfl ⟨_, _, _, _, rfl, rfl, SqT.of (w0.f (tupA x.road c.rv)), rfl, ?_⟩
    dsimp only
    -- ticks
    refine ⟨_, rfl, r_fld (k := 1) T.o_Proving rfl (w0.c x.p) rfl rfl ⟨_, rfl, x.tk, _, rfl, DPut.k (k := Sum.inl (G : Int)) (w0.c x.tk) (small1000 (by rw [kF_len]; omega)), ?_⟩⟩
    have e1 : putK (kF 0 G fun i => .int (c.h i)) (Sum.inl (G : Int) : Key) (.int (c.h G)) = kF 0 (G + 1) fun i => .int (c.h i) := kF_put (Nat.zero_le G) fun _ _ _ => rfl
    rw [e1]
    have w1 := w0.p x.tk (.dK (kF 0 (G + 1) fun i => .int (c.h i)))
    -- greatest
    refine r_fld (k := 3) T.o_Proving rfl (w1.c x.p) rfl rfl ⟨_, rfl, _, _, rfl, ?_⟩
    rw [if_pos eg]
    refine ⟨_, rfl, x.p, _, _, _, rfl, w1.c x.p, T.o_Proving.cl, T.o_Proving.na _ (List.mem_of_getElem? (i := 3) rfl), T.o_Proving.ln, ?_⟩
    rw [fl_put (k := 3) T.o_Proving.nd rfl (by simp)]
    have w2 := w1.s x.p 3 (.int (G : Int))
    -- told
    refine ⟨_, rfl, r_fld (k := 0) T.o_Proving rfl (w2.c x.p) rfl rfl ⟨_, _, _, _, rfl, rfl, SqT.of (w2.f (tupA x.road c.rv)), rfl, _, _, rfl, rfl, _, rfl, _, _, rfl, rfl, ?_⟩⟩
    dsimp only
    rw [etv]
    refine ⟨_, rfl, _, rfl, iteF ?_⟩
    -- the loops
    have tell : ∀ (i : Nat), i < G → (decide ((G : Int) < (i : Int))) = false := fun i hi => decide_eq_false (by omega)
    have hup := hH.up
    refine q_seq ⟨_, rfl, rg, rfl, ⟨_, SqT.of (w2.f (tupA rg [.ref r]))⟩, ?_⟩
    let σ0 : Option V → Option V → Option V → L2.St := fun a b d => [some (.ref x.p), some (.int (c.h G)), some (.ref ak), some (.ref sent), some (.int G), some (.ref rg), some (.ref gr), some (.int 0), some (.int (c.lo + c.rate)), some (.int (c.a G - G)), a, b, d]
    let MA : Nat → List Cell := fun g => (x.p, .ins (He.ga K "Proving") x.dx (fl nsProving [.ref x.road, .ref x.tk, .ref x.tl, .int G, bestV c G, .int G, .int ((G : Int) - 1)])) :: (x.tk, .dK (kF 0 (G + 1) fun i => .int (c.h i))) :: (x.tl, .dK (kF 0 g fun i => .int i)) :: M
    let TT : List As := tupA r [.int 0, .int G] :: tupA rg [.ref r] :: tupA ak [.int G, .ref rg, .ref gr, .int 0] :: tupA x.road c.rv :: T'
    have w2' : W _ (MA G) TT := w2
    refine for_tup (xs := [.ref r]) (fun i σ H => i = 0 ∧ σ = σ0 none none none ∧ W H (MA G) TT ∨ i = 1 ∧ ∃ a b d, σ = σ0 a b d ∧ W H (MA (G + 1)) TT) (.inl ⟨rfl, rfl, w2'⟩) (fun i σ H hi h => ?_) (fun i y σ H hy h => ?_) (fun σ H h => ?_)
    · rcases h with ⟨_, _, w⟩ | ⟨_, _, _, _, _, w⟩
      · exact SqT.of (w.f (tupA rg [.ref r]))
      · exact SqT.of (w.f (tupA rg [.ref r]))
    · rcases h with ⟨rfl, rfl, w⟩ | ⟨rfl, _⟩
      · cases hy
        refine ⟨r, [.int 0, .int G], rfl, SqT.of (w.f (tupA r [.int 0, .int G])), rfl, _, _, rfl, _, _, rfl, rfl, ?_⟩
        refine ⟨_, rfl, _, rfl, _, _, rfl, rfl, 0, _, rfl, ⟨by decide, by decide, by omega, by omega⟩, ?_⟩
        rw [show ((G : Int) + 1 - 0).toNat = G + 1 from by omega]
        refine for_range (lo := 0) (n := G + 1) (fun j σ H => ∃ d, σ = σ0 (some (.int 0)) (some (.int G)) d ∧ (j ≤ G ∧ W H (MA G) TT ∨ j = G + 1 ∧ W H (MA (G + 1)) TT)) ⟨_, rfl, .inl ⟨Nat.zero_le _, w⟩⟩ (fun j σ H hj h => ?_) (fun σ H h => ?_)
        · obtain ⟨d, rfl, h⟩ := h
          rcases h with ⟨hjG, w⟩ | ⟨h, _⟩
          · rw [show (0 : Int) + (j : Int) = j from Int.zero_add _]
            by_cases hlt : j < G
            · refine ⟨_, rfl, r_fld (k := 2) T.o_Proving rfl (w.c x.p) rfl rfl ⟨x.tl, _, rfl, dget_kF (w.c x.tl) (Nat.zero_le _) hlt, _, rfl, iteF ?_⟩⟩
              refine ⟨_, rfl, r_fld (k := 2) T.o_Proving rfl (w.c x.p) rfl rfl ⟨_, rfl, x.tl, _, rfl, dget_kF (w.c x.tl) (Nat.zero_le _) hlt, _, _, rfl, rfl, _, rfl, ?_⟩⟩
              rw [tell j hlt]
              refine iteF ?_
              exact ⟨_, rfl, .inl ⟨hlt, w⟩⟩
            · obtain rfl : j = G := by omega
              refine ⟨_, rfl, r_fld (k := 2) T.o_Proving rfl (w.c x.p) rfl rfl ⟨x.tl, _, rfl, dget_no (w.c x.tl) (by omega), _, rfl, iteT (iteT ?_)⟩⟩
              refine ⟨_, rfl, r_fld (k := 2) T.o_Proving rfl (w.c x.p) rfl rfl ⟨_, rfl, x.tl, _, rfl, DPut.k (k := Sum.inl (j : Int)) (w.c x.tl) (small1000 (by rw [kF_len]; omega)), ?_⟩⟩
              have e1 : putK (kF 0 j fun i => .int i) (Sum.inl (j : Int) : Key) (.int j) = kF 0 (j + 1) fun i => .int i := kF_put (Nat.zero_le j) fun _ _ _ => rfl
              rw [e1]
              have w3 : W _ (MA (j + 1)) TT := w.p x.tl (.dK (kF 0 (j + 1) fun i => .int i))
              refine ⟨_, rfl, _, rfl, _, rfl, _, _, _, _, rfl, rfl, SqL.of (w3.c sent), atI_lF hGS, _, rfl, _, _, rfl, rfl, _, rfl, _, _, rfl, rfl, _, _, rfl, ?_⟩
              refine ⟨some (.int j), ?_, .inr ⟨rfl, w3⟩⟩
              show [_, _, _, _, _, _, _, _, _, some (V.int (if c.s j + (c.lo + c.rate) - (j : Int) > c.a j - (j : Int) then c.s j + (c.lo + c.rate) - (j : Int) else c.a j - (j : Int))), _, _, _] = _
              rw [if_neg (by omega)]
          · omega
        · obtain ⟨d, rfl, h⟩ := h
          rcases h with ⟨h, _⟩ | ⟨_, w⟩
          · omega
          · exact .inr ⟨rfl, _, _, _, rfl, w⟩
      · cases hy
    · rcases h with ⟨h0, _⟩ | ⟨_, a', b', d', rfl, w⟩
      · cases h0
      · -- best
        refine r_fld (k := 4) T.o_Proving rfl (w.c x.p) rfl rfl ⟨rfl, _, rfl, ?_⟩
        refine ite_pick (fun _ z => ⟨_, rfl, z⟩) (fun hc z => ?_) ?_
        · have hg : ∃ g, G = g + 1 ∧ bestV c G = .int (c.a g - g) := by
            match G, hc with
            | 0, hc => cases hc
            | g + 1, _ => exact ⟨g, rfl, rfl⟩
          obtain ⟨g, hg, ebv⟩ := hg
          have hm := hH.mono g hg
          refine r_fld (k := 4) T.o_Proving rfl (w.c x.p) rfl (by show some (bestV c G) = some (V.int (c.a g - g)); rw [ebv]) ⟨_, rfl, _, _, rfl, ?_⟩
          rw [show (if c.a G - (G : Int) > c.a g - (g : Int) then c.a G - (G : Int) else c.a g - (g : Int)) = c.a G - (G : Int) from by split <;> omega]
          exact z
        refine ⟨_, rfl, x.p, _, _, _, rfl, w.c x.p, T.o_Proving.cl, T.o_Proving.na _ (List.mem_of_getElem? (i := 4) rfl), T.o_Proving.ln, ?_⟩
        rw [fl_put (k := 4) T.o_Proving.nd rfl (by simp)]
        have w3 := w.s x.p 4 (.int (c.a G - G))
        -- most
        refine r_fld (k := 6) T.o_Proving rfl (w3.c x.p) rfl rfl ⟨_, rfl, 1, rfl, _, _, _, _, rfl, rfl, SqT.of (w3.f (tupA rg [.ref r])), rfl, _, _, _, _, rfl, rfl, SqT.of (w3.f (tupA r [.int 0, .int G])), rfl, _, _, rfl, ?_⟩
        rw [if_pos eg]
        refine ⟨_, rfl, x.p, _, _, _, rfl, w3.c x.p, T.o_Proving.cl, T.o_Proving.na _ (List.mem_of_getElem? (i := 6) rfl), T.o_Proving.ln, ?_⟩
        rw [fl_put (k := 6) T.o_Proving.nd rfl (by simp)]
        have w4 := w3.s x.p 6 (.int (G : Int))
        -- least
        let MB : Nat → List Cell := fun l => (x.p, .ins (He.ga K "Proving") x.dx (fl nsProving [.ref x.road, .ref x.tk, .ref x.tl, .int G, .int (c.a G - G), .int l, .int G])) :: (x.tk, .dK (kF 0 (G + 1) fun i => .int (c.h i))) :: (x.tl, .dK (kF 0 (G + 1) fun i => .int i)) :: M
        have w5 : W _ (MB G) TT := w4
        refine ⟨fun m σ H => σ = σ0 a' b' d' ∧ (m = 1 ∧ W H (MB G) TT ∨ m = 0 ∧ W H (MB (G + 1)) TT), ⟨1, rfl, .inl ⟨rfl, w5⟩⟩, ?_⟩
        rintro m σ H ⟨rfl, ⟨rfl, w⟩ | ⟨rfl, w⟩⟩
        · refine r_fld (k := 5) T.o_Proving rfl (w.c x.p) rfl rfl (r_fld (k := 2) T.o_Proving rfl (w.c x.p) rfl rfl ⟨x.tl, _, rfl, dget_kF (w.c x.tl) (Nat.zero_le _) (Nat.lt_succ_self G), _, rfl, iteT ?_⟩)
          refine ⟨fun σ H => σ = σ0 a' b' d' ∧ W H (MB (G + 1)) TT, fun σ H h => ⟨0, by decide, h.1, .inr ⟨rfl, h.2⟩⟩, ?_⟩
          refine r_inc (k := 5) (j := 1) T.o_Proving rfl (w.c x.p) rfl rfl ?_
          exact ⟨rfl, w.s x.p 5 (.int ((G + 1 : Nat) : Int))⟩
        · refine r_fld (k := 5) T.o_Proving rfl (w.c x.p) rfl rfl (r_fld (k := 2) T.o_Proving rfl (w.c x.p) rfl rfl ⟨x.tl, _, rfl, dget_no (i := G + 1) (w.c x.tl) (by omega), _, rfl, iteF ?_⟩)
          refine k _ ?_
          have e5 : pvM K c x (G + 1) M = MB (G + 1) := by
            show (x.p, HO.ins (He.ga K "Proving") x.dx (fl nsProving [.ref x.road, .ref x.tk, .ref x.tl, .int (((G + 1 : Nat) : Int) - 1), .int (c.a G - G), .int ((G + 1 : Nat) : Int), .int (((G + 1 : Nat) : Int) - 1)])) :: _ = _
            rw [show (((G + 1 : Nat) : Int) - 1) = (G : Int) from by omega]
          rw [e5]
          exact W.e0 (T := T') w
end
end Su


set_option Elab.async false
set_option linter.all false
set_option maxRecDepth 100000
set_option maxHeartbeats 2000000
/-! what is shown at a tick -/
namespace Su
open PySem PySem.Spec PyProof.Rows L2
def bndV (c : Cf) : Nat → V
  | 0 => .non
  | g + 1 => .int (c.a g)
def Sml (i : Int) : Prop := -1048576 < i ∧ i < 1048576
structure Now (c : Cf) (G : Nat) (now : Int) : Prop where
  n : Sml now
  lo : Sml c.lo
  g : G < 1000
  h : ∀ g, G = g + 1 → c.h g ≤ now ∧ Sml (c.h g)
def spUnheard (K : PySem.W.Frag) : Sp := fun vs H Q _ => ∃ (c : Cf) (x : PvA) (g : Nat) (now : Int) (M : List Cell) (T : List As), vs = [.ref x.p, .int now] ∧ W H (pvM K c x (g + 1) M) T ∧ (tupA x.road c.rv).φ H ∧ Now c (g + 1) now ∧ ∀ H', W H' (pvM K c x (g + 1) M) T → Q .non H'
def spShown (K : PySem.W.Frag) : Sp := fun vs H Q _ => ∃ (c : Cf) (x : PvA) (G : Nat) (now : Int) (rule : Str) (sent : Addr) (M : List Cell) (T : List As), vs = [.ref x.p, .int now, .str rule, .ref sent, .int 0] ∧ W H (pvM K c x G M) T ∧ (tupA x.road c.rv).φ H ∧ Now c G now ∧
  ∀ r dx H', W H' ((r, shO K dx now rule sent c.hi (c.hi + c.lo) (bndV c G) G ((G : Int) - 1)) :: pvM K c x G M) T → Q (.ref r) H'
section
variable {P : Program} {w : World} {K : PySem.W.Frag} {mg : Str → Option Value} {base : Heap}
theorem seq_mid {t u : TS} {D : Ends} {σ : L2.St} {H : Hp} (Z : L2.St → Hp → Prop) (tail : ∀ σ H, Z σ H → u D σ H) (h : ∀ D' : Ends, (∀ σ H, Z σ H → D'.nx σ H) → D'.rt = D.rt → t D' σ H) : tSeq t u D σ H := h _ tail rfl
theorem sc_Proving_unheard : FnScope ["self", "now", "low", "high", "least", "number"] ["self", "now"] (defScope s_Proving_unheard) := ⟨rfl, rfl, rfl, by decide +kernel, rfl, by decide +kernel, by decide +kernel⟩
theorem ok_Proving_unheard (T : Tp K mg base) : Def P w K mg base (.met "Proving" "unheard") ["self", "now"] 2 (spUnheard K) := by
  refine def_mk T.f_Proving_unheard sc_Proving_unheard (fun vs H Q E h => ?_) (fun _ _ _ _ _ _ us hl => match us, hl with | [_, _], _ => rfl) (fun cdv A outer s H vs Q E hr h => ?_)
  · obtain ⟨c, x, g, now, M, T', rfl, _⟩ := h; rfl
  · obtain ⟨c, x, g, now, M, T', rfl, W0, hrd, hN, k⟩ := h
    have nd := sc_Proving_unheard.nd
    have hu := hu_of hr
    refine ⟨_, pss_cons (ps_asg (pe_d (ok_back_of T) hr T.g_back_of (pa_cons (pe_fld (pv 0) rfl) pa_nil)) (pg_tup (n := 2) rfl (pgs_cons (pg_name (i := 2) nd rfl (.inl rfl)) (pgs_cons (pg_name (i := 3) nd rfl (.inl rfl)) pgs_nil))))
      (pss_cons (ps_set (i := 4) nd rfl (.inl rfl) (pe_callB (call_max2 rfl) rfl T.b_max (by decide +kernel) (pa_cons pe_int (pa_cons (pe_op op_add (pe_op op_sub (pe_op op_add (pe_op op_sub (pe_op op_add (pv 1) pe_int) (pv 3)) (pe_fld (pv 0) rfl)) (pe_dget hu (pe_fld (pv 0) rfl) (pe_fld (pv 0) rfl) (fun _ _ => rfl))) (pv 2)) pa_nil))))
      (pss_cons (ps_for PassesOwn.never rfl (pi_range2 rfl T.b_range (pa_cons (pv 4) (pa_cons (pe_fld (pv 0) rfl) pa_nil))) (pg_name (i := 5) nd rfl (.inl rfl)) pss_never)
      (pss_one (ps_ret pe_non)))), ?_⟩
    obtain ⟨hn, hlo, hg, hh⟩ := hN
    obtain ⟨hh1, hh2⟩ := hh g rfl
    unfold Sml at hn hlo hh2
    have w0 := W0.say (tupA x.road c.rv) hrd
    refine r_fld (k := 0) T.o_Proving rfl (w0.c x.p) rfl rfl ⟨x.road, c.rv, _, _, _, _, rfl, w0, w0.f (tupA x.road c.rv), rfl, rfl, fun bp H1 w1 => ?_⟩
    refine ⟨bp, [.int c.lo, .int c.lo], rfl, SqT.of (w1.f (tupA bp [.int c.lo, .int c.lo])), rfl, _, _, rfl, _, _, rfl, rfl, ?_⟩
    dsimp only
    refine ⟨_, rfl, _, _, rfl, rfl, _, rfl, _, _, rfl, rfl, r_fld (k := 3) T.o_Proving rfl (w1.c x.p) rfl rfl ⟨_, _, rfl, rfl, ?_⟩⟩
    have e0 : (((g + 1 : Nat) : Int) - 1) = (g : Int) := by omega
    refine r_fld (k := 1) T.o_Proving rfl (w1.c x.p) rfl rfl (r_fld (k := 3) T.o_Proving rfl (w1.c x.p) rfl rfl ⟨x.tk, _, rfl, (by rw [e0]; exact dget_kF (w1.c x.tk) (Nat.zero_le _) (Nat.lt_succ_self g)), _, _, rfl, rfl, _, rfl, _, _, rfl, rfl, _, _, rfl, ?_⟩)
    dsimp only
    rw [e0]
    refine ⟨_, rfl, r_fld (k := 3) T.o_Proving rfl (w1.c x.p) rfl rfl ⟨_, _, rfl, ?_⟩⟩
    have hp : now + 1 - c.lo + (g : Int) - c.h g + c.lo > 0 := by omega
    rw [if_pos hp]
    refine ⟨⟨by omega, by omega, by omega, by omega⟩, ?_⟩
    rw [show (((g + 1 : Nat) : Int) - 1 - (now + 1 - c.lo + (g : Int) - c.h g + c.lo)).toNat = 0 from by omega]
    refine for_range (n := 0) (fun _ _ H => W H (pvM K c x (g + 1) M) T') (W.e0 (T := T') w1) (fun i σ H hi _ => absurd hi (by omega)) (fun σ H w => k _ w)
theorem sc_Proving_shown : FnScope ["self", "now", "rule", "sent", "wait", "found", "told"] ["self", "now", "rule", "sent", "wait"] (defScope s_Proving_shown) := ⟨rfl, rfl, rfl, by decide +kernel, rfl, by decide +kernel, by decide +kernel⟩
theorem ok_Proving_shown (T : Tp K mg base) : Def P w K mg base (.met "Proving" "shown") ["self", "now", "rule", "sent", "wait"] 4 (spShown K) := by
  refine def_mk T.f_Proving_shown sc_Proving_shown (fun vs H Q E h => ?_) (fun _ _ _ _ _ _ us hl => match us, hl with | [_, _, _, _, _], _ => rfl) (fun cdv A outer s H vs Q E hr h => ?_)
  · obtain ⟨c, x, G, now, rule, sent, M, T', rfl, _⟩ := h; rfl
  · obtain ⟨c, x, G, now, rule, sent, M, T', rfl, W0, hrd, hN, k⟩ := h
    have nd := sc_Proving_shown.nd
    have hu := hu_of hr
    refine ⟨_, pss_cons (ps_set (i := 5) nd rfl (.inl rfl) (pe_dk (f := 0) (wh := .met "Shown" "__init__") T.m_Shown (ok_Shown_init T) (hr.mono (by decide)) T.g_Shown (pa_cons (pv 1) (pa_cons (pv 2) (pa_cons (pv 3) (pa_cons (pe_fld (pv 0) rfl) (pa_cons (pv 4) pa_nil)))))))
      (pss_cons (ps_if (pt_cmpR op_notN (pe_fld (pv 0) rfl) pe_non (nomark _))
        (pss_cons (ps_fld (pv 5) (pe_op op_add (pe_fld (pv 0) rfl) (pe_fld (pv 0) rfl)) rfl)
        (pss_cons (ps_set (i := 6) nd rfl (.inl rfl) (pe_ifExp (pt_cmpR op_eq (pv 2) pe_str (nomark _)) (pe_dm (ok_Proving_unheard T) (hr.mono (by decide)) T.c_Proving T.m_Proving_unheard (pv 0) (pa_cons (pv 1) pa_nil)) pe_non))
        (pss_one (ps_if (pt_cmpR op_notN (pv 6) pe_non (nomark _)) pss_never pss_nil)))) pss_nil)
      (pss_cons (ps_asg (pe_tup (pa_cons (pe_fld (pv 0) rfl) (pa_cons (pe_fld (pv 0) rfl) pa_nil))) (pg_tup (n := 2) rfl (pgs_cons (pg_fld (pv 5)) (pgs_cons (pg_fld (pv 5)) pgs_nil))))
      (pss_one (ps_ret (pv 5))))), ?_⟩
    have w0 := W0.say (tupA x.road c.rv) hrd
    refine ⟨_, rfl, _, rfl, _, rfl, r_fld (k := 0) T.o_Proving rfl (w0.c x.p) rfl rfl ⟨_, rfl, fun r dx hr0 hdx ne => ?_⟩⟩
    have w1 := W.made (C := He.ga K "Shown") nsShown w0 hr0 hdx ne
    refine ⟨r, dx, sent, x.road, now, _, _, _, _, rule, _, _, rfl, w1, w1.f (tupA x.road c.rv), fun H1 w2 => ⟨rfl, ?_⟩⟩
    dsimp only
    -- the bound
    let MM : V → V → V → List Cell := fun b l g => (r, .ins (He.ga K "Shown") dx (fl nsShown [.int now, .str rule, .ref sent, .int c.hi, .int (c.hi + c.lo), .int 0, b, l, g])) :: pvM K c x G M
    let TT : List As := tupA x.road c.rv :: T'
    let σ0 : Option V → L2.St := fun o => [some (.ref x.p), some (.int now), some (.str rule), some (.ref sent), some (.int 0), some (.ref r), o]
    have w2' : W H1 (MM .non (.int 0) (.int (-1))) TT := w2
    refine seq_mid (fun σ H => ∃ o, σ = σ0 o ∧ W H (MM (bndV c G) (.int 0) (.int (-1))) TT) (fun σ H h => ?_) (fun D' hD' _ => ?_)
    · obtain ⟨o, rfl, w⟩ := h
      refine r_fld (k := 5) T.o_Proving rfl (w.c x.p) rfl rfl (r_fld (k := 6) T.o_Proving rfl (w.c x.p) rfl rfl ⟨two_le, fun a na => ?_⟩)
      have w3 := w.newT na [.int (G : Int), .int ((G : Int) - 1)]
      refine ⟨a, [.int (G : Int), .int ((G : Int) - 1)], rfl, SqT.of (w3.f (tupA a _)), rfl, _, _, rfl, ?_⟩
      refine ⟨_, rfl, r, _, _, _, rfl, w3.c r, T.o_Shown.cl, T.o_Shown.na _ (List.mem_of_getElem? (i := 7) rfl), T.o_Shown.ln, ?_⟩
      rw [fl_put (k := 7) T.o_Shown.nd rfl (by simp)]
      have w4 := w3.s r 7 (.int (G : Int))
      refine ⟨_, _, rfl, ?_⟩
      refine ⟨_, rfl, r, _, _, _, rfl, w4.c r, T.o_Shown.cl, T.o_Shown.na _ (List.mem_of_getElem? (i := 8) rfl), T.o_Shown.ln, ?_⟩
      rw [fl_put (k := 8) T.o_Shown.nd rfl (by simp)]
      refine ⟨rfl, ?_⟩
      have w5 := w4.s r 8 (.int ((G : Int) - 1))
      exact ⟨_, rfl, k r dx _ (W.e0 (T := T') w5)⟩
    · cases G with
      | zero =>
        refine r_fld (k := 4) T.o_Proving rfl (w2'.c x.p) rfl rfl ⟨rfl, _, rfl, iteF ?_⟩
        exact hD' _ _ ⟨none, rfl, w2'⟩
      | succ g =>
        refine r_fld (k := 4) T.o_Proving rfl (w2'.c x.p) rfl rfl ⟨rfl, _, rfl, iteT ?_⟩
        refine r_fld (k := 4) T.o_Proving rfl (w2'.c x.p) rfl rfl (r_fld (k := 3) T.o_Proving rfl (w2'.c x.p) rfl rfl ⟨_, _, rfl, rfl, ?_⟩)
        dsimp only
        rw [show c.a g - (g : Int) + (((g + 1 : Nat) : Int) - 1) = c.a g from by omega]
        refine ⟨_, rfl, r, _, _, _, rfl, w2'.c r, T.o_Shown.cl, T.o_Shown.na _ (List.mem_of_getElem? (i := 6) rfl), T.o_Shown.ln, ?_⟩
        rw [fl_put (k := 6) T.o_Shown.nd rfl (by simp)]
        have w3 := w2'.s r 6 (.int (c.a g))
        have w3' : W _ (MM (bndV c (g + 1)) (.int 0) (.int (-1))) TT := w3
        refine q_seq ⟨_, rfl, rfl, _, rfl, ?_⟩
        have w4 := w3'.k [x.p, x.tk, x.tl]
        cases e : decide (V.str rule = V.str "proof") with
        | true =>
          refine iteT ⟨_, rfl, x.p, x.dx, _, rfl, w4.c x.p, fl_no (by decide +kernel), _, rfl, c, x, g, now, _, _, rfl, w4, w4.f (tupA x.road c.rv), hN, fun H2 w5 => ?_⟩
          exact ⟨_, rfl, rfl, _, rfl, iteF (hD' _ _ ⟨_, rfl, w5.k [r]⟩)⟩
        | false => exact iteF ⟨_, rfl, rfl, _, rfl, iteF (hD' _ _ ⟨_, rfl, w3'⟩)⟩
end
end Su


set_option Elab.async false
set_option linter.all false
set_option maxRecDepth 100000
set_option maxHeartbeats 2000000
/-! the sender: its parts, small defs -/
namespace Su
open PySem PySem.Spec PyProof.Rows L2
structure SdA where
  s : Addr
  dx : Addr
  road : Addr
  data : Addr
  sent : Addr
  lets : Addr
  sts : Addr
  go : Addr
  stl : Addr
  an : Addr
  nx : Addr
  book : Addr
  pp : Addr
  pdx : Addr
  ptk : Addr
  ptl : Addr
/-- pair, latest, window's grown, greatest, allowed, S sent, T told, G acks in the proofs -/
structure SdS where
  pair : V
  lat : Int
  grown : Int
  gr : Int
  al : Addr
  alv : Int
  S : Nat
  T : Nat
  G : Nat
abbrev SdA.pv (x : SdA) : PvA := ⟨x.pp, x.pdx, x.road, x.ptk, x.ptl⟩
abbrev stF (T : Nat) : Nat → V := fun i => .int (if i < T then 1 else 0)
abbrev sdO (K : PySem.W.Frag) (c : Cf) (x : SdA) (z : SdS) : HO := .ins (He.ga K "Sender") x.dx (fl nsSender [.ref x.road, .ref x.data, .ref x.sent, .ref x.lets, .ref x.sts, .ref x.go, .ref x.stl, .ref x.an, .ref x.nx, .ref z.al, z.pair, .int z.lat, .int 0, .bl false, .int c.most, .non, .int z.grown, .int (-1), .int z.gr, .ref x.pp, .ref x.book])
abbrev sdM (K : PySem.W.Frag) (c : Cf) (x : SdA) (L : Nat → Addr) (z : SdS) (M : List Cell) : List Cell :=
  (x.s, sdO K c x z) ::
  (x.sent, .lst (lF z.S fun i => .int (c.s i))) :: (x.lets, .lst (lF z.S fun i => .ref (L i))) :: (x.sts, .lst (lF z.S (stF z.T))) :: (x.go, .dK (kF z.T z.S fun _ => .bl true)) :: (x.stl, .dT (kT 0 z.T)) :: (x.an, .dT []) :: (x.nx, .lst [.int z.S]) :: (z.al, .lst [.int z.alv]) :: pvM K c x.pv z.G M
/-- what stays: the road, the book, the data -/
def bkA (c : Cf) (b : Addr) : As := ⟨fun H => ∃ (b0 b4 ls b10 : Int) (th cu : Addr), H b = some (.tup [.int b0, .ref th, .int c.grain, .int c.first, .int b4, .int c.gap, .int c.most, .int ls, .int c.most, .ref cu, .int b10, .str c.rule, .int 0]),
  fun _ _ k ⟨b0, b4, ls, b10, th, cu, h⟩ => ⟨b0, b4, ls, b10, th, cu, k.tu _ _ h⟩⟩
def dtA (c : Cf) (d : Addr) : As := ⟨fun H => ∃ (st tk : Addr), H d = some (.tup [.ref st]) ∧ H st = some (.tup [.ref tk, .int 60, .int 0]) ∧ H tk = some (.tup (List.replicate c.short (.int 0))),
  fun _ _ k ⟨st, tk, h1, h2, h3⟩ => ⟨st, tk, k.tu _ _ h1, k.tu _ _ h2, k.tu _ _ h3⟩⟩
def rdA (c : Cf) (r : Addr) : As := tupA r c.rv
/-- letters sent so far -/
def ltA (S : Nat) (L : Nat → Addr) : As := famA S L fun i => [.int 0, .int i]
/-- the pair of round trips, as it stands -/
def prV (o : Option (Fr × Fr)) (v : V) : As := ⟨fun H => (o = none ∧ v = .non) ∨ ∃ q x, o = some x ∧ v = .ref q ∧ (prA q x).φ H,
  fun _ _ k h => h.elim (fun e => .inl e) fun ⟨q, x, e1, e2, e3⟩ => .inr ⟨q, x, e1, e2, (prA q x).st _ _ k e3⟩⟩
def nextP : Option (Fr × Fr) → Int → Fr × Fr
  | none, r => firstF r
  | some x, r => smF x.1 x.2 r
def lenV (c : Cf) : Option (Fr × Fr) → Fr
  | none => (c.first + (if 2 * c.first > c.grain then 2 * c.first else c.grain) + 0, 1)
  | some x => plusF (lenF x.1 x.2 c.grain) (0, 1)
def SmP : Option (Fr × Fr) → Prop
  | none => True
  | some x => Sm 300 x.1 ∧ Sm 300 x.2
def oF (a b : Nat) : List V := (List.range' a (b - a)).map fun (i : Nat) => V.int i
def spOut (K : PySem.W.Frag) : Sp := fun vs H Q _ => ∃ (c : Cf) (x : SdA) (L : Nat → Addr) (z : SdS) (M : List Cell) (T : List As), vs = [.ref x.s] ∧ W H (sdM K c x L z M) T ∧ ∀ o H', W H' ((o, .lst (oF z.T z.S)) :: sdM K c x L z M) T → Q (.ref o) H'
def spGrow (K : PySem.W.Frag) : Sp := fun vs H Q _ => ∃ (c : Cf) (x : SdA) (z : SdS) (M : List Cell) (T : List As), vs = [.ref x.s] ∧ W H ((x.s, sdO K c x z) :: M) T ∧ (bkA c x.book).φ H ∧ ∀ H', W H' ((x.s, sdO K c x { z with grown := z.grown + 1 }) :: M) T → Q .non H'
def spMeasure (K : PySem.W.Frag) : Sp := fun vs H Q _ => ∃ (c : Cf) (x : SdA) (L : Nat → Addr) (z : SdS) (o : Option (Fr × Fr)) (r : Int) (M : List Cell) (T : List As), vs = [.ref x.s, .int r] ∧ W H (sdM K c x L z M) T ∧ (prV o z.pair).φ H ∧ SmP o ∧ r.natAbs < 2 ^ 20 ∧
  ∀ v H', W H' (sdM K c x L { z with pair := v, lat := r } M) (prV (some (nextP o r)) v :: T) → Q .non H'
def spSettle (K : PySem.W.Frag) : Sp := fun vs H Q _ => ∃ (c : Cf) (x : SdA) (L : Nat → Addr) (z : SdS) (M : List Cell) (T : List As), vs = [.ref x.s, .int z.T] ∧ W H (sdM K c x L z M) T ∧ (bkA c x.book).φ H ∧ (ltA z.S L).φ H ∧ z.T < z.S ∧ z.S < 1000 ∧
  ∀ H', W H' (sdM K c x L { z with grown := z.grown + 1, T := z.T + 1 } M) T → Q .non H'
def spLen (K : PySem.W.Frag) : Sp := fun vs H Q _ => ∃ (c : Cf) (x : SdA) (L : Nat → Addr) (z : SdS) (o : Option (Fr × Fr)) (M : List Cell) (T : List As), vs = [.ref x.s] ∧ W H (sdM K c x L z M) T ∧ (bkA c x.book).φ H ∧ (prV o z.pair).φ H ∧ SmP o ∧ c.grain.natAbs < 2 ^ 20 ∧
  ∀ p H', W H' (sdM K c x L z M) (frA p (lenV c o) :: T) → Q (.ref p) H'
section
variable {P : Program} {w : World} {K : PySem.W.Frag} {mg : Str → Option Value} {base : Heap}
theorem sc_Sender_out : FnScope ["self"] ["self"] (defScope s_Sender_out) := ⟨rfl, rfl, rfl, by decide +kernel, rfl, by decide +kernel, by decide +kernel⟩
theorem ok_Sender_out (T : Tp K mg base) : Def P w K mg base (.met "Sender" "out") ["self"] 1 (spOut K) := by
  refine def_mk T.f_Sender_out sc_Sender_out (fun vs H Q E h => ?_) (fun _ _ _ _ _ _ us hl => match us, hl with | [_], _ => rfl) (fun cdv A outer s H vs Q E hr h => ?_)
  · obtain ⟨c, x, L, z, M, T', rfl, _⟩ := h; rfl
  · obtain ⟨c, x, L, z, M, T', rfl, w0, k⟩ := h
    refine ⟨_, pss_one (ps_ret (pe_callTy (call_list_dK rfl) rfl T.b_list (by decide +kernel) (pa_cons (pe_fld (pv 0) rfl) pa_nil))), ?_⟩
    refine r_fld (k := 5) T.o_Sender rfl (w0.c x.s) rfl rfl ⟨x.go, _, rfl, w0.c x.go, fun o ho => ?_⟩
    have e : (kF z.T z.S fun _ => V.bl true).map (fun kv => kV kv.1) = oF z.T z.S := by unfold kF oF; rw [List.map_map]; rfl
    rw [e]
    exact k o _ (w0.new ho _)
theorem sc_Sender_grow : FnScope ["self"] ["self"] (defScope s_Sender_grow) := ⟨rfl, rfl, rfl, by decide +kernel, rfl, by decide +kernel, by decide +kernel⟩
theorem ok_Sender_grow (T : Tp K mg base) : Def P w K mg base (.met "Sender" "grow") ["self"] 1 (spGrow K) := by
  refine def_mk T.f_Sender_grow sc_Sender_grow (fun vs H Q E h => ?_) (fun _ _ _ _ _ _ us hl => match us, hl with | [_], _ => rfl) (fun cdv A outer s H vs Q E hr h => ?_)
  · obtain ⟨c, x, z, M, T', rfl, _⟩ := h; rfl
  · obtain ⟨c, x, z, M, T', rfl, w0, ⟨b0, b4, ls, b10, th, cu, hb⟩, k⟩ := h
    refine ⟨_, pss_cons (ps_fldaug (pv 0) pe_int in_add) (pss_one (ps_if (pt_cmpR op_lt (pe_fld (pv 0) rfl) (pe_ix ix_tup (pe_fld (pv 0) rfl) pe_int (fun _ _ => rfl)) (nomark _)) pss_never pss_nil)), ?_⟩
    have w1 := w0.say (tupA x.book _) hb
    refine r_inc (k := 16) (j := 1) T.o_Sender rfl (w1.c x.s) rfl rfl ?_
    have w2 := w1.s x.s 16 (.int (z.grown + 1))
    refine r_fld (k := 14) T.o_Sender rfl (w2.c x.s) rfl rfl (r_fld (k := 20) T.o_Sender rfl (w2.c x.s) rfl rfl ⟨_, _, _, _, rfl, rfl, SqT.of (w2.st (tupA x.book _) List.mem_cons_self), rfl, _, _, rfl, rfl, _, rfl, ?_⟩)
    rw [show decide (c.most < c.most) = false from decide_eq_false (by omega)]
    refine iteF (k _ (W.e0 (T := T') w2))
theorem sc_Sender_measure : FnScope ["self", "sample"] ["self", "sample"] (defScope s_Sender_measure) := ⟨rfl, rfl, rfl, by decide +kernel, rfl, by decide +kernel, by decide +kernel⟩
theorem ok_Sender_measure (T : Tp K mg base) : Def P w K mg base (.met "Sender" "measure") ["self", "sample"] 5 (spMeasure K) := by
  refine def_mk T.f_Sender_measure sc_Sender_measure (fun vs H Q E h => ?_) (fun _ _ _ _ _ _ us hl => match us, hl with | [_, _], _ => rfl) (fun cdv A outer s H vs Q E hr h => ?_)
  · obtain ⟨c, x, L, z, o, r, M, T', rfl, _⟩ := h; rfl
  · obtain ⟨c, x, L, z, o, r, M, T', rfl, w0, hp, hs, hr1, k⟩ := h
    refine ⟨_, pss_cons (ps_fld (pv 0) (pe_ifExp (pt_cmpR op_isN (pe_fld (pv 0) rfl) pe_non (nomark _)) (pe_d (ok_first_pair T) (hr.mono (by decide)) T.g_first_pair (pa_cons (pv 1) pa_nil))
        (pe_d (ok_smoothed T) (hr.mono (by decide)) T.g_smoothed (pa_cons (pe_ix ix_tup (pe_fld (pv 0) rfl) pe_int (fun _ _ => rfl)) (pa_cons (pe_ix ix_tup (pe_fld (pv 0) rfl) pe_int (fun _ _ => rfl)) (pa_cons (pv 1) pa_nil))))) rfl)
      (pss_one (ps_fld (pv 0) (pv 1) rfl)), ?_⟩
    have tail : ∀ (v : V) (q : Addr) (H1 : Hp), v = .ref q → W H1 (sdM K c x L z M) (prA q (nextP o r) :: T') → ∃ u, (start ["self", "sample"] [V.ref x.s, V.int r])[0]? = some (some u) ∧ ∃ a C dx fs, u = .ref a ∧ H1 a = some (.ins C dx fs) ∧ Cls K C ∧ NoAttr K C ("pair" : Str) ∧ fs.length < 1000 ∧
        ∃ u2, (start ["self", "sample"] [V.ref x.s, V.int r])[1]? = some (some u2) ∧ ∃ u3, (start ["self", "sample"] [V.ref x.s, V.int r])[0]? = some (some u3) ∧ ∃ a2 C2 dx2 fs2, u3 = .ref a2 ∧ L2.upd H1 a (.ins C dx (putF "pair" v fs)) a2 = some (.ins C2 dx2 fs2) ∧ Cls K C2 ∧ NoAttr K C2 ("latest" : Str) ∧ fs2.length < 1000 ∧ Q .non (L2.upd (L2.upd H1 a (.ins C dx (putF "pair" v fs))) a2 (.ins C2 dx2 (putF "latest" u2 fs2))) := by
      rintro v q H1 rfl w1
      refine ⟨_, rfl, x.s, _, _, _, rfl, w1.c x.s, T.o_Sender.cl, T.o_Sender.na _ (List.mem_of_getElem? (i := 10) rfl), T.o_Sender.ln, ?_⟩
      rw [fl_put (k := 10) T.o_Sender.nd rfl (by simp)]
      have w2 := w1.s x.s 10 (.ref q)
      refine ⟨_, rfl, ?_⟩
      refine ⟨_, rfl, x.s, _, _, _, rfl, w2.c x.s, T.o_Sender.cl, T.o_Sender.na _ (List.mem_of_getElem? (i := 11) rfl), T.o_Sender.ln, ?_⟩
      rw [fl_put (k := 11) T.o_Sender.nd rfl (by simp)]
      have w3 := w2.s x.s 11 (.int r)
      exact k (.ref q) _ (W.e (T := T') w3 (prV (some (nextP o r)) (.ref q)) (.inr ⟨q, _, rfl, rfl, w3.f (prA q (nextP o r))⟩))
    rcases hp with ⟨rfl, hv⟩ | ⟨q, y, rfl, hv, q1, q2, t1, t2, t3⟩
    · refine r_fld (k := 10) T.o_Sender rfl (w0.c x.s) rfl rfl ⟨rfl, _, rfl, ?_⟩
      rw [hv]
      refine iteT ⟨_, rfl, r, _, _, rfl, w0, hr1, fun v H1 w1 => ?_⟩
      exact tail _ v H1 rfl w1
    · have w1 := ((w0.say (tupA q _) t1).say (frA q1 y.1) t2).say (frA q2 y.2) t3
      refine r_fld (k := 10) T.o_Sender rfl (w0.c x.s) rfl rfl ⟨rfl, _, rfl, ?_⟩
      rw [hv]
      refine iteF ?_
      refine r_fld (k := 10) T.o_Sender rfl (w0.c x.s) rfl rfl ?_
      rw [hv]
      refine ⟨_, _, _, _, rfl, rfl, SqT.of t1, rfl, r_fld (k := 10) T.o_Sender rfl (w0.c x.s) rfl rfl ?_⟩
      rw [hv]
      refine ⟨_, _, _, _, rfl, rfl, SqT.of t1, rfl, _, rfl, q1, q2, y.1, y.2, r, _, _, rfl, w1, t2, t3, hs.1, hs.2, hr1, fun v H1 w2 => ?_⟩
      exact tail _ v H1 rfl (W.e (T := T') w2 (prA v (nextP (some y) r)) (w2.f (prA v (smF y.1 y.2 r))))
end
end Su


set_option Elab.async false
set_option linter.all false
set_option maxRecDepth 100000
set_option maxHeartbeats 2000000
/-! the sender: its making, settle, length -/
namespace Su
open PySem PySem.Spec PyProof.Rows L2
def spSdInit (K : PySem.W.Frag) : Sp := fun vs H Q _ => ∃ (c : Cf) (s dx book road data : Addr) (M : List Cell) (T : List As), vs = [.ref s, .ref book, .ref road, .ref data] ∧ W H ((s, .ins (He.ga K "Sender") dx (fl nsSender [])) :: M) T ∧ (bkA c book).φ H ∧ (dtA c data).φ H ∧
  ∀ (x : SdA) (al : Addr) (L : Nat → Addr) H', x.s = s → x.book = book → x.road = road → x.data = data → W H' (sdM K c x L ⟨.non, 0, 0, -1, al, 60, 0, 0, 0⟩ M) T → Q .non H'
section
variable {P : Program} {w : World} {K : PySem.W.Frag} {mg : Str → Option Value} {base : Heap}
theorem sc_Sender_settle : FnScope ["self", "packet", "letter"] ["self", "packet"] (defScope s_Sender_settle) := ⟨rfl, rfl, rfl, by decide +kernel, rfl, by decide +kernel, by decide +kernel⟩
theorem ok_Sender_settle (T : Tp K mg base) : Def P w K mg base (.met "Sender" "settle") ["self", "packet"] 2 (spSettle K) := by
  refine def_mk T.f_Sender_settle sc_Sender_settle (fun vs H Q E h => ?_) (fun _ _ _ _ _ _ us hl => match us, hl with | [_, _], _ => rfl) (fun cdv A outer s H vs Q E hr h => ?_)
  · obtain ⟨c, x, L, z, M, T', rfl, _⟩ := h; rfl
  · obtain ⟨c, x, L, z, M, T', rfl, W0, hb, hl, hT, hS, k⟩ := h
    have nd := sc_Sender_settle.nd
    have hu := hu_of hr
    obtain ⟨tO, eO⟩ := T.i_OUT
    obtain ⟨t1, e1⟩ := T.i_TOLD
    refine ⟨_, pss_cons (ps_if (pt_cmpR op_eq (pe_ix ix_list (pe_fld (pv 0) rfl) (pv 1) (fun _ _ => rfl)) (pe_glob (v := .int 0) rfl eO ⟨_, rfl⟩) (nomark _))
        (pss_cons (ps_asg (pe_glob (v := .int 1) rfl e1 ⟨_, rfl⟩) (pg_sub (pe_fld (pv 0) rfl) (pv 1) set_list))
        (pss_cons (ps_expr (pe_dpop1 (pe_fld (pv 0) rfl) (pv 1) ⟨rfl, rfl, rfl, rfl⟩))
        (pss_one (ps_expr (pe_dm0 (ok_Sender_grow T) hr T.c_Sender T.m_Sender_grow (pv 0)))))) pss_never)
      (pss_cons (ps_set (i := 2) nd rfl (.inl rfl) (pe_ix ix_list (pe_fld (pv 0) rfl) (pv 1) (fun _ _ => rfl)))
      (pss_one (ps_if (pt_cmpR op_notN (pv 2) pe_non (nomark _))
        (pss_cons (ps_dput hu (pe_fld (pv 0) rfl) (pv 2) pe_bl rfl)
        (pss_one (ps_expr (pe_bm PySem.F.plainAttrs_dict PySem.F.slot_dict_pop PySem.F.type_dict_pop (L2.DX.mt_popT hu) (pe_fld (pv 0) rfl) (pa_cons (pv 2) (pa_cons pe_non pa_nil)))))) pss_nil))), ?_⟩
    have w0 := W0.say (bkA c x.book) hb |>.say (ltA z.S L) hl
    have hLT : ∀ H, (ltA z.S L).φ H → H (L z.T) = some (.tup [.int 0, .int z.T]) := fun H h => h z.T hT
    -- the test
    refine r_fld (k := 4) T.o_Sender rfl (w0.c x.s) rfl rfl ⟨_, rfl, _, _, _, _, rfl, rfl, SqL.of (w0.c x.sts), atI_lF hT, rfl, _, rfl, ?_⟩
    rw [show decide (stF z.T z.T = V.int 0) = true from decide_eq_true (by show V.int (if z.T < z.T then 1 else 0) = _; rw [if_neg (Nat.lt_irrefl _)])]
    refine iteT ?_
    -- states[packet] = TOLD
    refine r_fld (k := 4) T.o_Sender rfl (w0.c x.s) rfl rfl ⟨_, rfl, _, _, _, z.T, rfl, rfl, w0.c x.sts, ixN_nat (by rw [lF_len]; exact hT), ?_⟩
    have e2 : (lF z.S (stF z.T)).set z.T (.int 1) = lF z.S (stF (z.T + 1)) := lF_set hT (fun i hi hne => by show V.int _ = V.int _; congr 1; by_cases h : i < z.T <;> simp [h] <;> omega) (by show V.int (if z.T < z.T + 1 then 1 else 0) = _; rw [if_pos (Nat.lt_succ_self _)])
    rw [e2]
    have w1 := w0.p x.sts (.lst (lF z.S (stF (z.T + 1))))
    -- going.pop(packet)
    refine r_fld (k := 5) T.o_Sender rfl (w1.c x.s) rfl rfl ⟨x.go, rfl, .inl ⟨_, .inl (w1.c x.go)⟩, _, rfl, _, Sum.inl (z.T : Int), _, w1.c x.go, rfl, kF_val (Nat.le_refl _) hT, ?_⟩
    rw [kF_drop hT]
    have w2 := w1.p x.go (.dK (kF (z.T + 1) z.S fun _ => .bl true))
    -- grow
    refine ⟨_, rfl, x.s, x.dx, _, rfl, w2.c x.s, fl_no (by decide +kernel), c, x, z, _, _, rfl, w2, w2.f (bkA c x.book), fun H1 w3 => ?_⟩
    -- letter
    refine r_fld (k := 3) T.o_Sender rfl (w3.c x.s) rfl rfl ⟨_, rfl, _, _, _, _, rfl, rfl, SqL.of (w3.c x.lets), atI_lF hT, ?_⟩
    refine ⟨_, rfl, rfl, _, rfl, iteT ?_⟩
    -- settled
    refine r_fld (k := 6) T.o_Sender rfl (w3.c x.s) rfl rfl ⟨_, rfl, x.stl, _, rfl, DPut.t (k := [Sum.inl 0, Sum.inl (z.T : Int)]) (w3.c x.stl) (hLT _ (w3.f (ltA z.S L))) (small1000 (by rw [kT_len]; omega)), ?_⟩
    rw [kT_put (Nat.zero_le z.T)]
    have w4 := w3.p x.stl (.dT (kT 0 (z.T + 1)))
    -- anew
    refine r_fld (k := 7) T.o_Sender rfl (w4.c x.s) rfl rfl ⟨.inr (.inr (.inl ⟨rfl, .inr ⟨_, w4.c x.an⟩⟩)), _, rfl, x.an, [], [Sum.inl 0, Sum.inl (z.T : Int)], L z.T, .non, rfl, rfl, w4.c x.an, hLT _ (w4.f (ltA z.S L)), fun v hv => (by cases hv), fun _ => ?_⟩
    exact k _ (W.e0 (T := T') w4)
theorem sc_Sender_length : FnScope ["self"] ["self"] (defScope s_Sender_length) := ⟨rfl, rfl, rfl, by decide +kernel, rfl, by decide +kernel, by decide +kernel⟩
theorem ok_Sender_length (T : Tp K mg base) : Def P w K mg base (.met "Sender" "length") ["self"] 5 (spLen K) := by
  refine def_mk T.f_Sender_length sc_Sender_length (fun vs H Q E h => ?_) (fun _ _ _ _ _ _ us hl => match us, hl with | [_], _ => rfl) (fun cdv A outer s H vs Q E hr h => ?_)
  · obtain ⟨c, x, L, z, o, M, T', rfl, _⟩ := h; rfl
  · obtain ⟨c, x, L, z, o, M, T', rfl, w0, ⟨b0, b4, ls, b10, th, cu, hb⟩, hp, hs, hgr, k⟩ := h
    refine ⟨_, pss_cons (ps_if (pt_cmpR op_isN (pe_fld (pv 0) rfl) pe_non (nomark _))
        (pss_one (ps_ret (pe_tup (pa_cons (pe_op op_add (pe_op op_add (pe_ix ix_tup (pe_fld (pv 0) rfl) pe_int (fun _ _ => rfl)) (pe_callB (call_max2 rfl) rfl T.b_max (by decide +kernel) (pa_cons (pe_ix ix_tup (pe_fld (pv 0) rfl) pe_int (fun _ _ => rfl)) (pa_cons (pe_op op_mul pe_int (pe_ix ix_tup (pe_fld (pv 0) rfl) pe_int (fun _ _ => rfl))) pa_nil)))) (pe_ix ix_tup (pe_fld (pv 0) rfl) pe_int (fun _ _ => rfl))) (pa_cons pe_int pa_nil))))) pss_nil)
      (pss_one (ps_ret (pe_d (ok_plus T) (hr.mono (by decide)) T.g_plus (pa_cons (pe_d (ok_length_of T) (hr.mono (by decide)) T.g_length_of (pa_cons (pe_ix ix_tup (pe_fld (pv 0) rfl) pe_int (fun _ _ => rfl)) (pa_cons (pe_ix ix_tup (pe_fld (pv 0) rfl) pe_int (fun _ _ => rfl)) (pa_cons (pe_ix ix_tup (pe_fld (pv 0) rfl) pe_int (fun _ _ => rfl)) pa_nil)))) (pa_cons (pe_tup (pa_cons (pe_ix ix_tup (pe_fld (pv 0) rfl) pe_int (fun _ _ => rfl)) (pa_cons pe_int pa_nil))) pa_nil))))), ?_⟩
    rcases hp with ⟨rfl, hv⟩ | ⟨q, y, rfl, hv, q1, q2, t1, t2, t3⟩
    · refine r_fld (k := 10) T.o_Sender rfl (w0.c x.s) rfl rfl ⟨rfl, _, rfl, ?_⟩
      rw [hv]
      refine iteT ?_
      refine r_fld (k := 20) T.o_Sender rfl (w0.c x.s) rfl rfl ⟨_, _, _, _, rfl, rfl, SqT.of hb, rfl, r_fld (k := 20) T.o_Sender rfl (w0.c x.s) rfl rfl ⟨_, _, _, _, rfl, rfl, SqT.of hb, rfl, r_fld (k := 20) T.o_Sender rfl (w0.c x.s) rfl rfl ⟨_, _, _, _, rfl, rfl, SqT.of hb, rfl, _, _, rfl, rfl, .inl ⟨by decide, by decide⟩, _, _, rfl, _, _, rfl, rfl, ?_⟩⟩⟩
      refine r_fld (k := 20) T.o_Sender rfl (w0.c x.s) rfl rfl ⟨_, _, _, _, rfl, rfl, SqT.of hb, rfl, _, _, rfl, rfl, two_le, fun p hp => ?_⟩
      exact k p _ (w0.newT hp _)
    · have w1 := (((w0.say (tupA x.book _) hb).say (tupA q _) t1).say (frA q1 y.1) t2).say (frA q2 y.2) t3
      refine r_fld (k := 10) T.o_Sender rfl (w0.c x.s) rfl rfl ⟨rfl, _, rfl, ?_⟩
      rw [hv]
      refine iteF ?_
      refine r_fld (k := 10) T.o_Sender rfl (w0.c x.s) rfl rfl ?_
      rw [hv]
      refine ⟨_, _, _, _, rfl, rfl, SqT.of t1, rfl, r_fld (k := 10) T.o_Sender rfl (w0.c x.s) rfl rfl ?_⟩
      rw [hv]
      refine ⟨_, _, _, _, rfl, rfl, SqT.of t1, rfl, r_fld (k := 20) T.o_Sender rfl (w0.c x.s) rfl rfl ⟨_, _, _, _, rfl, rfl, SqT.of hb, rfl, q1, q2, y.1, y.2, _, _, _, rfl, w1, t2, t3, hs.1, hs.2, hgr, fun l H1 w2 => ?_⟩⟩
      have hb2 := w2.st (tupA x.book _) (List.mem_cons_of_mem _ (List.mem_cons_of_mem _ (List.mem_cons_of_mem _ (List.mem_cons_of_mem _ List.mem_cons_self))))
      refine r_fld (k := 20) T.o_Sender rfl (w2.c x.s) rfl rfl ⟨_, _, _, _, rfl, rfl, SqT.of hb2, rfl, two_le, fun b hbn => ?_⟩
      have w3 : W _ (sdM K c x L z M) (frA b (0, 1) :: _) := w2.newT hbn _
      have s01 : Sm 1000 ((0, 1) : Fr) := ⟨by decide, by decide, by decide⟩
      have s1 : Sm 1000 (lenF y.1 y.2 c.grain) := (plus_sm (m := 300) (n := 303) hs.1 (max_sm ((int_sm hgr (by decide)).mono (by decide)) ((prod_sm (m := 3) (n := 300) ⟨by decide, by decide, by decide⟩ hs.2).mono (by decide)))).mono (by decide)
      refine ⟨l, b, _, _, _, _, rfl, w3, w3.f _, w3.f _, s1, s01, fun p H2 w4 => ?_⟩
      exact k p _ (W.e (T := T') w4 (frA p (lenV c (some y))) (w4.f (frA p (plusF (lenF y.1 y.2 c.grain) (0, 1)))))
theorem sc_Sender_init : FnScope ["self", "book", "road", "data", "stream"] ["self", "book", "road", "data"] (defScope s_Sender_init) := ⟨rfl, rfl, rfl, by decide +kernel, rfl, by decide +kernel, by decide +kernel⟩
theorem ok_Sender_init (T : Tp K mg base) : Def P w K mg base (.met "Sender" "__init__") ["self", "book", "road", "data"] 3 (spSdInit K) := by
  refine def_mk T.f_Sender_init sc_Sender_init (fun vs H Q E h => ?_) (fun _ _ _ _ _ _ us hl => match us, hl with | [_, _, _, _], _ => rfl) (fun cdv A outer s H vs Q E hr h => ?_)
  · obtain ⟨c, sa, dx, book, road, data, M, T', rfl, _⟩ := h; rfl
  · obtain ⟨c, r, dx, book, road, data, M, T', rfl, W0, ⟨b0, b4, ls, b10, th, cu, hb⟩, ⟨st, tk, hd1, hd2, hd3⟩, k⟩ := h
    have nd := sc_Sender_init.nd
    refine ⟨_, pss_cons (ps_fld (pv 0) (pv 2) rfl) (pss_cons (ps_fld (pv 0) (pv 3) rfl)
      (pss_cons (ps_asg (pe_tup (pa_cons (pe_lst pa_nil) (pa_cons (pe_lst pa_nil) (pa_cons (pe_lst pa_nil) (pa_cons pe_dnewK pa_nil))))) (pg_tup (n := 4) rfl (pgs_cons (pg_fld (pv 0)) (pgs_cons (pg_fld (pv 0)) (pgs_cons (pg_fld (pv 0)) (pgs_cons (pg_fld (pv 0)) pgs_nil))))))
      (pss_cons (ps_asg (pe_tup (pa_cons pe_dnewT (pa_cons pe_dnewT pa_nil))) (pg_tup (n := 2) rfl (pgs_cons (pg_fld (pv 0)) (pgs_cons (pg_fld (pv 0)) pgs_nil))))
      (pss_cons (ps_fld (pv 0) (pe_op op_rep (pe_lst (pa_cons pe_int pa_nil)) (pe_callB call_len_seq rfl T.b_len boot_len (pa_cons (pv 3) pa_nil))) rfl)
      (pss_cons (ps_fld (pv 0) (pe_lc (own := [("stream", 4)]) (g := gName 4) (tt := tYes) (te := tOp (rIxT K) (tVar 4) (tC (.int 1))) rfl nd (pi_tup (pv 3)) (blkOk_by (N := ["self", "book", "road", "data", "stream"]) (sc := defScope s_Sender_init) (by decide +kernel)) (fun _ _ _ _ _ => pg_name (i := 4) nd rfl (.inl rfl)) (fun _ _ _ _ _ => pts_nil) (fun _ _ _ _ _ => pe_ix ix_tup (pv 4) pe_int (fun _ _ => rfl))) rfl)
      (pss_cons (ps_asg (pe_tup (pa_cons pe_non (pa_cons pe_int pa_nil))) (pg_tup (n := 2) rfl (pgs_cons (pg_fld (pv 0)) (pgs_cons (pg_fld (pv 0)) pgs_nil))))
      (pss_cons (ps_asg (pe_tup (pa_cons pe_int (pa_cons pe_bl pa_nil))) (pg_tup (n := 2) rfl (pgs_cons (pg_fld (pv 0)) (pgs_cons (pg_fld (pv 0)) pgs_nil))))
      (pss_cons (ps_asg (pe_tup (pa_cons (pe_ix ix_tup (pv 1) pe_int (fun _ _ => rfl)) (pa_cons pe_non (pa_cons pe_int (pa_cons (pe_un un_neg pe_int) pa_nil))))) (pg_tup (n := 4) rfl (pgs_cons (pg_fld (pv 0)) (pgs_cons (pg_fld (pv 0)) (pgs_cons (pg_fld (pv 0)) (pgs_cons (pg_fld (pv 0)) pgs_nil))))))
      (pss_cons (ps_fld (pv 0) (pe_un un_neg pe_int) rfl)
      (pss_cons (ps_fld (pv 0) (pe_dk (f := 0) (wh := .met "Proving" "__init__") T.m_Proving (ok_Proving_init T) (hr.mono (by decide)) T.g_Proving (pa_cons (pv 2) pa_nil)) rfl)
      (pss_one (ps_fld (pv 0) (pv 1) rfl)))))))))))), ?_⟩
    have w0 := ((W0.say (tupA book _) hb).say (tupA data [.ref st]) hd1).say (tupA st [.ref tk, .int 60, .int 0]) hd2
    have hK : K = K := rfl
    refine ⟨_, rfl, ?_⟩
    refine ⟨_, rfl, r, _, _, _, rfl, w0.c r, T.o_Sender.cl, T.o_Sender.na _ (List.mem_of_getElem? (i := 0) rfl), T.o_Sender.ln, ?_⟩
    rw [fl_add T.o_Sender.nd rfl]
    have w1 := w0.n r (.ref road)
    refine ⟨_, rfl, ?_⟩
    refine ⟨_, rfl, r, _, _, _, rfl, w1.c r, T.o_Sender.cl, T.o_Sender.na _ (List.mem_of_getElem? (i := 1) rfl), T.o_Sender.ln, ?_⟩
    rw [fl_add T.o_Sender.nd rfl]
    have w2 := w1.n r (.ref data)
    -- sent, letters, states, going
    refine ⟨Nat.zero_le _, fun p1 h1 => ⟨Nat.zero_le _, fun p2 h2 => ⟨Nat.zero_le _, fun p3 h3 => fun p4 h4 => ⟨by show 4 ≤ sizeLine; decide, fun a na => ?_⟩⟩⟩⟩
    have w3 := (((w2.new h1 (.lst [])).new h2 (.lst [])).new h3 (.lst [])).new h4 (.dK [])
    have w4 := w3.newT na [.ref p1, .ref p2, .ref p3, .ref p4]
    refine ⟨a, [.ref p1, .ref p2, .ref p3, .ref p4], rfl, SqT.of (w4.f (tupA a _)), rfl, _, _, rfl, ?_⟩
    refine ⟨_, rfl, r, _, _, _, rfl, w4.c r, T.o_Sender.cl, T.o_Sender.na _ (List.mem_of_getElem? (i := 2) rfl), T.o_Sender.ln, ?_⟩
    rw [fl_add T.o_Sender.nd rfl]
    have w5 := w4.n r (.ref p1)
    refine ⟨_, _, rfl, ?_⟩
    refine ⟨_, rfl, r, _, _, _, rfl, w5.c r, T.o_Sender.cl, T.o_Sender.na _ (List.mem_of_getElem? (i := 3) rfl), T.o_Sender.ln, ?_⟩
    rw [fl_add T.o_Sender.nd rfl]
    have w6 := w5.n r (.ref p2)
    refine ⟨_, _, rfl, ?_⟩
    refine ⟨_, rfl, r, _, _, _, rfl, w6.c r, T.o_Sender.cl, T.o_Sender.na _ (List.mem_of_getElem? (i := 4) rfl), T.o_Sender.ln, ?_⟩
    rw [fl_add T.o_Sender.nd rfl]
    have w7 := w6.n r (.ref p3)
    refine ⟨_, _, rfl, ?_⟩
    refine ⟨_, rfl, r, _, _, _, rfl, w7.c r, T.o_Sender.cl, T.o_Sender.na _ (List.mem_of_getElem? (i := 5) rfl), T.o_Sender.ln, ?_⟩
    rw [fl_add T.o_Sender.nd rfl]
    have w8 := w7.n r (.ref p4)
    refine ⟨rfl, ?_⟩
    -- settled, anew
    refine fun p5 h5 => fun p6 h6 => ⟨two_le, fun a2 na2 => ?_⟩
    have w9 := ((w8.new h5 (.dT [])).new h6 (.dT [])).newT na2 [.ref p5, .ref p6]
    refine ⟨a2, [.ref p5, .ref p6], rfl, SqT.of (w9.f (tupA a2 _)), rfl, _, _, rfl, ?_⟩
    refine ⟨_, rfl, r, _, _, _, rfl, w9.c r, T.o_Sender.cl, T.o_Sender.na _ (List.mem_of_getElem? (i := 6) rfl), T.o_Sender.ln, ?_⟩
    rw [fl_add T.o_Sender.nd rfl]
    have w10 := w9.n r (.ref p5)
    refine ⟨_, _, rfl, ?_⟩
    refine ⟨_, rfl, r, _, _, _, rfl, w10.c r, T.o_Sender.cl, T.o_Sender.na _ (List.mem_of_getElem? (i := 7) rfl), T.o_Sender.ln, ?_⟩
    rw [fl_add T.o_Sender.nd rfl]
    have w11 := w10.n r (.ref p6)
    refine ⟨rfl, ?_⟩
    -- next_of
    refine ⟨by decide, fun l1 hl1 => ?_⟩
    have w12 := w11.new hl1 (.lst [.int 0])
    refine ⟨_, rfl, data, [.ref st], rfl, .inr (SqT.of (w12.f (tupA data [.ref st]))), l1, _, _, rfl, rfl, w12.c l1, by show -(2 ^ 63) ≤ (1 : Int); decide, by show (1 : Int) < 2 ^ 63; decide, by show 1 ≤ sizeLine; decide, fun nx hnx => ?_⟩
    have w13 := w12.new hnx (.lst [.int 0])
    refine ⟨_, rfl, r, _, _, _, rfl, w13.c r, T.o_Sender.cl, T.o_Sender.na _ (List.mem_of_getElem? (i := 8) rfl), T.o_Sender.ln, ?_⟩
    rw [fl_add T.o_Sender.nd rfl]
    have w14 := (w13.n r (.ref nx)).x l1
    -- allowed
    let MM : Nat → Addr → List Cell := fun i al => (al, .lst (if i = 0 then [] else [.int 60])) :: (nx, .lst [.int 0]) :: (p6, .dT []) :: (p5, .dT []) :: (p4, .dK []) :: (p3, .lst []) :: (p2, .lst []) :: (p1, .lst []) :: (r, .ins (He.ga K "Sender") dx (fl nsSender [.ref road, .ref data, .ref p1, .ref p2, .ref p3, .ref p4, .ref p5, .ref p6, .ref nx])) :: M
    let TT : List As := tupA st [.ref tk, .int 60, .int 0] :: tupA data [.ref st] :: tupA book [.int b0, .ref th, .int c.grain, .int c.first, .int b4, .int c.gap, .int c.most, .int ls, .int c.most, .ref cu, .int b10, .str c.rule, .int 0] :: T'
    refine ⟨_, rfl, data, rfl, ⟨_, SqT.of (w14.f (tupA data [.ref st]))⟩, fun al hal => ?_⟩
    have w15 : W _ (MM 0 al) TT := ((w14.new hal (.lst [])).k [al, nx]).sub (by intro φ hφ; simp only [TT, List.mem_cons] at hφ ⊢; rcases hφ with h | h | h | h <;> simp [h])
    refine lc_tup (xs := [.ref st]) (fun i H => i ≤ 1 ∧ W H (MM i al) TT) ⟨by decide, w15⟩ (fun i H hi h => SqT.of (h.2.f (tupA data [.ref st]))) (fun i y H hy h => ?_) (fun H h => ?_)
    · obtain ⟨hi, w⟩ := h
      match i, hy with
      | 0, hy =>
        cases hy
        refine ⟨rfl, ?_⟩
        refine r_ixT rfl (w.f (tupA st [.ref tk, .int 60, .int 0])) rfl ?_
        exact ⟨[], w.c al, by decide, by decide, w.p al (.lst [.int 60])⟩
    · obtain ⟨_, w⟩ := h
      have w : W H (MM 1 al) TT := w
      refine ⟨_, rfl, r, _, _, _, rfl, w.c r, T.o_Sender.cl, T.o_Sender.na _ (List.mem_of_getElem? (i := 9) rfl), T.o_Sender.ln, ?_⟩
      rw [fl_add T.o_Sender.nd rfl]
      have w16 := w.n r (.ref al)
      -- pair, latest
      refine ⟨two_le, fun a3 na3 => ?_⟩
      have w17 := w16.newT na3 [.non, .int 0]
      refine ⟨a3, [.non, .int 0], rfl, SqT.of (w17.f (tupA a3 _)), rfl, _, _, rfl, ?_⟩
      refine ⟨_, rfl, r, _, _, _, rfl, w17.c r, T.o_Sender.cl, T.o_Sender.na _ (List.mem_of_getElem? (i := 10) rfl), T.o_Sender.ln, ?_⟩
      rw [fl_add T.o_Sender.nd rfl]
      have w18 := w17.n r .non
      refine ⟨_, _, rfl, ?_⟩
      refine ⟨_, rfl, r, _, _, _, rfl, w18.c r, T.o_Sender.cl, T.o_Sender.na _ (List.mem_of_getElem? (i := 11) rfl), T.o_Sender.ln, ?_⟩
      rw [fl_add T.o_Sender.nd rfl]
      have w19 := w18.n r (.int 0)
      refine ⟨rfl, ?_⟩
      -- count, probe
      refine ⟨two_le, fun a4 na4 => ?_⟩
      have w20 := w19.newT na4 [.int 0, .bl false]
      refine ⟨a4, [.int 0, .bl false], rfl, SqT.of (w20.f (tupA a4 _)), rfl, _, _, rfl, ?_⟩
      refine ⟨_, rfl, r, _, _, _, rfl, w20.c r, T.o_Sender.cl, T.o_Sender.na _ (List.mem_of_getElem? (i := 12) rfl), T.o_Sender.ln, ?_⟩
      rw [fl_add T.o_Sender.nd rfl]
      have w21 := w20.n r (.int 0)
      refine ⟨_, _, rfl, ?_⟩
      refine ⟨_, rfl, r, _, _, _, rfl, w21.c r, T.o_Sender.cl, T.o_Sender.na _ (List.mem_of_getElem? (i := 13) rfl), T.o_Sender.ln, ?_⟩
      rw [fl_add T.o_Sender.nd rfl]
      have w22 := w21.n r (.bl false)
      refine ⟨rfl, ?_⟩
      -- window, knee, grown, mark
      refine r_ixT rfl (w22.f (tupA book [.int b0, .ref th, .int c.grain, .int c.first, .int b4, .int c.gap, .int c.most, .int ls, .int c.most, .ref cu, .int b10, .str c.rule, .int 0])) rfl ⟨1, rfl, by show 4 ≤ sizeLine; decide, fun a5 na5 => ?_⟩
      have w23 := w22.newT na5 [.int c.most, .non, .int 0, .int (-1)]
      refine ⟨a5, [.int c.most, .non, .int 0, .int (-1)], rfl, SqT.of (w23.f (tupA a5 _)), rfl, _, _, rfl, ?_⟩
      refine ⟨_, rfl, r, _, _, _, rfl, w23.c r, T.o_Sender.cl, T.o_Sender.na _ (List.mem_of_getElem? (i := 14) rfl), T.o_Sender.ln, ?_⟩
      rw [fl_add T.o_Sender.nd rfl]
      have w24 := w23.n r (.int c.most)
      refine ⟨_, _, rfl, ?_⟩
      refine ⟨_, rfl, r, _, _, _, rfl, w24.c r, T.o_Sender.cl, T.o_Sender.na _ (List.mem_of_getElem? (i := 15) rfl), T.o_Sender.ln, ?_⟩
      rw [fl_add T.o_Sender.nd rfl]
      have w25 := w24.n r .non
      refine ⟨_, _, rfl, ?_⟩
      refine ⟨_, rfl, r, _, _, _, rfl, w25.c r, T.o_Sender.cl, T.o_Sender.na _ (List.mem_of_getElem? (i := 16) rfl), T.o_Sender.ln, ?_⟩
      rw [fl_add T.o_Sender.nd rfl]
      have w26 := w25.n r (.int 0)
      refine ⟨_, _, rfl, ?_⟩
      refine ⟨_, rfl, r, _, _, _, rfl, w26.c r, T.o_Sender.cl, T.o_Sender.na _ (List.mem_of_getElem? (i := 17) rfl), T.o_Sender.ln, ?_⟩
      rw [fl_add T.o_Sender.nd rfl]
      have w27 := w26.n r (.int (-1))
      refine ⟨rfl, ?_⟩
      -- greatest
      refine ⟨1, rfl, ?_⟩
      refine ⟨_, rfl, r, _, _, _, rfl, w27.c r, T.o_Sender.cl, T.o_Sender.na _ (List.mem_of_getElem? (i := 18) rfl), T.o_Sender.ln, ?_⟩
      rw [fl_add T.o_Sender.nd rfl]
      have w28 := w27.n r (.int (-1))
      -- proving
      refine ⟨_, rfl, fun pp pdx hpp hpdx ne => ?_⟩
      have w29 := W.made (C := He.ga K "Proving") nsProving w28 hpp hpdx ne
      refine ⟨c, pp, pdx, road, _, _, rfl, w29, fun H2 ptk ptl w30 => ⟨rfl, ?_⟩⟩
      refine ⟨_, rfl, r, _, _, _, rfl, w30.c r, T.o_Sender.cl, T.o_Sender.na _ (List.mem_of_getElem? (i := 19) rfl), T.o_Sender.ln, ?_⟩
      rw [fl_add T.o_Sender.nd rfl]
      have w31 := w30.n r (.ref pp)
      refine ⟨_, rfl, ?_⟩
      refine ⟨_, rfl, r, _, _, _, rfl, w31.c r, T.o_Sender.cl, T.o_Sender.na _ (List.mem_of_getElem? (i := 20) rfl), T.o_Sender.ln, ?_⟩
      rw [fl_add T.o_Sender.nd rfl]
      have w32 := w31.n r (.ref book)
      have w33 := w32.k [r, p1, p2, p3, p4, p5, p6, nx, al, pp, ptk, ptl]
      exact k ⟨r, dx, road, data, p1, p2, p3, p4, p5, p6, nx, book, pp, pdx, ptk, ptl⟩ al (fun _ => 0) _ rfl rfl rfl rfl (W.e0 (T := T') w33)
end
end Su


set_option Elab.async false
set_option linter.all false
set_option maxRecDepth 100000
set_option maxHeartbeats 2000000
/-! the sender hears -/
namespace Su
open PySem PySem.Spec PyProof.Rows L2
abbrev heardS (c : Cf) (z : SdS) (G : Nat) (v : V) (al : Addr) : SdS := ⟨v, c.h G - c.s G, z.grown + 1, G, al, 60 + ((G : Int) + 1), z.S, G + 1, G + 1⟩
def spHear (K : PySem.W.Frag) : Sp := fun vs H Q _ => ∃ (c : Cf) (x : SdA) (L : Nat → Addr) (z : SdS) (G : Nat) (o : Option (Fr × Fr)) (ak : Addr) (M : List Cell) (T : List As), vs = [.ref x.s, .int (c.h G), .ref ak] ∧ z.T = G ∧ z.G = G ∧ z.gr = (G : Int) - 1 ∧ z.alv = 60 + G ∧ W H (sdM K c x L z M) T ∧
  (bkA c x.book).φ H ∧ (rdA c x.road).φ H ∧ (ltA z.S L).φ H ∧ (akA ak G).φ H ∧ G < z.S ∧ z.S < 1000 ∧ Heard c G ∧ (prV o z.pair).φ H ∧ SmP o ∧ (c.h G - c.s G).natAbs < 2 ^ 20 ∧
  ∀ v al H', W H' (sdM K c x L (heardS c z G v al) M) (prV (some (nextP o (c.h G - c.s G))) v :: T) → Q .non H'
section
variable {P : Program} {w : World} {K : PySem.W.Frag} {mg : Str → Option Value} {base : Heap}
theorem sc_Sender_hear : FnScope ["self", "now", "ack", "number", "ranges", "grants", "late", "new", "packet", "low", "high", "one", "two"] ["self", "now", "ack"] (defScope s_Sender_hear) := ⟨rfl, rfl, rfl, by decide +kernel, rfl, by decide +kernel, by decide +kernel⟩
theorem ok_Sender_hear (T : Tp K mg base) : Def P w K mg base (.met "Sender" "hear") ["self", "now", "ack"] 6 (spHear K) := by
  refine def_mk T.f_Sender_hear sc_Sender_hear (fun vs H Q E h => ?_) (fun _ _ _ _ _ _ us hl => match us, hl with | [_, _, _], _ => rfl) (fun cdv A outer s H vs Q E hr h => ?_)
  · obtain ⟨c, x, L, z, G, o, ak, M, T', rfl, _⟩ := h; rfl
  · obtain ⟨c, x, L, z, G, o, ak, M, T', rfl, eT, eG, egr, ealv, W0, hb, hrd, hlt, hak, hGS, hS, hH, hp, hsm, hrt, k⟩ := h
    have nd := sc_Sender_hear.nd
    have hu := hu_of hr
    obtain ⟨tO, eO⟩ := T.i_OUT
    obtain ⟨t2, e2⟩ := T.i_TAKEN
    refine ⟨_, pss_cons (ps_asg (pv 2) (pg_tup (n := 4) rfl (pgs_cons (pg_name (i := 3) nd rfl (.inl rfl)) (pgs_cons (pg_name (i := 4) nd rfl (.inl rfl)) (pgs_cons (pg_name (i := 5) nd rfl (.inl rfl)) (pgs_cons (pg_name (i := 6) nd rfl (.inl rfl)) pgs_nil))))))
      (pss_cons (ps_setLc2 (i := 7) (own := [("low", 9), ("high", 10), ("packet", 8)]) (vs1 := [8]) (g := gTup K 2 (gCons (gName 9) (gCons (gName 10) gNil))) (tt := tYes) (wi1 := iRng2 (tCons (tVar 9) (tCons (tOp (rI0 fun i j => .int (i + j)) (tVar 10) (tC (.int 1))) tNil))) (g1 := gName 8)
        (tt1 := tTest (tOp (rIn K false) (tOp (rIxL K) (tFld K (tVar 0) "states") (tVar 8)) (tTup (tCons (tC (.int 0)) (tCons (tC (.int 2)) tNil))))) (te := tVar 8) rfl nd rfl rfl (sw_true rfl rfl rfl (by decide +kernel)) (pi_tup (pv 4)) (blkOk_by (N := ["self", "now", "ack", "number", "ranges", "grants", "late", "new", "packet", "low", "high", "one", "two"]) (sc := defScope s_Sender_hear) (by decide +kernel)) (by decide)
        (fun _ _ _ _ _ => pg_tup (n := 2) rfl (pgs_cons (pg_name (i := 9) nd rfl (.inl rfl)) (pgs_cons (pg_name (i := 10) nd rfl (.inl rfl)) pgs_nil))) (fun _ _ _ _ _ => pts_nil)
        (fun _ _ _ _ _ => pi_range2 rfl T.b_range (pa_cons (pv 9) (pa_cons (pe_op op_add (pv 10) pe_int) pa_nil)))
        (fun _ _ _ _ _ => pg_name (i := 8) nd rfl (.inl rfl))
        (fun _ _ _ _ _ => pts_one (pt_cmpR op_in_seq (pe_ix ix_list (pe_fld (pv 0) rfl) (pv 8) (fun _ _ => rfl)) (pe_tup (pa_cons (pe_glob (v := .int 0) rfl eO ⟨_, rfl⟩) (pa_cons (pe_glob (v := .int 2) rfl e2 ⟨_, rfl⟩) pa_nil))) rfl))
        (fun _ _ _ _ _ => pv 8))
      (pss_cons (ps_if (pw_and (pt_truth (pv 7) (by intro _; rfl)) (pw_and1 (pt_cmpR op_eq (pe_ix ix_list (pv 7) (pe_un un_neg pe_int) (fun _ _ => rfl)) (pe_ix ix_tup (pe_ix ix_tup (pv 4) (pe_un un_neg pe_int) (fun _ _ => rfl)) pe_int (fun _ _ => rfl)) (nomark _)))).pt
        (pss_one (ps_expr (pe_dm (ok_Sender_measure T) hr T.c_Sender T.m_Sender_measure (pv 0) (pa_cons (pe_op op_sub (pe_op op_sub (pv 1) (pe_ix ix_list (pe_fld (pv 0) rfl) (pe_ix ix_list (pv 7) (pe_un un_neg pe_int) (fun _ _ => rfl)) (fun _ _ => rfl))) (pv 6)) pa_nil)))) pss_nil)
      (pss_cons (ps_for PassesOwn.never rfl (pi_list (pv 7)) (pg_name (i := 8) nd rfl (.inl rfl)) (pss_one (ps_expr (pe_dm (ok_Sender_settle T) (hr.mono (by decide)) T.c_Sender T.m_Sender_settle (pv 0) (pa_cons (pv 8) pa_nil)))))
      (pss_cons (ps_if (pt_truth (pv 7) (by intro _; rfl)) (pss_one (ps_fld (pv 0) pe_int rfl)) pss_nil)
      (pss_cons (ps_fld (pv 0) (pe_callB (call_max2 rfl) rfl T.b_max (by decide +kernel) (pa_cons (pe_fld (pv 0) rfl) (pa_cons (pe_ix ix_tup (pe_ix ix_tup (pv 4) (pe_un un_neg pe_int) (fun _ _ => rfl)) pe_int (fun _ _ => rfl)) pa_nil))) rfl)
      (pss_cons (ps_fld (pv 0) (pe_lc (own := [("one", 11), ("two", 12)]) (g := gTup K 2 (gCons (gName 11) (gCons (gName 12) gNil))) (tt := tYes) (te := tCB (fun xs H Q => ∃ i j : Int, xs = [.int i, .int j] ∧ Q (.int (if j > i then j else i)) H) (tCons (tVar 11) (tCons (tVar 12) tNil))) rfl nd (pi_pr rfl T.b_zip (pa_cons (pe_fld (pv 0) rfl) (pa_cons (pv 5) pa_nil))) (blkOk_by (N := ["self", "now", "ack", "number", "ranges", "grants", "late", "new", "packet", "low", "high", "one", "two"]) (sc := defScope s_Sender_hear) (by decide +kernel))
        (fun _ _ _ _ _ => pg_tup (n := 2) rfl (pgs_cons (pg_name (i := 11) nd rfl (.inl rfl)) (pgs_cons (pg_name (i := 12) nd rfl (.inl rfl)) pgs_nil))) (fun _ _ _ _ _ => pts_nil) (fun _ _ _ _ _ => pe_callB (call_max2 rfl) rfl T.b_max (by decide +kernel) (pa_cons (pv 11) (pa_cons (pv 12) pa_nil)))) rfl)
      (pss_one (ps_expr (pe_dm (ok_Proving_hear T) (hr.mono (by decide)) T.c_Proving T.m_Proving_hear (pe_fld (pv 0) rfl) (pa_cons (pv 1) (pa_cons (pv 2) (pa_cons (pe_fld (pv 0) rfl) pa_nil)))))))))))), ?_⟩
    obtain ⟨pair, lat, grown, gr0, al, alv, S, zT, zG⟩ := z
    dsimp only at eT eG egr ealv hGS hS W0 hlt hp k
    subst eT eG egr ealv
    have hak0 := hak
    obtain ⟨rg, r, gr, h1, h2, h3, h4⟩ := hak
    have w0 := (((((((W0.say (bkA c x.book) hb).say (rdA c x.road) hrd).say (ltA S L) hlt).say (akA ak zG) hak0).say (tupA ak _) h1).say (tupA rg _) h2).say (tupA r _) h3).say (tupA gr _) h4 |>.say (prV o pair) hp
    let TT : List As := prV o pair :: tupA gr [.int ((zG : Int) + 1 + 60)] :: tupA r [.int 0, .int zG] :: tupA rg [.ref r] :: tupA ak [.int zG, .ref rg, .ref gr, .int 0] :: akA ak zG :: ltA S L :: rdA c x.road :: bkA c x.book :: T'
    let z0 : SdS := ⟨pair, lat, grown, (zG : Int) - 1, al, 60 + zG, S, zG, zG⟩
    have w00 : W H (sdM K c x L z0 M) TT := w0
    clear w0
    let σA : Option V → Option V → L2.St := fun a b => [some (.ref x.s), some (.int (c.h zG)), some (.ref ak), some (.int zG), some (.ref rg), some (.ref gr), some (.int 0), a, b, none, none, none, none]
    let MD : Addr → List V → List Cell := fun D ys => sdM K c x L z0 ((D, .lst ys) :: M)
    refine seq_mid (fun σ H => σ = σA none none ∧ W H (sdM K c x L z0 M) TT) (fun σ H z => ?tail1) (fun D' hD' _ => ?stmt1)
    case stmt1 => exact ⟨_, rfl, ak, [.int zG, .ref rg, .ref gr, .int 0], rfl, SqT.of (w00.f (tupA ak [.int zG, .ref rg, .ref gr, .int 0])), rfl, _, _, rfl, _, _, rfl, _, _, rfl, _, _, rfl, rfl, hD' _ _ ⟨rfl, w00⟩⟩
    obtain ⟨rfl, w0⟩ := z
    clear w00
    refine seq_mid (fun σ H => ∃ D, σ = σA (some (.ref D)) none ∧ W H (MD D [.int zG]) TT) (fun σ H z => ?tail2) (fun D' hD' _ => ?stmt2)
    case stmt2 =>
      refine ⟨_, rfl, rg, rfl, ⟨_, SqT.of (w0.f (tupA rg [.ref r]))⟩, fun D hD => ?_⟩
      have w1 : W _ (MD D []) TT := (w0.new hD (.lst [])).k [x.s, x.sent, x.lets, x.sts, x.go, x.stl, x.an, x.nx, al, x.pp, x.ptk, x.ptl]
      refine ⟨fun i m H => (i = 0 ∧ m = 1 ∧ W H (MD D []) TT) ∨ (i = 1 ∧ m = 0 ∧ W H (MD D [.int zG]) TT), ⟨1, .inl ⟨rfl, rfl, w1⟩⟩, ?_⟩
      rintro i m H (⟨rfl, rfl, w⟩ | ⟨rfl, rfl, w⟩)
      · refine .inr ⟨⟨[.ref r], .ref r, SqT.of (w.f (tupA rg [.ref r])), rfl⟩, fun H => W H (MD D [.int zG]) TT, fun H' n => ⟨0, by decide, .inr ⟨rfl, rfl, n⟩⟩, fun v H' y => ?_⟩
        obtain ⟨rfl, y⟩ := y
        obtain rfl : V.ref r = v := Option.some.inj (y [.ref r] (SqT.of (w.f (tupA rg [.ref r]))))
        refine ⟨r, [.int 0, .int zG], rfl, SqT.of (w.f (tupA r [.int 0, .int zG])), rfl, _, _, rfl, _, _, rfl, rfl, rfl, ?_⟩
        dsimp only [tYes]
        rw [if_pos rfl]
        refine ⟨_, rfl, _, rfl, _, _, rfl, rfl, 0, _, rfl, ⟨by decide, by decide, by omega, by omega⟩, ?_⟩
        rw [show ((zG : Int) + 1 - 0).toNat = zG + 1 from by omega]
        refine ⟨fun j m H => m = zG + 1 - j ∧ j ≤ zG + 1 ∧ (j ≤ zG ∧ W H (MD D []) TT ∨ j = zG + 1 ∧ W H (MD D [.int zG]) TT), ⟨zG + 1, rfl, Nat.zero_le _, .inl ⟨Nat.zero_le _, w⟩⟩, ?_⟩
        rintro j m H ⟨rfl, hj, ⟨hj1, w⟩ | ⟨rfl, w⟩⟩
        · refine .inr ⟨by show j < zG + 1; omega, fun H => j + 1 ≤ zG ∧ W H (MD D []) TT ∨ j + 1 = zG + 1 ∧ W H (MD D [.int zG]) TT, fun H' n => ⟨zG + 1 - (j + 1), by omega, rfl, by omega, n⟩, fun v H' y => ?_⟩
          obtain ⟨rfl, rfl⟩ := y
          rw [show (0 : Int) + (j : Int) = j from Int.zero_add _]
          refine ⟨rfl, ?_⟩
          refine r_fld (k := 4) T.o_Sender rfl (w.c x.s) rfl rfl ⟨_, rfl, _, _, _, _, rfl, rfl, SqL.of (w.c x.sts), atI_lF (show j < S by omega), two_le, fun tp htp => ?_⟩
          have w2 := w.newT htp [.int 0, .int 2]
          refine ⟨tp, [.int 0, .int 2], rfl, .inr (SqT.of (w2.f (tupA tp _))), rfl, rfl, _, rfl, ?_⟩
          by_cases hlt2 : j < zG
          · rw [show (if (false : Bool) = true then !inV (stF zG j) [V.int 0, V.int 2] else inV (stF zG j) [V.int 0, V.int 2]) = false from by show inV (V.int (if j < zG then 1 else 0)) [V.int 0, V.int 2] = false; rw [if_pos hlt2]; rfl]
            exact iteF (.inl ⟨hlt2, W.e0 (T := TT) w2⟩)
          · obtain rfl : j = zG := by omega
            rw [show (if (false : Bool) = true then !inV (stF j j) [V.int 0, V.int 2] else inV (stF j j) [V.int 0, V.int 2]) = true from by show inV (V.int (if j < j then 1 else 0)) [V.int 0, V.int 2] = true; rw [if_neg hlt2]; rfl]
            refine iteT ⟨_, rfl, [], w2.c D, by decide, .inr ⟨rfl, W.e0 (T := TT) (w2.p D (.lst [.int j]))⟩⟩
        · exact .inl ⟨Nat.le_refl _, w⟩
      · exact .inl ⟨⟨[.ref r], SqT.of (w.f (tupA rg [.ref r])), Nat.le_refl _⟩, hD' _ _ ⟨D, rfl, w⟩⟩
    obtain ⟨D, rfl, w1⟩ := z
    clear w0
    -- measure
    let z1 : V → SdS := fun v => ⟨v, c.h zG - c.s zG, grown, (zG : Int) - 1, al, 60 + zG, S, zG, zG⟩
    let T1 : V → List As := fun v => prV (some (nextP o (c.h zG - c.s zG))) v :: TT
    let MN : List Cell := (D, .lst [.int zG]) :: M
    refine seq_mid (fun σ H => ∃ v, σ = σA (some (.ref D)) none ∧ W H (sdM K c x L (z1 v) MN) (T1 v)) (fun σ H z => ?tail3) (fun D' hD' _ => ?stmt3)
    case stmt3 =>
      refine ⟨_, rfl, _, .inl ⟨_, SqL.of (w1.c D), rfl⟩, iteT ?_⟩
      refine ⟨_, rfl, 1, rfl, _, _, _, _, rfl, rfl, SqL.of (w1.c D), rfl, _, rfl, 1, rfl, _, _, _, _, rfl, rfl, SqT.of (w1.f (tupA rg [.ref r])), rfl, _, _, _, _, rfl, rfl, SqT.of (w1.f (tupA r [.int 0, .int zG])), rfl, rfl, _, rfl, ?_⟩
      rw [decide_eq_true rfl]
      refine iteT ?_
      refine ⟨_, rfl, x.s, x.dx, _, rfl, w1.c x.s, fl_no (by decide +kernel), _, rfl, r_fld (k := 2) T.o_Sender rfl (w1.c x.s) rfl rfl ⟨_, rfl, 1, rfl, _, _, _, _, rfl, rfl, SqL.of (w1.c D), rfl, _, _, _, _, rfl, rfl, SqL.of (w1.c x.sent), atI_lF hGS, _, _, rfl, rfl, _, rfl, _, _, rfl, rfl, ?_⟩⟩
      dsimp only
      rw [Int.sub_zero]
      exact ⟨c, x, L, z0, o, c.h zG - c.s zG, MN, TT, rfl, w1, w1.f (prV o pair), hsm, hrt, fun v H1 w2 => hD' _ _ ⟨v, rfl, w2⟩⟩
    obtain ⟨v, rfl, w2⟩ := z
    clear w1
    -- settle
    let z2 : SdS := ⟨v, c.h zG - c.s zG, grown + 1, (zG : Int) - 1, al, 60 + zG, S, zG + 1, zG⟩
    refine seq_mid (fun σ H => ∃ b, σ = σA (some (.ref D)) b ∧ W H (sdM K c x L z2 MN) (T1 v)) (fun σ H z => ?tail4) (fun D' hD' _ => ?stmt4)
    case stmt4 =>
      refine ⟨_, rfl, D, rfl, ⟨_, SqL.of (w2.c D)⟩, ?_⟩
      refine for_list (xs := [.int zG]) (fun i σ H => i = 0 ∧ σ = σA (some (.ref D)) none ∧ W H (sdM K c x L (z1 v) MN) (T1 v) ∨ i = 1 ∧ ∃ b, σ = σA (some (.ref D)) b ∧ W H (sdM K c x L z2 MN) (T1 v)) (.inl ⟨rfl, rfl, w2⟩) (fun i σ H hi h => ?_) (fun i y σ H hy h => ?_) (fun σ H h => ?_)
      · rcases h with ⟨_, _, w⟩ | ⟨_, _, _, w⟩
        · exact SqL.of (w.c D)
        · exact SqL.of (w.c D)
      · rcases h with ⟨rfl, rfl, w⟩ | ⟨rfl, _⟩
        · cases hy
          refine ⟨_, rfl, x.s, x.dx, _, rfl, w.c x.s, fl_no (by decide +kernel), _, rfl, c, x, L, z1 v, MN, T1 v, rfl, w, w.f (bkA c x.book), w.f (ltA S L), hGS, hS, fun H1 w3 => ?_⟩
          exact .inr ⟨rfl, _, rfl, w3⟩
        · cases hy
      · rcases h with ⟨h0, _⟩ | ⟨_, b, rfl, w⟩
        · cases h0
        · exact hD' _ _ ⟨b, rfl, w⟩
    obtain ⟨b, rfl, w3⟩ := z
    clear w2
    -- count
    refine seq_mid (fun σ H => σ = σA (some (.ref D)) b ∧ W H (sdM K c x L z2 MN) (T1 v)) (fun σ H z => ?tail5) (fun D' hD' _ => ?stmt5)
    case stmt5 =>
      refine ⟨_, rfl, _, .inl ⟨_, SqL.of (w3.c D), rfl⟩, iteT ?_⟩
      refine ⟨_, rfl, x.s, _, _, _, rfl, w3.c x.s, T.o_Sender.cl, T.o_Sender.na _ (List.mem_of_getElem? (i := 12) rfl), T.o_Sender.ln, ?_⟩
      rw [fl_put (k := 12) T.o_Sender.nd rfl (by simp)]
      exact hD' _ _ ⟨rfl, w3.s x.s 12 (.int 0)⟩
    obtain ⟨rfl, w4⟩ := z
    clear w3
    -- greatest
    let z3 : SdS := ⟨v, c.h zG - c.s zG, grown + 1, (zG : Int), al, 60 + zG, S, zG + 1, zG⟩
    refine seq_mid (fun σ H => σ = σA (some (.ref D)) b ∧ W H (sdM K c x L z3 MN) (T1 v)) (fun σ H z => ?tail6) (fun D' hD' _ => ?stmt6)
    case stmt6 =>
      refine r_fld (k := 18) T.o_Sender rfl (w4.c x.s) rfl rfl ⟨_, rfl, 1, rfl, _, _, _, _, rfl, rfl, SqT.of (w4.f (tupA rg [.ref r])), rfl, _, _, _, _, rfl, rfl, SqT.of (w4.f (tupA r [.int 0, .int zG])), rfl, _, _, rfl, ?_⟩
      rw [if_pos (show (zG : Int) > (zG : Int) - 1 by omega)]
      refine ⟨_, rfl, x.s, _, _, _, rfl, w4.c x.s, T.o_Sender.cl, T.o_Sender.na _ (List.mem_of_getElem? (i := 18) rfl), T.o_Sender.ln, ?_⟩
      rw [fl_put (k := 18) T.o_Sender.nd rfl (by simp)]
      exact hD' _ _ ⟨rfl, w4.s x.s 18 (.int (zG : Int))⟩
    obtain ⟨rfl, w5⟩ := z
    clear w4
    -- allowed
    let z4 : Addr → SdS := fun al => ⟨v, c.h zG - c.s zG, grown + 1, (zG : Int), al, 60 + ((zG : Int) + 1), S, zG + 1, zG⟩
    refine seq_mid (fun σ H => ∃ al', σ = σA (some (.ref D)) b ∧ W H (sdM K c x L (z4 al') MN) (T1 v)) (fun σ H z => ?tail7) (fun D' hD' _ => ?stmt7)
    case stmt7 =>
      refine r_fld (k := 9) T.o_Sender rfl (w5.c x.s) rfl rfl ⟨_, rfl, al, gr, _, _, rfl, SqL.of (w5.c al), SqT.of (w5.f (tupA gr [.int ((zG : Int) + 1 + 60)])), fun al' hal => ?_⟩
      have w6 := w5.new hal (.lst [])
      refine lc_pr1 (fun H => W H ((al', .lst [.int (60 + ((zG : Int) + 1))]) :: sdM K c x L z3 MN) (T1 v)) (SqL.of (w6.c al)) (SqT.of (w6.f (tupA gr [.int ((zG : Int) + 1 + 60)]))) (fun H w => ⟨SqL.of (w.c al), SqT.of (w.f (tupA gr [.int ((zG : Int) + 1 + 60)]))⟩) (fun tp htp => ?_) (fun H w => ?_)
      · have w7 := w6.newT htp [.int (60 + zG), .int ((zG : Int) + 1 + 60)]
        refine ⟨tp, [.int (60 + zG), .int ((zG : Int) + 1 + 60)], rfl, SqT.of (w7.f (tupA tp _)), rfl, _, _, rfl, _, _, rfl, rfl, rfl, ?_⟩
        dsimp only [tYes]
        rw [if_pos rfl]
        refine ⟨_, rfl, _, rfl, _, _, rfl, ?_⟩
        rw [if_pos (show (zG : Int) + 1 + 60 > 60 + (zG : Int) by omega)]
        refine ⟨[], w7.c al', by decide, ?_⟩
        rw [show (zG : Int) + 1 + 60 = 60 + ((zG : Int) + 1) from by omega]
        have w8 := W.e0 (T := T1 v) (w7.p al' (.lst [.int (60 + ((zG : Int) + 1))]))
        rw [show (zG : Int) + 1 + 60 = 60 + ((zG : Int) + 1) from by omega] at w8
        exact w8
      · refine ⟨_, rfl, x.s, _, _, _, rfl, w.c x.s, T.o_Sender.cl, T.o_Sender.na _ (List.mem_of_getElem? (i := 9) rfl), T.o_Sender.ln, ?_⟩
        rw [fl_put (k := 9) T.o_Sender.nd rfl (by simp)]
        have w7 := (w.s x.s 9 (.ref al')).x al
        exact hD' _ _ ⟨al', rfl, w7.k [x.s, x.sent, x.lets, x.sts, x.go, x.stl, x.an, x.nx, al', x.pp, x.ptk, x.ptl]⟩
    obtain ⟨al', rfl, w6⟩ := z
    clear w5
    -- the proofs
    have w7 := w6.k [x.pp, x.ptk, x.ptl]
    refine r_fld (k := 19) T.o_Sender rfl (w7.c x.s) rfl rfl ⟨x.pp, x.pdx, _, rfl, w7.c x.pp, fl_no (by decide +kernel), _, rfl, _, rfl, r_fld (k := 2) T.o_Sender rfl (w7.c x.s) rfl rfl ⟨c, x.pv, zG, S, ak, x.sent, _, _, rfl, w7, w7.f (rdA c x.road), w7.f (akA ak zG), inferInstance, hGS, hS, hH, fun H1 w8 => ?_⟩⟩
    have w9 := w8.k [x.s, x.sent, x.lets, x.sts, x.go, x.stl, x.an, x.nx, al', x.pp, x.ptk, x.ptl]
    have w10 : W H1 (sdM K c x L (heardS c z0 zG v al') MN) (T1 v) := w9
    exact k v al' _ (W.e (T := T') (w10.x D) (prV (some (nextP o (c.h zG - c.s zG))) v) (w10.f _))
end
end Su


set_option Elab.async false
set_option linter.all false
set_option maxRecDepth 100000
set_option maxHeartbeats 2000000
/-! nothing is taken for lost, the timer does not fire -/
namespace Su
open PySem PySem.Spec PyProof.Rows L2
theorem oF_len (a b : Nat) : (oF a b).length = b - a := by unfold oF; simp
theorem oF_at {a b i : Nat} (h : i < b - a) : (oF a b)[i]? = some (V.int ((a + i : Nat) : Int)) := by
  unfold oF; rw [List.getElem?_map, List.getElem?_range' h]; simp
theorem oF_nil {a b : Nat} (h : b ≤ a) : oF a b = [] := by unfold oF; rw [Nat.sub_eq_zero_of_le h]; rfl
theorem oF_em {a b : Nat} : (oF a b).isEmpty = decide (b ≤ a) := by
  by_cases h : b ≤ a
  · rw [oF_nil h, decide_eq_true h]; rfl
  · rw [decide_eq_false h]
    have q := oF_len a b
    cases e : oF a b with
    | nil => rw [e] at q; simp at q; omega
    | cons _ _ => rfl
theorem lenV_sm {c : Cf} {o : Option (Fr × Fr)} (hs : SmP o) (hg : c.grain.natAbs < 2 ^ 20) (hf : c.first.natAbs < 2 ^ 20) : Sm 700 (lenV c o) := by
  cases o with
  | none =>
    refine (int_sm (n := 24) ?_ (by decide)).mono (by decide)
    show (c.first + (if 2 * c.first > c.grain then 2 * c.first else c.grain) + 0).natAbs < 2 ^ 24
    split <;> omega
  | some y => exact (plus_sm (m := 604) (n := 1) (plus_sm (m := 300) (n := 303) hs.1 (max_sm ((int_sm hg (by decide)).mono (by decide)) ((prod_sm (m := 3) (n := 300) ⟨by decide, by decide, by decide⟩ hs.2).mono (by decide)))) ⟨by decide, by decide, by decide⟩).mono (by decide)
/-- by what stands in the sender's z at now: no packet that is out is shown lost -/
def Calm (c : Cf) (z : SdS) (now : Int) : Prop := Now c z.G now ∧ z.T = z.G ∧ z.gr = (z.G : Int) - 1 ∧ z.S < 1000 ∧ ∀ n, z.G ≤ n → n < z.S → NoLoss now c.hi (c.hi + c.lo) (bndV c z.G) (c.s n)
def spLost (K : PySem.W.Frag) : Sp := fun vs H Q _ => ∃ (c : Cf) (x : SdA) (L : Nat → Addr) (z : SdS) (now : Int) (M : List Cell) (T : List As), vs = [.ref x.s, .int now] ∧ Calm c z now ∧ W H (sdM K c x L z M) T ∧ (bkA c x.book).φ H ∧ (rdA c x.road).φ H ∧ ∀ l H', W H' ((l, .lst []) :: sdM K c x L z M) T → Q (.ref l) H'
def spWritten (K : PySem.W.Frag) : Sp := fun vs H Q _ => ∃ (c : Cf) (x : SdA) (L : Nat → Addr) (z : SdS) (now : Int) (M : List Cell) (T : List As), vs = [.ref x.s, .int now, .int 0] ∧ W H (sdM K c x L z M) T ∧ (dtA c x.data).φ H ∧ 0 ≤ now ∧ Q (.bl (decide (z.S < c.short))) H
def spTimer (K : PySem.W.Frag) : Sp := fun vs H Q _ => ∃ (c : Cf) (x : SdA) (L : Nat → Addr) (z : SdS) (o : Option (Fr × Fr)) (now : Int) (M : List Cell) (T : List As), vs = [.ref x.s, .int now] ∧ W H (sdM K c x L z M) T ∧ (bkA c x.book).φ H ∧ (prV o z.pair).φ H ∧ SmP o ∧ c.grain.natAbs < 2 ^ 20 ∧ c.first.natAbs < 2 ^ 20 ∧
  (∀ n, z.S = n + 1 → z.T < z.S → (now - c.s n).natAbs < 2 ^ 20 ∧ lessF (now - c.s n, 1) (prodF (lenV c o) (1, 1)) = true) ∧ ∀ H', W H' (sdM K c x L z M) T → Q (.bl false) H'
section
variable {P : Program} {w : World} {K : PySem.W.Frag} {mg : Str → Option Value} {base : Heap}
theorem sc_Sender_is_written : FnScope ["self", "now", "stream", "ticks"] ["self", "now", "stream"] (defScope s_Sender_is_written) := ⟨rfl, rfl, rfl, by decide +kernel, rfl, by decide +kernel, by decide +kernel⟩
theorem ok_Sender_is_written (T : Tp K mg base) : Def P w K mg base (.met "Sender" "is_written") ["self", "now", "stream"] 1 (spWritten K) := by
  refine def_mk T.f_Sender_is_written sc_Sender_is_written (fun vs H Q E h => ?_) (fun _ _ _ _ _ _ us hl => match us, hl with | [_, _, _], _ => rfl) (fun cdv A outer s H vs Q E hr h => ?_)
  · obtain ⟨c, x, L, z, now, M, T', rfl, _⟩ := h; rfl
  · obtain ⟨c, x, L, z, now, M, T', rfl, w0, ⟨st, tk, h1, h2, h3⟩, hn, k⟩ := h
    have nd := sc_Sender_is_written.nd
    refine ⟨_, pss_cons (ps_set (i := 3) nd rfl (.inl rfl) (pe_ix ix_tup (pe_ix ix_tup (pe_fld (pv 0) rfl) (pv 2) (fun _ _ => rfl)) pe_int (fun _ _ => rfl)))
      (pss_one (ps_ret (pe_and (pe_cmpR op_lt (pe_ix ix_list (pe_fld (pv 0) rfl) (pv 2) (fun _ _ => rfl)) (pe_callB call_len_seq rfl T.b_len boot_len (pa_cons (pv 3) pa_nil)) (nomark _)) (pe_one (pe_cmpR op_le (pe_ix ix_tup (pv 3) (pe_ix ix_list (pe_fld (pv 0) rfl) (pv 2) (fun _ _ => rfl)) (fun _ _ => rfl)) (pv 1) (nomark _)))))), ?_⟩
    refine r_fld (k := 1) T.o_Sender rfl (w0.c x.s) rfl rfl ⟨_, rfl, _, _, _, _, rfl, rfl, SqT.of h1, rfl, _, _, _, _, rfl, rfl, SqT.of h2, rfl, ?_⟩
    dsimp only
    refine r_fld (k := 8) T.o_Sender rfl (w0.c x.s) rfl rfl ⟨_, rfl, _, _, _, _, rfl, rfl, SqL.of (w0.c x.nx), rfl, _, rfl, tk, _, rfl, .inr (SqT.of h3), _, _, rfl, rfl, _, rfl, ?_⟩
    rw [List.length_replicate]
    by_cases hlt : z.S < c.short
    · rw [decide_eq_true hlt] at k
      rw [decide_eq_true (show (z.S : Int) < (c.short : Int) by omega)]
      refine iteT ?_
      refine ⟨_, rfl, r_fld (k := 8) T.o_Sender rfl (w0.c x.s) rfl rfl ⟨_, rfl, _, _, _, _, rfl, rfl, SqL.of (w0.c x.nx), rfl, _, _, _, _, rfl, rfl, SqT.of h3, atI_nat (j := z.S) (by rw [List.getElem?_replicate, if_pos hlt]), _, rfl, _, _, rfl, rfl, ?_⟩⟩
      show Q (.bl (decide ((0 : Int) ≤ now))) H
      rw [decide_eq_true hn]; exact k
    · rw [decide_eq_false hlt] at k
      rw [decide_eq_false (show ¬ (z.S : Int) < (c.short : Int) by omega)]
      exact iteF k
theorem sc_Sender_timer : FnScope ["self", "now", "due"] ["self", "now"] (defScope s_Sender_timer) := ⟨rfl, rfl, rfl, by decide +kernel, rfl, by decide +kernel, by decide +kernel⟩
theorem ok_Sender_timer (T : Tp K mg base) : Def P w K mg base (.met "Sender" "timer") ["self", "now"] 6 (spTimer K) := by
  refine def_mk T.f_Sender_timer sc_Sender_timer (fun vs H Q E h => ?_) (fun _ _ _ _ _ _ us hl => match us, hl with | [_, _], _ => rfl) (fun cdv A outer s H vs Q E hr h => ?_)
  · obtain ⟨c, x, L, z, o, now, M, T', rfl, _⟩ := h; rfl
  · obtain ⟨c, x, L, z, o, now, M, T', rfl, W0, hb0, hp, hsm, hg, hf, hl, k⟩ := h
    have nd := sc_Sender_timer.nd
    obtain ⟨b0, b4, ls, b10, th, cu, hb⟩ := id hb0
    refine ⟨_, pss_cons (ps_if (pw_or (pt_truth (pe_fld (pv 0) rfl) (by intro _; rfl)) (pw_or1 (pt_not (pt_truth (pe_dm0 (ok_Sender_out T) (hr.mono (by decide)) T.c_Sender T.m_Sender_out (pv 0)) (by intro _; rfl))))).pt (pss_one (ps_ret pe_bl)) pss_nil)
      (pss_cons (ps_set (i := 2) nd rfl (.inl rfl) (pe_d (ok_product T) (hr.mono (by decide)) T.g_product (pa_cons (pe_dm0 (ok_Sender_length T) (hr.mono (by decide)) T.c_Sender T.m_Sender_length (pv 0)) (pa_cons (pe_tup (pa_cons (pe_ifExp (pt_cmpR op_eq (pe_ix ix_tup (pe_fld (pv 0) rfl) pe_int (fun _ _ => rfl)) pe_int (nomark _)) (pe_op op_shl pe_int (pe_fld (pv 0) rfl)) pe_int) (pa_cons pe_int pa_nil))) pa_nil))))
      (pss_cons (ps_if (pt_val (pe_d (ok_is_less T) (hr.mono (by decide)) T.g_is_less (pa_cons (pe_tup (pa_cons (pe_op op_sub (pv 1) (pe_ix ix_list (pe_fld (pv 0) rfl) (pe_un un_neg pe_int) (fun _ _ => rfl))) (pa_cons pe_int pa_nil))) (pa_cons (pv 2) pa_nil)))) (pss_one (ps_ret pe_bl)) pss_nil) pss_never)), ?_⟩
    have w0 := ((W0.say (bkA c x.book) hb0).say (prV o z.pair) hp).say (tupA x.book _) hb
    refine r_fld (k := 13) T.o_Sender rfl (w0.c x.s) rfl rfl ⟨_, rfl, iteF ?_⟩
    refine ⟨_, rfl, x.s, x.dx, _, rfl, w0.c x.s, fl_no (by decide +kernel), c, x, L, z, M, _, rfl, w0, fun oo H1 w1 => ?_⟩
    refine ⟨_, .inl ⟨_, SqL.of (w1.c oo), rfl⟩, ?_⟩
    rw [oF_em]
    by_cases hTS : z.S ≤ z.T
    · rw [decide_eq_true hTS]
      exact iteT (k _ (W.e0 (T := T') (w1.x oo)))
    · rw [decide_eq_false hTS]
      refine iteF ?_
      have w2 := w1.x oo
      obtain ⟨n, hn⟩ : ∃ n, z.S = n + 1 := ⟨z.S - 1, by omega⟩
      obtain ⟨hl1, hl2⟩ := hl n hn (by omega)
      refine ⟨_, rfl, x.s, x.dx, _, rfl, w2.c x.s, fl_no (by decide +kernel), c, x, L, z, o, M, _, rfl, w2, w2.f (bkA c x.book), w2.f (prV o z.pair), hsm, hg, fun lp H2 w3 => ?_⟩
      have hb2 := w3.st (tupA x.book _) (List.mem_cons_of_mem _ List.mem_cons_self)
      refine r_fld (k := 20) T.o_Sender rfl (w3.c x.s) rfl rfl ⟨_, _, _, _, rfl, rfl, SqT.of hb2, rfl, rfl, _, rfl, ?_⟩
      refine ite_pick (fun _ zz => r_fld (k := 12) T.o_Sender rfl (w3.c x.s) rfl rfl ⟨_, _, rfl, rfl, ⟨by decide, by decide, by decide⟩, zz⟩) (fun _ zz => zz) ⟨two_le, fun p1 hp1 => ?_⟩
      have w4 : W _ (sdM K c x L z M) (frA p1 (1, 1) :: _) := w3.newT hp1 _
      have sl := lenV_sm hsm hg hf
      have s11 : Sm 1000 ((1, 1) : Fr) := ⟨by decide, by decide, by decide⟩
      refine ⟨lp, p1, lenV c o, (1, 1), _, _, rfl, w4, w4.f _, w4.f _, sl.mono (by decide), s11, fun dp H3 w5 => ?_⟩
      dsimp only
      refine ⟨_, rfl, r_fld (k := 2) T.o_Sender rfl (w5.c x.s) rfl rfl ⟨1, rfl, _, _, _, _, rfl, rfl, SqL.of (w5.c x.sent), by rw [hn]; exact atI_last, _, _, rfl, rfl, two_le, fun np hnp => ?_⟩⟩
      have w6 : W _ (sdM K c x L z M) (frA np (now - c.s n, 1) :: _) := w5.newT hnp _
      refine ⟨_, rfl, np, dp, (now - c.s n, 1), prodF (lenV c o) (1, 1), rfl, w6.f _, w6.f _, (int_sm hl1 (by decide)).mono (by decide), (prod_sm (m := 700) (n := 2) sl ⟨by decide, by decide, by decide⟩).mono (by decide), _, rfl, ?_⟩
      rw [hl2]
      exact iteT (k _ (W.e0 (T := T') w6))
theorem sc_Sender_lost_now : FnScope ["self", "now", "rule", "out", "shown", "found", "number"] ["self", "now"] (defScope s_Sender_lost_now) := ⟨rfl, rfl, rfl, by decide +kernel, rfl, by decide +kernel, by decide +kernel⟩
theorem ok_Sender_lost_now (T : Tp K mg base) : Def P w K mg base (.met "Sender" "lost_now") ["self", "now"] 5 (spLost K) := by
  refine def_mk T.f_Sender_lost_now sc_Sender_lost_now (fun vs H Q E h => ?_) (fun _ _ _ _ _ _ us hl => match us, hl with | [_, _], _ => rfl) (fun cdv A outer s H vs Q E hr h => ?_)
  · obtain ⟨c, x, L, z, now, M, T', rfl, _⟩ := h; rfl
  · obtain ⟨c, x, L, z, now, M, T', rfl, ⟨hN, hT, hgr, hS, hno⟩, W0, hb0, hrd, k⟩ := h
    have nd := sc_Sender_lost_now.nd
    obtain ⟨b0, b4, ls, b10, th, cu, hb⟩ := id hb0
    refine ⟨_, pss_cons (ps_set (i := 2) nd rfl (.inr rfl) (pe_ix ix_tup (pe_fld (pv 0) rfl) pe_int (fun _ _ => rfl)))
      (pss_cons (ps_set (i := 3) nd rfl (.inl rfl) (pe_dm0 (ok_Sender_out T) (hr.mono (by decide)) T.c_Sender T.m_Sender_out (pv 0)))
      (pss_cons (ps_if (pt_not (pt_truth (pv 3) (by intro _; rfl))) (pss_one (ps_ret (pe_lst pa_nil))) pss_nil)
      (pss_cons (ps_if (pt_cmpR op_ne (pv 2) pe_str (nomark _))
        (pss_cons (ps_set (i := 4) nd rfl (.inr rfl) (pe_dm (ok_Proving_shown T) (hr.mono (by decide)) T.c_Proving T.m_Proving_shown (pe_fld (pv 0) rfl) (pa_cons (pv 1) (pa_cons (pv 2) (pa_cons (pe_fld (pv 0) rfl) (pa_cons (pe_ix ix_tup (pe_fld (pv 0) rfl) pe_int (fun _ _ => rfl)) pa_nil))))))
        (pss_one (ps_ret (pe_lc (own := [("number", 6)]) (g := gName 6) (tt := tB (tMeth (He.ga K "Shown") "is_lost" (spNoLoss K) [] E0 (tVar 4) (tCons (tVar 6) tNil))) (te := tNo) rfl nd (pi_list (pv 3)) (blkOk_by (N := ["self", "now", "rule", "out", "shown", "found", "number"]) (sc := defScope s_Sender_lost_now) (by decide +kernel)) (fun _ _ _ _ _ => pg_name (i := 6) nd rfl (.inl rfl))
          (fun _ _ _ _ _ => pts_one (pt_val (pe_dm (ok_Shown_is_lost T) (hr.mono (by decide)) T.c_Shown T.m_Shown_is_lost (pv 4) (pa_cons (pv 6) pa_nil)))) (fun _ _ _ _ _ => pe_no))))) pss_nil)
      (pss_cons (ps_set (i := 5) nd rfl (.inl rfl) (pe_lst pa_nil))
      (pss_cons (ps_for PassesOwn.never rfl (pi_list (pv 3)) (pg_name (i := 6) nd rfl (.inl rfl)) (pss_one (ps_if (pt_cmpR op_lt (pv 6) (pe_fld (pv 0) rfl) (nomark _)) pss_never pss_nil)))
      (pss_one (ps_ret (pv 5)))))))), ?_⟩
    have w0 := ((W0.say (bkA c x.book) hb0).say (rdA c x.road) hrd).say (tupA x.book _) hb
    let TT : List As := tupA x.book [.int b0, .ref th, .int c.grain, .int c.first, .int b4, .int c.gap, .int c.most, .int ls, .int c.most, .ref cu, .int b10, .str c.rule, .int 0] :: rdA c x.road :: bkA c x.book :: T'
    have w00 : W H (sdM K c x L z M) TT := w0
    clear w0
    let σA : Option V → Option V → Option V → Option V → L2.St := fun a d e f => [some (.ref x.s), some (.int now), some (.str c.rule), a, d, e, f]
    let MO : Addr → List Cell := fun oo => sdM K c x L z ((oo, .lst (oF z.T z.S)) :: M)
    refine seq_mid (fun σ H => σ = σA none none none none ∧ W H (sdM K c x L z M) TT) (fun σ H y => ?tail1) (fun D' hD' _ => ?stmt1)
    case stmt1 => exact r_fld (k := 20) T.o_Sender rfl (w00.c x.s) rfl rfl ⟨_, _, _, _, rfl, rfl, SqT.of hb, rfl, hD' _ _ ⟨rfl, w00⟩⟩
    obtain ⟨rfl, w0⟩ := y
    clear w00
    refine seq_mid (fun σ H => ∃ oo, σ = σA (some (.ref oo)) none none none ∧ W H (MO oo) TT) (fun σ H y => ?tail2) (fun D' hD' _ => ?stmt2)
    case stmt2 =>
      exact ⟨_, rfl, x.s, x.dx, _, rfl, w0.c x.s, fl_no (by decide +kernel), c, x, L, z, M, TT, rfl, w0, fun oo H1 w1 => hD' _ _ ⟨oo, rfl, w1.k [x.s, x.sent, x.lets, x.sts, x.go, x.stl, x.an, x.nx, z.al, x.pp, x.ptk, x.ptl]⟩⟩
    obtain ⟨oo, rfl, w1⟩ := y
    clear w0
    refine seq_mid (fun σ H => σ = σA (some (.ref oo)) none none none ∧ W H (MO oo) TT) (fun σ H y => ?tail3) (fun D' hD' hrt => ?stmt3)
    case stmt3 =>
      refine ⟨_, rfl, _, .inl ⟨_, SqL.of (w1.c oo), rfl⟩, ?_⟩
      rw [oF_em]
      by_cases hTS : z.S ≤ z.T
      · rw [decide_eq_true hTS]
        refine iteT ⟨Nat.zero_le _, fun l hl => ?_⟩
        rw [hrt]
        have w2 := (w1.new hl (.lst [])).x oo
        exact k l _ (W.e0 (T := T') w2)
      · rw [decide_eq_false hTS]
        exact iteF (hD' _ _ ⟨rfl, w1⟩)
    obtain ⟨rfl, w2⟩ := y
    clear w1
    refine seq_mid (fun σ H => σ = σA (some (.ref oo)) none none none ∧ W H (MO oo) TT) (fun σ H y => ?tail4) (fun D' hD' hrt => ?stmt4)
    case stmt4 =>
      refine ⟨_, rfl, rfl, _, rfl, ?_⟩
      cases e : (!decide (V.str c.rule = V.str "guess")) with
      | false => exact iteF (hD' _ _ ⟨rfl, w2⟩)
      | true =>
        refine iteT ?_
        have w3 := w2.k [x.pp, x.ptk, x.ptl]
        have hb2 := w3.st (tupA x.book _) List.mem_cons_self
        refine r_fld (k := 19) T.o_Sender rfl (w3.c x.s) rfl rfl ⟨x.pp, x.pdx, _, rfl, w3.c x.pp, fl_no (by decide +kernel), _, rfl, _, rfl, r_fld (k := 2) T.o_Sender rfl (w3.c x.s) rfl rfl (r_fld (k := 20) T.o_Sender rfl (w3.c x.s) rfl rfl ⟨_, _, _, _, rfl, rfl, SqT.of hb2, rfl, c, x.pv, z.G, now, c.rule, x.sent, _, _, rfl, w3, w3.f (rdA c x.road), hN, fun r dx H1 w4 => ?_⟩)⟩
        dsimp only
        refine ⟨_, rfl, oo, rfl, ⟨_, SqL.of (w4.c oo)⟩, fun l hl => ?_⟩
        have w5 := w4.new hl (.lst [])
        refine lc_list (xs := oF z.T z.S) (fun _ H => W H ((l, .lst []) :: (r, shO K dx now c.rule x.sent c.hi (c.hi + c.lo) (bndV c z.G) z.G ((z.G : Int) - 1)) :: pvM K c x.pv z.G ((x.s, sdO K c x z) ::
  (x.sent, .lst (lF z.S fun i => .int (c.s i))) :: (x.lets, .lst (lF z.S fun i => .ref (L i))) :: (x.sts, .lst (lF z.S (stF z.T))) :: (x.go, .dK (kF z.T z.S fun _ => .bl true)) :: (x.stl, .dT (kT 0 z.T)) :: (x.an, .dT []) :: (x.nx, .lst [.int z.S]) :: (z.al, .lst [.int z.alv]) :: (oo, .lst (oF z.T z.S)) :: M)) TT) w5 (fun i H hi w => SqL.of (w.c oo)) (fun i y H hy w => ?_) (fun H w => ?_)
        · have hi : i < z.S - z.T := by
            have q := (List.getElem?_eq_some_iff.mp hy).1
            rw [oF_len] at q; exact q
          rw [oF_at hi] at hy
          cases hy
          refine ⟨rfl, _, rfl, r, dx, _, rfl, w.c r, fl_no (by decide +kernel), _, rfl, r, dx, x.sent, now, _, _, _, _, c.rule, _, z.S, z.T + i, c.s, rfl, w.c r, w.c x.sent, by omega, hno _ (by omega) (by omega), _, rfl, iteF w⟩
        · rw [hrt]
          refine k l _ (W.e0 (T := T') ((w.k [l, x.s, x.sent, x.lets, x.sts, x.go, x.stl, x.an, x.nx, z.al, x.pp, x.ptk, x.ptl]).x r |>.x oo))
    obtain ⟨rfl, w3⟩ := y
    clear w2
    refine seq_mid (fun σ H => ∃ fo, σ = σA (some (.ref oo)) none (some (.ref fo)) none ∧ W H ((fo, .lst []) :: MO oo) TT) (fun σ H y => ?tail5) (fun D' hD' _ => ?stmt5)
    case stmt5 => exact ⟨Nat.zero_le _, fun fo hfo => hD' _ _ ⟨fo, rfl, w3.new hfo (.lst [])⟩⟩
    obtain ⟨fo, rfl, w4⟩ := y
    clear w3
    refine seq_mid (fun σ H => ∃ f, σ = σA (some (.ref oo)) none (some (.ref fo)) f ∧ W H ((fo, .lst []) :: MO oo) TT) (fun σ H y => ?tail6) (fun D' hD' _ => ?stmt6)
    case stmt6 =>
      refine ⟨_, rfl, oo, rfl, ⟨_, SqL.of (w4.c oo)⟩, ?_⟩
      refine for_list (xs := oF z.T z.S) (fun i σ H => ∃ f, σ = σA (some (.ref oo)) none (some (.ref fo)) f ∧ W H ((fo, .lst []) :: MO oo) TT) ⟨_, rfl, w4⟩ (fun i σ H hi h => SqL.of (h.choose_spec.2.c oo)) (fun i y σ H hy h => ?_) (fun σ H h => hD' _ _ h)
      obtain ⟨f, rfl, w⟩ := h
      have hi : i < z.S - z.T := by
        have q := (List.getElem?_eq_some_iff.mp hy).1
        rw [oF_len] at q; exact q
      rw [oF_at hi] at hy
      cases hy
      refine ⟨_, rfl, r_fld (k := 18) T.o_Sender rfl (w.c x.s) rfl rfl ⟨_, _, rfl, rfl, _, rfl, ?_⟩⟩
      rw [show decide (((z.T + i : Nat) : Int) < z.gr) = false from decide_eq_false (by omega)]
      exact iteF ⟨_, rfl, w⟩
    obtain ⟨f, rfl, w5⟩ := y
    exact ⟨_, rfl, k fo _ (W.e0 (T := T') ((w5.k [fo, x.s, x.sent, x.lets, x.sts, x.go, x.stl, x.an, x.nx, z.al, x.pp, x.ptk, x.ptl]).x oo))⟩
end
end Su


set_option Elab.async false
set_option linter.all false
set_option maxRecDepth 100000
set_option maxHeartbeats 2000000
/-! the next letter -/
namespace Su
open PySem PySem.Spec PyProof.Rows L2
def spNext (K : PySem.W.Frag) : Sp := fun vs H Q _ => ∃ (c : Cf) (x : SdA) (L : Nat → Addr) (z : SdS) (now : Int) (M : List Cell) (T : List As), vs = [.ref x.s, .int now] ∧ W H (sdM K c x L z M) T ∧ (dtA c x.data).φ H ∧ (ltA z.S L).φ H ∧ z.S < 1000 ∧ 0 ≤ now ∧ (z.S : Int) < z.alv ∧
  (z.S < c.short → ∀ p H', W H' (sdM K c x L z M) (tupA p [.int 0, .int z.S] :: T) → Q (.ref p) H') ∧ (¬ z.S < c.short → ∀ H', W H' (sdM K c x L z M) T → Q .non H')
theorem upd_back {H : Hp} {a d : Addr} {u o o2 : HO} (h : H a = some u) (ne : a ≠ d) : L2.upd (L2.upd (L2.upd H a o) d o2) a u = L2.upd H d o2 := by
  funext b
  by_cases e1 : b = a
  · rw [e1, upd_same, upd_ne ne, h]
  · rw [upd_ne e1]
    by_cases e2 : b = d
    · rw [e2, upd_same, upd_same]
    · rw [upd_ne e2, upd_ne e2, upd_ne e1]
section
variable {P : Program} {w : World} {K : PySem.W.Frag} {mg : Str → Option Value} {base : Heap}
theorem sc_Sender_next_letter : FnScope ["self", "now", "carried", "lost", "stream", "number", "letter"] ["self", "now"] (defScope s_Sender_next_letter) := ⟨rfl, rfl, rfl, by decide +kernel, rfl, by decide +kernel, by decide +kernel⟩
theorem ok_Sender_next_letter (T : Tp K mg base) : Def P w K mg base (.met "Sender" "next_letter") ["self", "now"] 2 (spNext K) := by
  refine def_mk T.f_Sender_next_letter sc_Sender_next_letter (fun vs H Q E h => ?_) (fun _ _ _ _ _ _ us hl => match us, hl with | [_, _], _ => rfl) (fun cdv A outer s H vs Q E hr h => ?_)
  · obtain ⟨c, x, L, z, now, M, T', rfl, _⟩ := h; rfl
  · obtain ⟨c, x, L, z, now, M, T', rfl, W0, hd0, hlt, hS, hn, halv, k1, k2⟩ := h
    have nd := sc_Sender_next_letter.nd
    have hu := hu_of hr
    obtain ⟨st, tk, hd1, hd2, hd3⟩ := id hd0
    refine ⟨_, pss_cons (ps_set (i := 2) nd rfl (.inr rfl) (pe_dct (ow0 := [("number", 5)]) (g := gName 5) (tt := tYes) (tk := tOp (rIxL K) (tFld K (tVar 0) "letters") (tVar 5)) (tv := tC (.bl true)) hu rfl nd (pi_list (pe_dm0 (ok_Sender_out T) hr T.c_Sender T.m_Sender_out (pv 0))) (blkOk_by (N := ["self", "now", "carried", "lost", "stream", "number", "letter"]) (sc := defScope s_Sender_next_letter) (by decide +kernel))
        (fun _ _ _ _ _ => pg_name (i := 5) nd rfl (.inl rfl)) (fun _ _ _ _ _ => pts_nil) (fun _ _ _ _ _ => pe_ix ix_list (pe_fld (pv 0) rfl) (pv 5) (fun _ _ => rfl)) (fun _ _ _ _ _ => pe_bl)))
      (pss_cons (ps_lock (ps_setLc (i := 3) (own := [("letter", 6)]) (g := gName 6) (tt := tNoT) (te := tNo) rfl nd rfl rfl (sw_true rfl rfl rfl (by decide +kernel)) (pi_keys (pe_fld (pv 0) rfl)) (blkOk_by (N := ["self", "now", "carried", "lost", "stream", "number", "letter"]) (sc := defScope s_Sender_next_letter) (by decide +kernel))
        (fun _ _ _ _ _ => pg_name (i := 6) nd rfl (.inl rfl)) (fun _ _ _ _ _ => pts_one pt_no) (fun _ _ _ _ _ => pe_no)))
      (pss_cons (ps_if (pt_truth (pv 3) (by intro _; rfl)) pss_never pss_nil)
      (pss_cons (ps_for PassesOwn.never rfl (pi_range1 rfl T.b_range (pa_cons (pe_callB call_len_seq rfl T.b_len boot_len (pa_cons (pe_fld (pv 0) rfl) pa_nil)) pa_nil)) (pg_name (i := 4) nd rfl (.inl rfl))
        (pss_one (ps_if (pw_and (pt_val (pe_dm (ok_Sender_is_written T) hr T.c_Sender T.m_Sender_is_written (pv 0) (pa_cons (pv 1) (pa_cons (pv 4) pa_nil)))) (pw_and1 (pt_cmpR op_lt (pe_ix ix_list (pe_fld (pv 0) rfl) (pv 4) (fun _ _ => rfl)) (pe_ix ix_list (pe_fld (pv 0) rfl) (pv 4) (fun _ _ => rfl)) (nomark _)))).pt
          (pss_one (ps_ret (pe_tup (pa_cons (pv 4) (pa_cons (pe_ix ix_list (pe_fld (pv 0) rfl) (pv 4) (fun _ _ => rfl)) pa_nil))))) pss_nil)))
      (pss_one (ps_ret pe_non))))), ?_⟩
    have w00 := (((W0.say (dtA c x.data) hd0).say (ltA z.S L) hlt).say (tupA x.data [.ref st]) hd1)
    let TT : List As := tupA x.data [.ref st] :: ltA z.S L :: dtA c x.data :: T'
    let σA : Option V → Option V → Option V → L2.St := fun a b d => [some (.ref x.s), some (.int now), a, b, d, none, none]
    have w0 : W H (sdM K c x L z M) TT := w00
    clear w00
    have hLT : ∀ H, (ltA z.S L).φ H → ∀ i, i < z.S → H (L i) = some (.tup [.int 0, .int i]) := fun H h i hi => h i hi
    -- carried
    refine seq_mid (fun σ H => ∃ ca, σ = σA (some (.ref ca)) none none ∧ W H (sdM K c x L z M) TT) (fun σ H y => ?tail1) (fun D' hD' _ => ?stmt1)
    case stmt1 =>
      refine ⟨_, rfl, x.s, x.dx, _, rfl, w0.c x.s, fl_no (by decide +kernel), c, x, L, z, M, TT, rfl, w0, fun oo H1 w1 => ?_⟩
      refine ⟨oo, rfl, ⟨_, SqL.of (w1.c oo)⟩, fun D hD => ?_⟩
      have w2 := w1.new hD (.dT [])
      refine ⟨fun i m H => m = (z.S - z.T) - i ∧ i ≤ z.S - z.T ∧ ∃ kvs : List (List Key × V), kvs.length ≤ i ∧ W H ((D, .dT kvs) :: (oo, .lst (oF z.T z.S)) :: sdM K c x L z M) TT, ⟨_, rfl, Nat.zero_le _, [], Nat.le_refl _, w2⟩, ?_⟩
      rintro i m H ⟨rfl, hi, kvs, hk, w⟩
      by_cases hlt2 : i < z.S - z.T
      · refine .inr ⟨⟨_, _, SqL.of (w.c oo), oF_at hlt2⟩, fun H => ∃ kvs : List (List Key × V), kvs.length ≤ i + 1 ∧ W H ((D, .dT kvs) :: (oo, .lst (oF z.T z.S)) :: sdM K c x L z M) TT, fun H' n => ⟨(z.S - z.T) - (i + 1), by omega, rfl, by omega, n⟩, fun v H' y => ?_⟩
        obtain ⟨rfl, y⟩ := y
        have y2 := y (oF z.T z.S) (SqL.of (w.c oo))
        rw [oF_at hlt2] at y2
        cases y2
        refine ⟨rfl, ?_⟩
        dsimp only [tYes]
        rw [if_pos rfl]
        refine r_fld (k := 3) T.o_Sender rfl (w.c x.s) rfl rfl ⟨_, rfl, _, _, _, _, rfl, rfl, SqL.of (w.c x.lets), atI_lF (show z.T + i < z.S by omega), ?_⟩
        refine ⟨kvs, [Sum.inl 0, Sum.inl ((z.T + i : Nat) : Int)], L (z.T + i), rfl, hLT _ (w.f (ltA z.S L)) _ (by omega), w.c D, small1000 (by omega), putK kvs _ _, ?_, w.p D (.dT (putK kvs [Sum.inl 0, Sum.inl ((z.T + i : Nat) : Int)] (.bl true)))⟩
        have q := length_putK kvs [Sum.inl 0, Sum.inl ((z.T + i : Nat) : Int)] (V.bl true)
        omega
      · refine .inl ⟨⟨_, SqL.of (w.c oo), by rw [oF_len]; omega⟩, ?_⟩
        exact hD' _ _ ⟨D, rfl, (w.x D).x oo⟩
    obtain ⟨ca, rfl, w1⟩ := y
    clear w0
    -- lost
    refine seq_mid (fun σ H => ∃ lo, σ = σA (some (.ref ca)) (some (.ref lo)) none ∧ W H ((lo, .lst []) :: sdM K c x L z M) TT) (fun σ H y => ?tail2) (fun D' hD' _ => ?stmt2)
    case stmt2 =>
      refine ⟨x.an, .dT [], w1.c x.an, trivial, fun od => ?_⟩
      have ne : x.s ≠ x.an := ne_of (w1.c x.s) (w1.c x.an) (by intro q; cases q)
      refine r_fld (k := 7) T.o_Sender rfl (by rw [upd_ne ne]; exact w1.c x.s) rfl rfl ⟨x.an, od, rfl, .inr ⟨[], upd_same, fun D hD => ?_⟩⟩
      have neD : x.an ≠ D := fun q => by rw [← q, upd_same] at hD; cases hD
      refine ⟨fun i m H' => i = 0 ∧ H' = L2.upd (L2.upd H x.an (.frz od (.dT []))) D (.lst []), ⟨0, rfl, rfl⟩, ?_⟩
      rintro i m H' ⟨rfl, rfl⟩
      refine .inl ⟨⟨by rw [upd_ne neD]; exact upd_same, Nat.zero_le _⟩, ?_⟩
      refine ⟨by rw [upd_ne neD]; exact upd_same, ?_⟩
      rw [upd_back (w1.c x.an) neD]
      have hD2 : H D = none := by rwa [upd_ne (Ne.symm neD)] at hD
      exact hD' _ _ ⟨D, rfl, w1.new hD2 (.lst [])⟩
    obtain ⟨lo, rfl, w2⟩ := y
    clear w1
    refine seq_mid (fun σ H => σ = σA (some (.ref ca)) (some (.ref lo)) none ∧ W H (sdM K c x L z M) TT) (fun σ H y => ?tail3) (fun D' hD' _ => ?stmt3)
    case stmt3 => exact ⟨_, rfl, _, .inl ⟨_, SqL.of (w2.c lo), rfl⟩, iteF (hD' _ _ ⟨rfl, w2.x lo⟩)⟩
    obtain ⟨rfl, w3⟩ := y
    clear w2
    refine seq_mid (fun σ H => ¬ z.S < c.short ∧ W H (sdM K c x L z M) TT) (fun σ H y => ?tail4) (fun D' hD' hrt => ?stmt4)
    case stmt4 =>
      refine r_fld (k := 1) T.o_Sender rfl (w3.c x.s) rfl rfl ⟨x.data, _, rfl, .inr (SqT.of (w3.f (tupA x.data [.ref st]))), _, rfl, by show -(2 ^ 62) ≤ (1 : Int); decide, by show (1 : Int) < 2 ^ 62; decide, ?_⟩
      refine for_range (lo := 0) (n := 1) (fun i σ H => i = 0 ∧ σ = σA (some (.ref ca)) (some (.ref lo)) none ∧ W H (sdM K c x L z M) TT ∨ i = 1 ∧ ¬ z.S < c.short ∧ W H (sdM K c x L z M) TT) (.inl ⟨rfl, rfl, w3⟩) (fun i σ H hi h => ?_) (fun σ H h => ?_)
      · rcases h with ⟨rfl, rfl, w⟩ | ⟨h1, _⟩
        · refine ⟨_, rfl, x.s, x.dx, _, rfl, w.c x.s, fl_no (by decide +kernel), _, rfl, _, rfl, c, x, L, z, now, M, TT, rfl, w, w.f (dtA c x.data), hn, _, rfl, ?_⟩
          by_cases hSs : z.S < c.short
          · rw [decide_eq_true hSs]
            refine iteT ?_
            refine r_fld (k := 8) T.o_Sender rfl (w.c x.s) rfl rfl ⟨_, rfl, _, _, _, _, rfl, rfl, SqL.of (w.c x.nx), rfl, r_fld (k := 9) T.o_Sender rfl (w.c x.s) rfl rfl ⟨_, rfl, _, _, _, _, rfl, rfl, SqL.of (w.c z.al), rfl, _, _, rfl, rfl, _, rfl, ?_⟩⟩
            rw [decide_eq_true halv]
            refine iteT ⟨_, rfl, r_fld (k := 8) T.o_Sender rfl (w.c x.s) rfl rfl ⟨_, rfl, _, _, _, _, rfl, rfl, SqL.of (w.c x.nx), rfl, two_le, fun p hp => ?_⟩⟩
            rw [hrt]
            have w4 := w.newT hp [.int 0, .int z.S]
            exact k1 hSs p _ (W.e (T := T') w4 (tupA p [.int 0, .int z.S]) (w4.f _))
          · rw [decide_eq_false hSs]
            exact iteF (iteF (.inr ⟨rfl, hSs, w⟩))
        · omega
      · rcases h with ⟨h0, _⟩ | ⟨_, hs2, w⟩
        · cases h0
        · exact hD' _ _ ⟨hs2, w⟩
    obtain ⟨hns, w4⟩ := y
    exact k2 hns _ (W.e0 (T := T') w4)
end
end Su


set_option Elab.async false
set_option linter.all false
set_option maxRecDepth 100000
set_option maxHeartbeats 2000000
/-! what is sent -/
namespace Su
open PySem PySem.Spec PyProof.Rows L2
/-- whether a packet is sent at now -/
def Goes (c : Cf) (z : SdS) (now : Int) : Prop := (∀ n, z.S = n + 1 → c.s n + c.gap ≤ now) ∧ (z.S : Int) - z.T < c.most ∧ z.S < c.short
def nextS (z : SdS) : SdS := { z with S := z.S + 1 }
def spSend (K : PySem.W.Frag) : Sp := fun vs H Q _ => ∃ (c : Cf) (x : SdA) (L : Nat → Addr) (z : SdS) (now : Int) (M : List Cell) (T : List As), vs = [.ref x.s, .int now] ∧ W H (sdM K c x L z M) T ∧ (bkA c x.book).φ H ∧ (dtA c x.data).φ H ∧ (ltA z.S L).φ H ∧ z.S < 1000 ∧ 0 ≤ now ∧ (z.S : Int) < z.alv ∧ z.T ≤ z.S ∧
  (Goes c z now → now = c.s z.S ∧ ∀ r p L' H', W H' (sdM K c x L' (nextS z) M) (tupA r [.int z.S, .ref p] :: tupA p [.int 0, .int z.S] :: ltA (z.S + 1) L' :: T) → Q (.ref r) H') ∧ (¬ Goes c z now → ∀ e H', W H' (sdM K c x L z M) (tupA e [] :: T) → Q (.ref e) H')
section
variable {P : Program} {w : World} {K : PySem.W.Frag} {mg : Str → Option Value} {base : Heap}
theorem sc_Sender_send : FnScope ["self", "now", "letter"] ["self", "now"] (defScope s_Sender_send) := ⟨rfl, rfl, rfl, by decide +kernel, rfl, by decide +kernel, by decide +kernel⟩
theorem ok_Sender_send (T : Tp K mg base) : Def P w K mg base (.met "Sender" "send") ["self", "now"] 3 (spSend K) := by
  refine def_mk T.f_Sender_send sc_Sender_send (fun vs H Q E h => ?_) (fun _ _ _ _ _ _ us hl => match us, hl with | [_, _], _ => rfl) (fun cdv A outer s H vs Q E hr h => ?_)
  · obtain ⟨c, x, L, z, now, M, T', rfl, _⟩ := h; rfl
  · obtain ⟨c, x, L, z, now, M, T', rfl, W0, hb0, hd, hlt, hS, hn, halv, hTS, k1, k2⟩ := h
    have nd := sc_Sender_send.nd
    have hu := hu_of hr
    obtain ⟨b0, b4, ls, b10, th, cu, hb⟩ := id hb0
    obtain ⟨tO, eO⟩ := T.i_OUT
    refine ⟨_, pss_cons (ps_if (pw_and (pt_truth (pe_fld (pv 0) rfl) (by intro _; rfl)) (pw_and1 (pt_cmpR op_lt (pv 1) (pe_op op_add (pe_ix ix_list (pe_fld (pv 0) rfl) (pe_un un_neg pe_int) (fun _ _ => rfl)) (pe_ix ix_tup (pe_fld (pv 0) rfl) pe_int (fun _ _ => rfl))) (nomark _)))).pt (pss_one (ps_ret (pe_tup pa_nil))) pss_nil)
      (pss_cons (ps_if (pt_truth (pe_fld (pv 0) rfl) (by intro _; rfl)) pss_never
        (pss_cons (ps_set (i := 2) nd rfl (.inl rfl) (pe_ifExp (pt_cmpR op_lt (pe_callB call_len_seq rfl T.b_len boot_len (pa_cons (pe_dm0 (ok_Sender_out T) (hr.mono (by decide)) T.c_Sender T.m_Sender_out (pv 0)) pa_nil)) (pe_fld (pv 0) rfl) (nomark _)) (pe_dm (ok_Sender_next_letter T) hr T.c_Sender T.m_Sender_next_letter (pv 0) (pa_cons (pv 1) pa_nil)) pe_non))
        (pss_one (ps_if (pt_cmpR op_isN (pv 2) pe_non (nomark _)) (pss_one (ps_ret (pe_tup pa_nil))) pss_nil))))
      (pss_cons (ps_fld (pv 0) pe_bl rfl)
      (pss_cons (ps_if (pt_cmpR op_notN (pv 2) pe_non (nomark _))
        (pss_cons (ps_expr (pe_bm PySem.F.plainAttrs_dict PySem.F.slot_dict_pop PySem.F.type_dict_pop (L2.DX.mt_popT hu) (pe_fld (pv 0) rfl) (pa_cons (pv 2) (pa_cons pe_non pa_nil))))
        (pss_one (ps_if (pt_cmpR op_eq (pe_ix ix_tup (pv 2) pe_int (fun _ _ => rfl)) (pe_ix ix_list (pe_fld (pv 0) rfl) (pe_ix ix_tup (pv 2) pe_int (fun _ _ => rfl)) (fun _ _ => rfl)) (nomark _))
          (pss_one (ps_augS (pe_fld (pv 0) rfl) (pe_ix ix_tup (pv 2) pe_int (fun _ _ => rfl)) pget_list pe_int ip_add set_list)) pss_nil))) pss_nil)
      (pss_cons (ps_expr (pe_bm PySem.F.plainAttrs_list PySem.F.slot_list_append PySem.F.type_list_append mt_append (pe_fld (pv 0) rfl) (pa_cons (pv 1) pa_nil)))
      (pss_cons (ps_expr (pe_bm PySem.F.plainAttrs_list PySem.F.slot_list_append PySem.F.type_list_append mt_append (pe_fld (pv 0) rfl) (pa_cons (pv 2) pa_nil)))
      (pss_cons (ps_dput hu (pe_fld (pv 0) rfl) (pe_callB call_len_seq rfl T.b_len boot_len (pa_cons (pe_fld (pv 0) rfl) pa_nil)) pe_bl rfl)
      (pss_cons (ps_expr (pe_bm PySem.F.plainAttrs_list PySem.F.slot_list_append PySem.F.type_list_append mt_append (pe_fld (pv 0) rfl) (pa_cons (pe_glob (v := .int 0) rfl eO ⟨_, rfl⟩) pa_nil)))
      (pss_one (ps_ret (pe_tup (pa_cons (pe_op op_sub (pe_callB call_len_seq rfl T.b_len boot_len (pa_cons (pe_fld (pv 0) rfl) pa_nil)) pe_int) (pa_cons (pv 2) pa_nil)))))))))))), ?_⟩
    let TT : List As := tupA x.book [.int b0, .ref th, .int c.grain, .int c.first, .int b4, .int c.gap, .int c.most, .int ls, .int c.most, .ref cu, .int b10, .str c.rule, .int 0] :: ltA z.S L :: dtA c x.data :: T'
    have w0 : W H (sdM K c x L z M) TT := ((W0.say (dtA c x.data) hd).say (ltA z.S L) hlt).say (tupA x.book _) hb
    have emp : ∀ e H, H e = none → W H (sdM K c x L z M) TT → ¬ Goes c z now → Q (.ref e) (L2.upd H e (.tup [])) := fun e H he w hg => k2 hg e _ (W.e (T := T') (w.newT he []) (tupA e []) ((w.newT he []).f _))
    refine seq_mid (fun σ H => (∀ n, z.S = n + 1 → c.s n + c.gap ≤ now) ∧ σ = [some (.ref x.s), some (.int now), none] ∧ W H (sdM K c x L z M) TT) (fun σ H y => ?tail1) (fun D' hD' hrt => ?stmt1)
    case stmt1 =>
      cases hz : z.S with
      | zero =>
        refine r_fld (k := 2) T.o_Sender rfl (w0.c x.s) rfl rfl ⟨_, .inl ⟨_, SqL.of (w0.c x.sent), rfl⟩, ?_⟩
        rw [hz]
        exact iteF (iteF (hD' _ _ ⟨fun n hn => by omega, rfl, w0⟩))
      | succ n =>
        refine r_fld (k := 2) T.o_Sender rfl (w0.c x.s) rfl rfl ⟨_, .inl ⟨_, SqL.of (w0.c x.sent), rfl⟩, ?_⟩
        rw [show (!(lF z.S fun i => V.int (c.s i)).isEmpty) = true from by rw [hz]; unfold lF; rw [List.range_succ]; simp]
        refine iteT ⟨_, rfl, r_fld (k := 2) T.o_Sender rfl (w0.c x.s) rfl rfl ⟨1, rfl, _, _, _, _, rfl, rfl, SqL.of (w0.c x.sent), (by rw [hz]; exact atI_last), r_fld (k := 20) T.o_Sender rfl (w0.c x.s) rfl rfl ⟨_, _, _, _, rfl, rfl, SqT.of hb, rfl, _, _, rfl, rfl, _, _, rfl, rfl, _, rfl, ?_⟩⟩⟩
        by_cases hlt2 : now < c.s n + c.gap
        · rw [decide_eq_true hlt2]
          refine iteT ⟨Nat.zero_le _, fun e he => ?_⟩
          rw [hrt]
          exact emp e _ he w0 fun hg => by have := hg.1 n hz; omega
        · rw [decide_eq_false hlt2]
          exact iteF (hD' _ _ ⟨fun m hm => by obtain rfl : m = n := by omega
                                              omega, rfl, w0⟩)
    obtain ⟨hg1, rfl, w1⟩ := y
    clear w0
    refine seq_mid (fun σ H => Goes c z now ∧ ∃ p, σ = [some (.ref x.s), some (.int now), some (.ref p)] ∧ W H (sdM K c x L z M) (tupA p [.int 0, .int z.S] :: TT)) (fun σ H y => ?tail2) (fun D' hD' hrt => ?stmt2)
    case stmt2 =>
      refine r_fld (k := 13) T.o_Sender rfl (w1.c x.s) rfl rfl ⟨_, rfl, iteF ?_⟩
      refine ⟨_, rfl, x.s, x.dx, _, rfl, w1.c x.s, fl_no (by decide +kernel), c, x, L, z, M, TT, rfl, w1, fun oo H1 w2 => ?_⟩
      refine ⟨oo, _, rfl, .inl (SqL.of (w2.c oo)), r_fld (k := 14) T.o_Sender rfl (w2.c x.s) rfl rfl ⟨_, _, rfl, rfl, _, rfl, ?_⟩⟩
      have w3 := w2.x oo
      rw [oF_len]
      have none_ : ∀ H, W H (sdM K c x L z M) TT → ¬ Goes c z now → 0 ≤ sizeLine ∧ ∀ e, H e = none → D'.rt (.ref e) (L2.upd H e (.tup [])) := fun H w hg => ⟨Nat.zero_le _, fun e he => by rw [hrt]; exact emp e H he w hg⟩
      by_cases hm : ((z.S - z.T : Nat) : Int) < c.most
      · rw [decide_eq_true hm]
        refine iteT ⟨_, rfl, x.s, x.dx, _, rfl, w3.c x.s, fl_no (by decide +kernel), _, rfl, c, x, L, z, now, M, TT, rfl, w3, w3.f (dtA c x.data), w3.f (ltA z.S L), hS, hn, halv, fun hSs p H2 w4 => ?_, fun hns H2 w4 => ?_⟩
        · exact ⟨_, rfl, rfl, _, rfl, iteF (hD' _ _ ⟨⟨hg1, by omega, hSs⟩, p, rfl, w4⟩)⟩
        · exact ⟨_, rfl, rfl, _, rfl, iteT (none_ _ w4 fun hg => hns hg.2.2)⟩
      · rw [decide_eq_false hm]
        exact iteF ⟨_, rfl, rfl, _, rfl, iteT (none_ _ w3 fun hg => by have := hg.2.1; omega)⟩
    obtain ⟨hg, p, rfl, w2⟩ := y
    clear w1
    obtain ⟨hnow, k3⟩ := k1 hg
    -- probe
    refine seq_mid (fun σ H => σ = [some (.ref x.s), some (.int now), some (.ref p)] ∧ W H (sdM K c x L z M) (tupA p [.int 0, .int z.S] :: TT)) (fun σ H y => ?tail3) (fun D' hD' hrt => ?stmt3)
    case stmt3 =>
      refine ⟨_, rfl, x.s, _, _, _, rfl, w2.c x.s, T.o_Sender.cl, T.o_Sender.na _ (List.mem_of_getElem? (i := 13) rfl), T.o_Sender.ln, ?_⟩
      rw [fl_put (k := 13) T.o_Sender.nd rfl (by simp)]
      exact hD' _ _ ⟨rfl, w2.s x.s 13 (.bl false)⟩
    obtain ⟨rfl, w3⟩ := y
    clear w2
    let MX : V → List V → List V → List V → List (Key × V) → List Cell := fun nx se le ss go => (x.s, sdO K c x z) ::
      (x.sent, .lst se) :: (x.lets, .lst le) :: (x.sts, .lst ss) :: (x.go, .dK go) :: (x.stl, .dT (kT 0 z.T)) :: (x.an, .dT []) :: (x.nx, .lst [nx]) :: (z.al, .lst [.int z.alv]) :: pvM K c x.pv z.G M
    let se0 : List V := lF z.S fun i => .int (c.s i)
    let le0 : List V := lF z.S fun i => .ref (L i)
    let ss0 : List V := lF z.S (stF z.T)
    let go0 : List (Key × V) := kF z.T z.S fun _ => .bl true
    -- the letter leaves its stream
    refine seq_mid (fun σ H => σ = [some (.ref x.s), some (.int now), some (.ref p)] ∧ W H (MX (.int ((z.S : Int) + 1)) se0 le0 ss0 go0) (tupA p [.int 0, .int z.S] :: TT)) (fun σ H y => ?tail4) (fun D' hD' hrt => ?stmt4)
    case stmt4 =>
      refine ⟨_, rfl, rfl, _, rfl, iteT ?_⟩
      refine r_fld (k := 7) T.o_Sender rfl (w3.c x.s) rfl rfl ⟨.inr (.inr (.inl ⟨rfl, .inr ⟨_, w3.c x.an⟩⟩)), _, rfl, x.an, [], [Sum.inl 0, Sum.inl (z.S : Int)], p, .non, rfl, rfl, w3.c x.an, w3.f (tupA p [.int 0, .int z.S]), fun v hv => (by cases hv), fun _ => ?_⟩
      refine ⟨_, rfl, _, _, _, _, rfl, rfl, SqT.of (w3.f (tupA p [.int 0, .int z.S])), rfl, r_fld (k := 8) T.o_Sender rfl (w3.c x.s) rfl rfl ⟨_, rfl, _, _, _, _, rfl, rfl, SqT.of (w3.f (tupA p [.int 0, .int z.S])), rfl, _, _, _, _, rfl, rfl, SqL.of (w3.c x.nx), rfl, rfl, _, rfl, ?_⟩⟩
      rw [decide_eq_true rfl]
      refine iteT ?_
      refine r_fld (k := 8) T.o_Sender rfl (w3.c x.s) rfl rfl ⟨_, rfl, _, _, _, _, rfl, rfl, SqT.of (w3.f (tupA p [.int 0, .int z.S])), rfl, _, _, _, _, rfl, rfl, SqL.of (w3.c x.nx), rfl, _, _, rfl, rfl, _, _, _, 0, rfl, rfl, w3.c x.nx, rfl, ?_⟩
      exact hD' _ _ ⟨rfl, w3.p x.nx (.lst [.int ((z.S : Int) + 1)])⟩
    obtain ⟨rfl, w4⟩ := y
    clear w3
    have l1000 : ∀ (xs : List V), xs.length = z.S → xs.length < sizeLine := fun xs h => small1000 (by omega)
    let L' : Nat → Addr := fun i => if i = z.S then p else L i
    have eS : se0 ++ [.int now] = lF (z.S + 1) fun i => .int (c.s i) := lF_snoc (fun _ _ => rfl) (by rw [hnow])
    have eL : le0 ++ [.ref p] = lF (z.S + 1) fun i => .ref (L' i) := lF_snoc (fun i hi => by show V.ref (if i = z.S then p else L i) = _; rw [if_neg (by omega)]) (by show V.ref (if z.S = z.S then p else L z.S) = _; rw [if_pos rfl])
    have eT : ss0 ++ [.int 0] = lF (z.S + 1) (stF z.T) := lF_snoc (fun _ _ => rfl) (by show V.int (if z.S < z.T then 1 else 0) = _; rw [if_neg (by omega)])
    have eG : putK go0 (Sum.inl (z.S : Int) : Key) (.bl true) = kF z.T (z.S + 1) fun _ => .bl true := kF_put hTS fun _ _ _ => rfl
    refine r_fld (k := 2) T.o_Sender rfl (w4.c x.s) rfl rfl ⟨ty_list (w4.c x.sent), _, rfl, x.sent, _, _, rfl, rfl, w4.c x.sent, l1000 _ (lF_len _ _), ?_⟩
    rw [eS]
    have w5 := w4.p x.sent (.lst (lF (z.S + 1) fun i => .int (c.s i)))
    refine r_fld (k := 3) T.o_Sender rfl (w5.c x.s) rfl rfl ⟨ty_list (w5.c x.lets), _, rfl, x.lets, _, _, rfl, rfl, w5.c x.lets, l1000 _ (lF_len _ _), ?_⟩
    rw [eL]
    have w6 := w5.p x.lets (.lst (lF (z.S + 1) fun i => .ref (L' i)))
    have hput : ∀ H6 : Hp, H6 x.go = some (.dK go0) → DPut H6 x.go (.int (ss0.length : Nat)) (.bl true) (L2.upd H6 x.go (.dK (kF z.T (z.S + 1) fun _ => .bl true))) := by
      intro H6 h6
      have q := DPut.k (k := Sum.inl (z.S : Int)) (v := .bl true) h6 (small1000 (by rw [kF_len]; omega))
      rw [eG] at q
      rw [show ss0.length = z.S from lF_len _ _]
      exact q
    refine r_fld (k := 5) T.o_Sender rfl (w6.c x.s) rfl rfl (r_fld (k := 4) T.o_Sender rfl (w6.c x.s) rfl rfl ⟨x.sts, _, rfl, .inl (SqL.of (w6.c x.sts)), x.go, _, rfl, hput _ (w6.c x.go), ?_⟩)
    have w7 := w6.p x.go (.dK (kF z.T (z.S + 1) fun _ => .bl true))
    refine r_fld (k := 4) T.o_Sender rfl (w7.c x.s) rfl rfl ⟨ty_list (w7.c x.sts), x.sts, _, _, rfl, rfl, w7.c x.sts, l1000 _ (lF_len _ _), ?_⟩
    rw [eT]
    have w8 := w7.p x.sts (.lst (lF (z.S + 1) (stF z.T)))
    refine r_fld (k := 2) T.o_Sender rfl (w8.c x.s) rfl rfl ⟨x.sent, _, rfl, .inl (SqL.of (w8.c x.sent)), _, _, rfl, rfl, _, rfl, two_le, fun r hr0 => ?_⟩
    dsimp only
    rw [lF_len, show (((z.S + 1 : Nat) : Int) - 1) = (z.S : Int) from by omega]
    have w9 := w8.newT hr0 [.int z.S, .ref p]
    have hl2 : ∀ H9 : Hp, (tupA p [.int 0, .int z.S]).φ H9 → (ltA z.S L).φ H9 → (ltA (z.S + 1) L').φ H9 := fun H9 q1 q2 i hi => by
      by_cases e : i = z.S
      · rw [e, show L' z.S = p from if_pos rfl]
        exact q1
      · rw [show L' i = L i from if_neg e]
        exact q2 i (by omega)
    have w10 := w9.e (T := T') (ltA (z.S + 1) L') (hl2 _ (w9.f _) (w9.f (ltA z.S L)))
    have w11 := (w10.say (tupA p [.int 0, .int z.S]) (w9.f (tupA p [.int 0, .int z.S]))).say (tupA r [.int z.S, .ref p]) (w9.f (tupA r [.int z.S, .ref p]))
    exact k3 r p L' _ w11
end
end Su


set_option Elab.async false
set_option linter.all false
set_option maxRecDepth 100000
set_option maxHeartbeats 2000000
/-! both ends: the reader's part of a tick -/
namespace Su
open PySem PySem.Spec PyProof.Rows L2
structure CoA where
  co : Addr
  dx : Addr
  pk : Addr
  ak : Addr
  sd : Addr
  rd : Addr
abbrev coM (K : PySem.W.Frag) (c : Cf) (y : CoA) (A : Nat → Addr) (S C G : Nat) (M : List Cell) : List Cell :=
  (y.co, .ins (He.ga K "Core") y.dx (fl nsCore [.ref y.sd, .ref y.rd, .ref y.pk, .ref y.ak])) :: (y.pk, .dK (kF C S fun n => .int (c.s n))) :: (y.ak, .dK (kF G C fun n => .ref (A n))) :: M
/-- acks on the way: when and what -/
def acA (c : Cf) (C : Nat) (A : Nat → Addr) : As := ⟨fun H => ∀ n, n < C → ∃ ak, H (A n) = some (.tup [.int (c.a n), .ref ak]) ∧ (akA ak n).φ H,
  fun _ _ k h n hn => let ⟨ak, h1, h2⟩ := h n hn; ⟨ak, k.tu _ _ h1, (akA ak n).st _ _ k h2⟩⟩
/-- what happened: a word and a number (and one letter read) -/
def evA (w : Str) (n : Int) (e : Addr) : As := ⟨fun H => ∃ r, H e = some (.tup (.str w :: .int n :: r)) ∧ (w = "read" → r = [.int 1]), fun _ _ k ⟨r, h, q⟩ => ⟨r, k.tu _ _ h, q⟩⟩
def evsA : List (Str × Int) → List Addr → As
  | [], [] => ⟨fun _ => True, fun _ _ _ _ => trivial⟩
  | (w, n) :: ws, e :: es => ⟨fun H => (evA w n e).φ H ∧ (evsA ws es).φ H, fun _ _ k h => ⟨(evA w n e).st _ _ k h.1, (evsA ws es).st _ _ k h.2⟩⟩
  | _, _ => ⟨fun _ => False, fun _ _ _ h => h.elim⟩
abbrev allM (K : PySem.W.Frag) (c : Cf) (y : CoA) (rx : RdA) (sx : SdA) (L A : Nat → Addr) (z : SdS) (C : Nat) (rs : RdS) (M : List Cell) : List Cell := coM K c y A z.S C z.T (rdM K rx rs (sdM K c sx L z M))
def spReading (K : PySem.W.Frag) : Sp := fun vs H Q _ => ∃ (c : Cf) (y : CoA) (rx : RdA) (sx : SdA) (L A : Nat → Addr) (z : SdS) (C : Nat) (gt now : Int) (ct : Addr) (M : List Cell) (T : List As), vs = [.ref y.co, .int now, .ref ct] ∧ y.rd = rx.r ∧ y.sd = sx.s ∧ W H (allM K c y rx sx L A z C (rdAt C gt) M) T ∧
  (dtA c rx.pd).φ H ∧ (tabA (Hz.tabW K (.met "Reader" "ack"))).φ H ∧ (ltA z.S L).φ H ∧ (acA c C A).φ H ∧ z.S < 60 ∧ z.T ≤ C ∧
  ((tupA ct []).φ H ∧ (∀ l H', W H' ((l, .lst []) :: allM K c y rx sx L A z C (rdAt C gt) M) T → Q (.ref l) H') ∨
   (tupA ct [.int C]).φ H ∧ C < z.S ∧ now = c.a C ∧ ∀ l e1 e2 e3 A' H', W H' ((l, .lst [.ref e1, .ref e2, .ref e3]) :: allM K c y rx sx L A' z (C + 1) (rdAt (C + 1) now) M) (evsA [("come", C), ("read", 0), ("ack", C)] [e1, e2, e3] :: acA c (C + 1) A' :: T) → Q (.ref l) H')
section
variable {P : Program} {w : World} {K : PySem.W.Frag} {mg : Str → Option Value} {base : Heap}
theorem sc_Core_reading : FnScope ["self", "now", "comes", "events", "number", "stream", "many", "ack"] ["self", "now", "comes"] (defScope s_Core_reading) := ⟨rfl, rfl, rfl, by decide +kernel, rfl, by decide +kernel, by decide +kernel⟩
theorem ok_Core_reading (T : Tp K mg base) : Def P w K mg base (.met "Core" "reading") ["self", "now", "comes"] 4 (spReading K) := by
  refine def_mk T.f_Core_reading sc_Core_reading (fun vs H Q E h => ?_) (fun _ _ _ _ _ _ us hl => match us, hl with | [_, _, _], _ => rfl) (fun cdv A0 outer s H vs Q E hr h => ?_)
  · obtain ⟨c, y, rx, sx, L, A, z, C, gt, now, ct, M, T', rfl, _⟩ := h; rfl
  · obtain ⟨c, y, rx, sx, L, A, z, C, gt, now, ct, M, T', rfl, erd, esd, W0, hd0, htb, hlt, hac, hS, hTC, k⟩ := h
    have nd := sc_Core_reading.nd
    have hu := hu_of hr
    obtain ⟨st, tk, hd1, hd2, hd3⟩ := id hd0
    refine ⟨_, pss_cons (ps_set (i := 3) nd rfl (.inl rfl) (pe_lst pa_nil))
      (pss_cons (ps_for PassesOwn.never rfl (pi_tup (pv 2)) (pg_name (i := 4) nd rfl (.inl rfl)) (pss_cons (ps_ddel (pe_fld (pv 0) rfl) (pv 4))
        (pss_cons (ps_expr (pe_dm (ok_Reader_take T) (hr.mono (by decide)) T.c_Reader T.m_Reader_take (pe_fld (pv 0) rfl) (pa_cons (pv 1) (pa_cons (pv 4) (pa_cons (pe_ix ix_list (pe_fld (pe_fld (pv 0) rfl) rfl) (pv 4) (fun _ _ => rfl)) pa_nil)))))
        (pss_one (ps_expr (pe_bm PySem.F.plainAttrs_list PySem.F.slot_list_append PySem.F.type_list_append mt_append (pv 3) (pa_cons (pe_tup (pa_cons pe_str (pa_cons (pv 4) pa_nil))) pa_nil)))))))
      (pss_cons (ps_for PassesOwn.never rfl (pi_list (pe_dm0 (ok_Reader_read_on T) (hr.mono (by decide)) T.c_Reader T.m_Reader_read_on (pe_fld (pv 0) rfl))) (pg_tup (n := 2) rfl (pgs_cons (pg_name (i := 5) nd rfl (.inl rfl)) (pgs_cons (pg_name (i := 6) nd rfl (.inl rfl)) pgs_nil)))
        (pss_one (ps_expr (pe_bm PySem.F.plainAttrs_list PySem.F.slot_list_append PySem.F.type_list_append mt_append (pv 3) (pa_cons (pe_tup (pa_cons pe_str (pa_cons (pv 5) (pa_cons (pv 6) pa_nil)))) pa_nil)))))
      (pss_cons (ps_if (pt_val (pe_dm (ok_Reader_is_due T) (hr.mono (by decide)) T.c_Reader T.m_Reader_is_due (pe_fld (pv 0) rfl) (pa_cons (pv 1) pa_nil)))
        (pss_cons (ps_set (i := 7) nd rfl (.inl rfl) (pe_dm (ok_Reader_ack T) (hr.mono (by decide)) T.c_Reader T.m_Reader_ack (pe_fld (pv 0) rfl) (pa_cons (pv 1) pa_nil)))
        (pss_cons (ps_dput hu (pe_fld (pv 0) rfl) (pe_ix ix_tup (pv 7) pe_int (fun _ _ => rfl)) (pe_tup (pa_cons (pv 1) (pa_cons (pv 7) pa_nil))) rfl)
        (pss_one (ps_expr (pe_bm PySem.F.plainAttrs_list PySem.F.slot_list_append PySem.F.type_list_append mt_append (pv 3) (pa_cons (pe_op op_catT (pe_tup (pa_cons pe_str pa_nil)) (pv 7)) pa_nil)))))) pss_nil)
      (pss_one (ps_ret (pv 3)))))), ?_⟩
    obtain ⟨co, ydx, pk, ak, sd, rd⟩ := y
    dsimp only at erd esd
    subst erd esd
    have hLT : ∀ H, (ltA z.S L).φ H → ∀ i, i < z.S → H (L i) = some (.tup [.int 0, .int i]) := fun H h i hi => h i hi
    let TT : List As := tupA st [.ref tk, .int 60, .int 0] :: tupA rx.pd [.ref st] :: acA c C A :: ltA z.S L :: tabA (Hz.tabW K (.met "Reader" "ack")) :: T'
    let MX : Nat → (Nat → Addr) → Nat → RdS → Addr → List V → List Cell := fun np ac na rs ev evs => (ev, .lst evs) :: (co, .ins (He.ga K "Core") ydx (fl nsCore [.ref sx.s, .ref rx.r, .ref pk, .ref ak])) :: (pk, .dK (kF np z.S fun n => .int (c.s n))) :: (ak, .dK (kF z.T na fun n => .ref (ac n))) :: rdM K rx rs (sdM K c sx L z M)
    let σA : Addr → Option V → Option V → Option V → Option V → L2.St := fun ev a b d e => [some (.ref co), some (.int now), some (.ref ct), some (.ref ev), a, b, d, e]
    have w00 : W H (allM K c ⟨co, ydx, pk, ak, sx.s, rx.r⟩ rx sx L A z C (rdAt C gt) M) TT := ((((W0.say (tabA _) htb).say (ltA z.S L) hlt).say (acA c C A) hac).say (tupA rx.pd [.ref st]) hd1).say (tupA st [.ref tk, .int 60, .int 0]) hd2
    rcases k with ⟨hct, k⟩ | ⟨hct, hCS, hnow, k⟩
    · have wct := w00.say (tupA ct []) hct
      refine seq_mid (fun σ H => ∃ ev, σ = σA ev none none none none ∧ W H (MX C A C (rdAt C gt) ev []) (tupA ct [] :: TT)) (fun σ H y => ?tail1) (fun D' hD' _ => ?stmt1)
      case stmt1 => exact ⟨Nat.zero_le _, fun ev hev => hD' _ _ ⟨ev, rfl, wct.new hev (.lst [])⟩⟩
      obtain ⟨ev, rfl, w1⟩ := y
      clear wct w00
      refine seq_mid (fun σ H => σ = σA ev none none none none ∧ W H (MX C A C (rdAt C gt) ev []) (tupA ct [] :: TT)) (fun σ H y => ?tail2) (fun D' hD' _ => ?stmt2)
      case stmt2 =>
        refine ⟨_, rfl, ct, rfl, ⟨_, SqT.of (w1.f (tupA ct []))⟩, ?_⟩
        exact for_tup (xs := []) (fun _ σ H => σ = σA ev none none none none ∧ W H (MX C A C (rdAt C gt) ev []) (tupA ct [] :: TT)) ⟨rfl, w1⟩ (fun i σ H _ h => SqT.of (h.2.f (tupA ct []))) (fun i v σ H hx => by cases hx) (fun σ H h => hD' _ _ h)
      obtain ⟨rfl, w2⟩ := y
      clear w1
      refine seq_mid (fun σ H => σ = σA ev none none none none ∧ W H (MX C A C (rdAt C gt) ev []) (tupA ct [] :: TT)) (fun σ H y => ?tail3) (fun D' hD' _ => ?stmt3)
      case stmt3 =>
        have w3 := w2.k [rx.r, rx.dc, rx.lk, rx.d0, rx.lr]
        refine r_fld (k := 1) T.o_Core rfl (w3.c co) rfl rfl ⟨rx.r, rx.dx, _, rfl, w3.c rx.r, fl_no (by decide +kernel), rx, rdAt C gt, st, .ref tk, _, _, rfl, w3, w3.f (tupA rx.pd [.ref st]), w3.f (tupA st [.ref tk, .int 60, .int 0]), .inl ⟨rfl, fun l H1 w4 => ?_⟩⟩
        refine ⟨l, rfl, ⟨_, SqL.of (w4.c l)⟩, ?_⟩
        refine for_list (xs := []) (fun _ σ H => σ = σA ev none none none none ∧ W H ((l, .lst []) :: MX C A C (rdAt C gt) ev []) (tupA ct [] :: TT)) ⟨rfl, w4.k [l, ev, co, pk, ak]⟩ (fun i σ H _ h => SqL.of (h.2.c l)) (fun i v σ H hx => by cases hx) (fun σ H h => hD' _ _ ⟨h.1, h.2.x l⟩)
      obtain ⟨rfl, w3⟩ := y
      clear w2
      refine seq_mid (fun σ H => σ = σA ev none none none none ∧ W H (MX C A C (rdAt C gt) ev []) (tupA ct [] :: TT)) (fun σ H y => ?tail4) (fun D' hD' _ => ?stmt4)
      case stmt4 =>
        have w4 := w3.k [rx.r, rx.dc, rx.lk, rx.d0, rx.lr]
        exact r_fld (k := 1) T.o_Core rfl (w4.c co) rfl rfl ⟨rx.r, rx.dx, _, rfl, w4.c rx.r, fl_no (by decide +kernel), _, rfl, rx, rdAt C gt, now, _, _, rfl, w4, .inl ⟨rfl, _, rfl, iteF (hD' _ _ ⟨rfl, w3⟩)⟩⟩
      obtain ⟨rfl, w4⟩ := y
      exact ⟨_, rfl, k ev _ (W.e0 (T := T') w4)⟩
    · have wct := w00.say (tupA ct [.int C]) hct
      refine seq_mid (fun σ H => ∃ ev, σ = σA ev none none none none ∧ W H (MX C A C (rdAt C gt) ev []) (tupA ct [.int C] :: TT)) (fun σ H y => ?tail5) (fun D' hD' _ => ?stmt5)
      case stmt5 => exact ⟨Nat.zero_le _, fun ev hev => hD' _ _ ⟨ev, rfl, wct.new hev (.lst [])⟩⟩
      obtain ⟨ev, rfl, w1⟩ := y
      clear wct w00
      refine seq_mid (fun σ H => ∃ e1, σ = σA ev (some (.int C)) none none none ∧ W H (MX (C + 1) A C (rdIn C now) ev [.ref e1]) (tupA e1 [.str "come", .int C] :: TT)) (fun σ H y => ?tail6) (fun D' hD' _ => ?stmt6)
      case stmt6 =>
        refine ⟨_, rfl, ct, rfl, ⟨_, SqT.of (w1.f (tupA ct [.int C]))⟩, ?_⟩
        refine for_tup (xs := [.int C]) (fun i σ H => i = 0 ∧ σ = σA ev none none none none ∧ W H (MX C A C (rdAt C gt) ev []) (tupA ct [.int C] :: TT) ∨ i = 1 ∧ (tupA ct [.int C]).φ H ∧ ∃ e1, σ = σA ev (some (.int C)) none none none ∧ W H (MX (C + 1) A C (rdIn C now) ev [.ref e1]) (tupA e1 [.str "come", .int C] :: TT)) (.inl ⟨rfl, rfl, w1⟩) (fun i σ H _ h => ?_) (fun i v σ H hx h => ?_) (fun σ H h => ?_)
        · rcases h with ⟨_, _, w⟩ | ⟨_, w, _⟩
          · exact SqT.of (w.f (tupA ct [.int C]))
          · exact SqT.of w
        · rcases h with ⟨rfl, rfl, w⟩ | ⟨rfl, _⟩
          · cases hx
            refine r_fld (k := 2) T.o_Core rfl (w.c co) rfl rfl ⟨_, rfl, pk, _, Sum.inl (C : Int), rfl, w.c pk, rfl, by rw [kF_val (Nat.le_refl _) hCS]; rfl, ?_⟩
            rw [kF_drop hCS]
            have w2 := (w.p pk (.dK (kF (C + 1) z.S fun n => .int (c.s n)))).k [rx.r, rx.dc, rx.lk, rx.d0, rx.lr]
            refine r_fld (k := 1) T.o_Core rfl (w2.c co) rfl rfl ⟨rx.r, rx.dx, _, rfl, w2.c rx.r, fl_no (by decide +kernel), _, rfl, _, rfl, r_fld (k := 0) T.o_Core rfl (w2.c co) rfl rfl (r_fldv (k := 3) T.o_Sender (w2.c sx.s) rfl rfl ⟨_, rfl, _, _, _, _, rfl, rfl, SqL.of (w2.c sx.lets), atI_lF hCS, rx, C, now, gt, L C, _, _, rfl, by omega, w2, hLT _ (w2.f (ltA z.S L)) C hCS, fun H1 w3 => ?_⟩)⟩
            refine ⟨_, rfl, ty_list (w3.c ev), _, rfl, two_le, fun e1 he1 => ?_⟩
            have w4 := w3.newT he1 [.str "come", .int C]
            refine ⟨ev, _, _, rfl, rfl, w4.c ev, by show 0 < sizeLine; decide, ?_⟩
            have w5 := (w4.p ev (.lst [.ref e1])).k [ev, co, pk, ak]
            exact .inr ⟨rfl, w5.f (tupA ct [.int C]), e1, rfl, W.e (T := TT) w5 (tupA e1 _) (w5.f _)⟩
          · cases hx
        · rcases h with ⟨h0, _⟩ | ⟨_, _, h⟩
          · cases h0
          · exact hD' _ _ h
      obtain ⟨e1, rfl, w2⟩ := y
      clear w1
      refine seq_mid (fun σ H => ∃ e2 a b, σ = σA ev (some (.int C)) a b none ∧ W H (MX (C + 1) A C (rdRd C now) ev [.ref e1, .ref e2]) (tupA e2 [.str "read", .int 0, .int 1] :: tupA e1 [.str "come", .int C] :: TT)) (fun σ H y => ?tail7) (fun D' hD' _ => ?stmt7)
      case stmt7 =>
        have w3 := w2.k [rx.r, rx.dc, rx.lk, rx.d0, rx.lr]
        refine r_fld (k := 1) T.o_Core rfl (w3.c co) rfl rfl ⟨rx.r, rx.dx, _, rfl, w3.c rx.r, fl_no (by decide +kernel), rx, rdIn C now, st, .ref tk, _, _, rfl, w3, w3.f (tupA rx.pd [.ref st]), w3.f (tupA st [.ref tk, .int 60, .int 0]), .inr ⟨rfl, fun l p H1 w4 => ?_⟩⟩
        refine ⟨l, rfl, ⟨_, SqL.of (w4.c l)⟩, ?_⟩
        refine for_list (xs := [.ref p]) (fun i σ H => i = 0 ∧ σ = σA ev (some (.int C)) none none none ∧ W H ((l, .lst [.ref p]) :: MX (C + 1) A C (rdRd C now) ev [.ref e1]) (tupA p [.int 0, .int 1] :: tupA e1 [.str "come", .int C] :: TT) ∨ i = 1 ∧ ∃ e2 a b, σ = σA ev (some (.int C)) a b none ∧ W H ((l, .lst [.ref p]) :: MX (C + 1) A C (rdRd C now) ev [.ref e1, .ref e2]) (tupA e2 [.str "read", .int 0, .int 1] :: tupA e1 [.str "come", .int C] :: TT)) (.inl ⟨rfl, rfl, w4.k [l, ev, co, pk, ak]⟩) (fun i σ H _ h => ?_) (fun i v σ H hx h => ?_) (fun σ H h => ?_)
        · rcases h with ⟨_, _, w⟩ | ⟨_, _, _, _, _, w⟩
          · exact SqL.of (w.c l)
          · exact SqL.of (w.c l)
        · rcases h with ⟨rfl, rfl, w⟩ | ⟨rfl, _⟩
          · cases hx
            refine ⟨p, [.int 0, .int 1], rfl, SqT.of (w.f (tupA p [.int 0, .int 1])), rfl, _, _, rfl, _, _, rfl, rfl, ?_⟩
            refine ⟨_, rfl, ty_list (w.c ev), _, rfl, _, rfl, by show 3 ≤ sizeLine; decide, fun e2 he2 => ?_⟩
            have w5 := w.newT he2 [.str "read", .int 0, .int 1]
            refine ⟨ev, _, _, rfl, rfl, w5.c ev, by show 1 < sizeLine; decide, ?_⟩
            have w6 := w5.p ev (.lst [.ref e1, .ref e2])
            exact .inr ⟨rfl, e2, _, _, rfl, W.e (T := tupA e1 [.str "come", .int C] :: TT) w6 (tupA e2 _) (w6.f _)⟩
          · cases hx
        · rcases h with ⟨h0, _⟩ | ⟨_, e2, a, b, rfl, w⟩
          · cases h0
          · exact hD' _ _ ⟨e2, a, b, rfl, w.x l⟩
      obtain ⟨e2, a, b, rfl, w3⟩ := y
      clear w2
      refine seq_mid (fun σ H => ∃ e3 A', σ[3]? = some (some (.ref ev)) ∧ W H (MX (C + 1) A' (C + 1) (rdAt (C + 1) now) ev [.ref e1, .ref e2, .ref e3]) (evsA [("come", C), ("read", 0), ("ack", C)] [e1, e2, e3] :: acA c (C + 1) A' :: T')) (fun σ H y => ?tail8) (fun D' hD' _ => ?stmt8)
      case stmt8 =>
        have w4 := w3.k [rx.r, rx.dc, rx.lk, rx.d0, rx.lr]
        refine r_fld (k := 1) T.o_Core rfl (w4.c co) rfl rfl ⟨rx.r, rx.dx, _, rfl, w4.c rx.r, fl_no (by decide +kernel), _, rfl, rx, rdRd C now, now, _, _, rfl, w4, .inr ⟨rfl, by show ((C + 1 : Nat) : Int) > (C : Int); omega, _, rfl, iteT ?_⟩⟩
        refine r_fld (k := 1) T.o_Core rfl (w4.c co) rfl rfl ⟨rx.r, rx.dx, _, rfl, w4.c rx.r, fl_no (by decide +kernel), _, rfl, rx, C, now, st, .ref tk, _, _, rfl, w4, w4.f (tupA rx.pd [.ref st]), w4.f (tupA st [.ref tk, .int 60, .int 0]), w4.f (tabA (Hz.tabW K (.met "Reader" "ack"))), by omega, fun aa H1 w5 => ?_⟩
        obtain ⟨rg, r, gr, h1, h2, h3, h4⟩ := w5.f (akA aa C)
        have w6 := w5.say (tupA aa [.int C, .ref rg, .ref gr, .int 0]) h1
        dsimp only
        -- acks[ack[0]] = (now, ack)
        refine ⟨_, rfl, _, rfl, two_le, fun pp hpp => ?_⟩
        have w7 := w6.newT hpp [.int now, .ref aa]
        have hput : ∀ H6 : Hp, H6 ak = some (.dK (kF z.T C fun n => .ref (A n))) → DPut H6 ak (.int C) (.ref pp) (L2.upd H6 ak (.dK (kF z.T (C + 1) fun n => .ref (if n = C then pp else A n)))) := by
          intro H6 h6
          have q := DPut.k (k := Sum.inl (C : Int)) (v := .ref pp) h6 (small1000 (by rw [kF_len]; omega))
          have e := kF_put (f := fun n => V.ref (A n)) (g := fun n => V.ref (if n = C then pp else A n)) hTC (fun i h1 h2 => by show V.ref (if i = C then pp else A i) = V.ref (A i); rw [if_neg (by omega)])
          rw [show (V.ref (if C = C then pp else A C)) = V.ref pp from by rw [if_pos rfl]] at e
          rw [e] at q
          exact q
        refine r_fld (k := 3) T.o_Core rfl (w7.c co) rfl rfl ⟨_, rfl, _, _, _, _, rfl, rfl, SqT.of (w7.f (tupA aa [.int C, .ref rg, .ref gr, .int 0])), rfl, ak, _, rfl, hput _ (w7.c ak), ?_⟩
        have w8 := w7.p ak (.dK (kF z.T (C + 1) fun n => .ref (if n = C then pp else A n)))
        refine ⟨_, rfl, ty_list (w8.c ev), by show 1 ≤ sizeLine; decide, fun t1 ht1 => ?_⟩
        have w9 := w8.newT ht1 [.str "ack"]
        refine ⟨_, rfl, t1, aa, [.str "ack"], [.int C, .ref rg, .ref gr, .int 0], rfl, rfl, SqT.of (w9.f (tupA t1 [.str "ack"])), SqT.of (w9.f (tupA aa [.int C, .ref rg, .ref gr, .int 0])), by simp, by show 5 ≤ sizeLine; decide, fun h => (by cases h), fun _ e3 he3 => ?_⟩
        have w10 := w9.newT he3 [.str "ack", .int C, .ref rg, .ref gr, .int 0]
        refine ⟨ev, _, _, rfl, rfl, w10.c ev, by show 2 < sizeLine; decide, ?_⟩
        have w11 := (w10.p ev (.lst [.ref e1, .ref e2, .ref e3])).k [ev, co, pk, ak]
        have hac2 : ∀ H9 : Hp, (tupA pp [.int now, .ref aa]).φ H9 → (akA aa C).φ H9 → (acA c C A).φ H9 → (acA c (C + 1) fun n => if n = C then pp else A n).φ H9 := fun H9 q1 q2 q3 n hn => by
          show ∃ ak, H9 (if n = C then pp else A n) = some (.tup [.int (c.a n), .ref ak]) ∧ (akA ak n).φ H9
          by_cases e : n = C
          · subst e
            rw [if_pos rfl, ← hnow]
            exact ⟨aa, q1, q2⟩
          · rw [if_neg e]
            exact q3 n (by omega)
        have hev : ∀ H9 : Hp, (tupA e1 [.str "come", .int C]).φ H9 → (tupA e2 [.str "read", .int 0, .int 1]).φ H9 → (tupA e3 [.str "ack", .int C, .ref rg, .ref gr, .int 0]).φ H9 → (evsA [("come", (C : Int)), ("read", 0), ("ack", (C : Int))] [e1, e2, e3]).φ H9 := fun H9 q1 q2 q3 =>
          ⟨⟨_, q1, fun h => absurd h (by decide)⟩, ⟨_, q2, fun _ => rfl⟩, ⟨_, q3, fun h => absurd h (by decide)⟩, trivial⟩
        have w12 := W.e (T := T') w11 (acA c (C + 1) fun n => if n = C then pp else A n) (hac2 _ (w11.f (tupA pp [.int now, .ref aa])) (w11.f (akA aa C)) (w11.f (acA c C A)))
        exact hD' _ _ ⟨e3, _, rfl, w12.say (evsA [("come", (C : Int)), ("read", 0), ("ack", (C : Int))] [e1, e2, e3]) (hev _ (w11.f (tupA e1 [.str "come", .int C])) (w11.f (tupA e2 [.str "read", .int 0, .int 1])) (w11.f (tupA e3 [.str "ack", .int C, .ref rg, .ref gr, .int 0])))⟩
      obtain ⟨e3, A', s3, w4⟩ := y
      exact ⟨_, s3, k ev e1 e2 e3 A' _ w4⟩
end
end Su


set_option Elab.async false
set_option linter.all false
set_option maxRecDepth 100000
set_option maxHeartbeats 2000000
set_option synthInstance.maxSize 100000
set_option synthInstance.maxHeartbeats 2000000
/-! the sender's part of a tick -/
namespace Su
open PySem PySem.Spec PyProof.Rows L2
theorem evsA_len {H : Hp} : ∀ {ws : List (Str × Int)} {es : List Addr}, (evsA ws es).φ H → ws.length = es.length
  | [], [], _ => rfl
  | (_, _) :: ws, _ :: es, h => congrArg (· + 1) (evsA_len h.2)
theorem evsA_app {H : Hp} {vs : List (Str × Int)} {fs : List Addr} (h2 : (evsA vs fs).φ H) : ∀ {ws : List (Str × Int)} {es : List Addr}, (evsA ws es).φ H → (evsA (ws ++ vs) (es ++ fs)).φ H
  | [], [], _ => h2
  | (_, _) :: _, _ :: _, h => ⟨h.1, evsA_app h2 h.2⟩
/-- what was heard of hs -/
def HearCase (c : Cf) (z : SdS) (o : Option (Fr × Fr)) (hs : List V) (z1 : SdS) (o1 : Option (Fr × Fr)) (ws : List (Str × Int)) : Prop :=
  (hs = [] ∧ z1 = z ∧ o1 = o ∧ ws = []) ∨ (hs = [.int z.T] ∧ ∃ v al, z1 = heardS c z z.T v al ∧ o1 = some (nextP o (c.h z.T - c.s z.T)) ∧ ws = [(("hear" : Str), (z.T : Int))])
/-- a calm rest of the tick -/
structure PreS (c : Cf) (z : SdS) (o : Option (Fr × Fr)) (now : Int) : Prop where
  calm : Calm c z now
  sm : SmP o
  grain : c.grain.natAbs < 2 ^ 20
  first : c.first.natAbs < 2 ^ 20
  tim : ∀ n, z.S = n + 1 → z.T < z.S → (now - c.s n).natAbs < 2 ^ 20 ∧ lessF (now - c.s n, 1) (prodF (lenV c o) (1, 1)) = true
  now0 : 0 ≤ now
  alv : (z.S : Int) < z.alv
  TS : z.T ≤ z.S
  goes : Goes c z now → now = c.s z.S
structure HearPre (c : Cf) (z : SdS) (o : Option (Fr × Fr)) (C : Nat) (now : Int) : Prop where
  now : now = c.h z.T
  lt : z.T < C
  G : z.G = z.T
  gr : z.gr = (z.T : Int) - 1
  alv : z.alv = 60 + z.T
  heard : Heard c z.T
  sm : SmP o
  rtt : (c.h z.T - c.s z.T).natAbs < 2 ^ 20
def spSending (K : PySem.W.Frag) : Sp := fun vs H Q _ => ∃ (c : Cf) (y : CoA) (rx : RdA) (sx : SdA) (L A : Nat → Addr) (z : SdS) (C : Nat) (rs : RdS) (o : Option (Fr × Fr)) (now : Int) (ht : Addr) (hs : List V) (M : List Cell) (T : List As), vs = [.ref y.co, .int now, .ref ht] ∧ y.rd = rx.r ∧ y.sd = sx.s ∧ W H (allM K c y rx sx L A z C rs M) T ∧
  (bkA c sx.book).φ H ∧ (rdA c sx.road).φ H ∧ (dtA c sx.data).φ H ∧ (ltA z.S L).φ H ∧ (acA c C A).φ H ∧ (prV o z.pair).φ H ∧ (tupA ht hs).φ H ∧ z.S < 1000 ∧ C ≤ z.S ∧ (hs = [] ∨ hs = [.int z.T] ∧ HearPre c z o C now) ∧ (∀ z1 o1 ws, HearCase c z o hs z1 o1 ws → PreS c z1 o1 now) ∧
  (∀ z1 o1 ws l es L' H', HearCase c z o hs z1 o1 ws → Goes c z1 now → W H' ((l, .lst (es.map V.ref)) :: allM K c y rx sx L' A (nextS z1) C rs M) (evsA (ws ++ [(("send" : Str), (z1.S : Int))]) es :: prV o1 z1.pair :: ltA (z1.S + 1) L' :: T) → Q (.ref l) H') ∧
  (∀ z1 o1 ws l es H', HearCase c z o hs z1 o1 ws → ¬ Goes c z1 now → W H' ((l, .lst (es.map V.ref)) :: allM K c y rx sx L A z1 C rs M) (evsA ws es :: prV o1 z1.pair :: T) → Q (.ref l) H')
section
variable {P : Program} {w : World} {K : PySem.W.Frag} {mg : Str → Option Value} {base : Heap}
theorem sc_Core_sending : FnScope ["self", "now", "hears", "events", "sender", "number", "lost", "why", "sent"] ["self", "now", "hears"] (defScope s_Core_sending) := ⟨rfl, rfl, rfl, by decide +kernel, rfl, by decide +kernel, by decide +kernel⟩
theorem ok_Core_sending (T : Tp K mg base) : Def P w K mg base (.met "Core" "sending") ["self", "now", "hears"] 7 (spSending K) := by
  refine def_mk T.f_Core_sending sc_Core_sending (fun vs H Q E h => ?_) (fun _ _ _ _ _ _ us hl => match us, hl with | [_, _, _], _ => rfl) (fun cdv A0 outer s H vs Q E hr h => ?_)
  · obtain ⟨c, y, rx, sx, L, A, z, C, rs, o, now, ht, hs, M, T', rfl, _⟩ := h; rfl
  · obtain ⟨c, y, rx, sx, L, A, z, C, rs, o, now, ht, hs, M, T', rfl, erd, esd, W0, hb, hrd, hd, hlt, hac, hp, hht, hS, hCS, hh, hpre, k1, k2⟩ := h
    have nd := sc_Core_sending.nd
    have hu := hu_of hr
    refine ⟨_, pss_cons (ps_set (i := 3) nd rfl (.inl rfl) (pe_lst pa_nil))
      (pss_cons (ps_set (i := 4) nd rfl (.inl rfl) (pe_fld (pv 0) rfl))
      (pss_cons (ps_for PassesOwn.never rfl (pi_tup (pv 2)) (pg_name (i := 5) nd rfl (.inl rfl))
        (pss_cons (ps_expr (pe_dm (ok_Sender_hear T) hr T.c_Sender T.m_Sender_hear (pv 4) (pa_cons (pv 1) (pa_cons (pe_ix ix_tup (pe_dpop1 (pe_fld (pv 0) rfl) (pv 5) ⟨rfl, rfl, rfl, rfl⟩) pe_int (fun _ _ => rfl)) pa_nil))))
        (pss_one (ps_expr (pe_bm PySem.F.plainAttrs_list PySem.F.slot_list_append PySem.F.type_list_append mt_append (pv 3) (pa_cons (pe_tup (pa_cons pe_str (pa_cons (pv 5) pa_nil))) pa_nil))))))
      (pss_cons (ps_set (i := 6) nd rfl (.inl rfl) (pe_dm (ok_Sender_lost_now T) (hr.mono (by decide)) T.c_Sender T.m_Sender_lost_now (pv 4) (pa_cons (pv 1) pa_nil)))
      (pss_cons (ps_if (pt_truth (pv 6) (by intro _; rfl)) pss_never pss_nil)
      (pss_cons (ps_for PassesOwn.never rfl (pi_list (pv 6)) (pg_tup (n := 2) rfl (pgs_cons (pg_name (i := 5) nd rfl (.inl rfl)) (pgs_cons (pg_name (i := 7) nd rfl (.inl rfl)) pgs_nil))) pss_never)
      (pss_cons (ps_if (pt_val (pe_dm (ok_Sender_timer T) hr T.c_Sender T.m_Sender_timer (pv 4) (pa_cons (pv 1) pa_nil))) pss_never pss_nil)
      (pss_cons (ps_set (i := 8) nd rfl (.inl rfl) (pe_dm (ok_Sender_send T) (hr.mono (by decide)) T.c_Sender T.m_Sender_send (pv 4) (pa_cons (pv 1) pa_nil)))
      (pss_cons (ps_if (pt_truth (pv 8) (by intro _; rfl)) (pss_cons (ps_dput hu (pe_fld (pv 0) rfl) (pe_ix ix_tup (pv 8) pe_int (fun _ _ => rfl)) (pv 1) rfl)
        (pss_one (ps_expr (pe_bm PySem.F.plainAttrs_list PySem.F.slot_list_append PySem.F.type_list_append mt_append (pv 3) (pa_cons (pe_op op_catT (pe_tup (pa_cons pe_str pa_nil)) (pv 8)) pa_nil))))) pss_nil)
      (pss_one (ps_ret (pv 3))))))))))), ?_⟩
    obtain ⟨co, ydx, pk, ak, sd, rd⟩ := y
    dsimp only at erd esd
    subst erd esd
    let TT : List As := bkA c sx.book :: rdA c sx.road :: dtA c sx.data :: ltA z.S L :: acA c C A :: tupA ht hs :: T'
    let MX : SdS → Addr → List V → List Cell := fun z1 ev evs => (ev, .lst evs) :: (co, .ins (He.ga K "Core") ydx (fl nsCore [.ref sx.s, .ref rx.r, .ref pk, .ref ak])) :: (pk, .dK (kF C z1.S fun n => .int (c.s n))) :: (ak, .dK (kF z1.T C fun n => .ref (A n))) :: rdM K rx rs (sdM K c sx L z1 M)
    let σA : Addr → Option V → Option V → Option V → Option V → L2.St := fun ev a b d e => [some (.ref co), some (.int now), some (.ref ht), some (.ref ev), some (.ref sx.s), a, b, d, e]
    have w00 : W H (allM K c ⟨co, ydx, pk, ak, sx.s, rx.r⟩ rx sx L A z C rs M) (prV o z.pair :: TT) := ((((((W0.say (tupA ht hs) hht).say (acA c C A) hac).say (ltA z.S L) hlt).say (dtA c sx.data) hd).say (rdA c sx.road) hrd).say (bkA c sx.book) hb).say (prV o z.pair) hp
    refine seq_mid (fun σ H => ∃ ev, σ = [some (.ref co), some (.int now), some (.ref ht), some (.ref ev), none, none, none, none, none] ∧ W H (MX z ev []) (prV o z.pair :: TT)) (fun σ H y => ?tail1) (fun D' hD' _ => ?stmt1)
    case stmt1 => exact ⟨Nat.zero_le _, fun ev hev => hD' _ _ ⟨ev, rfl, w00.new hev (.lst [])⟩⟩
    obtain ⟨ev, rfl, w1⟩ := y
    clear w00
    refine seq_mid (fun σ H => σ = σA ev none none none none ∧ W H (MX z ev []) (prV o z.pair :: TT)) (fun σ H y => ?tail2) (fun D' hD' _ => ?stmt2)
    case stmt2 => exact r_fld (k := 0) T.o_Core rfl (w1.c co) rfl rfl (hD' _ _ ⟨rfl, w1⟩)
    obtain ⟨rfl, w2⟩ := y
    clear w1
    -- what is heard
    refine seq_mid (fun σ H => ∃ z1 o1 ws es n5, HearCase c z o hs z1 o1 ws ∧ σ = σA ev n5 none none none ∧ W H (MX z1 ev (es.map V.ref)) (evsA ws es :: prV o1 z1.pair :: TT)) (fun σ H y => ?tail3) (fun D' hD' _ => ?stmt3)
    case stmt3 =>
      rcases hh with rfl | ⟨rfl, hP⟩
      · refine ⟨_, rfl, ht, rfl, ⟨_, SqT.of (w2.f (tupA ht []))⟩, ?_⟩
        exact for_tup (xs := []) (fun _ σ H => σ = σA ev none none none none ∧ W H (MX z ev []) (prV o z.pair :: TT)) ⟨rfl, w2⟩ (fun i σ H _ h => SqT.of (h.2.f (tupA ht []))) (fun i v σ H hx => by cases hx) (fun σ H h => hD' _ _ ⟨z, o, [], [], none, .inl ⟨rfl, rfl, rfl, rfl⟩, h.1, h.2.say (evsA [] []) trivial⟩)
      · obtain rfl := hP.now
        refine ⟨_, rfl, ht, rfl, ⟨_, SqT.of (w2.f (tupA ht [.int z.T]))⟩, ?_⟩
        refine for_tup (xs := [.int z.T]) (fun i σ H => i = 0 ∧ σ = σA ev none none none none ∧ W H (MX z ev []) (prV o z.pair :: TT) ∨ i = 1 ∧ ∃ v al e1 n5, σ = σA ev n5 none none none ∧ W H (MX (heardS c z z.T v al) ev [.ref e1]) (evsA [(("hear" : Str), (z.T : Int))] [e1] :: prV (some (nextP o (c.h z.T - c.s z.T))) v :: TT)) (.inl ⟨rfl, rfl, w2⟩) (fun i σ H _ h => ?_) (fun i v σ H hx h => ?_) (fun σ H h => ?_)
        · rcases h with ⟨_, _, w⟩ | ⟨_, _, _, _, _, _, w⟩
          · exact SqT.of (w.f (tupA ht [.int z.T]))
          · exact SqT.of (w.f (tupA ht [.int z.T]))
        · rcases h with ⟨rfl, rfl, w⟩ | ⟨rfl, _⟩
          · cases hx
            obtain ⟨aa, p1, p2⟩ := (w.f (acA c C A)) z.T hP.lt
            have w3 := (w.say (akA aa z.T) p2).say (tupA (A z.T) [.int (c.a z.T), .ref aa]) p1
            have w4 := w3.p ak (.dK (kF (z.T + 1) C fun n => .ref (A n)))
            have w5 := w4.k [sx.s, sx.sent, sx.lets, sx.sts, sx.go, sx.stl, sx.an, sx.nx, z.al, sx.pp, sx.ptk, sx.ptl]
            refine ⟨_, rfl, sx.s, sx.dx, _, rfl, w3.c sx.s, fl_no (by decide +kernel), _, rfl, r_fld (k := 3) T.o_Core rfl (w3.c co) rfl rfl ⟨ak, rfl, .inl ⟨_, .inl (w3.c ak)⟩, _, rfl, _, Sum.inl (z.T : Int), _, w3.c ak, rfl, kF_val (Nat.le_refl _) hP.lt, ?_⟩⟩
            rw [kF_drop hP.lt]
            refine ⟨_, _, _, _, rfl, rfl, SqT.of (w4.f (tupA (A z.T) [.int (c.a z.T), .ref aa])), rfl, c, sx, L, z, z.T, o, aa, _, _, rfl, rfl, hP.G, hP.gr, hP.alv, w5, w5.f (bkA c sx.book), w5.f (rdA c sx.road), w5.f (ltA z.S L), w5.f (akA aa z.T), Nat.lt_of_lt_of_le hP.lt hCS, hS, hP.heard, w5.f (prV o z.pair), hP.sm, hP.rtt, fun v al H1 w6 => ?_⟩
            refine ⟨_, rfl, ty_list (w6.c ev), _, rfl, two_le, fun e1 he1 => ?_⟩
            have w7 := w6.newT he1 [.str "hear", .int z.T]
            refine ⟨ev, _, _, rfl, rfl, w7.c ev, by show 0 < sizeLine; decide, ?_⟩
            have w8 := (w7.p ev (.lst [.ref e1])).k [ev, co, pk, ak, rx.r, rx.dc, rx.lk, rx.d0, rx.lr]
            have w9 := W.e (T := TT) w8 (prV (some (nextP o (c.h z.T - c.s z.T))) v) (w8.f _)
            exact .inr ⟨rfl, v, al, e1, _, rfl, w9.say (evsA [(("hear" : Str), (z.T : Int))] [e1]) ⟨⟨_, w8.f (tupA e1 [.str "hear", .int z.T]), fun h => absurd h (by decide)⟩, trivial⟩⟩
          · cases hx
        · rcases h with ⟨h0, _⟩ | ⟨_, v, al, e1, n5, rfl, w⟩
          · cases h0
          · exact hD' _ _ ⟨heardS c z z.T v al, _, _, [e1], n5, .inr ⟨rfl, v, al, rfl, rfl, rfl⟩, rfl, w⟩
    obtain ⟨z1, o1, ws, es, n5, hc, rfl, w3⟩ := y
    clear w2
    have hp1 := hpre z1 o1 ws hc
    have eS : z1.S = z.S := by rcases hc with ⟨_, rfl, _⟩ | ⟨_, v, al, rfl, _⟩ <;> rfl
    let T3 : List As := evsA ws es :: prV o1 z1.pair :: TT
    have w3' : W _ (MX z1 ev (es.map V.ref)) T3 := w3
    clear w3
    -- lost
    refine seq_mid (fun σ H => ∃ lo, σ = σA ev n5 (some (.ref lo)) none none ∧ W H ((lo, .lst []) :: MX z1 ev (es.map V.ref)) T3) (fun σ H y => ?tail4) (fun D' hD' _ => ?stmt4)
    case stmt4 =>
      have w5 := w3'.k [sx.s, sx.sent, sx.lets, sx.sts, sx.go, sx.stl, sx.an, sx.nx, z1.al, sx.pp, sx.ptk, sx.ptl]
      exact ⟨_, rfl, sx.s, sx.dx, _, rfl, w5.c sx.s, fl_no (by decide +kernel), _, rfl, c, sx, L, z1, now, _, _, rfl, hp1.calm, w5, w5.f (bkA c sx.book), w5.f (rdA c sx.road), fun lo H1 w6 => hD' _ _ ⟨lo, rfl, w6.k [lo, ev, co, pk, ak, rx.r, rx.dc, rx.lk, rx.d0, rx.lr]⟩⟩
    obtain ⟨lo, rfl, w4⟩ := y
    clear w3'
    refine seq_mid (fun σ H => σ = σA ev n5 (some (.ref lo)) none none ∧ W H ((lo, .lst []) :: MX z1 ev (es.map V.ref)) T3) (fun σ H y => ?tail5) (fun D' hD' _ => ?stmt5)
    case stmt5 => exact ⟨_, rfl, _, .inl ⟨_, SqL.of (w4.c lo), rfl⟩, iteF (hD' _ _ ⟨rfl, w4⟩)⟩
    obtain ⟨rfl, w5⟩ := y
    clear w4
    refine seq_mid (fun σ H => σ = σA ev n5 (some (.ref lo)) none none ∧ W H (MX z1 ev (es.map V.ref)) T3) (fun σ H y => ?tail6) (fun D' hD' _ => ?stmt6)
    case stmt6 =>
      refine ⟨_, rfl, lo, rfl, ⟨_, SqL.of (w5.c lo)⟩, ?_⟩
      exact for_list (xs := []) (fun _ σ H => σ = σA ev n5 (some (.ref lo)) none none ∧ W H ((lo, .lst []) :: MX z1 ev (es.map V.ref)) T3) ⟨rfl, w5⟩ (fun i σ H _ h => SqL.of (h.2.c lo)) (fun i v σ H hx => by cases hx) (fun σ H h => hD' _ _ ⟨h.1, h.2.x lo⟩)
    obtain ⟨rfl, w6⟩ := y
    clear w5
    -- timer
    refine seq_mid (fun σ H => σ = σA ev n5 (some (.ref lo)) none none ∧ W H (MX z1 ev (es.map V.ref)) T3) (fun σ H y => ?tail7) (fun D' hD' _ => ?stmt7)
    case stmt7 =>
      have w7 := w6.k [sx.s, sx.sent, sx.lets, sx.sts, sx.go, sx.stl, sx.an, sx.nx, z1.al, sx.pp, sx.ptk, sx.ptl]
      exact ⟨_, rfl, sx.s, sx.dx, _, rfl, w7.c sx.s, fl_no (by decide +kernel), _, rfl, c, sx, L, z1, o1, now, _, _, rfl, w7, w7.f (bkA c sx.book), w7.f (prV o1 z1.pair), hp1.sm, hp1.grain, hp1.first, hp1.tim, fun H1 w8 => ⟨_, rfl, iteF (hD' _ _ ⟨rfl, w8.k [ev, co, pk, ak, rx.r, rx.dc, rx.lk, rx.d0, rx.lr]⟩)⟩⟩
    obtain ⟨rfl, w7⟩ := y
    clear w6
    -- send
    have hC1 : C ≤ z1.S := by rw [eS]; exact hCS
    have hS1 : z1.S < 1000 := by rw [eS]; exact hS
    have hT0 : ∀ H (φ : As), (evsA ws es).φ H → (prV o1 z1.pair).φ H → True := fun _ _ _ _ => trivial
    have w8 := w7.k [sx.s, sx.sent, sx.lets, sx.sts, sx.go, sx.stl, sx.an, sx.nx, z1.al, sx.pp, sx.ptk, sx.ptl]
    have hl1 : ∀ H, (ltA z.S L).φ H → (ltA z1.S L).φ H := fun H h => by rw [eS]; exact h
    refine q_seq ⟨_, rfl, sx.s, sx.dx, _, rfl, w8.c sx.s, fl_no (by decide +kernel), _, rfl, c, sx, L, z1, now, _, _, rfl, w8, w8.f (bkA c sx.book), w8.f (dtA c sx.data), hl1 _ (w8.f (ltA z.S L)), hS1, hp1.now0, hp1.alv, hp1.TS, fun hg => ⟨hp1.goes hg, fun r p L' H1 w9 => ?_⟩, fun hg e H1 w9 => ?_⟩
    · refine q_seq ⟨_, rfl, _, .inr (.inl ⟨_, SqT.of (w9.f (tupA r [.int z1.S, .ref p])), rfl⟩), iteT ?_⟩
      have hput : ∀ H6 : Hp, H6 pk = some (.dK (kF C z1.S fun n => .int (c.s n))) → DPut H6 pk (.int z1.S) (.int now) (L2.upd H6 pk (.dK (kF C (z1.S + 1) fun n => .int (c.s n)))) := by
        intro H6 h6
        have q := DPut.k (k := Sum.inl (z1.S : Int)) (v := .int now) h6 (small1000 (by rw [kF_len]; omega))
        have e := kF_put (f := fun n => V.int (c.s n)) (g := fun n => V.int (c.s n)) hC1 (fun _ _ _ => rfl)
        have e2 : now = c.s z1.S := hp1.goes hg
        rw [e2] at q ⊢
        rw [e] at q
        exact q
      refine ⟨_, rfl, r_fld (k := 2) T.o_Core rfl (w9.c co) rfl rfl ⟨_, rfl, _, _, _, _, rfl, rfl, SqT.of (w9.f (tupA r [.int z1.S, .ref p])), rfl, pk, _, rfl, hput _ (w9.c pk), ?_⟩⟩
      have w10 := w9.p pk (.dK (kF C (z1.S + 1) fun n => .int (c.s n)))
      refine ⟨_, rfl, ty_list (w10.c ev), by show 1 ≤ sizeLine; decide, fun t1 ht1 => ?_⟩
      have w11 := w10.newT ht1 [.str "send"]
      refine ⟨_, rfl, t1, r, [.str "send"], [.int z1.S, .ref p], rfl, rfl, SqT.of (w11.f (tupA t1 [.str "send"])), SqT.of (w11.f (tupA r [.int z1.S, .ref p])), by simp, by show 3 ≤ sizeLine; decide, fun h => (by cases h), fun _ e3 he3 => ?_⟩
      have w12 := w11.newT he3 [.str "send", .int z1.S, .ref p]
      refine ⟨ev, _, _, rfl, rfl, w12.c ev, ?_, ?_⟩
      · have q := evsA_len (w12.f (evsA ws es))
        have q2 : ws.length ≤ 1 := by rcases hc with ⟨_, _, _, rfl⟩ | ⟨_, _, _, _, _, rfl⟩ <;> simp
        rw [List.length_map, ← q]
        exact Nat.lt_of_le_of_lt q2 (by decide)
      · have w13 := w12.p ev (.lst (es.map V.ref ++ [.ref e3]))
        have w14 := w13.k [ev, co, pk, ak, rx.r, rx.dc, rx.lk, rx.d0, rx.lr]
        have w15 := (W.e (T := T') w14 (ltA (z1.S + 1) L') (w14.f _)).say (prV o1 z1.pair) (w14.f (prV o1 z1.pair))
        have w16 := w15.say (evsA (ws ++ [(("send" : Str), (z1.S : Int))]) (es ++ [e3])) (evsA_app (vs := [(("send" : Str), (z1.S : Int))]) (fs := [e3]) ⟨⟨_, w14.f (tupA e3 [.str "send", .int z1.S, .ref p]), fun h => absurd h (by decide)⟩, trivial⟩ (w14.f (evsA ws es)))
        have e6 : es.map V.ref ++ [.ref e3] = (es ++ [e3]).map V.ref := by rw [List.map_append]; rfl
        rw [e6] at w16 ⊢
        exact ⟨_, rfl, k1 z1 o1 ws ev (es ++ [e3]) L' _ hc hg w16⟩
    · refine q_seq ⟨_, rfl, _, .inr (.inl ⟨_, SqT.of (w9.f (tupA e [])), rfl⟩), iteF ?_⟩
      have w10 := w9.k [ev, co, pk, ak, rx.r, rx.dc, rx.lk, rx.d0, rx.lr]
      refine ⟨_, rfl, k2 z1 o1 ws ev es _ hc hg ?_⟩
      exact (W.e (T := T') w10 (prV o1 z1.pair) (w10.f _)).say (evsA ws es) (w10.f (evsA ws es))
end
end Su


set_option Elab.async false
set_option linter.all false
set_option maxRecDepth 100000
set_option maxHeartbeats 2000000
set_option synthInstance.maxSize 100000
set_option synthInstance.maxHeartbeats 2000000
/-! a tick of both ends; their making -/
namespace Su
open PySem PySem.Spec PyProof.Rows L2
def ComeCase (c : Cf) (z : SdS) (C : Nat) (gt now : Int) (cs : List V) (C1 : Nat) (gt1 : Int) (wc : List (Str × Int)) : Prop :=
  (cs = [] ∧ C1 = C ∧ gt1 = gt ∧ wc = []) ∨ (cs = [.int C] ∧ C < z.S ∧ now = c.a C ∧ C1 = C + 1 ∧ gt1 = now ∧ wc = [(("come" : Str), (C : Int)), (("read" : Str), 0), (("ack" : Str), (C : Int))])
def SendCase (c : Cf) (z1 : SdS) (now : Int) (z2 : SdS) (wd : List (Str × Int)) : Prop :=
  (Goes c z1 now ∧ z2 = nextS z1 ∧ wd = [(("send" : Str), (z1.S : Int))]) ∨ (¬ Goes c z1 now ∧ z2 = z1 ∧ wd = [])
def spGo (K : PySem.W.Frag) : Sp := fun vs H Q _ => ∃ (c : Cf) (y : CoA) (rx : RdA) (sx : SdA) (L A : Nat → Addr) (z : SdS) (C C1 : Nat) (gt gt1 : Int) (o : Option (Fr × Fr)) (now : Int) (ct ht : Addr) (cs hs : List V) (wc : List (Str × Int)) (M : List Cell) (T : List As), vs = [.ref y.co, .int now, .ref ct, .ref ht] ∧ y.rd = rx.r ∧ y.sd = sx.s ∧
  W H (allM K c y rx sx L A z C (rdAt C gt) M) T ∧ (dtA c rx.pd).φ H ∧ (tabA (Hz.tabW K (.met "Reader" "ack"))).φ H ∧ (bkA c sx.book).φ H ∧ (rdA c sx.road).φ H ∧ (dtA c sx.data).φ H ∧ (ltA z.S L).φ H ∧ (acA c C A).φ H ∧ (prV o z.pair).φ H ∧ (tupA ct cs).φ H ∧ (tupA ht hs).φ H ∧ z.S < 60 ∧ z.T ≤ C ∧ C1 ≤ z.S ∧
  ComeCase c z C gt now cs C1 gt1 wc ∧ (hs = [] ∨ hs = [.int z.T] ∧ HearPre c z o C1 now) ∧ (∀ z1 o1 ws, HearCase c z o hs z1 o1 ws → PreS c z1 o1 now) ∧
  ∀ z1 o1 ws z2 wd l es L' A' H', HearCase c z o hs z1 o1 ws → SendCase c z1 now z2 wd → W H' ((l, .lst (es.map V.ref)) :: allM K c y rx sx L' A' z2 C1 (rdAt C1 gt1) M) (evsA (wc ++ (ws ++ wd)) es :: prV o1 z2.pair :: ltA z2.S L' :: acA c C1 A' :: T) → Q (.ref l) H'
def spCoInit (K : PySem.W.Frag) : Sp := fun vs H Q _ => ∃ (r dx a b p q : Addr) (M : List Cell) (T : List As), vs = [.ref r, .ref a, .ref b, .ref p, .ref q] ∧ W H ((r, .ins (He.ga K "Core") dx (fl nsCore [])) :: M) T ∧ ∀ H', W H' ((r, .ins (He.ga K "Core") dx (fl nsCore [.ref a, .ref b, .ref p, .ref q])) :: M) T → Q .non H'
abbrev z00 (al : Addr) : SdS := ⟨.non, 0, 0, -1, al, 60, 0, 0, 0⟩
def spNewCore (K : PySem.W.Frag) : Sp := fun vs H Q _ => ∃ (c : Cf) (book road data : Addr) (M : List Cell) (T : List As), vs = [.ref book, .ref road, .ref data] ∧ W H M T ∧ (bkA c book).φ H ∧ (dtA c data).φ H ∧
  ∀ (y : CoA) (rx : RdA) (sx : SdA) (al : Addr) (L A : Nat → Addr) H', y.rd = rx.r → y.sd = sx.s → rx.pd = data → sx.book = book → sx.road = road → sx.data = data → W H' (allM K c y rx sx L A (z00 al) 0 (rdAt 0 0) M) T → Q (.ref y.co) H'
abbrev crO (K : PySem.W.Frag) (dx road co : Addr) (now : Int) : HO := .ins (He.ga K "Crossing") dx (fl nsCrossing [.ref road, .ref co, .int now])
def spCrInit (K : PySem.W.Frag) : Sp := fun vs H Q _ => ∃ (c : Cf) (cr crdx book road data : Addr) (M : List Cell) (T : List As), vs = [.ref cr, .ref book, .ref road, .ref data] ∧ W H ((cr, .ins (He.ga K "Crossing") crdx (fl nsCrossing [])) :: M) T ∧ (bkA c book).φ H ∧ (dtA c data).φ H ∧
  ∀ (y : CoA) (rx : RdA) (sx : SdA) (al : Addr) (L A : Nat → Addr) H', y.rd = rx.r → y.sd = sx.s → rx.pd = data → sx.book = book → sx.road = road → sx.data = data → W H' ((cr, crO K crdx road y.co 0) :: allM K c y rx sx L A (z00 al) 0 (rdAt 0 0) M) T → Q .non H'
section
variable {P : Program} {w : World} {K : PySem.W.Frag} {mg : Str → Option Value} {base : Heap}
theorem sc_Core_init : FnScope ["self", "sender", "reader", "packets", "acks"] ["self", "sender", "reader", "packets", "acks"] (defScope s_Core_init) := ⟨rfl, rfl, rfl, by decide +kernel, rfl, by decide +kernel, by decide +kernel⟩
theorem ok_Core_init (T : Tp K mg base) : Def P w K mg base (.met "Core" "__init__") ["self", "sender", "reader", "packets", "acks"] 1 (spCoInit K) := by
  refine def_mk T.f_Core_init sc_Core_init (fun vs H Q E h => ?_) (fun _ _ _ _ _ _ us hl => match us, hl with | [_, _, _, _, _], _ => rfl) (fun cdv A outer s H vs Q E hr h => ?_)
  · obtain ⟨r, dx, a, b, p, q, M, T', rfl, _⟩ := h; rfl
  · obtain ⟨r, dx, a, b, p, q, M, T', rfl, w0, k⟩ := h
    refine ⟨_, pss_cons (ps_fld (pv 0) (pv 1) rfl) (pss_cons (ps_fld (pv 0) (pv 2) rfl) (pss_cons (ps_fld (pv 0) (pv 3) rfl) (pss_one (ps_fld (pv 0) (pv 4) rfl)))), ?_⟩
    refine ⟨_, rfl, ?_⟩
    refine ⟨_, rfl, r, _, _, _, rfl, w0.c r, T.o_Core.cl, T.o_Core.na _ (List.mem_of_getElem? (i := 0) rfl), T.o_Core.ln, ?_⟩
    rw [fl_add T.o_Core.nd rfl]
    have w1 := w0.n r (.ref a)
    refine ⟨_, rfl, ?_⟩
    refine ⟨_, rfl, r, _, _, _, rfl, w1.c r, T.o_Core.cl, T.o_Core.na _ (List.mem_of_getElem? (i := 1) rfl), T.o_Core.ln, ?_⟩
    rw [fl_add T.o_Core.nd rfl]
    have w2 := w1.n r (.ref b)
    refine ⟨_, rfl, ?_⟩
    refine ⟨_, rfl, r, _, _, _, rfl, w2.c r, T.o_Core.cl, T.o_Core.na _ (List.mem_of_getElem? (i := 2) rfl), T.o_Core.ln, ?_⟩
    rw [fl_add T.o_Core.nd rfl]
    have w3 := w2.n r (.ref p)
    refine ⟨_, rfl, ?_⟩
    refine ⟨_, rfl, r, _, _, _, rfl, w3.c r, T.o_Core.cl, T.o_Core.na _ (List.mem_of_getElem? (i := 3) rfl), T.o_Core.ln, ?_⟩
    rw [fl_add T.o_Core.nd rfl]
    have w4 := w3.n r (.ref q)
    exact k _ w4
theorem sc_new_core : FnScope ["book", "road", "data"] ["book", "road", "data"] (defScope s_new_core) := ⟨rfl, rfl, rfl, by decide +kernel, rfl, by decide +kernel, by decide +kernel⟩
theorem ok_new_core (T : Tp K mg base) : Def P w K mg base (.glo "new_core") ["book", "road", "data"] 5 (spNewCore K) := by
  refine def_mk T.f_new_core sc_new_core (fun vs H Q E h => ?_) (fun _ _ _ _ _ _ us hl => match us, hl with | [_, _, _], _ => rfl) (fun cdv A0 outer s H vs Q E hr h => ?_)
  · obtain ⟨c, book, road, data, M, T', rfl, _⟩ := h; rfl
  · obtain ⟨c, book, road, data, M, T', rfl, w0, hb0, hd0, k⟩ := h
    obtain ⟨b0, b4, ls, b10, th, cu, hb⟩ := id hb0
    obtain ⟨st, tk, hd1, hd2, hd3⟩ := id hd0
    refine ⟨_, pss_one (ps_ret (pe_dk (f := 0) (wh := .met "Core" "__init__") T.m_Core (ok_Core_init T) (hr.mono (by decide)) T.g_Core (pa_cons (pe_dk (f := 0) (wh := .met "Sender" "__init__") T.m_Sender (ok_Sender_init T) (hr.mono (by decide)) T.g_Sender (pa_cons (pv 0) (pa_cons (pv 1) (pa_cons (pv 2) pa_nil))))
      (pa_cons (pe_dk (f := 0) (wh := .met "Reader" "__init__") T.m_Reader (ok_Reader_init T) (hr.mono (by decide)) T.g_Reader (pa_cons (pv 2) (pa_cons (pe_ix ix_tup (pv 0) pe_int (fun _ _ => rfl)) pa_nil))) (pa_cons pe_dnewK (pa_cons pe_dnewK pa_nil)))))), ?_⟩
    have w1 := (((w0.say (bkA c book) hb0).say (dtA c data) hd0).say (tupA book _) hb).say (tupA data [.ref st]) hd1
    refine ⟨_, rfl, _, rfl, _, rfl, fun s0 sdx hs0 hsdx ne => ?_⟩
    have w2 := W.made (C := He.ga K "Sender") nsSender w1 hs0 hsdx ne
    refine ⟨c, s0, sdx, book, road, data, _, _, rfl, w2, w2.f (bkA c book), w2.f (dtA c data), fun sx al L H1 e1 e2 e3 e4 w3 => ⟨rfl, ?_⟩⟩
    subst e1
    refine ⟨_, rfl, _, rfl, _, _, _, _, rfl, rfl, SqT.of (w3.st (tupA book _) (List.mem_cons_of_mem _ List.mem_cons_self)), rfl, fun r0 rdx hr0 hrdx ne2 => ?_⟩
    have w4 := W.made (C := He.ga K "Reader") nsReader w3 hr0 hrdx ne2
    refine ⟨r0, rdx, data, .ref st, _, _, rfl, w4, w4.f (tupA data [.ref st]), fun H2 dc lk d0 lr w5 => ⟨rfl, ?_⟩⟩
    refine fun pk hpk => fun ak hak => fun co cdx hco hcdx ne3 => ?_
    have w6 := (w5.new hpk (.dK [])).new hak (.dK [])
    have w7 := W.made (C := He.ga K "Core") nsCore w6 hco hcdx ne3
    refine ⟨co, cdx, sx.s, r0, pk, ak, _, _, rfl, w7, fun H3 w8 => ⟨rfl, ?_⟩⟩
    have w9 := w8.k [co, pk, ak]
    exact k ⟨co, cdx, pk, ak, sx.s, r0⟩ ⟨r0, rdx, data, dc, lk, d0, lr⟩ sx al L (fun _ => 0) _ rfl rfl rfl e2 e3 e4 (W.e0 (T := T') w9)
theorem sc_Crossing_init : FnScope ["self", "book", "road", "data"] ["self", "book", "road", "data"] (defScope s_Crossing_init) := ⟨rfl, rfl, rfl, by decide +kernel, rfl, by decide +kernel, by decide +kernel⟩
theorem ok_Crossing_init (T : Tp K mg base) : Def P w K mg base (.met "Crossing" "__init__") ["self", "book", "road", "data"] 6 (spCrInit K) := by
  refine def_mk T.f_Crossing_init sc_Crossing_init (fun vs H Q E h => ?_) (fun _ _ _ _ _ _ us hl => match us, hl with | [_, _, _, _], _ => rfl) (fun cdv A0 outer s H vs Q E hr h => ?_)
  · obtain ⟨c, cr, crdx, book, road, data, M, T', rfl, _⟩ := h; rfl
  · obtain ⟨c, cr, crdx, book, road, data, M, T', rfl, w0, hb0, hd0, k⟩ := h
    refine ⟨_, pss_cons (ps_fld (pv 0) (pv 2) rfl) (pss_cons (ps_fld (pv 0) (pe_d (ok_new_core T) hr T.g_new_core (pa_cons (pv 1) (pa_cons (pv 2) (pa_cons (pv 3) pa_nil)))) rfl) (pss_one (ps_fld (pv 0) pe_int rfl))), ?_⟩
    have w1 := (w0.say (bkA c book) hb0).say (dtA c data) hd0
    refine ⟨_, rfl, ?_⟩
    refine ⟨_, rfl, cr, _, _, _, rfl, w1.c cr, T.o_Crossing.cl, T.o_Crossing.na _ (List.mem_of_getElem? (i := 0) rfl), T.o_Crossing.ln, ?_⟩
    rw [fl_add T.o_Crossing.nd rfl]
    have w2 := w1.n cr (.ref road)
    refine ⟨_, rfl, _, rfl, _, rfl, c, book, road, data, _, _, rfl, w2, w2.f (bkA c book), w2.f (dtA c data), fun y rx sx al L A H1 e1 e2 e3 e4 e5 e6 w3 => ?_⟩
    refine ⟨_, rfl, cr, _, _, _, rfl, w3.c cr, T.o_Crossing.cl, T.o_Crossing.na _ (List.mem_of_getElem? (i := 1) rfl), T.o_Crossing.ln, ?_⟩
    rw [fl_add T.o_Crossing.nd rfl]
    have w4 := w3.n cr (.ref y.co)
    refine ⟨_, rfl, cr, _, _, _, rfl, w4.c cr, T.o_Crossing.cl, T.o_Crossing.na _ (List.mem_of_getElem? (i := 2) rfl), T.o_Crossing.ln, ?_⟩
    rw [fl_add T.o_Crossing.nd rfl]
    have w5 := (w4.n cr (.int 0)).k [cr]
    exact k y rx sx al L A _ e1 e2 e3 e4 e5 e6 (W.e0 (T := T') w5)
end
end Su


set_option Elab.async false
set_option linter.all false
set_option maxRecDepth 100000
set_option maxHeartbeats 2000000
set_option synthInstance.maxSize 100000
set_option synthInstance.maxHeartbeats 2000000
/-! a tick of both ends -/
namespace Su
open PySem PySem.Spec PyProof.Rows L2
section
variable {P : Program} {w : World} {K : PySem.W.Frag} {mg : Str → Option Value} {base : Heap}
theorem sc_Core_go : FnScope ["self", "now", "comes", "hears"] ["self", "now", "comes", "hears"] (defScope s_Core_go) := ⟨rfl, rfl, rfl, by decide +kernel, rfl, by decide +kernel, by decide +kernel⟩
theorem ok_Core_go (T : Tp K mg base) : Def P w K mg base (.met "Core" "go") ["self", "now", "comes", "hears"] 8 (spGo K) := by
  refine def_mk T.f_Core_go sc_Core_go (fun vs H Q E h => ?_) (fun _ _ _ _ _ _ us hl => match us, hl with | [_, _, _, _], _ => rfl) (fun cdv A0 outer s H vs Q E hr h => ?_)
  · obtain ⟨c, y, rx, sx, L, A, z, C, C1, gt, gt1, o, now, ct, ht, cs, hs, wc, M, T', rfl, _⟩ := h; rfl
  · obtain ⟨c, y, rx, sx, L, A, z, C, C1, gt, gt1, o, now, ct, ht, cs, hs, wc, M, T', rfl, erd, esd, w0, hdr, htb, hb, hrd, hd, hlt, hac, hp, hct, hht, hS, hTC, hC1S, hcc, hh, hpre, k⟩ := h
    refine ⟨_, pss_one (ps_ret (pe_op op_cat (pe_dm (ok_Core_reading T) (hr.mono (by decide)) T.c_Core T.m_Core_reading (pv 0) (pa_cons (pv 1) (pa_cons (pv 2) pa_nil))) (pe_dm (ok_Core_sending T) hr T.c_Core T.m_Core_sending (pv 0) (pa_cons (pv 1) (pa_cons (pv 3) pa_nil))))), ?_⟩
    let TT : List As := dtA c rx.pd :: tabA (Hz.tabW K (.met "Reader" "ack")) :: bkA c sx.book :: rdA c sx.road :: dtA c sx.data :: ltA z.S L :: prV o z.pair :: tupA ht hs :: T'
    have w1 : W H (allM K c y rx sx L A z C (rdAt C gt) M) TT := (((((((w0.say (tupA ht hs) hht).say (prV o z.pair) hp).say (ltA z.S L) hlt).say (dtA c sx.data) hd).say (rdA c sx.road) hrd).say (bkA c sx.book) hb).say (tabA _) htb).say (dtA c rx.pd) hdr
    have fin : ∀ (A' : Nat → Addr) (l : Addr) (es0 : List Addr) (H1 : Hp), es0.length ≤ 3 → W H1 ((l, .lst (es0.map V.ref)) :: allM K c y rx sx L A' z C1 (rdAt C1 gt1) M) (evsA wc es0 :: acA c C1 A' :: TT) → spSending K [.ref y.co, .int now, .ref ht] H1 (fun v H2 => rCat (.ref l) v H2 Q) E0 := by
      intro A' l es0 H1 hl w2
      have w3 := w2.k [y.co, y.pk, y.ak, rx.r, rx.dc, rx.lk, rx.d0, rx.lr, sx.s, sx.sent, sx.lets, sx.sts, sx.go, sx.stl, sx.an, sx.nx, z.al, sx.pp, sx.ptk, sx.ptl]
      refine ⟨c, y, rx, sx, L, A', z, C1, rdAt C1 gt1, o, now, ht, hs, _, _, rfl, erd, esd, w3, w3.f (bkA c sx.book), w3.f (rdA c sx.road), w3.f (dtA c sx.data), w3.f (ltA z.S L), w3.f (acA c C1 A'), w3.f (prV o z.pair), w3.f (tupA ht hs), by omega, hC1S, hh, hpre, fun z1 o1 ws l2 es L' H2 hc hg w4 => ?_, fun z1 o1 ws l2 es H2 hc hg w4 => ?_⟩
      · have hl2 := evsA_len (w4.f (evsA (ws ++ [(("send" : Str), (z1.S : Int))]) es))
        have q2 : ws.length ≤ 1 := by rcases hc with ⟨_, _, _, rfl⟩ | ⟨_, _, _, _, _, rfl⟩ <;> simp
        rw [List.length_append, List.length_singleton] at hl2
        refine ⟨l, l2, _, _, rfl, rfl, w4.c l, w4.c l2, Nat.le_of_lt (small1000 (by rw [List.length_map, List.length_map]; omega)), fun r hr0 => ?_⟩
        have w5 := ((w4.new hr0 (.lst (es0.map V.ref ++ es.map V.ref))).x l).x l2
        rw [← List.map_append] at w5 ⊢
        have w6 := W.e (T := T') w5 (acA c C1 A') (w5.f _)
        have w7 := (w6.say (ltA (z1.S + 1) L') (w5.f (ltA (z1.S + 1) L'))).say (prV o1 z1.pair) (w5.f (prV o1 z1.pair))
        have w8 := w7.say (evsA (wc ++ (ws ++ [(("send" : Str), (z1.S : Int))])) (es0 ++ es)) (evsA_app (w5.f (evsA (ws ++ [(("send" : Str), (z1.S : Int))]) es)) (w5.f (evsA wc es0)))
        exact k z1 o1 ws (nextS z1) [(("send" : Str), (z1.S : Int))] r (es0 ++ es) L' A' _ hc (.inl ⟨hg, rfl, rfl⟩) w8
      · have hl2 := evsA_len (w4.f (evsA ws es))
        have q2 : ws.length ≤ 1 := by rcases hc with ⟨_, _, _, rfl⟩ | ⟨_, _, _, _, _, rfl⟩ <;> simp
        have eS : z1.S = z.S := by rcases hc with ⟨_, rfl, _⟩ | ⟨_, v, al, rfl, _⟩ <;> rfl
        refine ⟨l, l2, _, _, rfl, rfl, w4.c l, w4.c l2, Nat.le_of_lt (small1000 (by rw [List.length_map, List.length_map]; omega)), fun r hr0 => ?_⟩
        have w5 := ((w4.new hr0 (.lst (es0.map V.ref ++ es.map V.ref))).x l).x l2
        rw [← List.map_append] at w5 ⊢
        have hl1 : ∀ H, (ltA z.S L).φ H → (ltA z1.S L).φ H := fun H h => by rw [eS]; exact h
        have w6 := W.e (T := T') w5 (acA c C1 A') (w5.f _)
        have w7 := (w6.say (ltA z1.S L) (hl1 _ (w5.f (ltA z.S L)))).say (prV o1 z1.pair) (w5.f (prV o1 z1.pair))
        have w8 := w7.say (evsA (wc ++ (ws ++ [])) (es0 ++ es)) (evsA_app (by rw [List.append_nil]; exact w5.f (evsA ws es)) (w5.f (evsA wc es0)))
        exact k z1 o1 ws z1 [] r (es0 ++ es) L A' _ hc (.inr ⟨hg, rfl, rfl⟩) w8
    refine ⟨_, rfl, y.co, y.dx, _, rfl, w1.c y.co, fl_no (by decide +kernel), _, rfl, _, rfl, c, y, rx, sx, L, A, z, C, gt, now, ct, M, acA c C A :: TT, rfl, erd, esd, w1.say (acA c C A) hac, hdr, htb, hlt, hac, hS, hTC, ?_⟩
    rcases hcc with ⟨rfl, rfl, rfl, rfl⟩ | ⟨rfl, hCS, hnow, rfl, rfl, rfl⟩
    · refine .inl ⟨hct, fun l H1 w2 => ?_⟩
      exact ⟨_, rfl, y.co, y.dx, _, rfl, w2.c y.co, fl_no (by decide +kernel), _, rfl, _, rfl, fin A l [] H1 (by decide) (w2.say (evsA [] []) trivial)⟩
    · refine .inr ⟨hct, hCS, hnow, fun l e1 e2 e3 A' H1 w2 => ?_⟩
      have w3 := (W.e (T := TT) w2 (acA c (C + 1) A') (w2.f _)).say (evsA [(("come" : Str), (C : Int)), (("read" : Str), 0), (("ack" : Str), (C : Int))] [e1, e2, e3]) (w2.f (evsA [(("come" : Str), (C : Int)), (("read" : Str), 0), (("ack" : Str), (C : Int))] [e1, e2, e3]))
      exact ⟨_, rfl, y.co, y.dx, _, rfl, w2.c y.co, fl_no (by decide +kernel), _, rfl, _, rfl, fin A' l [e1, e2, e3] H1 (by simp) w3⟩
end
end Su


set_option Elab.async false
set_option linter.all false
set_option maxRecDepth 100000
set_option maxHeartbeats 2000000
set_option synthInstance.maxSize 100000
set_option synthInstance.maxHeartbeats 2000000
/-! a tick of a run -/
namespace Su
open PySem PySem.Spec PyProof.Rows L2
def capB (sc scope : Scope) : Bool := scope.names.all fun y => y.2 != .free || sc.names.lookup y.1 == some .cell
theorem cap_by {env : Env} {sc scope : Scope} (e : env.scope = sc) (h : capB sc scope = true) : ∀ y ∈ scope.names, y.2 = .free → env.kindOf y.1 = some .cell := by
  intro y hy hf
  have q := List.all_eq_true.mp h y hy
  rw [hf] at q
  show env.scope.names.lookup y.1 = some .cell
  rw [e]
  simpa using q
structure TickPre (c : Cf) (z : SdS) (o : Option (Fr × Fr)) (C C1 : Nat) (gt gt1 now : Int) (cs hs : List V) (wc : List (Str × Int)) : Prop where
  S : z.S < 60
  TC : z.T ≤ C
  CS : C1 ≤ z.S
  come : ComeCase c z C gt now cs C1 gt1 wc
  hear : hs = [] ∨ hs = [.int z.T] ∧ HearPre c z o C1 now ∧ z.T < C
  pre : ∀ z1 o1 ws, HearCase c z o hs z1 o1 ws → PreS c z1 o1 now
  del : cs = [] ∨ c.lo + c.rate ≤ now - c.s C ∧ now - c.s C ≤ c.hi
def spTick (K : PySem.W.Frag) : Sp := fun vs H Q _ => ∃ (c : Cf) (cr crdx road : Addr) (y : CoA) (rx : RdA) (sx : SdA) (L A : Nat → Addr) (z : SdS) (C C1 : Nat) (gt gt1 : Int) (o : Option (Fr × Fr)) (now : Int) (ct ht : Addr) (cs hs : List V) (wc : List (Str × Int)) (M : List Cell) (T : List As), vs = [.ref cr, .ref ct, .ref ht] ∧ y.rd = rx.r ∧ y.sd = sx.s ∧
  W H ((cr, crO K crdx road y.co now) :: allM K c y rx sx L A z C (rdAt C gt) M) T ∧ (rdA c road).φ H ∧ (dtA c rx.pd).φ H ∧ (tabA (Hz.tabW K (.met "Reader" "ack"))).φ H ∧ (tabA (Hz.tabW K (.met "Crossing" "tick"))).φ H ∧ (bkA c sx.book).φ H ∧ (rdA c sx.road).φ H ∧ (dtA c sx.data).φ H ∧ (ltA z.S L).φ H ∧ (acA c C A).φ H ∧ (prV o z.pair).φ H ∧ (tupA ct cs).φ H ∧ (tupA ht hs).φ H ∧
  TickPre c z o C C1 gt gt1 now cs hs wc ∧
  ∀ z1 o1 ws z2 wd tp es L' A' H', HearCase c z o hs z1 o1 ws → SendCase c z1 now z2 wd → W H' ((cr, crO K crdx road y.co (now + 1)) :: allM K c y rx sx L' A' z2 C1 (rdAt C1 gt1) M) (tupA tp (es.map V.ref) :: evsA (wc ++ (ws ++ wd)) es :: prV o1 z2.pair :: ltA z2.S L' :: acA c C1 A' :: T) → Q (.ref tp) H'
def spKept (K : PySem.W.Frag) : Sp := fun vs H Q _ => ∃ (cr crdx road co : Addr) (now : Int), vs = [.ref cr] ∧ H cr = some (crO K crdx road co now) ∧ Q (.int now) H
theorem q_inT {X : Cx} {σ : L2.St} {H : Hp} {scope : Scope} {cenv : Env} {t : Shared} {i o : Expr} {n : Int} {p : Pos} {d : Addr} {kvs : List (Key × V)} (G : GX X σ H scope cenv t) (hi : QE X.prog X.w cenv t i (.int n)) (ho : QE X.prog X.w cenv t o (.ref d)) (ed : H d = some (.dK kvs)) (hv : (valV kvs (Sum.inl n : Key)).isSome = true) (hm : behindInMarks .In o = false := by rfl) :
    QE X.prog X.w cenv t (.Compare i [.In] [o] p) (.bl true) := by
  have q := q_in (p := p) G hi ho ed hm
  rw [hv] at q
  exact q
theorem q_le2T {X : Cx} {cenv : Env} {t : Shared} {e o i : Expr} {n j l : Int} {p : Pos} (h1 : QE X.prog X.w cenv t e (.int n)) (h2 : QE X.prog X.w cenv t o (.int j)) (h3 : QE X.prog X.w cenv t i (.int l)) (l1 : n ≤ j) (l2 : j ≤ l) (hm : lastMarks [.LtE, .LtE] [o, i] = false := by with_unfolding_all rfl) :
    QE X.prog X.w cenv t (.Compare e [.LtE, .LtE] [o, i] p) (.bl true) := by
  have q := q_le2 (p := p) h1 h2 h3 hm
  rw [decide_eq_true l1, decide_eq_true l2] at q
  exact q
section
variable {P : Program} {w : World} {K : PySem.W.Frag} {mg : Str → Option Value} {base : Heap}
theorem sc_Crossing_kept_now : FnScope ["self"] ["self"] (defScope s_Crossing_kept_now) := ⟨rfl, rfl, rfl, by decide +kernel, rfl, by decide +kernel, by decide +kernel⟩
theorem ok_Crossing_kept_now (T : Tp K mg base) : Def P w K mg base (.get "Crossing" "kept_now") ["self"] 1 (spKept K) := by
  refine def_mk T.f_Crossing_kept_now sc_Crossing_kept_now (fun vs H Q E h => ?_) (fun _ _ _ _ _ _ us hl => match us, hl with | [_], _ => rfl) (fun cdv A outer s H vs Q E hr h => ?_)
  · obtain ⟨cr, crdx, road, co, now, rfl, _⟩ := h; rfl
  · obtain ⟨cr, crdx, road, co, now, rfl, h0, k⟩ := h
    exact ⟨_, pss_one (ps_ret (pe_fld (pv 0) rfl)), r_fld (k := 2) T.o_Crossing rfl h0 rfl rfl k⟩
theorem sc_Crossing_tick : FnScope ["self", "fates", "acks", "core", "lo", "hi", "low", "high", "events"] ["self", "fates", "acks"] (defScope s_Crossing_tick) := ⟨rfl, rfl, rfl, by decide +kernel, rfl, by decide +kernel, by decide +kernel⟩
theorem ok_Crossing_tick (T : Tp K mg base) : Def P w K mg base (.met "Crossing" "tick") ["self", "fates", "acks"] 9 (spTick K) := by
  refine def_mkC T.f_Crossing_tick sc_Crossing_tick (fun vs H Q E h => ?_) (fun _ _ _ _ _ _ us hl => match us, hl with | [_, _, _], _ => rfl) (fun A0 outer s H vs Q E hr h => ?_)
  · obtain ⟨c, cr, crdx, road, y, rx, sx, L, A, z, C, C1, gt, gt1, o, now, ct, ht, cs, hs, wc, M, T', rfl, _⟩ := h; rfl
  · obtain ⟨c, cr, crdx, road, y, rx, sx, L, A, z, C, C1, gt, gt1, o, now, ct, ht, cs, hs, wc, M, T', rfl, erd, esd, w0, hrd0, hdr, htb, htt, hb, hrd, hd, hlt, hac, hp, hct, hht, hP, k⟩ := h
    have nd := sc_Crossing_tick.nd
    have hu := hu_of hr
    refine ⟨_, pss_cons (ps_set (i := 3) nd rfl (.inr rfl) (pe_fld (pv 0) rfl))
      (pss_cons (ps_asg (pe_fld (pv 0) rfl) (pg_tup (n := 4) rfl (pgs_cons (pg_name (i := 4) nd rfl (.inr rfl)) (pgs_cons (pg_name (i := 5) nd rfl (.inr rfl)) (pgs_cons (pg_name (i := 6) nd rfl (.inr rfl)) (pgs_cons (pg_name (i := 7) nd rfl (.inr rfl)) pgs_nil))))))
      (pss_cons (ps_if (pt_not (pt_val (pe_allT (x := "number") hr rfl T.b_all (by decide +kernel) T.t_Crossing_tick rfl ⟨rfl, rfl, by decide +kernel, rfl, rfl, cap_by (sc := defScope s_Crossing_tick) rfl (by decide +kernel)⟩ (pv 1) (by intro _; rfl)))) pss_never pss_nil)
      (pss_cons (ps_if (pt_not (pt_val (pe_allT (x := "number") hr rfl T.b_all (by decide +kernel) T.t_Crossing_tick rfl ⟨rfl, rfl, by decide +kernel, rfl, rfl, cap_by (sc := defScope s_Crossing_tick) rfl (by decide +kernel)⟩ (pv 2) (by intro _; rfl)))) pss_never pss_nil)
      (pss_cons (ps_set (i := 8) nd rfl (.inl rfl) (pe_dm (ok_Core_go T) hr T.c_Core T.m_Core_go (pv 3) (pa_cons (pe_fld (pv 0) rfl) (pa_cons (pv 1) (pa_cons (pv 2) pa_nil)))))
      (pss_cons (ps_fldaug (pv 0) pe_int in_add)
      (pss_one (ps_ret (pe_callTy call_tuple_of rfl T.b_tuple (by decide +kernel) (pa_cons (pv 8) pa_nil))))))))), ?_⟩
    let TT : List As := rdA c road :: dtA c rx.pd :: tabA (Hz.tabW K (.met "Reader" "ack")) :: tabA (Hz.tabW K (.met "Crossing" "tick")) :: bkA c sx.book :: rdA c sx.road :: dtA c sx.data :: ltA z.S L :: acA c C A :: prV o z.pair :: tupA ct cs :: tupA ht hs :: T'
    let MX : List Cell := (cr, crO K crdx road y.co now) :: allM K c y rx sx L A z C (rdAt C gt) M
    have w1 : W H MX TT := ((((((((((((w0.say (tupA ht hs) hht).say (tupA ct cs) hct).say (prV o z.pair) hp).say (acA c C A) hac).say (ltA z.S L) hlt).say (dtA c sx.data) hd).say (rdA c sx.road) hrd).say (bkA c sx.book) hb).say (tabA _) htt).say (tabA _) htb).say (dtA c rx.pd) hdr).say (rdA c road) hrd0)
    let σ1 : Option V → Option V → L2.St := fun a b => [some (.ref cr), some (.ref ct), some (.ref ht), some (.ref y.co), a, b, a, a, none]
    let σA : Option V → L2.St := fun e => [some (.ref cr), some (.ref ct), some (.ref ht), some (.ref y.co), some (.int (c.lo + c.rate)), some (.int c.hi), some (.int c.lo), some (.int c.lo), e]
    refine seq_mid (fun σ H => σ = σ1 none none ∧ W H MX TT) (fun σ H y => ?tail1) (fun D' hD' _ => ?stmt1)
    case stmt1 => exact r_fld (k := 1) T.o_Crossing rfl (w1.c cr) rfl rfl (hD' _ _ ⟨rfl, w1⟩)
    obtain ⟨rfl, w2⟩ := y
    clear w1
    refine seq_mid (fun σ H => σ = σA none ∧ W H MX TT) (fun σ H y => ?tail2) (fun D' hD' _ => ?stmt2)
    case stmt2 => exact r_fld (k := 0) T.o_Crossing rfl (w2.c cr) rfl rfl ⟨road, c.rv, rfl, SqT.of (w2.f (rdA c road)), rfl, _, _, rfl, _, _, rfl, _, _, rfl, _, _, rfl, rfl, hD' _ _ ⟨rfl, w2⟩⟩
    obtain ⟨rfl, w3⟩ := y
    clear w2
    -- the packets
    refine seq_mid (fun σ H => σ = σA none ∧ W H MX TT) (fun σ H y => ?tail3) (fun D' hD' _ => ?stmt3)
    case stmt3 =>
      refine ⟨_, rfl, ct, cs, rfl, SqT.of (w3.f (tupA ct cs)), w3.f (tabA (Hz.tabW K (.met "Crossing" "tick"))), fun H2 cenv t m u wv i tb G hns hm hx ru => ?_, fun H2 tb => ⟨_, rfl, iteF (hD' _ _ ⟨rfl, w3.tab (w3.f (tabA (Hz.tabW K (.met "Crossing" "tick")))) tb⟩)⟩⟩
      have w4 := w3.tab (w3.f (tabA (Hz.tabW K (.met "Crossing" "tick")))) tb
      rcases hP.come with ⟨rfl, _⟩ | ⟨rfl, hCS, hnow, _⟩
      · cases hx
      · have hdel := hP.del.resolve_left (by simp)
        match i, hx with
        | 0, hx =>
          cases hx
          exact q_and (q_inT G (q_loc G rfl hns hm ru) (q_fld G (q_cap (i := 3) G rfl rfl rfl rfl) (w4.c y.co) T.o_Core.cl (T.o_Core.na _ (List.mem_of_getElem? (i := 2) rfl)) rfl) (w4.c y.pk) (by rw [kF_val (Nat.le_refl _) hCS]; rfl))
            (q_le2T (q_cap (i := 4) G rfl rfl rfl rfl) (q_sub (q_fld G (q_cap (i := 0) G rfl rfl rfl rfl) (w4.c cr) T.o_Crossing.cl (T.o_Crossing.na _ (List.mem_of_getElem? (i := 2) rfl)) rfl) (q_get G (q_fld G (q_cap (i := 3) G rfl rfl rfl rfl) (w4.c y.co) T.o_Core.cl (T.o_Core.na _ (List.mem_of_getElem? (i := 2) rfl)) rfl) (q_loc G rfl hns hm ru) (w4.c y.pk) (kF_val (Nat.le_refl _) hCS))) (q_cap (i := 5) G rfl rfl rfl rfl) hdel.1 hdel.2)
    obtain ⟨rfl, w4⟩ := y
    clear w3
    -- the acks
    refine seq_mid (fun σ H => σ = σA none ∧ W H MX TT) (fun σ H y => ?tail4) (fun D' hD' _ => ?stmt4)
    case stmt4 =>
      refine ⟨_, rfl, ht, hs, rfl, SqT.of (w4.f (tupA ht hs)), w4.f (tabA (Hz.tabW K (.met "Crossing" "tick"))), fun H2 cenv t m u wv i tb G hns hm hx ru => ?_, fun H2 tb => ⟨_, rfl, iteF (hD' _ _ ⟨rfl, w4.tab (w4.f (tabA (Hz.tabW K (.met "Crossing" "tick")))) tb⟩)⟩⟩
      have w5 := w4.tab (w4.f (tabA (Hz.tabW K (.met "Crossing" "tick")))) tb
      rcases hP.hear with rfl | ⟨rfl, hh, hlt2⟩
      · cases hx
      · have hnow := hh.now
        obtain ⟨aa, p1, p2⟩ := (w5.f (acA c C A)) z.T hlt2
        match i, hx with
        | 0, hx =>
          cases hx
          have e1 : now - c.a z.T = c.lo := by rw [hnow]; show c.lo + c.lv z.T + c.lo - (c.lo + c.lv z.T) = c.lo; omega
          exact q_and (q_inT G (q_loc G rfl hns hm ru) (q_fld G (q_cap (i := 3) G rfl rfl rfl rfl) (w5.c y.co) T.o_Core.cl (T.o_Core.na _ (List.mem_of_getElem? (i := 3) rfl)) rfl) (w5.c y.ak) (by rw [kF_val (Nat.le_refl _) hlt2]; rfl))
            (q_le2T (q_cap (i := 6) G rfl rfl rfl rfl) (q_sub (q_fld G (q_cap (i := 0) G rfl rfl rfl rfl) (w5.c cr) T.o_Crossing.cl (T.o_Crossing.na _ (List.mem_of_getElem? (i := 2) rfl)) rfl) (q_tup G (q_get G (q_fld G (q_cap (i := 3) G rfl rfl rfl rfl) (w5.c y.co) T.o_Core.cl (T.o_Core.na _ (List.mem_of_getElem? (i := 3) rfl)) rfl) (q_loc G rfl hns hm ru) (w5.c y.ak) (kF_val (Nat.le_refl _) hlt2)) q_int p1 rfl)) (q_cap (i := 7) G rfl rfl rfl rfl) (Int.le_of_eq e1.symm) (Int.le_of_eq e1))
    obtain ⟨rfl, w5⟩ := y
    clear w4
    -- both ends
    have w6 := w5.k [y.co, y.pk, y.ak, rx.r, rx.dc, rx.lk, rx.d0, rx.lr, sx.s, sx.sent, sx.lets, sx.sts, sx.go, sx.stl, sx.an, sx.nx, z.al, sx.pp, sx.ptk, sx.ptl]
    refine q_seq ⟨_, rfl, y.co, y.dx, _, rfl, w6.c y.co, fl_no (by decide +kernel), r_fld (k := 2) T.o_Crossing rfl (w6.c cr) rfl rfl ⟨_, rfl, _, rfl, c, y, rx, sx, L, A, z, C, C1, gt, gt1, o, now, ct, ht, cs, hs, wc, _, _, rfl, erd, esd, w6, w6.f (dtA c rx.pd), w6.f (tabA (Hz.tabW K (.met "Reader" "ack"))), w6.f (bkA c sx.book), w6.f (rdA c sx.road), w6.f (dtA c sx.data), w6.f (ltA z.S L), w6.f (acA c C A), w6.f (prV o z.pair), w6.f (tupA ct cs), w6.f (tupA ht hs), hP.S, hP.TC, hP.CS, hP.come, hP.hear.imp id (fun q => ⟨q.1, q.2.1⟩), hP.pre, fun z1 o1 ws z2 wd l es L' A' H1 hc hsd w7 => ?_⟩⟩
    refine r_inc (k := 2) (j := 1) T.o_Crossing rfl (w7.c cr) rfl rfl ?_
    have w8 := w7.s cr 2 (.int (now + 1))
    refine ⟨_, rfl, l, _, rfl, .inl ⟨SqL.of (w8.c l), fun tp htp => ?_⟩⟩
    have w9 := ((w8.newT htp (es.map V.ref)).x l).k [cr]
    have w10 := ((((W.e (T := T') w9 (acA c C1 A') (w9.f _)).say (ltA z2.S L') (w9.f (ltA z2.S L'))).say (prV o1 z2.pair) (w9.f (prV o1 z2.pair))).say (evsA (wc ++ (ws ++ wd)) es) (w9.f (evsA (wc ++ (ws ++ wd)) es))).say (tupA tp (es.map V.ref)) (w9.f (tupA tp (es.map V.ref)))
    exact k z1 o1 ws z2 wd tp es L' A' _ hc hsd w10
end
end Su


set_option Elab.async false
set_option linter.all false
set_option maxRecDepth 100000
set_option maxHeartbeats 2000000
set_option synthInstance.maxSize 100000
set_option synthInstance.maxHeartbeats 2000000
/-! the queue -/
namespace Su
open PySem PySem.Spec PyProof.Rows L2
def rF (a b : Nat) (f : Nat → Int) : List V := (List.range' a (b - a)).map fun (i : Nat) => V.int (f i)
theorem rF_len (a b : Nat) (f : Nat → Int) : (rF a b f).length = b - a := by unfold rF; simp
theorem rF_at {a b i : Nat} {f : Nat → Int} (h : i < b - a) : (rF a b f)[i]? = some (V.int (f (a + i))) := by
  unfold rF; rw [List.getElem?_map, List.getElem?_range' h]; simp
theorem rF_nil {a b : Nat} {f : Nat → Int} (h : b ≤ a) : rF a b f = [] := by unfold rF; rw [Nat.sub_eq_zero_of_le h]; rfl
theorem rF_snoc {a b : Nat} {f : Nat → Int} (h : a ≤ b) : rF a b f ++ [V.int (f b)] = rF a (b + 1) f := by
  unfold rF
  rw [show b + 1 - a = (b - a) + 1 from by omega, List.range'_1_concat, List.map_append, show a + (b - a) = b from by omega]
  rfl
theorem rF_last {a b : Nat} {f : Nat → Int} (h : a ≤ b) : atI (rF a (b + 1) f) (-1) = some (V.int (f b)) := by
  unfold atI ixN
  rw [if_neg (by decide), rF_len, if_pos (by omega)]
  show (rF a (b + 1) f)[((-1 : Int) + ((b + 1 - a : Nat) : Int)).toNat]? = _
  rw [show ((-1 : Int) + ((b + 1 - a : Nat) : Int)).toNat = b - a from by omega, rF_at (by omega), show a + (b - a) = b from by omega]
theorem rF_em {a b : Nat} {f : Nat → Int} : (rF a b f).isEmpty = decide (b ≤ a) := by
  by_cases h : b ≤ a
  · rw [rF_nil h, decide_eq_true h]; rfl
  · rw [decide_eq_false h]
    have q := rF_len a b f
    cases e : rF a b f with
    | nil => rw [e] at q; simp at q; omega
    | cons _ _ => rfl
abbrev quO (K : PySem.W.Frag) (c : Cf) (dx lv : Addr) : HO := .ins (He.ga K "Queue") dx (fl nsQueue [.int c.lo, .int c.rate, .int c.room, .ref lv])
def quA (c : Cf) (q : Addr) : As := tupA q [.int c.lo, .int c.rate, .int c.room]
def spQuInit (K : PySem.W.Frag) : Sp := fun vs H Q _ => ∃ (c : Cf) (q dx qt : Addr) (M : List Cell) (T : List As), vs = [.ref q, .ref qt] ∧ W H ((q, .ins (He.ga K "Queue") dx (fl nsQueue [])) :: M) T ∧ (quA c qt).φ H ∧ ∀ H' lv, W H' ((q, quO K c dx lv) :: (lv, .lst []) :: M) T → Q .non H'
/-- packet S enters when those from b on are in the queue -/
structure Ent (c : Cf) (a b S : Nat) : Prop where
  ab : a ≤ b
  bS : b ≤ S
  gone : ∀ j, a ≤ j → j < b → c.lv j ≤ c.s S
  here : ∀ j, b ≤ j → j < S → c.s S < c.lv j
  room : ((S - b : Nat) : Int) < c.room
  nx : c.lv S = (if b < S then c.lv (S - 1) else c.s S) + c.rate
  S0 : S < 1000
def spEnter (K : PySem.W.Frag) : Sp := fun vs H Q _ => ∃ (c : Cf) (q dx lv : Addr) (a b S : Nat) (M : List Cell) (T : List As), vs = [.ref q, .int (c.s S)] ∧ W H ((q, quO K c dx lv) :: (lv, .lst (rF a S c.lv)) :: M) T ∧ Ent c a b S ∧
  ∀ H' lv', W H' ((q, quO K c dx lv') :: (lv', .lst (rF b (S + 1) c.lv)) :: M) T → Q (.int (c.lv S - c.s S + c.lo)) H'
def spRoad (K : PySem.W.Frag) : Sp := fun vs H Q _ => ∃ (c : Cf) (qt : Addr) (M : List Cell) (T : List As), vs = [.ref qt] ∧ W H M T ∧ (quA c qt).φ H ∧ Sml c.rate ∧ ∀ r H', W H' M (rdA c r :: T) → Q (.ref r) H'
section
variable {P : Program} {w : World} {K : PySem.W.Frag} {mg : Str → Option Value} {base : Heap}
theorem sc_Queue_init : FnScope ["self", "queue"] ["self", "queue"] (defScope s_Queue_init) := ⟨rfl, rfl, rfl, by decide +kernel, rfl, by decide +kernel, by decide +kernel⟩
theorem ok_Queue_init (T : Tp K mg base) : Def P w K mg base (.met "Queue" "__init__") ["self", "queue"] 1 (spQuInit K) := by
  refine def_mk T.f_Queue_init sc_Queue_init (fun vs H Q E h => ?_) (fun _ _ _ _ _ _ us hl => match us, hl with | [_, _], _ => rfl) (fun cdv A outer s H vs Q E hr h => ?_)
  · obtain ⟨c, q, dx, qt, M, T', rfl, _⟩ := h; rfl
  · obtain ⟨c, q, dx, qt, M, T', rfl, w0, hq, k⟩ := h
    refine ⟨_, pss_cons (ps_asg (pv 1) (pg_tup (n := 3) rfl (pgs_cons (pg_fld (pv 0)) (pgs_cons (pg_fld (pv 0)) (pgs_cons (pg_fld (pv 0)) pgs_nil))))) (pss_one (ps_fld (pv 0) (pe_lst pa_nil) rfl)), ?_⟩
    have w1 := w0.say (quA c qt) hq
    refine ⟨_, rfl, qt, [.int c.lo, .int c.rate, .int c.room], rfl, SqT.of hq, rfl, _, _, rfl, ?_⟩
    refine ⟨_, rfl, q, _, _, _, rfl, w1.c q, T.o_Queue.cl, T.o_Queue.na _ (List.mem_of_getElem? (i := 0) rfl), T.o_Queue.ln, ?_⟩
    rw [fl_add T.o_Queue.nd rfl]
    have w2 := w1.n q (.int c.lo)
    refine ⟨_, _, rfl, ?_⟩
    refine ⟨_, rfl, q, _, _, _, rfl, w2.c q, T.o_Queue.cl, T.o_Queue.na _ (List.mem_of_getElem? (i := 1) rfl), T.o_Queue.ln, ?_⟩
    rw [fl_add T.o_Queue.nd rfl]
    have w3 := w2.n q (.int c.rate)
    refine ⟨_, _, rfl, ?_⟩
    refine ⟨_, rfl, q, _, _, _, rfl, w3.c q, T.o_Queue.cl, T.o_Queue.na _ (List.mem_of_getElem? (i := 2) rfl), T.o_Queue.ln, ?_⟩
    rw [fl_add T.o_Queue.nd rfl]
    have w4 := w3.n q (.int c.room)
    refine ⟨rfl, ?_⟩
    refine ⟨Nat.zero_le _, fun lv hlv => ?_⟩
    have w5 := w4.new hlv (.lst [])
    refine ⟨_, rfl, q, _, _, _, rfl, w5.c q, T.o_Queue.cl, T.o_Queue.na _ (List.mem_of_getElem? (i := 3) rfl), T.o_Queue.ln, ?_⟩
    rw [fl_add T.o_Queue.nd rfl]
    have w6 := (w5.n q (.ref lv)).k [q]
    exact k _ lv (W.e0 (T := T') w6)
theorem sc_road_of : FnScope ["queue", "lo", "rate", "room"] ["queue"] (defScope s_road_of) := ⟨rfl, rfl, rfl, by decide +kernel, rfl, by decide +kernel, by decide +kernel⟩
theorem ok_road_of (T : Tp K mg base) : Def P w K mg base (.glo "road_of") ["queue"] 1 (spRoad K) := by
  refine def_mk T.f_road_of sc_road_of (fun vs H Q E h => ?_) (fun _ _ _ _ _ _ us hl => match us, hl with | [_], _ => rfl) (fun cdv A outer s H vs Q E hr h => ?_)
  · obtain ⟨c, qt, M, T', rfl, _⟩ := h; rfl
  · obtain ⟨c, qt, M, T', rfl, w0, hq, hs, k⟩ := h
    have nd := sc_road_of.nd
    refine ⟨_, pss_cons (ps_asg (pv 0) (pg_tup (n := 3) rfl (pgs_cons (pg_name (i := 1) nd rfl (.inl rfl)) (pgs_cons (pg_name (i := 2) nd rfl (.inl rfl)) (pgs_cons (pg_name (i := 3) nd rfl (.inl rfl)) pgs_nil)))))
      (pss_one (ps_ret (pe_tup (pa_cons (pe_op op_add (pv 1) (pv 2)) (pa_cons (pe_op op_add (pv 1) (pe_op op_mul (pv 2) (pv 3))) (pa_cons (pv 1) (pa_cons (pv 1) pa_nil))))))), ?_⟩
    unfold Sml at hs
    refine ⟨_, rfl, qt, [.int c.lo, .int c.rate, .int c.room], rfl, SqT.of hq, rfl, _, _, rfl, _, _, rfl, _, _, rfl, rfl, ?_⟩
    refine ⟨_, rfl, _, rfl, _, _, rfl, rfl, _, rfl, _, rfl, _, rfl, _, _, rfl, rfl, .inl ⟨by omega, by omega⟩, _, _, rfl, rfl, _, rfl, _, rfl, by show 4 ≤ sizeLine; decide, fun r hr0 => ?_⟩
    exact k r _ (w0.newT hr0 c.rv)
theorem sc_Queue_enter : FnScope ["self", "now", "start", "tick"] ["self", "now"] (defScope s_Queue_enter) := ⟨rfl, rfl, rfl, by decide +kernel, rfl, by decide +kernel, by decide +kernel⟩
theorem ok_Queue_enter (T : Tp K mg base) : Def P w K mg base (.met "Queue" "enter") ["self", "now"] 1 (spEnter K) := by
  refine def_mk T.f_Queue_enter sc_Queue_enter (fun vs H Q E h => ?_) (fun _ _ _ _ _ _ us hl => match us, hl with | [_, _], _ => rfl) (fun cdv A outer s H vs Q E hr h => ?_)
  · obtain ⟨c, q, dx, lv, a, b, S, M, T', rfl, _⟩ := h; rfl
  · obtain ⟨c, q, dx, lv, a, b, S, M, T', rfl, w0, hE, k⟩ := h
    have nd := sc_Queue_enter.nd
    refine ⟨_, pss_cons (ps_fld (pv 0) (pe_lc (own := [("tick", 3)]) (g := gName 3) (tt := tTest (tOp (rI0 fun i j => .bl (decide (j < i))) (tVar 3) (tVar 1))) (te := tVar 3) rfl nd (pi_list (pe_fld (pv 0) rfl)) (blkOk_by (N := ["self", "now", "start", "tick"]) (sc := defScope s_Queue_enter) (by decide +kernel)) (fun _ _ _ _ _ => pg_name (i := 3) nd rfl (.inl rfl)) (fun _ _ _ _ _ => pts_one (pt_cmpR op_gt (pv 3) (pv 1) (nomark _))) (fun _ _ _ _ _ => pv 3)) rfl)
      (pss_cons (ps_if (pt_cmpR op_ge (pe_callB call_len_seq rfl T.b_len boot_len (pa_cons (pe_fld (pv 0) rfl) pa_nil)) (pe_fld (pv 0) rfl) (nomark _)) pss_never pss_nil)
      (pss_cons (ps_set (i := 2) nd rfl (.inl rfl) (pe_ifExp (pt_truth (pe_fld (pv 0) rfl) (by intro _; rfl)) (pe_ix ix_list (pe_fld (pv 0) rfl) (pe_un un_neg pe_int) (fun _ _ => rfl)) (pv 1)))
      (pss_cons (ps_expr (pe_bm PySem.F.plainAttrs_list PySem.F.slot_list_append PySem.F.type_list_append mt_append (pe_fld (pv 0) rfl) (pa_cons (pe_op op_add (pv 2) (pe_fld (pv 0) rfl)) pa_nil)))
      (pss_one (ps_ret (pe_op op_add (pe_op op_sub (pe_ix ix_list (pe_fld (pv 0) rfl) (pe_un un_neg pe_int) (fun _ _ => rfl)) (pv 1)) (pe_fld (pv 0) rfl))))))), ?_⟩
    obtain ⟨hab, hbS, hgone, hhere, hroom, hnx, hS0⟩ := hE
    refine seq_mid (fun σ H => ∃ lv', σ = [some (.ref q), some (.int (c.s S)), none, none] ∧ W H ((q, quO K c dx lv') :: (lv', .lst (rF b S c.lv)) :: M) T') (fun σ H y => ?tail1) (fun D' hD' _ => ?stmt1)
    case stmt1 =>
      refine r_fld (k := 3) T.o_Queue rfl (w0.c q) rfl rfl ⟨lv, rfl, ⟨_, SqL.of (w0.c lv)⟩, fun D hD => ?_⟩
      have w1 := w0.new hD (.lst [])
      refine lc_list (xs := rF a S c.lv) (fun i H => i ≤ S - a ∧ W H ((D, .lst (rF b (a + i) c.lv)) :: (q, quO K c dx lv) :: (lv, .lst (rF a S c.lv)) :: M) T') ⟨Nat.zero_le _, by rw [rF_nil (show a + 0 ≤ b by omega)]; exact w1⟩ (fun i H hi h => SqL.of (h.2.c lv)) (fun i y H hy h => ?_) (fun H h => ?_)
      · obtain ⟨hi, w⟩ := h
        have hi : i < S - a := by
          have q := (List.getElem?_eq_some_iff.mp hy).1
          rw [rF_len] at q; exact q
        rw [rF_at hi] at hy
        cases hy
        refine ⟨rfl, _, rfl, _, rfl, _, _, rfl, rfl, _, rfl, ?_⟩
        by_cases hlt2 : a + i < b
        · have := hgone (a + i) (by omega) hlt2
          rw [decide_eq_false (by omega)]
          refine iteF ⟨hi, ?_⟩
          rw [rF_nil (show a + (i + 1) ≤ b by omega), ← rF_nil (f := c.lv) (show a + i ≤ b by omega)]
          exact w
        · have := hhere (a + i) (by omega) (by omega)
          rw [decide_eq_true (by omega)]
          refine iteT ⟨_, rfl, _, w.c D, small1000 (by rw [rF_len]; omega), hi, ?_⟩
          rw [rF_snoc (by omega)]
          exact w.p D (.lst (rF b (a + i + 1) c.lv))
      · obtain ⟨_, w⟩ := h
        rw [rF_len, show a + (S - a) = S from by omega] at w
        refine ⟨_, rfl, q, _, _, _, rfl, w.c q, T.o_Queue.cl, T.o_Queue.na _ (List.mem_of_getElem? (i := 3) rfl), T.o_Queue.ln, ?_⟩
        rw [fl_put (k := 3) T.o_Queue.nd rfl (by simp)]
        have w2 := ((w.s q 3 (.ref D)).x lv).k [q]
        exact hD' _ _ ⟨D, rfl, w2⟩
    obtain ⟨lv', rfl, w1⟩ := y
    clear w0
    have hnot : ¬ c.room ≤ ((rF b S c.lv).length : Nat) := by rw [rF_len]; omega
    refine seq_mid (fun σ H => σ = [some (.ref q), some (.int (c.s S)), none, none] ∧ W H ((q, quO K c dx lv') :: (lv', .lst (rF b S c.lv)) :: M) T') (fun σ H y => ?tail2) (fun D' hD' _ => ?stmt2)
    case stmt2 =>
      refine r_fld (k := 3) T.o_Queue rfl (w1.c q) rfl rfl ⟨lv', _, rfl, .inl (SqL.of (w1.c lv')), r_fld (k := 2) T.o_Queue rfl (w1.c q) rfl rfl ⟨_, _, rfl, rfl, _, rfl, ?_⟩⟩
      rw [decide_eq_false hnot]
      exact iteF (hD' _ _ ⟨rfl, w1⟩)
    obtain ⟨rfl, w1'⟩ := y
    clear w1
    have w1 := w1'
    refine seq_mid (fun σ H => σ = [some (.ref q), some (.int (c.s S)), some (.int (if b < S then c.lv (S - 1) else c.s S)), none] ∧ W H ((q, quO K c dx lv') :: (lv', .lst (rF b S c.lv)) :: M) T') (fun σ H y => ?tail3) (fun D' hD' _ => ?stmt3)
    case stmt3 =>
      refine r_fld (k := 3) T.o_Queue rfl (w1.c q) rfl rfl ⟨_, .inl ⟨_, SqL.of (w1.c lv'), rfl⟩, ?_⟩
      rw [rF_em]
      by_cases hb : S ≤ b
      · rw [decide_eq_true hb]
        exact iteF ⟨_, rfl, hD' _ _ ⟨by rw [if_neg (by omega)]; rfl, w1⟩⟩
      · rw [decide_eq_false hb]
        obtain ⟨n, rfl⟩ : ∃ n, S = n + 1 := ⟨S - 1, by omega⟩
        exact iteT (r_fld (k := 3) T.o_Queue rfl (w1.c q) rfl rfl ⟨1, rfl, _, _, _, _, rfl, rfl, SqL.of (w1.c lv'), rF_last (by omega), hD' _ _ ⟨by rw [if_pos (by omega)]; rfl, w1⟩⟩)
    obtain ⟨rfl, w2⟩ := y
    clear w1
    refine r_fld (k := 3) T.o_Queue rfl (w2.c q) rfl rfl ⟨ty_list (w2.c lv'), _, rfl, r_fld (k := 1) T.o_Queue rfl (w2.c q) rfl rfl ⟨_, _, rfl, rfl, lv', _, _, rfl, rfl, w2.c lv', small1000 (by rw [rF_len]; omega), ?_⟩⟩
    dsimp only
    rw [← hnx, rF_snoc hbS]
    have w3 := w2.p lv' (.lst (rF b (S + 1) c.lv))
    refine r_fld (k := 3) T.o_Queue rfl (w3.c q) rfl rfl ⟨1, rfl, _, _, _, _, rfl, rfl, SqL.of (w3.c lv'), rF_last hbS, _, rfl, _, _, rfl, rfl, r_fld (k := 0) T.o_Queue rfl (w3.c q) rfl rfl ⟨_, _, rfl, rfl, ?_⟩⟩
    exact k _ lv' w3
end
end Su


set_option Elab.async false
set_option linter.all false
set_option maxRecDepth 100000
set_option maxHeartbeats 2000000
/-! the formula -/
namespace Su
open PySem PySem.Spec PyProof.Rows L2
def tickF (lo rate gap most : Int) (n : Nat) : Int :=
  if 2 * lo + rate ≤ most * (if rate > gap then rate else gap) then lo + rate + n * (if rate > gap then rate else gap)
  else lo + rate + n / most * (2 * lo + rate) + n % most * (if rate > gap then rate else gap)
def spTrip2 : Sp := fun vs H Q _ => ∃ (qt : Addr) (lo rate room : Int), vs = [.ref qt] ∧ (tupA qt [.int lo, .int rate, .int room]).φ H ∧ Q (.int (2 * lo + rate)) H
def spTicks : Sp := fun vs H Q _ => ∃ (c : Cf) (b qt : Addr) (many : Nat) (M : List Cell) (T : List As), vs = [.ref b, .ref qt, .int many] ∧ W H M T ∧ (bkA c b).φ H ∧ (quA c qt).φ H ∧ many ≤ 60 ∧ Sml c.lo ∧ Sml c.rate ∧ Sml c.gap ∧ 0 < c.most ∧ Sml c.most ∧ ∀ p H', W H' M (tupA p (lF many fun n => .int (tickF c.lo c.rate c.gap c.most n)) :: T) → Q (.ref p) H'
section
variable {P : Program} {w : World} {K : PySem.W.Frag} {mg : Str → Option Value} {base : Heap}
theorem sc_empty_trip : FnScope ["queue"] ["queue"] (defScope s_empty_trip) := ⟨rfl, rfl, rfl, by decide +kernel, rfl, by decide +kernel, by decide +kernel⟩
theorem ok_empty_trip (T : Tp K mg base) : Def P w K mg base (.glo "empty_trip") ["queue"] 1 spTrip2 := by
  refine def_mk T.f_empty_trip sc_empty_trip (fun vs H Q E h => ?_) (fun _ _ _ _ _ _ us hl => match us, hl with | [_], _ => rfl) (fun cdv A outer s H vs Q E hr h => ?_)
  · obtain ⟨qt, lo, rate, room, rfl, _⟩ := h; rfl
  · obtain ⟨qt, lo, rate, room, rfl, hq, k⟩ := h
    refine ⟨_, pss_one (ps_ret (pe_op op_add (pe_op op_mul pe_int (pe_ix ix_tup (pv 0) pe_int (fun _ _ => rfl))) (pe_ix ix_tup (pv 0) pe_int (fun _ _ => rfl)))), ?_⟩
    exact r_ixT rfl hq rfl ⟨_, _, rfl, rfl, .inl ⟨by decide, by decide⟩, r_ixT rfl hq rfl (r_int2 k)⟩
theorem sc_reading_ticks : FnScope ["book", "queue", "many", "lo", "rate", "room", "each", "most", "trip", "found", "number"] ["book", "queue", "many"] (defScope s_reading_ticks) := ⟨rfl, rfl, rfl, by decide +kernel, rfl, by decide +kernel, by decide +kernel⟩
theorem okF_reading_ticks (T : Tp K mg base) : ∃ fd, Fun K "reading_ticks" "reading_ticks" s_reading_ticks (Hz.Wh.at_ K (.glo "reading_ticks")) fd ∧ FnOk P w K mg base CX0 2 (Hz.Wh.at_ K (.glo "reading_ticks")) fd ["book", "queue", "many"] spTicks := by
  refine defF_mk T.f_reading_ticks sc_reading_ticks (fun vs H Q E h => ?_) (fun cdv A outer s H vs Q E hr h => ?_)
  · obtain ⟨c, b, qt, many, M, T', rfl, _⟩ := h; rfl
  · obtain ⟨c, b, qt, many, M, T', rfl, w0, hb0, hq, hm, h1, h2, h3, h4, h5, k⟩ := h
    obtain ⟨b0, b4, ls, b10, th, cu, hb⟩ := id hb0
    unfold Sml at h1 h2 h3 h5
    have nd := sc_reading_ticks.nd
    refine ⟨_, pss_cons (ps_asg (pv 1) (pg_tup (n := 3) rfl (pgs_cons (pg_name (i := 3) nd rfl (.inl rfl)) (pgs_cons (pg_name (i := 4) nd rfl (.inl rfl)) (pgs_cons (pg_name (i := 5) nd rfl (.inl rfl)) pgs_nil)))))
      (pss_cons (ps_par3 (i := 6) (j := 7) (l := 8) rfl nd rfl rfl rfl (by decide) (by decide) (by decide) rfl rfl rfl (pa_cons (pe_callB (call_max2 rfl) rfl T.b_max (by decide +kernel) (pa_cons (pe_ix ix_tup (pv 0) pe_int (fun _ _ => rfl)) (pa_cons (pv 4) pa_nil))) (pa_cons (pe_ix ix_tup (pv 0) pe_int (fun _ _ => rfl)) (pa_cons (pe_d (ok_empty_trip T) hr T.g_empty_trip (pa_cons (pv 1) pa_nil)) pa_nil))) (by rfl))
      (pss_cons (ps_set (i := 9) nd rfl (.inl rfl) (pe_lst pa_nil))
      (pss_cons (ps_for PassesOwn.never rfl (pi_range1 rfl T.b_range (pa_cons (pv 2) pa_nil)) (pg_name (i := 10) nd rfl (.inl rfl))
        (pss_one (ps_if (pt_cmpR op_le (pv 8) (pe_op op_mul (pv 7) (pv 6)) (nomark _))
          (pss_one (ps_expr (pe_bm PySem.F.plainAttrs_list PySem.F.slot_list_append PySem.F.type_list_append mt_append (pv 9) (pa_cons (pe_op op_add (pe_op op_add (pv 3) (pv 4)) (pe_op op_mul (pv 10) (pv 6))) pa_nil))))
          (pss_one (ps_expr (pe_bm PySem.F.plainAttrs_list PySem.F.slot_list_append PySem.F.type_list_append mt_append (pv 9) (pa_cons (pe_op op_add (pe_op op_add (pe_op op_add (pv 3) (pv 4)) (pe_op op_mul (pe_op op_fdiv (pv 10) (pv 7)) (pv 8))) (pe_op op_mul (pe_op op_mod (pv 10) (pv 7)) (pv 6))) pa_nil)))))))
      (pss_one (ps_ret (pe_callTy call_tuple_of rfl T.b_tuple (by decide +kernel) (pa_cons (pv 9) pa_nil))))))), ?_⟩
    let TT : List As := bkA c b :: quA c qt :: T'
    have w1 : W H M TT := (w0.say (quA c qt) hq).say (bkA c b) hb0
    let each : Int := if c.rate > c.gap then c.rate else c.gap
    let σA : V → V → V → Option V → Option V → L2.St := fun a e g f n => [some (.ref b), some (.ref qt), some (.int many), some (.int c.lo), some (.int c.rate), some (.int c.room), some a, some e, some g, f, n]
    refine seq_mid (fun σ H => σ = [some (.ref b), some (.ref qt), some (.int many), some (.int c.lo), some (.int c.rate), some (.int c.room), none, none, none, none, none] ∧ W H M TT) (fun σ H y => ?tail1) (fun D' hD' _ => ?stmt1)
    case stmt1 => exact ⟨_, rfl, qt, [.int c.lo, .int c.rate, .int c.room], rfl, SqT.of hq, rfl, _, _, rfl, _, _, rfl, _, _, rfl, rfl, hD' _ _ ⟨rfl, w1⟩⟩
    obtain ⟨rfl, w2⟩ := y
    clear w1
    refine seq_mid (fun σ H => σ = σA (.int each) (.int c.most) (.int (2 * c.lo + c.rate)) none none ∧ W H M TT) (fun σ H y => ?tail2) (fun D' hD' _ => ?stmt2)
    case stmt2 =>
      obtain ⟨b0, b4, ls, b10, th, cu, hb⟩ := w2.f (bkA c b)
      exact r_ixT rfl hb rfl ⟨_, rfl, _, _, rfl, r_ixT rfl hb rfl ⟨_, rfl, qt, c.lo, c.rate, c.room, rfl, w2.f (quA c qt), _, _, _, rfl, hD' _ _ ⟨rfl, w2⟩⟩⟩
    obtain ⟨rfl, w3⟩ := y
    clear w2
    have he : -2097152 < each ∧ each < 2097152 := by show -2097152 < (if c.rate > c.gap then c.rate else c.gap) ∧ (if c.rate > c.gap then c.rate else c.gap) < 2097152; split <;> omega
    refine seq_mid (fun σ H => ∃ fo, σ = σA (.int each) (.int c.most) (.int (2 * c.lo + c.rate)) (some (.ref fo)) none ∧ W H ((fo, .lst []) :: M) TT) (fun σ H y => ?tail3) (fun D' hD' _ => ?stmt3)
    case stmt3 => exact ⟨Nat.zero_le _, fun fo hfo => hD' _ _ ⟨fo, rfl, w3.new hfo (.lst [])⟩⟩
    obtain ⟨fo, rfl, w4⟩ := y
    clear w3
    refine seq_mid (fun σ H => ∃ n, σ = σA (.int each) (.int c.most) (.int (2 * c.lo + c.rate)) (some (.ref fo)) n ∧ W H ((fo, .lst (lF many fun n => .int (tickF c.lo c.rate c.gap c.most n))) :: M) TT) (fun σ H y => ?tail4) (fun D' hD' _ => ?stmt4)
    case stmt4 =>
      refine ⟨_, rfl, _, rfl, by omega, by omega, ?_⟩
      rw [show ((many : Int)).toNat = many from by omega]
      refine for_range (lo := 0) (n := many) (fun i σ H => ∃ n, σ = σA (.int each) (.int c.most) (.int (2 * c.lo + c.rate)) (some (.ref fo)) n ∧ W H ((fo, .lst (lF i fun n => .int (tickF c.lo c.rate c.gap c.most n))) :: M) TT) ⟨none, rfl, w4⟩ (fun i σ H hi h => ?_) (fun σ H h => hD' _ _ h)
      obtain ⟨n, rfl, w⟩ := h
      rw [show (0 : Int) + (i : Int) = i from Int.zero_add _]
      refine ⟨_, rfl, _, rfl, _, rfl, _, _, rfl, rfl, .inl ⟨by omega, by omega⟩, _, _, rfl, rfl, _, rfl, ?_⟩
      by_cases hc : 2 * c.lo + c.rate ≤ c.most * each
      · rw [decide_eq_true hc]
        refine iteT ⟨_, rfl, ty_list (w.c fo), _, rfl, _, rfl, _, _, rfl, rfl, _, rfl, _, rfl, _, _, rfl, rfl, .inl ⟨by omega, by omega⟩, _, _, rfl, rfl, fo, _, _, rfl, rfl, w.c fo, small1000 (by rw [lF_len]; omega), ?_⟩
        have e : lF i (fun n => .int (tickF c.lo c.rate c.gap c.most n)) ++ [V.int (c.lo + c.rate + (i : Int) * each)] = lF (i + 1) fun n => .int (tickF c.lo c.rate c.gap c.most n) := lF_snoc (fun _ _ => rfl) (by show V.int (tickF _ _ _ _ _) = _; unfold tickF; rw [if_pos hc])
        rw [e]
        exact ⟨_, rfl, w.p fo (.lst (lF (i + 1) fun n => .int (tickF c.lo c.rate c.gap c.most n)))⟩
      · rw [decide_eq_false hc]
        refine iteF ⟨_, rfl, ty_list (w.c fo), _, rfl, _, rfl, _, _, rfl, rfl, _, rfl, _, rfl, _, _, rfl, rfl, ⟨h4, by omega⟩, _, rfl, _, _, rfl, rfl, .inr ⟨by omega, by omega⟩, _, _, rfl, rfl, _, rfl, _, rfl, _, _, rfl, rfl, h4, _, rfl, _, _, rfl, rfl, .inr ⟨by omega, by omega⟩, _, _, rfl, rfl, fo, _, _, rfl, rfl, w.c fo, small1000 (by rw [lF_len]; omega), ?_⟩
        have e : lF i (fun n => .int (tickF c.lo c.rate c.gap c.most n)) ++ [V.int (c.lo + c.rate + (i : Int) / c.most * (2 * c.lo + c.rate) + (i : Int) % c.most * each)] = lF (i + 1) fun n => .int (tickF c.lo c.rate c.gap c.most n) := lF_snoc (fun _ _ => rfl) (by show V.int (tickF _ _ _ _ _) = _; unfold tickF; rw [if_neg hc])
        rw [e]
        exact ⟨_, rfl, w.p fo (.lst (lF (i + 1) fun n => .int (tickF c.lo c.rate c.gap c.most n)))⟩
    obtain ⟨n, rfl, w5⟩ := y
    refine ⟨_, rfl, fo, _, rfl, .inl ⟨SqL.of (w5.c fo), fun p hp => ?_⟩⟩
    have w6 := (w5.newT hp (lF many fun n => .int (tickF c.lo c.rate c.gap c.most n))).x fo
    exact k p _ (W.e (T := T') w6 (tupA p (lF many fun n => .int (tickF c.lo c.rate c.gap c.most n))) (w6.f _))
theorem ok_reading_ticks (T : Tp K mg base) : Def P w K mg base (.glo "reading_ticks") ["book", "queue", "many"] 2 spTicks :=
  defF_def (okF_reading_ticks T) (fun _ _ _ _ _ _ us hl => match us, hl with | [_, _, _], _ => rfl)
theorem kb_reading_ticks {fd : FuncData} {f : Addr} (F : Fun K "reading_ticks" "reading_ticks" s_reading_ticks f fd) : KBinds K fd ["book", "queue", "many"] ["many", "queue", "book"] kw3 kw3 :=
  kbinds3 F fun _ _ _ _ _ _ _ _ _ => rfl
end
end Su


set_option Elab.async false
set_option linter.all false
set_option maxRecDepth 100000
set_option maxHeartbeats 2000000
/-! what is on the way, by ticks: a dict of lists of one number each -/
namespace Su
open PySem PySem.Spec PyProof.Rows L2
/-- the cells of the lists -/
def famC (a b : Nat) (p : Nat → Addr) : List Cell := (List.range' a (b - a)).map fun n => (p n, HO.lst [.int (n : Nat)])
/-- the dict: at f n the list of n -/
def kA (a b : Nat) (f : Nat → Int) (p : Nat → Addr) : List (Key × V) := (List.range' a (b - a)).map fun n => (Sum.inl (f n), V.ref (p n))
theorem famC_nil (a : Nat) (p : Nat → Addr) : famC a a p = [] := by unfold famC; simp
theorem kA_nil (a : Nat) (f : Nat → Int) (p : Nat → Addr) : kA a a f p = [] := by unfold kA; simp
theorem famC_cons {a b : Nat} {p : Nat → Addr} (h : a < b) : famC a b p = (p a, HO.lst [.int (a : Nat)]) :: famC (a + 1) b p := by
  unfold famC; rw [show b - a = (b - (a + 1)) + 1 from by omega, List.range'_succ, List.map_cons]
theorem kA_cons {a b : Nat} {f : Nat → Int} {p : Nat → Addr} (h : a < b) : kA a b f p = (Sum.inl (f a), V.ref (p a)) :: kA (a + 1) b f p := by
  unfold kA; rw [show b - a = (b - (a + 1)) + 1 from by omega, List.range'_succ, List.map_cons]
theorem famC_snoc {a b : Nat} {p q : Nat → Addr} (h : a ≤ b) (e : ∀ i, a ≤ i → i < b → q i = p i) : famC a (b + 1) q = famC a b p ++ [(q b, HO.lst [.int (b : Nat)])] := by
  unfold famC
  rw [show b + 1 - a = (b - a) + 1 from by omega, List.range'_1_concat, List.map_append, show a + (b - a) = b from by omega]
  refine congrArg (· ++ _) (List.map_congr_left fun i hi => ?_)
  have z := List.mem_range'_1.mp hi
  rw [e i z.1 (by omega)]
theorem kA_len (a b : Nat) (f : Nat → Int) (p : Nat → Addr) : (kA a b f p).length = b - a := by unfold kA; simp
theorem kA_none {a b : Nat} {f : Nat → Int} {p : Nat → Addr} {t : Int} (h : ∀ i, a ≤ i → i < b → f i ≠ t) : valV (kA a b f p) (Sum.inl t : Key) = none := by
  unfold valV kA
  have e : ((List.range' a (b - a)).map fun n => ((Sum.inl (f n) : Key), V.ref (p n))).find? (fun kv => decide (kv.1 = (Sum.inl t : Key))) = none := by
    refine List.find?_eq_none.mpr fun x hx => ?_
    obtain ⟨k, hk, rfl⟩ := List.mem_map.mp hx
    have z := List.mem_range'_1.mp hk
    simp only [decide_eq_true_eq]
    intro q
    exact h k z.1 (by omega) (Sum.inl.inj q)
  rw [e]; rfl
theorem kA_head {a b : Nat} {f : Nat → Int} {p : Nat → Addr} (h : a < b) : valV (kA a b f p) (Sum.inl (f a) : Key) = some (.ref (p a)) := by
  rw [kA_cons h]
  unfold valV
  simp
theorem kA_drop {a b : Nat} {f : Nat → Int} {p : Nat → Addr} (h : a < b) (hm : ∀ i, a < i → i < b → f i ≠ f a) : dropK (kA a b f p) (Sum.inl (f a) : Key) = kA (a + 1) b f p := by
  rw [kA_cons h]
  unfold dropK
  rw [List.filter_cons_of_neg (by simp)]
  refine List.filter_eq_self.mpr fun x hx => ?_
  unfold kA at hx
  obtain ⟨k, hk, rfl⟩ := List.mem_map.mp hx
  have z := List.mem_range'_1.mp hk
  simp only [ne_eq, decide_eq_true_eq]
  intro q
  exact hm k (by omega) (by omega) (Sum.inl.inj q)
theorem kA_put {a b : Nat} {f : Nat → Int} {p q : Nat → Addr} (h : a ≤ b) (e : ∀ i, a ≤ i → i < b → q i = p i) (hn : ∀ i, a ≤ i → i < b → f i ≠ f b) : putK (kA a b f p) (Sum.inl (f b) : Key) (.ref (q b)) = kA a (b + 1) f q := by
  rw [putK_new _ (kA_none hn)]
  unfold kA
  rw [show b + 1 - a = (b - a) + 1 from by omega, List.range'_1_concat, List.map_append, show a + (b - a) = b from by omega]
  refine congrArg (· ++ _) (List.map_congr_left fun i hi => ?_)
  have z := List.mem_range'_1.mp hi
  rw [e i z.1 (by omega)]
/-- a new list goes to the end of the family -/
theorem W.fam {H : Hp} {X R : List Cell} {T : List As} {a b : Nat} {p q : Nat → Addr} {x : Addr} (w : W H ((x, .lst [.int (b : Nat)]) :: (X ++ (famC a b p ++ R))) T) (h : a ≤ b) (e : ∀ i, a ≤ i → i < b → q i = p i) (ex : q b = x) : W H (X ++ (famC a (b + 1) q ++ R)) T := by
  rw [famC_snoc h e, ex]
  refine w.perm ?_
  have e1 : X ++ (famC a b p ++ [(x, HO.lst [.int (b : Nat)])] ++ R) = (X ++ famC a b p) ++ (x, HO.lst [.int (b : Nat)]) :: R := by simp [List.append_assoc]
  rw [e1, ← List.append_assoc X]
  exact List.perm_middle
/-- the log: when, what -/
def lgA (t : Int) (w : Str) (n : Int) (e : Addr) : As := ⟨fun H => ∃ v, H e = some (.tup [.int t, .ref v]) ∧ (evA w n v).φ H, fun _ _ k ⟨v, h, q⟩ => ⟨v, k.tu _ _ h, (evA w n v).st _ _ k q⟩⟩
def lgsA : List (Int × Str × Int) → List Addr → As
  | [], [] => ⟨fun _ => True, fun _ _ _ _ => trivial⟩
  | (t, w, n) :: ws, e :: es => ⟨fun H => (lgA t w n e).φ H ∧ (lgsA ws es).φ H, fun _ _ k h => ⟨(lgA t w n e).st _ _ k h.1, (lgsA ws es).st _ _ k h.2⟩⟩
  | _, _ => ⟨fun _ => False, fun _ _ _ h => h.elim⟩
theorem lgsA_len {H : Hp} : ∀ {ws : List (Int × Str × Int)} {es : List Addr}, (lgsA ws es).φ H → ws.length = es.length
  | [], [], _ => rfl
  | (_, _, _) :: ws, _ :: es, h => congrArg (· + 1) (lgsA_len h.2)
theorem lgsA_app {H : Hp} {vs : List (Int × Str × Int)} {fs : List Addr} (h2 : (lgsA vs fs).φ H) : ∀ {ws : List (Int × Str × Int)} {es : List Addr}, (lgsA ws es).φ H → (lgsA (ws ++ vs) (es ++ fs)).φ H
  | [], [], _ => h2
  | (_, _, _) :: _, _ :: _, h => ⟨h.1, lgsA_app h2 h.2⟩
/-- when letters were read -/
def readsOf (ws : List (Int × Str × Int)) : List Int := ws.filterMap fun x => if x.2.1 = ("read" : Str) then some x.1 else none
/-! ### a calm run in numbers -/
def prN (c : Cf) : Nat → Option (Fr × Fr)
  | 0 => none
  | n + 1 => some (nextP (prN c n) (c.h n - c.s n))
structure Run (c : Cf) : Prop where
  sh : c.short ≤ 14
  lo1 : 1 ≤ c.lo
  rate1 : 1 ≤ c.rate
  most1 : 1 ≤ c.most
  gap1 : 1 ≤ c.gap
  lo2 : c.lo < 10000
  rate2 : c.rate < 10000
  most2 : c.most < 10000
  gap2 : c.gap < 10000
  room2 : 0 ≤ c.room ∧ c.room < 10000
  grain2 : 0 ≤ c.grain ∧ c.grain < 10000
  first2 : 0 ≤ c.first ∧ c.first < 10000
  s0 : c.s 0 = 0
  sgap : ∀ n, n + 1 < c.short → c.s n + c.gap ≤ c.s (n + 1)
  swin : ∀ n m : Nat, n < c.short → (m : Int) = (n : Int) - c.most → c.h m ≤ c.s n
  snext : ∀ n, n + 1 < c.short → c.s (n + 1) = c.s n + c.gap ∨ ∃ m : Nat, (m : Int) = (n : Int) + 1 - c.most ∧ c.s (n + 1) = c.h m
  lv0 : ∀ n, n < c.short → c.s n + c.rate ≤ c.lv n
  lv1 : ∀ n, n + 1 < c.short → c.lv n + c.rate ≤ c.lv (n + 1)
  lv2 : ∀ n, n < c.short → c.lv n = c.s n + c.rate ∨ ∃ m, n = m + 1 ∧ c.s n < c.lv m ∧ c.lv n = c.lv m + c.rate
  lvr : ∀ n, n < c.short → c.lv n ≤ c.s n + c.rate * c.room
  room : ∀ n b : Nat, n < c.short → b ≤ n → (∀ j, b ≤ j → j < n → c.s n < c.lv j) → ((n - b : Nat) : Int) < c.room
  big : ∀ n, n < c.short → c.h n < 100000
  pair : ∀ n, n ≤ c.short → SmP (prN c n)
  tim : ∀ n, n < c.short → lessF (c.h n - c.s n - 1, 1) (prodF (lenV c (prN c n)) (1, 1)) = true
end Su


set_option Elab.async false
set_option linter.all false
set_option maxRecDepth 100000
set_option maxHeartbeats 2000000
/-! the counts of a calm run, tick by tick -/
namespace Su
open PySem PySem.Spec PyProof.Rows L2
section
variable {c : Cf}
theorem Run.lvlt (R : Run c) : ∀ {m n : Nat}, n < m → m < c.short → c.lv n + c.rate ≤ c.lv m
  | 0, n, h, _ => by omega
  | m + 1, n, h, hs => by
    have q := R.lv1 m hs
    by_cases e : n = m
    · subst e; exact q
    · have := R.lvlt (m := m) (n := n) (by omega) (by omega)
      have := R.rate1
      omega
theorem Run.slt (R : Run c) : ∀ {m n : Nat}, n < m → m < c.short → c.s n + c.gap ≤ c.s m
  | 0, n, h, _ => by omega
  | m + 1, n, h, hs => by
    have q := R.sgap m hs
    by_cases e : n = m
    · subst e; exact q
    · have := R.slt (m := m) (n := n) (by omega) (by omega)
      have := R.gap1
      omega
theorem Run.sle (R : Run c) {n m : Nat} (h : n ≤ m) (hm : m < c.short) : c.s n ≤ c.s m := by
  by_cases e : n = m
  · subst e; exact Int.le_refl _
  · have := R.slt (m := m) (n := n) (by omega) hm
    have := R.gap1
    omega
theorem Run.s_0 (R : Run c) {m : Nat} (hm : m < c.short) : 0 ≤ c.s m := by
  have := R.sle (Nat.zero_le m) hm
  have := R.s0
  omega
end
structure Cnt (c : Cf) (t : Int) (S C G : Nat) : Prop where
  GC : G ≤ C
  CS : C ≤ S
  Ss : S ≤ c.short
  sl : ∀ n, n < S → c.s n < t
  su : S < c.short → t ≤ c.s S
  al : ∀ n, n < C → c.a n < t
  au : C < S → t ≤ c.a C
  hl : ∀ n, n < G → c.h n < t
  hu : G < C → t ≤ c.h G
  t0 : 0 ≤ t
  t1 : t < 200000
structure ZOk (c : Cf) (z : SdS) : Prop where
  G : z.G = z.T
  gr : z.gr = (z.T : Int) - 1
  alv : z.alv = 60 + z.T
def csN (c : Cf) (t : Int) (S C : Nat) : List V := if C < S ∧ c.a C = t then [.int C] else []
def wcN (c : Cf) (t : Int) (S C : Nat) : List (Str × Int) := if C < S ∧ c.a C = t then [(("come" : Str), (C : Int)), (("read" : Str), 0), (("ack" : Str), (C : Int))] else []
def C1N (c : Cf) (t : Int) (S C : Nat) : Nat := if C < S ∧ c.a C = t then C + 1 else C
def gtN (c : Cf) (t : Int) (S C : Nat) (gt : Int) : Int := if C < S ∧ c.a C = t then t else gt
def hsN (c : Cf) (t : Int) (C G : Nat) : List V := if G < C ∧ c.h G = t then [.int G] else []
def G1N (c : Cf) (t : Int) (C G : Nat) : Nat := if G < C ∧ c.h G = t then G + 1 else G
section
variable {c : Cf} {t : Int} {z : SdS} {C : Nat}
theorem hear_z {o : Option (Fr × Fr)} {z1 : SdS} {o1 : Option (Fr × Fr)} {ws : List (Str × Int)} (hz : ZOk c z) (ho : o = prN c z.T) (h : HearCase c z o (hsN c t C z.T) z1 o1 ws) : ZOk c z1 ∧ z1.T = G1N c t C z.T ∧ z1.S = z.S ∧ o1 = prN c z1.T ∧ ws = (if z.T < C ∧ c.h z.T = t then [(("hear" : Str), (z.T : Int))] else []) := by
  unfold HearCase hsN at h
  unfold G1N
  by_cases e : z.T < C ∧ c.h z.T = t
  · rw [if_pos e] at h
    rw [if_pos e, if_pos e]
    rcases h with ⟨h, _⟩ | ⟨_, v, al, rfl, rfl, rfl⟩
    · cases h
    · refine ⟨⟨rfl, ?_, ?_⟩, rfl, rfl, by rw [ho]; rfl, rfl⟩
      · show (z.T : Int) = ((z.T + 1 : Nat) : Int) - 1; omega
      · show 60 + ((z.T : Int) + 1) = 60 + ((z.T + 1 : Nat) : Int); omega
  · rw [if_neg e] at h
    rw [if_neg e, if_neg e]
    rcases h with ⟨_, rfl, rfl, rfl⟩ | ⟨h, _⟩
    · exact ⟨hz, rfl, rfl, ho, rfl⟩
    · cases h
/-- a packet counts as heard when its tick has come -/
theorem Cnt.heard (K : Cnt c t z.S C z.T) (R : Run c) {n : Nat} (hn : n < z.S) : n < G1N c t C z.T ↔ c.h n ≤ t := by
  have hlo := R.lo1
  have hr := R.rate1
  have hss := K.Ss
  unfold G1N
  have inc : ∀ {i j : Nat}, i < j → j < z.S → c.h i + c.rate ≤ c.h j := fun {i j} h1 h2 => by
    have := R.lvlt h1 (show j < c.short by omega)
    show c.lo + c.lv i + c.lo + c.rate ≤ c.lo + c.lv j + c.lo
    omega
  have big : z.T ≤ n → ¬ (z.T < C ∧ c.h z.T = t ∧ n = z.T) → t < c.h n := fun h1 h2 => by
    by_cases hC : n < C
    · have h3 := K.hu (by omega)
      by_cases e : n = z.T
      · subst e
        have : c.h z.T ≠ t := fun q => h2 ⟨hC, q, rfl⟩
        omega
      · have := inc (show z.T < n by omega) hn
        omega
    · have h3 := K.au (by omega)
      have h4 : c.a C ≤ c.a n := by
        by_cases e : C = n
        · subst e; exact Int.le_refl _
        · have := R.lvlt (show C < n by omega) (show n < c.short by omega)
          show c.lo + c.lv C ≤ c.lo + c.lv n
          omega
      show t < c.lo + c.lv n + c.lo
      have h5 : c.lo + c.lv C ≤ c.lo + c.lv n := h4
      have h6 : t ≤ c.lo + c.lv C := h3
      omega
  by_cases e : z.T < C ∧ c.h z.T = t
  · rw [if_pos e]
    constructor
    · intro h
      by_cases q : n = z.T
      · subst q; omega
      · have := K.hl n (by omega); omega
    · intro h
      rcases Nat.lt_or_ge n (z.T + 1) with q | q
      · exact q
      · have := big (by omega) (by omega); omega
  · rw [if_neg e]
    constructor
    · intro h; have := K.hl n h; omega
    · intro h
      rcases Nat.lt_or_ge n z.T with q | q
      · exact q
      · have := big q (fun x => e ⟨x.1, x.2.1⟩); omega
/-- what is sent is what is due -/
theorem goes_iff (K : Cnt c t z.S C z.T) (R : Run c) {z1 : SdS} (hT : z1.T = G1N c t C z.T) (hS : z1.S = z.S) : Goes c z1 t ↔ z.S < c.short ∧ t = c.s z.S := by
  have hg := R.gap1
  have hm := R.most1
  unfold Goes
  rw [hS, hT]
  constructor
  · rintro ⟨h1, h2, h3⟩
    refine ⟨h3, ?_⟩
    have su := K.su h3
    cases hz : z.S with
    | zero => 
      rw [hz] at su
      have := R.s0; have := K.t0; omega
    | succ n =>
      have q1 := h1 n hz
      rw [hz] at h2 h3 su
      rcases R.snext n h3 with e | ⟨m, em, e⟩
      · omega
      · have q2 := (K.heard R (n := m) (by omega)).mp (by omega)
        omega
  · rintro ⟨h3, h4⟩
    refine ⟨fun n hn => ?_, ?_, h3⟩
    · have := R.sgap n (by omega)
      rw [h4, hn]; exact this
    · by_cases q : (z.S : Int) - c.most < 0
      · omega
      · obtain ⟨m, em⟩ := Int.eq_ofNat_of_zero_le (show 0 ≤ (z.S : Int) - c.most by omega)
        have q1 := R.swin z.S m h3 (by omega)
        have q2 := (K.heard R (n := m) (by omega)).mpr (by omega)
        omega
end
end Su

set_option Elab.async false
set_option linter.all false
set_option maxRecDepth 100000
set_option maxHeartbeats 2000000
/-! what a tick of a calm run asks, and the counts behind it -/
namespace Su
open PySem PySem.Spec PyProof.Rows L2
theorem less_mono {x y : Int} {f : Fr} (h : lessF (y, 1) f = true) (hf : 0 < f.2) (hxy : x ≤ y) : lessF (x, 1) f = true := by
  unfold lessF at h ⊢
  have h := of_decide_eq_true h
  refine decide_eq_true ?_
  have q : x * f.2 ≤ y * f.2 := Int.mul_le_mul_of_nonneg_right hxy (Int.le_of_lt hf)
  exact Int.lt_of_le_of_lt q h
section
variable {c : Cf} {t : Int} {z : SdS} {C : Nat}
theorem Run.len_pos (R : Run c) {n : Nat} (hn : n < c.short) : 0 < (prodF (lenV c (prN c n)) (1, 1)).2 := by
  have h1 := R.pair n (by omega)
  have g := R.grain2
  have f := R.first2
  have sl := lenV_sm h1 (show c.grain.natAbs < 2 ^ 20 by omega) (show c.first.natAbs < 2 ^ 20 by omega)
  have q := prod_sm (m := 700) (n := 2) sl (y := (1, 1)) ⟨by decide, by decide, by decide⟩
  exact q.2.1
theorem Run.h_big (R : Run c) {n : Nat} (hn : n < c.short) : -100 < c.h n ∧ c.h n < 100000 ∧ 0 ≤ c.s n ∧ c.s n + c.rate ≤ c.lv n := by
  have h1 := R.big n hn
  have h2 := R.s_0 hn
  have h3 := R.lv0 n hn
  have := R.lo1
  have := R.rate1
  refine ⟨?_, h1, h2, h3⟩
  show -100 < c.lo + c.lv n + c.lo
  omega
theorem C1_le (K : Cnt c t z.S C z.T) : C1N c t z.S C ≤ z.S := by
  have := K.CS
  unfold C1N
  split <;> omega
theorem pre_s (K : Cnt c t z.S C z.T) (R : Run c) (hz : ZOk c z) {o : Option (Fr × Fr)} (ho : o = prN c z.T) {z1 : SdS} {o1 : Option (Fr × Fr)} {ws : List (Str × Int)} (h : HearCase c z o (hsN c t C z.T) z1 o1 ws) : PreS c z1 o1 t := by
  obtain ⟨hz1, eT, eS, eo, _⟩ := hear_z hz ho h
  have hG := R.grain2
  have hF := R.first2
  have hl := R.lo1
  have hl2 := R.lo2
  have ht0 := K.t0
  have ht1 := K.t1
  have hSs := K.Ss
  have hsh := R.sh
  have hT1 : z1.T ≤ C := by
    rw [eT]; unfold G1N
    have := K.GC
    split <;> omega
  have hCS := K.CS
  have before : ∀ g, z1.T = g + 1 → c.h g ≤ t := fun g hg => (K.heard R (by omega)).mp (by omega)
  have after : ∀ n, z1.T ≤ n → n < z.S → t < c.h n := fun n h1 h2 => by
    have q := K.heard R h2
    rcases Nat.lt_or_ge n (G1N c t C z.T) with x | x
    · omega
    · have : ¬ c.h n ≤ t := fun y => by have := q.mpr y; omega
      omega
  refine ⟨⟨⟨⟨by omega, by omega⟩, ⟨by omega, by omega⟩, by rw [hz1.G]; omega, fun g hg => ?_⟩, hz1.G.symm, ?_, by omega, fun n h1 h2 => ?_⟩, ?_, by omega, by omega, fun n hn h2 => ?_, ht0, ?_, by omega, fun hg => ?_⟩
  · rw [hz1.G] at hg
    have q := R.h_big (n := g) (by omega)
    exact ⟨before g hg, by omega, by omega⟩
  · rw [hz1.gr, hz1.G]
  · rw [hz1.G] at h1
    rw [eS] at h2
    have hn := show n < c.short by omega
    have q1 := R.lvr n hn
    refine ⟨?_, ?_⟩
    · rw [hz1.G]
      cases e : z1.T with
      | zero => exact .inl rfl
      | succ g =>
        refine .inr ⟨_, rfl, ?_⟩
        have q2 := R.lvlt (n := g) (m := n) (by omega) hn
        have := R.rate1
        show c.lo + c.lv g < c.s n + (c.lo + c.rate * c.room)
        omega
    · have q2 := after n h1 h2
      show t < c.s n + (c.lo + c.rate * c.room + c.lo)
      have q3 : t < c.lo + c.lv n + c.lo := q2
      omega
  · rw [eo]; exact R.pair _ (by omega)
  · rw [eS] at hn h2
    have q1 := after z1.T (Nat.le_refl _) h2
    have q2 := R.sle (n := z1.T) (m := n) (by omega) (by omega)
    have q3 := K.sl n (by omega)
    have q4 := R.h_big (n := z1.T) (by omega)
    have q5 := R.s_0 (m := n) (by omega)
    refine ⟨by omega, ?_⟩
    rw [eo]
    exact less_mono (R.tim z1.T (by omega)) (R.len_pos (by omega)) (by omega)
  · rw [hz1.alv, eS]; omega
  · have q := (goes_iff K R eT eS).mp hg
    rw [eS]; exact q.2
theorem tick_pre (K : Cnt c t z.S C z.T) (R : Run c) (hz : ZOk c z) {o : Option (Fr × Fr)} (ho : o = prN c z.T) (gt : Int) : TickPre c z o C (C1N c t z.S C) gt (gtN c t z.S C gt) t (csN c t z.S C) (hsN c t C z.T) (wcN c t z.S C) := by
  have hSs := K.Ss
  have hsh := R.sh
  have hCS := K.CS
  have hl := R.lo1
  have hr := R.rate1
  refine ⟨by omega, K.GC, C1_le K, ?_, ?_, fun z1 o1 ws h => pre_s K R hz ho h, ?_⟩
  · unfold ComeCase csN C1N gtN wcN
    by_cases e : C < z.S ∧ c.a C = t
    · rw [if_pos e, if_pos e, if_pos e, if_pos e]
      exact .inr ⟨rfl, e.1, e.2.symm, rfl, rfl, rfl⟩
    · rw [if_neg e, if_neg e, if_neg e, if_neg e]
      exact .inl ⟨rfl, rfl, rfl, rfl⟩
  · unfold hsN
    by_cases e : z.T < C ∧ c.h z.T = t
    · rw [if_pos e]
      have q0 := R.h_big (n := z.T) (by omega)
      refine .inr ⟨rfl, ⟨e.2.symm, ?_, hz.G, hz.gr, hz.alv, ⟨?_, fun g hg => ?_⟩, by rw [ho]; exact R.pair _ (by omega), ?_⟩, e.1⟩
      · unfold C1N; split <;> omega
      · show c.s z.T + (c.lo + c.rate) ≤ c.lo + c.lv z.T; omega
      · have := R.lvlt (n := g) (m := z.T) (by omega) (by omega)
        show c.lo + c.lv g + 1 ≤ c.lo + c.lv z.T; omega
      · have e9 : c.h z.T = c.lo + c.lv z.T + c.lo := rfl
        omega
    · rw [if_neg e]; exact .inl rfl
  · unfold csN
    by_cases e : C < z.S ∧ c.a C = t
    · rw [if_pos e]
      have q1 := R.lvr C (by omega)
      have q0 := R.h_big (n := C) (by omega)
      have q2 : c.lo + c.lv C = t := e.2
      exact .inr ⟨by omega, by show t - c.s C ≤ c.lo + c.rate * c.room; omega⟩
    · rw [if_neg e]; exact .inl rfl
/-- the counts behind a tick -/
theorem cnt_next (K : Cnt c t z.S C z.T) (R : Run c) (hz : ZOk c z) {o : Option (Fr × Fr)} (ho : o = prN c z.T) {z1 z2 : SdS} {o1 : Option (Fr × Fr)} {ws wd : List (Str × Int)} (h : HearCase c z o (hsN c t C z.T) z1 o1 ws) (hs : SendCase c z1 t z2 wd) (ht : t + 1 < 200000) :
    Cnt c (t + 1) z2.S (C1N c t z.S C) z2.T ∧ ZOk c z2 ∧ o1 = prN c z2.T ∧ wd = (if z.S < c.short ∧ t = c.s z.S then [(("send" : Str), (z.S : Int))] else []) ∧ z2.T = G1N c t C z.T ∧ z2.S = (if z.S < c.short ∧ t = c.s z.S then z.S + 1 else z.S) := by
  obtain ⟨hz1, eT, eS, eo, _⟩ := hear_z hz ho h
  have hg := goes_iff K R eT eS
  have e2 : z2.T = z1.T ∧ ZOk c z2 ∧ z2.S = (if z.S < c.short ∧ t = c.s z.S then z.S + 1 else z.S) ∧ wd = (if z.S < c.short ∧ t = c.s z.S then [(("send" : Str), (z.S : Int))] else []) := by
    rcases hs with ⟨h1, rfl, rfl⟩ | ⟨h1, rfl, rfl⟩
    · have := hg.mp h1
      rw [if_pos this, if_pos this]
      exact ⟨rfl, ⟨hz1.G, hz1.gr, hz1.alv⟩, by show z1.S + 1 = _; rw [eS], by rw [eS]⟩
    · have : ¬ (z.S < c.short ∧ t = c.s z.S) := fun q => h1 (hg.mpr q)
      rw [if_neg this, if_neg this]
      exact ⟨rfl, hz1, eS, rfl⟩
  obtain ⟨t2, z2ok, s2, w2⟩ := e2
  refine ⟨?_, z2ok, by rw [t2]; exact eo, w2, by rw [t2, eT], s2⟩
  have hSs := K.Ss
  have hCS := K.CS
  have hGC := K.GC
  have hl := R.lo1
  have hr := R.rate1
  have hgp := R.gap1
  have hC1 : C ≤ C1N c t z.S C := by unfold C1N; split <;> omega
  have hC1S := C1_le K
  have hSz : z.S ≤ z2.S := by rw [s2]; split <;> omega
  have hG1 : z1.T ≤ C := by rw [eT]; unfold G1N; split <;> omega
  refine ⟨by omega, by omega, ?_, fun n hn => ?_, fun hn => ?_, fun n hn => ?_, fun hn => ?_, fun n hn => ?_, fun hn => ?_, by have := K.t0; omega, ht⟩
  · rw [s2]; split <;> omega
  · rw [s2] at hn
    by_cases q : z.S < c.short ∧ t = c.s z.S
    · rw [if_pos q] at hn
      by_cases e : n = z.S
      · subst e; omega
      · have := K.sl n (by omega); omega
    · rw [if_neg q] at hn
      have := K.sl n hn; omega
  · rw [s2] at hn ⊢
    by_cases q : z.S < c.short ∧ t = c.s z.S
    · rw [if_pos q] at hn ⊢
      have := R.sgap z.S hn; omega
    · rw [if_neg q] at hn ⊢
      have := K.su hn
      have : t ≠ c.s z.S := fun x => q ⟨hn, x⟩
      omega
  · unfold C1N at hn
    by_cases q : C < z.S ∧ c.a C = t
    · rw [if_pos q] at hn
      by_cases e : n = C
      · subst e; omega
      · have := K.al n (by omega); omega
    · rw [if_neg q] at hn
      have := K.al n hn; omega
  · unfold C1N at hn ⊢
    by_cases q : C < z.S ∧ c.a C = t
    · rw [if_pos q] at hn ⊢
      rcases Nat.lt_or_ge (C + 1) c.short with x | x
      · have := R.lv1 C x
        have q2 : c.lo + c.lv C = t := q.2
        show t + 1 ≤ c.lo + c.lv (C + 1); omega
      · rw [s2] at hn
        split at hn <;> omega
    · rw [if_neg q] at hn ⊢
      rcases Nat.lt_or_ge C z.S with x | x
      · have := K.au x
        have : c.a C ≠ t := fun y => q ⟨x, y⟩
        omega
      · rw [s2] at hn
        by_cases q2 : z.S < c.short ∧ t = c.s z.S
        · have e : C = z.S := by omega
          subst e
          have := R.lv0 z.S q2.1
          show t + 1 ≤ c.lo + c.lv z.S
          omega
        · rw [if_neg q2] at hn; omega
  · rw [t2, eT] at hn
    have hnS : n < z.S := by omega
    have := (K.heard R hnS).mp hn
    omega
  · rw [t2, eT] at hn ⊢
    rcases Nat.lt_or_ge (G1N c t C z.T) z.S with x | x
    · have q := K.heard R x
      have : ¬ c.h (G1N c t C z.T) ≤ t := fun y => by have := q.mpr y; omega
      omega
    · omega
end
end Su

set_option Elab.async false
set_option linter.all false
set_option maxRecDepth 100000
set_option maxHeartbeats 2000000
/-! who is in the queue -/
namespace Su
open PySem PySem.Spec PyProof.Rows L2
/-- those before a have left by the tick of any sending from S on -/
def Left (c : Cf) (a S : Nat) : Prop := a ≤ S ∧ ∀ j, j < a → ∀ n, S ≤ n → n < c.short → c.lv j ≤ c.s n
theorem first_in {c : Cf} (R : Run c) {S : Nat} (hS : S < c.short) : ∀ (k a : Nat), S - a = k → a ≤ S → ∃ b, a ≤ b ∧ b ≤ S ∧ (∀ j, a ≤ j → j < b → c.lv j ≤ c.s S) ∧ ∀ j, b ≤ j → j < S → c.s S < c.lv j
  | 0, a, hk, ha => ⟨a, Nat.le_refl _, ha, fun j _ _ => by omega, fun j _ _ => by omega⟩
  | k + 1, a, hk, ha => by
    by_cases h : c.s S < c.lv a
    · refine ⟨a, Nat.le_refl _, ha, fun j _ _ => by omega, fun j h1 h2 => ?_⟩
      by_cases e : j = a
      · subst e; exact h
      · have := R.lvlt (n := a) (m := j) (by omega) (by omega)
        have := R.rate1
        omega
    · obtain ⟨b, h1, h2, h3, h4⟩ := first_in R hS k (a + 1) (by omega) (by omega)
      refine ⟨b, by omega, h2, fun j q1 q2 => ?_, h4⟩
      by_cases e : j = a
      · subst e; omega
      · exact h3 j (by omega) q2
theorem ent_of {c : Cf} (R : Run c) {a S : Nat} (hS : S < c.short) (hL : Left c a S) : ∃ b, Ent c a b S ∧ Left c b (S + 1) := by
  obtain ⟨b, h1, h2, h3, h4⟩ := first_in R hS (S - a) a rfl hL.1
  have hr := R.rate1
  have hsh := R.sh
  refine ⟨b, ⟨h1, h2, h3, h4, R.room S b hS h2 h4, ?_, by omega⟩, by omega, fun j hj n hn1 hn2 => ?_⟩
  · rcases R.lv2 S hS with e | ⟨m, rfl, e1, e2⟩
    · by_cases hb : b < S
      · exfalso
        obtain ⟨m, rfl⟩ : ∃ m, S = m + 1 := ⟨S - 1, by omega⟩
        have q1 := h4 m (by omega) (by omega)
        have q2 := R.lv1 m hS
        omega
      · rw [if_neg hb]; exact e
    · by_cases hb : b < m + 1
      · rw [if_pos hb]; exact e2
      · exfalso
        by_cases q : m < a
        · have := hL.2 m q (m + 1) (Nat.le_refl _) hS; omega
        · have := h3 m (by omega) (by omega); omega
  · have q := R.sle (n := S) (m := n) (by omega) hn2
    by_cases e : j < a
    · exact hL.2 j e n (by omega) hn2
    · have := h3 j (by omega) hj; omega
end Su

set_option Elab.async false
set_option linter.all false
set_option maxRecDepth 100000
set_option maxHeartbeats 2000000
/-! tuple(d.pop(now, [])), d.setdefault(k, []).append(n) -/
namespace Su
open PySem PySem.Spec PyProof.Rows L2
theorem W.swap {H : Hp} {X F G R : List Cell} {T : List As} (w : W H (X ++ (F ++ (G ++ R))) T) : W H (X ++ (G ++ (F ++ R))) T := by
  refine w.perm ?_
  refine List.Perm.append (List.Perm.refl X) ?_
  rw [← List.append_assoc, ← List.append_assoc]
  exact List.Perm.append List.perm_append_comm (List.Perm.refl R)
def rTupOf (K : PySem.W.Frag) : List V → Hp → VK → Prop := fun xs H Q => ∃ p ys, xs = [.ref p] ∧ ((SqL K H p ys ∧ ∀ l, H l = none → Q (.ref l) (L2.upd H l (.tup ys))) ∨ (SqT K H p ys ∧ Q (.ref p) H))
theorem pop_tup {K : PySem.W.Frag} {σ : L2.St} {i j : Nat} {dm : Addr} {a b : Nat} {f : Nat → Int} {p : Nat → Addr} {t : Int} {X R : List Cell} {T : List As} {H : Hp} (Qk : VK) (hi : σ[i]? = some (some (.ref dm))) (hj : σ[j]? = some (some (.int t)))
    (w : W H ((dm, .dK (kA a b f p)) :: (X ++ (famC a b p ++ R))) T) (hm : ∀ n, a < n → n < b → f a < f n) (hle : a < b → t ≤ f a)
    (k : ∀ ct H', W H' ((dm, .dK (kA (if a < b ∧ f a = t then a + 1 else a) b f p)) :: (X ++ (famC (if a < b ∧ f a = t then a + 1 else a) b p ++ R))) (tupA ct (if a < b ∧ f a = t then [.int a] else []) :: T) → Qk (.ref ct) H') :
    tCB (rTupOf K) (tCons (tDPop2 (tVar i) (tVar j) (tLst tNil)) tNil) σ H Qk := by
  refine ⟨_, hi, dm, rfl, .inl ⟨_, .inl (w.c dm)⟩, _, hj, Nat.zero_le _, fun e0 he0 => ?_⟩
  have w1 := w.new he0 (.lst [])
  refine ⟨_, Sum.inl t, w1.c dm, rfl, ?_⟩
  by_cases h : a < b ∧ f a = t
  · rw [if_pos h, if_pos h] at k
    obtain ⟨h1, rfl⟩ := h
    refine ⟨fun v hv => ?_, fun hv => by rw [kA_head h1] at hv; cases hv⟩
    rw [kA_head h1] at hv
    cases hv
    rw [kA_drop h1 (fun n h2 h3 => by have := hm n h2 h3; omega)]
    have w2 := (w1.p dm (.dK (kA (a + 1) b f p))).x e0
    rw [famC_cons h1] at w2
    have w3 : W _ ((p a, .lst [.int (a : Nat)]) :: ((dm, .dK (kA (a + 1) b f p)) :: (X ++ (famC (a + 1) b p ++ R)))) T := w2.perm (by
      show ((p a, HO.lst [.int (a : Nat)]) :: (((dm, HO.dK (kA (a + 1) b f p)) :: X) ++ (famC (a + 1) b p ++ R))).Perm (((dm, HO.dK (kA (a + 1) b f p)) :: X) ++ (p a, HO.lst [.int (a : Nat)]) :: (famC (a + 1) b p ++ R))
      exact List.perm_middle.symm)
    refine ⟨p a, _, rfl, .inl ⟨SqL.of (w3.c (p a)), fun l hl => ?_⟩⟩
    exact k l _ ((w3.newT hl [.int (a : Nat)]).x (p a))
  · rw [if_neg h, if_neg h] at k
    have hn : valV (kA a b f p) (Sum.inl t : Key) = none := kA_none fun n h1 h2 => by
      have q := hle (by omega)
      by_cases e : n = a
      · subst e; exact fun z => h ⟨h2, z⟩
      · have := hm n (by omega) h2
        have : f a ≠ t := fun z => h ⟨by omega, z⟩
        omega
    refine ⟨fun v hv => (by rw [hn] at hv; cases hv), fun _ => ?_⟩
    refine ⟨e0, _, rfl, .inl ⟨SqL.of (w1.c e0), fun l hl => ?_⟩⟩
    exact k l _ ((w1.newT hl []).x e0)
/-- d.setdefault(k, []).append(n): a new list with n at the end -/
theorem set_app {K : PySem.W.Frag} {σ : L2.St} {i : Nat} {dm : Addr} {a b : Nat} {f : Nat → Int} {p : Nat → Addr} {ty te : TE} {X R : List Cell} {T : List As} {H : Hp} (Qk : VK) (hi : σ[i]? = some (some (.ref dm))) (hb : b < 1000)
    (w : W H ((dm, .dK (kA a b f p)) :: (X ++ (famC a b p ++ R))) T) (hab : a ≤ b) (hm : ∀ n, a ≤ n → n < b → f n < f b)
    (hty : ∀ Qy : VK, Qy (.int (f b)) H → ty σ H Qy) (hte : ∀ (Qy : VK) (H' : Hp), (∀ (φ : As), φ ∈ T → φ.φ H') → Qy (.int (b : Nat)) H' → te σ H' Qy)
    (k : ∀ q H', W H' ((dm, .dK (kA a (b + 1) f q)) :: (X ++ (famC a (b + 1) q ++ R))) T → Qk .non H') :
    tBM K "list" rAppend (tDSetd (tVar i) ty (tLst tNil)) (tCons te tNil) σ H Qk := by
  refine ⟨_, hi, dm, rfl, .inl ⟨_, .inl (w.c dm)⟩, hty _ ⟨Nat.zero_le _, fun e0 he0 => ?_⟩⟩
  have w1 := w.new he0 (.lst [])
  have hn : valV (kA a b f p) (Sum.inl (f b) : Key) = none := kA_none fun n h1 h2 => by have := hm n h1 h2; omega
  refine ⟨_, Sum.inl (f b), w1.c dm, rfl, small1000 (by rw [kA_len]; omega), fun v hv => (by rw [hn] at hv; cases hv), fun _ => ?_⟩
  have e := kA_put (p := p) (q := fun n => if n = b then e0 else p n) hab (fun n h1 h2 => if_neg (by omega)) (fun n h1 h2 => Int.ne_of_lt (hm n h1 h2))
  rw [show (if b = b then e0 else p b) = e0 from if_pos rfl] at e
  rw [e]
  have w2 := w1.p dm (.dK (kA a (b + 1) f fun n => if n = b then e0 else p n))
  refine ⟨ty_list (w2.c e0), hte _ _ w2.st ⟨e0, _, _, rfl, rfl, w2.c e0, by show 0 < sizeLine; decide, ?_⟩⟩
  have w3 := w2.p e0 (.lst [.int (b : Nat)])
  have w4 : W _ (((dm, .dK (kA a (b + 1) f fun n => if n = b then e0 else p n)) :: X) ++ (famC a (b + 1) (fun n => if n = b then e0 else p n) ++ R)) T :=
    W.fam (X := (dm, .dK (kA a (b + 1) f fun n => if n = b then e0 else p n)) :: X) w3 hab (fun n h1 h2 => if_neg (by omega)) (if_pos rfl)
  exact k _ _ w4
end Su

set_option Elab.async false
set_option linter.all false
set_option maxRecDepth 100000
set_option maxHeartbeats 2000000
/-! the events of a tick, one by one -/
namespace Su
open PySem PySem.Spec PyProof.Rows L2
def cntW (w : Str) : List (Str × Int) → Nat
  | [] => 0
  | x :: l => (if x.1 = w then 1 else 0) + cntW w l
theorem evsA_at {H : Hp} : ∀ {ws : List (Str × Int)} {es : List Addr} {i : Nat} {v : V}, (evsA ws es).φ H → (es.map V.ref)[i]? = some v → ∃ w n e, ws[i]? = some (w, n) ∧ v = .ref e ∧ (evA w n e).φ H
  | [], [], i, v, _, h => by simp at h
  | (w, n) :: ws, e :: es, 0, v, h, hv => ⟨w, n, e, rfl, (Option.some.inj hv).symm, h.1⟩
  | (w, n) :: ws, e :: es, i + 1, v, h, hv => evsA_at (i := i) h.2 hv
structure EvI (C S : Nat) (p r : Prop) (l : List (Str × Int)) (i : Nat) (w : Str) (n : Int) : Prop where
  send : w = "send" → n = (S : Int) ∧ r ∧ cntW "send" (l.take i) = 0
  ack : w = "ack" → n = (C : Int) ∧ p ∧ cntW "ack" (l.take i) = 0
  nsend : cntW "send" (l.take (i + 1)) = cntW "send" (l.take i) + if w = "send" then 1 else 0
  nack : cntW "ack" (l.take (i + 1)) = cntW "ack" (l.take i) + if w = "ack" then 1 else 0
theorem ev_i {C S T : Nat} {p q r : Prop} [Decidable p] [Decidable q] [Decidable r] {i : Nat} {w : Str} {n : Int}
    (h : ((if p then [(("come" : Str), (C : Int)), (("read" : Str), 0), (("ack" : Str), (C : Int))] else []) ++ ((if q then [(("hear" : Str), (T : Int))] else []) ++ (if r then [(("send" : Str), (S : Int))] else [])))[i]? = some (w, n)) :
    EvI C S p r ((if p then [(("come" : Str), (C : Int)), (("read" : Str), 0), (("ack" : Str), (C : Int))] else []) ++ ((if q then [(("hear" : Str), (T : Int))] else []) ++ (if r then [(("send" : Str), (S : Int))] else []))) i w n := by
  by_cases hp : p <;> by_cases hq : q <;> by_cases hr : r <;> simp only [hp, hq, hr, if_true, if_false, List.cons_append, List.nil_append, List.append_nil] at h ⊢ <;>
    (match i, h with
      | 0, h => first | (cases h; exact ⟨by intro x; first | exact absurd x (by decide) | exact ⟨rfl, trivial, rfl⟩, by intro x; first | exact absurd x (by decide) | exact ⟨rfl, trivial, rfl⟩, rfl, rfl⟩) | cases h
      | 1, h => first | (cases h; exact ⟨by intro x; first | exact absurd x (by decide) | exact ⟨rfl, trivial, rfl⟩, by intro x; first | exact absurd x (by decide) | exact ⟨rfl, trivial, rfl⟩, rfl, rfl⟩) | cases h
      | 2, h => first | (cases h; exact ⟨by intro x; first | exact absurd x (by decide) | exact ⟨rfl, trivial, rfl⟩, by intro x; first | exact absurd x (by decide) | exact ⟨rfl, trivial, rfl⟩, rfl, rfl⟩) | cases h
      | 3, h => first | (cases h; exact ⟨by intro x; first | exact absurd x (by decide) | exact ⟨rfl, trivial, rfl⟩, by intro x; first | exact absurd x (by decide) | exact ⟨rfl, trivial, rfl⟩, rfl, rfl⟩) | cases h
      | 4, h => first | (cases h; exact ⟨by intro x; first | exact absurd x (by decide) | exact ⟨rfl, trivial, rfl⟩, by intro x; first | exact absurd x (by decide) | exact ⟨rfl, trivial, rfl⟩, rfl, rfl⟩) | cases h
      | k + 5, h => simp at h)
theorem ev_all {C S T : Nat} {p q r : Prop} [Decidable p] [Decidable q] [Decidable r] :
    let l := ((if p then [(("come" : Str), (C : Int)), (("read" : Str), 0), (("ack" : Str), (C : Int))] else []) ++ ((if q then [(("hear" : Str), (T : Int))] else []) ++ (if r then [(("send" : Str), (S : Int))] else [])))
    cntW "send" l = (if r then 1 else 0) ∧ cntW "ack" l = (if p then 1 else 0) ∧ l.length = (if p then 3 else 0) + ((if q then 1 else 0) + (if r then 1 else 0)) ∧ ∀ t : Int, readsOf (l.map fun x => (t, x.1, x.2)) = if p then [t] else [] := by
  by_cases hp : p <;> by_cases hq : q <;> by_cases hr : r <;> simp only [hp, hq, hr, if_true, if_false, List.cons_append, List.nil_append, List.append_nil] <;> exact ⟨rfl, rfl, rfl, fun t => rfl⟩
theorem readsOf_app (a b : List (Int × Str × Int)) : readsOf (a ++ b) = readsOf a ++ readsOf b := by unfold readsOf; exact List.filterMap_append
theorem atI_0 {a : V} {l : List V} : atI (a :: l) 0 = some a := by
  unfold atI ixN
  rw [if_pos (by decide), if_pos (by simp)]
  rfl
theorem atI_1 {a b : V} {l : List V} : atI (a :: b :: l) 1 = some b := by
  unfold atI ixN
  rw [if_pos (by decide), if_pos (by simp; omega)]
  rfl
end Su

set_option Elab.async false
set_option linter.all false
set_option maxRecDepth 100000
set_option maxHeartbeats 2000000
set_option synthInstance.maxSize 100000
set_option synthInstance.maxHeartbeats 2000000
/-! a run through a queue -/
namespace Su
open PySem PySem.Spec PyProof.Rows L2
def spQueued (K : PySem.W.Frag) : Sp := fun vs H Q _ => ∃ (c : Cf) (b qt d : Addr) (til : Int) (M : List Cell) (T : List As), vs = [.ref b, .ref qt, .ref d, .int til] ∧ Run c ∧ 0 ≤ til ∧ til < 190000 ∧ W H M T ∧ (bkA c b).φ H ∧ (quA c qt).φ H ∧ (dtA c d).φ H ∧ (tabA (Hz.tabW K (.met "Reader" "ack"))).φ H ∧ (tabA (Hz.tabW K (.met "Crossing" "tick"))).φ H ∧ (∀ n, n < c.short → c.a n ≤ til) ∧
  ∀ r lt cs ls ws H', readsOf ws = (List.range c.short).map c.a → W H' M (tupA r [.ref lt, .ref cs] :: tupA lt (ls.map V.ref) :: lgsA ws ls :: T) → Q (.ref r) H'
structure QA where
  cr : Addr
  crdx : Addr
  qu : Addr
  qdx : Addr
  cm : Addr
  hm : Addr
  lg : Addr
  fo : Addr
  road : Addr
abbrev qM (K : PySem.W.Frag) (c : Cf) (q : QA) (y : CoA) (rx : RdA) (sx : SdA) (L A : Nat → Addr) (z : SdS) (C : Nat) (gt t : Int) (lv : Addr) (qa : Nat) (cl hl : Nat → Addr) (logs fs : List V) (M : List Cell) : List Cell :=
  (q.cr, crO K q.crdx q.road y.co t) :: (q.qu, quO K c q.qdx lv) :: (lv, .lst (rF qa z.S c.lv)) :: (q.cm, .dK (kA C z.S c.a cl)) :: (q.hm, .dK (kA z.T C c.h hl)) :: (q.lg, .lst logs) :: (q.fo, .lst fs) :: allM K c y rx sx L A z C (rdAt C gt) (famC C z.S cl ++ (famC z.T C hl ++ M))
/-- between two ticks -/
structure LoopOk (c : Cf) (q : QA) (b d : Addr) (t : Int) (y : CoA) (rx : RdA) (sx : SdA) (z : SdS) (C qa : Nat) (ws : List (Int × Str × Int)) (fs : List V) : Prop where
  rd : y.rd = rx.r
  sd : y.sd = sx.s
  pd : rx.pd = d
  book : sx.book = b
  road : sx.road = q.road
  data : sx.data = d
  cnt : Cnt c t z.S C z.T
  ok : ZOk c z
  left : Left c qa z.S
  reads : readsOf ws = (List.range C).map c.a
  len : ws.length = 3 * C + z.T + z.S
  flen : fs.length = z.S
section
variable {P : Program} {w : World} {K : PySem.W.Frag} {mg : Str → Option Value} {base : Heap}
theorem sc_queued : FnScope ["book", "queue", "data", "until", "road", "crossing", "line", "coming", "hearing", "log", "forth", "now", "events", "event", "delay"] ["book", "queue", "data", "until"] (defScope s_queued) := ⟨rfl, rfl, rfl, by decide +kernel, rfl, by decide +kernel, by decide +kernel⟩
theorem pe_dp {X : Cx} {wh : Hz.Wh} {k : Nat} {sp : Sp} {C p : Addr} {f : Str} {e : Expr} {ta : TE} {pos : Pos} (D : Def X.prog X.w X.K X.mg X.base wh ["self"] k sp) (hr : Room (k + 1) X.A) (c : Cls X.K C) (hp : PropOf X.K C f p (wh.at_ X.K)) (he : PE X e ta)
    (hab : attributeBase e f X.env (eval e X.env) = eval e X.env := by rfl) : PE X (.Attribute e f pos) (tProp C sp [] E0 ta) := by
  obtain ⟨fd, kp, b, F⟩ := D.ex
  exact pe_prop he c hp F hr b .nil pass0 hab
theorem ok_queued (T : Tp K mg base) : Def P w K mg base (.glo "queued") ["book", "queue", "data", "until"] 11 (spQueued K) := by
  refine def_mk T.f_queued sc_queued (fun vs H Q E h => ?_) (fun _ _ _ _ _ _ us hl => match us, hl with | [_, _, _, _], _ => rfl) (fun cdv A0 outer s H vs Q E hr h => ?_)
  · obtain ⟨c, b, qt, d, til, M, T', rfl, _⟩ := h; rfl
  · obtain ⟨c, b, qt, d, til, M, T', rfl, R, ht0, ht1, W0, hb, hq, hd, htb, htt, hend, k⟩ := h
    have nd := sc_queued.nd
    have hu := hu_of hr
    obtain ⟨tM, eM⟩ := T.i_MOST_LOG
    refine ⟨_, pss_cons (ps_set (i := 4) nd rfl (.inl rfl) (pe_d (ok_road_of T) (hr.mono (by decide)) T.g_road_of (pa_cons (pv 1) pa_nil)))
      (pss_cons (ps_set (i := 5) nd rfl (.inl rfl) (pe_dk (f := 0) (wh := .met "Crossing" "__init__") T.m_Crossing (ok_Crossing_init T) (hr.mono (by decide)) T.g_Crossing (pa_cons (pv 0) (pa_cons (pv 4) (pa_cons (pv 2) pa_nil)))))
      (pss_cons (ps_set (i := 6) nd rfl (.inl rfl) (pe_dk (f := 0) (wh := .met "Queue" "__init__") T.m_Queue (ok_Queue_init T) (hr.mono (by decide)) T.g_Queue (pa_cons (pv 1) pa_nil)))
      (pss_cons (ps_asg (pe_tup (pa_cons pe_dnewK (pa_cons pe_dnewK (pa_cons (pe_lst pa_nil) (pa_cons (pe_lst pa_nil) pa_nil))))) (pg_tup (n := 4) rfl (pgs_cons (pg_name (i := 7) nd rfl (.inl rfl)) (pgs_cons (pg_name (i := 8) nd rfl (.inl rfl)) (pgs_cons (pg_name (i := 9) nd rfl (.inl rfl)) (pgs_cons (pg_name (i := 10) nd rfl (.inl rfl)) pgs_nil))))))
      (pss_cons (ps_while PassesOwn.never (pt_cmpR op_le (pe_dp (ok_Crossing_kept_now T) (hr.mono (by decide)) T.c_Crossing T.p_Crossing_kept_now (pv 5)) (pv 3) (nomark _))
        (pss_cons (ps_set (i := 11) nd rfl (.inr rfl) (pe_dp (ok_Crossing_kept_now T) (hr.mono (by decide)) T.c_Crossing T.p_Crossing_kept_now (pv 5)))
        (pss_cons (ps_set (i := 12) nd rfl (.inl rfl) (pe_dm (ok_Crossing_tick T) (hr.mono (by decide)) T.c_Crossing T.m_Crossing_tick (pv 5) (pa_cons (pe_callTy call_tuple_of rfl T.b_tuple (by decide +kernel) (pa_cons (pe_dpop2 (pv 7) (pv 11) (pe_lst pa_nil) ⟨rfl, rfl, rfl, rfl⟩) pa_nil)) (pa_cons (pe_callTy call_tuple_of rfl T.b_tuple (by decide +kernel) (pa_cons (pe_dpop2 (pv 8) (pv 11) (pe_lst pa_nil) ⟨rfl, rfl, rfl, rfl⟩) pa_nil)) pa_nil))))
        (pss_cons (ps_for PassesOwn.never rfl (pi_tup (pv 12)) (pg_name (i := 13) nd rfl (.inl rfl))
          (pss_one (ps_if (pt_cmpR op_eq (pe_ix ix_tup (pv 13) pe_int (fun _ _ => rfl)) pe_str (nomark _))
            (pss_cons (ps_set (i := 14) nd rfl (.inl rfl) (pe_dm (ok_Queue_enter T) (hr.mono (by decide)) T.c_Queue T.m_Queue_enter (pv 6) (pa_cons (pv 11) pa_nil)))
            (pss_cons (ps_expr (pe_bm PySem.F.plainAttrs_list PySem.F.slot_list_append PySem.F.type_list_append mt_append (pv 10) (pa_cons (pv 14) pa_nil)))
            (pss_one (ps_if (pt_cmpR op_notN (pv 14) pe_non (nomark _)) (pss_one (ps_expr (pe_bm PySem.F.plainAttrs_list PySem.F.slot_list_append PySem.F.type_list_append mt_append (pe_dsetd (pv 7) (pe_op op_add (pv 11) (pv 14)) (pe_lst pa_nil) ⟨rfl, rfl, rfl, rfl⟩) (pa_cons (pe_ix ix_tup (pv 13) pe_int (fun _ _ => rfl)) pa_nil)))) pss_nil))))
            (pss_one (ps_if (pt_cmpR op_eq (pe_ix ix_tup (pv 13) pe_int (fun _ _ => rfl)) pe_str (nomark _))
              (pss_one (ps_expr (pe_bm PySem.F.plainAttrs_list PySem.F.slot_list_append PySem.F.type_list_append mt_append (pe_dsetd (pv 8) (pe_op op_add (pv 11) (pe_ix ix_tup (pv 1) pe_int (fun _ _ => rfl))) (pe_lst pa_nil) ⟨rfl, rfl, rfl, rfl⟩) (pa_cons (pe_ix ix_tup (pv 13) pe_int (fun _ _ => rfl)) pa_nil)))) pss_nil)))))
        (pss_cons (ps_expr (pe_bm PySem.F.plainAttrs_list PySem.F.slot_list_extend PySem.F.type_list_extend mt_extend (pv 9) (pa_cons (pe_lc (own := [("event", 13)]) (g := gName 13) (tt := tYes) (te := tTup (tCons (tVar 11) (tCons (tVar 13) tNil))) rfl nd (pi_tup (pv 12)) (blkOk_by (N := ["book", "queue", "data", "until", "road", "crossing", "line", "coming", "hearing", "log", "forth", "now", "events", "event", "delay"]) (sc := defScope s_queued) (by decide +kernel)) (fun _ _ _ _ _ => pg_name (i := 13) nd rfl (.inl rfl)) (fun _ _ _ _ _ => pts_nil) (fun _ _ _ _ _ => pe_tup (pa_cons (pv 11) (pa_cons (pv 13) pa_nil)))) pa_nil)))
        (pss_one (ps_if (pt_cmpR op_gt (pe_callB call_len_seq rfl T.b_len boot_len (pa_cons (pv 9) pa_nil)) (pe_glob (v := .int 4000) rfl eM ⟨_, rfl⟩) (nomark _)) pss_never pss_nil)))))))
      (pss_one (ps_ret (pe_tup (pa_cons (pe_callTy call_tuple_of rfl T.b_tuple (by decide +kernel) (pa_cons (pv 9) pa_nil)) (pa_cons (pe_tup (pa_cons (pe_callTy call_tuple_of rfl T.b_tuple (by decide +kernel) (pa_cons (pv 10) pa_nil)) (pa_cons (pe_tup pa_nil) pa_nil))) pa_nil))))))))), ?_⟩
    let BT : Addr → List As := fun road => rdA c road :: dtA c d :: tabA (Hz.tabW K (.met "Reader" "ack")) :: tabA (Hz.tabW K (.met "Crossing" "tick")) :: bkA c b :: quA c qt :: T'
    have w0 : W H M (dtA c d :: tabA (Hz.tabW K (.met "Reader" "ack")) :: tabA (Hz.tabW K (.met "Crossing" "tick")) :: bkA c b :: quA c qt :: T') := ((((W0.say (quA c qt) hq).say (bkA c b) hb).say (tabA _) htt).say (tabA _) htb).say (dtA c d) hd
    let σQ : QA → Option V → Option V → Option V → Option V → L2.St := fun q e f g h => [some (.ref b), some (.ref qt), some (.ref d), some (.int til), some (.ref q.road), some (.ref q.cr), some (.ref q.qu), some (.ref q.cm), some (.ref q.hm), some (.ref q.lg), some (.ref q.fo), e, f, g, h]
    let LS : QA → Int → L2.St → Hp → Prop := fun q t σ H => ∃ (y : CoA) (rx : RdA) (sx : SdA) (L A : Nat → Addr) (z : SdS) (C : Nat) (gt : Int) (lv : Addr) (qa : Nat) (cl hl : Nat → Addr) (ls : List Addr) (ws : List (Int × Str × Int)) (fs : List V) (e f g h : Option V), LoopOk c q b d t y rx sx z C qa ws fs ∧ σ = σQ q e f g h ∧
      W H (qM K c q y rx sx L A z C gt t lv qa cl hl (ls.map V.ref) fs M) (lgsA ws ls :: prV (prN c z.T) z.pair :: ltA z.S L :: acA c C A :: BT q.road)
    let σ4 : Option V → Option V → Option V → L2.St := fun e f g => [some (.ref b), some (.ref qt), some (.ref d), some (.int til), e, f, g, none, none, none, none, none, none, none, none]
    refine seq_mid (fun σ H => ∃ road, σ = σ4 (some (.ref road)) none none ∧ W H M (BT road)) (fun σ H y => ?tail1) (fun D' hD' _ => ?stmt1)
    case stmt1 => exact ⟨_, rfl, c, qt, M, _, rfl, w0, w0.f (quA c qt), ⟨by have := R.rate1; omega, by have := R.rate2; omega⟩, fun r H1 w1 => hD' _ _ ⟨r, rfl, w1⟩⟩
    obtain ⟨road, rfl, w1⟩ := y
    clear w0
    refine seq_mid (fun σ H => ∃ (cr crdx : Addr) (y : CoA) (rx : RdA) (sx : SdA) (al : Addr) (L A : Nat → Addr), y.rd = rx.r ∧ y.sd = sx.s ∧ rx.pd = d ∧ sx.book = b ∧ sx.road = road ∧ sx.data = d ∧ σ = σ4 (some (.ref road)) (some (.ref cr)) none ∧ W H ((cr, crO K crdx road y.co 0) :: allM K c y rx sx L A (z00 al) 0 (rdAt 0 0) M) (BT road)) (fun σ H y => ?tail2) (fun D' hD' _ => ?stmt2)
    case stmt2 =>
      refine ⟨_, rfl, _, rfl, _, rfl, fun cr crdx hcr hcrdx ne => ?_⟩
      have w2 := W.made (C := He.ga K "Crossing") nsCrossing w1 hcr hcrdx ne
      exact ⟨c, cr, crdx, b, road, d, M, BT road, rfl, w2, w2.f (bkA c b), w2.f (dtA c d), fun y rx sx al L A H1 e1 e2 e3 e4 e5 e6 w3 => ⟨rfl, hD' _ _ ⟨cr, crdx, y, rx, sx, al, L, A, e1, e2, e3, e4, e5, e6, rfl, w3⟩⟩⟩
    obtain ⟨cr, crdx, y, rx, sx, al, L, A, e1, e2, e3, e4, e5, e6, rfl, w2⟩ := y
    clear w1
    refine seq_mid (fun σ H => ∃ (qu qdx lv : Addr), σ = σ4 (some (.ref road)) (some (.ref cr)) (some (.ref qu)) ∧ W H ((qu, quO K c qdx lv) :: (lv, .lst []) :: (cr, crO K crdx road y.co 0) :: allM K c y rx sx L A (z00 al) 0 (rdAt 0 0) M) (BT road)) (fun σ H y => ?tail3) (fun D' hD' _ => ?stmt3)
    case stmt3 =>
      refine ⟨_, rfl, fun qu qdx hqu hqdx ne => ?_⟩
      have w3 := W.made (C := He.ga K "Queue") nsQueue w2 hqu hqdx ne
      exact ⟨c, qu, qdx, qt, _, BT road, rfl, w3, w3.f (quA c qt), fun H1 lv w4 => ⟨rfl, hD' _ _ ⟨qu, qdx, lv, rfl, w4⟩⟩⟩
    obtain ⟨qu, qdx, lv, rfl, w3⟩ := y
    clear w2
    refine seq_mid (fun σ H => ∃ q, LS q 0 σ H) (fun σ H y => ?tail4) (fun D' hD' _ => ?stmt4)
    case stmt4 =>
      refine fun cm hcm => fun hm hhm => ⟨Nat.zero_le _, fun lg hlg => ⟨Nat.zero_le _, fun fo hfo => ⟨by show 4 ≤ sizeLine; decide, fun a na => ?_⟩⟩⟩
      have w4 := (((w3.new hcm (.dK [])).new hhm (.dK [])).new hlg (.lst [])).new hfo (.lst [])
      have w5 := w4.newT na [.ref cm, .ref hm, .ref lg, .ref fo]
      refine ⟨a, [.ref cm, .ref hm, .ref lg, .ref fo], rfl, SqT.of (w5.f (tupA a [.ref cm, .ref hm, .ref lg, .ref fo])), rfl, _, _, rfl, _, _, rfl, _, _, rfl, _, _, rfl, rfl, ?_⟩
      have w6 := w5.k [cr, qu, lv, cm, hm, lg, fo]
      have w7 := W.e0 (T := BT road) w6
      have w8 := (((w7.say (acA c 0 A) (fun n hn => absurd hn (Nat.not_lt_zero _))).say (ltA 0 L) (fun n hn => absurd hn (Nat.not_lt_zero _))).say (prV none .non) (.inl ⟨rfl, rfl⟩)).say (lgsA [] []) trivial
      have hlo := R.lo1
      have hra := R.rate1
      refine hD' _ _ ⟨⟨cr, crdx, qu, qdx, cm, hm, lg, fo, road⟩, y, rx, sx, L, A, z00 al, 0, 0, lv, 0, fun _ => 0, fun _ => 0, [], [], [], none, none, none, none, ⟨e1, e2, e3, e4, e5, e6, ⟨Nat.le_refl _, Nat.le_refl _, Nat.zero_le _, fun n hn => absurd hn (Nat.not_lt_zero _), fun hn => ?_, fun n hn => absurd hn (Nat.not_lt_zero _), fun hn => absurd hn (Nat.lt_irrefl _), fun n hn => absurd hn (Nat.not_lt_zero _), fun hn => absurd hn (Nat.lt_irrefl _), Int.le_refl _, by decide⟩, ⟨rfl, rfl, rfl⟩, ⟨Nat.le_refl _, fun j hj => absurd hj (Nat.not_lt_zero _)⟩, rfl, rfl, rfl⟩, rfl, w8⟩
      exact R.s_0 hn
    obtain ⟨q, hLS⟩ := y
    clear w3
    refine seq_mid (fun σ H => ∃ t, til < t ∧ LS q t σ H) (fun σ H y => ?tail5) (fun D' hD' _ => ?stmt5)
    case stmt5 =>
      refine ⟨fun m σ H => ∃ t, LS q t σ H ∧ m = (til + 1 - t).toNat, ⟨_, 0, hLS, rfl⟩, ?_⟩
      rintro m σ H ⟨t, hL, rfl⟩
      obtain ⟨y, rx, sx, L, A, z, C, gt, lv, qa, cl, hl, ls, ws0, fs, e, f, g, h, hO, rfl, w4⟩ := id hL
      refine ⟨_, rfl, q.cr, q.crdx, _, rfl, w4.c q.cr, q.cr, q.crdx, q.road, y.co, t, rfl, w4.c q.cr, _, rfl, _, _, rfl, rfl, _, rfl, ?_⟩
      by_cases ht : til < t
      · rw [decide_eq_false (by omega)]
        exact iteF (hD' _ _ ⟨t, ht, hL⟩)
      rw [decide_eq_true (by omega)]
      refine iteT ⟨fun σ H => LS q (t + 1) σ H, fun σ' H' hL' => ⟨_, by omega, t + 1, hL', rfl⟩, ?_⟩
      clear hL hLS
      refine seq_mid (fun σ H => σ = σQ q (some (.int t)) f g h ∧ W H (qM K c q y rx sx L A z C gt t lv qa cl hl (ls.map V.ref) fs M) (lgsA ws0 ls :: prV (prN c z.T) z.pair :: ltA z.S L :: acA c C A :: BT q.road)) (fun σ H y6 => ?tail6) (fun D2 hD2 _ => ?stmt6)
      case stmt6 => exact ⟨_, rfl, q.cr, q.crdx, _, rfl, w4.c q.cr, q.cr, q.crdx, q.road, y.co, t, rfl, w4.c q.cr, hD2 _ _ ⟨rfl, w4⟩⟩
      obtain ⟨rfl, w5⟩ := y6
      clear w4
      have hK := hO.cnt
      have hlv : ∀ n m, n < m → m < c.short → c.a n < c.a m := fun n m h1 h2 => by
        have := R.lvlt h1 h2
        have := R.rate1
        show c.lo + c.lv n < c.lo + c.lv m
        omega
      have hSs := hK.Ss
      have hCS := hK.CS
      have hhv : ∀ n m, n < m → m < c.short → c.h n < c.h m := fun n m h1 h2 => by
        have := hlv n m h1 h2
        show c.a n + c.lo < c.a m + c.lo
        omega
      let MZ : Int → RdA → SdA → (Nat → Addr) → (Nat → Addr) → SdS → Nat → Int → Nat → Nat → Nat → Addr → Nat → (Nat → Addr) → (Nat → Addr) → List V → List V → List Cell := fun now rx sx L A z C gt Ci Si Sq lv qa cl hl logs fs =>
        (q.cm, .dK (kA C Si c.a cl)) :: (q.hm, .dK (kA z.T Ci c.h hl)) :: (q.qu, quO K c q.qdx lv) :: (lv, .lst (rF qa Sq c.lv)) :: (q.fo, .lst fs) :: (q.lg, .lst logs) :: (q.cr, crO K q.crdx q.road y.co now) :: allM K c y rx sx L A z C (rdAt C gt) (famC C Si cl ++ (famC z.T Ci hl ++ M))
      refine seq_mid (fun σ H => ∃ z1 o1 ws z2 wd tp es L' A', HearCase c z (prN c z.T) (hsN c t C z.T) z1 o1 ws ∧ SendCase c z1 t z2 wd ∧ σ = σQ q (some (.int t)) (some (.ref tp)) g h ∧ W H (MZ (t + 1) rx sx L' A' z2 (C1N c t z.S C) (gtN c t z.S C gt) C z.S z.S lv qa cl hl (ls.map V.ref) fs)
        (tupA tp (es.map V.ref) :: evsA (wcN c t z.S C ++ (ws ++ wd)) es :: prV o1 z2.pair :: ltA z2.S L' :: acA c (C1N c t z.S C) A' :: lgsA ws0 ls :: BT q.road)) (fun σ H y7 => ?tail7) (fun D3 hD3 _ => ?stmt7)
      case stmt7 =>
        refine ⟨_, rfl, q.cr, q.crdx, _, rfl, w5.c q.cr, fl_no (by decide +kernel), ?_⟩
        have w6 := w5.k [q.cm]
        refine pop_tup (a := C) (b := z.S) (f := c.a) (p := cl) (X := (q.cr, crO K q.crdx q.road y.co t) :: (q.qu, quO K c q.qdx lv) :: (lv, .lst (rF qa z.S c.lv)) :: (q.hm, .dK (kA z.T C c.h hl)) :: (q.lg, .lst (ls.map V.ref)) :: (q.fo, .lst fs) :: allM K c y rx sx L A z C (rdAt C gt) []) (R := famC z.T C hl ++ M) _ rfl rfl w6 (fun n h1 h2 => hlv C n h1 (by omega)) (fun hn => hK.au hn) (fun ct H1 w7 => ?_)
        have w8 : W H1 (((q.cm, .dK (kA (C1N c t z.S C) z.S c.a cl)) :: (q.cr, crO K q.crdx q.road y.co t) :: (q.qu, quO K c q.qdx lv) :: (lv, .lst (rF qa z.S c.lv)) :: (q.hm, .dK (kA z.T C c.h hl)) :: (q.lg, .lst (ls.map V.ref)) :: (q.fo, .lst fs) :: allM K c y rx sx L A z C (rdAt C gt) []) ++ (famC (C1N c t z.S C) z.S cl ++ (famC z.T C hl ++ M))) (tupA ct (csN c t z.S C) :: lgsA ws0 ls :: prV (prN c z.T) z.pair :: ltA z.S L :: acA c C A :: BT q.road) := w7
        have w9 := (W.swap w8)
        have w10 : W H1 ((q.cm, .dK (kA (C1N c t z.S C) z.S c.a cl)) :: (q.cr, crO K q.crdx q.road y.co t) :: (q.qu, quO K c q.qdx lv) :: (lv, .lst (rF qa z.S c.lv)) :: (q.hm, .dK (kA z.T C c.h hl)) :: (q.lg, .lst (ls.map V.ref)) :: (q.fo, .lst fs) :: allM K c y rx sx L A z C (rdAt C gt) (famC z.T C hl ++ (famC (C1N c t z.S C) z.S cl ++ M))) (tupA ct (csN c t z.S C) :: lgsA ws0 ls :: prV (prN c z.T) z.pair :: ltA z.S L :: acA c C A :: BT q.road) := w9
        clear w5 w6 w7 w8 w9
        have w11 := w10.k [q.hm]
        refine pop_tup (a := z.T) (b := C) (f := c.h) (p := hl) (X := (q.cm, .dK (kA (C1N c t z.S C) z.S c.a cl)) :: (q.cr, crO K q.crdx q.road y.co t) :: (q.qu, quO K c q.qdx lv) :: (lv, .lst (rF qa z.S c.lv)) :: (q.lg, .lst (ls.map V.ref)) :: (q.fo, .lst fs) :: allM K c y rx sx L A z C (rdAt C gt) []) (R := famC (C1N c t z.S C) z.S cl ++ M) _ rfl rfl w11 (fun n h1 h2 => hhv z.T n h1 (by omega)) (fun hn => hK.hu hn) (fun hct H2 w12 => ?_)
        have w13 : W H2 (((q.hm, .dK (kA (G1N c t C z.T) C c.h hl)) :: (q.cm, .dK (kA (C1N c t z.S C) z.S c.a cl)) :: (q.cr, crO K q.crdx q.road y.co t) :: (q.qu, quO K c q.qdx lv) :: (lv, .lst (rF qa z.S c.lv)) :: (q.lg, .lst (ls.map V.ref)) :: (q.fo, .lst fs) :: allM K c y rx sx L A z C (rdAt C gt) []) ++ (famC (G1N c t C z.T) C hl ++ (famC (C1N c t z.S C) z.S cl ++ M))) (tupA hct (hsN c t C z.T) :: tupA ct (csN c t z.S C) :: lgsA ws0 ls :: prV (prN c z.T) z.pair :: ltA z.S L :: acA c C A :: BT q.road) := w12
        have w14 := (W.swap w13)
        have w15 : W H2 ((q.hm, .dK (kA (G1N c t C z.T) C c.h hl)) :: (q.cm, .dK (kA (C1N c t z.S C) z.S c.a cl)) :: (q.cr, crO K q.crdx q.road y.co t) :: (q.qu, quO K c q.qdx lv) :: (lv, .lst (rF qa z.S c.lv)) :: (q.lg, .lst (ls.map V.ref)) :: (q.fo, .lst fs) :: allM K c y rx sx L A z C (rdAt C gt) (famC (C1N c t z.S C) z.S cl ++ (famC (G1N c t C z.T) C hl ++ M))) (tupA hct (hsN c t C z.T) :: tupA ct (csN c t z.S C) :: lgsA ws0 ls :: prV (prN c z.T) z.pair :: ltA z.S L :: acA c C A :: BT q.road) := w14
        clear w10 w11 w12 w13 w14
        have w16 := w15.k [q.cr, y.co, y.pk, y.ak, rx.r, rx.dc, rx.lk, rx.d0, rx.lr, sx.s, sx.sent, sx.lets, sx.sts, sx.go, sx.stl, sx.an, sx.nx, z.al, sx.pp, sx.ptk, sx.ptl]
        have hrd1 := w16.f (rdA c q.road)
        have hdt1 := w16.f (dtA c d)
        have hbk1 := w16.f (bkA c b)
        refine ⟨c, q.cr, q.crdx, q.road, y, rx, sx, L, A, z, C, C1N c t z.S C, gt, gtN c t z.S C gt, prN c z.T, t, ct, hct, csN c t z.S C, hsN c t C z.T, wcN c t z.S C, _, _, rfl, hO.rd, hO.sd, w16, hrd1, (by rw [hO.pd]; exact hdt1), w16.f (tabA (Hz.tabW K (.met "Reader" "ack"))), w16.f (tabA (Hz.tabW K (.met "Crossing" "tick"))), (by rw [hO.book]; exact hbk1), (by rw [hO.road]; exact hrd1), (by rw [hO.data]; exact hdt1), w16.f (ltA z.S L), w16.f (acA c C A), w16.f (prV (prN c z.T) z.pair), w16.f (tupA ct (csN c t z.S C)), w16.f (tupA hct (hsN c t C z.T)), tick_pre hK R hO.ok rfl gt, fun z1 o1 ws z2 wd tp es L' A' H3 hc1 hs1 w17 => ?_⟩
        obtain ⟨hK2, hz2, ho2, hwd, eT2, eS2⟩ := cnt_next hK R hO.ok rfl hc1 hs1 (by omega)
        have w18 := w17.k [q.cm, q.hm, q.qu, lv, q.fo, q.lg]
        refine hD3 _ _ ⟨z1, o1, ws, z2, wd, tp, es, L', A', hc1, hs1, rfl, ?_⟩
        rw [← eT2] at w18
        exact ((((((W.e (T := BT q.road) w18 (lgsA ws0 ls) (w18.f _)).say (acA c (C1N c t z.S C) A') (w18.f (acA c (C1N c t z.S C) A'))).say (ltA z2.S L') (w18.f (ltA z2.S L'))).say (prV o1 z2.pair) (w18.f (prV o1 z2.pair))).say (evsA (wcN c t z.S C ++ (ws ++ wd)) es) (w18.f (evsA (wcN c t z.S C ++ (ws ++ wd)) es))).say (tupA tp (es.map V.ref)) (w18.f (tupA tp (es.map V.ref))))
      obtain ⟨z1, o1, ws, z2, wd, tp, es, L', A', hc1, hs1, rfl, w6⟩ := y7
      clear w5
      obtain ⟨hK2, hz2, ho2, hwd, eT2, eS2⟩ := cnt_next hK R hO.ok rfl hc1 hs1 (by omega)
      obtain ⟨_, _, _, _, hws⟩ := hear_z hO.ok rfl hc1
      have hI := fun i w n => @ev_i C z.S z.T (C < z.S ∧ c.a C = t) (z.T < C ∧ c.h z.T = t) (z.S < c.short ∧ t = c.s z.S) _ _ _ i w n
      have hA := @ev_all C z.S z.T (C < z.S ∧ c.a C = t) (z.T < C ∧ c.h z.T = t) (z.S < c.short ∧ t = c.s z.S) _ _ _
      dsimp only at hA
      rw [← hws, ← hwd] at hA
      rw [← hws, ← hwd] at hI
      change ∀ i w n, (wcN c t z.S C ++ (ws ++ wd))[i]? = some (w, n) → EvI C z.S _ _ (wcN c t z.S C ++ (ws ++ wd)) i w n at hI
      change cntW "send" (wcN c t z.S C ++ (ws ++ wd)) = _ ∧ cntW "ack" (wcN c t z.S C ++ (ws ++ wd)) = _ ∧ (wcN c t z.S C ++ (ws ++ wd)).length = _ ∧ ∀ t' : Int, readsOf ((wcN c t z.S C ++ (ws ++ wd)).map fun x => (t', x.1, x.2)) = _ at hA
      generalize wcN c t z.S C ++ (ws ++ wd) = evL at hI hA w6
      let TT2 : List As := tupA tp (es.map V.ref) :: evsA evL es :: prV o1 z2.pair :: ltA z2.S L' :: acA c (C1N c t z.S C) A' :: lgsA ws0 ls :: BT q.road
      let PZ : Nat → L2.St → Hp → Prop := fun i σ H => ∃ (Ci Si : Nat) (lv : Addr) (qa : Nat) (cl hl : Nat → Addr) (fs : List V) (ev dl : Option V), Ci = C + cntW "ack" (evL.take i) ∧ Si = z.S + cntW "send" (evL.take i) ∧ Left c qa Si ∧ fs.length = Si ∧ σ = σQ q (some (.int t)) (some (.ref tp)) ev dl ∧
        W H (MZ (t + 1) rx sx L' A' z2 (C1N c t z.S C) (gtN c t z.S C gt) Ci Si Si lv qa cl hl (ls.map V.ref) fs) TT2
      refine seq_mid (fun σ H => PZ evL.length σ H) (fun σ H y8 => ?tail8) (fun D4 hD4 _ => ?stmt8)
      case stmt8 =>
        have hlen := evsA_len (w6.f (evsA evL es))
        refine ⟨_, rfl, tp, rfl, ⟨_, SqT.of (w6.f (tupA tp (es.map V.ref)))⟩, ?_⟩
        refine for_tup (xs := es.map V.ref) PZ ⟨C, z.S, lv, qa, cl, hl, fs, _, _, rfl, rfl, hO.left, hO.flen, rfl, w6⟩ (fun i σ H _ hP => ?_) (fun i v σ H hx hP => ?_) (fun σ H hP => ?_)
        · obtain ⟨Ci, Si, lv, qa, cl, hl, fs, ev, dl, _, _, _, _, _, w7⟩ := hP
          exact SqT.of (w7.f (tupA tp (es.map V.ref)))
        · obtain ⟨Ci, Si, lv, qa, cl, hl, fs, ev, dl, eC, eS, hL7, hf7, rfl, w7⟩ := hP
          obtain ⟨w, n, e, hi, rfl, he⟩ := evsA_at (w7.f (evsA evL es)) hx
          have I := hI i w n hi
          obtain ⟨r, he1, _⟩ := id he
          refine r_ixT (v := .str w) rfl he1 atI_0 ⟨rfl, _, rfl, ?_⟩
          by_cases hs : w = "send"
          · rw [decide_eq_true (by rw [hs])]
            refine iteT ?_
            obtain ⟨hn, ⟨hS1, hS2⟩, h0⟩ := I.send hs
            have eS0 : Si = z.S := by omega
            subst eS0
            obtain ⟨b', hE, hL8⟩ := ent_of R hS1 hL7
            let σB : L2.St := σQ q (some (.int t)) (some (.ref tp)) (some (.ref e)) (some (.int (c.lv z.S - c.s z.S + c.lo)))
            refine seq_mid (fun σ H => ∃ lv', σ = σB ∧ W H (MZ (t + 1) rx sx L' A' z2 (C1N c t z.S C) (gtN c t z.S C gt) Ci z.S (z.S + 1) lv' b' cl hl (ls.map V.ref) fs) TT2) (fun σ H y9 => ?tail9) (fun D5 hD5 _ => ?stmt9)
            case stmt9 => exact ⟨_, rfl, q.qu, q.qdx, _, rfl, w7.c q.qu, fl_no (by decide +kernel), _, rfl, c, q.qu, q.qdx, lv, qa, b', z.S, _, TT2, by rw [hS2]; rfl, w7.k [q.qu, lv], hE, fun H5 lv' w8 => hD5 _ _ ⟨lv', rfl, w8.k [q.cm, q.hm]⟩⟩
            obtain ⟨lv', rfl, w8⟩ := y9
            clear w7
            refine seq_mid (fun σ H => σ = σB ∧ W H (MZ (t + 1) rx sx L' A' z2 (C1N c t z.S C) (gtN c t z.S C gt) Ci z.S (z.S + 1) lv' b' cl hl (ls.map V.ref) (fs ++ [V.int (c.lv z.S - c.s z.S + c.lo)])) TT2) (fun σ H y10 => ?tail10) (fun D6 hD6 _ => ?stmt10)
            case stmt10 => exact ⟨_, rfl, ty_list (w8.c q.fo), _, rfl, q.fo, _, _, rfl, rfl, w8.c q.fo, small1000 (by rw [hf7]; have := R.sh; omega), hD6 _ _ ⟨rfl, w8.p q.fo (.lst (fs ++ [V.int (c.lv z.S - c.s z.S + c.lo)]))⟩⟩
            obtain ⟨rfl, w9⟩ := y10
            clear w8
            refine ⟨_, rfl, rfl, _, rfl, iteT ?_⟩
            refine set_app (a := C1N c t z.S C) (b := z.S) (f := c.a) (p := cl) (X := (q.hm, .dK (kA z2.T Ci c.h hl)) :: (q.qu, quO K c q.qdx lv') :: (lv', .lst (rF b' (z.S + 1) c.lv)) :: (q.fo, .lst (fs ++ [V.int (c.lv z.S - c.s z.S + c.lo)])) :: (q.lg, .lst (ls.map V.ref)) :: (q.cr, crO K q.crdx q.road y.co (t + 1)) :: allM K c y rx sx L' A' z2 (C1N c t z.S C) (rdAt (C1N c t z.S C) (gtN c t z.S C gt)) []) (R := famC z2.T Ci hl ++ M) (T := TT2) _ rfl (by have := R.sh; omega) w9 (C1_le hK) (fun m h1 h2 => hlv m z.S h2 hS1) (fun Qy hq => ⟨_, rfl, _, rfl, _, _, rfl, rfl, ?_⟩) (fun Qy H' hT hq => ?_) (fun p H6 w10 => ?_)
            · show Qy (.int (t + (c.lv z.S - c.s z.S + c.lo))) H
              rw [show t + (c.lv z.S - c.s z.S + c.lo) = c.a z.S from by show t + (c.lv z.S - c.s z.S + c.lo) = c.lo + c.lv z.S; omega]
              exact hq
            · obtain ⟨w', n', e', hi', ev', he'⟩ := evsA_at (hT (evsA evL es) (List.mem_cons_of_mem _ List.mem_cons_self)) hx
              have q1 := hi.symm.trans hi'
              cases q1
              cases ev'
              obtain ⟨r', he2, _⟩ := he'
              rw [← hn] at hq
              exact r_ixT rfl he2 atI_1 hq
            · refine ⟨Ci, z.S + 1, lv', b', p, hl, _, _, _, ?_, ?_, hL8, by simp [hf7], rfl, w10⟩
              · rw [eC, I.nack, if_neg (by rw [hs]; decide)]; rfl
              · rw [I.nsend, if_pos hs, h0]
          · rw [decide_eq_false (fun q => hs (by injection q))]
            refine iteF (r_ixT (v := .str w) rfl he1 atI_0 ⟨rfl, _, rfl, ?_⟩)
            by_cases ha : w = "ack"
            · rw [decide_eq_true (by rw [ha])]
              refine iteT ?_
              obtain ⟨hn, ⟨hC1, hC2⟩, h0⟩ := I.ack ha
              have eC0 : Ci = C := by omega
              subst eC0
              have hG : z2.T ≤ Ci := by rw [eT2]; unfold G1N; have := hK.GC; split <;> omega
              have w8 : W H (((q.cm, .dK (kA (C1N c t z.S Ci) Si c.a cl)) :: (q.hm, .dK (kA z2.T Ci c.h hl)) :: (q.qu, quO K c q.qdx lv) :: (lv, .lst (rF qa Si c.lv)) :: (q.fo, .lst fs) :: (q.lg, .lst (ls.map V.ref)) :: (q.cr, crO K q.crdx q.road y.co (t + 1)) :: allM K c y rx sx L' A' z2 (C1N c t z.S Ci) (rdAt (C1N c t z.S Ci) (gtN c t z.S Ci gt)) []) ++ (famC (C1N c t z.S Ci) Si cl ++ (famC z2.T Ci hl ++ M))) TT2 := w7
              have w9 := W.swap w8
              have w10 : W H ((q.cm, .dK (kA (C1N c t z.S Ci) Si c.a cl)) :: (q.hm, .dK (kA z2.T Ci c.h hl)) :: (q.qu, quO K c q.qdx lv) :: (lv, .lst (rF qa Si c.lv)) :: (q.fo, .lst fs) :: (q.lg, .lst (ls.map V.ref)) :: (q.cr, crO K q.crdx q.road y.co (t + 1)) :: allM K c y rx sx L' A' z2 (C1N c t z.S Ci) (rdAt (C1N c t z.S Ci) (gtN c t z.S Ci gt)) (famC z2.T Ci hl ++ (famC (C1N c t z.S Ci) Si cl ++ M))) TT2 := w9
              have w11 := w10.k [q.hm]
              refine set_app (a := z2.T) (b := Ci) (f := c.h) (p := hl) (X := (q.cm, .dK (kA (C1N c t z.S Ci) Si c.a cl)) :: (q.qu, quO K c q.qdx lv) :: (lv, .lst (rF qa Si c.lv)) :: (q.fo, .lst fs) :: (q.lg, .lst (ls.map V.ref)) :: (q.cr, crO K q.crdx q.road y.co (t + 1)) :: allM K c y rx sx L' A' z2 (C1N c t z.S Ci) (rdAt (C1N c t z.S Ci) (gtN c t z.S Ci gt)) []) (R := famC (C1N c t z.S Ci) Si cl ++ M) (T := TT2) _ rfl (by have := R.sh; omega) w11 hG (fun m h1 h2 => hhv m Ci h2 (by omega)) (fun Qy hq => ⟨_, rfl, r_ixT (v := .int c.lo) rfl (w7.f (quA c qt)) rfl ⟨_, _, rfl, rfl, ?_⟩⟩) (fun Qy H' hT hq => ?_) (fun p H6 w12 => ?_)
              · show Qy (.int (t + c.lo)) H
                rw [show t + c.lo = c.h Ci from by show t + c.lo = c.a Ci + c.lo; omega]
                exact hq
              · obtain ⟨w', n', e', hi', ev', he'⟩ := evsA_at (hT (evsA evL es) (List.mem_cons_of_mem _ List.mem_cons_self)) hx
                have q1 := hi.symm.trans hi'
                cases q1
                cases ev'
                obtain ⟨r', he2, _⟩ := he'
                rw [← hn] at hq
                exact r_ixT rfl he2 atI_1 hq
              · have w13 : W H6 (((q.hm, .dK (kA z2.T (Ci + 1) c.h p)) :: (q.cm, .dK (kA (C1N c t z.S Ci) Si c.a cl)) :: (q.qu, quO K c q.qdx lv) :: (lv, .lst (rF qa Si c.lv)) :: (q.fo, .lst fs) :: (q.lg, .lst (ls.map V.ref)) :: (q.cr, crO K q.crdx q.road y.co (t + 1)) :: allM K c y rx sx L' A' z2 (C1N c t z.S Ci) (rdAt (C1N c t z.S Ci) (gtN c t z.S Ci gt)) []) ++ (famC z2.T (Ci + 1) p ++ (famC (C1N c t z.S Ci) Si cl ++ M))) TT2 := w12
                have w14 := W.swap w13
                have w15 : W H6 ((q.hm, .dK (kA z2.T (Ci + 1) c.h p)) :: (q.cm, .dK (kA (C1N c t z.S Ci) Si c.a cl)) :: (q.qu, quO K c q.qdx lv) :: (lv, .lst (rF qa Si c.lv)) :: (q.fo, .lst fs) :: (q.lg, .lst (ls.map V.ref)) :: (q.cr, crO K q.crdx q.road y.co (t + 1)) :: allM K c y rx sx L' A' z2 (C1N c t z.S Ci) (rdAt (C1N c t z.S Ci) (gtN c t z.S Ci gt)) (famC (C1N c t z.S Ci) Si cl ++ (famC z2.T (Ci + 1) p ++ M))) TT2 := w14
                have w16 := w15.k [q.cm]
                refine ⟨Ci + 1, Si, lv, qa, cl, p, fs, _, _, ?_, ?_, hL7, hf7, rfl, w16⟩
                · rw [I.nack, if_pos ha, h0]
                · rw [eS, I.nsend, if_neg (by rw [ha]; decide)]; rfl
            · rw [decide_eq_false (fun q => ha (by injection q))]
              refine iteF ⟨Ci, Si, lv, qa, cl, hl, fs, _, _, ?_, ?_, hL7, hf7, rfl, w7⟩
              · rw [eC, I.nack, if_neg ha]; rfl
              · rw [eS, I.nsend, if_neg hs]; rfl
        · rw [List.length_map, ← hlen] at hP
          exact hD4 _ _ hP
      obtain ⟨Ci, Si, lv, qa, cl, hl, fs, ev, dl, eC, eS, hL7, hf7, rfl, w7⟩ := y8
      rw [List.take_length] at eC eS
      have eC1 : Ci = C1N c t z.S C := by rw [eC, hA.2.1]; unfold C1N; split <;> rfl
      have eS1 : Si = z2.S := by rw [eS, hA.1, eS2]; split <;> rfl
      subst eC1
      subst eS1
      have hlen := evsA_len (w7.f (evsA evL es))
      have hle : evL.length ≤ 5 := by rw [hA.2.2.1]; split <;> split <;> split <;> omega
      have hll := lgsA_len (w7.f (lgsA ws0 ls))
      have hsz : ws0.length ≤ 70 := by rw [hO.len]; have := R.sh; have := hK.GC; omega
      let MY : List V → List Cell := fun logs => MZ (t + 1) rx sx L' A' z2 (C1N c t z.S C) (gtN c t z.S C gt) (C1N c t z.S C) z2.S z2.S lv qa cl hl logs fs
      let evW : List (Int × Str × Int) := evL.map fun x => (t, x.1, x.2)
      clear w6
      refine seq_mid (fun σ H => ∃ ls2 : List Addr, σ = σQ q (some (.int t)) (some (.ref tp)) ev dl ∧ W H (MY ((ls ++ ls2).map V.ref)) (lgsA (ws0 ++ evW) (ls ++ ls2) :: TT2)) (fun σ H y11 => ?tail11) (fun D7 hD7 _ => ?stmt11)
      case stmt11 =>
        refine ⟨_, rfl, ty_list (w7.c q.lg), _, rfl, tp, rfl, ⟨_, SqT.of (w7.f (tupA tp (es.map V.ref)))⟩, fun D hD => ?_⟩
        have w8 := w7.new hD (.lst [])
        refine lc_tup (xs := es.map V.ref) (fun i H => ∃ ls2 : List Addr, ls2.length = i ∧ i ≤ evL.length ∧ W H ((D, .lst (ls2.map V.ref)) :: MY (ls.map V.ref)) (lgsA ((evL.take i).map fun x => (t, x.1, x.2)) ls2 :: TT2)) ⟨[], rfl, Nat.zero_le _, w8.say (lgsA [] []) trivial⟩ (fun i H hi h => SqT.of (h.choose_spec.2.2.f (tupA tp (es.map V.ref)))) (fun i y H hy h => ?_) (fun H h => ?_)
        · obtain ⟨ls2, hl2, hi2, w⟩ := h
          obtain ⟨w1, n1, e1, hi, rfl, he⟩ := evsA_at (w.f (evsA evL es)) hy
          have hi3 := (List.getElem?_eq_some_iff.mp hi).1
          refine ⟨rfl, ?_⟩
          dsimp only [tYes]
          rw [if_pos rfl]
          refine ⟨_, rfl, _, rfl, two_le, fun p hp => ?_⟩
          have w9 := w.newT hp [.int t, .ref e1]
          refine ⟨_, w9.c D, small1000 (by rw [List.length_map]; omega), ls2 ++ [p], by simp [hl2], hi3, ?_⟩
          have w10 := w9.p D (.lst (ls2.map V.ref ++ [.ref p]))
          rw [List.map_append]
          refine W.e (T := TT2) w10 _ ?_
          rw [List.take_add_one, hi, List.map_append]
          exact lgsA_app (vs := [(t, w1, n1)]) (fs := [p]) ⟨⟨e1, w10.f (tupA p [.int t, .ref e1]), (evA w1 n1 e1).st _ _ (Kp.refl _) (by
            obtain ⟨w', n', e', hi', ev', he'⟩ := evsA_at (w10.f (evsA evL es)) hy
            have q1 := hi.symm.trans hi'
            cases q1
            cases ev'
            exact he')⟩, trivial⟩ (w10.f (lgsA ((evL.take i).map fun x => (t, x.1, x.2)) ls2))
        · obtain ⟨ls2, hl2, _, w⟩ := h
          rw [List.length_map, ← hlen, List.take_length] at w
          refine ⟨q.lg, D, _, _, rfl, rfl, w.c q.lg, w.c D, ?_, ?_⟩
          · rw [List.length_map, List.length_map, hl2, List.length_map]; exact Nat.le_of_lt (small1000 (by omega))
          have w9 := ((w.p q.lg (.lst (ls.map V.ref ++ ls2.map V.ref))).x D)
          refine hD7 _ _ ⟨ls2, rfl, ?_⟩
          rw [List.map_append]
          exact W.e (T := TT2) w9 _ (lgsA_app (w9.f (lgsA evW ls2)) (w9.f (lgsA ws0 ls)))
      obtain ⟨ls2, rfl, w8⟩ := y11
      clear w7
      have hl2 := lgsA_len (w8.f (lgsA (ws0 ++ evW) (ls ++ ls2)))
      rw [List.length_append, List.length_map] at hl2
      have e10 : ¬ (4000 : Int) < (((ls ++ ls2).map V.ref).length : Nat) := by rw [List.length_map]; omega
      refine ⟨_, rfl, q.lg, _, rfl, .inl (SqL.of (w8.c q.lg)), _, _, rfl, rfl, _, rfl, ?_⟩
      rw [decide_eq_false e10]
      refine iteF ?_
      have w9 := w8.k [q.cr, q.qu, lv, q.cm, q.hm, q.lg, q.fo]
      refine ⟨y, rx, sx, L', A', z2, C1N c t z.S C, gtN c t z.S C gt, lv, qa, cl, hl, ls ++ ls2, ws0 ++ evW, fs, _, _, _, _, ⟨hO.rd, hO.sd, hO.pd, hO.book, hO.road, hO.data, hK2, hz2, hL7, ?_, ?_, hf7⟩, rfl, ?_⟩
      · rw [readsOf_app, hO.reads, hA.2.2.2]
        unfold C1N
        split
        · rename_i hp; rw [List.range_succ, List.map_append, ← hp.2]; rfl
        · rw [List.append_nil]
      · rw [List.length_append, List.length_map, hO.len, hA.2.2.1, eT2, eS2]
        unfold C1N G1N
        split <;> split <;> split <;> omega
      · rw [← ho2]
        exact (((W.e (T := BT q.road) w9 (acA c (C1N c t z.S C) A') (w9.f _)).say (ltA z2.S L') (w9.f (ltA z2.S L'))).say (prV o1 z2.pair) (w9.f (prV o1 z2.pair))).say (lgsA (ws0 ++ evW) (ls ++ ls2)) (w9.f (lgsA (ws0 ++ evW) (ls ++ ls2)))
    obtain ⟨t, ht, y, rx, sx, L, A, z, C, gt, lv, qa, cl, hl, ls, ws, fs, e, f, g, h, hO, rfl, w4⟩ := y
    have hK := hO.cnt
    have eSs : z.S = c.short := by
      rcases Nat.lt_or_ge z.S c.short with x | x
      · have q1 := hK.su x
        have q2 := hend z.S x
        have q3 := R.lv0 z.S x
        have := R.lo1
        have := R.rate1
        have q4 : c.lo + c.lv z.S ≤ til := q2
        omega
      · have := hK.Ss; omega
    have eCs : C = c.short := by
      rcases Nat.lt_or_ge C z.S with x | x
      · have q1 := hK.au x
        have q2 := hend C (by omega)
        omega
      · have := hK.CS; omega
    refine ⟨_, rfl, q.lg, _, rfl, .inl ⟨SqL.of (w4.c q.lg), fun p1 h1 => ?_⟩⟩
    have w5 := w4.newT h1 (ls.map V.ref)
    refine ⟨_, rfl, q.fo, _, rfl, .inl ⟨SqL.of (w5.c q.fo), fun p2 h2 => ?_⟩⟩
    have w6 := w5.newT h2 fs
    refine ⟨Nat.zero_le _, fun p3 h3 => ?_⟩
    have w7 := w6.newT h3 []
    refine ⟨two_le, fun p4 h4 => ?_⟩
    have w8 := w7.newT h4 [.ref p2, .ref p3]
    refine ⟨two_le, fun p5 h5 => ?_⟩
    have w9 := w8.newT h5 [.ref p1, .ref p4]
    have w10 : W _ (((q.cr, crO K q.crdx q.road y.co t) :: (q.qu, quO K c q.qdx lv) :: (lv, .lst (rF qa z.S c.lv)) :: (q.cm, .dK (kA C z.S c.a cl)) :: (q.hm, .dK (kA z.T C c.h hl)) :: (q.lg, .lst (ls.map V.ref)) :: (q.fo, .lst fs) :: allM K c y rx sx L A z C (rdAt C gt) []) ++ (famC C z.S cl ++ (famC z.T C hl ++ M))) _ := w9
    have w11 := w10.tail.tail.tail
    refine k p5 p1 p4 ls ws _ (by rw [hO.reads, eCs]) ?_
    exact ((W.e (T := T') w11 (lgsA ws ls) (w11.f _)).say (tupA p1 (ls.map V.ref)) (w11.f _)).say (tupA p5 [.ref p1, .ref p4]) (w11.f _)
end
end Su


set_option Elab.async false
set_option linter.all false
set_option maxRecDepth 100000
set_option maxHeartbeats 2000000
set_option synthInstance.maxSize 100000
set_option synthInstance.maxHeartbeats 2000000
/-! the bag of draws -/
namespace Su
open PySem PySem.Spec PyProof.Rows L2
structure BgA where
  b : Addr
  g : Addr
  r : Addr
structure BgOk (n : Nat) (u k : Int) (gs rs : List Int) : Prop where
  u0 : 0 ≤ u
  k0 : 0 ≤ k
  kn : k ≤ n
  gl : gs.length ≤ 100
  rl : rs.length ≤ 100
  rp : 0 < rs.length
  gp : ∀ i ∈ gs, 0 ≤ i
  rr : ∀ i ∈ rs, 0 ≤ i ∧ i < 2147483647
abbrev bgM (x : BgA) (u k : Int) (gs rs : List Int) (M : List Cell) : List Cell := (x.b, .lst [.int u, .int k, .ref x.g, .ref x.r]) :: (x.g, .lst (gs.map V.int)) :: (x.r, .lst (rs.map V.int)) :: M
/-- a bag after at most n draws -/
def Bag (x : BgA) (n : Nat) (M : List Cell) (T : List As) (H : Hp) : Prop := ∃ u k gs rs, BgOk n u k gs rs ∧ W H (bgM x u k gs rs M) T
def spDraw : Sp := fun vs H Q _ => ∃ (x : BgA) (n : Nat) (many : Int) (M : List Cell) (T : List As), vs = [.ref x.b, .int many] ∧ Bag x n M T H ∧ n < 5000 ∧ 0 < many ∧ many < 10000 ∧ ∀ d H', 0 ≤ d → d < many → Bag x (n + 1) M T H' → Q (.int d) H'
section
variable {K : PySem.W.Frag} {σ : L2.St} {H : Hp} {Qv : V → Prop} {i : Nat} {p : Addr} {xs : List V} {v : V} {j : Int}
/-- x[j], x a list -/
theorem r_ixL (hσ : σ[i]? = some (some (.ref p))) (h : H p = some (.lst xs)) (ha : atI xs j = some v) (q : Qv v) :
    ∃ u, σ[i]? = some (some u) ∧ ∃ p' xs' j' v', u = .ref p' ∧ V.int j = .int j' ∧ SqL K H p' xs' ∧ atI xs' j' = some v' ∧ Qv v' := ⟨_, hσ, p, xs, j, v, rfl, rfl, SqL.of h, ha, q⟩
end
section
variable {P : Program} {w : World} {K : PySem.W.Frag} {mg : Str → Option Value} {base : Heap}
theorem sc_L_draw : FnScope ["bag", "many", "digit", "cell", "mixed"] ["bag", "many"] (defScope s_L_draw) := ⟨rfl, rfl, rfl, by decide +kernel, rfl, by decide +kernel, by decide +kernel⟩
theorem ok_L_draw (T : Tp K mg base) : Def P w K mg base (.glo "_law_draw") ["bag", "many"] 1 spDraw := by
  refine def_mk T.f_L_draw sc_L_draw (fun vs H Q E h => ?_) (fun _ _ _ _ _ _ us hl => match us, hl with | [_, _], _ => rfl) (fun cdv A outer s H vs Q E hr h => ?_)
  · obtain ⟨x, n, many, M, T', rfl, _⟩ := h; rfl
  · obtain ⟨x, n, many, M, T', rfl, ⟨u, k, gs, rs, hB, w0⟩, hn, hm0, hm1, kk⟩ := h
    have nd := sc_L_draw.nd
    refine ⟨_, pss_cons (ps_asg (pe_op op_add (pe_ix ix_list (pv 0) pe_int (fun _ _ => rfl)) pe_int) (pg_sub (pv 0) pe_int set_list))
      (pss_cons (ps_if (PW.pt (pw_and (pt_cmpR op_eq (pe_ix ix_list (pv 0) pe_int (fun _ _ => rfl)) pe_int (nomark _)) (pw_and1 (pt_cmpR op_gt (pe_callB call_len_seq rfl T.b_len boot_len (pa_cons (pe_ix ix_list (pv 0) pe_int (fun _ _ => rfl)) pa_nil)) pe_int (nomark _)))))
        (pss_one (ps_asg (pe_bm0 PySem.F.plainAttrs_list PySem.F.slot_list_pop PySem.F.type_list_pop mt_pop (pe_ix ix_list (pv 0) pe_int (fun _ _ => rfl))) (pg_sub (pv 0) pe_int set_list))) pss_nil)
      (pss_cons (ps_if (pt_cmpR op_gt (pe_ix ix_list (pv 0) pe_int (fun _ _ => rfl)) pe_int (nomark _))
        (pss_cons (ps_set (i := 2) nd rfl (.inl rfl) (pe_op op_mod (pe_callTy call_int1 rfl T.b_int (by decide +kernel) (pa_cons (pe_ix ix_list (pv 0) pe_int (fun _ _ => rfl)) pa_nil)) (pv 1)))
        (pss_cons (ps_asg (pe_op op_fdiv (pe_ix ix_list (pv 0) pe_int (fun _ _ => rfl)) (pv 1)) (pg_sub (pv 0) pe_int set_list))
        (pss_one (ps_ret (pv 2))))) pss_nil)
      (pss_cons (ps_set (i := 3) nd rfl (.inl rfl) (pe_ix ix_list (pe_ix ix_list (pv 0) pe_int (fun _ _ => rfl)) (pe_op op_mod (pe_callTy call_int1 rfl T.b_int (by decide +kernel) (pa_cons (pe_ix ix_list (pv 0) pe_int (fun _ _ => rfl)) pa_nil)) (pe_callB call_len_seq rfl T.b_len boot_len (pa_cons (pe_ix ix_list (pv 0) pe_int (fun _ _ => rfl)) pa_nil))) (fun _ _ => rfl)))
      (pss_cons (ps_set (i := 4) nd rfl (.inl rfl) (pe_op op_mod (pe_callTy call_int1 rfl T.b_int (by decide +kernel) (pa_cons (pe_op op_add (pe_op op_add (pe_op op_mul (pv 3) pe_int) (pe_op op_mul (pe_ix ix_list (pv 0) pe_int (fun _ _ => rfl)) pe_int)) pe_int) pa_nil)) pe_int))
      (pss_one (ps_ret (pe_op op_mod (pe_op op_fdiv (pe_op op_mod (pe_callTy call_int1 rfl T.b_int (by decide +kernel) (pa_cons (pe_op op_add (pe_op op_add (pe_op op_mul (pv 4) (pv 4)) (pe_op op_mul (pv 4) pe_int)) (pe_op op_mul (pe_ix ix_list (pv 0) pe_int (fun _ _ => rfl)) pe_int)) pa_nil)) pe_int) pe_int) (pv 1)))))))), ?_⟩
    let σ0 : Option V → Option V → L2.St := fun c m => [some (.ref x.b), some (.int many), none, c, m]
    refine seq_mid (fun σ H => σ = σ0 none none ∧ W H (bgM x u (k + 1) gs rs M) T') (fun σ H y => ?tail1) (fun D' hD' _ => ?stmt1)
    case stmt1 => exact r_ixL rfl (w0.c x.b) rfl ⟨_, _, rfl, rfl, _, rfl, x.b, _, _, _, rfl, rfl, w0.c x.b, rfl, hD' _ _ ⟨rfl, w0.p x.b (.lst [.int u, .int (k + 1), .ref x.g, .ref x.r])⟩⟩
    obtain ⟨rfl, w1⟩ := y
    clear w0
    obtain ⟨hu0, hk0, hkn, hgl, hrl, hrp, hgp, hrr⟩ := hB
    refine seq_mid (fun σ H => ∃ u gs, σ = σ0 none none ∧ BgOk (n + 1) u (k + 1) gs rs ∧ W H (bgM x u (k + 1) gs rs M) T') (fun σ H y => ?tail2) (fun D' hD' _ => ?stmt2)
    case stmt2 =>
      have same : D'.nx (σ0 none none) H := hD' _ _ ⟨u, gs, rfl, ⟨hu0, by omega, by omega, hgl, hrl, hrp, hgp, hrr⟩, w1⟩
      refine r_ixL rfl (w1.c x.b) rfl ⟨rfl, _, rfl, ?_⟩
      by_cases hz : u = 0
      · rw [decide_eq_true (by rw [hz])]
        refine iteT (r_ixL rfl (w1.c x.b) rfl ⟨x.g, _, rfl, .inl (SqL.of (w1.c x.g)), _, _, rfl, rfl, _, rfl, ?_⟩)
        by_cases hg : gs = []
        · subst hg
          exact iteF same
        · have hl : 0 < gs.length := List.length_pos_iff.mpr hg
          rw [decide_eq_true (by rw [List.length_map]; omega)]
          have e1 : (gs.map V.int)[(gs.map V.int).length - 1]? = some (.int (gs[gs.length - 1]'(by omega))) := by
            rw [List.length_map, List.getElem?_map, List.getElem?_eq_getElem (by omega)]; rfl
          refine iteT (r_ixL rfl (w1.c x.b) rfl ⟨ty_list (w1.c x.g), x.g, _, _, rfl, rfl, w1.c x.g, e1, ?_⟩)
          have w2 := w1.p x.g (.lst (gs.map V.int).dropLast)
          refine ⟨_, rfl, x.b, _, _, _, rfl, rfl, w2.c x.b, rfl, ?_⟩
          have w3 := w2.p x.b (.lst [.int (gs[gs.length - 1]'(by omega)), .int (k + 1), .ref x.g, .ref x.r])
          refine hD' _ _ ⟨gs[gs.length - 1]'(by omega), gs.dropLast, rfl, ⟨hgp _ (List.getElem_mem _), by omega, by omega, by rw [List.length_dropLast]; omega, hrl, hrp, fun i hi => hgp i (List.dropLast_subset _ hi), hrr⟩, ?_⟩
          show W _ ((x.b, .lst [.int (gs[gs.length - 1]'(by omega)), .int (k + 1), .ref x.g, .ref x.r]) :: (x.g, .lst (gs.dropLast.map V.int)) :: (x.r, .lst (rs.map V.int)) :: M) T'
          rw [List.map_dropLast]
          exact w3
      · rw [decide_eq_false (fun q => hz (by injection q))]
        exact iteF (iteF same)
    obtain ⟨u', gs', rfl, hB, w2⟩ := y
    clear w1
    obtain ⟨hu0, hk0, hkn, hgl, hrl, hrp, hgp, hrr⟩ := hB
    refine seq_mid (fun σ H => σ = σ0 none none ∧ W H (bgM x u' (k + 1) gs' rs M) T') (fun σ H y => ?tail3) (fun D' hD' hrt => ?stmt3)
    case stmt3 =>
      refine r_ixL rfl (w2.c x.b) rfl ⟨_, _, rfl, rfl, _, rfl, ?_⟩
      by_cases hz : u' > 0
      · rw [decide_eq_true hz]
        refine iteT (r_ixL rfl (w2.c x.b) rfl (.inl ⟨_, rfl, _, rfl, _, _, rfl, rfl, hm0, ?_⟩))
        refine r_ixL rfl (w2.c x.b) rfl ⟨_, rfl, _, _, rfl, rfl, ⟨hm0, by omega⟩, _, rfl, x.b, _, _, _, rfl, rfl, w2.c x.b, rfl, _, rfl, ?_⟩
        rw [hrt]
        exact kk _ _ (Int.emod_nonneg _ (by omega)) (Int.emod_lt_of_pos _ hm0) ⟨_, _, gs', rs, ⟨Int.ediv_nonneg hu0 (by omega), hk0, hkn, hgl, hrl, hrp, hgp, hrr⟩, w2.p x.b (.lst [.int (u' / many), .int (k + 1), .ref x.g, .ref x.r])⟩
      · rw [decide_eq_false hz]
        exact iteF (hD' _ _ ⟨rfl, w2⟩)
    obtain ⟨rfl, w3⟩ := y
    clear w2
    have hrp' : (0 : Int) < (rs.length : Nat) := by omega
    refine seq_mid (fun σ H => ∃ c : Int, σ = σ0 (some (.int c)) none ∧ 0 ≤ c ∧ c < 2147483647 ∧ W H (bgM x u' (k + 1) gs' rs M) T') (fun σ H y => ?tail4) (fun D' hD' hrt => ?stmt4)
    case stmt4 =>
      have h1 := Int.emod_nonneg (k + 1) (show ((rs.length : Nat) : Int) ≠ 0 by omega)
      have h2 := Int.emod_lt_of_pos (k + 1) hrp'
      obtain ⟨m, hm⟩ := Int.eq_ofNat_of_zero_le h1
      have hml : m < rs.length := by omega
      refine r_ixL rfl (w3.c x.b) rfl (r_ixL rfl (w3.c x.b) rfl (.inl ⟨_, rfl, r_ixL rfl (w3.c x.b) rfl ⟨x.r, _, rfl, .inl (SqL.of (w3.c x.r)), ?_⟩⟩))
      have e1 : atI (rs.map V.int) ((k + 1) % ((rs.map V.int).length : Nat)) = some (.int rs[m]) := by
        rw [List.length_map, hm]
        exact atI_nat (by rw [List.getElem?_map, List.getElem?_eq_getElem hml]; rfl)
      refine ⟨_, _, rfl, rfl, by rw [List.length_map]; exact hrp', x.r, _, _, _, rfl, rfl, SqL.of (w3.c x.r), e1, ?_⟩
      obtain ⟨a1, a2⟩ := hrr _ (List.getElem_mem hml)
      exact hD' _ _ ⟨_, rfl, a1, a2, w3⟩
    obtain ⟨c, rfl, hc0, hc1, w4⟩ := y
    clear w3
    refine seq_mid (fun σ H => ∃ c m : Int, σ = σ0 (some (.int c)) (some (.int m)) ∧ 0 ≤ m ∧ m < 2147483647 ∧ W H (bgM x u' (k + 1) gs' rs M) T') (fun σ H y => ?tail5) (fun D' hD' hrt => ?stmt5)
    case stmt5 =>
      refine ⟨_, rfl, _, _, rfl, rfl, .inl ⟨by omega, by omega⟩, r_ixL rfl (w4.c x.b) rfl ⟨_, _, rfl, rfl, .inl ⟨by omega, by omega⟩, _, _, rfl, rfl, _, _, rfl, rfl, .inl ⟨_, rfl, _, _, rfl, rfl, (by show (0 : Int) < 2147483647; decide), ?_⟩⟩⟩
      exact hD' _ _ ⟨_, _, rfl, Int.emod_nonneg _ (by decide), Int.emod_lt_of_pos _ (by decide), w4⟩
    obtain ⟨c, m, rfl, hm0', hm1', w5⟩ := y
    refine ⟨_, rfl, _, rfl, _, _, rfl, rfl, .inl ⟨by omega, by omega⟩, _, rfl, _, _, rfl, rfl, .inl ⟨by omega, by omega⟩, _, _, rfl, rfl, r_ixL rfl (w5.c x.b) rfl ⟨_, _, rfl, rfl, .inl ⟨by omega, by omega⟩, _, _, rfl, rfl, .inl ⟨_, rfl, _, _, rfl, rfl, (by show (0 : Int) < 2147483629; decide), _, _, rfl, rfl, ⟨by decide, by decide⟩, _, rfl, _, _, rfl, rfl, hm0, ?_⟩⟩⟩
    exact kk _ _ (Int.emod_nonneg _ (by omega)) (Int.emod_lt_of_pos _ hm0) ⟨_, _, gs', rs, ⟨hu0, hk0, hkn, hgl, hrl, hrp, hgp, hrr⟩, w5⟩
end
end Su


set_option Elab.async false
set_option linter.all false
set_option maxRecDepth 100000
set_option maxHeartbeats 2000000
set_option synthInstance.maxSize 100000
set_option synthInstance.maxHeartbeats 2000000
/-! the bag is made; a pick -/
namespace Su
open PySem PySem.Spec PyProof.Rows L2
/-- what stood is there still -/
def Old (H H' : Hp) : Prop := ∀ b o, H b = some o → H' b = some o
theorem Old.refl (H : Hp) : Old H H := fun _ _ h => h
theorem Old.trans {H H1 H2 : Hp} (a : Old H H1) (b : Old H1 H2) : Old H H2 := fun c o h => b c o (a c o h)
theorem Old.put {H H' : Hp} {p : Addr} {o : HO} (h : H p = none) (k : Old H H') : Old H (upd H' p o) := fun b u e => by
  rw [upd_ne (fun z => by rw [z, h] at e; cases e)]; exact k b u e
theorem Old.sq {K : PySem.W.Frag} {H H' : Hp} {a : Addr} {xs : List V} (k : Old H H') (h : SqL K H a xs) : SqL K H' a xs := by
  rcases h with (h | ⟨o, h⟩) | h
  · exact .inl (.inl (k _ _ h))
  · exact .inl (.inr ⟨o, k _ _ h⟩)
  · exact .inr h
def spBag (K : PySem.W.Frag) : Sp := fun vs H Q _ => ∃ (a : Addr) (ns : List Int) (T : List As), vs = [.ref a] ∧ SqL K H a (ns.map V.int) ∧ ns.length ≤ 63 ∧ W H [] T ∧ ∀ x H', Bag x 0 [] T H' → Q (.ref x.b) H'
def spPick : Sp := fun vs H Q _ => ∃ (x : BgA) (n : Nat) (p : Addr) (xs : List V) (M : List Cell) (T : List As), vs = [.ref x.b, .ref p] ∧ Bag x n ((p, .lst xs) :: M) T H ∧ n < 5000 ∧ 0 < xs.length ∧ xs.length < 10000 ∧ ∀ v H', v ∈ xs → Bag x (n + 1) ((p, .lst xs) :: M) T H' → Q v H'
abbrev rAbs : List V → Hp → VK → Prop := fun xs H Q => ∃ i : Int, xs = [.int i] ∧ Q (.int (if i < 0 then -i else i)) H
abbrev rInt1 : List V → Hp → VK → Prop := fun xs H Q => (∃ i : Int, xs = [.int i] ∧ Q (.int i) H) ∨ ∃ k : Bool, xs = [.bl k] ∧ Q (.int (if k then 1 else 0)) H
def absL (ns : List Int) : List Int := ns.map fun i => if i < 0 then -i else i
def great (cs : List Int) : List Int := (cs.filter fun c => decide ((10 : Int) ^ 18 ≤ c)).map fun c => c / 2
def rests (cs : List Int) : List Int := cs.map fun c => c % 2147483647
theorem absL_nn {ns : List Int} {i : Int} (h : i ∈ absL ns) : 0 ≤ i := by
  obtain ⟨j, _, rfl⟩ := List.mem_map.mp h
  split <;> omega
section
variable {P : Program} {w : World} {K : PySem.W.Frag} {mg : Str → Option Value} {base : Heap}
theorem sc_L_pick : FnScope ["bag", "some"] ["bag", "some"] (defScope s_L_pick) := ⟨rfl, rfl, rfl, by decide +kernel, rfl, by decide +kernel, by decide +kernel⟩
theorem ok_L_pick (T : Tp K mg base) : Def P w K mg base (.glo "_law_pick") ["bag", "some"] 2 spPick := by
  refine def_mk T.f_L_pick sc_L_pick (fun vs H Q E h => ?_) (fun _ _ _ _ _ _ us hl => match us, hl with | [_, _], _ => rfl) (fun cdv A outer s H vs Q E hr h => ?_)
  · obtain ⟨x, n, p, xs, M, T', rfl, _⟩ := h; rfl
  · obtain ⟨x, n, p, xs, M, T', rfl, hb, hn, h0, h1, kk⟩ := h
    refine ⟨_, pss_one (ps_ret (pe_ix ix_list (pv 1) (pe_d (ok_L_draw T) hr T.g_law_draw (pa_cons (pv 0) (pa_cons (pe_callB call_len_seq rfl T.b_len boot_len (pa_cons (pv 1) pa_nil)) pa_nil))) (fun _ _ => rfl))), ?_⟩
    obtain ⟨u, k, gs, rs, _, w0⟩ := id hb
    refine ⟨_, rfl, _, rfl, _, rfl, p, _, rfl, .inl (SqL.of (w0.c p)), x, n, _, _, T', rfl, hb, hn, by omega, by omega, fun d H' hd0 hd1 hb' => ?_⟩
    obtain ⟨u, k, gs, rs, _, w1⟩ := id hb'
    obtain ⟨m, rfl⟩ := Int.eq_ofNat_of_zero_le hd0
    have hm : m < xs.length := by omega
    exact ⟨p, xs, _, _, rfl, rfl, SqL.of (w1.c p), atI_nat (List.getElem?_eq_getElem hm), kk _ _ (List.getElem_mem hm) hb'⟩
theorem sc_L_bag : FnScope ["script", "cells", "great", "cell"] ["script"] (defScope s_L_bag) := ⟨rfl, rfl, rfl, by decide +kernel, rfl, by decide +kernel, by decide +kernel⟩
theorem ok_L_bag (T : Tp K mg base) : Def P w K mg base (.glo "_law_bag") ["script"] 1 (spBag K) := by
  refine def_mk T.f_L_bag sc_L_bag (fun vs H Q E h => ?_) (fun _ _ _ _ _ _ us hl => match us, hl with | [_], _ => rfl) (fun cdv A outer s H vs Q E hr h => ?_)
  · obtain ⟨a, ns, T', rfl, _⟩ := h; rfl
  · obtain ⟨a, ns, T', rfl, hS, hl, w0, kk⟩ := h
    have nd := sc_L_bag.nd
    refine ⟨_, pss_cons (ps_set (i := 1) nd rfl (.inl rfl) (pe_op op_cat (pe_lc (own := [("cell", 3)]) (g := gName 3) (tt := tYes) (te := tCB rAbs (tCons (tCB rInt1 (tCons (tVar 3) tNil)) tNil)) rfl nd (pi_list (pv 0)) (blkOk_by (N := ["script", "cells", "great", "cell"]) (sc := defScope s_L_bag) (by decide +kernel)) (fun _ _ _ _ _ => pg_name (i := 3) nd rfl (.inl rfl)) (fun _ _ _ _ _ => pts_nil) (fun _ _ _ _ _ => pe_callB call_abs rfl T.b_abs (by decide +kernel) (pa_cons (pe_callTy call_int1 rfl T.b_int (by decide +kernel) (pa_cons (pv 3) pa_nil)) pa_nil))) (pe_lst (pa_cons pe_int pa_nil))))
      (pss_cons (ps_set (i := 2) nd rfl (.inl rfl) (pe_lst pa_nil))
      (pss_cons (ps_if (pt_cmpR op_eq (pe_op op_mod (pe_callTy call_int1 rfl T.b_int (by decide +kernel) (pa_cons (pe_ix ix_list (pv 1) pe_int (fun _ _ => rfl)) pa_nil)) pe_int) pe_int (nomark _))
        (pss_cons (ps_setLc (i := 2) (own := [("cell", 3)]) (g := gName 3) (tt := tTest (tOp (rI0 fun i j => .bl (decide (j ≤ i))) (tVar 3) (tOp (rI CPow fun i j => .int (i ^ j.toNat)) (tC (.int 10)) (tC (.int 18))))) (te := tOp (rI CDiv fun i j => .int (i / j)) (tVar 3) (tC (.int 2))) rfl nd rfl rfl (sw_true rfl rfl rfl (by decide +kernel)) (pi_list (pv 1)) (blkOk_by (N := ["script", "cells", "great", "cell"]) (sc := defScope s_L_bag) (by decide +kernel)) (fun _ _ _ _ _ => pg_name (i := 3) nd rfl (.inl rfl)) (fun _ _ _ _ _ => pts_one (pt_cmpR op_ge (pv 3) (pe_op op_pow pe_int pe_int) (nomark _))) (fun _ _ _ _ _ => pe_op op_fdiv (pv 3) pe_int))
        (pss_one (ps_expr (pe_bm0 PySem.F.plainAttrs_list PySem.F.slot_list_reverse PySem.F.type_list_reverse mt_reverse (pv 2))))) pss_nil)
      (pss_one (ps_ret (pe_lst (pa_cons pe_int (pa_cons pe_int (pa_cons (pv 2) (pa_cons (pe_lc (own := [("cell", 3)]) (g := gName 3) (tt := tYes) (te := tOp (rI (fun _ j => 0 < j) fun i j => .int (i % j)) (tCB rInt1 (tCons (tVar 3) tNil)) (tC (.int 2147483647))) rfl nd (pi_list (pv 1)) (blkOk_by (N := ["script", "cells", "great", "cell"]) (sc := defScope s_L_bag) (by decide +kernel)) (fun _ _ _ _ _ => pg_name (i := 3) nd rfl (.inl rfl)) (fun _ _ _ _ _ => pts_nil) (fun _ _ _ _ _ => pe_op op_mod (pe_callTy call_int1 rfl T.b_int (by decide +kernel) (pa_cons (pv 3) pa_nil)) pe_int)) pa_nil))))))))), ?_⟩
    let cs : List Int := absL ns ++ [7]
    have hcl : cs.length = ns.length + 1 := by show (absL ns ++ [7]).length = _; simp [absL]
    have hnn : ∀ i ∈ cs, 0 ≤ i := fun i hi => by
      rcases List.mem_append.mp hi with h | h
      · exact absL_nn h
      · simp at h; omega
    let σ0 : Option V → Option V → L2.St := fun c g => [some (.ref a), c, g, none]
    refine seq_mid (fun σ H => ∃ c, σ = σ0 (some (.ref c)) none ∧ W H [(c, .lst (cs.map V.int))] T') (fun σ H y => ?tail1) (fun D' hD' _ => ?stmt1)
    case stmt1 =>
      refine ⟨_, rfl, a, rfl, ⟨_, hS⟩, fun D hD => ?_⟩
      have w1 := w0.new hD (.lst [])
      refine lc_list (xs := ns.map V.int) (fun i H' => Old H H' ∧ i ≤ ns.length ∧ W H' [(D, .lst ((absL (ns.take i)).map V.int))] T') ⟨(Old.refl H).put hD, Nat.zero_le _, w1⟩ (fun i H' hi h => h.1.sq hS) (fun i y H' hy h => ?_) (fun H' h => ?_)
      · obtain ⟨ho, hi, w⟩ := h
        rw [List.getElem?_map] at hy
        obtain ⟨z, hz, rfl⟩ := Option.map_eq_some_iff.mp hy
        have hi2 := (List.getElem?_eq_some_iff.mp hz).1
        refine ⟨rfl, ?_⟩
        dsimp only [tYes]
        rw [if_pos rfl]
        refine ⟨_, rfl, .inl ⟨_, rfl, _, rfl, _, w.c D, small1000 (by unfold absL; simp; omega), ho.put hD, hi2, ?_⟩⟩
        have w2 := w.p D (.lst ((absL (ns.take i)).map V.int ++ [.int (if z < 0 then -z else z)]))
        rw [List.take_add_one, hz]
        unfold absL at w2 ⊢
        simpa using w2
      · obtain ⟨_, _, w⟩ := h
        rw [List.length_map, List.take_length] at w
        refine ⟨by show 1 ≤ sizeLine; decide, fun p hp => ?_⟩
        have w2 := w.new hp (.lst [.int 7])
        refine ⟨D, p, _, _, rfl, rfl, w2.c D, w2.c p, Nat.le_of_lt (small1000 (by unfold absL; simp; omega)), fun c hc => ?_⟩
        have w3 := ((w2.new hc (.lst ((absL ns).map V.int ++ [.int 7]))).x p).x D
        refine hD' _ _ ⟨c, rfl, ?_⟩
        show W _ [(c, .lst ((absL ns ++ [7]).map V.int))] T'
        rw [List.map_append]
        exact w3
    obtain ⟨c, rfl, w1⟩ := y
    clear w0
    refine seq_mid (fun σ H => ∃ g, σ = σ0 (some (.ref c)) (some (.ref g)) ∧ W H [(g, .lst []), (c, .lst (cs.map V.int))] T') (fun σ H y => ?tail2) (fun D' hD' _ => ?stmt2)
    case stmt2 => exact ⟨Nat.zero_le _, fun g hg => hD' _ _ ⟨g, rfl, w1.new hg (.lst [])⟩⟩
    obtain ⟨g, rfl, w2⟩ := y
    clear w1
    refine seq_mid (fun σ H => ∃ (g : Addr) (gs : List Int), σ = σ0 (some (.ref c)) (some (.ref g)) ∧ gs.length ≤ 100 ∧ (∀ i ∈ gs, 0 ≤ i) ∧ W H [(g, .lst (gs.map V.int)), (c, .lst (cs.map V.int))] T') (fun σ H y => ?tail3) (fun D' hD' _ => ?stmt3)
    case stmt3 =>
      have h0 : 0 < cs.length := by omega
      have e0 : atI (cs.map V.int) 0 = some (.int cs[0]) := atI_nat (j := 0) (by rw [List.getElem?_map, List.getElem?_eq_getElem h0]; rfl)
      refine r_ixL rfl (w2.c c) e0 (.inl ⟨_, rfl, _, _, rfl, rfl, (by show (0 : Int) < 2; decide), rfl, _, rfl, ?_⟩)
      by_cases hz : cs[0] % 2 = 0
      · rw [decide_eq_true (by show V.int (cs[0] % 2) = V.int 0; rw [hz])]
        refine iteT ⟨_, rfl, c, rfl, ⟨_, SqL.of (w2.c c)⟩, fun D hD => ?_⟩
        have w3 := w2.new hD (.lst [])
        refine lc_list (xs := cs.map V.int) (fun i H' => i ≤ cs.length ∧ W H' [(D, .lst ((great (cs.take i)).map V.int)), (g, .lst []), (c, .lst (cs.map V.int))] T') ⟨Nat.zero_le _, w3⟩ (fun i H' hi h => SqL.of (h.2.c c)) (fun i y H' hy h => ?_) (fun H' h => ?_)
        · obtain ⟨hi, w⟩ := h
          rw [List.getElem?_map] at hy
          obtain ⟨z, hz, rfl⟩ := Option.map_eq_some_iff.mp hy
          have hi2 := (List.getElem?_eq_some_iff.mp hz).1
          refine ⟨rfl, _, rfl, _, _, rfl, rfl, ⟨by decide, by decide, by decide⟩, _, _, rfl, rfl, _, rfl, ?_⟩
          have e18 : (10 : Int) ^ (18 : Int).toNat = 10 ^ 18 := rfl
          have hg18 : (great (cs.take i)).length ≤ i := by
            unfold great
            rw [List.length_map]
            refine Nat.le_trans (List.length_filter_le _ _) ?_
            rw [List.length_take]; omega
          by_cases hc : (10 : Int) ^ 18 ≤ z
          · rw [e18, decide_eq_true hc]
            refine iteT ⟨_, rfl, _, _, rfl, rfl, ⟨by decide, by decide⟩, _, w.c D, small1000 (by rw [List.length_map]; omega), hi2, ?_⟩
            have w4 := w.p D (.lst ((great (cs.take i)).map V.int ++ [.int (z / 2)]))
            rw [List.take_add_one, hz]
            have e : great (cs.take i ++ (some z).toList) = great (cs.take i) ++ [z / 2] := by
              unfold great
              rw [Option.toList_some, List.filter_append, List.filter_cons_of_pos (by simpa using hc), List.filter_nil, List.map_append]
              rfl
            rw [e, List.map_append]
            exact w4
          · rw [e18, decide_eq_false hc]
            refine iteF ⟨hi2, ?_⟩
            rw [List.take_add_one, hz]
            have e : great (cs.take i ++ (some z).toList) = great (cs.take i) := by
              unfold great
              rw [Option.toList_some, List.filter_append, List.filter_cons_of_neg (by simpa using hc), List.filter_nil, List.append_nil]
            rw [e]
            exact w
        · obtain ⟨_, w⟩ := h
          rw [List.length_map, List.take_length] at w
          refine ⟨_, rfl, ty_list (w.c D), D, _, rfl, rfl, w.c D, ?_⟩
          have w4 := (w.p D (.lst ((great cs).map V.int).reverse)).x g
          refine hD' _ _ ⟨D, (great cs).reverse, rfl, ?_, fun i hi => ?_, by rw [List.map_reverse]; exact w4⟩
          · rw [List.length_reverse]
            unfold great
            rw [List.length_map]
            have := List.length_filter_le (fun c => decide ((10 : Int) ^ 18 ≤ c)) cs
            omega
          · obtain ⟨j, hj, rfl⟩ := List.mem_map.mp (List.mem_reverse.mp hi)
            have := hnn j ((List.mem_filter.mp hj).1)
            omega
      · rw [decide_eq_false (fun q => hz (by injection q))]
        exact iteF (hD' _ _ ⟨g, [], rfl, by decide, fun i hi => (nomatch hi), w2⟩)
    obtain ⟨g, gs, rfl, hgl, hgp, w3⟩ := y
    clear w2
    refine ⟨_, rfl, _, rfl, c, rfl, ⟨_, SqL.of (w3.c c)⟩, fun D hD => ?_⟩
    have w4 := w3.new hD (.lst [])
    refine lc_list (xs := cs.map V.int) (fun i H' => i ≤ cs.length ∧ W H' [(D, .lst ((rests (cs.take i)).map V.int)), (g, .lst (gs.map V.int)), (c, .lst (cs.map V.int))] T') ⟨Nat.zero_le _, w4⟩ (fun i H' hi h => SqL.of (h.2.c c)) (fun i y H' hy h => ?_) (fun H' h => ?_)
    · obtain ⟨hi, w⟩ := h
      rw [List.getElem?_map] at hy
      obtain ⟨z, hz, rfl⟩ := Option.map_eq_some_iff.mp hy
      have hi2 := (List.getElem?_eq_some_iff.mp hz).1
      refine ⟨rfl, ?_⟩
      dsimp only [tYes]
      rw [if_pos rfl]
      refine ⟨_, rfl, .inl ⟨_, rfl, _, _, rfl, rfl, (by show (0 : Int) < 2147483647; decide), _, w.c D, small1000 (by unfold rests; simp; omega), hi2, ?_⟩⟩
      have w5 := w.p D (.lst ((rests (cs.take i)).map V.int ++ [.int (z % 2147483647)]))
      rw [List.take_add_one, hz]
      unfold rests at w5 ⊢
      simpa using w5
    · obtain ⟨_, w⟩ := h
      rw [List.length_map, List.take_length] at w
      refine ⟨by show 4 ≤ sizeLine; decide, fun b hb => ?_⟩
      have w5 := w.new hb (.lst [.int 0, .int 0, .ref g, .ref D])
      have hrl : (rests cs).length = ns.length + 1 := by unfold rests; rw [List.length_map]; exact hcl
      refine kk ⟨b, g, D⟩ _ ⟨0, 0, gs, rests cs, ⟨Int.le_refl _, Int.le_refl _, by decide, hgl, by omega, by omega, hgp, fun i hi => ?_⟩, (w5.x c).k [b, g, D]⟩
      obtain ⟨j, _, rfl⟩ := List.mem_map.mp hi
      exact ⟨Int.emod_nonneg _ (by decide), Int.emod_lt_of_pos _ (by decide)⟩
end
end Su


set_option Elab.async false
set_option linter.all false
set_option maxRecDepth 100000
set_option maxHeartbeats 2000000
set_option synthInstance.maxSize 100000
set_option synthInstance.maxHeartbeats 2000000
/-! the same; trip, room, own ticks -/
namespace Su
open PySem PySem.Spec PyProof.Rows L2
def spSameI : Sp := fun vs H Q _ => ∃ i : Int, vs = [.int i, .int i] ∧ Q (.bl true) H
def spSame : Sp := fun vs H Q _ => ∃ (p q : Addr) (xs : List Int), vs = [.ref p, .ref q] ∧ H p = some (.tup (xs.map V.int)) ∧ H q = some (.tup (xs.map V.int)) ∧ xs.length ≤ 1000 ∧ Q (.bl true) H
def spUp : Sp := fun vs H Q _ => ∃ (p : Addr) (a b : Int), vs = [.ref p] ∧ H p = some (.tup [.int a, .int b]) ∧ 0 < b ∧ b < 1073741824 ∧ Q (.int (0 - ((0 - a) / b))) H
def tripF (lo rate gap most : Int) : Int := if rate ≤ gap ∨ most = 1 then 2 * lo + rate else most * rate + (if 2 * lo - (most - 1) * gap > 0 then 2 * lo - (most - 1) * gap else 0)
def roomF (lo rate gap most : Int) : Int := 0 - ((0 - (tripF lo rate gap most - 2 * lo)) / rate)
def spTripL : Sp := fun vs H Q _ => ∃ (c : Cf) (b qt : Addr) (M : List Cell) (T : List As), vs = [.ref b, .ref qt] ∧ W H M T ∧ (bkA c b).φ H ∧ (quA c qt).φ H ∧ Sml c.lo ∧ Sml c.rate ∧ Sml c.gap ∧ Sml c.most ∧ ∀ H', W H' M T → Q (.int (tripF c.lo c.rate c.gap c.most)) H'
def spRoomL : Sp := fun vs H Q _ => ∃ (c : Cf) (b qt : Addr) (M : List Cell) (T : List As), vs = [.ref b, .ref qt] ∧ W H M T ∧ (bkA c b).φ H ∧ (quA c qt).φ H ∧ Sml c.lo ∧ Sml c.rate ∧ Sml c.gap ∧ Sml c.most ∧ 0 < c.rate ∧ ∀ H', W H' M T → Q (.int (roomF c.lo c.rate c.gap c.most)) H'
section
variable {P : Program} {w : World} {K : PySem.W.Frag} {mg : Str → Option Value} {base : Heap}
theorem sc_L_same : FnScope ["found", "due", "k"] ["found", "due"] (defScope s_L_same) := ⟨rfl, rfl, rfl, by decide +kernel, rfl, by decide +kernel, by decide +kernel⟩
theorem ok_L_same_int (T : Tp K mg base) : Def P w K mg base (.glo "_law_same") ["found", "due"] 1 spSameI := by
  refine def_mk T.f_L_same sc_L_same (fun vs H Q E h => ?_) (fun _ _ _ _ _ _ us hl => match us, hl with | [_, _], _ => rfl) (fun cdv A outer s H vs Q E hr h => ?_)
  · obtain ⟨i, rfl, _⟩ := h; rfl
  · obtain ⟨i, rfl, kk⟩ := h
    refine ⟨_, pss_cons (ps_if (pt_cmpR op_isN (pv 1) pe_non (nomark _)) pss_never pss_nil)
      (pss_cons (ps_if (PW.pt (pw_or (pt_val (pe_callB call_isi rfl T.b_isinstance (by decide +kernel) (pa_cons (pv 1) (pa_cons (pe_bltn (v := .ty "bool") rfl T.b_bool (by decide +kernel) rfl) pa_nil)))) (pw_or1 (pt_val (pe_callB call_isi rfl T.b_isinstance (by decide +kernel) (pa_cons (pv 0) (pa_cons (pe_bltn (v := .ty "bool") rfl T.b_bool (by decide +kernel) rfl) pa_nil))))))) pss_never pss_nil)
      (pss_cons (ps_if (pt_val (pe_callB call_isi rfl T.b_isinstance (by decide +kernel) (pa_cons (pv 1) (pa_cons (pe_bltn (v := .ty "int") rfl T.b_int (by decide +kernel) rfl) pa_nil))))
        (pss_one (ps_ret (pe_and (pe_callB call_isi rfl T.b_isinstance (by decide +kernel) (pa_cons (pv 0) (pa_cons (pe_bltn (v := .ty "int") rfl T.b_int (by decide +kernel) rfl) pa_nil))) (pe_one (pe_cmpR op_eq (pv 0) (pv 1) (nomark _)))))) pss_nil)
      pss_never)), ?_⟩
    have tI : TyX K H (.int i) (.type "int") := .base (.int i)
    have eb : PySem.W.kitOne K (.type "int") (.type "bool") = some false := kit_ty (by decide +kernel)
    have ei : PySem.W.kitOne K (.type "int") (.type "int") = some true := kit_ty (by decide +kernel)
    refine ⟨_, rfl, rfl, _, rfl, iteF ?_⟩
    refine ⟨_, rfl, ⟨_, _, _, _, false, rfl, .ty _, tI, eb, _, rfl, iteF ⟨_, rfl, ⟨_, _, _, _, false, rfl, .ty _, tI, eb, _, rfl, iteF ?_⟩⟩⟩⟩
    refine ⟨_, rfl, ⟨_, _, _, _, true, rfl, .ty _, tI, ei, _, rfl, iteT ⟨_, rfl, ⟨_, _, _, _, true, rfl, .ty _, tI, ei, _, rfl, iteT ⟨_, rfl, _, rfl, rfl, ?_⟩⟩⟩⟩⟩
    rw [decide_eq_true rfl]
    exact kk
theorem ok_L_same (T : Tp K mg base) : Def P w K mg base (.glo "_law_same") ["found", "due"] 2 spSame := by
  refine def_mk T.f_L_same sc_L_same (fun vs H Q E h => ?_) (fun _ _ _ _ _ _ us hl => match us, hl with | [_, _], _ => rfl) (fun cdv A outer s H vs Q E hr h => ?_)
  · obtain ⟨p, q, xs, rfl, _⟩ := h; rfl
  · obtain ⟨p, q, xs, rfl, hp, hq, hl, kk⟩ := h
    have nd := sc_L_same.nd
    refine ⟨_, pss_cons (ps_if (pt_cmpR op_isN (pv 1) pe_non (nomark _)) pss_never pss_nil)
      (pss_cons (ps_if (PW.pt (pw_or (pt_val (pe_callB call_isi rfl T.b_isinstance (by decide +kernel) (pa_cons (pv 1) (pa_cons (pe_bltn (v := .ty "bool") rfl T.b_bool (by decide +kernel) rfl) pa_nil)))) (pw_or1 (pt_val (pe_callB call_isi rfl T.b_isinstance (by decide +kernel) (pa_cons (pv 0) (pa_cons (pe_bltn (v := .ty "bool") rfl T.b_bool (by decide +kernel) rfl) pa_nil))))))) pss_never pss_nil)
      (pss_cons (ps_if (pt_val (pe_callB call_isi rfl T.b_isinstance (by decide +kernel) (pa_cons (pv 1) (pa_cons (pe_bltn (v := .ty "int") rfl T.b_int (by decide +kernel) rfl) pa_nil)))) pss_never pss_nil)
      (pss_cons (ps_if (pt_val (pe_callB call_isi rfl T.b_isinstance (by decide +kernel) (pa_cons (pv 1) (pa_cons (pe_bltn (v := .ty "str") rfl T.b_str (by decide +kernel) rfl) pa_nil)))) pss_never pss_nil)
      (pss_cons (ps_if (PW.pt (pw_or (pt_not (pt_val (pe_callB call_isi rfl T.b_isinstance (by decide +kernel) (pa_cons (pv 1) (pa_cons (pe_bltn (v := .ty "tuple") rfl T.b_tuple (by decide +kernel) rfl) pa_nil))))) (pw_or (pt_not (pt_val (pe_callB call_isi rfl T.b_isinstance (by decide +kernel) (pa_cons (pv 0) (pa_cons (pe_bltn (v := .ty "tuple") rfl T.b_tuple (by decide +kernel) rfl) pa_nil))))) (pw_or1 (pt_cmpR op_ne (pe_callB call_len_seq rfl T.b_len boot_len (pa_cons (pv 0) pa_nil)) (pe_callB call_len_seq rfl T.b_len boot_len (pa_cons (pv 1) pa_nil)) (nomark _)))))) pss_never pss_nil)
      (pss_cons (ps_for PassesOwn.never rfl (pi_range1 rfl T.b_range (pa_cons (pe_callB call_len_seq rfl T.b_len boot_len (pa_cons (pv 1) pa_nil)) pa_nil)) (pg_name (i := 2) nd rfl (.inl rfl))
        (pss_one (ps_if (pt_not (pt_val (pe_d (ok_L_same_int T) hr T.g_law_same (pa_cons (pe_ix ix_tup (pv 0) (pv 2) (fun _ _ => rfl)) (pa_cons (pe_ix ix_tup (pv 1) (pv 2) (fun _ _ => rfl)) pa_nil))))) pss_never pss_nil)))
      (pss_one (ps_ret pe_bl))))))), ?_⟩
    have tq : TyX K H (.ref q) (.type "tuple") := .base (.tup hq)
    have tp : TyX K H (.ref p) (.type "tuple") := .base (.tup hp)
    have eb : PySem.W.kitOne K (.type "tuple") (.type "bool") = some false := kit_ty (by decide +kernel)
    have ei : PySem.W.kitOne K (.type "tuple") (.type "int") = some false := kit_ty (by decide +kernel)
    have es : PySem.W.kitOne K (.type "tuple") (.type "str") = some false := kit_ty (by decide +kernel)
    have et : PySem.W.kitOne K (.type "tuple") (.type "tuple") = some true := kit_ty (by decide +kernel)
    refine ⟨_, rfl, rfl, _, rfl, iteF ?_⟩
    refine ⟨_, rfl, ⟨_, _, _, _, false, rfl, .ty _, tq, eb, _, rfl, iteF ⟨_, rfl, ⟨_, _, _, _, false, rfl, .ty _, tp, eb, _, rfl, iteF ?_⟩⟩⟩⟩
    refine ⟨_, rfl, ⟨_, _, _, _, false, rfl, .ty _, tq, ei, _, rfl, iteF ?_⟩⟩
    refine ⟨_, rfl, ⟨_, _, _, _, false, rfl, .ty _, tq, es, _, rfl, iteF ?_⟩⟩
    refine ⟨_, rfl, ⟨_, _, _, _, true, rfl, .ty _, tq, et, _, rfl, iteF ⟨_, rfl, ⟨_, _, _, _, true, rfl, .ty _, tp, et, _, rfl, iteF ?_⟩⟩⟩⟩
    refine ⟨_, rfl, p, _, rfl, .inr (SqT.of hp), _, rfl, q, _, rfl, .inr (SqT.of hq), rfl, _, rfl, ?_⟩
    rw [decide_eq_true rfl]
    refine iteF ⟨_, rfl, q, _, rfl, .inr (SqT.of hq), _, rfl, ?_⟩
    rw [List.length_map]
    refine ⟨by omega, by omega, ?_⟩
    rw [show ((xs.length : Nat) : Int).toNat = xs.length from by omega]
    refine for_range (lo := 0) (n := xs.length) (fun i σ H' => H' = H ∧ ∃ n, σ = [some (.ref p), some (.ref q), n]) ⟨rfl, none, rfl⟩ (fun i σ H' hi h => ?_) (fun σ H' h => ?_)
    · obtain ⟨rfl, n, rfl⟩ := h
      rw [show (0 : Int) + (i : Int) = i from Int.zero_add _]
      have e : atI (xs.map V.int) (i : Int) = some (.int xs[i]) := atI_nat (by rw [List.getElem?_map, List.getElem?_eq_getElem hi]; rfl)
      exact ⟨_, rfl, _, rfl, p, _, _, _, rfl, rfl, SqT.of hp, e, _, rfl, _, rfl, q, _, _, _, rfl, rfl, SqT.of hq, e, xs[i], rfl, _, rfl, iteF ⟨rfl, _, rfl⟩⟩
    · obtain ⟨rfl, n, rfl⟩ := h
      exact kk
theorem sc_L_up : FnScope ["a"] ["a"] (defScope s_L_up) := ⟨rfl, rfl, rfl, by decide +kernel, rfl, by decide +kernel, by decide +kernel⟩
theorem ok_L_up (T : Tp K mg base) : Def P w K mg base (.glo "_law_up") ["a"] 1 spUp := by
  refine def_mk T.f_L_up sc_L_up (fun vs H Q E h => ?_) (fun _ _ _ _ _ _ us hl => match us, hl with | [_], _ => rfl) (fun cdv A outer s H vs Q E hr h => ?_)
  · obtain ⟨p, a, b, rfl, _⟩ := h; rfl
  · obtain ⟨p, a, b, rfl, hp, hb0, hb1, kk⟩ := h
    refine ⟨_, pss_one (ps_ret (pe_op op_sub pe_int (pe_op op_fdiv (pe_op op_sub pe_int (pe_ix ix_tup (pv 0) pe_int (fun _ _ => rfl))) (pe_ix ix_tup (pv 0) pe_int (fun _ _ => rfl))))), ?_⟩
    exact r_ixT rfl hp rfl ⟨_, _, rfl, rfl, r_ixT rfl hp rfl ⟨_, _, rfl, rfl, ⟨hb0, hb1⟩, _, _, rfl, rfl, kk⟩⟩
theorem sc_L_trip : FnScope ["book", "queue", "lo", "rate"] ["book", "queue"] (defScope s_L_trip) := ⟨rfl, rfl, rfl, by decide +kernel, rfl, by decide +kernel, by decide +kernel⟩
theorem ok_L_trip (T : Tp K mg base) : Def P w K mg base (.glo "_law_trip") ["book", "queue"] 1 spTripL := by
  refine def_mk T.f_L_trip sc_L_trip (fun vs H Q E h => ?_) (fun _ _ _ _ _ _ us hl => match us, hl with | [_, _], _ => rfl) (fun cdv A outer s H vs Q E hr h => ?_)
  · obtain ⟨c, b, qt, M, T', rfl, _⟩ := h; rfl
  · obtain ⟨c, b, qt, M, T', rfl, w0, hb, hq, h1, h2, h3, h4, kk⟩ := h
    unfold Sml at h1 h2 h3 h4
    have nd := sc_L_trip.nd
    refine ⟨_, pss_cons (ps_asg (pe_slice sl_tup (pv 1) po_none (po_some pe_int)) (pg_tup (n := 2) rfl (pgs_cons (pg_name (i := 2) nd rfl (.inl rfl)) (pgs_cons (pg_name (i := 3) nd rfl (.inl rfl)) pgs_nil))))
      (pss_cons (ps_if (PW.pt (pw_or (pt_cmpR op_ge (pe_ix ix_tup (pv 0) pe_int (fun _ _ => rfl)) (pv 3) (nomark _)) (pw_or1 (pt_cmpR op_eq (pe_ix ix_tup (pv 0) pe_int (fun _ _ => rfl)) pe_int (nomark _)))))
        (pss_one (ps_ret (pe_op op_add (pe_op op_mul pe_int (pv 2)) (pv 3)))) pss_nil)
      (pss_one (ps_ret (pe_op op_add (pe_op op_mul (pe_ix ix_tup (pv 0) pe_int (fun _ _ => rfl)) (pv 3)) (pe_callB (call_max2 rfl) rfl T.b_max (by decide +kernel) (pa_cons pe_int (pa_cons (pe_op op_sub (pe_op op_mul pe_int (pv 2)) (pe_op op_mul (pe_op op_sub (pe_ix ix_tup (pv 0) pe_int (fun _ _ => rfl)) pe_int) (pe_ix ix_tup (pv 0) pe_int (fun _ _ => rfl)))) pa_nil))))))), ?_⟩
    let TT : List As := bkA c b :: quA c qt :: T'
    have w1 : W H M TT := (w0.say (quA c qt) hq).say (bkA c b) hb
    refine seq_mid (fun σ H => σ = [some (.ref b), some (.ref qt), some (.int c.lo), some (.int c.rate)] ∧ W H M TT) (fun σ H y => ?tail1) (fun D' hD' _ => ?stmt1)
    case stmt1 =>
      refine ⟨_, rfl, _, rfl, qt, _, rfl, SqT.of (w1.f (quA c qt)), (fun h => absurd h.2 (by show ¬ (2 : Nat) = 3; decide)), fun p hp => ?_⟩
      have w2 := w1.newT hp [.int c.lo, .int c.rate]
      exact ⟨p, [.int c.lo, .int c.rate], rfl, SqT.of (w2.f (tupA p [.int c.lo, .int c.rate])), rfl, _, _, rfl, _, _, rfl, rfl, hD' _ _ ⟨rfl, W.e0 (T := TT) w2⟩⟩
    obtain ⟨rfl, w2⟩ := y
    clear w1
    obtain ⟨b0, b4, ls, b10, th, cu, hb⟩ := w2.f (bkA c b)
    have w3 : W H M T' := W.e0 (T := T') w2
    refine r_ixT rfl hb rfl ⟨_, rfl, _, _, rfl, rfl, _, rfl, ?_⟩
    by_cases g1 : c.rate ≤ c.gap
    · rw [decide_eq_true g1]
      refine iteT (iteT ⟨_, rfl, _, _, rfl, rfl, .inl ⟨by decide, by decide⟩, _, rfl, _, _, rfl, rfl, ?_⟩)
      have e : tripF c.lo c.rate c.gap c.most = 2 * c.lo + c.rate := by unfold tripF; rw [if_pos (.inl g1)]
      show Q (V.int (2 * c.lo + c.rate)) H
      rw [← e]; exact kk _ w3
    · rw [decide_eq_false g1]
      refine iteF (r_ixT rfl hb rfl ⟨rfl, _, rfl, ?_⟩)
      by_cases g2 : c.most = 1
      · rw [decide_eq_true (by rw [g2])]
        refine iteT ⟨_, rfl, _, _, rfl, rfl, .inl ⟨by decide, by decide⟩, _, rfl, _, _, rfl, rfl, ?_⟩
        have e : tripF c.lo c.rate c.gap c.most = 2 * c.lo + c.rate := by unfold tripF; rw [if_pos (.inr g2)]
        show Q (V.int (2 * c.lo + c.rate)) H
        rw [← e]; exact kk _ w3
      · rw [decide_eq_false (fun q => g2 (by injection q))]
        refine iteF (r_ixT rfl hb rfl ⟨_, rfl, _, _, rfl, rfl, .inl ⟨by omega, by omega⟩, _, rfl, _, _, rfl, rfl, .inl ⟨by decide, by decide⟩, r_ixT rfl hb rfl ⟨_, _, rfl, rfl, r_ixT rfl hb rfl ⟨_, _, rfl, rfl, .inl ⟨by omega, by omega⟩, _, _, rfl, rfl, _, _, rfl, _, _, rfl, rfl, ?_⟩⟩⟩)
        have e : tripF c.lo c.rate c.gap c.most = c.most * c.rate + (if 2 * c.lo - (c.most - 1) * c.gap > 0 then 2 * c.lo - (c.most - 1) * c.gap else 0) := by unfold tripF; rw [if_neg (fun q => q.elim g1 g2)]
        show Q (V.int (c.most * c.rate + (if 2 * c.lo - (c.most - 1) * c.gap > 0 then 2 * c.lo - (c.most - 1) * c.gap else 0))) H
        rw [← e]; exact kk _ w3
theorem sc_L_room : FnScope ["book", "queue"] ["book", "queue"] (defScope s_L_room) := ⟨rfl, rfl, rfl, by decide +kernel, rfl, by decide +kernel, by decide +kernel⟩
theorem ok_L_room (T : Tp K mg base) : Def P w K mg base (.glo "_law_room") ["book", "queue"] 2 spRoomL := by
  refine def_mk T.f_L_room sc_L_room (fun vs H Q E h => ?_) (fun _ _ _ _ _ _ us hl => match us, hl with | [_, _], _ => rfl) (fun cdv A outer s H vs Q E hr h => ?_)
  · obtain ⟨c, b, qt, M, T', rfl, _⟩ := h; rfl
  · obtain ⟨c, b, qt, M, T', rfl, w0, hb, hq, h1, h2, h3, h4, h5, kk⟩ := h
    refine ⟨_, pss_one (ps_ret (pe_d (ok_L_up T) hr T.g_law_up (pa_cons (pe_tup (pa_cons (pe_op op_sub (pe_d (ok_L_trip T) hr T.g_law_trip (pa_cons (pv 0) (pa_cons (pv 1) pa_nil))) (pe_op op_mul pe_int (pe_ix ix_tup (pv 1) pe_int (fun _ _ => rfl)))) (pa_cons (pe_ix ix_tup (pv 1) pe_int (fun _ _ => rfl)) pa_nil))) pa_nil))), ?_⟩
    let TT : List As := quA c qt :: T'
    have w1 : W H M TT := w0.say (quA c qt) hq
    refine ⟨_, rfl, _, rfl, c, b, qt, M, TT, rfl, w1, hb, hq, h1, h2, h3, h4, fun H1 w2 => ?_⟩
    refine r_ixT rfl (w2.f (quA c qt)) rfl ⟨_, _, rfl, rfl, .inl ⟨by decide, by decide⟩, _, _, rfl, rfl, r_ixT rfl (w2.f (quA c qt)) rfl ⟨two_le, fun p hp => ?_⟩⟩
    have w3 := w2.newT hp [.int (tripF c.lo c.rate c.gap c.most - 2 * c.lo), .int c.rate]
    unfold Sml at h2
    exact ⟨p, _, _, rfl, w3.f (tupA p [.int (tripF c.lo c.rate c.gap c.most - 2 * c.lo), .int c.rate]), h5, by omega, kk _ (W.e0 (T := T') w3)⟩
theorem sc_L_own_ticks : FnScope ["book", "queue", "many", "lo", "rate", "trip", "most", "step", "n"] ["book", "queue", "many"] (defScope s_L_own_ticks) := ⟨rfl, rfl, rfl, by decide +kernel, rfl, by decide +kernel, by decide +kernel⟩
theorem ok_L_own_ticks (T : Tp K mg base) : Def P w K mg base (.glo "_law_own_ticks") ["book", "queue", "many"] 2 spTicks := by
  refine def_mk T.f_L_own_ticks sc_L_own_ticks (fun vs H Q E h => ?_) (fun _ _ _ _ _ _ us hl => match us, hl with | [_, _, _], _ => rfl) (fun cdv A outer s H vs Q E hr h => ?_)
  · obtain ⟨c, b, qt, many, M, T', rfl, _⟩ := h; rfl
  · obtain ⟨c, b, qt, many, M, T', rfl, w0, hb0, hq, hm, h1, h2, h3, h4, h5, k⟩ := h
    unfold Sml at h1 h2 h3 h5
    have nd := sc_L_own_ticks.nd
    refine ⟨_, pss_cons (ps_asg (pe_slice sl_tup (pv 1) po_none (po_some pe_int)) (pg_tup (n := 2) rfl (pgs_cons (pg_name (i := 3) nd rfl (.inr rfl)) (pgs_cons (pg_name (i := 4) nd rfl (.inr rfl)) pgs_nil))))
      (pss_cons (ps_asg (pe_tup (pa_cons (pe_op op_add (pe_op op_mul pe_int (pv 3)) (pv 4)) (pa_cons (pe_ix ix_tup (pv 0) pe_int (fun _ _ => rfl)) (pa_cons (pe_callB (call_max2 rfl) rfl T.b_max (by decide +kernel) (pa_cons (pe_ix ix_tup (pv 0) pe_int (fun _ _ => rfl)) (pa_cons (pv 4) pa_nil))) pa_nil)))) (pg_tup (n := 3) rfl (pgs_cons (pg_name (i := 5) nd rfl (.inr rfl)) (pgs_cons (pg_name (i := 6) nd rfl (.inr rfl)) (pgs_cons (pg_name (i := 7) nd rfl (.inr rfl)) pgs_nil)))))
      (pss_cons (ps_if (pt_cmpR op_le (pv 5) (pe_op op_mul (pv 6) (pv 7)) (nomark _))
        (pss_one (ps_ret (pe_callTy call_tuple_of rfl T.b_tuple (by decide +kernel) (pa_cons (pe_lc (own := [("n", 8)]) (g := gName 8) (tt := tYes) (te := tOp (rI0 fun i j => .int (i + j)) (tOp (rI0 fun i j => .int (i + j)) (tVar 3) (tVar 4)) (tOp (rI CMul fun i j => .int (i * j)) (tVar 8) (tVar 7))) rfl nd (pi_range1 rfl T.b_range (pa_cons (pv 2) pa_nil)) (blkOk_by (N := ["book", "queue", "many", "lo", "rate", "trip", "most", "step", "n"]) (sc := defScope s_L_own_ticks) (by decide +kernel)) (fun _ _ _ _ _ => pg_name (i := 8) nd rfl (.inl rfl)) (fun _ _ _ _ _ => pts_nil) (fun _ _ _ _ _ => pe_op op_add (pe_op op_add (pv 3) (pv 4)) (pe_op op_mul (pv 8) (pv 7)))) pa_nil)))) pss_nil)
      (pss_one (ps_ret (pe_callTy call_tuple_of rfl T.b_tuple (by decide +kernel) (pa_cons (pe_lc (own := [("n", 8)]) (g := gName 8) (tt := tYes) (te := tOp (rI0 fun i j => .int (i + j)) (tOp (rI0 fun i j => .int (i + j)) (tOp (rI0 fun i j => .int (i + j)) (tVar 3) (tVar 4)) (tOp (rI CMul fun i j => .int (i * j)) (tOp (rI CDiv fun i j => .int (i / j)) (tVar 8) (tVar 6)) (tVar 5))) (tOp (rI CMul fun i j => .int (i * j)) (tOp (rI (fun _ j => 0 < j) fun i j => .int (i % j)) (tCB rInt1 (tCons (tVar 8) tNil)) (tVar 6)) (tVar 7))) rfl nd (pi_range1 rfl T.b_range (pa_cons (pv 2) pa_nil)) (blkOk_by (N := ["book", "queue", "many", "lo", "rate", "trip", "most", "step", "n"]) (sc := defScope s_L_own_ticks) (by decide +kernel)) (fun _ _ _ _ _ => pg_name (i := 8) nd rfl (.inl rfl)) (fun _ _ _ _ _ => pts_nil) (fun _ _ _ _ _ => pe_op op_add (pe_op op_add (pe_op op_add (pv 3) (pv 4)) (pe_op op_mul (pe_op op_fdiv (pv 8) (pv 6)) (pv 5))) (pe_op op_mul (pe_op op_mod (pe_callTy call_int1 rfl T.b_int (by decide +kernel) (pa_cons (pv 8) pa_nil)) (pv 6)) (pv 7)))) pa_nil)))))), ?_⟩
    let TT : List As := bkA c b :: quA c qt :: T'
    have w1 : W H M TT := (w0.say (quA c qt) hq).say (bkA c b) hb0
    let each : Int := if c.rate > c.gap then c.rate else c.gap
    refine seq_mid (fun σ H => σ = [some (.ref b), some (.ref qt), some (.int many), some (.int c.lo), some (.int c.rate), none, none, none, none] ∧ W H M TT) (fun σ H y => ?tail1) (fun D' hD' _ => ?stmt1)
    case stmt1 =>
      refine ⟨_, rfl, _, rfl, qt, _, rfl, SqT.of (w1.f (quA c qt)), (fun h => absurd h.2 (by show ¬ (2 : Nat) = 3; decide)), fun p hp => ?_⟩
      have w2 := w1.newT hp [.int c.lo, .int c.rate]
      exact ⟨p, [.int c.lo, .int c.rate], rfl, SqT.of (w2.f (tupA p [.int c.lo, .int c.rate])), rfl, _, _, rfl, _, _, rfl, rfl, hD' _ _ ⟨rfl, W.e0 (T := TT) w2⟩⟩
    obtain ⟨rfl, w2⟩ := y
    clear w1
    refine seq_mid (fun σ H => σ = [some (.ref b), some (.ref qt), some (.int many), some (.int c.lo), some (.int c.rate), some (.int (2 * c.lo + c.rate)), some (.int c.most), some (.int each), none] ∧ W H M TT) (fun σ H y => ?tail2) (fun D' hD' _ => ?stmt2)
    case stmt2 =>
      obtain ⟨b0, b4, ls, b10, th, cu, hb⟩ := w2.f (bkA c b)
      refine ⟨_, rfl, _, _, rfl, rfl, .inl ⟨by decide, by decide⟩, _, rfl, _, _, rfl, rfl, r_ixT rfl hb rfl (r_ixT rfl hb rfl ⟨_, rfl, _, _, rfl, by show 3 ≤ sizeLine; decide, fun p hp => ?_⟩)⟩
      have w3 := w2.newT hp [.int (2 * c.lo + c.rate), .int c.most, .int each]
      exact ⟨p, [.int (2 * c.lo + c.rate), .int c.most, .int each], rfl, SqT.of (w3.f (tupA p [.int (2 * c.lo + c.rate), .int c.most, .int each])), rfl, _, _, rfl, _, _, rfl, _, _, rfl, rfl, hD' _ _ ⟨rfl, W.e0 (T := TT) w3⟩⟩
    obtain ⟨rfl, w3⟩ := y
    clear w2
    have he : -2097152 < each ∧ each < 2097152 := by show -2097152 < (if c.rate > c.gap then c.rate else c.gap) ∧ (if c.rate > c.gap then c.rate else c.gap) < 2097152; split <;> omega
    refine ⟨_, rfl, _, rfl, _, rfl, _, _, rfl, rfl, .inl ⟨by omega, by omega⟩, _, _, rfl, rfl, _, rfl, ?_⟩
    by_cases hc : 2 * c.lo + c.rate ≤ c.most * each
    · rw [decide_eq_true hc]
      refine iteT ⟨_, rfl, _, rfl, by omega, by omega, fun D hD => ?_⟩
      rw [show ((many : Int)).toNat = many from by omega]
      have w4 := w3.new hD (.lst [])
      refine lc_range (lo := 0) (n := many) (fun i H => W H ((D, .lst (lF i fun n => .int (tickF c.lo c.rate c.gap c.most n))) :: M) TT) w4 (fun i H hi w => ?_) (fun H w => ?_)
      · rw [show (0 : Int) + (i : Int) = i from Int.zero_add _]
        refine ⟨rfl, ?_⟩
        dsimp only [tYes]
        rw [if_pos rfl]
        refine ⟨_, rfl, _, rfl, _, _, rfl, rfl, _, rfl, _, rfl, _, _, rfl, rfl, .inl ⟨by omega, by omega⟩, _, _, rfl, rfl, _, w.c D, small1000 (by rw [lF_len]; omega), ?_⟩
        have e : lF i (fun n => .int (tickF c.lo c.rate c.gap c.most n)) ++ [V.int (c.lo + c.rate + (i : Int) * each)] = lF (i + 1) fun n => .int (tickF c.lo c.rate c.gap c.most n) := lF_snoc (fun _ _ => rfl) (by show V.int (tickF _ _ _ _ _) = _; unfold tickF; rw [if_pos hc])
        rw [e]
        exact w.p D (.lst (lF (i + 1) fun n => .int (tickF c.lo c.rate c.gap c.most n)))
      · refine ⟨D, _, rfl, .inl ⟨SqL.of (w.c D), fun p hp => ?_⟩⟩
        have w6 := (w.newT hp (lF many fun n => .int (tickF c.lo c.rate c.gap c.most n))).x D
        exact k p _ (W.e (T := T') w6 (tupA p (lF many fun n => .int (tickF c.lo c.rate c.gap c.most n))) (w6.f _))
    · rw [decide_eq_false hc]
      refine iteF ⟨_, rfl, _, rfl, by omega, by omega, fun D hD => ?_⟩
      rw [show ((many : Int)).toNat = many from by omega]
      have w4 := w3.new hD (.lst [])
      refine lc_range (lo := 0) (n := many) (fun i H => W H ((D, .lst (lF i fun n => .int (tickF c.lo c.rate c.gap c.most n))) :: M) TT) w4 (fun i H hi w => ?_) (fun H w => ?_)
      · rw [show (0 : Int) + (i : Int) = i from Int.zero_add _]
        refine ⟨rfl, ?_⟩
        dsimp only [tYes]
        rw [if_pos rfl]
        refine ⟨_, rfl, _, rfl, _, _, rfl, rfl, _, rfl, _, rfl, _, _, rfl, rfl, ⟨h4, by omega⟩, _, rfl, _, _, rfl, rfl, .inr ⟨by omega, by omega⟩, _, _, rfl, rfl, _, rfl, .inl ⟨_, rfl, _, rfl, _, _, rfl, rfl, h4, _, rfl, _, _, rfl, rfl, .inr ⟨by omega, by omega⟩, _, _, rfl, rfl, _, w.c D, small1000 (by rw [lF_len]; omega), ?_⟩⟩
        have e : lF i (fun n => .int (tickF c.lo c.rate c.gap c.most n)) ++ [V.int (c.lo + c.rate + (i : Int) / c.most * (2 * c.lo + c.rate) + (i : Int) % c.most * each)] = lF (i + 1) fun n => .int (tickF c.lo c.rate c.gap c.most n) := lF_snoc (fun _ _ => rfl) (by show V.int (tickF _ _ _ _ _) = _; unfold tickF; rw [if_neg hc])
        rw [e]
        exact w.p D (.lst (lF (i + 1) fun n => .int (tickF c.lo c.rate c.gap c.most n)))
      · refine ⟨D, _, rfl, .inl ⟨SqL.of (w.c D), fun p hp => ?_⟩⟩
        have w6 := (w.newT hp (lF many fun n => .int (tickF c.lo c.rate c.gap c.most n))).x D
        exact k p _ (W.e (T := T') w6 (tupA p (lF many fun n => .int (tickF c.lo c.rate c.gap c.most n))) (w6.f _))
end
end Su


set_option Elab.async false
set_option linter.all false
set_option maxRecDepth 100000
set_option maxHeartbeats 2000000
set_option synthInstance.maxSize 100000
set_option synthInstance.maxHeartbeats 2000000
/-! a book, a queue are drawn -/
namespace Su
open PySem PySem.Spec PyProof.Rows L2
section
variable {x : BgA} {n m : Nat} {M M' : List Cell} {T T' : List As} {H H' : Hp} {p : Addr} {o : HO} {xs : List V}
theorem Bag.drop (h : Bag x n M T H) (hp : H p = none) (o : HO) : Bag x n M T (upd H p o) := by
  obtain ⟨u, k, gs, rs, hB, w⟩ := h
  exact ⟨u, k, gs, rs, hB, w.drop hp o⟩
theorem Bag.newL (h : Bag x n M T H) (hp : H p = none) (xs : List V) : Bag x n ((p, .lst xs) :: M) T (upd H p (.lst xs)) := by
  obtain ⟨u, k, gs, rs, hB, w⟩ := h
  exact ⟨u, k, gs, rs, hB, (w.new hp (.lst xs)).k [x.b, x.g, x.r]⟩
theorem Bag.newT (h : Bag x n M T H) (hp : H p = none) (xs : List V) : Bag x n M (tupA p xs :: T) (upd H p (.tup xs)) := by
  obtain ⟨u, k, gs, rs, hB, w⟩ := h
  exact ⟨u, k, gs, rs, hB, w.newT hp xs⟩
theorem Bag.rm (h : Bag x n ((p, o) :: M) T H) : Bag x n M T H := by
  obtain ⟨u, k, gs, rs, hB, w⟩ := h
  exact ⟨u, k, gs, rs, hB, w.x p (h := ⟨by
    have q : ((p, o) :: (bgM x u k gs rs M)).Perm (bgM x u k gs rs ((p, o) :: M)) := (List.perm_middle (l₁ := [(x.b, HO.lst [.int u, .int k, .ref x.g, .ref x.r]), (x.g, .lst (gs.map V.int)), (x.r, .lst (rs.map V.int))])).symm
    exact q⟩)⟩
theorem Bag.say (h : Bag x n M T H) (φ : As) (q : φ.φ H) : Bag x n M (φ :: T) H := by
  obtain ⟨u, k, gs, rs, hB, w⟩ := h
  exact ⟨u, k, gs, rs, hB, w.say φ q⟩
theorem Bag.sub (h : Bag x n M T H) (s : ∀ φ ∈ T', φ ∈ T) : Bag x n M T' H := by
  obtain ⟨u, k, gs, rs, hB, w⟩ := h
  exact ⟨u, k, gs, rs, hB, w.sub s⟩
theorem Bag.f (h : Bag x n M T H) (φ : As) [i : InT φ T] : φ.φ H := by
  obtain ⟨u, k, gs, rs, hB, w⟩ := h
  exact w.f φ
theorem Bag.hd (h : Bag x n ((p, o) :: M) T H) : H p = some o := by
  obtain ⟨u, k, gs, rs, hB, w⟩ := h
  exact w.at_ (p, o) (by simp)
theorem Bag.put (h : Bag x n ((p, .lst xs) :: M) T H) (ys : List V) : Bag x n ((p, .lst ys) :: M) T (upd H p (.lst ys)) := by
  obtain ⟨u, k, gs, rs, hB, w⟩ := h
  exact ⟨u, k, gs, rs, hB, w.set 3 (o := .lst xs) rfl rfl (.lst ys) rfl⟩
theorem Bag.ww (h : Bag x n M T H) : ∃ M', W H M' T ∧ ∀ H' T', W H' M' T' → Bag x n M T' H' := by
  obtain ⟨u, k, gs, rs, hB, w⟩ := h
  exact ⟨_, w, fun H' T' w' => ⟨u, k, gs, rs, hB, w'⟩⟩
end
theorem sub_tl {T : List As} {φ : As} : ∀ ψ ∈ T, ψ ∈ φ :: T := fun _ h => List.mem_cons_of_mem _ h
def spBookL : Sp := fun vs H Q _ => ∃ (x : BgA) (n : Nat) (rp wp : Addr) (rs ws : List V) (M : List Cell) (T : List As), vs = [.ref x.b, .ref rp, .ref wp] ∧ Bag x n ((rp, .lst rs) :: (wp, .lst ws) :: M) T H ∧ n < 4000 ∧ 0 < rs.length ∧ rs.length < 10000 ∧ 0 < ws.length ∧ ws.length < 10000 ∧
  ∀ (p th cu : Addr) (b0 i2 i3 i4 i5 i6 i7 i8 i10 : Int) (v11 v12 : V) H', v11 ∈ rs → v12 ∈ ws → Bag x (n + 13) ((rp, .lst rs) :: (wp, .lst ws) :: M) (tupA p [.int b0, .ref th, .int i2, .int i3, .int i4, .int i5, .int i6, .int i7, .int i8, .ref cu, .int i10, v11, v12] :: T) H' → Q (.ref p) H'
section
variable {P : Program} {w : World} {K : PySem.W.Frag} {mg : Str → Option Value} {base : Heap}
theorem sc_L_book : FnScope ["bag", "rules", "waits", "least", "start", "most", "theta", "cut", "head"] ["bag", "rules", "waits"] (defScope s_L_book) := ⟨rfl, rfl, rfl, by decide +kernel, rfl, by decide +kernel, by decide +kernel⟩
theorem ok_L_book (T : Tp K mg base) : Def P w K mg base (.glo "_law_book") ["bag", "rules", "waits"] 3 spBookL := by
  refine def_mk T.f_L_book sc_L_book (fun vs H Q E h => ?_) (fun _ _ _ _ _ _ us hl => match us, hl with | [_, _, _], _ => rfl) (fun cdv A outer s H vs Q E hr h => ?_)
  · obtain ⟨x, n, rp, wp, rs, ws, M, T', rfl, _⟩ := h; rfl
  · obtain ⟨x, n, rp, wp, rs, ws, M, T', rfl, b0, hn, hr0, hr1, hw0, hw1, kk⟩ := h
    have nd := sc_L_book.nd
    have hr1' := hr.mono (show 1 ≤ 2 by decide)
    refine ⟨_, pss_cons (ps_set (i := 3) nd rfl (.inl rfl) (pe_op op_add (pe_d (ok_L_draw T) hr1' T.g_law_draw (pa_cons (pv 0) (pa_cons pe_int pa_nil))) pe_int))
      (pss_cons (ps_set (i := 4) nd rfl (.inl rfl) (pe_op op_add (pv 3) (pe_d (ok_L_draw T) hr1' T.g_law_draw (pa_cons (pv 0) (pa_cons pe_int pa_nil)))))
      (pss_cons (ps_set (i := 5) nd rfl (.inl rfl) (pe_op op_add (pv 4) (pe_d (ok_L_draw T) hr1' T.g_law_draw (pa_cons (pv 0) (pa_cons pe_int pa_nil)))))
      (pss_cons (ps_set (i := 6) nd rfl (.inl rfl) (pe_d (ok_L_pick T) hr T.g_law_pick (pa_cons (pv 0) (pa_cons (pe_lst (pa_cons (pe_tup (pa_cons pe_int (pa_cons pe_int pa_nil))) (pa_cons (pe_tup (pa_cons pe_int (pa_cons pe_int pa_nil))) (pa_cons (pe_tup (pa_cons pe_int (pa_cons pe_int pa_nil))) (pa_cons (pe_tup (pa_cons pe_int (pa_cons pe_int pa_nil))) (pa_cons (pe_tup (pa_cons pe_int (pa_cons pe_int pa_nil))) pa_nil)))))) pa_nil))))
      (pss_cons (ps_set (i := 7) nd rfl (.inl rfl) (pe_d (ok_L_pick T) hr T.g_law_pick (pa_cons (pv 0) (pa_cons (pe_lst (pa_cons (pe_tup (pa_cons pe_int (pa_cons pe_int pa_nil))) (pa_cons (pe_tup (pa_cons pe_int (pa_cons pe_int pa_nil))) (pa_cons (pe_tup (pa_cons pe_int (pa_cons pe_int pa_nil))) (pa_cons (pe_tup (pa_cons pe_int (pa_cons pe_int pa_nil))) pa_nil))))) pa_nil))))
      (pss_cons (ps_set (i := 8) nd rfl (.inl rfl) (pe_tup (pa_cons (pe_op op_add (pe_d (ok_L_draw T) hr1' T.g_law_draw (pa_cons (pv 0) (pa_cons pe_int pa_nil))) pe_int) (pa_cons (pv 6) (pa_cons (pe_op op_add (pe_d (ok_L_draw T) hr1' T.g_law_draw (pa_cons (pv 0) (pa_cons pe_int pa_nil))) pe_int) (pa_cons (pe_op op_add (pe_d (ok_L_draw T) hr1' T.g_law_draw (pa_cons (pv 0) (pa_cons pe_int pa_nil))) pe_int) (pa_cons (pe_op op_add (pe_d (ok_L_draw T) hr1' T.g_law_draw (pa_cons (pv 0) (pa_cons pe_int pa_nil))) pe_int) (pa_cons (pe_op op_add (pe_d (ok_L_draw T) hr1' T.g_law_draw (pa_cons (pv 0) (pa_cons pe_int pa_nil))) pe_int) pa_nil))))))))
      (pss_one (ps_ret (pe_op op_catT (pv 8) (pe_tup (pa_cons (pv 4) (pa_cons (pv 3) (pa_cons (pv 5) (pa_cons (pv 7) (pa_cons (pe_d (ok_L_draw T) hr1' T.g_law_draw (pa_cons (pv 0) (pa_cons pe_int pa_nil))) (pa_cons (pe_d (ok_L_pick T) hr T.g_law_pick (pa_cons (pv 0) (pa_cons (pv 1) pa_nil))) (pa_cons (pe_d (ok_L_pick T) hr T.g_law_pick (pa_cons (pv 0) (pa_cons (pv 2) pa_nil))) pa_nil)))))))))))))))), ?_⟩
    let MM : List Cell := (rp, .lst rs) :: (wp, .lst ws) :: M
    let σ0 : Option V → Option V → Option V → Option V → Option V → L2.St := fun a b c d e => [some (.ref x.b), some (.ref rp), some (.ref wp), a, b, c, d, e, none]
    refine seq_mid (fun σ H => ∃ i : Int, σ = σ0 (some (.int i)) none none none none ∧ Bag x (n + 1) MM T' H) (fun σ H y => ?tail1) (fun D' hD' _ => ?stmt1)
    case stmt1 => exact ⟨_, rfl, x, n, 3, MM, T', rfl, b0, by omega, by decide, by decide, fun d H' _ _ b => ⟨_, _, rfl, rfl, hD' _ _ ⟨_, rfl, b⟩⟩⟩
    obtain ⟨i7, rfl, b1⟩ := y
    clear b0
    refine seq_mid (fun σ H => ∃ j : Int, σ = σ0 (some (.int i7)) (some (.int j)) none none none ∧ Bag x (n + 2) MM T' H) (fun σ H y => ?tail2) (fun D' hD' _ => ?stmt2)
    case stmt2 => exact ⟨_, rfl, _, rfl, x, n + 1, 3, MM, T', rfl, b1, by omega, by decide, by decide, fun d H' _ _ b => ⟨_, _, rfl, rfl, hD' _ _ ⟨_, rfl, b⟩⟩⟩
    obtain ⟨i6, rfl, b2⟩ := y
    clear b1
    refine seq_mid (fun σ H => ∃ j : Int, σ = σ0 (some (.int i7)) (some (.int i6)) (some (.int j)) none none ∧ Bag x (n + 3) MM T' H) (fun σ H y => ?tail3) (fun D' hD' _ => ?stmt3)
    case stmt3 => exact ⟨_, rfl, _, rfl, x, n + 2, 4, MM, T', rfl, b2, by omega, by decide, by decide, fun d H' _ _ b => ⟨_, _, rfl, rfl, hD' _ _ ⟨_, rfl, b⟩⟩⟩
    obtain ⟨i8, rfl, b3⟩ := y
    clear b2
    refine seq_mid (fun σ H => ∃ th : Addr, σ = σ0 (some (.int i7)) (some (.int i6)) (some (.int i8)) (some (.ref th)) none ∧ Bag x (n + 4) MM T' H) (fun σ H y => ?tail4) (fun D' hD' _ => ?stmt4)
    case stmt4 =>
      refine ⟨_, rfl, two_le, fun p1 h1 => ⟨two_le, fun p2 h2 => ⟨two_le, fun p3 h3 => ⟨two_le, fun p4 h4 => ⟨two_le, fun p5 h5 => ⟨by show 5 ≤ sizeLine; decide, fun l hl => ?_⟩⟩⟩⟩⟩⟩
      have b4 := (((((b3.drop h1 _).drop h2 _).drop h3 _).drop h4 _).drop h5 _).newL hl [.ref p1, .ref p2, .ref p3, .ref p4, .ref p5]
      refine ⟨x, n + 3, l, _, MM, T', rfl, b4, by omega, by show 0 < 5; decide, by show 5 < 10000; decide, fun v H' hv b => ?_⟩
      obtain ⟨th, rfl⟩ : ∃ th, v = .ref th := by
        simp only [List.mem_cons, List.not_mem_nil, or_false] at hv
        rcases hv with h | h | h | h | h <;> exact ⟨_, h⟩
      exact hD' _ _ ⟨th, rfl, b.rm⟩
    obtain ⟨th, rfl, b4⟩ := y
    clear b3
    refine seq_mid (fun σ H => ∃ cu : Addr, σ = σ0 (some (.int i7)) (some (.int i6)) (some (.int i8)) (some (.ref th)) (some (.ref cu)) ∧ Bag x (n + 5) MM T' H) (fun σ H y => ?tail5) (fun D' hD' _ => ?stmt5)
    case stmt5 =>
      refine ⟨_, rfl, two_le, fun p1 h1 => ⟨two_le, fun p2 h2 => ⟨two_le, fun p3 h3 => ⟨two_le, fun p4 h4 => ⟨by show 4 ≤ sizeLine; decide, fun l hl => ?_⟩⟩⟩⟩⟩
      have b5 := ((((b4.drop h1 _).drop h2 _).drop h3 _).drop h4 _).newL hl [.ref p1, .ref p2, .ref p3, .ref p4]
      refine ⟨x, n + 4, l, _, MM, T', rfl, b5, by omega, by show 0 < 4; decide, by show 4 < 10000; decide, fun v H' hv b => ?_⟩
      obtain ⟨th, rfl⟩ : ∃ th, v = .ref th := by
        simp only [List.mem_cons, List.not_mem_nil, or_false] at hv
        rcases hv with h | h | h | h <;> exact ⟨_, h⟩
      exact hD' _ _ ⟨th, rfl, b.rm⟩
    obtain ⟨cu, rfl, b5⟩ := y
    clear b4
    refine seq_mid (fun σ H => ∃ (hd : Addr) (j0 j2 j3 j4 j5 : Int), σ = [some (.ref x.b), some (.ref rp), some (.ref wp), some (.int i7), some (.int i6), some (.int i8), some (.ref th), some (.ref cu), some (.ref hd)] ∧ Bag x (n + 10) MM (tupA hd [.int j0, .ref th, .int j2, .int j3, .int j4, .int j5] :: T') H) (fun σ H y => ?tail6) (fun D' hD' _ => ?stmt6)
    case stmt6 =>
      refine ⟨_, rfl, x, n + 5, 4, MM, T', rfl, b5, by omega, by decide, by decide, fun d0 H0 _ _ b6 => ⟨_, _, rfl, rfl, _, rfl, ?_⟩⟩
      refine ⟨_, rfl, x, n + 6, 12, MM, T', rfl, b6, by omega, by decide, by decide, fun d2 H2 _ _ b7 => ⟨_, _, rfl, rfl, ?_⟩⟩
      refine ⟨_, rfl, x, n + 7, 8, MM, T', rfl, b7, by omega, by decide, by decide, fun d3 H3 _ _ b8 => ⟨_, _, rfl, rfl, ?_⟩⟩
      refine ⟨_, rfl, x, n + 8, 2, MM, T', rfl, b8, by omega, by decide, by decide, fun d4 H4 _ _ b9 => ⟨_, _, rfl, rfl, ?_⟩⟩
      refine ⟨_, rfl, x, n + 9, 3, MM, T', rfl, b9, by omega, by decide, by decide, fun d5 H5 _ _ b10 => ⟨_, _, rfl, rfl, by show 6 ≤ sizeLine; decide, fun p hp => ?_⟩⟩
      exact hD' _ _ ⟨p, _, _, _, _, _, rfl, b10.newT hp _⟩
    obtain ⟨hd, j0, j2, j3, j4, j5, rfl, b6⟩ := y
    clear b5
    let TT : List As := tupA hd [.int j0, .ref th, .int j2, .int j3, .int j4, .int j5] :: T'
    refine ⟨_, rfl, _, rfl, _, rfl, _, rfl, _, rfl, _, rfl, x, n + 10, 4, MM, TT, rfl, b6, by omega, by decide, by decide, fun d10 H1 _ _ b7 => ?_⟩
    refine ⟨_, rfl, _, rfl, x, n + 11, rp, rs, (wp, .lst ws) :: M, TT, rfl, b7, by omega, hr0, hr1, fun v11 H2 hv b8 => ?_⟩
    obtain ⟨u, k, gs, rs', hB, w8⟩ := b8
    have w8' : W H2 (bgM x u k gs rs' ((wp, .lst ws) :: (rp, .lst rs) :: M)) TT := w8.perm (by
      refine ((List.Perm.swap _ _ M).cons _ |>.cons _ |>.cons _))
    refine ⟨_, rfl, _, rfl, x, n + 12, wp, ws, (rp, .lst rs) :: M, TT, rfl, ⟨u, k, gs, rs', hB, w8'⟩, by omega, hw0, hw1, fun v12 H3 hv2 b9 => ?_⟩
    refine ⟨by show 7 ≤ sizeLine; decide, fun t ht => ?_⟩
    obtain ⟨u, k, gs, rs', hB, w9⟩ := b9
    have w9' : W H3 (bgM x u k gs rs' MM) TT := w9.perm (by
      refine ((List.Perm.swap _ _ M).cons _ |>.cons _ |>.cons _))
    have w10 := w9'.newT ht [.int i6, .int i7, .int i8, .ref cu, .int d10, v11, v12]
    refine ⟨hd, t, _, _, rfl, rfl, SqT.of (w10.f (tupA hd [.int j0, .ref th, .int j2, .int j3, .int j4, .int j5])), SqT.of (w10.f (tupA t [.int i6, .int i7, .int i8, .ref cu, .int d10, v11, v12])), by simp, by show 6 + 7 ≤ sizeLine; decide, fun q => by simp at q, fun _ p hp => ?_⟩
    have w11 := w10.newT hp ([.int j0, .ref th, .int j2, .int j3, .int j4, .int j5] ++ [.int i6, .int i7, .int i8, .ref cu, .int d10, v11, v12])
    exact kk p th cu j0 j2 j3 j4 j5 i6 i7 i8 d10 v11 v12 _ hv hv2 ⟨u, k, gs, rs', hB, W.e (T := T') w11 (tupA p [.int j0, .ref th, .int j2, .int j3, .int j4, .int j5, .int i6, .int i7, .int i8, .ref cu, .int d10, v11, v12]) (w11.f (tupA p ([.int j0, .ref th, .int j2, .int j3, .int j4, .int j5] ++ [.int i6, .int i7, .int i8, .ref cu, .int d10, v11, v12])))⟩
end
end Su


set_option Elab.async false
set_option linter.all false
set_option maxRecDepth 100000
set_option maxHeartbeats 2000000
set_option synthInstance.maxSize 100000
set_option synthInstance.maxHeartbeats 2000000
/-! a queue and a book are drawn -/
namespace Su
open PySem PySem.Spec PyProof.Rows L2
def maxI (a b : Int) : Int := if b > a then b else a
/-- the timer ahead of all samples is no shorter than the empty trip -/
def FirstOk (lo rate grain first : Int) : Prop := 2 * lo + rate ≤ first + maxI grain (2 * first)
structure Drawn (c : Cf) (lows rates mosts : Int) : Prop where
  lo : 1 ≤ c.lo ∧ c.lo ≤ lows
  rate : 1 ≤ c.rate ∧ c.rate ≤ rates
  most : 1 ≤ c.most ∧ c.most ≤ mosts
  gap : 1 ≤ c.gap ∧ c.gap ≤ c.rate + 2 ∧ c.gap ≤ 100
  grain : c.grain = 3 * c.rate ∨ c.grain = 3 * c.rate + 1
  first : 1 ≤ c.first ∧ c.first ≤ 2 * c.lo + c.rate ∧ FirstOk c.lo c.rate c.grain c.first
  room : c.room ≤ 30 ∧ (roomF c.lo c.rate c.gap c.most ≤ c.room ∨ c.room = 30)
def spDrawn : Sp := fun vs H Q _ => ∃ (x : BgA) (n : Nat) (lows rates mosts : Int) (M : List Cell) (T : List As), vs = [.ref x.b, .int lows, .int rates, .int mosts] ∧ Bag x n M T H ∧ n < 3000 ∧ 1 ≤ lows ∧ lows ≤ 200 ∧ 1 ≤ rates ∧ rates ≤ 100 ∧ 1 ≤ mosts ∧ mosts ≤ 20 ∧
  ∀ (p b qt : Addr) (c : Cf) H', Drawn c lows rates mosts → Bag x (n + 30) M (tupA p [.ref b, .ref qt] :: bkA c b :: quA c qt :: T) H' → Q (.ref p) H'
abbrev itL (b0 th i2 i3 i4 i5 i6 i7 i8 cu i10 v11 v12 : V) : List V := [b0, th, i2, i3, i4, i5, i6, i7, i8, cu, i10, v11, v12]
theorem Bag.up {x : BgA} {n m : Nat} {M : List Cell} {T : List As} {H : Hp} (h : Bag x n M T H) (k : n ≤ m) : Bag x m M T H := by
  obtain ⟨u, kk, gs, rs, hB, w⟩ := h
  exact ⟨u, kk, gs, rs, ⟨hB.u0, hB.k0, by have := hB.kn; omega, hB.gl, hB.rl, hB.rp, hB.gp, hB.rr⟩, w⟩
section
variable {P : Program} {w : World} {K : PySem.W.Frag} {mg : Str → Option Value} {base : Heap}
theorem sc_L_drawn : FnScope ["bag", "lows", "rates", "mosts", "lo", "rate", "items", "most", "book", "queue"] ["bag", "lows", "rates", "mosts"] (defScope s_L_drawn) := ⟨rfl, rfl, rfl, by decide +kernel, rfl, by decide +kernel, by decide +kernel⟩
theorem ok_L_drawn (T : Tp K mg base) : Def P w K mg base (.glo "_law_drawn") ["bag", "lows", "rates", "mosts"] 4 spDrawn := by
  refine def_mk T.f_L_drawn sc_L_drawn (fun vs H Q E h => ?_) (fun _ _ _ _ _ _ us hl => match us, hl with | [_, _, _, _], _ => rfl) (fun cdv A outer s H vs Q E hr h => ?_)
  · obtain ⟨x, n, lows, rates, mosts, M, T', rfl, _⟩ := h; rfl
  · obtain ⟨x, n, lows, rates, mosts, M, T', rfl, b0, hn, hl1, hl2, hr1, hr2, hm1, hm2, kk⟩ := h
    have nd := sc_L_drawn.nd
    have r1 := hr.mono (show 1 ≤ 3 by decide)
    have r2 := hr.mono (show 2 ≤ 3 by decide)
    refine ⟨_, pss_cons (ps_par rfl nd (i := 4) (j := 5) rfl rfl (by decide) rfl rfl (pa_cons (pe_op op_add pe_int (pe_op op_mul (pe_d (ok_L_draw T) r1 T.g_law_draw (pa_cons (pv 0) (pa_cons pe_int pa_nil))) (pe_d (ok_L_draw T) r1 T.g_law_draw (pa_cons (pv 0) (pa_cons (pv 1) pa_nil))))) (pa_cons (pe_op op_add pe_int (pe_d (ok_L_draw T) r1 T.g_law_draw (pa_cons (pv 0) (pa_cons (pv 2) pa_nil)))) pa_nil)) (by rfl))
      (pss_cons (ps_set (i := 6) nd rfl (.inl rfl) (pe_callTy call_list_of rfl T.b_list (by decide +kernel) (pa_cons (pe_d (ok_L_book T) hr T.g_law_book (pa_cons (pv 0) (pa_cons (pe_lst (pa_cons pe_str (pa_cons pe_str (pa_cons pe_str (pa_cons pe_str pa_nil))))) (pa_cons (pe_lst (pa_cons pe_int pa_nil)) pa_nil)))) pa_nil)))
      (pss_cons (ps_set (i := 7) nd rfl (.inl rfl) (pe_op op_add pe_int (pe_d (ok_L_draw T) r1 T.g_law_draw (pa_cons (pv 0) (pa_cons (pv 3) pa_nil)))))
      (pss_cons (ps_asg (pe_tup (pa_cons (pv 7) (pa_cons (pe_op op_add pe_int (pe_d (ok_L_draw T) r1 T.g_law_draw (pa_cons (pv 0) (pa_cons (pv 7) pa_nil)))) (pa_cons (pv 7) pa_nil)))) (pg_tup (n := 3) rfl (pgs_cons (pg_sub (pv 6) pe_int set_list) (pgs_cons (pg_sub (pv 6) pe_int set_list) (pgs_cons (pg_sub (pv 6) pe_int set_list) pgs_nil)))))
      (pss_cons (ps_asg (pe_op op_add pe_int (pe_callB (call_min2 rfl) rfl T.b_min (by decide +kernel) (pa_cons pe_int (pa_cons (pe_d (ok_L_draw T) r1 T.g_law_draw (pa_cons (pv 0) (pa_cons (pe_op op_add (pv 5) pe_int) pa_nil))) pa_nil)))) (pg_sub (pv 6) pe_int set_list))
      (pss_cons (ps_asg (pe_op op_add (pe_op op_mul pe_int (pv 5)) (pe_d (ok_L_draw T) r1 T.g_law_draw (pa_cons (pv 0) (pa_cons pe_int pa_nil)))) (pg_sub (pv 6) pe_int set_list))
      (pss_cons (ps_asg pe_int (pg_sub (pv 6) pe_int set_list))
      (pss_cons (ps_while PassesOwn.never (pt_cmpR op_lt (pe_op op_add (pe_ix ix_list (pv 6) pe_int (fun _ _ => rfl)) (pe_callB (call_max2 rfl) rfl T.b_max (by decide +kernel) (pa_cons (pe_ix ix_list (pv 6) pe_int (fun _ _ => rfl)) (pa_cons (pe_op op_mul pe_int (pe_ix ix_list (pv 6) pe_int (fun _ _ => rfl))) pa_nil)))) (pe_op op_add (pe_op op_mul pe_int (pv 4)) (pv 5)) (nomark _))
        (pss_one (ps_augS (pv 6) pe_int pget_list pe_int ip_add set_list)))
      (pss_cons (ps_set (i := 8) nd rfl (.inl rfl) (pe_callTy call_tuple_of rfl T.b_tuple (by decide +kernel) (pa_cons (pv 6) pa_nil)))
      (pss_cons (ps_set (i := 9) nd rfl (.inl rfl) (pe_tup (pa_cons (pv 4) (pa_cons (pv 5) (pa_cons pe_int pa_nil)))))
      (pss_one (ps_ret (pe_tup (pa_cons (pv 8) (pa_cons (pe_tup (pa_cons (pv 4) (pa_cons (pv 5) (pa_cons (pe_callB (call_min2 rfl) rfl T.b_min (by decide +kernel) (pa_cons pe_int (pa_cons (pe_op op_add (pe_d (ok_L_room T) r2 T.g_law_room (pa_cons (pv 8) (pa_cons (pv 9) pa_nil))) (pe_op op_mul (pe_d (ok_L_draw T) r1 T.g_law_draw (pa_cons (pv 0) (pa_cons pe_int pa_nil))) (pe_d (ok_L_draw T) r1 T.g_law_draw (pa_cons (pv 0) (pa_cons pe_int pa_nil))))) pa_nil))) pa_nil)))) pa_nil)))))))))))))), ?_⟩
    let σ0 : Option V → Option V → Option V → Option V → Option V → Option V → L2.St := fun a b c d e f => [some (.ref x.b), some (.int lows), some (.int rates), some (.int mosts), a, b, c, d, e, f]
    refine seq_mid (fun σ H => ∃ lo rate : Int, σ = σ0 (some (.int lo)) (some (.int rate)) none none none none ∧ 1 ≤ lo ∧ lo ≤ lows ∧ 1 ≤ rate ∧ rate ≤ rates ∧ Bag x (n + 3) M T' H) (fun σ H y => ?tail1) (fun D' hD' _ => ?stmt1)
    case stmt1 =>
      refine ⟨_, rfl, x, n, 2, M, T', rfl, b0, by omega, by decide, by decide, fun d1 H1 a1 a2 b1 => ?_⟩
      refine ⟨_, rfl, _, rfl, x, n + 1, lows, M, T', rfl, b1, by omega, by omega, by omega, fun d2 H2 a3 a4 b2 => ⟨_, _, rfl, rfl, .inl ⟨by omega, by omega⟩, _, _, rfl, rfl, ?_⟩⟩
      refine ⟨_, rfl, _, rfl, x, n + 2, rates, M, T', rfl, b2, by omega, by omega, by omega, fun d3 H3 a5 a6 b3 => ⟨_, _, rfl, rfl, _, _, rfl, ?_⟩⟩
      have h01 : d1 = 0 ∨ d1 = 1 := by omega
      refine hD' _ _ ⟨_, _, rfl, ?_, ?_, by omega, by omega, b3⟩
      · rcases h01 with h | h <;> subst h <;> omega
      · rcases h01 with h | h <;> subst h <;> omega
    obtain ⟨lo, rate, rfl, l1, l2, t1, t2, b1⟩ := y
    clear b0
    refine seq_mid (fun σ H => ∃ (it th cu : Addr) (j0 i2 i3 i4 i5 i6 i7 i8 i10 : Int) (rule : Str), σ = σ0 (some (.int lo)) (some (.int rate)) (some (.ref it)) none none none ∧ Bag x (n + 16) ((it, .lst (itL (.int j0) (.ref th) (.int i2) (.int i3) (.int i4) (.int i5) (.int i6) (.int i7) (.int i8) (.ref cu) (.int i10) (.str rule) (.int 0))) :: M) T' H) (fun σ H y => ?tail2) (fun D' hD' _ => ?stmt2)
    case stmt2 =>
      refine ⟨_, rfl, by show 4 ≤ sizeLine; decide, fun rp hrp => ⟨by show 1 ≤ sizeLine; decide, fun wp hwp => ?_⟩⟩
      have b2 := (b1.newL hrp [.str "guess", .str "guess", .str "proof", .str "told"]).newL hwp [.int 0]
      obtain ⟨u, k, gs, rs', hB, w2⟩ := b2
      have w2' := W.perm w2 (M' := bgM x u k gs rs' ((rp, .lst [.str "guess", .str "guess", .str "proof", .str "told"]) :: (wp, .lst [.int 0]) :: M)) (by
        refine ((List.Perm.swap _ _ M).cons _ |>.cons _ |>.cons _))
      refine ⟨x, n + 3, rp, wp, _, _, M, T', rfl, ⟨u, k, gs, rs', hB, w2'⟩, by omega, by show 0 < 4; decide, by show 4 < 10000; decide, by show 0 < 1; decide, by show 1 < 10000; decide, fun p th cu j0 i2 i3 i4 i5 i6 i7 i8 i10 v11 v12 H' hv1 hv2 b3 => ?_⟩
      obtain ⟨rule, rfl⟩ : ∃ r, v11 = .str r := by
        simp only [List.mem_cons, List.not_mem_nil, or_false] at hv1
        rcases hv1 with h | h | h | h <;> exact ⟨_, h⟩
      obtain rfl : v12 = .int 0 := by simpa using hv2
      have b4 := b3.rm.rm
      refine ⟨p, _, rfl, .inr (SqT.of (b4.f (tupA p [.int j0, .ref th, .int i2, .int i3, .int i4, .int i5, .int i6, .int i7, .int i8, .ref cu, .int i10, .str rule, .int 0]))), fun l hl => ?_⟩
      exact hD' _ _ ⟨l, th, cu, j0, i2, i3, i4, i5, i6, i7, i8, i10, rule, rfl, (b4.newL hl _).sub sub_tl⟩
    obtain ⟨it, th, cu, j0, i2, i3, i4, i5, i6, i7, i8, i10, rule, rfl, b2⟩ := y
    clear b1
    refine seq_mid (fun σ H => ∃ most : Int, σ = σ0 (some (.int lo)) (some (.int rate)) (some (.ref it)) (some (.int most)) none none ∧ 1 ≤ most ∧ most ≤ mosts ∧ Bag x (n + 17) ((it, .lst (itL (.int j0) (.ref th) (.int i2) (.int i3) (.int i4) (.int i5) (.int i6) (.int i7) (.int i8) (.ref cu) (.int i10) (.str rule) (.int 0))) :: M) T' H) (fun σ H y => ?tail3) (fun D' hD' _ => ?stmt3)
    case stmt3 => exact ⟨_, rfl, _, rfl, x, n + 16, mosts, _, T', rfl, b2, by omega, by omega, by omega, fun d H' a1 a2 b => ⟨_, _, rfl, rfl, hD' _ _ ⟨_, rfl, by omega, by omega, b⟩⟩⟩
    obtain ⟨most, rfl, m1, m2, b3⟩ := y
    clear b2
    refine seq_mid (fun σ H => ∃ ls : Int, σ = σ0 (some (.int lo)) (some (.int rate)) (some (.ref it)) (some (.int most)) none none ∧ Bag x (n + 18) ((it, .lst (itL (.int j0) (.ref th) (.int i2) (.int i3) (.int i4) (.int i5) (.int most) (.int ls) (.int most) (.ref cu) (.int i10) (.str rule) (.int 0))) :: M) T' H) (fun σ H y => ?tail4) (fun D' hD' _ => ?stmt4)
    case stmt4 =>
      refine ⟨_, rfl, _, rfl, _, rfl, x, n + 17, most, _, T', rfl, b3, by omega, by omega, by omega, fun d H' a1 a2 b => ⟨_, _, rfl, rfl, _, rfl, by show 3 ≤ sizeLine; decide, fun p hp => ?_⟩⟩
      have b4 := b.newT hp [.int most, .int (1 + d), .int most]
      refine ⟨p, [.int most, .int (1 + d), .int most], rfl, SqT.of (b4.f (tupA p [.int most, .int (1 + d), .int most])), rfl, _, _, rfl, _, rfl, it, _, _, 6, rfl, rfl, b4.hd, rfl, ?_⟩
      have b5 := b4.put (itL (.int j0) (.ref th) (.int i2) (.int i3) (.int i4) (.int i5) (.int most) (.int i7) (.int i8) (.ref cu) (.int i10) (.str rule) (.int 0))
      refine ⟨_, _, rfl, _, rfl, it, _, _, 7, rfl, rfl, b5.hd, rfl, ?_⟩
      have b6 := b5.put (itL (.int j0) (.ref th) (.int i2) (.int i3) (.int i4) (.int i5) (.int most) (.int (1 + d)) (.int i8) (.ref cu) (.int i10) (.str rule) (.int 0))
      refine ⟨_, _, rfl, _, rfl, it, _, _, 8, rfl, rfl, b6.hd, rfl, ?_⟩
      have b7 := b6.put (itL (.int j0) (.ref th) (.int i2) (.int i3) (.int i4) (.int i5) (.int most) (.int (1 + d)) (.int most) (.ref cu) (.int i10) (.str rule) (.int 0))
      exact ⟨rfl, hD' _ _ ⟨_, rfl, b7.sub sub_tl⟩⟩
    obtain ⟨ls, rfl, b4⟩ := y
    clear b3
    refine seq_mid (fun σ H => ∃ gap : Int, σ = σ0 (some (.int lo)) (some (.int rate)) (some (.ref it)) (some (.int most)) none none ∧ 1 ≤ gap ∧ gap ≤ rate + 2 ∧ gap ≤ 100 ∧ Bag x (n + 19) ((it, .lst (itL (.int j0) (.ref th) (.int i2) (.int i3) (.int i4) (.int gap) (.int most) (.int ls) (.int most) (.ref cu) (.int i10) (.str rule) (.int 0))) :: M) T' H) (fun σ H y => ?tail5) (fun D' hD' _ => ?stmt5)
    case stmt5 =>
      refine ⟨_, rfl, _, rfl, _, _, rfl, rfl, x, n + 18, rate + 2, _, T', rfl, b4, by omega, by omega, by omega, fun d H' a1 a2 b => ⟨_, _, rfl, _, _, rfl, rfl, ?_⟩⟩
      refine ⟨_, rfl, it, _, _, 5, rfl, rfl, b.hd, rfl, ?_⟩
      have b5 := b.put (itL (.int j0) (.ref th) (.int i2) (.int i3) (.int i4) (.int (1 + if d < 99 then d else 99)) (.int most) (.int ls) (.int most) (.ref cu) (.int i10) (.str rule) (.int 0))
      exact hD' _ _ ⟨_, rfl, by split <;> omega, by split <;> omega, by split <;> omega, b5⟩
    obtain ⟨gap, rfl, g1, g2, g3, b5⟩ := y
    clear b4
    refine seq_mid (fun σ H => ∃ grain : Int, σ = σ0 (some (.int lo)) (some (.int rate)) (some (.ref it)) (some (.int most)) none none ∧ (grain = 3 * rate ∨ grain = 3 * rate + 1) ∧ Bag x (n + 20) ((it, .lst (itL (.int j0) (.ref th) (.int grain) (.int i3) (.int i4) (.int gap) (.int most) (.int ls) (.int most) (.ref cu) (.int i10) (.str rule) (.int 0))) :: M) T' H) (fun σ H y => ?tail6) (fun D' hD' _ => ?stmt6)
    case stmt6 =>
      refine ⟨_, rfl, _, _, rfl, rfl, .inl ⟨by decide, by decide⟩, _, rfl, x, n + 19, 2, _, T', rfl, b5, by omega, by decide, by decide, fun d H' a1 a2 b => ⟨_, _, rfl, rfl, ?_⟩⟩
      refine ⟨_, rfl, it, _, _, 2, rfl, rfl, b.hd, rfl, ?_⟩
      have b6 := b.put (itL (.int j0) (.ref th) (.int (3 * rate + d)) (.int i3) (.int i4) (.int gap) (.int most) (.int ls) (.int most) (.ref cu) (.int i10) (.str rule) (.int 0))
      exact hD' _ _ ⟨_, rfl, by omega, b6⟩
    obtain ⟨grain, rfl, gr, b6⟩ := y
    clear b5
    let IT : Int → List V := fun f => itL (.int j0) (.ref th) (.int grain) (.int f) (.int i4) (.int gap) (.int most) (.int ls) (.int most) (.ref cu) (.int i10) (.str rule) (.int 0)
    refine seq_mid (fun σ H => σ = σ0 (some (.int lo)) (some (.int rate)) (some (.ref it)) (some (.int most)) none none ∧ Bag x (n + 20) ((it, .lst (IT 1)) :: M) T' H) (fun σ H y => ?tail7) (fun D' hD' _ => ?stmt7)
    case stmt7 => exact ⟨_, rfl, it, _, _, 3, rfl, rfl, b6.hd, rfl, hD' _ _ ⟨rfl, b6.put (IT 1)⟩⟩
    obtain ⟨rfl, b7⟩ := y
    clear b6
    refine seq_mid (fun σ H => ∃ f : Int, σ = σ0 (some (.int lo)) (some (.int rate)) (some (.ref it)) (some (.int most)) none none ∧ 1 ≤ f ∧ f ≤ 2 * lo + rate ∧ FirstOk lo rate grain f ∧ Bag x (n + 20) ((it, .lst (IT f)) :: M) T' H) (fun σ H y => ?tail8) (fun D' hD' _ => ?stmt8)
    case stmt8 =>
      refine ⟨fun m σ H => ∃ f : Int, m = (2 * lo + rate + 1 - f).toNat ∧ σ = σ0 (some (.int lo)) (some (.int rate)) (some (.ref it)) (some (.int most)) none none ∧ 1 ≤ f ∧ f ≤ 2 * lo + rate ∧ Bag x (n + 20) ((it, .lst (IT f)) :: M) T' H, ⟨_, 1, rfl, rfl, Int.le_refl _, by omega, b7⟩, ?_⟩
      rintro m σ H ⟨f, rfl, rfl, f1, f2, b⟩
      refine r_ixL rfl b.hd rfl (r_ixL rfl b.hd rfl (r_ixL rfl b.hd rfl ⟨_, _, rfl, rfl, .inl ⟨by decide, by decide⟩, _, _, rfl, _, _, rfl, rfl, _, rfl, _, _, rfl, rfl, .inl ⟨by decide, by decide⟩, _, rfl, _, _, rfl, rfl, _, _, rfl, rfl, _, rfl, ?_⟩))
      by_cases hc : f + (if 2 * f > grain then 2 * f else grain) < 2 * lo + rate
      · rw [decide_eq_true hc]
        refine iteT ⟨_, fun σ' H' h => ⟨(2 * lo + rate + 1 - (f + 1)).toNat, ?_, h⟩, ?_⟩
        · have : (if 2 * f > grain then 2 * f else grain) ≥ 2 * f := by split <;> omega
          omega
        · have : (if 2 * f > grain then 2 * f else grain) ≥ 2 * f := by split <;> omega
          exact ⟨_, rfl, it, _, _, _, rfl, rfl, SqL.of b.hd, rfl, _, _, rfl, rfl, it, _, _, 3, rfl, rfl, b.hd, rfl, f + 1, rfl, rfl, by omega, by omega, b.put (IT (f + 1))⟩
      · rw [decide_eq_false hc]
        exact iteF (hD' _ _ ⟨f, rfl, f1, f2, by unfold FirstOk maxI; omega, b⟩)
    obtain ⟨first, rfl, f1, f2, f3, b8⟩ := y
    clear b7
    let c1 : Cf := { lo := lo, rate := rate, room := 1, gap := gap, most := most, grain := grain, first := first, rule := rule, short := 0, s := fun _ => 0, lv := fun _ => 0 }
    refine seq_mid (fun σ H => ∃ b : Addr, σ = σ0 (some (.int lo)) (some (.int rate)) (some (.ref it)) (some (.int most)) (some (.ref b)) none ∧ Bag x (n + 20) M (bkA c1 b :: T') H) (fun σ H y => ?tail9) (fun D' hD' _ => ?stmt9)
    case stmt9 =>
      refine ⟨_, rfl, it, _, rfl, .inl ⟨SqL.of b8.hd, fun p hp => ?_⟩⟩
      have b9 := b8.rm.newT hp (IT first)
      exact hD' _ _ ⟨p, rfl, (b9.say (bkA c1 p) ⟨j0, i4, ls, i10, th, cu, b9.f (tupA p (IT first))⟩).sub fun ψ hψ => by
        rcases List.mem_cons.mp hψ with h | h
        · rw [h]; exact List.mem_cons_self
        · exact List.mem_cons_of_mem _ (List.mem_cons_of_mem _ h)⟩
    obtain ⟨b, rfl, b9⟩ := y
    clear b8
    refine seq_mid (fun σ H => ∃ q : Addr, σ = σ0 (some (.int lo)) (some (.int rate)) (some (.ref it)) (some (.int most)) (some (.ref b)) (some (.ref q)) ∧ Bag x (n + 20) M (quA c1 q :: bkA c1 b :: T') H) (fun σ H y => ?tail10) (fun D' hD' _ => ?stmt10)
    case stmt10 => exact ⟨_, rfl, _, rfl, by show 3 ≤ sizeLine; decide, fun p hp => hD' _ _ ⟨p, rfl, b9.newT hp [.int lo, .int rate, .int 1]⟩⟩
    obtain ⟨q, rfl, b10⟩ := y
    clear b9
    obtain ⟨M', w10, back⟩ := b10.ww
    refine ⟨_, rfl, _, rfl, _, rfl, _, rfl, _, rfl, c1, b, q, M', quA c1 q :: bkA c1 b :: T', rfl, w10, w10.f (bkA c1 b), w10.f (quA c1 q), ⟨by show -1048576 < lo; omega, by show lo < 1048576; omega⟩, ⟨by show -1048576 < rate; omega, by show rate < 1048576; omega⟩, ⟨by show -1048576 < gap; omega, by show gap < 1048576; omega⟩, ⟨by show -1048576 < most; omega, by show most < 1048576; omega⟩, by show 0 < rate; omega, fun H1 w11 => ?_⟩
    have b11 := back _ _ w11
    refine ⟨_, rfl, x, n + 20, 3, M, _, rfl, b11, by omega, by decide, by decide, fun d1 H2 a1 a2 b12 => ?_⟩
    refine ⟨_, rfl, x, n + 21, 6, M, _, rfl, b12, by omega, by decide, by decide, fun d2 H3 a3 a4 b13 => ?_⟩
    refine ⟨_, _, rfl, rfl, .inl ⟨by omega, by omega⟩, _, _, rfl, rfl, _, _, rfl, by show 3 ≤ sizeLine; decide, fun p1 hp1 => ⟨two_le, fun p2 hp2 => ?_⟩⟩
    have hdd : 0 ≤ d1 * d2 := Int.mul_nonneg a1 a3
    let room : Int := if roomF lo rate gap most + d1 * d2 < 30 then roomF lo rate gap most + d1 * d2 else 30
    have b14 := (b13.newT hp1 [.int lo, .int rate, .int room]).newT hp2 [.ref b, .ref p1]
    refine kk p2 b p1 { c1 with room := room } _ ⟨⟨l1, l2⟩, ⟨t1, t2⟩, ⟨m1, m2⟩, ⟨g1, g2, g3⟩, gr, ⟨f1, f2, f3⟩, ?_⟩ ?_
    · show room ≤ 30 ∧ (roomF lo rate gap most ≤ room ∨ room = 30)
      show (if roomF lo rate gap most + d1 * d2 < 30 then roomF lo rate gap most + d1 * d2 else 30) ≤ 30 ∧ (roomF lo rate gap most ≤ (if roomF lo rate gap most + d1 * d2 < 30 then roomF lo rate gap most + d1 * d2 else 30) ∨ (if roomF lo rate gap most + d1 * d2 < 30 then roomF lo rate gap most + d1 * d2 else 30) = 30)
      split <;> omega
    · refine (b14.up (by omega)).sub fun ψ hψ => ?_
      rcases List.mem_cons.mp hψ with h | hψ
      · rw [h]; exact List.mem_cons_self
      rcases List.mem_cons.mp hψ with h | hψ
      · rw [h]; exact List.mem_cons_of_mem _ (List.mem_cons_of_mem _ (List.mem_cons_of_mem _ List.mem_cons_self))
      rcases List.mem_cons.mp hψ with h | hψ
      · rw [h]; exact List.mem_cons_of_mem _ List.mem_cons_self
      · exact List.mem_cons_of_mem _ (List.mem_cons_of_mem _ (List.mem_cons_of_mem _ (List.mem_cons_of_mem _ hψ)))
end
end Su


set_option Elab.async false
set_option linter.all false
set_option maxRecDepth 100000
set_option maxHeartbeats 2000000
set_option synthInstance.maxSize 100000
set_option synthInstance.maxHeartbeats 2000000
/-! when letters were read, from the log -/
namespace Su
open PySem PySem.Spec PyProof.Rows L2
theorem lgsA_at {H : Hp} : ∀ {ws : List (Int × Str × Int)} {es : List Addr} {i : Nat} {v : V}, (lgsA ws es).φ H → (es.map V.ref)[i]? = some v → ∃ t w n e, ws[i]? = some (t, w, n) ∧ v = .ref e ∧ (lgA t w n e).φ H
  | [], [], i, v, _, h => by simp at h
  | (t, w, n) :: ws, e :: es, 0, v, h, hv => ⟨t, w, n, e, rfl, (Option.some.inj hv).symm, h.1⟩
  | (t, w, n) :: ws, e :: es, i + 1, v, h, hv => lgsA_at (i := i) h.2 hv
theorem readsOf_take (ws : List (Int × Str × Int)) (i : Nat) : (readsOf (ws.take i)).length ≤ (readsOf ws).length := by
  have e : readsOf ws = readsOf (ws.take i) ++ readsOf (ws.drop i) := by rw [← readsOf_app, List.take_append_drop]
  rw [e, List.length_append]; omega
theorem readsOf_one (t : Int) (w : Str) (n : Int) : readsOf [(t, w, n)] = if w = "read" then [t] else [] := by
  unfold readsOf
  split
  · rename_i h; simp [h]
  · rename_i h; simp [h]
def spRead : Sp := fun vs H Q _ => ∃ (lt : Addr) (ls : List Addr) (ws : List (Int × Str × Int)) (M : List Cell) (T : List As), vs = [.ref lt] ∧ W H M T ∧ (tupA lt (ls.map V.ref)).φ H ∧ (lgsA ws ls).φ H ∧ (readsOf ws).length ≤ 100 ∧ ∀ p H', W H' M (tupA p ((readsOf ws).map V.int) :: T) → Q (.ref p) H'
section
variable {P : Program} {w : World} {K : PySem.W.Frag} {mg : Str → Option Value} {base : Heap}
theorem sc_L_read_ticks : FnScope ["log", "out", "tick", "event"] ["log"] (defScope s_L_read_ticks) := ⟨rfl, rfl, rfl, by decide +kernel, rfl, by decide +kernel, by decide +kernel⟩
theorem ok_L_read_ticks (T : Tp K mg base) : Def P w K mg base (.glo "_law_read_ticks") ["log"] 1 spRead := by
  refine def_mk T.f_L_read_ticks sc_L_read_ticks (fun vs H Q E h => ?_) (fun _ _ _ _ _ _ us hl => match us, hl with | [_], _ => rfl) (fun cdv A outer s H vs Q E hr h => ?_)
  · obtain ⟨lt, ls, ws, M, T', rfl, _⟩ := h; rfl
  · obtain ⟨lt, ls, ws, M, T', rfl, w0, hlt, hlg, h100, kk⟩ := h
    have nd := sc_L_read_ticks.nd
    refine ⟨_, pss_cons (ps_set (i := 1) nd rfl (.inl rfl) (pe_lst pa_nil))
      (pss_cons (ps_for PassesOwn.never rfl (pi_tup (pv 0)) (pg_tup (n := 2) rfl (pgs_cons (pg_name (i := 2) nd rfl (.inl rfl)) (pgs_cons (pg_name (i := 3) nd rfl (.inl rfl)) pgs_nil)))
        (pss_one (ps_if (pt_cmpR op_eq (pe_ix ix_tup (pv 3) pe_int (fun _ _ => rfl)) pe_str (nomark _))
          (pss_one (ps_set (i := 1) nd rfl (.inl rfl) (pe_op op_cat (pv 1) (pe_op op_rep (pe_lst (pa_cons (pv 2) pa_nil)) (pe_ix ix_tup (pv 3) pe_int (fun _ _ => rfl)))))) pss_nil)))
      (pss_one (ps_ret (pe_callTy call_tuple_of rfl T.b_tuple (by decide +kernel) (pa_cons (pv 1) pa_nil))))), ?_⟩
    let TT : List As := tupA lt (ls.map V.ref) :: lgsA ws ls :: T'
    have w1 : W H M TT := (w0.say (lgsA ws ls) hlg).say (tupA lt (ls.map V.ref)) hlt
    have hll := lgsA_len hlg
    refine ⟨Nat.zero_le _, fun o ho => ?_⟩
    refine ⟨_, rfl, lt, rfl, ⟨_, SqT.of ((w1.new ho (.lst [])).f (tupA lt (ls.map V.ref)))⟩, ?_⟩
    refine for_tup (xs := ls.map V.ref) (fun i σ H => ∃ (o : Addr) (tk ev : Option V), σ = [some (.ref lt), some (.ref o), tk, ev] ∧ W H ((o, .lst ((readsOf (ws.take i)).map V.int)) :: M) TT) ⟨o, none, none, rfl, w1.new ho (.lst [])⟩ (fun i σ H _ h => ?_) (fun i v σ H hx h => ?_) (fun σ H h => ?_)
    · obtain ⟨o, tk, ev, _, w⟩ := h
      exact SqT.of (w.f (tupA lt (ls.map V.ref)))
    · obtain ⟨o, tk, ev, rfl, w⟩ := h
      obtain ⟨t, wd, n, e, hi, rfl, he⟩ := lgsA_at (w.f (lgsA ws ls)) hx
      obtain ⟨ev', he1, r, he2, he3⟩ := he
      refine ⟨e, _, rfl, SqT.of he1, rfl, _, _, rfl, _, _, rfl, rfl, ?_⟩
      refine r_ixT (v := .str wd) rfl he2 atI_0 ⟨rfl, _, rfl, ?_⟩
      have hlen := readsOf_take ws i
      by_cases hw : wd = "read"
      · rw [decide_eq_true (by rw [hw])]
        obtain rfl := he3 hw
        refine iteT ⟨_, rfl, _, rfl, by show 1 ≤ sizeLine; decide, fun l hl => ?_⟩
        have w2 := w.new hl (.lst [.int t])
        refine r_ixT (v := .int 1) rfl (Kp.new hl |>.tu _ _ he2) rfl ⟨l, _, _, rfl, rfl, w2.c l, by decide, by decide, by show 1 * 1 ≤ sizeLine; decide, fun p hp => ?_⟩
        have w3 := w2.new hp (.lst (List.replicate (1 : Int).toNat [V.int t]).flatten)
        refine ⟨o, p, _, _, rfl, rfl, w3.c o, w3.c p, Nat.le_of_lt (small1000 ?_), fun q hq => ?_⟩
        · show ((readsOf (ws.take i)).map V.int).length + 1 ≤ 1000
          rw [List.length_map]; omega
        have w4 := (((w3.new hq (.lst ((readsOf (ws.take i)).map V.int ++ (List.replicate (1 : Int).toNat [V.int t]).flatten))).x p).x l).x o
        refine ⟨q, _, _, rfl, ?_⟩
        rw [List.take_add_one, hi, Option.toList_some, readsOf_app, readsOf_one, if_pos hw, List.map_append]
        exact w4
      · rw [decide_eq_false (fun q => hw (by injection q))]
        refine iteF ⟨o, _, _, rfl, ?_⟩
        rw [List.take_add_one, hi, Option.toList_some, readsOf_app, readsOf_one, if_neg hw, List.append_nil]
        exact w
    · obtain ⟨o, tk, ev, rfl, w⟩ := h
      rw [List.length_map, ← hll, List.take_length] at w
      refine ⟨_, rfl, o, _, rfl, .inl ⟨SqL.of (w.c o), fun p hp => ?_⟩⟩
      have w2 := (w.newT hp ((readsOf ws).map V.int)).x o
      exact kk p _ (W.e (T := T') w2 (tupA p ((readsOf ws).map V.int)) (w2.f _))
end
end Su


set_option Elab.async false
set_option linter.all false
set_option maxRecDepth 100000
set_option maxHeartbeats 4000000
/-! calm runs in plain numbers: a check of all small ones -/
namespace Su
def mxN (a b : Nat) : Nat := cond (Nat.ble a b) b a
/-- a packet's leaving, the sending -/
def lvN (lo rate gap most n : Nat) : Nat := cond (Nat.ble (2 * lo + rate) (most * mxN rate gap)) (rate + n * mxN rate gap) (rate + n / most * (2 * lo + rate) + n % most * mxN rate gap)
def sN (lo rate gap most n : Nat) : Nat := cond (Nat.ble (2 * lo + rate) (most * mxN rate gap))
  (cond (Nat.ble most n) (mxN (n * gap) (rate + (n - most) * mxN rate gap + 2 * lo)) (n * gap))
  (cond (Nat.ble most n) (n / most * (2 * lo + rate) + n % most * mxN rate gap) (n * gap))
def tripN (lo rate gap most : Nat) : Nat := cond (Nat.ble rate gap || Nat.beq most 1) (2 * lo + rate) (most * rate + (2 * lo - (most - 1) * gap))
def roomN (lo rate gap most : Nat) : Nat := (tripN lo rate gap most - 2 * lo + (rate - 1)) / rate
def rtN (lo rate gap most n : Nat) : Nat := lvN lo rate gap most n - sN lo rate gap most n + 2 * lo
/-- smoothed and spread, by 8 ^ (m + 1) and 2 * 8 ^ (m + 1) -/
def SN (r : Nat → Nat) : Nat → Nat
  | 0 => 8 * r 0
  | m + 1 => 7 * SN r m + 8 ^ (m + 1) * r (m + 1)
def PN (r : Nat → Nat) : Nat → Nat
  | 0 => 8 * r 0
  | m + 1 => 6 * PN r m + 4 * ((SN r m - 8 ^ (m + 1) * r (m + 1)) + (8 ^ (m + 1) * r (m + 1) - SN r m))
def allN : Nat → (Nat → Bool) → Bool
  | 0, _ => true
  | n + 1, f => f n && allN n f
theorem allN_at {f : Nat → Bool} : ∀ {n : Nat}, allN n f = true → ∀ i, i < n → f i = true
  | 0, _, i, h => absurd h (Nat.not_lt_zero _)
  | n + 1, h, i, hi => by
    unfold allN at h
    rw [Bool.and_eq_true] at h
    rcases Nat.lt_succ_iff_lt_or_eq.mp hi with q | q
    · exact allN_at h.2 i q
    · rw [q]; exact h.1
def chk1 (s v : Nat → Nat) (lo gap rate most n : Nat) : Bool :=
  Nat.ble (s n + gap) (s (n + 1)) && ((Nat.beq (s (n + 1)) (s n + gap) || (Nat.ble most (n + 1) && Nat.beq (s (n + 1)) (v (n + 1 - most) + 2 * lo))) && (Nat.ble (v n + rate) (v (n + 1)) && (Nat.beq (v (n + 1)) (s (n + 1) + rate) || (Nat.ble (s (n + 1) + 1) (v n) && Nat.beq (v (n + 1)) (v n + rate)))))
def chk2 (s v : Nat → Nat) (lo rate most R n : Nat) : Bool :=
  (!Nat.ble most n || Nat.ble (v (n - most) + 2 * lo) (s n)) && (Nat.ble (s n + rate) (v n) && (Nat.ble (v n) (s n + rate * R) && (Nat.ble (v n) 1000 && allN n fun b => Nat.ble (v b) (s n) || Nat.ble (n - b + 1) R)))
def chk3 (r : Nat → Nat) (g m : Nat) : Bool := Nat.ble (r (m + 1)) 500 && Nat.ble (2 * r (m + 1) * 8 ^ (m + 1) + 1) (2 * SN r m + mxN (2 * g * 8 ^ (m + 1)) (4 * PN r m) + 2 * 8 ^ (m + 1))
def chk (lo rate gap most : Nat) : Bool :=
  Nat.beq (sN lo rate gap most 0) 0 && (Nat.beq (lvN lo rate gap most 0) rate && (Nat.ble 1 (roomN lo rate gap most) && (Nat.ble (roomN lo rate gap most) 30 && (allN 13 (chk1 (sN lo rate gap most) (lvN lo rate gap most) lo gap rate most) && (allN 14 (chk2 (sN lo rate gap most) (lvN lo rate gap most) lo rate most (roomN lo rate gap most)) && allN 13 (chk3 (rtN lo rate gap most) (3 * rate)))))))
def upTo (n : Nat) (f : Nat → Bool) : Bool := allN n fun i => f (i + 1)
theorem upTo_at {n : Nat} {f : Nat → Bool} (h : upTo n f = true) {i : Nat} (h1 : 1 ≤ i) (h2 : i ≤ n) : f i = true := by
  have q := allN_at h (i - 1) (by omega)
  rwa [show i - 1 + 1 = i from by omega] at q
def chkR (rate : Nat) : Bool := upTo 12 fun lo => upTo 7 fun gap => !Nat.ble gap (rate + 2) || upTo 6 fun most => chk lo rate gap most
set_option maxHeartbeats 0
theorem chk_1 : chkR 1 = true := by decide +kernel
theorem chk_2 : chkR 2 = true := by decide +kernel
theorem chk_3 : chkR 3 = true := by decide +kernel
theorem chk_4 : chkR 4 = true := by decide +kernel
theorem chk_5 : chkR 5 = true := by decide +kernel
end Su

set_option Elab.async false
set_option linter.all false
set_option maxRecDepth 100000
set_option maxHeartbeats 4000000
/-! the drawn small books run calmly -/
namespace Su
open PySem PySem.Spec PyProof.Rows L2
/-! ### fractions by their value -/
structure Eqv (x : Fr) (A D : Int) : Prop where
  p : 0 < x.2
  d : 0 < D
  e : x.1 * D = A * x.2
  g : Int.gcd x.1 x.2 = 1
theorem eqv_low {a b A D : Int} (hb : 0 < b) (hD : 0 < D) (e : a * D = A * b) : Eqv (lowF a b) A D := by
  have g0 := gI_pos (a := a) hb
  have ga : gI a b * (a / gI a b) = a := Int.mul_ediv_cancel' (Int.gcd_dvd_left a b)
  have gb : gI a b * (b / gI a b) = b := Int.mul_ediv_cancel' (Int.gcd_dvd_right a b)
  refine ⟨?_, hD, ?_, ?_⟩
  · exact Int.ediv_pos_of_pos_of_dvd hb (Int.le_of_lt g0) (Int.gcd_dvd_right a b)
  · show a / gI a b * D = A * (b / gI a b)
    refine Int.eq_of_mul_eq_mul_left (show gI a b ≠ 0 by omega) ?_
    generalize a / gI a b = u at ga ⊢
    generalize b / gI a b = v at gb ⊢
    generalize gI a b = w at ga gb ⊢
    subst ga gb
    grind
  · exact Int.gcd_ediv_gcd_ediv_gcd (Int.gcd_pos_of_ne_zero_right a (by omega))
theorem Eqv.conv {x : Fr} {A D B E : Int} (h : Eqv x A D) (hE : 0 < E) (e : A * E = B * D) : Eqv x B E := by
  refine ⟨h.p, hE, ?_, h.g⟩
  refine Int.eq_of_mul_eq_mul_right (show D ≠ 0 by have := h.d; omega) ?_
  have q := h.e
  generalize x.1 = u at q ⊢
  generalize x.2 = v at q ⊢
  grind
theorem eqv_int (r : Int) : Eqv (r, 1) r 1 := ⟨by show (0 : Int) < 1; decide, by decide, rfl, by show Int.gcd r 1 = 1; simp⟩
theorem eqv_prod {x y : Fr} {A D B E : Int} (h : Eqv x A D) (k : Eqv y B E) : Eqv (prodF x y) (A * B) (D * E) := by
  refine eqv_low (Int.mul_pos h.p k.p) (Int.mul_pos h.d k.d) ?_
  have q := h.e
  have q2 := k.e
  generalize x.1 = u at q ⊢
  generalize x.2 = v at q ⊢
  generalize y.1 = u' at q2 ⊢
  generalize y.2 = v' at q2 ⊢
  grind
theorem eqv_plus {x y : Fr} {A D B E : Int} (h : Eqv x A D) (k : Eqv y B E) : Eqv (plusF x y) (A * E + B * D) (D * E) := by
  refine eqv_low (Int.mul_pos h.p k.p) (Int.mul_pos h.d k.d) ?_
  have q := h.e
  have q2 := k.e
  generalize x.1 = u at q ⊢
  generalize x.2 = v at q ⊢
  generalize y.1 = u' at q2 ⊢
  generalize y.2 = v' at q2 ⊢
  grind
theorem absI_mul {u v p q : Int} (hp : 0 < p) (hq : 0 < q) (e : u * p = v * q) : absI u * p = absI v * q := by
  unfold absI
  by_cases h : u < 0
  · have h1 : u * p < 0 := Int.mul_neg_of_neg_of_pos h hp
    have h2 : v < 0 := by
      rcases Int.lt_or_le v 0 with z | z
      · exact z
      · have := Int.mul_nonneg z (Int.le_of_lt hq); omega
    rw [if_pos h, if_pos h2, Int.neg_mul, Int.neg_mul, e]
  · have h1 : 0 ≤ u * p := Int.mul_nonneg (by omega) (Int.le_of_lt hp)
    have h2 : ¬ v < 0 := fun z => by
      have := Int.mul_neg_of_neg_of_pos z hq; omega
    rw [if_neg h, if_neg h2, e]
theorem eqv_gap {x y : Fr} {A D B E : Int} (h : Eqv x A D) (k : Eqv y B E) : Eqv (gapF x y) (absI (A * E - B * D)) (D * E) := by
  refine eqv_low (Int.mul_pos h.p k.p) (Int.mul_pos h.d k.d) (absI_mul (Int.mul_pos h.d k.d) (Int.mul_pos h.p k.p) ?_)
  have q := h.e
  have q2 := k.e
  generalize x.1 = u at q ⊢
  generalize x.2 = v at q ⊢
  generalize y.1 = u' at q2 ⊢
  generalize y.2 = v' at q2 ⊢
  grind
theorem less_iff {y : Fr} {a A D : Int} (h : Eqv y A D) : lessF (a, 1) y = true ↔ a * D < A := by
  unfold lessF
  rw [decide_eq_true_iff]
  show a * y.2 < y.1 * 1 ↔ _
  rw [Int.mul_one]
  have q := h.e
  have hp := h.p
  have hd := h.d
  have e1 : y.1 * D - a * y.2 * D = (A - a * D) * y.2 := by
    generalize y.1 = u at q ⊢
    generalize y.2 = v at q ⊢
    grind
  have e2 : y.1 * D - a * y.2 * D = (y.1 - a * y.2) * D := by rw [Int.sub_mul]
  constructor
  · intro z
    have p1 : 0 < (y.1 - a * y.2) * D := Int.mul_pos (by omega) hd
    rw [← e2, e1] at p1
    have := Int.pos_of_mul_pos_left p1 hp
    omega
  · intro z
    have p1 : 0 < (A - a * D) * y.2 := Int.mul_pos (by omega) hp
    rw [← e1, e2] at p1
    have := Int.pos_of_mul_pos_left p1 hd
    omega
theorem eqv_sm {x : Fr} {A D : Int} {n : Nat} (h : Eqv x A D) (hA : A.natAbs < 2 ^ n) (hD : D.natAbs < 2 ^ n) : Sm n x := by
  have hp := h.p
  have hd := h.d
  have e1 : x.1.natAbs * D.natAbs = A.natAbs * x.2.natAbs := by rw [← Int.natAbs_mul, h.e, Int.natAbs_mul]
  have dv : x.2.natAbs ∣ D.natAbs := Nat.Coprime.dvd_of_dvd_mul_left (m := x.1.natAbs) (by rw [Nat.coprime_comm]; exact h.g) ⟨A.natAbs, by rw [e1, Nat.mul_comm]⟩
  have le := Nat.le_of_dvd (by omega) dv
  refine ⟨?_, hp, by omega⟩
  have l1 : A.natAbs * x.2.natAbs ≤ A.natAbs * D.natAbs := Nat.mul_le_mul_left _ (by omega)
  have l2 : x.1.natAbs * D.natAbs ≤ A.natAbs * D.natAbs := by omega
  exact Nat.lt_of_le_of_lt (Nat.le_of_mul_le_mul_right l2 (by omega)) hA
end Su

set_option Elab.async false
set_option linter.all false
set_option maxRecDepth 100000
set_option maxHeartbeats 4000000
/-! the timer of a calm run; the run -/
namespace Su
open PySem PySem.Spec PyProof.Rows L2
theorem absN (a b : Nat) : (((a - b) + (b - a) : Nat) : Int) = absI ((a : Int) - b) := by unfold absI; split <;> omega
/-- the pair of round trips behind m + 1 samples -/
theorem prN_val {c : Cf} {r : Nat → Nat} : ∀ m : Nat, (∀ i, i ≤ m → c.h i - c.s i = r i) → ∃ x : Fr × Fr, prN c (m + 1) = some x ∧ Eqv x.1 (SN r m) ((8 ^ (m + 1) : Nat) : Int) ∧ Eqv x.2 (PN r m) ((2 * 8 ^ (m + 1) : Nat) : Int)
  | 0, hr => by
    refine ⟨_, rfl, ?_, ?_⟩
    · show Eqv (c.h 0 - c.s 0, 1) _ _
      rw [hr 0 (Nat.le_refl _)]
      exact (eqv_int _).conv (by decide) (by show (r 0 : Int) * ((8 ^ 1 : Nat) : Int) = ((8 * r 0 : Nat) : Int) * 1; omega)
    · show Eqv (lowF (c.h 0 - c.s 0) 2) _ _
      rw [hr 0 (Nat.le_refl _)]
      exact eqv_low (by decide) (by decide) (by show (r 0 : Int) * ((2 * 8 ^ 1 : Nat) : Int) = ((8 * r 0 : Nat) : Int) * 2; omega)
  | m + 1, hr => by
    obtain ⟨x, e, h1, h2⟩ := prN_val m fun i hi => hr i (by omega)
    have hw : (0 : Int) < ((8 ^ (m + 1) : Nat) : Int) := by have := Nat.pow_pos (n := m + 1) (show 0 < 8 by decide); omega
    have e8 : 8 ^ (m + 1 + 1) = 8 * 8 ^ (m + 1) := by rw [Nat.pow_succ 8 (m + 1), Nat.mul_comm]
    refine ⟨_, by show some (nextP (prN c (m + 1)) (c.h (m + 1) - c.s (m + 1))) = _; rw [e, hr (m + 1) (Nat.le_refl _)], ?_, ?_⟩
    · show Eqv (plusF (prodF (7, 8) x.1) (prodF (1, 8) ((r (m + 1) : Int), 1))) _ _
      have c7 : Eqv ((7 : Int), (8 : Int)) 7 8 := ⟨by decide, by decide, rfl, by decide⟩
      have c1 : Eqv ((1 : Int), (8 : Int)) 1 8 := ⟨by decide, by decide, rfl, by decide⟩
      refine (eqv_plus (eqv_prod c7 h1) (eqv_prod c1 (eqv_int (r (m + 1))))).conv (by rw [e8]; omega) ?_
      rw [e8]
      show _ = (((7 * SN r m + 8 ^ (m + 1) * r (m + 1) : Nat)) : Int) * _
      generalize 8 ^ (m + 1) = w
      generalize SN r m = s
      generalize r (m + 1) = k
      push_cast
      grind
    · show Eqv (plusF (prodF (3, 4) x.2) (prodF (1, 4) (gapF x.1 ((r (m + 1) : Int), 1)))) _ _
      have c7 : Eqv ((3 : Int), (4 : Int)) 3 4 := ⟨by decide, by decide, rfl, by decide⟩
      have c1 : Eqv ((1 : Int), (4 : Int)) 1 4 := ⟨by decide, by decide, rfl, by decide⟩
      refine (eqv_plus (eqv_prod c7 h2) (eqv_prod c1 (eqv_gap h1 (eqv_int (r (m + 1)))))).conv (by rw [e8]; omega) ?_
      rw [e8]
      show _ = (((6 * PN r m + 4 * ((SN r m - 8 ^ (m + 1) * r (m + 1)) + (8 ^ (m + 1) * r (m + 1) - SN r m)) : Nat)) : Int) * _
      rw [Int.natCast_add, Int.natCast_mul 4, absN]
      generalize 8 ^ (m + 1) = w
      generalize SN r m = s
      generalize PN r m = q
      generalize r (m + 1) = k
      rw [show ((s : Int) * 1 - (k : Int) * (w : Int)) = (s : Int) - ((w * k : Nat) : Int) from by rw [Int.mul_one, Int.natCast_mul, Int.mul_comm (k : Int)]]
      generalize absI ((s : Int) - ((w * k : Nat) : Int)) = a
      push_cast
      grind
theorem SN_le {r : Nat → Nat} : ∀ m : Nat, (∀ i, i ≤ m → r i ≤ 500) → SN r m ≤ 500 * 8 ^ (m + 1)
  | 0, h => by have := h 0 (Nat.le_refl _); show 8 * r 0 ≤ 500 * 8 ^ 1; omega
  | m + 1, h => by
    have q := SN_le m fun i hi => h i (by omega)
    have q2 : 8 ^ (m + 1) * r (m + 1) ≤ 8 ^ (m + 1) * 500 := Nat.mul_le_mul_left _ (h (m + 1) (Nat.le_refl _))
    show 7 * SN r m + 8 ^ (m + 1) * r (m + 1) ≤ 500 * 8 ^ (m + 1 + 1)
    rw [Nat.pow_succ 8 (m + 1)]
    omega
theorem PN_le {r : Nat → Nat} : ∀ m : Nat, (∀ i, i ≤ m → r i ≤ 500) → PN r m ≤ 1000 * 8 ^ (m + 1)
  | 0, h => by have := h 0 (Nat.le_refl _); show 8 * r 0 ≤ 1000 * 8 ^ 1; omega
  | m + 1, h => by
    have q := PN_le m fun i hi => h i (by omega)
    have q1 := SN_le m fun i hi => h i (by omega)
    have q2 : 8 ^ (m + 1) * r (m + 1) ≤ 8 ^ (m + 1) * 500 := Nat.mul_le_mul_left _ (h (m + 1) (Nat.le_refl _))
    show 6 * PN r m + 4 * ((SN r m - 8 ^ (m + 1) * r (m + 1)) + (8 ^ (m + 1) * r (m + 1) - SN r m)) ≤ 1000 * 8 ^ (m + 1 + 1)
    rw [Nat.pow_succ 8 (m + 1)]
    omega
theorem pow14 {m : Nat} (h : m < 14) : 8 ^ (m + 1) ≤ 8 ^ 14 := Nat.pow_le_pow_right (by decide) (by omega)
theorem smP_of {c : Cf} {r : Nat → Nat} {n : Nat} (hn : n ≤ 14) (hr : ∀ i, i < n → c.h i - c.s i = r i) (h5 : ∀ i, i < n → r i ≤ 500) : SmP (prN c n) := by
  cases n with
  | zero => exact trivial
  | succ m =>
    obtain ⟨x, e, h1, h2⟩ := prN_val (c := c) (r := r) m fun i hi => hr i (by omega)
    rw [e]
    have p := pow14 (show m < 14 by omega)
    have q1 := SN_le (r := r) m fun i hi => h5 i (by omega)
    have q2 := PN_le (r := r) m fun i hi => h5 i (by omega)
    have b : 1000 * 8 ^ 14 < 2 ^ 300 := by decide
    refine ⟨eqv_sm h1 ?_ ?_, eqv_sm h2 ?_ ?_⟩ <;> rw [Int.natAbs_natCast] <;> omega
theorem tim_0 {c : Cf} (h : c.h 0 - c.s 0 - 1 < c.first + (if 2 * c.first > c.grain then 2 * c.first else c.grain)) : lessF (c.h 0 - c.s 0 - 1, 1) (prodF (lenV c (prN c 0)) (1, 1)) = true := by
  refine (less_iff (eqv_prod (eqv_int (c.first + (if 2 * c.first > c.grain then 2 * c.first else c.grain) + 0)) (eqv_int 1))).mpr ?_
  omega
theorem tim_s {c : Cf} {r : Nat → Nat} {m g : Nat} (hr : ∀ i, i ≤ m + 1 → c.h i - c.s i = r i) (hg : (g : Int) ≤ c.grain) (h : chk3 r g m = true) : lessF (c.h (m + 1) - c.s (m + 1) - 1, 1) (prodF (lenV c (prN c (m + 1))) (1, 1)) = true := by
  obtain ⟨x, e, h1, h2⟩ := prN_val (c := c) (r := r) m fun i hi => hr i (by omega)
  rw [e, hr (m + 1) (Nat.le_refl _)]
  unfold chk3 mxN at h
  rw [Bool.and_eq_true, Nat.ble_eq, Nat.ble_eq] at h
  have h := h.2
  have w0 := Nat.pow_pos (n := m + 1) (show 0 < 8 by decide)
  have c4 : Eqv ((4 : Int), (1 : Int)) 4 1 := ⟨by decide, by decide, rfl, by decide⟩
  have h4 := eqv_prod c4 h2
  generalize 8 ^ (m + 1) = w at h1 h2 h4 h w0
  generalize SN r m = s at h1 h
  generalize PN r m = q at h2 h4 h
  generalize r (m + 1) = k at h ⊢
  show lessF _ (prodF (plusF (plusF x.1 (maxF (c.grain, 1) (prodF (4, 1) x.2))) (0, 1)) (1, 1)) = true
  by_cases hl : lessF (c.grain, 1) (prodF (4, 1) x.2) = true
  · have hm : maxF (c.grain, 1) (prodF (4, 1) x.2) = prodF (4, 1) x.2 := by unfold maxF; rw [if_pos hl]
    have hv := (less_iff h4).mp hl
    rw [hm]
    refine (less_iff (eqv_prod (eqv_plus (eqv_plus h1 h4) (eqv_int 0)) (eqv_int 1))).mpr ?_
    have key : 2 * (k : Int) * w < 2 * s + 4 * q + 2 * w := by
      have e1 : ((2 * g * w : Nat) : Int) ≤ 2 * c.grain * w := by
        rw [Int.natCast_mul, Int.natCast_mul]
        exact Int.mul_le_mul_of_nonneg_right (by omega) (by omega)
      have e2 : 2 * c.grain * w < 4 * q := by
        have z : c.grain * (1 * ((2 * w : Nat) : Int)) = 2 * c.grain * w := by push_cast; grind
        rw [z] at hv; exact hv
      have e3 : ((cond (Nat.ble (2 * g * w) (4 * q)) (4 * q) (2 * g * w) : Nat) : Int) ≤ 4 * q := by
        cases hb : Nat.ble (2 * g * w) (4 * q)
        · show ((2 * g * w : Nat) : Int) ≤ _; omega
        · show ((4 * q : Nat) : Int) ≤ _; omega
      have e4 : ((2 * k * w : Nat) : Int) = 2 * k * w := by push_cast; rfl
      omega
    have hw : (0 : Int) < w := by omega
    have z : 0 < (2 * (s : Int) + 4 * q + 2 * w - 2 * (k : Int) * w) * w := Int.mul_pos (by omega) hw
    push_cast
    generalize (w : Int) = w' at z ⊢
    generalize (s : Int) = s' at z ⊢
    generalize (q : Int) = q' at z ⊢
    generalize (k : Int) = k' at z ⊢
    grind
  · have hm : maxF (c.grain, 1) (prodF (4, 1) x.2) = (c.grain, 1) := by unfold maxF; rw [if_neg hl]
    have hv : ¬ c.grain * (1 * ((2 * w : Nat) : Int)) < 4 * q := fun z => hl ((less_iff h4).mpr z)
    rw [hm]
    refine (less_iff (eqv_prod (eqv_plus (eqv_plus h1 (eqv_int c.grain)) (eqv_int 0)) (eqv_int 1))).mpr ?_
    have z0 : c.grain * (1 * ((2 * w : Nat) : Int)) = 2 * c.grain * w := by push_cast; grind
    rw [z0] at hv
    have key : 2 * (k : Int) * w < 2 * s + 2 * c.grain * w + 2 * w := by
      have e1 : ((2 * g * w : Nat) : Int) ≤ 2 * c.grain * w := by
        rw [Int.natCast_mul, Int.natCast_mul]
        exact Int.mul_le_mul_of_nonneg_right (by omega) (by omega)
      have e3 : ((cond (Nat.ble (2 * g * w) (4 * q)) (4 * q) (2 * g * w) : Nat) : Int) ≤ 2 * c.grain * w := by
        cases hb : Nat.ble (2 * g * w) (4 * q)
        · show ((2 * g * w : Nat) : Int) ≤ _; omega
        · show ((4 * q : Nat) : Int) ≤ _; omega
      have e4 : ((2 * k * w : Nat) : Int) = 2 * k * w := by push_cast; rfl
      omega
    generalize (w : Int) = w' at key ⊢
    generalize (s : Int) = s' at key ⊢
    generalize (k : Int) = k' at key ⊢
    generalize c.grain = g' at key ⊢
    have : 2 * k' * w' = 2 * (k' * w') := by grind
    have : 2 * g' * w' = 2 * (g' * w') := by grind
    have : (k' - 1) * (w' * 1 * 1 * 1) = k' * w' - w' := by grind
    omega
end Su

set_option Elab.async false
set_option linter.all false
set_option maxRecDepth 100000
set_option maxHeartbeats 4000000
/-! every drawn small book runs calmly -/
namespace Su
open PySem PySem.Spec PyProof.Rows L2
section
variable (l r g m : Nat)
theorem mx_int : (if (r : Int) > (g : Int) then (r : Int) else g) = ((mxN r g : Nat) : Int) := by
  unfold mxN
  cases hb : Nat.ble r g
  · have : ¬ r ≤ g := fun z => by rw [Nat.ble_eq.mpr z] at hb; cases hb
    rw [if_pos (by omega)]; rfl
  · have : r ≤ g := Nat.ble_eq.mp hb
    rw [if_neg (by omega)]; rfl
theorem tickF_nat (n : Nat) : tickF l r g m n = (l : Int) + (lvN l r g m n : Nat) := by
  unfold tickF lvN
  rw [mx_int]
  cases hb : Nat.ble (2 * l + r) (m * mxN r g)
  · have : ¬ 2 * l + r ≤ m * mxN r g := fun z => by rw [Nat.ble_eq.mpr z] at hb; cases hb
    rw [if_neg (by intro z; exact this (by exact_mod_cast z))]
    show _ = (l : Int) + ((r + n / m * (2 * l + r) + n % m * mxN r g : Nat) : Int)
    push_cast
    omega
  · have : 2 * l + r ≤ m * mxN r g := Nat.ble_eq.mp hb
    rw [if_pos (by exact_mod_cast this)]
    show _ = (l : Int) + ((r + n * mxN r g : Nat) : Int)
    push_cast
    omega
theorem tripF_nat (hl : 1 ≤ m) : tripF l r g m = (tripN l r g m : Nat) ∧ 2 * l ≤ tripN l r g m := by
  unfold tripF tripN
  cases hb : (Nat.ble r g || Nat.beq m 1)
  · have h1 : ¬ r ≤ g := fun z => by rw [Nat.ble_eq.mpr z] at hb; cases hb
    have h2 : ¬ m = 1 := fun z => by subst z; rw [Bool.or_eq_false_iff] at hb; cases hb.2
    rw [if_neg (fun z => z.elim (fun z => h1 (by omega)) fun z => h2 (by omega))]
    show (m : Int) * r + _ = ((m * r + (2 * l - (m - 1) * g) : Nat) : Int) ∧ 2 * l ≤ m * r + (2 * l - (m - 1) * g)
    have e : ((m : Int) - 1) * g = (((m - 1) * g : Nat) : Int) := by rw [Int.natCast_mul]; congr 1; omega
    have e2 : ((m : Int) * r) = ((m * r : Nat) : Int) := by rw [Int.natCast_mul]
    have e3 : (m - 1) * g ≤ m * r := Nat.mul_le_mul (by omega) (by omega)
    rw [e, e2]
    generalize (m - 1) * g = u at e3 ⊢
    generalize m * r = v at e3 ⊢
    refine ⟨?_, by omega⟩
    split <;> omega
  · have h : r ≤ g ∨ m = 1 := by
      rcases Bool.or_eq_true _ _ ▸ hb with z | z
      · exact .inl (Nat.ble_eq.mp z)
      · exact .inr (Nat.eq_of_beq_eq_true z)
    rw [if_pos (h.elim (fun z => .inl (by omega)) fun z => .inr (by omega))]
    show _ = ((2 * l + r : Nat) : Int) ∧ 2 * l ≤ 2 * l + r
    omega
theorem roomF_nat (hm : 1 ≤ m) (h1 : 1 ≤ r) (h5 : r ≤ 5) : roomF l r g m = (roomN l r g m : Nat) := by
  obtain ⟨e, h⟩ := tripF_nat l r g m hm
  unfold roomF roomN
  rw [e]
  generalize tripN l r g m = t at h ⊢
  have : r = 1 ∨ r = 2 ∨ r = 3 ∨ r = 4 ∨ r = 5 := by omega
  rcases this with z | z | z | z | z <;> subst z <;> omega
end
theorem chk_all {l r g m : Nat} (l1 : 1 ≤ l) (l2 : l ≤ 12) (r1 : 1 ≤ r) (r2 : r ≤ 5) (g1 : 1 ≤ g) (g2 : g ≤ r + 2) (m1 : 1 ≤ m) (m2 : m ≤ 6) : chk l r g m = true := by
  have h : chkR r = true := by
    have : r = 1 ∨ r = 2 ∨ r = 3 ∨ r = 4 ∨ r = 5 := by omega
    rcases this with z | z | z | z | z <;> subst z
    · exact chk_1
    · exact chk_2
    · exact chk_3
    · exact chk_4
    · exact chk_5
  unfold chkR at h
  have a := upTo_at (upTo_at h l1 l2) g1 (show g ≤ 7 by omega)
  rw [Nat.ble_eq.mpr g2] at a
  exact upTo_at (f := fun most => chk l r g most) (by simpa using a) m1 m2
theorem run_of {c : Cf} (D : Drawn c 12 5 6) {short : Nat} (hs : short ≤ 14) : ∃ s lv : Nat → Int, Run { c with short := short, s := s, lv := lv } ∧ ∀ n : Nat, c.lo + lv n = tickF c.lo c.rate c.gap c.most n := by
  obtain ⟨lo, rate, room, gap, most, grain, first, rule, short0, s0, lv0⟩ := c
  obtain ⟨⟨a1, a2⟩, ⟨b1, b2⟩, ⟨c1, c2⟩, ⟨d1, d2, d3⟩, hg, ⟨f1, f2, f3⟩, e1, e2⟩ := D
  simp only at a1 a2 b1 b2 c1 c2 d1 d2 d3 hg f1 f2 f3 e1 e2
  obtain ⟨l, rfl⟩ := Int.eq_ofNat_of_zero_le (show 0 ≤ lo by omega)
  obtain ⟨r, rfl⟩ := Int.eq_ofNat_of_zero_le (show 0 ≤ rate by omega)
  obtain ⟨g, rfl⟩ := Int.eq_ofNat_of_zero_le (show 0 ≤ gap by omega)
  obtain ⟨m, rfl⟩ := Int.eq_ofNat_of_zero_le (show 0 ≤ most by omega)
  have hc := chk_all (l := l) (r := r) (g := g) (m := m) (by omega) (by omega) (by omega) (by omega) (by omega) (by omega) (by omega) (by omega)
  unfold chk at hc
  simp only [Bool.and_eq_true] at hc
  obtain ⟨h0, h1, h2, h3, h4, h5, h6⟩ := hc
  have h0 := Nat.eq_of_beq_eq_true h0
  have h1 := Nat.eq_of_beq_eq_true h1
  have h2 := Nat.ble_eq.mp h2
  have h3 := Nat.ble_eq.mp h3
  have hR : (roomN l r g m : Int) ≤ room := by
    have := roomF_nat l r g m (by omega) (by omega) (by omega)
    omega
  have k1 := fun n (hn : n < 13) => allN_at h4 n hn
  have k2 := fun n (hn : n < 14) => allN_at h5 n hn
  have k3 := fun n (hn : n < 13) => allN_at h6 n hn
  generalize hR2 : roomN l r g m = R at h2 h3 hR k2
  let s : Nat → Nat := sN l r g m
  let v : Nat → Nat := lvN l r g m
  have q1 : ∀ n, n < 13 → s n + g ≤ s (n + 1) ∧ (s (n + 1) = s n + g ∨ m ≤ n + 1 ∧ s (n + 1) = v (n + 1 - m) + 2 * l) ∧ v n + r ≤ v (n + 1) ∧ (v (n + 1) = s (n + 1) + r ∨ s (n + 1) + 1 ≤ v n ∧ v (n + 1) = v n + r) := fun n hn => by
    have z := k1 n hn
    unfold chk1 at z
    simp only [Bool.and_eq_true, Bool.or_eq_true, Nat.ble_eq, Nat.beq_eq] at z
    exact z
  have q2 : ∀ n, n < 14 → (m ≤ n → v (n - m) + 2 * l ≤ s n) ∧ s n + r ≤ v n ∧ v n ≤ s n + r * R ∧ v n ≤ 1000 ∧ ∀ b, b < n → v b ≤ s n ∨ n - b + 1 ≤ R := fun n hn => by
    have z := k2 n hn
    unfold chk2 at z
    simp only [Bool.and_eq_true, Bool.or_eq_true, Nat.ble_eq, Bool.not_eq_true', Bool.not_eq_false'] at z
    refine ⟨fun hm => ?_, z.2.1, z.2.2.1, z.2.2.2.1, fun b hb => ?_⟩
    · rcases z.1 with y | y
      · rw [Nat.ble_eq.mpr hm] at y; cases y
      · exact y
    · have y := allN_at z.2.2.2.2 b hb
      simp only [Bool.or_eq_true, Nat.ble_eq] at y
      exact y
  have q3 : ∀ n, n < 13 → rtN l r g m (n + 1) ≤ 500 := fun n hn => by
    have z := k3 n hn
    unfold chk3 at z
    simp only [Bool.and_eq_true, Nat.ble_eq] at z
    exact z.1
  have rt : ∀ n, n < 14 → rtN l r g m n = v n - s n + 2 * l := fun _ _ => rfl
  have q4 : ∀ n, n < 14 → rtN l r g m n ≤ 500 := fun n hn => by
    cases n with
    | zero => rw [rt 0 hn]; show lvN l r g m 0 - sN l r g m 0 + 2 * l ≤ 500; omega
    | succ k => exact q3 k (by omega)
  refine ⟨fun n => (s n : Nat), fun n => (v n : Nat), ?_, fun n => (tickF_nat l r g m n).symm⟩
  have hh : ∀ n, n < 14 → ((l : Int) + (v n : Nat) + l) - (s n : Nat) = (rtN l r g m n : Nat) := fun n hn => by
    have := (q2 n hn).2.1
    have := rt n hn
    omega
  refine { sh := hs, lo1 := a1, rate1 := b1, most1 := c1, gap1 := d1, lo2 := ?_, rate2 := ?_, most2 := ?_, gap2 := ?_, room2 := ?_, grain2 := ?_, first2 := ?_, s0 := ?_, sgap := ?_, swin := ?_, snext := ?_, lv0 := ?_, lv1 := ?_, lv2 := ?_, lvr := ?_, room := ?_, big := ?_, pair := ?_, tim := ?_ }
  · show (l : Int) < 10000; omega
  · show (r : Int) < 10000; omega
  · show (m : Int) < 10000; omega
  · show (g : Int) < 10000; omega
  · show (0 : Int) ≤ room ∧ room < 10000; omega
  · show (0 : Int) ≤ grain ∧ grain < 10000; omega
  · show (0 : Int) ≤ first ∧ first < 10000; omega
  · show ((s 0 : Nat) : Int) = 0; show ((sN l r g m 0 : Nat) : Int) = 0; omega
  · intro n hn
    have hn : n + 1 < short := hn
    have := (q1 n (by omega)).1
    show ((s n : Nat) : Int) + g ≤ (s (n + 1) : Nat); omega
  · intro n k hn hk
    have hn : n < short := hn
    have hk : (k : Int) = (n : Int) - m := hk
    have := (q2 n (by omega)).1 (by omega)
    have e : n - m = k := by omega
    rw [e] at this
    show (l : Int) + (v k : Nat) + l ≤ (s n : Nat); omega
  · intro n hn
    have hn : n + 1 < short := hn
    rcases (q1 n (by omega)).2.1 with z | ⟨z1, z2⟩
    · exact .inl (by show ((s (n + 1) : Nat) : Int) = (s n : Nat) + g; omega)
    · exact .inr ⟨n + 1 - m, by show ((n + 1 - m : Nat) : Int) = (n : Int) + 1 - m; omega, by show ((s (n + 1) : Nat) : Int) = (l : Int) + (v (n + 1 - m) : Nat) + l; omega⟩
  · intro n hn
    have hn : n < short := hn
    have := (q2 n (by omega)).2.1
    show ((s n : Nat) : Int) + r ≤ (v n : Nat); omega
  · intro n hn
    have hn : n + 1 < short := hn
    have := (q1 n (by omega)).2.2.1
    show ((v n : Nat) : Int) + r ≤ (v (n + 1) : Nat); omega
  · intro n hn
    have hn : n < short := hn
    cases n with
    | zero => exact .inl (by show ((lvN l r g m 0 : Nat) : Int) = (sN l r g m 0 : Nat) + r; omega)
    | succ k =>
      rcases (q1 k (by omega)).2.2.2 with z | ⟨z1, z2⟩
      · exact .inl (by show ((v (k + 1) : Nat) : Int) = (s (k + 1) : Nat) + r; omega)
      · exact .inr ⟨k, rfl, by show ((s (k + 1) : Nat) : Int) < (v k : Nat); omega, by show ((v (k + 1) : Nat) : Int) = (v k : Nat) + r; omega⟩
  · intro n hn
    have hn : n < short := hn
    have z := (q2 n (by omega)).2.2.1
    have y : (r : Int) * R ≤ r * room := Int.mul_le_mul_of_nonneg_left hR (by omega)
    have e : ((r * R : Nat) : Int) = (r : Int) * R := Int.natCast_mul r R
    show ((v n : Nat) : Int) ≤ (s n : Nat) + r * room
    omega
  · intro n b hn hb hj
    have hn : n < short := hn
    show ((n - b : Nat) : Int) < room
    rcases Nat.lt_or_ge b n with z | z
    · have y := hj b (Nat.le_refl _) z
      have y : ((s n : Nat) : Int) < (v b : Nat) := y
      rcases (q2 n (by omega)).2.2.2.2 b z with x | x
      · omega
      · omega
    · omega
  · intro n hn
    have hn : n < short := hn
    have := (q2 n (by omega)).2.2.2.1
    show (l : Int) + (v n : Nat) + l < 100000; omega
  · intro n hn
    have hn : n ≤ short := hn
    exact smP_of (r := rtN l r g m) (by omega) (fun i hi => hh i (by omega)) fun i hi => q4 i (by omega)
  · intro n hn
    have hn : n < short := hn
    cases n with
    | zero =>
      refine tim_0 ?_
      have z := hh 0 (by decide)
      have z2 := rt 0 (by decide)
      have z3 : v 0 = lvN l r g m 0 := rfl
      have z4 : s 0 = sN l r g m 0 := rfl
      unfold FirstOk maxI at f3
      show (l : Int) + (v 0 : Nat) + l - (s 0 : Nat) - 1 < first + (if 2 * first > grain then 2 * first else grain)
      omega
    | succ k => exact tim_s (r := rtN l r g m) (m := k) (g := 3 * r) (fun i hi => hh i (by omega)) (by show ((3 * r : Nat) : Int) ≤ grain; omega) (k3 k (by omega))
end Su

set_option Elab.async false
set_option linter.all false
set_option maxRecDepth 100000
set_option maxHeartbeats 2000000
set_option synthInstance.maxSize 100000
set_option synthInstance.maxHeartbeats 2000000
/-! the law -/
namespace Su
open PySem PySem.Spec PyProof.Rows L2
def spLaw (K : PySem.W.Frag) : Sp := fun vs H Q _ => ∃ (a : Addr) (ns : List Int), vs = [.ref a] ∧ SqL K H a (ns.map V.int) ∧ ns.length ≤ 63 ∧ (tabA (Hz.tabW K (.met "Reader" "ack"))).φ H ∧ (tabA (Hz.tabW K (.met "Crossing" "tick"))).φ H ∧ ∀ H', Q (.bl true) H'
abbrev tabs (K : PySem.W.Frag) : List As := [tabA (Hz.tabW K (.met "Reader" "ack")), tabA (Hz.tabW K (.met "Crossing" "tick"))]
def ticks (c : Cf) (n : Nat) : List Int := (List.range n).map (tickF c.lo c.rate c.gap c.most)
theorem ticks_lF (c : Cf) (n : Nat) : (lF n fun n => .int (tickF c.lo c.rate c.gap c.most n)) = (ticks c n).map V.int := by
  unfold lF ticks; rw [List.map_map]; rfl
theorem ticks_len (c : Cf) (n : Nat) : (ticks c n).length = n := by unfold ticks; simp
theorem Drawn.sml {c : Cf} {a b m : Int} (D : Drawn c a b m) (ha : a ≤ 200) (hb : b ≤ 100) (hm : m ≤ 20) : Sml c.lo ∧ Sml c.rate ∧ Sml c.gap ∧ 0 < c.most ∧ Sml c.most := by
  have := D.lo; have := D.rate; have := D.gap; have := D.most
  unfold Sml; omega
theorem Bag.wf {x : BgA} {n : Nat} {M : List Cell} {T : List As} {H : Hp} (h : Bag x n M T H) : ∃ M', W H M' T ∧ ∀ H' T', W H' M' T' → Bag x n M T' H' := h.ww
section
variable {P : Program} {w : World} {K : PySem.W.Frag} {mg : Str → Option Value} {base : Heap}
theorem sc_law : FnScope ["script", "bag", "time", "book", "queue", "many", "due", "found", "short", "log"] ["script"] (defScope s_law) := ⟨rfl, rfl, rfl, by decide +kernel, rfl, by decide +kernel, by decide +kernel⟩
theorem ok_law {fd : FuncData} (F : Fun K "law" "law" s_law (Hz.Wh.at_ K (.glo "law")) fd) (T : Tp K mg base) : FnOk P w K mg base CX0 12 (Hz.Wh.at_ K (.glo "law")) fd ["script"] (spLaw K) := by
  obtain ⟨fdr, Fr, Gr⟩ := okF_reading_ticks (P := P) (w := w) T
  refine F.ok sc_law (fun vs H Q E h => ?_) (fun cdv A outer s H vs Q E hr h => ?_)
  · obtain ⟨a, ns, rfl, _⟩ := h; rfl
  · obtain ⟨a, ns, rfl, hS, hl, hb1, hb2, kk⟩ := h
    have nd := sc_law.nd
    have r1 := hr.mono (show 1 ≤ 11 by decide)
    have r2 := hr.mono (show 2 ≤ 11 by decide)
    have r4 := hr.mono (show 4 ≤ 11 by decide)
    have un := hr.un
    refine ⟨_, pss_cons (ps_set (i := 1) nd rfl (.inl rfl) (pe_d (ok_L_bag T) r1 T.g_law_bag (pa_cons (pv 0) pa_nil)))
      (pss_cons (ps_for PassesOwn.never rfl (pi_range1 rfl T.b_range (pa_cons pe_int pa_nil)) (pg_name (i := 2) nd rfl (.inl rfl))
        (pss_cons (ps_asg (pe_d (ok_L_drawn T) r4 T.g_law_drawn (pa_cons (pv 1) (pa_cons pe_int (pa_cons pe_int (pa_cons pe_int pa_nil))))) (pg_tup (n := 2) rfl (pgs_cons (pg_name (i := 3) nd rfl (.inl rfl)) (pgs_cons (pg_name (i := 4) nd rfl (.inl rfl)) pgs_nil))))
        (pss_cons (ps_set (i := 5) nd rfl (.inl rfl) (pe_op op_add pe_int (pe_d (ok_L_draw T) r1 T.g_law_draw (pa_cons (pv 1) (pa_cons pe_int pa_nil)))))
        (pss_cons (ps_if (pt_not (pt_val (pe_d (ok_L_same T) r2 T.g_law_same (pa_cons (pe_d (ok_reading_ticks T) r2 T.g_reading_ticks (pa_cons (pv 3) (pa_cons (pv 4) (pa_cons (pv 5) pa_nil)))) (pa_cons (pe_d (ok_L_own_ticks T) r2 T.g_law_own_ticks (pa_cons (pv 3) (pa_cons (pv 4) (pa_cons (pv 5) pa_nil)))) pa_nil))))) pss_never pss_nil)
        (pss_cons (ps_asg (pe_d (ok_L_drawn T) r4 T.g_law_drawn (pa_cons (pv 1) (pa_cons pe_int (pa_cons pe_int (pa_cons pe_int pa_nil))))) (pg_tup (n := 2) rfl (pgs_cons (pg_name (i := 3) nd rfl (.inl rfl)) (pgs_cons (pg_name (i := 4) nd rfl (.inl rfl)) pgs_nil))))
        (pss_cons (ps_set (i := 5) nd rfl (.inl rfl) (pe_op op_add pe_int (pe_d (ok_L_draw T) r1 T.g_law_draw (pa_cons (pv 1) (pa_cons pe_int pa_nil)))))
        (pss_cons (ps_set (i := 6) nd rfl (.inl rfl) (pe_d (ok_L_own_ticks T) r2 T.g_law_own_ticks (pa_cons (pv 3) (pa_cons (pv 4) (pa_cons (pv 5) pa_nil)))))
        (pss_cons (ps_set (i := 7) nd rfl (.inl rfl) (pe_ifExp (pt_cmpR op_eq (pv 2) pe_int (nomark _)) (pe_kw Gr r2 rfl T.g_reading_ticks Fr.kp (kb_reading_ticks Fr) pass0 (pk_cons (pv 5) (pk_cons (pv 4) (pk_cons (pv 3) pk_nil)))) (pe_d (ok_reading_ticks T) r2 T.g_reading_ticks (pa_cons (pv 3) (pa_cons (pv 4) (pa_cons (pv 5) pa_nil))))))
        (pss_cons (ps_if (pt_not (pt_val (pe_d (ok_L_same T) r2 T.g_law_same (pa_cons (pv 7) (pa_cons (pv 6) pa_nil))))) pss_never pss_nil)
        (pss_cons (ps_set (i := 8) nd rfl (.inl rfl) (pe_callB (call_min2 rfl) rfl T.b_min (by decide +kernel) (pa_cons (pv 5) (pa_cons pe_int pa_nil))))
        (pss_cons (ps_set (i := 9) nd rfl (.inl rfl) (pe_ix ix_tup (pe_d (ok_queued T) hr T.g_queued (pa_cons (pv 3) (pa_cons (pv 4) (pa_cons (pe_tup (pa_cons (pe_tup (pa_cons (pe_op op_repA (pe_tup (pa_cons pe_int pa_nil)) (pv 8)) (pa_cons pe_int (pa_cons pe_int pa_nil)))) pa_nil)) (pa_cons (pe_op op_add (pe_ix ix_tup (pv 6) (pe_op op_sub (pv 8) pe_int) (fun _ _ => rfl)) pe_int) pa_nil))))) pe_int (fun _ _ => rfl)))
        (pss_one (ps_if (pt_cmpR (op_neIs hr.units) (pe_d (ok_L_read_ticks T) r1 T.g_law_read_ticks (pa_cons (pv 9) pa_nil)) (pe_slice sl_tupB (pv 6) po_none (po_some (pv 8))) (nomark _)) pss_never pss_nil)))))))))))))
      (pss_one (ps_ret pe_bl))), ?_⟩
    let σ0 : Addr → Option V → Option V → Option V → Option V → Option V → Option V → Option V → Option V → L2.St := fun b t bk q m d f sh lg => [some (.ref a), some (.ref b), t, bk, q, m, d, f, sh, lg]
    have w0 : W H [] (tabs K) := ⟨List.nodup_nil, fun c hc => (nomatch hc), fun φ hφ => by
      rcases List.mem_cons.mp hφ with h | h
      · rw [h]; exact hb1
      · rw [List.mem_singleton.mp h]; exact hb2, fun c hc => (nomatch hc)⟩
    refine seq_mid (fun σ H => ∃ x : BgA, σ = σ0 x.b none none none none none none none none ∧ Bag x 0 [] (tabs K) H) (fun σ H y => ?tail1) (fun D' hD' _ => ?stmt1)
    case stmt1 => exact ⟨_, rfl, a, ns, tabs K, rfl, hS, hl, w0, fun x H' hb => hD' _ _ ⟨x, rfl, hb⟩⟩
    obtain ⟨x, rfl, b0⟩ := y
    clear w0
    refine seq_mid (fun σ H => True) (fun σ H y => kk _) (fun D' hD' _ => ?stmt2)
    refine ⟨3, rfl, by decide, by decide, ?_⟩
    refine for_range (lo := 0) (n := 3) (fun i σ H => ∃ t bk q m d f sh lg, σ = σ0 x.b t bk q m d f sh lg ∧ Bag x (62 * i) [] (tabs K) H) ⟨none, none, none, none, none, none, none, none, rfl, b0⟩ (fun i σ H hi h => ?_) (fun σ H h => hD' _ _ trivial)
    obtain ⟨t, bk, q, m, d, f, sh, lg, rfl, b1⟩ := h
    clear b0
    let tt : Option V := some (.int (0 + (i : Int)))
    refine seq_mid (fun σ H => ∃ (b q : Addr) (c : Cf), σ = σ0 x.b tt (some (.ref b)) (some (.ref q)) m d f sh lg ∧ Drawn c 200 100 20 ∧ Bag x (62 * i + 30) [] (bkA c b :: quA c q :: tabs K) H) (fun σ H y => ?tail3) (fun D' hD' _ => ?stmt3)
    case stmt3 =>
      refine ⟨_, rfl, x, 62 * i, 200, 100, 20, [], tabs K, rfl, b1, by omega, by decide, by decide, by decide, by decide, by decide, by decide, fun p b q c H' hc hb => ?_⟩
      exact ⟨p, [.ref b, .ref q], rfl, SqT.of (hb.f (tupA p [.ref b, .ref q])), rfl, _, _, rfl, _, _, rfl, rfl, hD' _ _ ⟨b, q, c, rfl, hc, hb.sub sub_tl⟩⟩
    obtain ⟨b, q, c, rfl, hc, b2⟩ := y
    clear b1
    refine seq_mid (fun σ H => ∃ k : Nat, σ = σ0 x.b tt (some (.ref b)) (some (.ref q)) (some (.int k)) d f sh lg ∧ k ≤ 60 ∧ Bag x (62 * i + 31) [] (bkA c b :: quA c q :: tabs K) H) (fun σ H y => ?tail4) (fun D' hD' _ => ?stmt4)
    case stmt4 =>
      refine ⟨_, rfl, x, 62 * i + 30, 60, [], _, rfl, b2, by omega, by decide, by decide, fun d' H' h0 h1 hb => ⟨_, _, rfl, rfl, hD' _ _ ⟨(1 + d').toNat, ?_, by omega, hb⟩⟩⟩
      rw [show (((1 + d').toNat : Nat) : Int) = 1 + d' from by omega]
      rfl
    obtain ⟨k, rfl, hk, b3⟩ := y
    clear b2
    obtain ⟨s1, s2, s3, s4, s5⟩ := hc.sml (by decide) (by decide) (by decide)
    refine seq_mid (fun σ H => σ = σ0 x.b tt (some (.ref b)) (some (.ref q)) (some (.int k)) d f sh lg ∧ Bag x (62 * i + 31) [] (tabs K) H) (fun σ H y => ?tail5) (fun D' hD' _ => ?stmt5)
    case stmt5 =>
      obtain ⟨M', w3, back⟩ := b3.ww
      refine ⟨_, rfl, _, rfl, _, rfl, c, b, q, k, M', _, rfl, w3, w3.f (bkA c b), w3.f (quA c q), hk, s1, s2, s3, s4, s5, fun p1 H1 w4 => ?_⟩
      refine ⟨_, rfl, _, rfl, _, rfl, c, b, q, k, M', _, rfl, w4, w4.f (bkA c b), w4.f (quA c q), hk, s1, s2, s3, s4, s5, fun p2 H2 w5 => ?_⟩
      refine ⟨p1, p2, ticks c k, rfl, ?_, ?_, by rw [ticks_len]; omega, _, rfl, iteF ?_⟩
      · rw [← ticks_lF]; exact w5.f (tupA p1 (lF k fun n => .int (tickF c.lo c.rate c.gap c.most n)))
      · rw [← ticks_lF]; exact w5.f (tupA p2 (lF k fun n => .int (tickF c.lo c.rate c.gap c.most n)))
      · exact hD' _ _ ⟨rfl, (back _ _ w5).sub fun ψ hψ => List.mem_cons_of_mem _ (List.mem_cons_of_mem _ (List.mem_cons_of_mem _ (List.mem_cons_of_mem _ hψ)))⟩
    obtain ⟨rfl, b4⟩ := y
    clear b3 hc s1 s2 s3 s4 s5
    refine seq_mid (fun σ H => ∃ (b q : Addr) (c : Cf), σ = σ0 x.b tt (some (.ref b)) (some (.ref q)) (some (.int k)) d f sh lg ∧ Drawn c 12 5 6 ∧ Bag x (62 * i + 61) [] (bkA c b :: quA c q :: tabs K) H) (fun σ H y => ?tail6) (fun D' hD' _ => ?stmt6)
    case stmt6 =>
      refine ⟨_, rfl, x, 62 * i + 31, 12, 5, 6, [], tabs K, rfl, b4, by omega, by decide, by decide, by decide, by decide, by decide, by decide, fun p b q c H' hc hb => ?_⟩
      exact ⟨p, [.ref b, .ref q], rfl, SqT.of (hb.f (tupA p [.ref b, .ref q])), rfl, _, _, rfl, _, _, rfl, rfl, hD' _ _ ⟨b, q, c, rfl, hc, hb.sub sub_tl⟩⟩
    obtain ⟨b, q, c, rfl, hc, b5⟩ := y
    clear b4
    refine seq_mid (fun σ H => ∃ k : Nat, σ = σ0 x.b tt (some (.ref b)) (some (.ref q)) (some (.int k)) d f sh lg ∧ 1 ≤ k ∧ k ≤ 60 ∧ Bag x (62 * i + 62) [] (bkA c b :: quA c q :: tabs K) H) (fun σ H y => ?tail7) (fun D' hD' _ => ?stmt7)
    case stmt7 =>
      refine ⟨_, rfl, x, 62 * i + 61, 60, [], _, rfl, b5, by omega, by decide, by decide, fun d' H' h0 h1 hb => ⟨_, _, rfl, rfl, hD' _ _ ⟨(1 + d').toNat, ?_, by omega, by omega, hb⟩⟩⟩
      rw [show (((1 + d').toNat : Nat) : Int) = 1 + d' from by omega]
      rfl
    obtain ⟨k, rfl, hk0, hk, b6⟩ := y
    clear b5
    obtain ⟨s1, s2, s3, s4, s5⟩ := hc.sml (by decide) (by decide) (by decide)
    obtain ⟨M', w6, back⟩ := b6.ww
    clear b6
    refine seq_mid (fun σ H => ∃ p, σ = σ0 x.b tt (some (.ref b)) (some (.ref q)) (some (.int k)) (some (.ref p)) f sh lg ∧ W H M' (tupA p ((ticks c k).map V.int) :: bkA c b :: quA c q :: tabs K)) (fun σ H y => ?tail8) (fun D' hD' _ => ?stmt8)
    case stmt8 =>
      refine ⟨_, rfl, _, rfl, _, rfl, c, b, q, k, M', _, rfl, w6, w6.f (bkA c b), w6.f (quA c q), hk, s1, s2, s3, s4, s5, fun p1 H1 w7 => ?_⟩
      rw [ticks_lF] at w7
      exact hD' _ _ ⟨p1, rfl, w7⟩
    obtain ⟨du, rfl, w7⟩ := y
    clear w6
    let TD : List As := tupA du ((ticks c k).map V.int) :: bkA c b :: quA c q :: tabs K
    refine seq_mid (fun σ H => ∃ p, σ = σ0 x.b tt (some (.ref b)) (some (.ref q)) (some (.int k)) (some (.ref du)) (some (.ref p)) sh lg ∧ W H M' (tupA p ((ticks c k).map V.int) :: TD)) (fun σ H y => ?tail9) (fun D' hD' _ => ?stmt9)
    case stmt9 =>
      refine ⟨_, rfl, rfl, _, rfl, ?_⟩
      cases decide (V.int (0 + (i : Int)) = V.int 0)
      · refine iteF ⟨_, rfl, _, rfl, _, rfl, c, b, q, k, M', TD, rfl, w7, w7.f (bkA c b), w7.f (quA c q), hk, s1, s2, s3, s4, s5, fun p1 H1 w8 => ?_⟩
        rw [ticks_lF] at w8
        exact hD' _ _ ⟨p1, rfl, w8⟩
      · refine iteT ⟨_, rfl, _, rfl, _, rfl, c, b, q, k, M', TD, rfl, w7, w7.f (bkA c b), w7.f (quA c q), hk, s1, s2, s3, s4, s5, fun p1 H1 w8 => ?_⟩
        rw [ticks_lF] at w8
        exact hD' _ _ ⟨p1, rfl, w8⟩
    obtain ⟨fo, rfl, w8⟩ := y
    clear w7
    refine seq_mid (fun σ H => σ = σ0 x.b tt (some (.ref b)) (some (.ref q)) (some (.int k)) (some (.ref du)) (some (.ref fo)) sh lg ∧ W H M' TD) (fun σ H y => ?tail10) (fun D' hD' _ => ?stmt10)
    case stmt10 =>
      refine ⟨_, rfl, _, rfl, fo, du, ticks c k, rfl, w8.f (tupA fo ((ticks c k).map V.int)), w8.f (tupA du ((ticks c k).map V.int)), by rw [ticks_len]; omega, _, rfl, iteF ?_⟩
      exact hD' _ _ ⟨rfl, W.e0 (T := TD) w8⟩
    obtain ⟨rfl, w9⟩ := y
    clear w8
    refine seq_mid (fun σ H => ∃ n : Nat, σ = σ0 x.b tt (some (.ref b)) (some (.ref q)) (some (.int k)) (some (.ref du)) (some (.ref fo)) (some (.int n)) lg ∧ 1 ≤ n ∧ n ≤ 14 ∧ n ≤ k ∧ W H M' TD) (fun σ H y => ?tail11) (fun D' hD' _ => ?stmt11)
    case stmt11 =>
      refine ⟨_, rfl, _, _, rfl, ?_⟩
      by_cases h14 : (14 : Int) < k
      · rw [if_pos h14]; exact hD' _ _ ⟨14, rfl, by decide, by decide, by omega, w9⟩
      · rw [if_neg h14]; exact hD' _ _ ⟨k, rfl, by omega, by omega, by omega, w9⟩
    obtain ⟨n, rfl, hn1, hn14, hnk, w10⟩ := y
    clear w9
    obtain ⟨sf, lvf, hR, hTk⟩ := run_of hc hn14
    let c' : Cf := { c with short := n, s := sf, lv := lvf }
    have hR : Run c' := hR
    have eA : ∀ j, c'.a j = tickF c.lo c.rate c.gap c.most j := hTk
    have amono : ∀ j, j < n → c'.a j ≤ c'.a (n - 1) := fun j hj => by
      by_cases e : j = n - 1
      · rw [e]; exact Int.le_refl _
      · have q1 : c'.lv j + c'.rate ≤ c'.lv (n - 1) := hR.lvlt (n := j) (m := n - 1) (by omega) (by show n - 1 < n; omega)
        have q2 : 1 ≤ c'.rate := hR.rate1
        show c'.lo + c'.lv j ≤ c'.lo + c'.lv (n - 1)
        omega
    have a0 : 0 ≤ c'.a (n - 1) ∧ c'.a (n - 1) < 100000 := by
      have q1 : c'.h (n - 1) < 100000 := hR.big (n - 1) (by show n - 1 < n; omega)
      have q2 : c'.s (n - 1) + c'.rate ≤ c'.lv (n - 1) := hR.lv0 (n - 1) (by show n - 1 < n; omega)
      have q3 : 0 ≤ c'.s (n - 1) := hR.s_0 (m := n - 1) (by show n - 1 < n; omega)
      have q4 : 1 ≤ c'.lo := hR.lo1
      have q5 : 1 ≤ c'.rate := hR.rate1
      have e1 : c'.h (n - 1) = c'.a (n - 1) + c'.lo := rfl
      have e2 : c'.a (n - 1) = c'.lo + c'.lv (n - 1) := rfl
      omega
    refine seq_mid (fun σ H => ∃ (lt : Addr) (ls : List Addr) (ws : List (Int × Str × Int)), σ = σ0 x.b tt (some (.ref b)) (some (.ref q)) (some (.int k)) (some (.ref du)) (some (.ref fo)) (some (.int n)) (some (.ref lt)) ∧ readsOf ws = (List.range n).map c'.a ∧ W H M' (tupA lt (ls.map V.ref) :: lgsA ws ls :: TD)) (fun σ H y => ?tail12) (fun D' hD' _ => ?stmt12)
    case stmt12 =>
      refine ⟨_, rfl, _, rfl, by show 1 ≤ sizeLine; decide, fun z hz => ?_⟩
      have w11 := w10.newT hz [.int 0]
      refine ⟨_, rfl, z, .int 0, n, rfl, rfl, SqT.of (w11.f (tupA z [.int 0])), by omega, by omega, fun tk H2 hcase => ?_⟩
      have w12 : W H2 M' (tupA tk (List.replicate n (V.int 0)) :: TD) := by
        rcases hcase with ⟨rfl, rfl, h1⟩ | ⟨h1, rfl⟩
        · have e : n = 1 := by omega
          rw [e]; exact w11
        · have w13 := w11.newT h1 (List.replicate n (V.int 0))
          exact W.e (T := TD) w13 (tupA tk (List.replicate n (V.int 0))) (w13.f _)
      refine ⟨by show 3 ≤ sizeLine; decide, fun st hst => ⟨by show 1 ≤ sizeLine; decide, fun dt hdt => ?_⟩⟩
      have w14 := (w12.newT hst [.ref tk, .int 60, .int 0]).newT hdt [.ref st]
      have e1 : atI ((ticks c k).map V.int) ((n : Int) - 1) = some (.int (tickF c.lo c.rate c.gap c.most (n - 1))) := by
        rw [show (n : Int) - 1 = ((n - 1 : Nat) : Int) from by omega, ← ticks_lF]
        exact atI_lF (by omega)
      refine ⟨_, rfl, _, rfl, _, _, rfl, rfl, du, _, _, _, rfl, rfl, SqT.of (w14.f (tupA du ((ticks c k).map V.int))), e1, _, _, rfl, rfl, ?_⟩
      have hti : tickF c.lo c.rate c.gap c.most (n - 1) = c'.a (n - 1) := (eA _).symm
      refine ⟨c', b, q, dt, _, M', _, rfl, hR, by rw [hti]; omega, by rw [hti]; omega, w14, w14.f (bkA c b), w14.f (quA c q), ⟨st, tk, w14.f (tupA dt [.ref st]), w14.f (tupA st [.ref tk, .int 60, .int 0]), w14.f (tupA tk (List.replicate n (V.int 0)))⟩, w14.f (tabA (Hz.tabW K (.met "Reader" "ack"))), w14.f (tabA (Hz.tabW K (.met "Crossing" "tick"))), fun j hj => ?_, fun r lt cs ls ws H3 hrd w15 => ?_⟩
      · have := amono j hj
        rw [hti]; omega
      · refine ⟨r, _, _, _, rfl, rfl, SqT.of (w15.f (tupA r [.ref lt, .ref cs])), rfl, ?_⟩
        exact hD' _ _ ⟨lt, ls, ws, rfl, hrd, ((W.e0 (T := TD) w15).say (lgsA ws ls) (w15.f _)).say (tupA lt (ls.map V.ref)) (w15.f _)⟩
    obtain ⟨lt, ls, ws, rfl, hrd, w11⟩ := y
    clear w10
    have hrl : (readsOf ws).length = n := by rw [hrd]; simp
    refine ⟨_, rfl, lt, ls, ws, M', _, rfl, w11, w11.f (tupA lt (ls.map V.ref)), w11.f (lgsA ws ls), by omega, fun p H2 w12 => ?_⟩
    refine ⟨_, rfl, _, rfl, _, rfl, du, _, rfl, SqT.of (w12.f (tupA du ((ticks c k).map V.int))), fun p2 H3 hcase => ?_⟩
    have ecut : cutV ((ticks c k).map V.int) none (some (n : Int)) = (readsOf ws).map V.int := by
      unfold cutV
      rw [HT.sIx_none, HT.sIx_nat, List.drop_zero, Nat.sub_zero, List.length_map, ticks_len, Nat.min_eq_left hnk, hrd, ← List.map_take]
      unfold ticks
      rw [← List.map_take, List.take_range, Nat.min_eq_left hnk]
      congr 1
      exact List.map_congr_left fun j _ => (eA j).symm
    have w13 : W H3 M' (tupA p2 ((readsOf ws).map V.int) :: tupA p ((readsOf ws).map V.int) :: TD) := by
      rcases hcase with ⟨rfl, rfl, h1⟩ | ⟨h1, rfl⟩
      · rw [ecut] at h1
        have w14 : W H3 M' (tupA p ((readsOf ws).map V.int) :: TD) := W.e (T := TD) w12 (tupA p ((readsOf ws).map V.int)) (w12.f _)
        exact w14.say (tupA p2 ((readsOf ws).map V.int)) (by rw [h1]; exact w12.f (tupA p2 ((ticks c k).map V.int)))
      · rw [ecut]
        have w14 : W H2 M' (tupA p ((readsOf ws).map V.int) :: TD) := W.e (T := TD) w12 (tupA p ((readsOf ws).map V.int)) (w12.f _)
        exact w14.newT h1 ((readsOf ws).map V.int)
    refine ⟨p, p2, readsOf ws, rfl, rfl, SqT.of (w13.f (tupA p ((readsOf ws).map V.int))), SqT.of (w13.f (tupA p2 ((readsOf ws).map V.int))), _, rfl, iteF ?_⟩
    refine ⟨_, _, _, _, _, _, _, _, rfl, ?_⟩
    have b7 := (back _ _ w13).sub (T' := tabs K) fun ψ hψ => List.mem_cons_of_mem _ (List.mem_cons_of_mem _ (List.mem_cons_of_mem _ (List.mem_cons_of_mem _ (List.mem_cons_of_mem _ hψ))))
    rw [show 62 * (i + 1) = 62 * i + 62 from by omega]
    exact b7
end
end Su


set_option Elab.async false
set_option linter.all false
set_option maxRecDepth 100000
set_option maxHeartbeats 0
/-! the end: what the top leaves, the law's call -/
namespace Su
open PySem PySem.Spec PyProof.Rows L2
theorem tp_of {K : PySem.W.Frag} {h h0 base : Heap} {mg : Str → Option Value} (X : K.In h) (G : h.Ns mainGlobals mg) (S : Hz.Says asks h0 K) (tb : ∀ w ∈ asks.tf, GxR.TabB base mg (Hz.codeW K w) (Hz.tabW K w)) : Tp K mg base :=
  ⟨S.fa, fun x hx => He.glo_ok X G (S.fa _ hx), fun x hx => He.free_ok X G (S.fa _ hx), fun x i hx => He.int_ok X G (S.fa _ hx), S.df, S.pr, tb⟩
theorem tab_new {H : Hp} {p : Addr} (h : H p = some (.tbl #[])) : (tabA p).φ H := ⟨#[], h, trivial⟩
theorem law_at {l : PySem.W.OpenLaw} {w : World} {K : PySem.W.Frag} {h : Heap} {mg : Str → Option Value} {fa : Addr} (X : K.In h) (G : h.Ns mainGlobals mg) (S : Hz.Says asks h K) (hmg : mg ("law" : Str) = some (.ref fa)) :
    LamX.LawAtS l w K CX0 12 63 "script" mg fa h := by
  have e0 := He.glo_ok X G (S.fa (.glo "law") (List.mem_of_getElem? (i := 140) rfl))
  obtain rfl : fa = Hz.Wh.at_ K (.glo "law") := by
    have e := hmg.symm.trans e0
    cases e; rfl
  obtain ⟨fd, F⟩ := S.df d_law (List.mem_of_getElem? (i := 68) rfl)
  refine ⟨fd, asks.tf.map fun w => (Hz.codeW K w, Hz.tabW K w), spLaw K, fun p hp => ?_, fun p hp => ?_, fun p hp => ?_, fun s v => ?_, fun H a ns hl _ ht hS => ?_, fun base hb hg ht => ?_⟩
  · obtain ⟨w, hw, rfl⟩ := List.mem_map.mp hp
    exact S.emp w hw
  · obtain ⟨w, hw, rfl⟩ := List.mem_map.mp hp
    exact S.out w hw
  · obtain ⟨w, hw, rfl⟩ := List.mem_map.mp hp
    exact PySem.W.codeHd_of_K X (S.hd w hw)
  · obtain ⟨oc, od, kV, doc, pm, an, cdv, ct, osl, rfl, lk, hcd⟩ := F.ex
    exact .of_eq rfl
  · exact ⟨a, ns, rfl, hS, hl, tab_new (ht _ (List.mem_map.mpr ⟨.met "Reader" "ack", List.mem_of_getElem? (i := 0) rfl, rfl⟩)), tab_new (ht _ (List.mem_map.mpr ⟨.met "Crossing" "tick", List.mem_of_getElem? (i := 2) rfl, rfl⟩)), fun _ => rfl⟩
  · refine ok_law F (tp_of hb hg S fun w hw => ?_)
    · have z := ht _ (List.mem_map.mpr ⟨w, hw, rfl⟩)
      exact ⟨z.code, z.bm, z.gP⟩
end Su

set_option Elab.async false
set_option linter.all false
set_option maxRecDepth 100000
set_option maxHeartbeats 0
open PySem PySem.W PySem.Calls PyProof.Rows
theorem PySem.Challenge.cw_surecrossing_k75_whole_reading_ticks_and_holds : PySem.Challenge.rw_surecrossing_k75_whole_reading_ticks_and.Holds := by
  w_on; o_law
  refine HandSHeadRun.head_any (r := OpenLaw.row PySem.Challenge.rw_surecrossing_k75_whole_reading_ticks_and) (q := view (OpenLaw.row PySem.Challenge.rw_surecrossing_k75_whole_reading_ticks_and).prog [58]) (H := Su.hk) (ob := Su.ob) (M := 8000) (loose := Su.loose) (d := HandSHeadRun.topDef (OpenLaw.row PySem.Challenge.rw_surecrossing_k75_whole_reading_ticks_and).prog 58) (kwd := []) Su.ob_eq
    (by kernel_rfl) (fun s => by kernel_rfl) Su.run (by kernel_rfl) (by kernel_rfl) (by kernel_rfl) (by rfl) (by first | assumption | decide +kernel) (by decide +kernel) ⟨rfl, rfl, rfl, rfl, rfl, by decide +kernel⟩ ?hw ?hc
  case hw => w_witness2
  case hc =>
    refine LamX.walk_ofTsE (l := PySem.Challenge.rw_surecrossing_k75_whole_reading_ticks_and) (n := 63) (k := 12) (x := "script") (CX := fun _ => L2.CX0) rfl (by decide) (by kernel_rfl) ⟨rfl, by decide, by decide⟩ ?F (fun _ _ _ _ _ z => z)
    intro w mg fa h Y G hmg0
    obtain ⟨K, KX, c⟩ := Y
    have hmg : mg ("law" : PySem.Str) = some (.ref fa) := by
      have e : (HandSHeadRun.topDef (OpenLaw.row PySem.Challenge.rw_surecrossing_k75_whole_reading_ticks_and).prog 58).name = ("law" : PySem.Str) := by kernel_rfl
      rw [← e]
      exact hmg0
    exact ⟨K, KX, Su.law_at KX G c hmg⟩
#print axioms PySem.Challenge.cw_surecrossing_k75_whole_reading_ticks_and_holds

