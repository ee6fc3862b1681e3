import PyProof.Rows.All
import Wide.All
import OpenK.AllK
import Wide.FinOn
import KE.KStateDown
import HandS.ForMost
import HandS.Defaults
import HandS.Property
import HandS.MakeKwOnly
import HandS.Head0
import HandS.Head1
import HandS.Head2
import HandS.HeadEnd
import HandS.HeadHook1
import HandS.HeadHook2
import HandS.HeadHook3
import HandS.Evl
import HandS.Walk
import HandS.Deep
import HandS.IsInst
import HandS.TupMul
import HandS.TupAny
import HandS.Zip
import HandS.Conv
import HandS.Style
import HandS.More
import HandS.SetFor
import HandS.Flow
import HandS.TryOnly
import PyProof.RulesMatch
import KE.SortData
import KE.KUnpackStar
import KE.GoesEnum
import PySem.Challenge.RW_homefrees_k52_whole_messages_are_few
set_option Elab.async false
set_option linter.all false
set_option maxRecDepth 100000
set_option maxHeartbeats 0
/-! The head: what the top leaves, told as boolean looks at a part of the heap, checked by one kernel run. -/
namespace Hf
open PySem PySem.Spec PyProof.Rows L2
abbrev Fr := PySem.W.Frag
/-- a def: how its address is found, names, the statement of the text, defaults -/
structure DX where
  adr : Fr → Addr
  name : Str
  qual : Str
  st : Stmt
  dfl : List He.Dv := []
  kwd : List (Str × He.Dv) := []
abbrev FnX : Type := Option (Str × Str × Arguments × FuncBody × Scope × Addr × List (Str × Addr) × Addr)
def fnX (K : Fr) (a : Addr) : FnX := match K.lookup a with
  | some ⟨_, _, .func fd, _⟩ => some (fd.name, fd.qualname, fd.params, fd.body, fd.scope, fd.globals, fd.closure, fd.builtins)
  | _ => none
def DX.val (d : DX) : FnX := some (d.name, d.qual, defArgs d.st, .stmts (defBody d.st), defScope d.st, mainGlobals, [], builtinsNs)
def DX.dvs (K : Fr) (d : DX) : List V := d.dfl.map (He.Dv.v K)
def DX.kws (K : Fr) (d : DX) : List (Str × V) := d.kwd.map fun q => (q.1, q.2.v K)
def DX.ok (K : Fr) (d : DX) : Bool := PySem.W.keepIn K (.ref (d.adr K)) && (match K.lookup (d.adr K) with
  | some ⟨_, _, .func fd, _⟩ => PySem.W.codeIn K fd.code d.qual && (He.dflB K fd.defaults (d.dvs K) && He.kwdB K fd.kwdefaults (d.kws K))
  | _ => false)
theorem DX.funD {K : Fr} {d : DX} (e : fnX K (d.adr K) = d.val) (c : d.ok K = true) : ∃ fd, FunD K d.name d.qual (defArgs d.st) (defBody d.st) (defScope d.st) (d.dvs K) (d.kws K) (d.adr K) fd := by
  obtain ⟨kp, c2⟩ := He.ba c
  unfold fnX at e
  cases q : K.lookup (d.adr K) with
  | none =>
    rw [q] at c2
    cases c2
  | some o =>
    obtain ⟨oc, od, dt, osl⟩ := o
    rw [q] at c2 e
    cases dt with
    | func fd =>
      obtain ⟨n1, n2, n3, n4, n5, n6, n7, n8, n9, n10, n11, n12, n13, n14, n15⟩ := fd
      have e2 : (some (n1, n2, n3, n4, n5, n6, n7, n15) : FnX) = some (d.name, d.qual, defArgs d.st, .stmts (defBody d.st), defScope d.st, mainGlobals, [], builtinsNs) := e
      simp only [Option.some.injEq, Prod.mk.injEq] at e2
      obtain ⟨h1, h2, h3, h4, h5, h6, h7, h8⟩ := e2
      subst h1 h2 h3 h4 h5 h6 h7 h8
      have c3 : (PySem.W.codeIn K n13 d.qual && (He.dflB K n8 (d.dvs K) && He.kwdB K n9 (d.kws K))) = true := c2
      obtain ⟨k1, k2⟩ := He.ba c3
      obtain ⟨k3, k4⟩ := He.ba k2
      exact ⟨_, ⟨oc, od, n8, n9, n10, n11, n12, n13, n14, osl, rfl, q, k1, He.dflB_ok k3, He.kwdB_ok k4⟩, kp⟩
    | _ => cases c2
/-! the Hook -/
abbrev AlX : Type := (Bool × List FnX) × Option (List (Option (Str × Int)))
def obsX (fa : List (Fr → Bool)) (fn : List DX) (tb : List Str) (K : Fr) : AlX := (((fa.all fun f => f K) && fn.all fun d => d.ok K, fn.map fun d => fnX K (d.adr K)), He.dicW K (He.ga K "BOUNDS"))
def valX (fn : List DX) (tb : List Str) (w : World) : AlX := ((true, fn.map DX.val), some (He.keysIn w.params tb))
def SaysX (fa : List (Fr → Bool)) (fn : List DX) (tb : List Str) (w : World) (K : Fr) : Prop := obsX fa fn tb K = valX fn tb w
def obsXG (n : List Addr) (fa : List (Fr → Bool)) (fn : List DX) (tb : List Str) (g : Addr → Option Obj) : AlX := obsX fa fn tb (He.frG g n)
def hookX (n : List Addr) (fa : List (Fr → Bool)) (fn : List DX) (tb : List Str) : PySem.W.Hook where
  α := AlX
  obs := fun s => obsXG n fa fn tb s.heap.get?
  val := fun w => valX fn tb w
  says := fun w h => ∃ K : Fr, K.In h ∧ SaysX fa fn tb w K
  of := fun _ _ e => ⟨_, He.frG_in, e⟩
  keeps := fun _ _ _ ⟨K, hK, c⟩ k => ⟨K, PySem.W.Frag.In.keeps hK k, c⟩
theorem obsXG_eq {n : List Addr} {fa : List (Fr → Bool)} {fn : List DX} {tb : List Str} {g : Addr → Option Obj} {s : Shared} (h : ∀ a, g a = s.heap.get? a) : obsXG n fa fn tb g = (hookX n fa fn tb).obs s := by
  have e : g = s.heap.get? := funext h
  rw [e] <;> rfl
section
variable {fa : List (Fr → Bool)} {fn : List DX} {tb : List Str} {w : World} {K : Fr}
theorem SaysX.fact (c : SaysX fa fn tb w K) (i : Nat) {f : Fr → Bool} (h : fa[i]? = some f := by rfl) : f K = true := by
  have c1 := (He.ba (show ((fa.all fun f => f K) && fn.all fun d => d.ok K) = true from congrArg (fun z : AlX => z.1.1) c)).1
  exact List.all_eq_true.mp c1 f (List.mem_of_getElem? h)
theorem SaysX.tab (c : SaysX fa fn tb w K) : ∃ es n, KDict K w (He.ga K "BOUNDS") es n := He.dicW_ok (congrArg (fun z : AlX => z.2) c)
theorem SaysX.def_ (c : SaysX fa fn tb w K) (i : Nat) {d : DX} (h : fn[i]? = some d := by rfl) : ∃ fd, FunD K d.name d.qual (defArgs d.st) (defBody d.st) (defScope d.st) (d.dvs K) (d.kws K) (d.adr K) fd := by
  have c2 := (He.ba (show ((fa.all fun f => f K) && fn.all fun d => d.ok K) = true from congrArg (fun z : AlX => z.1.1) c)).2
  have e : fn.map (fun d => fnX K (d.adr K)) = fn.map DX.val := congrArg (fun z : AlX => z.1.2) c
  have e2 : (fn.map fun d => fnX K (d.adr K))[i]? = (fn.map DX.val)[i]? := by rw [e]
  rw [List.getElem?_map, List.getElem?_map, h] at e2
  exact DX.funD (Option.some.inj e2) (List.all_eq_true.mp c2 d (List.mem_of_getElem? h))
end
/-! data of the written part -/
def datL (f : PyData → Value → Bool) : List PyData → List Value → Bool
  | [], [] => true
  | d :: ds, v :: vs => f d v && datL f ds vs
  | _, _ => false
def datB (K : Fr) : Nat → PyData → Value → Bool
  | 0, _, _ => false
  | n + 1, d, v => (match d with
    | .int i => (match v with
      | .int j _ => decide (i = j)
      | _ => false)
    | .str x => (match v with
      | .str y _ => decide (x = y)
      | _ => false)
    | .tuple ds => (match v with
      | .ref a => (match K.lookup a with
        | some ⟨.type c, _, .seq its _, _⟩ => decide (c = "tuple") && (decide (its.size ≤ sizeLine) && datL (datB K n) ds its.toList)
        | _ => false)
      | _ => false)
    | _ => false)
def tabB (K : Fr) (x k : Str) (d : PyData) : Bool := match PySem.W.nsIn K (He.ga K x) k with
  | some (some u) => datB K 4 d u
  | _ => false
/-! properties -/
def pa (K : Fr) (x f : Str) : Addr := He.ma K (He.ga K x) f
def pg (K : Fr) (x f : Str) : Addr := match PySem.W.recIn K (pa K x f) "property" with
  | some (.ref g :: _) => g
  | _ => 0
def propB (x f : Str) (K : Fr) : Bool := He.eqO (PySem.W.findIn K (.ref (He.ga K x)) f) (some (some (.ref (pa K x f)))) && (He.eqO (PySem.W.specialIn K (.ref (pa K x f)) "__get__") (some (some (.builtin "property.__get__"))) && (decide (PySem.W.takesIn K (.ref (pa K x f)) = some true) && (match PySem.W.recIn K (pa K x f) "property" with
  | some (.ref g :: _) => true
  | _ => false)))
theorem propB_ok {x f : Str} {K : Fr} (h : propB x f K = true) : PropOf K (He.ga K x) f (pa K x f) (pg K x f) := by
  obtain ⟨h1, h⟩ := He.ba h
  obtain ⟨h2, h⟩ := He.ba h
  obtain ⟨h3, h4⟩ := He.ba h
  refine ⟨He.eqO_ok h1, He.eqO_ok h2, of_decide_eq_true h3, ?_⟩
  unfold pg
  split at h4
  · rename_i g r e
    exact ⟨r, by rw [e]⟩
  · cases h4
/-! the text -/
def top (i : Nat) : Stmt := PySem.Challenge.pw_homefrees_k52_whole_messages_are_few.main.body.getD i (.Pass ⟨0, 0, 0, 0⟩)

abbrev s_sent_messages : Stmt := top 7
abbrev s_costs : Stmt := top 8
abbrev s_is_integer : Stmt := top 14
abbrev s_is_between : Stmt := top 15
abbrev s_is_row : Stmt := top 16
abbrev s_is_operation : Stmt := top 17
abbrev s_State_init : Stmt := inClass (top 21) 0
abbrev s_State_pages : Stmt := inClass (top 21) 1
abbrev s_State_slots : Stmt := inClass (top 21) 2
abbrev s_State_threads : Stmt := inClass (top 21) 3
abbrev s_State_arrivals : Stmt := inClass (top 21) 4
abbrev s_State_flight : Stmt := inClass (top 21) 5
abbrev s_Worker_init : Stmt := inClass (top 22) 0
abbrev s_Worker_entry : Stmt := inClass (top 22) 1
abbrev s_Worker_is_empty : Stmt := inClass (top 22) 2
abbrev s_Draft_init : Stmt := inClass (top 23) 0
abbrev s_Draft_frozen : Stmt := inClass (top 23) 1
abbrev s_Stepper_init : Stmt := inClass (top 25) 0
abbrev s_Stepper_is_small : Stmt := inClass (top 25) 1
abbrev s_Stepper_home_of : Stmt := inClass (top 25) 2
abbrev s_Stepper_spare_pages : Stmt := inClass (top 25) 3
abbrev s_Stepper_put_home : Stmt := inClass (top 25) 4
abbrev s_Stepper_bring : Stmt := inClass (top 25) 5
abbrev s_Stepper_lists_with_blocks : Stmt := inClass (top 25) 6
abbrev s_Stepper_page_to_open : Stmt := inClass (top 25) 7
abbrev s_Stepper_advance : Stmt := inClass (top 25) 8
abbrev s_Stepper_look_for_end : Stmt := inClass (top 25) 9
abbrev s_Stepper_is_waiting : Stmt := inClass (top 25) 10
abbrev s_Stepper_step : Stmt := inClass (top 25) 11
abbrev s_Stepper_flush : Stmt := inClass (top 25) 12
abbrev s_Stepper_flush_batch : Stmt := inClass (top 25) 13
abbrev s_Stepper_take : Stmt := inClass (top 25) 14
abbrev s_Stepper_drain : Stmt := inClass (top 25) 16
abbrev s_Stepper_allocate : Stmt := inClass (top 25) 17
abbrev s_Stepper_fill : Stmt := inClass (top 25) 18
abbrev s_Stepper_open_page : Stmt := inClass (top 25) 19
abbrev s_Stepper_fill_from : Stmt := inClass (top 25) 20
abbrev s_Stepper_free : Stmt := inClass (top 25) 22
abbrev s_Stepper_free_block : Stmt := inClass (top 25) 23
abbrev s_Stepper_send : Stmt := inClass (top 25) 24
abbrev s_Stepper_adopt : Stmt := inClass (top 25) 25
abbrev s_Stepper_carry : Stmt := inClass (top 25) 28
abbrev s_Stepper_sweep : Stmt := inClass (top 25) 31
abbrev s_is_classes : Stmt := top 37
abbrev s_fits : Stmt := top 38
abbrev s_is_thread : Stmt := top 39
abbrev s_is_move : Stmt := top 40
abbrev s_Machine_init : Stmt := inClass (top 41) 0
abbrev s_Machine_sockets : Stmt := inClass (top 41) 1
abbrev s_Machine_classes : Stmt := inClass (top 41) 2
abbrev s_Machine_threads : Stmt := inClass (top 41) 3
abbrev s_Machine_pages : Stmt := inClass (top 41) 4
abbrev s_Machine_batch : Stmt := inClass (top 41) 5
abbrev s_Machine_spare : Stmt := inClass (top 41) 6
abbrev s_Machine_slots : Stmt := inClass (top 41) 7
abbrev s_Machine_stops : Stmt := inClass (top 41) 8
abbrev s_Machine_fault : Stmt := inClass (top 41) 9
abbrev s_Machine_start : Stmt := inClass (top 41) 10
abbrev s_Machine_moves : Stmt := inClass (top 41) 11
abbrev s_Machine_is_served : Stmt := inClass (top 41) 12
abbrev s_Machine_step : Stmt := inClass (top 41) 13
abbrev s_Machine_run : Stmt := inClass (top 41) 14
abbrev s_law_pool : Stmt := top 43
abbrev s_law_take : Stmt := top 44
abbrev s_law_pair : Stmt := top 46
abbrev s_law_machine : Stmt := top 48
abbrev s_law_run : Stmt := top 49
abbrev s_law_open : Stmt := top 50
abbrev s_law : Stmt := top 51

def d_sent_messages : DX := ⟨(fun K => He.ga K "sent_messages"), "sent_messages", "sent_messages", s_sent_messages, [], []⟩
def d_costs : DX := ⟨(fun K => He.ga K "costs"), "costs", "costs", s_costs, [], []⟩
def d_is_integer : DX := ⟨(fun K => He.ga K "is_integer"), "is_integer", "is_integer", s_is_integer, [], []⟩
def d_is_between : DX := ⟨(fun K => He.ga K "is_between"), "is_between", "is_between", s_is_between, [], []⟩
def d_is_row : DX := ⟨(fun K => He.ga K "is_row"), "is_row", "is_row", s_is_row, [], []⟩
def d_is_operation : DX := ⟨(fun K => He.ga K "is_operation"), "is_operation", "is_operation", s_is_operation, [], []⟩
def d_State_init : DX := ⟨(fun K => He.ma K (He.ga K "State") "__init__"), "__init__", "State.__init__", s_State_init, [], []⟩
def d_State_pages : DX := ⟨(fun K => pg K "State" "pages"), "pages", "State.pages", s_State_pages, [], []⟩
def d_State_slots : DX := ⟨(fun K => pg K "State" "slots"), "slots", "State.slots", s_State_slots, [], []⟩
def d_State_threads : DX := ⟨(fun K => pg K "State" "threads"), "threads", "State.threads", s_State_threads, [], []⟩
def d_State_arrivals : DX := ⟨(fun K => pg K "State" "arrivals"), "arrivals", "State.arrivals", s_State_arrivals, [], []⟩
def d_State_flight : DX := ⟨(fun K => pg K "State" "flight"), "flight", "State.flight", s_State_flight, [], []⟩
def d_Worker_init : DX := ⟨(fun K => He.ma K (He.ga K "Worker") "__init__"), "__init__", "Worker.__init__", s_Worker_init, [], []⟩
def d_Worker_entry : DX := ⟨(fun K => He.ma K (He.ga K "Worker") "entry"), "entry", "Worker.entry", s_Worker_entry, [], []⟩
def d_Worker_is_empty : DX := ⟨(fun K => He.ma K (He.ga K "Worker") "is_empty"), "is_empty", "Worker.is_empty", s_Worker_is_empty, [], []⟩
def d_Draft_init : DX := ⟨(fun K => He.ma K (He.ga K "Draft") "__init__"), "__init__", "Draft.__init__", s_Draft_init, [], []⟩
def d_Draft_frozen : DX := ⟨(fun K => He.ma K (He.ga K "Draft") "frozen"), "frozen", "Draft.frozen", s_Draft_frozen, [], []⟩
def d_Stepper_init : DX := ⟨(fun K => He.ma K (He.ga K "Stepper") "__init__"), "__init__", "Stepper.__init__", s_Stepper_init, [], []⟩
def d_Stepper_is_small : DX := ⟨(fun K => He.ma K (He.ga K "Stepper") "is_small"), "is_small", "Stepper.is_small", s_Stepper_is_small, [], []⟩
def d_Stepper_home_of : DX := ⟨(fun K => He.ma K (He.ga K "Stepper") "home_of"), "home_of", "Stepper.home_of", s_Stepper_home_of, [], []⟩
def d_Stepper_spare_pages : DX := ⟨(fun K => He.ma K (He.ga K "Stepper") "spare_pages"), "spare_pages", "Stepper.spare_pages", s_Stepper_spare_pages, [], []⟩
def d_Stepper_put_home : DX := ⟨(fun K => He.ma K (He.ga K "Stepper") "put_home"), "put_home", "Stepper.put_home", s_Stepper_put_home, [], []⟩
def d_Stepper_bring : DX := ⟨(fun K => He.ma K (He.ga K "Stepper") "bring"), "bring", "Stepper.bring", s_Stepper_bring, [], []⟩
def d_Stepper_lists_with_blocks : DX := ⟨(fun K => He.ma K (He.ga K "Stepper") "lists_with_blocks"), "lists_with_blocks", "Stepper.lists_with_blocks", s_Stepper_lists_with_blocks, [], []⟩
def d_Stepper_page_to_open : DX := ⟨(fun K => He.ma K (He.ga K "Stepper") "page_to_open"), "page_to_open", "Stepper.page_to_open", s_Stepper_page_to_open, [], []⟩
def d_Stepper_advance : DX := ⟨(fun K => He.ma K (He.ga K "Stepper") "advance"), "advance", "Stepper.advance", s_Stepper_advance, [], []⟩
def d_Stepper_look_for_end : DX := ⟨(fun K => He.ma K (He.ga K "Stepper") "look_for_end"), "look_for_end", "Stepper.look_for_end", s_Stepper_look_for_end, [], []⟩
def d_Stepper_is_waiting : DX := ⟨(fun K => He.ma K (He.ga K "Stepper") "is_waiting"), "is_waiting", "Stepper.is_waiting", s_Stepper_is_waiting, [], []⟩
def d_Stepper_step : DX := ⟨(fun K => He.ma K (He.ga K "Stepper") "step"), "step", "Stepper.step", s_Stepper_step, [], []⟩
def d_Stepper_flush : DX := ⟨(fun K => He.ma K (He.ga K "Stepper") "flush"), "flush", "Stepper.flush", s_Stepper_flush, [], []⟩
def d_Stepper_flush_batch : DX := ⟨(fun K => He.ma K (He.ga K "Stepper") "flush_batch"), "flush_batch", "Stepper.flush_batch", s_Stepper_flush_batch, [], []⟩
def d_Stepper_take : DX := ⟨(fun K => He.ma K (He.ga K "Stepper") "take"), "take", "Stepper.take", s_Stepper_take, [], []⟩
def d_Stepper_drain : DX := ⟨(fun K => He.ma K (He.ga K "Stepper") "drain"), "drain", "Stepper.drain", s_Stepper_drain, [], []⟩
def d_Stepper_allocate : DX := ⟨(fun K => He.ma K (He.ga K "Stepper") "allocate"), "allocate", "Stepper.allocate", s_Stepper_allocate, [], []⟩
def d_Stepper_fill : DX := ⟨(fun K => He.ma K (He.ga K "Stepper") "fill"), "fill", "Stepper.fill", s_Stepper_fill, [], []⟩
def d_Stepper_open_page : DX := ⟨(fun K => He.ma K (He.ga K "Stepper") "open_page"), "open_page", "Stepper.open_page", s_Stepper_open_page, [], []⟩
def d_Stepper_fill_from : DX := ⟨(fun K => He.ma K (He.ga K "Stepper") "fill_from"), "fill_from", "Stepper.fill_from", s_Stepper_fill_from, [], []⟩
def d_Stepper_free : DX := ⟨(fun K => He.ma K (He.ga K "Stepper") "free"), "free", "Stepper.free", s_Stepper_free, [], []⟩
def d_Stepper_free_block : DX := ⟨(fun K => He.ma K (He.ga K "Stepper") "free_block"), "free_block", "Stepper.free_block", s_Stepper_free_block, [], []⟩
def d_Stepper_send : DX := ⟨(fun K => He.ma K (He.ga K "Stepper") "send"), "send", "Stepper.send", s_Stepper_send, [], []⟩
def d_Stepper_adopt : DX := ⟨(fun K => He.ma K (He.ga K "Stepper") "adopt"), "adopt", "Stepper.adopt", s_Stepper_adopt, [], []⟩
def d_Stepper_carry : DX := ⟨(fun K => He.ma K (He.ga K "Stepper") "carry"), "carry", "Stepper.carry", s_Stepper_carry, [], []⟩
def d_Stepper_sweep : DX := ⟨(fun K => He.ma K (He.ga K "Stepper") "sweep"), "sweep", "Stepper.sweep", s_Stepper_sweep, [], []⟩
def d_is_classes : DX := ⟨(fun K => He.ga K "is_classes"), "is_classes", "is_classes", s_is_classes, [], []⟩
def d_fits : DX := ⟨(fun K => He.ga K "fits"), "fits", "fits", s_fits, [], []⟩
def d_is_thread : DX := ⟨(fun K => He.ga K "is_thread"), "is_thread", "is_thread", s_is_thread, [], []⟩
def d_is_move : DX := ⟨(fun K => He.ga K "is_move"), "is_move", "is_move", s_is_move, [], []⟩
def d_Machine_init : DX := ⟨(fun K => He.ma K (He.ga K "Machine") "__init__"), "__init__", "Machine.__init__", s_Machine_init, [], [("pages", .int 4), ("batch", .int 1), ("spare", .int 0), ("slots", .int 2), ("stops", .int 0), ("fault", .non)]⟩
def d_Machine_sockets : DX := ⟨(fun K => pg K "Machine" "sockets"), "sockets", "Machine.sockets", s_Machine_sockets, [], []⟩
def d_Machine_classes : DX := ⟨(fun K => pg K "Machine" "classes"), "classes", "Machine.classes", s_Machine_classes, [], []⟩
def d_Machine_threads : DX := ⟨(fun K => pg K "Machine" "threads"), "threads", "Machine.threads", s_Machine_threads, [], []⟩
def d_Machine_pages : DX := ⟨(fun K => pg K "Machine" "pages"), "pages", "Machine.pages", s_Machine_pages, [], []⟩
def d_Machine_batch : DX := ⟨(fun K => pg K "Machine" "batch"), "batch", "Machine.batch", s_Machine_batch, [], []⟩
def d_Machine_spare : DX := ⟨(fun K => pg K "Machine" "spare"), "spare", "Machine.spare", s_Machine_spare, [], []⟩
def d_Machine_slots : DX := ⟨(fun K => pg K "Machine" "slots"), "slots", "Machine.slots", s_Machine_slots, [], []⟩
def d_Machine_stops : DX := ⟨(fun K => pg K "Machine" "stops"), "stops", "Machine.stops", s_Machine_stops, [], []⟩
def d_Machine_fault : DX := ⟨(fun K => pg K "Machine" "fault"), "fault", "Machine.fault", s_Machine_fault, [], []⟩
def d_Machine_start : DX := ⟨(fun K => pg K "Machine" "start"), "start", "Machine.start", s_Machine_start, [], []⟩
def d_Machine_moves : DX := ⟨(fun K => He.ma K (He.ga K "Machine") "moves"), "moves", "Machine.moves", s_Machine_moves, [], []⟩
def d_Machine_is_served : DX := ⟨(fun K => He.ma K (He.ga K "Machine") "is_served"), "is_served", "Machine.is_served", s_Machine_is_served, [], []⟩
def d_Machine_step : DX := ⟨(fun K => He.ma K (He.ga K "Machine") "step"), "step", "Machine.step", s_Machine_step, [], []⟩
def d_Machine_run : DX := ⟨(fun K => He.ma K (He.ga K "Machine") "run"), "run", "Machine.run", s_Machine_run, [], []⟩
def d_law_pool : DX := ⟨(fun K => He.ga K "_law_pool"), "_law_pool", "_law_pool", s_law_pool, [], []⟩
def d_law_take : DX := ⟨(fun K => He.ga K "_law_take"), "_law_take", "_law_take", s_law_take, [], []⟩
def d_law_pair : DX := ⟨(fun K => He.ga K "_law_pair"), "_law_pair", "_law_pair", s_law_pair, [], []⟩
def d_law_machine : DX := ⟨(fun K => He.ga K "_law_machine"), "_law_machine", "_law_machine", s_law_machine, [], []⟩
def d_law_run : DX := ⟨(fun K => He.ga K "_law_run"), "_law_run", "_law_run", s_law_run, [], []⟩
def d_law_open : DX := ⟨(fun K => He.ga K "_law_open"), "_law_open", "_law_open", s_law_open, [], []⟩
def d_law : DX := ⟨(fun K => He.ga K "law"), "law", "law", s_law, [], []⟩
def fn : List DX := [d_sent_messages, d_costs, d_is_integer, d_is_between, d_is_row, d_is_operation, d_State_init, d_State_pages, d_State_slots, d_State_threads, d_State_arrivals, d_State_flight, d_Worker_init, d_Worker_entry, d_Worker_is_empty, d_Draft_init, d_Draft_frozen, d_Stepper_init, d_Stepper_is_small, d_Stepper_home_of, d_Stepper_spare_pages, d_Stepper_put_home, d_Stepper_bring, d_Stepper_lists_with_blocks, d_Stepper_page_to_open, d_Stepper_advance, d_Stepper_look_for_end, d_Stepper_is_waiting, d_Stepper_step, d_Stepper_flush, d_Stepper_flush_batch, d_Stepper_take, d_Stepper_drain, d_Stepper_allocate, d_Stepper_fill, d_Stepper_open_page, d_Stepper_fill_from, d_Stepper_free, d_Stepper_free_block, d_Stepper_send, d_Stepper_adopt, d_Stepper_carry, d_Stepper_sweep, d_is_classes, d_fits, d_is_thread, d_is_move, d_Machine_init, d_Machine_sockets, d_Machine_classes, d_Machine_threads, d_Machine_pages, d_Machine_batch, d_Machine_spare, d_Machine_slots, d_Machine_stops, d_Machine_fault, d_Machine_start, d_Machine_moves, d_Machine_is_served, d_Machine_step, d_Machine_run, d_law_pool, d_law_take, d_law_pair, d_law_machine, d_law_run, d_law_open, d_law]
def fa : List (Fr → Bool) := [
  fun K => (He.Fa.free "len").ok K,
  fun K => (He.Fa.free "int").ok K,
  fun K => (He.Fa.free "abs").ok K,
  fun K => (He.Fa.free "range").ok K,
  fun K => (He.Fa.free "tuple").ok K,
  fun K => (He.Fa.free "list").ok K,
  fun K => (He.Fa.free "sorted").ok K,
  fun K => (He.Fa.free "all").ok K,
  fun K => (He.Fa.free "any").ok K,
  fun K => (He.Fa.free "max").ok K,
  fun K => (He.Fa.free "min").ok K,
  fun K => (He.Fa.free "zip").ok K,
  fun K => (He.Fa.free "enumerate").ok K,
  fun K => (He.Fa.free "isinstance").ok K,
  fun K => (He.Fa.free "bool").ok K,
  fun K => (He.Fa.free "str").ok K,
  fun K => (He.Fa.glo "sent_messages").ok K,
  fun K => (He.Fa.glo "costs").ok K,
  fun K => (He.Fa.glo "is_integer").ok K,
  fun K => (He.Fa.glo "is_between").ok K,
  fun K => (He.Fa.glo "is_row").ok K,
  fun K => (He.Fa.glo "is_operation").ok K,
  fun K => (He.Fa.glo "is_classes").ok K,
  fun K => (He.Fa.glo "fits").ok K,
  fun K => (He.Fa.glo "is_thread").ok K,
  fun K => (He.Fa.glo "is_move").ok K,
  fun K => (He.Fa.glo "_law_pool").ok K,
  fun K => (He.Fa.glo "_law_take").ok K,
  fun K => (He.Fa.glo "_law_pair").ok K,
  fun K => (He.Fa.glo "_law_machine").ok K,
  fun K => (He.Fa.glo "_law_run").ok K,
  fun K => (He.Fa.glo "_law_open").ok K,
  fun K => (He.Fa.glo "law").ok K,
  fun K => (He.Fa.glo "HeapError").ok K,
  fun K => (He.Fa.glo "InvalidMachine").ok K,
  fun K => (He.Fa.glo "InvalidMove").ok K,
  fun K => (He.Fa.glo "InvalidRun").ok K,
  fun K => (He.Fa.glo "State").ok K,
  fun K => (He.Fa.glo "Worker").ok K,
  fun K => (He.Fa.glo "Draft").ok K,
  fun K => (He.Fa.glo "Stepper").ok K,
  fun K => (He.Fa.glo "Machine").ok K,
  fun K => (He.Fa.cls "State").ok K,
  fun K => (He.Fa.mkr "State").ok K,
  fun K => (He.Fa.noat "State" "parts").ok K,
  fun K => propB "State" "pages" K,
  fun K => propB "State" "slots" K,
  fun K => propB "State" "threads" K,
  fun K => propB "State" "arrivals" K,
  fun K => propB "State" "flight" K,
  fun K => (He.Fa.cls "Worker").ok K,
  fun K => (He.Fa.mkr "Worker").ok K,
  fun K => (He.Fa.noat "Worker" "status").ok K,
  fun K => (He.Fa.noat "Worker" "at").ok K,
  fun K => (He.Fa.noat "Worker" "phase").ok K,
  fun K => (He.Fa.noat "Worker" "hand").ok K,
  fun K => (He.Fa.noat "Worker" "caches").ok K,
  fun K => (He.Fa.noat "Worker" "batches").ok K,
  fun K => (He.Fa.meth "Worker" "entry").ok K,
  fun K => (He.Fa.meth "Worker" "is_empty").ok K,
  fun K => (He.Fa.cls "Draft").ok K,
  fun K => (He.Fa.mkr "Draft").ok K,
  fun K => (He.Fa.noat "Draft" "own_pages").ok K,
  fun K => (He.Fa.noat "Draft" "own_slots").ok K,
  fun K => (He.Fa.noat "Draft" "workers").ok K,
  fun K => (He.Fa.noat "Draft" "own_arrivals").ok K,
  fun K => (He.Fa.noat "Draft" "own_flight").ok K,
  fun K => (He.Fa.meth "Draft" "frozen").ok K,
  fun K => (He.Fa.cls "Stepper").ok K,
  fun K => (He.Fa.mkr "Stepper").ok K,
  fun K => (He.Fa.noat "Stepper" "owner").ok K,
  fun K => (He.Fa.noat "Stepper" "draft").ok K,
  fun K => (He.Fa.meth "Stepper" "is_small").ok K,
  fun K => (He.Fa.meth "Stepper" "home_of").ok K,
  fun K => (He.Fa.meth "Stepper" "spare_pages").ok K,
  fun K => (He.Fa.meth "Stepper" "put_home").ok K,
  fun K => (He.Fa.meth "Stepper" "bring").ok K,
  fun K => (He.Fa.meth "Stepper" "lists_with_blocks").ok K,
  fun K => (He.Fa.meth "Stepper" "page_to_open").ok K,
  fun K => (He.Fa.meth "Stepper" "advance").ok K,
  fun K => (He.Fa.meth "Stepper" "look_for_end").ok K,
  fun K => (He.Fa.meth "Stepper" "is_waiting").ok K,
  fun K => (He.Fa.meth "Stepper" "step").ok K,
  fun K => (He.Fa.meth "Stepper" "flush").ok K,
  fun K => (He.Fa.meth "Stepper" "flush_batch").ok K,
  fun K => (He.Fa.meth "Stepper" "take").ok K,
  fun K => (He.Fa.meth "Stepper" "drain").ok K,
  fun K => (He.Fa.meth "Stepper" "allocate").ok K,
  fun K => (He.Fa.meth "Stepper" "fill").ok K,
  fun K => (He.Fa.meth "Stepper" "open_page").ok K,
  fun K => (He.Fa.meth "Stepper" "fill_from").ok K,
  fun K => (He.Fa.meth "Stepper" "free").ok K,
  fun K => (He.Fa.meth "Stepper" "free_block").ok K,
  fun K => (He.Fa.meth "Stepper" "send").ok K,
  fun K => (He.Fa.meth "Stepper" "adopt").ok K,
  fun K => (He.Fa.meth "Stepper" "carry").ok K,
  fun K => (He.Fa.meth "Stepper" "sweep").ok K,
  fun K => (He.Fa.cls "Machine").ok K,
  fun K => (He.Fa.mkr "Machine").ok K,
  fun K => (He.Fa.noat "Machine" "settings").ok K,
  fun K => propB "Machine" "sockets" K,
  fun K => propB "Machine" "classes" K,
  fun K => propB "Machine" "threads" K,
  fun K => propB "Machine" "pages" K,
  fun K => propB "Machine" "batch" K,
  fun K => propB "Machine" "spare" K,
  fun K => propB "Machine" "slots" K,
  fun K => propB "Machine" "stops" K,
  fun K => propB "Machine" "fault" K,
  fun K => propB "Machine" "start" K,
  fun K => (He.Fa.meth "Machine" "moves").ok K,
  fun K => (He.Fa.meth "Machine" "is_served").ok K,
  fun K => (He.Fa.meth "Machine" "step").ok K,
  fun K => (He.Fa.meth "Machine" "run").ok K,
  fun K => (He.Fa.int "MAX_CLASS" 2).ok K,
  fun K => (He.Fa.int "MAX_SLOT" 7).ok K,
  fun K => (He.Fa.int "MAX_LARGE" 8).ok K,
  fun K => (He.Fa.int "MAX_SOCKETS" 4).ok K,
  fun K => (He.Fa.int "MAX_CLASSES" 3).ok K,
  fun K => (He.Fa.int "MAX_BLOCKS" 8).ok K,
  fun K => (He.Fa.int "MAX_THREADS" 6).ok K,
  fun K => (He.Fa.int "MAX_OPERATIONS" 30).ok K,
  fun K => (He.Fa.int "MAX_PAGES" 64).ok K,
  fun K => (He.Fa.int "MAX_BATCH" 8).ok K,
  fun K => (He.Fa.int "MAX_SPARE" 8).ok K,
  fun K => (He.Fa.int "MAX_SLOTS" 8).ok K,
  fun K => (He.Fa.int "MAX_STOPS" 6).ok K,
  fun K => (He.Fa.glo "STORE").ok K,
  fun K => (He.Fa.glo "FAILURE").ok K,
  fun K => He.tupB K "STORE" [.str "store"],
  fun K => He.tupB K "FAILURE" [.str "failure"],
  fun K => (He.Fa.glo "BOUNDS").ok K,
  fun K => tabB K "BOUNDS" "alloc" (.tuple [.tuple [.int 0, .int 2], .tuple [.int 0, .int 7]]),
  fun K => tabB K "BOUNDS" "free" (.tuple [.tuple [.int 0, .int 7]]),
  fun K => tabB K "BOUNDS" "adopt" (.tuple [.tuple [.int 0, .int 7]]),
  fun K => tabB K "BOUNDS" "drain" (.tuple [])
]
def names0 : List PySem.Str := ["_wall", "HeapError", "InvalidMachine", "InvalidMove", "InvalidRun", "sent_messages", "costs", "MAX_CLASS", "MAX_SLOT", "MAX_LARGE"]
def names1 : List PySem.Str := ["BOUNDS", "is_integer", "is_between", "is_row", "is_operation", "STORE", "FAILURE", "State", "Worker", "Draft"]
def names2 : List PySem.Str := ["Stepper", "MAX_SOCKETS", "MAX_CLASSES", "MAX_BLOCKS", "MAX_THREADS", "MAX_OPERATIONS", "MAX_PAGES", "MAX_BATCH", "MAX_SPARE", "MAX_SLOTS"]
def names3 : List PySem.Str := ["MAX_STOPS", "is_classes", "fits", "is_thread", "is_move", "Machine", "_law_pool", "_law_take", "_law_program", "_law_pair"]
def names4 : List PySem.Str := ["_law_settings", "_law_machine", "_law_run", "_law_open"]
def names : List PySem.Str := names0 ++ names1 ++ names2 ++ names3 ++ names4
abbrev R : PySem.W.OpenRow := PySem.W.OpenLaw.row PySem.Challenge.rw_homefrees_k52_whole_messages_are_few
def tb : List Str := ["alloc", "free", "adopt", "large", "grow", "drain"]
def ad0 : List Addr := [3, 98, 103, 104, 124, 131, 138, 143, 144, 145, 217, 246, 270, 490, 499, 506]
def ad1 : List Addr := [511, 518, 648, 659, 666, 678, 690, 697, 702, 707, 97, 102, 107, 109, 111, 117]
def ad2 : List Addr := [123, 130, 137, 142, 216, 245, 269, 489, 498, 505, 510, 517, 647, 658, 665, 677]
def ad3 : List Addr := [689, 696, 701, 706, 105, 106, 108, 110, 159, 167, 175, 183, 191, 199, 233, 238]
def ad4 : List Addr := [243, 262, 267, 288, 295, 302, 307, 312, 319, 326, 331, 338, 345, 352, 357, 364]
def ad5 : List Addr := [371, 378, 392, 397, 402, 409, 414, 428, 435, 442, 449, 468, 487, 531, 539, 547]
def ad6 : List Addr := [555, 563, 571, 579, 587, 595, 603, 609, 614, 619, 624, 631, 158, 166, 174, 182]
def ad7 : List Addr := [190, 198, 232, 237, 242, 261, 266, 287, 294, 301, 306, 311, 318, 325, 330, 337]
def ad8 : List Addr := [344, 351, 356, 363, 370, 377, 391, 396, 401, 408, 413, 427, 434, 441, 448, 467]
def ad9 : List Addr := [486, 530, 526, 538, 546, 554, 562, 570, 578, 586, 594, 602, 608, 613, 618, 623]
def ad10 : List Addr := [630, 165, 173, 181, 189, 197, 537, 545, 553, 561, 569, 577, 585, 593, 601, 607]
def addrs : List Addr := ad0 ++ ad1 ++ ad2 ++ ad3 ++ ad4 ++ ad5 ++ ad6 ++ ad7 ++ ad8 ++ ad9 ++ ad10
abbrev hk : PySem.W.Hook := hookX addrs fa fn tb
def ob (s : PySem.W.SharedT) : AlX := obsXG addrs fa fn tb (HandSHeadRun.getT s)
theorem ob_eq (s : PySem.W.SharedT) : ob s = hk.obs s.abs := obsXG_eq (HandSHeadRun.getT_eq s)
end Hf
set_option Elab.async false
set_option linter.all false
set_option maxRecDepth 100000
set_option maxHeartbeats 0
namespace Hf
open PySem PySem.W PySem.Calls PyProof.Rows
theorem runF (w : World) : HandSHeadRun.RunEq R (PySem.W.view R.prog [51]) hk ob 6500 names (w.withFollow "special-get-raises" false) := fun os => by kernel_rfl
theorem runT (w : World) : HandSHeadRun.RunEq R (PySem.W.view R.prog [51]) hk ob 6500 names (w.withFollow "special-get-raises" true) := fun os => by kernel_rfl
theorem run (w : World) : HandSHeadRun.RunEq R (PySem.W.view R.prog [51]) hk ob 6500 names w :=
  byRow2 "special-get-raises" (P := fun w => HandSHeadRun.RunEq R (PySem.W.view R.prog [51]) hk ob 6500 names w) runF runT w
end Hf
set_option Elab.async false
set_option linter.all false
set_option maxRecDepth 100000
set_option maxHeartbeats 2000000
set_option autoImplicit false
/-! Rules that the hand layer lacks. -/
namespace Ru
open PySem PySem.Spec PyProof.Rows L2
section
variable {X : Cx}
/-! ### match on a text -/
abbrev TM := V → TS
structure PMs (X : Cx) (cs : List MatchCase) (t : TM) : Prop where
  run : ∀ (first : Bool) (pins : List (Addr × Obj)) (s : Shared) (σ : L2.St) (H : Hp) (D : Ends) (v : V) (u : Value), Inv X pins σ H s → RelV v u → t v D σ H →
    wpAny (model X.prog X.w) X.A (matchCases cs X.env u first) (SP X pins D) X.xe s
def mNil : TM := fun _ D σ H => D.nx σ H
def mVal (x : Str) (tb : TS) (tr : TM) : TM := fun v D σ H => ∃ y, v = .str y ∧ if y = x then tb D σ H else tr v D σ H
def mDef (tb : TS) : TM := fun _ D σ H => tb D σ H
theorem pm_nil : PMs X [] mNil := ⟨fun _ _ _ σ H D v u I r h => wpAny_matchCases_nil ⟨σ, H, I, h⟩⟩
theorem pm_val {x : Str} {j : Nat} {p1 p2 : Pos} {body : List Stmt} {rest : List MatchCase} {tb : TS} {tr : TM} (hb : PSs X body tb) (hr : PMs X rest tr) :
    PMs X (⟨.MatchValue (.Constant (.str x) j p1) p2, none, body⟩ :: rest) (mVal x tb tr) := by
  refine ⟨fun first pins s σ H D v u I r h => ?_⟩
  obtain ⟨y, rfl, h⟩ := h
  obtain ⟨t, rfl⟩ := r
  refine wpAny_matchCases_cons (wpAny_matchPattern_Value ?_)
  refine Calls.Constant_str (eq_str (wpAny_truthy_bool ?_))
  have I1 : Inv X pins σ H { s with toks := s.toks + 1 } := I.tok _
  by_cases e : y = x
  · rw [if_pos e] at h
    subst e
    simp only [decide_true, beq_self_eq_true, if_true, List.map_nil]
    exact wpAny_assignInOrder_none (hb.run pins _ σ H D I1 h)
  · rw [if_neg e] at h
    have e2 : (y == x) = false := beq_eq_false_iff_ne.mpr e
    simp only [decide_eq_false e, e2, Bool.false_eq_true, if_false]
    exact hr.run false pins _ σ H D (.str y) (.str y t) I1 ⟨_, rfl⟩ h
theorem pm_def {p : Pos} {body : List Stmt} {tb : TS} (hb : PSs X body tb) : PMs X [⟨.MatchAs none none p, none, body⟩] (mDef tb) := by
  refine ⟨fun first pins s σ H D v u I r h => ?_⟩
  refine wpAny_matchCases_cons (wpAny_matchPattern_Capture ?_)
  exact wpAny_assignInOrder_none (hb.run pins s σ H D I h)
def tMatch (te : TE) (tm : TM) : TS := fun D σ H => te σ H fun v H1 => tm v D σ H1
theorem ps_match {e : Expr} {cs : List MatchCase} {pos : Pos} {te : TE} {tm : TM} (he : PE X e te) (hm : PMs X cs tm) : PS X (.Match e cs pos) (tMatch te tm) := by
  refine ⟨fun pins s σ H D I h => ?_⟩
  refine wpAny_Match (thn (he.run pins s σ H _ I h) fun v s1 ⟨x, H1, I1, r1, q1⟩ => ?_)
  exact hm.run true pins s1 σ H1 D x v I1 r1 q1
/-! ### a try whose body raises nothing -/
theorem ps_tryN {body : List Stmt} {h0 : ExceptHandler} {hs : List ExceptHandler} {pos : Pos} {tb : TS} (hb : PSs X.nox body tb) : PS X (.Try body (h0 :: hs) [] [] pos) tb := by
  refine ⟨fun pins s σ H D I h => ?_⟩
  refine wpAny_Try_except (wpAny_mono (hb.run pins s σ H D (I.wish _) h) (fun f s1 q => ?_) fun _ _ z => False.elim z)
  have q := q.unwish
  cases f with
  | next => exact wpAny_execs_nil q
  | ret v => exact q
  | brk => exact q
  | cont => exact q
/-! ### o.f as a target -/
def gFld (K : PySem.W.Frag) (ta : TE) (f : Str) : TG := fun v σ H Q => ta σ H fun x H1 => ∃ a C dx fs, x = .ref a ∧ H1 a = some (.ins C dx fs) ∧ Cls K C ∧ NoAttr K C f ∧ fs.length < 1000 ∧ Q σ (upd H1 a (.ins C dx (putF f v fs)))
theorem pg_fld {o : Expr} {f : Str} {pos : Pos} {ta : TE} (ho : PE X o ta)
    (ha : ∀ v, assign (.Attribute o f pos) X.env v = (do
      let ov ← holding [v] (eval o X.env)
      standAt pos.atName
      holding [v, ov] (setAttr ov f v)
      release [v, ov] []) := by intro _; rfl) : PG X (.Attribute o f pos) (gFld X.K ta f) := by
  refine ⟨fun pins s σ H v u Q I r h => ?_⟩
  rw [ha]
  refine wpAny_bind (wpAny_holding (thn (ho.run pins s σ H _ I h) fun ov s1 ⟨x, H1, I1, r1, a, C, dx, fs, ex, ea, c, n, l, q⟩ => ?_))
  subst ex
  obtain rfl : ov = Value.ref a := r1
  refine wpAny_bind (wpAny_standAt (wpAny_bind (wpAny_holding (setattr_ok I1 ea c n l r fun s3 I3 => ?_))))
  exact wpAny_release ⟨σ, _, I3, q⟩
end
end Ru
set_option Elab.async false
set_option linter.all false
set_option maxRecDepth 100000
set_option maxHeartbeats 4000000
set_option autoImplicit false
namespace Ru
open PySem PySem.Spec PyProof.Rows L2
/-! ### any over items whose truth leans on the heap -/
section
variable {prog : Program} {w : World} {A : Around} {R : Result → Shared → Prop} {I : Addr} {fp wr : List Addr} {n : Nat} {P : Nat → Value → Prop} {St : Nat → Heap → Prop} {E : Value → Shared → Prop} {s : Shared}
def TruthH (prog : Program) (w : World) (A : Around) (G : Heap → Prop) (P : Nat → Value → Prop) (tr : Nat → Bool) : Prop :=
  ∀ i v (s : Shared) (Q : Bool → Shared → Prop) (E : Value → Shared → Prop), P i v → G s.heap → (∀ tk, Q (tr i) { s with toks := tk }) → wpAny (model prog w) A (truthy v) Q E s
theorem anyH_loop {G : Heap → Prop} (W : Walks prog w A.in1 I fp wr n P St) (tr : Nat → Bool) (htr : TruthH prog w A.in1 G P tr) (gk : ∀ h h' : Heap, G h → (∀ b o, b ∉ wr → h.get? b = some o → h'.get? b = some o) → G h') :
    ∀ (k i : Nat) (s : Shared), n - i = k → i ≤ n → St i s.heap → G s.heap →
    (∀ h' tk, (∀ b o, b ∉ wr → s.heap.get? b = some o → h'.get? b = some o) → R (.ok (.ret (.bool (((List.range n).drop i).any tr)))) { s with heap := h', toks := tk }) →
    codeAny (model prog w) A (.builtin "any.loop" ⟨[.ref I], []⟩) R s := by
  intro k
  induction k with
  | zero =>
    intro i s hk hi hst hg hR
    have hin : i = n := by omega
    subst hin
    refine codeAny_builtin F.entry_any_loop ?_
    rw [Around.under_plainId F.plain_any_loop _]
    show wpAny _ A.in1 (pyNext (.ref I) >>= _) _ _ s
    refine wpAny_bind (W.done s _ _ hst fun h' tk hk' => ?_)
    refine wpAny_bind (wpAny_rule (wpAny_pure ?_))
    have := hR h' tk hk'
    rw [List.drop_of_length_le (by simp)] at this
    exact this
  | succ k ih =>
    intro i s hk hi hst hg hR
    have hlt : i < n := by omega
    have hd : (List.range n).drop i = i :: (List.range n).drop (i + 1) := by
      rw [List.drop_eq_getElem_cons (by simpa using hlt)]; simp
    refine codeAny_builtin F.entry_any_loop ?_
    rw [Around.under_plainId F.plain_any_loop _]
    show wpAny _ A.in1 (pyNext (.ref I) >>= _) _ _ s
    refine wpAny_bind (W.item i s _ _ hlt hst fun v h' tk hP hst' hk' => ?_)
    have hg' : G h' := gk _ _ hg hk'
    refine wpAny_bind (wpAny_holding (htr i v _ _ _ hP hg' fun tk2 => ?_))
    refine wpAny_bind (wpAny_letGo ?_)
    cases hb : tr i with
    | false =>
      simp only [Bool.false_eq_true, if_false]
      refine wpAny_pure ⟨plainId_quiet F.plain_any_loop _, ih (i + 1) _ (by omega) hlt hst' hg' fun h'' tk'' hk'' => ?_⟩
      have := hR h'' tk'' fun b o hbw e => hk'' b o hbw (hk' b o hbw e)
      rw [hd, List.any_cons, hb, Bool.false_or] at this
      exact this
    | true =>
      simp only [if_true]
      refine wpAny_bind (wpAny_rule (wpAny_pure ?_))
      have := hR h' tk2 hk'
      rw [hd, List.any_cons, hb, Bool.true_or] at this
      exact this
theorem call_anyH {x : Value} {Q : Value → Shared → Prop}
    (h : wpAny (model prog w) A.in1 (pyIter x) (fun it s₂ => ∃ I fp wr n P St tr, ∃ G : Heap → Prop, it = .ref I ∧ Walks prog w A.in1 I fp wr n P St ∧ St 0 s₂.heap ∧ TruthH prog w A.in1 G P tr ∧ G s₂.heap ∧
      (∀ h h' : Heap, G h → (∀ b o, b ∉ wr → h.get? b = some o → h'.get? b = some o) → G h') ∧
      ∀ h' tk, (∀ b o, b ∉ wr → s₂.heap.get? b = some o → h'.get? b = some o) → Q (.bool ((List.range n).any tr)) { s₂ with heap := h', toks := tk }) E s) :
    wpAny (model prog w) A (call (.builtin "any") [x]) Q E s := by
  refine call_function_tree F.kind_any F.plain_any F.entry_any (F.args_any1 _) ?_
  unfold Builtin.«any»
  refine wpAny_bind (m := oneArg "any" _) (wpAny_pure ?_)
  refine wpAny_bind (wpAny_mono h (fun it s₂ h₂ => ?_) fun _ _ e => e)
  obtain ⟨I, fp, wr, n, P, St, tr, G, rfl, W, hst, htr, hg, gk, hQ⟩ := h₂
  exact wpAny_pure ⟨plainId_quiet F.plain_any_loop _, anyH_loop W tr htr gk n 0 s₂ rfl (Nat.zero_le _) hst hg fun h' tk hk => by simpa using hQ h' tk hk⟩
end
/-! ### any(xs) of a list of lists -/
section
variable {X : Cx}
/-- what any(xs) asks: xs a list of lists, ls whether each is not empty -/
def rAnyL (K : PySem.W.Frag) : List V → Hp → VK → Prop := fun vs H Q => ∃ (a : Addr) (as : List Addr) (bs : List Bool), vs = [V.ref a] ∧ SqL K H a (as.map V.ref) ∧ bs.length = as.length ∧
  (∀ (i : Nat) (l : Addr), as[i]? = some l → ∃ ys, SqL K H l ys ∧ bs[i]? = some (!ys.isEmpty)) ∧ Q (.bl (bs.any id)) H
/-! ### xs.extend(t), t a tuple -/
def rExtT (K : PySem.W.Frag) : V → List V → Hp → VK → Prop := fun x vs H Q => ∃ l b xs zs, x = .ref l ∧ vs = [.ref b] ∧ H l = some (.lst xs) ∧ SqT K H b zs ∧ xs.length + zs.length ≤ sizeLine ∧ Q .non (upd H l (.lst (xs ++ zs)))
/-! ### xs.count(t), a text among texts -/
def rCntS (K : PySem.W.Frag) : V → List V → Hp → VK → Prop := fun x xs H Q => ∃ (p : Addr) (ns : List Str) (k : Str), x = .ref p ∧ xs = [.str k] ∧ SqL K H p (ns.map V.str) ∧ Q (.int (ns.count k : Nat)) H
theorem eqU_count {k : Str} : ∀ {ns : List Str} {us : List Value}, Vals (ns.map V.str) us → us.countP (eqU (V.str k)) = ns.count k
  | [], _, r => by
    cases r
    rfl
  | n :: ns, _, r => by
    cases r with
    | cons r1 r2 =>
      rename_i u us
      have e1 : eqU (V.str k) u = (n == k) := by
        rw [eqU_of r1 rfl]
        show eqV (V.str n) (V.str k) = _
        simp [eqV]
      rw [List.countP_cons, List.count_cons, eqU_count r2, e1]
theorem mt_scount : MtR X "list.count" (rCntS X.K) := by
  intro pins s σ H x xs v us Q I rx rxs h
  obtain ⟨p, ns, k, rfl, rfl, hs, q⟩ := h
  cases rx
  obtain ⟨u, rfl, ru⟩ := rxs.one
  obtain ⟨its, rv, ⟨⟨cls, dd, data, sl⟩, n, ho, hc, hdn, hd⟩, hlen⟩ := I.list hs
  simp only at hc hd
  subst hc hd
  have ff : (ns.map V.str).all flatV = true := by
    rw [List.all_eq_true]
    intro y hy
    obtain ⟨z, _, rfl⟩ := List.mem_map.mp hy
    rfl
  refine call_meets PySem.F.slot_list_count ⟨_, ho, rfl⟩ PySem.F.entry_list_count (PySem.F.args_list_count_2 _ _)
    (SeqAt.list_countAt p its.toArray n dd sl u (eqU (V.str k))) ⟨ho, fun y hy => mem_eqAt ru rfl rv ff y (by simpa using hy), ?_⟩
  have ec : its.toArray.toList.countP (eqU (V.str k)) = ns.count k := eqU_count rv
  refine ⟨.int (ns.count k : Nat), H, I.tok _, ⟨s.toks, ?_⟩, q⟩
  show Value.int ((its.toArray.toList.countP (eqU (V.str k)) : Nat) : Int) s.toks = Value.int ((ns.count k : Nat) : Int) s.toks
  rw [ec]
/-! ### tuple * 1 is the tuple -/
def rRep1 (K : PySem.W.Frag) : R2 := fun x y H Q => ∃ l xs, x = .ref l ∧ y = .int 1 ∧ SqT K H l xs ∧ Q (.ref l) H
theorem tuple_mul1 (l : Addr) (items : Array Value) (n : Nat) (dd : Option Addr) (sl : Array (Option Value)) (u : Tok) :
    Meets (Builtin.«tuple.__mul__» ⟨[.ref l, .int 1 u], []⟩) (fun _ R s => s.heap.get? l = some { cls := .type "tuple", dict := dd, data := .seq items n, slots := sl } ∧ R (.ok (.ret (Value.ref l))) s) :=
  .of_wp fun prog w A R s h => by
    obtain ⟨hp, g, d, tk, os⟩ := s
    obtain ⟨hl, h⟩ := h
    have f1 := AutoSeq1.idx_int
    have c0 : (decide ((1 : Int) < -(2 ^ 63)) || decide ((1 : Int) ≥ 2 ^ 63)) = false := by decide
    have c1 : (items.isEmpty || (1 : Int) == 1) = true := by simp
    wp_walk using AutoSeq1.wpAny_loadPart' hl
    repeat (first
      | (refine wpAny_ite_false (decide_eq_false (by rw [c0]; exact Bool.false_ne_true)) ?_; wp_walk using AutoSeq1.wpAny_loadPart' hl)
      | (refine wpAny_ite_true (decide_eq_true (by rw [c1])) ?_; wp_walk using AutoSeq1.wpAny_loadPart' hl))
    exact ⟨_, rfl, h⟩
theorem op_rep1 : OpR X (binaryOp .Mult) (rRep1 X.K) := by
  intro pins s σ H x y v u Q I rx ry h
  obtain ⟨l, xs, rfl, rfl, hT, q⟩ := h
  cases rx
  obtain ⟨t, rfl⟩ := ry
  obtain ⟨its, r, ⟨⟨cls, dd, data, sl⟩, ho, hc, n, hd⟩, hs⟩ := I.tuple hT
  simp only at hc hd
  subst hc hd
  refine wpAny_binaryOp_repeat_ref (T := "tuple") (U := "int") (by decide) ⟨_, ho, rfl⟩ (fun s' => typeIs_int s' 1 t) noFill_tuple_mul F.fills_int_mul F.slot_int_rmul repeat_tuple F.slot_int_index.lookup
    (call_meets F.slot_int_rmul (typeIs_int s 1 t) F.entry_int_rmul (F.args_int_rmul_2 _ _) (int_rmul_tuple 1 t l its.toArray n dd sl)
      ⟨ho, rfl, ⟨_, ho, rfl⟩, call_meets F.slot_tuple_mul ⟨_, ho, rfl⟩ F.entry_tuple_mul (F.args_tuple_mul_2 _ _) (tuple_mul1 l its.toArray n dd sl t) ⟨ho, ?_⟩⟩)
  exact ⟨.ref l, H, I, rfl, q⟩
theorem cr_anyL (hc : X.calm = true) : CallR X (.builtin "any") (rAnyL X.K) := by
  intro pins s σ H vs us Q I r h
  obtain ⟨a, as, bs, rfl, hs, hl0, hb, q⟩ := h
  obtain ⟨its, rv, hl, _⟩ := I.list hs
  rw [Vals.ref1 r]
  have hlen : its.length = as.length := by rw [← rv.length, List.length_map]
  have at_ : ∀ (i : Nat) (v : Value), its[i]? = some v → ∃ l ys zs, as[i]? = some l ∧ v = Value.ref l ∧ bs[i]? = some (!ys.isEmpty) ∧ Vals ys zs ∧ PlainL s.heap l zs.toArray ∧ ys.length ≤ sizeLine := by
    intro i v hv
    have hi : i < as.length := by
      rw [← hlen]
      exact (List.getElem?_eq_some_iff.mp hv).1
    obtain ⟨l, hl2⟩ : ∃ l, as[i]? = some l := ⟨_, List.getElem?_eq_getElem hi⟩
    obtain ⟨u, hu, ru⟩ := rv.get (i := i) (x := V.ref l) (by rw [List.getElem?_map, hl2]; rfl)
    rw [hv] at hu
    cases hu
    obtain ⟨ys, hy, hbi⟩ := hb i l hl2
    obtain ⟨zs, rz, pz, hz⟩ := I.list hy
    exact ⟨l, ys, zs, hl2, ru, hbi, rz, pz, hz⟩
  have sl := sizeLine_eq
  refine call_anyH (iter_any hl.isList fun s₂ e2 st hne => ?_)
  subst e2
  refine ⟨_, _, _, _, _, _, fun i => bs.getD i false, fun h => ∀ b o, s.heap.get? b = some o → h.get? b = some o, rfl, Walks.list (A := X.A.in1) (I.ok.hd hc) _ a hne its.toArray, st, ?_, fun b o eo => Heap.get?_push_of_some _ eo, ?_, fun h' tk hk => ?_⟩
  · intro i v s3 Q3 E3 hv hg hq
    obtain ⟨l, ys, zs, hl2, rfl, hbi, rz, pz, hz⟩ := at_ i v (by simpa using hv)
    have e : bs.getD i false = !ys.isEmpty := by rw [List.getD_eq_getElem?_getD, hbi] <;> rfl
    have pz3 : s3.heap.IsList l zs.toArray := by
      obtain ⟨o, n, ho, hc', hd, hdt⟩ := pz
      exact ⟨o, hg l o ho, hc', n, hdt⟩
    have hlz := rz.length
    refine wpAny_truthy_list pz3 (by simp only [List.size_toArray]; omega) ?_
    have q3 := hq (s3.toks + 1 + 1)
    have q3' : Q3 (bs.getD i false) { s3 with toks := s3.toks + 1 + 1 } := q3
    rw [e] at q3'
    rw [isEmpty_of rz]
    exact q3'
  · intro h h' hg k b o eo
    refine k b o (fun hmem => ?_) (hg b o eo)
    rcases List.mem_cons.mp hmem with e1 | hmem
    · exact absurd (e1 ▸ Heap.lt_size eo) (Nat.lt_irrefl _)
    · cases hmem
  · refine ⟨.bl _, H, I.kept fun b o eo => hk b o (fun hmem => ?_) (Heap.get?_push_of_some _ eo), ?_, q⟩
    · rcases List.mem_cons.mp hmem with e1 | hmem
      · exact absurd (e1 ▸ Heap.lt_size eo) (Nat.lt_irrefl _)
      · cases hmem
    · show Value.bool _ = Value.bool _
      rw [← L2.any_range, List.size_toArray, hlen, hl0]
theorem list_extend_tupleW (l : Addr) (items : Array Value) (n : Nat) (b : Addr) (items2 : Array Value) (n2 : Nat) (dd : Option Addr) (sl : Array (Option Value)) (hs0 : ¬(!items.isEmpty && Builtin.List.listTooLong (items.size + items2.size)) = true) (hs1 : items.size ≤ sizeLine) (hs2 : items.size + items2.size ≤ sizeLine + 1) :
    Meets (Builtin.«list.extend» ⟨[.ref l, .ref b], []⟩) (fun _ R s => s.heap.get? l = some { cls := .type "list", dict := none, data := .seq items n, slots := #[] } ∧ s.heap.get? b = some { cls := .type "tuple", dict := dd, data := .seq items2 n2, slots := sl } ∧ R (.ok (.ret Value.none)) { s with heap := s.heap.update l (Obj.mapSeq fun x => x ++ items2), toks := s.toks }) :=
  .of_wp fun prog w A R s h => by
    obtain ⟨hp, g, d, tk, os⟩ := s; obtain ⟨hl, hb, h⟩ := h; have f1 := AutoSeq1.idx_int; have f2 := AutoSeq1.sub_tuple_tuple; have f3 := AutoSeq1.sub_list_list; have f4 := AutoSeq1.sub_tuple_list; have f5 := AutoSeq1.sub_list_tuple;
    have hz' : (items ++ items2).size ≤ sizeLine + 1 := by rw [Array.size_append]; exact hs2
    wp_walk using (wpAny_updateSeq hl rfl (hz := hs1) (_hz' := hz')), AutoSeq1.wpAny_loadPart' hl, AutoSeq1.wpAny_loadPart' hb; exact ⟨_, rfl, h⟩
theorem mt_extT : MtM X "list.extend" (rExtT X.K) := by
  intro pins s σ H x vs v us Q I rx rv h
  obtain ⟨l, b, xs, zs, rfl, rfl, hH, hB, hz, q⟩ := h
  cases rx
  obtain ⟨u, rfl, ru⟩ := rv.one
  cases ru
  obtain ⟨z, its, n, r, hl, e⟩ := I.lstM hH
  obtain ⟨its2, r2, ⟨⟨cls, dd, data, sl⟩, ho, hc, n2, hd⟩, hz2⟩ := I.tuple hB
  simp only at hc hd
  subst hc hd
  have hl2 := r2.length
  have hsz : its.toArray.size + its2.toArray.size ≤ sizeLine := by rw [List.size_toArray, List.size_toArray]; omega
  have hlong : ¬ (!its.toArray.isEmpty && Builtin.List.listTooLong (its.toArray.size + its2.toArray.size)) = true := by
    rw [notLongL hsz, Bool.and_false]
    exact Bool.false_ne_true
  refine call_meets F.slot_list_extend ⟨_, e, rfl⟩ F.entry_list_extend (F.args_list_extend_2 _ _)
    (list_extend_tupleW l its.toArray n b its2.toArray n2 dd sl hlong (by rw [List.size_toArray]; omega) (by omega)) ⟨e, ho, ?_⟩
  refine ⟨.non, _, I.lset (its' := its ++ its2) hH e (by simp) (r.append r2) ?_, rfl, q⟩
  rw [List.length_append]
  omega
end
end Ru
set_option Elab.async false
set_option linter.all false
set_option maxRecDepth 100000
set_option maxHeartbeats 4000000
set_option autoImplicit false
namespace Ru
open PySem PySem.Spec PyProof.Rows L2
/-! ### sorted(xs), xs a list of tuples of one shape -/
section
variable {X : Cx}
theorem each_of_vals : ∀ {bs : List (V × PyData)} {us : List Value}, Vals (bs.map (·.1)) us → PySem.W.EachIs (fun (u : Value) (b : V × PyData) => RelV b.1 u) us bs
  | [], _, r => by
    cases r
    exact .nil
  | b :: bs, _, r => by
    cases r with
    | cons r1 r2 => exact .cons r1 (each_of_vals r2)
theorem vals_of_each : ∀ {bs : List (V × PyData)} {us : List Value}, PySem.W.EachIs (fun (u : Value) (b : V × PyData) => RelV b.1 u) us bs → Vals (bs.map (·.1)) us
  | _, _, .nil => .nil
  | _, _, .cons r t => .cons r (vals_of_each t)
def rSortD (K : PySem.W.Frag) : List V → Hp → VK → Prop := fun vs H Q => ∃ (a : Addr) (bs : List (V × PyData)), vs = [V.ref a] ∧ SqL K H a (bs.map (·.1)) ∧ (∀ b ∈ bs, Dp K H b.1 b.2) ∧ PySem.W.AllAlike (bs.map (·.2)) ∧
  (∀ b ∈ bs, ∃ x r, b.2 = PyData.tuple (x :: r)) ∧ (∀ b ∈ bs, b.2.depth ≤ 60) ∧ bs.length ≤ sizeLine ∧ ∀ (ys : List (V × PyData)) (p : Addr), ys.Perm bs → H p = none → Q (.ref p) (upd H p (.lst (ys.map (·.1))))
theorem cr_sortD (hu : X.A.units + 64 < cLine) : CallR X (.builtin "sorted") (rSortD X.K) := by
  intro pins s σ H vs us Q I r h
  obtain ⟨a, bs, rfl, hs, hd, hal, htu, hdp, hz, q⟩ := h
  obtain ⟨its, rv, hl, _⟩ := I.list hs
  rw [Vals.ref1 r]
  have e := each_of_vals rv
  have er : PySem.W.EachIs (fun (v : Value) (b : V × PyData) => ∃ as, Reads s.heap v b.2 as) its bs := by
    have gen : ∀ {cs : List (V × PyData)} {ws : List Value}, (∀ b ∈ cs, Dp X.K H b.1 b.2) → PySem.W.EachIs (fun (u : Value) (b : V × PyData) => RelV b.1 u) ws cs → PySem.W.EachIs (fun (v : Value) (b : V × PyData) => ∃ as, Reads s.heap v b.2 as) ws cs := by
      intro cs ws hcs he
      induction he with
      | nil => exact .nil
      | cons r t ih => exact .cons (Dp.reads I _ _ _ (hcs _ List.mem_cons_self) r) (ih fun b hb => hcs b (List.mem_cons_of_mem _ hb))
    exact gen hd e
  refine PySem.W.sorted_data (β := V × PyData) (R := fun (u : Value) (b : V × PyData) => RelV b.1 u) (enc := fun b => b.2) hl.isList e er hal (.inl fun d hd' => ?_) hz (fun b hb => ?_) fun out hlen ho => ?_
  · obtain ⟨b, hb, rfl⟩ := List.mem_map.mp hd'
    exact htu b hb
  · have := hdp b hb
    omega
  · obtain ⟨ep, he'⟩ := PyProof.Rows.sortedAll_at s.heap its out.toArray
    have hp : (bs.mergeSort (PySem.W.dataLe false fun b => b.2)).Perm bs := List.mergeSort_perm _ _
    have vl := vals_of_each ho
    have hlen2 : ((bs.mergeSort (PySem.W.dataLe false fun b => b.2)).map (·.1)).length ≤ sizeLine := by rw [List.length_map, hp.length_eq]; exact hz
    exact ⟨.ref _, upd H (s.heap.objs.size + 1) (.lst ((bs.mergeSort (PySem.W.dataLe false fun b => b.2)).map (·.1))), I.laid (t' := s.toks) (fun _ _ => PyProof.Rows.sortedAll_old) (Nat.le_succ _) ⟨hlen2, out, ep, vl, he'⟩, rfl, q _ _ hp (I.hok.fresh (Nat.le_succ _))⟩
end
/-! ### enumerate(t), t a tuple -/
theorem meets_enumerate_newT (l : Addr) (items : Array Value) (n : Nat) (dct : Option Addr) (sl : Array (Option Value)) :
    Meets (Builtin.«enumerate.__new__» ⟨[.type "enumerate", .ref l], []⟩) (fun _ R s => s.heap.get? l = some { cls := .type "tuple", dict := dct, data := .seq items n, slots := sl } ∧
      R (.ok (.ret (.ref (s.heap.push { cls := .type "tuple_iterator", data := .fields #[.ref l, .int 0 0] }).objs.size)))
        { s with heap := (s.heap.push { cls := .type "tuple_iterator", data := .fields #[.ref l, .int 0 0] }).push { cls := .type "enumerate", data := .fields #[.none, .bool false, .ref s.heap.objs.size, rawInt 0, .none, .none] } }) :=
  .of_wp fun prog w A R s h => by
    obtain ⟨hp, g, d, tk, os⟩ := s; obtain ⟨hl, h⟩ := h
    have hsub := sub_enumerate
    have hL : Heap.IsTuple (Shared.heap ⟨hp, g, d, tk, os⟩) l items := ⟨_, hl, rfl, n, rfl⟩
    wp_walk using AutoSeq1.wpAny_loadPart' hl
    refine wpAny_stack_any fun st => wpAny_pure ?_
    split
    · rename_i c _ _ _ _ _
      cases (c == Value.type "enumerate")
      · wp_walk using AutoSeq1.wpAny_loadPart' hl, wpAny_pyIter_tuple hL
        exact ⟨_, rfl, h⟩
      · wp_walk using AutoSeq1.wpAny_loadPart' hl, wpAny_pyIter_tuple hL
        exact ⟨_, rfl, h⟩
    · wp_walk using AutoSeq1.wpAny_loadPart' hl, wpAny_pyIter_tuple hL
      exact ⟨_, rfl, h⟩
section
variable {prog : Program} {w : World} {A : Around} {E : Value → Shared → Prop} {s : Shared}
theorem call_enumerate_tup {l : Addr} {items : Array Value} {Q : Value → Shared → Prop} (hL : s.heap.IsTuple l items)
    (h : ∀ h', IsEnum h' (s.heap.objs.size + 1) s.heap.objs.size 0 .none → h'.IsTupleIter s.heap.objs.size l 0 → h'.objs.size = s.heap.objs.size + 2 →
      (∀ b o, s.heap.get? b = some o → h'.get? b = some o) → Q (.ref (s.heap.objs.size + 1)) { s with heap := h' }) :
    wpAny (model prog w) A (call (.type "enumerate") [.ref l]) Q E s := by
  obtain ⟨⟨c, dct, dt, sl⟩, hl, hc, n, hd⟩ := hL
  replace hc : c = .type "tuple" := hc
  replace hd : dt = .seq items n := hd
  subst hc hd
  refine callType_new F.called_enumerate (by decide) (F.typeCall_enumerate_1 _) (F.newCall_enumerate_1 _) (fun obj => F.args_object_init_2 obj _) F.entry_enumerate_new
    (meets_enumerate_newT l items n dct sl) ⟨hl, ?_⟩
  have hz : (s.heap.push { cls := .type "tuple_iterator", data := .fields #[.ref l, .int 0 0] }).objs.size = s.heap.objs.size + 1 := Heap.size_push ..
  show _ ∧ _
  rw [hz]
  have he : IsEnum ((s.heap.push { cls := .type "tuple_iterator", data := .fields #[.ref l, .int 0 0] }).push
      { cls := .type "enumerate", data := .fields #[.none, .bool false, .ref s.heap.objs.size, rawInt 0, .none, .none] }) (s.heap.objs.size + 1) s.heap.objs.size 0 .none := by
    have := Heap.get?_push_size (s.heap.push { cls := .type "tuple_iterator", data := .fields #[.ref l, .int 0 0] })
      (o := { cls := .type "enumerate", data := .fields #[.none, .bool false, .ref s.heap.objs.size, rawInt 0, .none, .none] }) rfl
    rw [hz] at this; exact this
  refine ⟨⟨_, he, rfl⟩, h _ he ⟨_, Heap.get?_push_of_some _ (Heap.get?_push_size _ rfl), rfl, rfl⟩ (by rw [Heap.size_push, hz]) fun b o x => Heap.get?_push_of_some _ (Heap.get?_push_of_some _ x)⟩
end
def IteT (K : PySem.W.Frag) (a : Addr) : It :=
  ⟨fun i H => ∃ (xs : List V) (x : V), SqT K H a xs ∧ xs[i]? = some x, fun i H v H' => ∃ T x, v = .ref T ∧ H T = none ∧ H' = upd H T (.tup [.int (i : Nat), x]) ∧ ∀ xs, SqT K H a xs → xs[i]? = some x, fun i H => ∃ xs : List V, SqT K H a xs ∧ i = xs.length⟩
theorem turn_enumT {P : Program} {w : World} {K : PySem.W.Frag} {elts : List Expr} {kk : Nat} {tpos : Pos} (a e it : Addr) (hae : e ≠ a) (hai : it ≠ a) :
    Turn P w K (.Tuple elts kk tpos) (IteT K a) [e, it] e (fun i h => (∃ old, IsEnum h e it ((i : Nat) : Int) old) ∧ h.IsTupleIter it a i ∧ e ≠ it) where
  mem := by simp
  obj := fun i h st b hb => by
    obtain ⟨⟨old, he⟩, ⟨o, ho, hc, hd⟩, _⟩ := st
    have e' : b = e ∨ b = it := by simpa using hb
    rcases e' with z | z
    · rw [z]; exact ⟨_, he, fun v q => nomatch q⟩
    · rw [z]; exact ⟨o, ho, fun v q => by rw [hd] at q; cases q⟩
  keep := fun i h h' st k => let ⟨⟨old, he⟩, hi, hne⟩ := st; ⟨⟨old, k e (by simp) _ he⟩, hi.at fun o q => k it (by simp) o q, hne⟩
  item := by
    intro X hP hw hK hc i pins s σ H E I hf st hg
    subst hP hw hK
    obtain ⟨⟨old, he⟩, hit, hne⟩ := st
    obtain ⟨xs, x, hq, hx⟩ := hg
    obtain ⟨its, rv, p, hz⟩ := I.tuple hq
    obtain ⟨u, hu, ru⟩ := rv.get hx
    have hel : e < s.heap.objs.size := Heap.lt_size he
    have hil : it < s.heap.objs.size := by obtain ⟨_, q, _⟩ := hit; exact Heap.lt_size q
    have hlt : i < its.toArray.size := by
      rw [List.size_toArray]
      exact (List.getElem?_eq_some_iff.mp hu).1
    refine wpAny_pyNext_enum_itemC (Draws.tuple (A := X.A.in1) (I.ok.hd hc) it a (Ne.symm hai) its.toArray) he ⟨hit, p⟩ hlt hne (by simp [hne, hae]) fun x2 h' tk hP ho hst' hT hsz hk => ?_
    have hx2 : x2 = u := by
      have : its.toArray[i]? = some u := by simpa using hu
      rw [this] at hP
      exact (Option.some.inj hP).symm
    subst hx2
    refine ⟨_, rfl, wpAny_letOwnedTupleGo_enum (s := { s with heap := h', toks := tk + 1 }) ho fun h'' he' sb => ?_⟩
    have hT2 : h''.get? s.heap.objs.size = some { cls := .type "tuple", data := .seq #[.int i tk, x2] } := (sb.2 _ (Nat.ne_of_gt hel)).trans hT
    have new : ObjOk X.prog X.w (upd H s.heap.objs.size (.tup [.int (i : Nat), x])) h'' s.heap.objs.size (.tup [.int (i : Nat), x]) :=
      ⟨by show 2 ≤ sizeLine; decide, [.int i tk, x2], .cons ⟨_, rfl⟩ (.cons ru .nil), ⟨_, hT2, rfl, _, rfl⟩⟩
    have I1 : Inv X pins σ (upd H s.heap.objs.size (.tup [.int (i : Nat), x])) { s with heap := h'', toks := tk + 1 } :=
      I.turnedNew (ch := [e, it]) (fun b ob hb q => (sb.2 b (fun z => hb (by simp [z]))).trans (hk b ob (fun z => hb (by simp [z])) (fun z => hb (by simp [z])) q)) hf (Nat.le_refl _) new
    refine ⟨.ref s.heap.objs.size, _, I1, rfl, ⟨_, x, rfl, I.hok.fresh (Nat.le_refl _), rfl, fun ys hy => by rw [I.tuple_inj hy hq]; exact hx⟩, ⟨⟨x2, ?_⟩, hst'.1.at fun o q => (sb.2 it (Ne.symm hne)).trans q, hne⟩, fun b hb => ?_⟩
    · have e1 : ((i + 1 : Nat) : Int) = (i : Int) + 1 := by omega
      rw [e1]; exact he'
    · have hb' : b < s.heap.objs.size := by
        have e' : b = e ∨ b = it := by simpa using hb
        rcases e' with z | z
        · rw [z]; exact hel
        · rw [z]; exact hil
      rw [upd_ne (Nat.ne_of_lt hb')]
      exact (hf b hb).1
  done := by
    intro X hP hw hK hc i pins s σ H E I hf st hg
    subst hP hw hK
    obtain ⟨⟨old, he⟩, hit, hne⟩ := st
    obtain ⟨xs, hq, hx⟩ := hg
    obtain ⟨its, rv, p, hz⟩ := I.tuple hq
    obtain ⟨f0, f1, f2, f3, f4, f5⟩ := hf it (by simp)
    have hl := rv.length
    have hn : its.toArray.size = i := by rw [List.size_toArray]; omega
    exact wpAny_pyNext_enum_endD (Draws.tuple (A := X.A.in1) (I.ok.hd hc) it a (Ne.symm hai) its.toArray) he ⟨by rw [hn]; exact hit, p⟩ fun h' eb => ⟨rfl, I.turned (t' := s.toks) (fun b o hb q => eb b o hb q) f0 f1 f3 f4 f5⟩
  self := fun A i s Q E st h => let ⟨⟨_, he⟩, _⟩ := st; wpAny_pyIter_enum he h
def iEnumT (K : PySem.W.Frag) (ta : TA) : TI := fun σ H R => ta σ H fun vs H1 => ∃ a xs, vs = [.ref a] ∧ SqT K H1 a xs ∧ R (IteT K a) H1
theorem pi_enumT {X : Cx} {e : Expr} {ta : TA} {p pos tpos : Pos} {elts : List Expr} {kk : Nat} (hg : Gl X "enumerate") (hm : X.mg "enumerate" = none) (ha : PA X [e] ta) (hs : starEach [e] X.env = [(false, eval e X.env)] := by rfl) :
    PI X (.Tuple elts kk tpos) (.Call (.Name "enumerate" p) [e] [] pos) (iEnumT X.K ta) := by
  refine ⟨fun pins s σ H R I h => ?_⟩
  refine Call_ (ld_blt I hg hm boot_enumerate (PyProof.Rows.callWith_type1 (thn (ha.run pos pins s σ H _ I h) fun us s1 ⟨vs, H1, I1, r1, q1⟩ => ?_) hs rfl))
  obtain ⟨a, xs, ex, hq, q⟩ := q1
  subst ex
  cases r1 with
  | cons r rr =>
    cases rr
    cases r
    obtain ⟨its, rv, p', hz⟩ := I1.tuple hq
    have hlt : a < s1.heap.objs.size := by obtain ⟨_, e, _⟩ := p'; exact Heap.lt_size e
    refine call_enumerate_tup (show s1.heap.IsTuple a its.toArray from p') fun h' he hit hsz hk => wpAny_pyIter_enum he ?_
    have I2 : Inv X pins σ H1 { s1 with heap := h' } := I1.kept (t' := s1.toks) hk
    refine ⟨s1.heap.objs.size + 1, [s1.heap.objs.size + 1, s1.heap.objs.size], _, _, H1, rfl, I2, turn_enumT a (s1.heap.objs.size + 1) s1.heap.objs.size (Ne.symm (Nat.ne_of_lt (Nat.lt_succ_of_lt hlt))) (Ne.symm (Nat.ne_of_lt hlt)), ⟨⟨.none, he⟩, hit, Nat.succ_ne_self _⟩, fun b hb => ?_, q⟩
    have e' : b = s1.heap.objs.size + 1 ∨ b = s1.heap.objs.size := by simpa using hb
    have hle : s1.heap.objs.size ≤ b := by
      rcases e' with z | z
      · rw [z]; exact Nat.le_add_right _ _
      · rw [z]; exact Nat.le_refl _
    exact I1.fpOk hle (I1.hok.fresh hle)
theorem walk_enumT {K : PySem.W.Frag} {a : Addr} {xs : List V} : Walk (IteT K a) xs.length (fun H => SqT K H a xs) (YPair (fun i => some (.int (i : Nat))) (fun i => xs[i]?)) := by
  refine ⟨fun i _ hi q => ⟨xs, xs[i], q, by simp [hi]⟩, fun _ q => ⟨xs, q, rfl⟩, fun i H v H' _ q y => ?_⟩
  obtain ⟨T, x, h1, h2, h3, h4⟩ := y
  exact ⟨T, .int (i : Nat), x, h1, h2, h3, rfl, h4 xs q⟩
end Ru
set_option Elab.async false
set_option linter.all false
set_option maxRecDepth 100000
set_option maxHeartbeats 4000000
set_option autoImplicit false
namespace Ru
open PySem PySem.Spec PyProof.Rows L2
section
variable {X : Cx}
/-! ### word, *numbers = t -/
theorem unpack_star1 {pins : List (Addr × Obj)} {s : Shared} {σ : L2.St} {H : Hp} {a : Addr} {z : V} {xs : List V} {E : Value → Shared → Prop} {Q : List Value → Shared → Prop} (I : Inv X pins σ H s) (hh : X.A.handled = none) (hq : SqT X.K H a (z :: xs)) (hz : xs.length ≤ 1000)
    (h : ∀ (p : Addr) (u : Value) (s' : Shared), H p = none → Inv X pins σ (upd H p (.lst xs)) s' → RelV z u → Q [u, .ref p] s') : wpAny (model X.prog X.w) X.A (unpackItems (.ref a) 2 (some 1)) Q E s := by
  obtain ⟨its, rv, hl, _⟩ := I.tuple hq
  cases rv with
  | @cons z' u zs us rz rr =>
  have hlen := rr.length
  have hlt : a ≠ s.heap.objs.size := by obtain ⟨o, ho, _⟩ := hl; exact Nat.ne_of_lt (Heap.lt_size ho)
  unfold unpackItems
  refine wpAny_bind ?_
  unfold notIterableAtAll
  refine wpAny_bind (wpAny_specialOf hl.typeIs PyProof.Rows.slot_tuple_iter.lookup ?_)
  refine wpAny_pure ?_
  simp only [Bool.false_eq_true, if_false]
  refine wpAny_bind (wpAny_holding (iter_tuple hl ?_))
  refine wpAny_bind (wpAny_holding (draw_tuple hlt 1 0 _ _ ⟨_, Heap.get?_push_size _ rfl, rfl, rfl⟩ (hl.push _) (by simp) fun h₁ hit₁ hs₁ => ?_))
  have hl₁ : IsTup h₁ a (u :: us).toArray := (hl.push _).extBut hs₁.extBut hlt
  rw [Nat.zero_add] at hit₁
  have hit₁' := hit₁
  obtain ⟨oi, hoi, _⟩ := hit₁'
  have hl₁' := hl₁
  obtain ⟨ol, hol, _⟩ := hl₁'
  rw [List.drop_zero]
  have e1 : (u :: us).toArray.toList.take 1 = [u] := by simp
  rw [e1]
  rw [if_neg (show ¬ ([u].length < 1) by simp)]
  have hsl := sizeLine_eq
  refine wpAny_bind (wpAny_holding (PySem.W.kun_collect (s := { s with heap := h₁ }) (T := "tuple_iterator") (.inr (.inr (.inr rfl))) (Walks.tuple (A := X.A.in1) hh s.heap.objs.size a hlt (u :: us).toArray) (fun j u st => st.1.typeIs) (k := 1) (by simp) ⟨hit₁, hl₁⟩ (Heap.lt_size hoi) (Heap.lt_size hol) (fun h₂ tk hk => ?_) (by simp; omega)))
  have e2 : (u :: us).toArray.toList.drop 1 = us := by simp
  rw [e2]
  show wpAny _ _ (if us.length < 2 - 1 - 1 then _ else _) _ _ _
  rw [if_neg (by omega)]
  show wpAny _ _ (newList (us.take (us.length - (2 - 1 - 1))) >>= fun d => pure ([u] ++ [d] ++ us.drop (us.length - (2 - 1 - 1)))) _ _ _
  rw [show us.length - (2 - 1 - 1) = us.length from by omega, List.take_length, List.drop_length]
  have he : ∀ b o, s.heap.get? b = some o → h₂.get? b = some o := fun b o e => hk b o (Nat.ne_of_lt (Heap.lt_size e)) (hs₁.extBut b o (Nat.ne_of_lt (Heap.lt_size e)) (Heap.get?_push_of_some _ e))
  have I2 : Inv X pins σ H { s with heap := h₂, toks := tk } := I.kept he
  refine wpAny_bind (wpAny_newList ?_ (by omega))
  have hf : H h₂.objs.size = none := I2.hok.fresh (Nat.le_refl _)
  refine wpAny_pure (h h₂.objs.size u _ hf (I2.laid (t' := tk) (o := .lst xs) (fun b u e => Heap.get?_push_of_some _ e) (Nat.le_refl _) ⟨by omega, us, 0, rr, Heap.get?_push_size _ rfl⟩) rz)
def gStar (K : PySem.W.Frag) (i j : Nat) : TG := fun v σ H Q => ∃ a z xs, v = .ref a ∧ SqT K H a (z :: xs) ∧ xs.length ≤ 1000 ∧ ∀ p, H p = none → Q ((σ.set i (some z)).set j (some (.ref p))) (upd H p (.lst xs))
theorem pg_star {i j : Nat} {x y : Str} {px py sp pos : Pos} {k : Nat} (hc : X.calm = true) (hN : X.N.Nodup) (hi : X.N[i]? = some x) (hj : X.N[j]? = some y) (hx : Loc X.env.scope x) (hy : Loc X.env.scope y)
    (hfx : X.fn x = true ∨ X.env.scope.names.lookup x = some .local := by first | exact .inl rfl | exact .inr rfl | assumption) (hfy : X.fn y = true ∨ X.env.scope.names.lookup y = some .local := by first | exact .inl rfl | exact .inr rfl | assumption)
    (hn : (assignEach [.Name x px, .Starred (.Name y py) sp] X.env).length = 2 := by rfl) (hst : (assignEach [.Name x px, .Starred (.Name y py) sp] X.env).findIdx? (·.1) = some 1 := by rfl)
    (hm : (assignEach [.Name x px, .Starred (.Name y py) sp] X.env).map (·.2) = [assign (.Name x px) X.env, assign (.Name y py) X.env] := by rfl) :
    PG X (.Tuple [.Name x px, .Starred (.Name y py) sp] k pos) (gStar X.K i j) := by
  refine ⟨fun pins s σ H v u Q I r hw => ?_⟩
  obtain ⟨a, z, xs, e1, hq, hl, hw⟩ := hw
  subst e1
  cases r
  rw [assign_Tuple]
  refine wpAny_bind (wpAny_standAt ?_)
  unfold unpack
  rw [hn, hst, hm]
  refine wpAny_bind (wpAny_holding (unpack_star1 I (I.ok.hd hc) hq hl fun p u2 s' hp I' rz => ?_))
  refine assignInOrder_cons (wpAny_assign_Name (store_ok I' hN hi hx rz (fun s2 I2 => ?_) hfx))
  refine assignInOrder_cons (wpAny_assign_Name (store_ok I2 hN hj hy (v := .ref p) rfl (fun s3 I3 => ?_) hfy))
  exact assignInOrder_nil ⟨_, _, I3, hw p hp⟩
/-! ### d.get(k, x), d a written dict with text keys, k there -/
def tKGet (K : PySem.W.Frag) (w : World) (td ty tx : TE) : TE := fun σ H Q => td σ H fun x H1 => ∃ a es n, x = .ref a ∧ KDict K w a es n ∧ ty σ H1 fun y H2 => tx σ H2 fun z H3 => ∃ (k : Str) (u0 : Value) (v0 : V), y = .str k ∧ PySem.W.nsIn K a k = some (some u0) ∧ RelV v0 u0 ∧ Q v0 H3
theorem pe_kget {o e f : Expr} {apos cpos : Pos} {td ty tx : TE} (ho : PE X o td) (he : PE X e ty) (hf : PE X f tx) (m : M2 X o "get" apos e f cpos) : PE X (.Call (.Attribute o "get" apos) [e, f] [] cpos) (tKGet X.K X.w td ty tx) := by
  refine ⟨fun pins s σ H Q I h => ?_⟩
  refine wpAny_Call_method m.base m.few m.line PySem.F.plainAttrs_dict PySem.F.slot_dict_get PySem.F.type_dict_get (thn (ho.run pins s σ H _ I h) fun u s1 ⟨x, H1, I1, rx, a, es, n, ex, D, q1⟩ => ?_)
  subst ex
  obtain rfl : u = Value.ref a := rx
  refine ⟨kd_type D I1, fun b q => ?_, ?_⟩
  · cases q
    exact ⟨_, I1.kIn _ _ D.at_, rfl⟩
  rw [m.trees]
  refine Calls.callWith_builtin rfl (Calls.evalArgs_plain (Calls.spliced_cons (thn (he.run pins s1 σ H1 _ I1 q1) fun iv s2 ⟨y, H2, I2, ry, q2⟩ =>
    Calls.spliced_cons (thn (hf.run pins s2 σ H2 _ I2 q2) fun fv s3 ⟨z, H3, I3, rz, k, u0, v0, ey, hk, r0, q3⟩ => Calls.spliced_nil ?_))))
  subst ey
  obtain ⟨t, rfl⟩ := (show ∃ t, iv = Value.str k t from ry)
  refine call_meetsIn PySem.F.slot_dict_get (kd_type D I3) PySem.F.entry_dict_get (PySem.F.args_dict_get_3 _ _ _) (meets_dict_get_default (strKind X.prog X.w) a (strKind_is X.prog X.w k t) D.low fv) ⟨_, PySem.W.mapOf_K (prog := X.prog) (w := X.w) I3.kIn D.at_ D.lit, ?_⟩
  rw [PySem.W.find_K D.at_ hk]
  exact ⟨v0, H3, I3.tok _, r0, q3⟩
end
end Ru
namespace Ru
open PySem PySem.Spec PyProof.Rows L2
section
variable {X : Cx}
/-- len, list(..), tuple(..) by names -/
def rTupS (K : PySem.W.Frag) : List V → Hp → VK → Prop := fun xs H Q => ∃ p ys, xs = [.ref p] ∧ ((SqL K H p ys ∧ ∀ l, H l = none → Q (.ref l) (upd H l (.tup ys))) ∨ (SqT K H p ys ∧ Q (.ref p) H))
theorem cr_len : CallR X (.builtin "len") (Evl.rLenS X.K) := call_len_seq
theorem cr_list : CallR X (.type "list") (Evl.rListS X.K) := call_list_of
theorem cr_tup : CallR X (.type "tuple") (rTupS X.K) := call_tuple_of
end
end Ru
set_option autoImplicit false
/-! The mirror of the machine: one class, no spare pages, no stops, no fault; operations alloc, free, adopt, drain. -/
namespace Mx
abbrev Blk := Nat × Nat
inductive Pg | store | small (home : Nat) (free : List Nat)
  deriving DecidableEq, Inhabited
inductive Sl | non | blk (b : Blk) | fail
  deriving DecidableEq, Inhabited
inductive Ph | begin | hand | send | flush | over
  deriving DecidableEq, Inhabited
inductive Op | alloc (s : Nat) | free (s : Nat) | adopt (s : Nat) | drain
  deriving DecidableEq, Inhabited
structure Wk where
  run : Bool
  pc : Nat
  ph : Ph
  hand : List Blk
  cache : List Blk
  bats : List (List Blk)
  deriving DecidableEq, Inhabited
structure DS where
  pages : List Pg
  slots : List Sl
  wks : List Wk
  arrs : List (List Blk)
  fl : List (Nat × List Blk)
  deriving DecidableEq, Inhabited
structure MC where
  ns : Nat
  size : Nat
  thr : List (Nat × List Op)
  batch : Nat
  nsl : Nat
  deriving DecidableEq, Inhabited
inductive Mv | step (t : Nat) | carry (m : Nat) | sweep (s : Nat)
  deriving DecidableEq, Inhabited
inductive Ev | hit (b : Blk) | take (n : Nat) | home (b : Blk) | pass (b : Blk) | fill (p : Nat) | opn (p : Nat) | fail | keep (b : Blk) | nothing | batch (b : Blk) | send (h n : Nat) | adopt (p h : Nat) | carry (s n : Nat) | sweep (n : Nat)
  deriving DecidableEq, Inhabited

def DS.pg (D : DS) (p : Nat) : Pg := D.pages.getD p .store
def DS.sl (D : DS) (s : Nat) : Sl := D.slots.getD s .non
def DS.wk (D : DS) (t : Nat) : Wk := D.wks.getD t default
def DS.arr (D : DS) (z : Nat) : List Blk := D.arrs.getD z []
def DS.setPg (D : DS) (p : Nat) (x : Pg) : DS := { D with pages := D.pages.set p x }
def DS.setSl (D : DS) (s : Nat) (x : Sl) : DS := { D with slots := D.slots.set s x }
def DS.setWk (D : DS) (t : Nat) (w : Wk) : DS := { D with wks := D.wks.set t w }
def DS.setArr (D : DS) (z : Nat) (l : List Blk) : DS := { D with arrs := D.arrs.set z l }
def DS.addFl (D : DS) (h : Nat) (l : List Blk) : DS := { D with fl := D.fl ++ [(h, l)] }
def Wk.bat (w : Wk) (j : Nat) : List Blk := w.bats.getD j []
def MC.prog (M : MC) (t : Nat) : List Op := (M.thr.getD t default).2
def MC.sock (M : MC) (t : Nat) : Nat := (M.thr.getD t default).1
def Wk.empty (w : Wk) : Bool := w.hand.isEmpty && w.cache.isEmpty && w.bats.all List.isEmpty

def fullPg (M : MC) (f : List Nat) : Bool := (List.range M.size).all fun n => f.contains n
def putHome (M : MC) (D : DS) (b : Blk) : DS := match D.pg b.1 with
  | .store => D
  | .small h f => D.setPg b.1 (if fullPg M (f ++ [b.2]) then .store else .small h (f ++ [b.2]))
def homeOf (D : DS) (b : Blk) : Nat := match D.pg b.1 with
  | .store => 0
  | .small h _ => h
def bring (M : MC) (D : DS) (b : Blk) (z : Nat) : DS × Ev :=
  if homeOf D b = z then (putHome M D b, .home b) else (D.addFl (homeOf D b) [b], .pass b)
def isList (z : Nat) : Pg → Bool
  | .store => false
  | .small h f => decide (h = z) && !f.isEmpty
def listsWith (D : DS) (z : Nat) : List Nat := (List.range D.pages.length).filter fun p => isList z (D.pg p)
def isStore : Pg → Bool
  | .store => true
  | .small _ _ => false
def storePages (D : DS) : List Nat := (List.range D.pages.length).filter fun p => isStore (D.pg p)
def pageToOpen (D : DS) : Option Nat := (storePages D).head?
def lookEnd (M : MC) (D : DS) (t : Nat) : DS :=
  if (D.wk t).pc = (M.prog t).length then
    (if (D.wk t).empty then D.setWk t { D.wk t with run := false, ph := .over } else D.setWk t { D.wk t with ph := .flush })
  else D
def advance (M : MC) (D : DS) (t : Nat) : DS := lookEnd M (D.setWk t { D.wk t with pc := (D.wk t).pc + 1, ph := .begin }) t
/-- the first batch of which p holds -/
def firstBat (p : List Blk → Bool) (w : Wk) : Option Nat := (List.range w.bats.length).find? fun j => p (w.bat j)
def sendBat (D : DS) (t j : Nat) : DS := (D.setWk t { D.wk t with bats := (D.wk t).bats.set j [] }).addFl j ((D.wk t).bat j)
def take (D : DS) (t z : Nat) : DS := (D.setWk t { D.wk t with hand := D.arr z, ph := .hand }).setArr z []
def popHand (D : DS) (t : Nat) : DS := D.setWk t { D.wk t with hand := (D.wk t).hand.tail }
def popCache0 (D : DS) (t : Nat) : DS := D.setWk t { D.wk t with cache := (D.wk t).cache.tail }
def fillFrom (M : MC) (D : DS) (t p : Nat) : DS := match D.pg p with
  | .store => D
  | .small h f => (D.setWk t { D.wk t with cache := (f.take M.batch).map fun n => (p, n), ph := .begin }).setPg p (.small h (f.drop M.batch))
def openPage (M : MC) (D : DS) (t z s : Nat) : DS × Ev := match pageToOpen D with
  | none => (advance M (D.setSl s .fail) t, .fail)
  | some p => (fillFrom M (D.setPg p (.small z (List.range M.size))) t p, .opn p)
def fill (M : MC) (D : DS) (t z s : Nat) : DS × Ev := match listsWith D z with
  | [] => openPage M D t z s
  | p :: _ => (fillFrom M D t p, .fill p)
def allocate (M : MC) (D : DS) (t z s : Nat) : DS × Ev :=
  if (D.wk t).ph = .begin then
    (match (D.wk t).cache.getLast? with
      | none => (take D t z, .take (D.arr z).length)
      | some b => (advance M ((D.setWk t { D.wk t with cache := (D.wk t).cache.dropLast }).setSl s (.blk b)) t, .hit b))
  else (match (D.wk t).hand with
    | [] => fill M D t z s
    | b :: _ => bring M (popHand D t) b z)
def drainEnd (M : MC) (D : DS) (t : Nat) : DS := if (D.wk t).ph = .hand ∧ (D.wk t).hand = [] then advance M D t else D
def drain (M : MC) (D : DS) (t z : Nat) : DS × Ev :=
  if (D.wk t).ph = .begin then (drainEnd M (take D t z) t, .take (D.arr z).length)
  else (match (D.wk t).hand with
    | [] => (D, .nothing)
    | b :: _ => (drainEnd M (bring M (popHand D t) b z).1 t, (bring M (popHand D t) b z).2))
def freeBlock (M : MC) (D : DS) (t z : Nat) (b : Blk) : DS × Ev :=
  if homeOf D b ≠ z then
    (let D1 := D.setWk t { D.wk t with bats := (D.wk t).bats.set (homeOf D b) ((D.wk t).bat (homeOf D b) ++ [b]) }
     (if M.batch ≤ ((D.wk t).bat (homeOf D b)).length + 1 then D1.setWk t { D1.wk t with ph := .send } else advance M D1 t, .batch b))
  else if (D.wk t).cache.length < M.batch then (advance M (D.setWk t { D.wk t with cache := (D.wk t).cache ++ [b] }) t, .keep b)
  else (advance M (putHome M D b) t, .home b)
def sendFull (M : MC) (D : DS) (t : Nat) : DS × Ev := match firstBat (fun l => decide (M.batch ≤ l.length)) (D.wk t) with
  | none => (D, .nothing)
  | some j => (advance M (sendBat D t j) t, .send j ((D.wk t).bat j).length)
def freeOp (M : MC) (D : DS) (t z s : Nat) : DS × Ev :=
  if (D.wk t).ph = .send then sendFull M D t
  else (match D.sl s with
    | .blk b => freeBlock M (D.setSl s .non) t z b
    | _ => (advance M (D.setSl s .non) t, .nothing))
def adopt (M : MC) (D : DS) (t z s : Nat) : DS × Ev := match D.sl s with
  | .blk b => (match D.pg b.1 with
    | .store => (advance M D t, .nothing)
    | .small h f => (advance M (D.setPg b.1 (.small z f)) t, .adopt b.1 h))
  | _ => (advance M D t, .nothing)
def flushBat (D : DS) (t : Nat) : DS × Ev := match firstBat (fun l => !l.isEmpty) (D.wk t) with
  | none => (D, .nothing)
  | some j => (sendBat D t j, .send j ((D.wk t).bat j).length)
def flush (M : MC) (D : DS) (t z : Nat) : DS × Ev := match (D.wk t).cache with
  | b :: _ => (lookEnd M (bring M (popCache0 D t) b z).1 t, (bring M (popCache0 D t) b z).2)
  | [] => (lookEnd M (flushBat D t).1 t, (flushBat D t).2)
def stepT (M : MC) (D : DS) (t : Nat) : DS × Ev := match (M.prog t)[(D.wk t).pc]? with
  | none => flush M D t (M.sock t)
  | some (.alloc s) => allocate M D t (M.sock t) s
  | some (.free s) => freeOp M D t (M.sock t) s
  | some (.adopt s) => adopt M D t (M.sock t) s
  | some .drain => drain M D t (M.sock t)
def carry (D : DS) (m : Nat) : DS × Ev := match D.fl[m]? with
  | none => (D, .nothing)
  | some (s, bs) => (({ D with fl := D.fl.eraseIdx m } : DS).setArr s (D.arr s ++ bs), .carry s bs.length)
def sweep (M : MC) (D : DS) (s : Nat) : DS × Ev :=
  ((D.arr s).foldl (fun D b => (bring M D b s).1) (D.setArr s []), .sweep (D.arr s).length)
def stepM (M : MC) (D : DS) : Mv → DS × Ev
  | .step t => stepT M D t
  | .carry m => carry D m
  | .sweep s => sweep M D s
def waiting (M : MC) (D : DS) (t : Nat) : Bool := match (M.prog t)[(D.wk t).pc]? with
  | none => false
  | some .drain => false
  | some (.alloc s) =>
    if (D.wk t).ph = .send then false
    else if (D.wk t).ph = .begin then !(D.wk t).cache.isEmpty && decide (D.sl s ≠ .non)
    else if !(D.wk t).hand.isEmpty || !(listsWith D (M.sock t)).isEmpty then false
    else (pageToOpen D).isNone && decide (D.sl s ≠ .non)
  | some (.free s) => if (D.wk t).ph = .send then false else decide (D.sl s = .non)
  | some (.adopt s) => if (D.wk t).ph = .send then false else decide (D.sl s = .non)
def served (M : MC) (D : DS) (z : Nat) : Bool := (List.range D.wks.length).any fun t => decide (M.sock t = z) && (D.wk t).run
/-- the possible moves, before they are sorted -/
def moves (M : MC) (D : DS) : List Mv :=
  (List.range D.fl.length).map .carry ++ ((List.range D.wks.length).filter fun t => (D.wk t).run && !waiting M D t).map .step
  ++ ((List.range D.arrs.length).filter fun z => !(D.arr z).isEmpty && !served M D z).map .sweep
def start (M : MC) : DS where
  pages := List.replicate 4 .store
  slots := List.replicate M.nsl .non
  wks := M.thr.map fun p => { run := !p.2.isEmpty, pc := 0, ph := if p.2.isEmpty then .over else .begin, hand := [], cache := [], bats := List.replicate M.ns [] }
  arrs := List.replicate M.ns []
  fl := []
end Mx
set_option Elab.async false
set_option linter.all false
set_option maxRecDepth 100000
set_option maxHeartbeats 2000000
set_option autoImplicit false
/-! Data made of tuples alone, and how a value stands for it. -/
namespace Rp
open PySem PySem.Spec PyProof.Rows L2
abbrev Frg := PySem.W.Frag
mutual
inductive Td (K : Frg) (H : Hp) : V → PyData → Prop
  | non : Td K H .non .none
  | bl (b : Bool) : Td K H (.bl b) (.bool b)
  | int (i : Int) : Td K H (.int i) (.int i)
  | str (x : Str) : Td K H (.str x) (.str x)
  | tup {a : Addr} {xs : List V} {ds : List PyData} : SqT K H a xs → TdL K H xs ds → Td K H (.ref a) (.tuple ds)
inductive TdL (K : Frg) (H : Hp) : List V → List PyData → Prop
  | nil : TdL K H [] []
  | cons {v : V} {vs : List V} {d : PyData} {ds : List PyData} : Td K H v d → TdL K H vs ds → TdL K H (v :: vs) (d :: ds)
end
/-- tuples stay -/
def Tk (H H' : Hp) : Prop := ∀ a xs, Rd H a (.tup xs) → Rd H' a (.tup xs)
section
variable {K : Frg} {H H1 H2 : Hp}
theorem Tk.refl (H : Hp) : Tk H H := fun _ _ h => h
theorem Tk.trans (a : Tk H H1) (b : Tk H1 H2) : Tk H H2 := fun x xs h => b x xs (a x xs h)
theorem Tk.of_ex (e : Evl.Ex H H1) : Tk H H1 := fun _ _ h => Evl.ex_rd e h
theorem Tk.sq (k : Tk H H1) {a : Addr} {xs : List V} (h : SqT K H a xs) : SqT K H1 a xs := by
  rcases h with h | h
  · exact .inl (k a xs h)
  · exact .inr h
mutual
theorem Td.keep (k : Tk H H1) : ∀ {v : V} {d : PyData}, Td K H v d → Td K H1 v d
  | _, _, .non => .non
  | _, _, .bl b => .bl b
  | _, _, .int i => .int i
  | _, _, .str x => .str x
  | _, _, .tup h t => .tup (k.sq h) (TdL.keep k t)
theorem TdL.keep (k : Tk H H1) : ∀ {vs : List V} {ds : List PyData}, TdL K H vs ds → TdL K H1 vs ds
  | _, _, .nil => .nil
  | _, _, .cons h t => .cons (Td.keep k h) (TdL.keep k t)
end
mutual
theorem Td.dp : ∀ {v : V} {d : PyData}, Td K H v d → Dp K H v d
  | _, _, .non => .non
  | _, _, .bl b => .bl b
  | _, _, .int i => .int i
  | _, _, .str x => .str x
  | _, _, .tup h t => .tup h (TdL.dp t)
theorem TdL.dp : ∀ {vs : List V} {ds : List PyData}, TdL K H vs ds → DpAll K H vs ds
  | _, _, .nil => .nil
  | _, _, .cons h t => .cons (Td.dp h) (TdL.dp t)
end
theorem Td.ex (e : Evl.Ex H H1) {v : V} {d : PyData} (h : Td K H v d) : Td K H1 v d := h.keep (.of_ex e)
theorem TdL.ex (e : Evl.Ex H H1) {v : List V} {d : List PyData} (h : TdL K H v d) : TdL K H1 v d := h.keep (.of_ex e)
theorem Td.int_iff {v : V} {i : Int} : Td K H v (.int i) ↔ v = .int i := ⟨fun h => by cases h; rfl, fun h => by subst h; exact .int i⟩
theorem Td.str_iff {v : V} {x : Str} : Td K H v (.str x) ↔ v = .str x := ⟨fun h => by cases h; rfl, fun h => by subst h; exact .str x⟩
theorem Td.non_iff {v : V} : Td K H v .none ↔ v = .non := ⟨fun h => by cases h; rfl, fun h => by subst h; exact .non⟩
theorem Td.bl_iff {v : V} {b : Bool} : Td K H v (.bool b) ↔ v = .bl b := ⟨fun h => by cases h; rfl, fun h => by subst h; exact .bl b⟩
theorem Td.tup_inv {v : V} {ds : List PyData} (h : Td K H v (.tuple ds)) : ∃ a xs, v = .ref a ∧ SqT K H a xs ∧ TdL K H xs ds := by
  cases h with
  | tup h t => exact ⟨_, _, rfl, h, t⟩
theorem TdL.length : ∀ {vs : List V} {ds : List PyData}, TdL K H vs ds → vs.length = ds.length
  | _, _, .nil => rfl
  | _, _, .cons _ t => by rw [List.length_cons, List.length_cons, TdL.length t]
theorem TdL.get : ∀ {vs : List V} {ds : List PyData} {i : Nat} {d : PyData}, TdL K H vs ds → ds[i]? = some d → ∃ v, vs[i]? = some v ∧ Td K H v d
  | _, _, _, _, .nil, e => by simp at e
  | _, _, 0, _, .cons h _, e => by
    simp at e
    subst e
    exact ⟨_, rfl, h⟩
  | _, _, i + 1, d, .cons _ t, e => by
    obtain ⟨v, h1, h2⟩ := TdL.get (i := i) (d := d) t (by simpa using e)
    exact ⟨v, by simpa using h1, h2⟩
theorem TdL.get' : ∀ {vs : List V} {ds : List PyData} {i : Nat} {v : V}, TdL K H vs ds → vs[i]? = some v → ∃ d, ds[i]? = some d ∧ Td K H v d
  | _, _, _, _, .nil, e => by simp at e
  | _, _, 0, _, .cons h _, e => by
    simp at e
    subst e
    exact ⟨_, rfl, h⟩
  | _, _, i + 1, d, .cons _ t, e => by
    obtain ⟨v, h1, h2⟩ := TdL.get' (i := i) (v := d) t (by simpa using e)
    exact ⟨v, by simpa using h1, h2⟩
theorem TdL.append : ∀ {vs ws : List V} {ds es : List PyData}, TdL K H vs ds → TdL K H ws es → TdL K H (vs ++ ws) (ds ++ es)
  | _, _, _, _, .nil, s => s
  | _, _, _, _, .cons h t, s => .cons h (TdL.append t s)
theorem TdL.one {v : V} {d : PyData} (h : Td K H v d) : TdL K H [v] [d] := .cons h .nil
theorem TdL.set : ∀ {vs : List V} {ds : List PyData} (i : Nat) {v : V} {d : PyData}, TdL K H vs ds → Td K H v d → TdL K H (vs.set i v) (ds.set i d)
  | _, _, _, _, _, .nil, _ => .nil
  | _, _, 0, _, _, .cons _ t, h => .cons h t
  | _, _, i + 1, _, _, .cons q t, h => .cons q (TdL.set i t h)
theorem TdL.take : ∀ {vs : List V} {ds : List PyData} (n : Nat), TdL K H vs ds → TdL K H (vs.take n) (ds.take n)
  | _, _, 0, _ => .nil
  | _, _, _ + 1, .nil => .nil
  | _, _, n + 1, .cons r t => .cons r (TdL.take n t)
theorem TdL.drop : ∀ {vs : List V} {ds : List PyData} (n : Nat), TdL K H vs ds → TdL K H (vs.drop n) (ds.drop n)
  | _, _, 0, r => r
  | _, _, _ + 1, .nil => .nil
  | _, _, n + 1, .cons _ t => TdL.drop n t
theorem TdL.erase : ∀ {vs : List V} {ds : List PyData} (n : Nat), TdL K H vs ds → TdL K H (vs.eraseIdx n) (ds.eraseIdx n)
  | _, _, _, .nil => .nil
  | _, _, 0, .cons _ t => t
  | _, _, n + 1, .cons r t => .cons r (TdL.erase n t)
theorem TdL.dropLast : ∀ {vs : List V} {ds : List PyData}, TdL K H vs ds → TdL K H vs.dropLast ds.dropLast
  | _, _, .nil => .nil
  | _, _, .cons _ .nil => .nil
  | _, _, .cons r (.cons q t) => .cons r (TdL.dropLast (.cons q t))
theorem TdL.ints : ∀ {vs : List V} {ns : List Int}, TdL K H vs (ns.map PyData.int) → vs = ns.map V.int
  | _, [], h => by
    cases h
    rfl
  | _, n :: ns, h => by
    cases h with
    | cons a t =>
      cases a
      rw [TdL.ints t]
      rfl
theorem TdL.of_ints : ∀ (ns : List Int), TdL K H (ns.map V.int) (ns.map PyData.int)
  | [] => .nil
  | n :: ns => .cons (.int n) (TdL.of_ints ns)
theorem TdL.nil_iff {vs : List V} : TdL K H vs [] ↔ vs = [] := ⟨fun h => by cases h; rfl, fun h => by subst h; exact .nil⟩
theorem TdL.cons_inv {vs : List V} {d : PyData} {ds : List PyData} (h : TdL K H vs (d :: ds)) : ∃ v ws, vs = v :: ws ∧ Td K H v d ∧ TdL K H ws ds := by
  cases h with
  | cons a t => exact ⟨_, _, rfl, a, t⟩
end
/-! ### what a reading gives, as data -/
section
variable {K : Frg} {σ : L2.St} {H H' : Hp} {ta tb te : TE}
def EvD (K : Frg) (te : TE) (σ : L2.St) (H : Hp) (d : PyData) : Prop := ∀ H1, Evl.Ex H H1 → ∀ Q : VK, (∀ v H2, Evl.Ex H1 H2 → Td K H2 v d → Q v H2) → te σ H1 Q
def EvDL (K : Frg) (ta : TA) (σ : L2.St) (H : Hp) (ds : List PyData) : Prop := ∀ H1, Evl.Ex H H1 → ∀ Q : List V → Hp → Prop, (∀ vs H2, Evl.Ex H1 H2 → TdL K H2 vs ds → Q vs H2) → ta σ H1 Q
/-- a new list of such -/
def EvLD (K : Frg) (te : TE) (σ : L2.St) (H : Hp) (ds : List PyData) : Prop := ∀ H1, Evl.Ex H H1 → ∀ Q : VK, (∀ p xs H2, H1 p = none → Evl.Ex H1 H2 → H2 p = some (.lst xs) → TdL K H2 xs ds → Q (.ref p) H2) → te σ H1 Q
theorem EvD.mono (e : Evl.Ex H H') {d : PyData} (h : EvD K te σ H d) : EvD K te σ H' d := fun H1 a Q q => h H1 (e.trans a) Q q
theorem EvD.int {i : Int} (h : EvD K te σ H (.int i)) : Evl.Ev te σ H (.int i) := fun H1 e Q q => h H1 e Q fun v H2 e2 t => by
  cases t
  exact q H2 e2
theorem EvD.str {i : Str} (h : EvD K te σ H (.str i)) : Evl.Ev te σ H (.str i) := fun H1 e Q q => h H1 e Q fun v H2 e2 t => by
  cases t
  exact q H2 e2
theorem EvD.bl {i : Bool} (h : EvD K te σ H (.bool i)) : Evl.Ev te σ H (.bl i) := fun H1 e Q q => h H1 e Q fun v H2 e2 t => by
  cases t
  exact q H2 e2
theorem EvD.of {v : V} {d : PyData} (h : Evl.Ev te σ H v) (t : Td K H v d) : EvD K te σ H d := fun H1 e Q q => h H1 e Q fun H2 e2 => q v H2 e2 (t.ex (e.trans e2))
theorem ed_int {i : Int} (h : Evl.Ev te σ H (.int i)) : EvD K te σ H (.int i) := EvD.of h (.int i)
theorem ed_str {i : Str} (h : Evl.Ev te σ H (.str i)) : EvD K te σ H (.str i) := EvD.of h (.str i)
theorem ed_var {i : Nat} {v : V} {d : PyData} (h : σ[i]? = some (some v)) (t : Td K H v d) : EvD K (tVar i) σ H d := EvD.of (Evl.ev_var h) t
theorem el_nil : EvDL K tNil σ H [] := fun H1 _ _ q => q [] H1 (Evl.Ex.refl H1) .nil
theorem el_cons {tr : TA} {d : PyData} {ds : List PyData} (h : EvD K te σ H d) (hr : EvDL K tr σ H ds) : EvDL K (tCons te tr) σ H (d :: ds) := fun H1 e _ q =>
  h H1 e _ fun v H2 e2 t => hr H2 (e.trans e2) _ fun vs H3 e3 ts => q (v :: vs) H3 (e2.trans e3) (.cons (t.ex e3) ts)
theorem ed_tup {tr : TA} {ds : List PyData} (h : EvDL K tr σ H ds) (hz : ds.length ≤ 100000) : EvD K (tTup tr) σ H (.tuple ds) := fun H1 e _ q =>
  h H1 e _ fun vs H2 e2 ts => ⟨by rw [ts.length]; exact Evl.sz_of hz, fun p hp => q _ _ (e2.trans (Evl.Ex.new hp)) (.tup (.inl (.inl upd_same)) (ts.ex (Evl.Ex.new hp)))⟩
theorem eld_lst {tr : TA} {ds : List PyData} (h : EvDL K tr σ H ds) (hz : ds.length ≤ 100000) : EvLD K (tLst tr) σ H ds := fun H1 e _ q =>
  h H1 e _ fun vs H2 e2 ts => ⟨by rw [ts.length]; exact Evl.sz_of hz, fun p hp => q _ _ _ (Evl.fresh_back e2 hp) (e2.trans (Evl.Ex.new hp)) upd_same (ts.ex (Evl.Ex.new hp))⟩
/-- an item of a tuple -/
theorem ed_ixT {ds : List PyData} {i : Int} {j : Nat} {d : PyData} (h : EvD K ta σ H (.tuple ds)) (hi : Evl.Ev tb σ H (.int i)) (hj : ixN ds.length i = some j) (hd : ds[j]? = some d) : EvD K (tOp (rIxT K) ta tb) σ H d := fun H1 e Q q =>
  h H1 e _ fun v H2 e2 t => hi H2 (e.trans e2) _ fun H3 e3 => by
    obtain ⟨a, xs, rfl, hs, ts⟩ := (t.ex e3).tup_inv
    obtain ⟨x, hx, tx⟩ := ts.get hd
    refine ⟨a, xs, i, x, rfl, rfl, hs, ?_, q x H3 (e2.trans e3) tx⟩
    unfold atI
    rw [ts.length, hj]
    exact hx
/-- two data compared -/
def shp (d : PyData) : Prop := SeqAt.shaped d = true
theorem ev_eqD {d e : PyData} (h : EvD K ta σ H d) (h2 : EvD K tb σ H e) (s1 : shp d) (s2 : shp e) : Evl.Ev (tOp (rEqD K) ta tb) σ H (.bl (PyData.eqv d e)) := fun H1 x Q q =>
  h H1 x _ fun v H2 e2 t => h2 H2 (x.trans e2) _ fun u H3 e3 t2 => ⟨d, e, (t.ex e3).dp, t2.dp, s1, s2, q H3 (e2.trans e3)⟩
theorem ev_neD {d e : PyData} (h : EvD K ta σ H d) (h2 : EvD K tb σ H e) (s1 : shp d) (s2 : shp e) : Evl.Ev (tOp (rNeD K) ta tb) σ H (.bl (!PyData.eqv d e)) := fun H1 x Q q =>
  h H1 x _ fun v H2 e2 t => h2 H2 (x.trans e2) _ fun u H3 e3 t2 => ⟨d, e, (t.ex e3).dp, t2.dp, s1, s2, q H3 (e2.trans e3)⟩
end
end Rp
set_option Elab.async false
set_option linter.all false
set_option maxRecDepth 100000
set_option maxHeartbeats 4000000
set_option autoImplicit false
/-! What the top leaves, as one structure of facts; a def's rule in short. -/
namespace Hf
open PySem PySem.Spec PyProof.Rows L2
/-- a value of the written part is such data -/
theorem datL_ok {K : Fr} {n : Nat} {H : Hp} (ih : ∀ (d : PyData) (u : Value), datB K n d u = true → ∃ v, RelV v u ∧ Rp.Td K H v d) : ∀ (ds : List PyData) (us : List Value), datL (datB K n) ds us = true → ∃ vs, Vals vs us ∧ Rp.TdL K H vs ds
  | [], [], _ => ⟨[], .nil, .nil⟩
  | [], _ :: _, h => by cases h
  | _ :: _, [], h => by cases h
  | d :: ds, u :: us, h => by
    obtain ⟨h1, h2⟩ := He.ba (show (datB K n d u && datL (datB K n) ds us) = true from h)
    obtain ⟨v, r, t⟩ := ih d u h1
    obtain ⟨vs, rs, ts⟩ := datL_ok ih ds us h2
    exact ⟨v :: vs, .cons r rs, .cons t ts⟩
theorem datB_ok {K : Fr} (H : Hp) : ∀ (n : Nat) (d : PyData) (u : Value), datB K n d u = true → ∃ v, RelV v u ∧ Rp.Td K H v d
  | 0, _, _, h => by cases h
  | n + 1, d, u, h => by
    cases d with
    | int i => cases u with
      | int j t =>
        have e : i = j := of_decide_eq_true h
        subst e
        exact ⟨.int i, ⟨t, rfl⟩, .int i⟩
      | _ => cases h
    | str x => cases u with
      | str y t =>
        have e : x = y := of_decide_eq_true h
        subst e
        exact ⟨.str x, ⟨t, rfl⟩, .str x⟩
      | _ => cases h
    | tuple ds => cases u with
      | ref a =>
        have h1 : (match K.lookup a with
        | some ⟨.type c, _, .seq its _, _⟩ => decide (c = "tuple") && (decide (its.size ≤ sizeLine) && datL (datB K n) ds its.toList)
        | _ => false) = true := h
        cases q : K.lookup a with
        | none =>
          rw [q] at h1
          cases h1
        | some o =>
          obtain ⟨oc, od, dt, osl⟩ := o
          rw [q] at h1
          cases oc with
          | type c =>
            cases dt with
            | seq its m =>
              obtain ⟨h2, h3⟩ := He.ba (show (decide (c = "tuple") && (decide (its.size ≤ sizeLine) && datL (datB K n) ds its.toList)) = true from h1)
              obtain ⟨h4, h5⟩ := He.ba h3
              obtain ⟨vs, rs, ts⟩ := datL_ok (H := H) (datB_ok H n) ds its.toList h5
              exact ⟨.ref a, rfl, .tup (.inr ⟨_, its, m, q, congrArg Value.type (of_decide_eq_true h2), rfl, of_decide_eq_true h4, rs⟩) ts⟩
            | _ => cases h1
          | _ => cases dt <;> cases h1
      | _ => cases h
    | _ => cases h
theorem tabB_ok {K : Fr} {x k : Str} {d : PyData} (h : tabB K x k d = true) (H : Hp) : ∃ u v, PySem.W.nsIn K (He.ga K x) k = some (some u) ∧ RelV v u ∧ Rp.Td K H v d := by
  unfold tabB at h
  cases e : PySem.W.nsIn K (He.ga K x) k with
  | none =>
    rw [e] at h
    cases h
  | some r =>
    rw [e] at h
    cases r with
    | none => cases h
    | some u =>
      obtain ⟨v, r, t⟩ := datB_ok H 4 d u h
      exact ⟨u, v, rfl, r, t⟩
structure Txt (K : Fr) (mg : Str → Option Value) (w : World) : Prop where
  free_len : mg "len" = none
  free_int : mg "int" = none
  free_abs : mg "abs" = none
  free_range : mg "range" = none
  free_tuple : mg "tuple" = none
  free_list : mg "list" = none
  free_sorted : mg "sorted" = none
  free_all : mg "all" = none
  free_any : mg "any" = none
  free_max : mg "max" = none
  free_min : mg "min" = none
  free_zip : mg "zip" = none
  free_enumerate : mg "enumerate" = none
  free_isinstance : mg "isinstance" = none
  free_bool : mg "bool" = none
  free_str : mg "str" = none
  glo_sent_messages : mg "sent_messages" = some (.ref (He.ga K "sent_messages"))
  glo_costs : mg "costs" = some (.ref (He.ga K "costs"))
  glo_is_integer : mg "is_integer" = some (.ref (He.ga K "is_integer"))
  glo_is_between : mg "is_between" = some (.ref (He.ga K "is_between"))
  glo_is_row : mg "is_row" = some (.ref (He.ga K "is_row"))
  glo_is_operation : mg "is_operation" = some (.ref (He.ga K "is_operation"))
  glo_is_classes : mg "is_classes" = some (.ref (He.ga K "is_classes"))
  glo_fits : mg "fits" = some (.ref (He.ga K "fits"))
  glo_is_thread : mg "is_thread" = some (.ref (He.ga K "is_thread"))
  glo_is_move : mg "is_move" = some (.ref (He.ga K "is_move"))
  glo_law_pool : mg "_law_pool" = some (.ref (He.ga K "_law_pool"))
  glo_law_take : mg "_law_take" = some (.ref (He.ga K "_law_take"))
  glo_law_pair : mg "_law_pair" = some (.ref (He.ga K "_law_pair"))
  glo_law_machine : mg "_law_machine" = some (.ref (He.ga K "_law_machine"))
  glo_law_run : mg "_law_run" = some (.ref (He.ga K "_law_run"))
  glo_law_open : mg "_law_open" = some (.ref (He.ga K "_law_open"))
  glo_law : mg "law" = some (.ref (He.ga K "law"))
  glo_HeapError : mg "HeapError" = some (.ref (He.ga K "HeapError"))
  glo_InvalidMachine : mg "InvalidMachine" = some (.ref (He.ga K "InvalidMachine"))
  glo_InvalidMove : mg "InvalidMove" = some (.ref (He.ga K "InvalidMove"))
  glo_InvalidRun : mg "InvalidRun" = some (.ref (He.ga K "InvalidRun"))
  glo_State : mg "State" = some (.ref (He.ga K "State"))
  glo_Worker : mg "Worker" = some (.ref (He.ga K "Worker"))
  glo_Draft : mg "Draft" = some (.ref (He.ga K "Draft"))
  glo_Stepper : mg "Stepper" = some (.ref (He.ga K "Stepper"))
  glo_Machine : mg "Machine" = some (.ref (He.ga K "Machine"))
  cls_State : Cls K (He.ga K "State")
  mkr_State : Mk K (He.ga K "State") (He.ma K (He.ga K "State") "__init__")
  noat_State_parts : NoAttr K (He.ga K "State") "parts"
  prop_State_pages : PropOf K (He.ga K "State") "pages" (pa K "State" "pages") (pg K "State" "pages")
  prop_State_slots : PropOf K (He.ga K "State") "slots" (pa K "State" "slots") (pg K "State" "slots")
  prop_State_threads : PropOf K (He.ga K "State") "threads" (pa K "State" "threads") (pg K "State" "threads")
  prop_State_arrivals : PropOf K (He.ga K "State") "arrivals" (pa K "State" "arrivals") (pg K "State" "arrivals")
  prop_State_flight : PropOf K (He.ga K "State") "flight" (pa K "State" "flight") (pg K "State" "flight")
  cls_Worker : Cls K (He.ga K "Worker")
  mkr_Worker : Mk K (He.ga K "Worker") (He.ma K (He.ga K "Worker") "__init__")
  noat_Worker_status : NoAttr K (He.ga K "Worker") "status"
  noat_Worker_at : NoAttr K (He.ga K "Worker") "at"
  noat_Worker_phase : NoAttr K (He.ga K "Worker") "phase"
  noat_Worker_hand : NoAttr K (He.ga K "Worker") "hand"
  noat_Worker_caches : NoAttr K (He.ga K "Worker") "caches"
  noat_Worker_batches : NoAttr K (He.ga K "Worker") "batches"
  meth_Worker_entry : Meth K (He.ga K "Worker") "entry" (He.ma K (He.ga K "Worker") "entry")
  meth_Worker_is_empty : Meth K (He.ga K "Worker") "is_empty" (He.ma K (He.ga K "Worker") "is_empty")
  cls_Draft : Cls K (He.ga K "Draft")
  mkr_Draft : Mk K (He.ga K "Draft") (He.ma K (He.ga K "Draft") "__init__")
  noat_Draft_own_pages : NoAttr K (He.ga K "Draft") "own_pages"
  noat_Draft_own_slots : NoAttr K (He.ga K "Draft") "own_slots"
  noat_Draft_workers : NoAttr K (He.ga K "Draft") "workers"
  noat_Draft_own_arrivals : NoAttr K (He.ga K "Draft") "own_arrivals"
  noat_Draft_own_flight : NoAttr K (He.ga K "Draft") "own_flight"
  meth_Draft_frozen : Meth K (He.ga K "Draft") "frozen" (He.ma K (He.ga K "Draft") "frozen")
  cls_Stepper : Cls K (He.ga K "Stepper")
  mkr_Stepper : Mk K (He.ga K "Stepper") (He.ma K (He.ga K "Stepper") "__init__")
  noat_Stepper_owner : NoAttr K (He.ga K "Stepper") "owner"
  noat_Stepper_draft : NoAttr K (He.ga K "Stepper") "draft"
  meth_Stepper_is_small : Meth K (He.ga K "Stepper") "is_small" (He.ma K (He.ga K "Stepper") "is_small")
  meth_Stepper_home_of : Meth K (He.ga K "Stepper") "home_of" (He.ma K (He.ga K "Stepper") "home_of")
  meth_Stepper_spare_pages : Meth K (He.ga K "Stepper") "spare_pages" (He.ma K (He.ga K "Stepper") "spare_pages")
  meth_Stepper_put_home : Meth K (He.ga K "Stepper") "put_home" (He.ma K (He.ga K "Stepper") "put_home")
  meth_Stepper_bring : Meth K (He.ga K "Stepper") "bring" (He.ma K (He.ga K "Stepper") "bring")
  meth_Stepper_lists_with_blocks : Meth K (He.ga K "Stepper") "lists_with_blocks" (He.ma K (He.ga K "Stepper") "lists_with_blocks")
  meth_Stepper_page_to_open : Meth K (He.ga K "Stepper") "page_to_open" (He.ma K (He.ga K "Stepper") "page_to_open")
  meth_Stepper_advance : Meth K (He.ga K "Stepper") "advance" (He.ma K (He.ga K "Stepper") "advance")
  meth_Stepper_look_for_end : Meth K (He.ga K "Stepper") "look_for_end" (He.ma K (He.ga K "Stepper") "look_for_end")
  meth_Stepper_is_waiting : Meth K (He.ga K "Stepper") "is_waiting" (He.ma K (He.ga K "Stepper") "is_waiting")
  meth_Stepper_step : Meth K (He.ga K "Stepper") "step" (He.ma K (He.ga K "Stepper") "step")
  meth_Stepper_flush : Meth K (He.ga K "Stepper") "flush" (He.ma K (He.ga K "Stepper") "flush")
  meth_Stepper_flush_batch : Meth K (He.ga K "Stepper") "flush_batch" (He.ma K (He.ga K "Stepper") "flush_batch")
  meth_Stepper_take : Meth K (He.ga K "Stepper") "take" (He.ma K (He.ga K "Stepper") "take")
  meth_Stepper_drain : Meth K (He.ga K "Stepper") "drain" (He.ma K (He.ga K "Stepper") "drain")
  meth_Stepper_allocate : Meth K (He.ga K "Stepper") "allocate" (He.ma K (He.ga K "Stepper") "allocate")
  meth_Stepper_fill : Meth K (He.ga K "Stepper") "fill" (He.ma K (He.ga K "Stepper") "fill")
  meth_Stepper_open_page : Meth K (He.ga K "Stepper") "open_page" (He.ma K (He.ga K "Stepper") "open_page")
  meth_Stepper_fill_from : Meth K (He.ga K "Stepper") "fill_from" (He.ma K (He.ga K "Stepper") "fill_from")
  meth_Stepper_free : Meth K (He.ga K "Stepper") "free" (He.ma K (He.ga K "Stepper") "free")
  meth_Stepper_free_block : Meth K (He.ga K "Stepper") "free_block" (He.ma K (He.ga K "Stepper") "free_block")
  meth_Stepper_send : Meth K (He.ga K "Stepper") "send" (He.ma K (He.ga K "Stepper") "send")
  meth_Stepper_adopt : Meth K (He.ga K "Stepper") "adopt" (He.ma K (He.ga K "Stepper") "adopt")
  meth_Stepper_carry : Meth K (He.ga K "Stepper") "carry" (He.ma K (He.ga K "Stepper") "carry")
  meth_Stepper_sweep : Meth K (He.ga K "Stepper") "sweep" (He.ma K (He.ga K "Stepper") "sweep")
  cls_Machine : Cls K (He.ga K "Machine")
  mkr_Machine : Mk K (He.ga K "Machine") (He.ma K (He.ga K "Machine") "__init__")
  noat_Machine_settings : NoAttr K (He.ga K "Machine") "settings"
  prop_Machine_sockets : PropOf K (He.ga K "Machine") "sockets" (pa K "Machine" "sockets") (pg K "Machine" "sockets")
  prop_Machine_classes : PropOf K (He.ga K "Machine") "classes" (pa K "Machine" "classes") (pg K "Machine" "classes")
  prop_Machine_threads : PropOf K (He.ga K "Machine") "threads" (pa K "Machine" "threads") (pg K "Machine" "threads")
  prop_Machine_pages : PropOf K (He.ga K "Machine") "pages" (pa K "Machine" "pages") (pg K "Machine" "pages")
  prop_Machine_batch : PropOf K (He.ga K "Machine") "batch" (pa K "Machine" "batch") (pg K "Machine" "batch")
  prop_Machine_spare : PropOf K (He.ga K "Machine") "spare" (pa K "Machine" "spare") (pg K "Machine" "spare")
  prop_Machine_slots : PropOf K (He.ga K "Machine") "slots" (pa K "Machine" "slots") (pg K "Machine" "slots")
  prop_Machine_stops : PropOf K (He.ga K "Machine") "stops" (pa K "Machine" "stops") (pg K "Machine" "stops")
  prop_Machine_fault : PropOf K (He.ga K "Machine") "fault" (pa K "Machine" "fault") (pg K "Machine" "fault")
  prop_Machine_start : PropOf K (He.ga K "Machine") "start" (pa K "Machine" "start") (pg K "Machine" "start")
  meth_Machine_moves : Meth K (He.ga K "Machine") "moves" (He.ma K (He.ga K "Machine") "moves")
  meth_Machine_is_served : Meth K (He.ga K "Machine") "is_served" (He.ma K (He.ga K "Machine") "is_served")
  meth_Machine_step : Meth K (He.ga K "Machine") "step" (He.ma K (He.ga K "Machine") "step")
  meth_Machine_run : Meth K (He.ga K "Machine") "run" (He.ma K (He.ga K "Machine") "run")
  int_MAX_CLASS : ∃ t, mg "MAX_CLASS" = some (.int 2 t)
  int_MAX_SLOT : ∃ t, mg "MAX_SLOT" = some (.int 7 t)
  int_MAX_LARGE : ∃ t, mg "MAX_LARGE" = some (.int 8 t)
  int_MAX_SOCKETS : ∃ t, mg "MAX_SOCKETS" = some (.int 4 t)
  int_MAX_CLASSES : ∃ t, mg "MAX_CLASSES" = some (.int 3 t)
  int_MAX_BLOCKS : ∃ t, mg "MAX_BLOCKS" = some (.int 8 t)
  int_MAX_THREADS : ∃ t, mg "MAX_THREADS" = some (.int 6 t)
  int_MAX_OPERATIONS : ∃ t, mg "MAX_OPERATIONS" = some (.int 30 t)
  int_MAX_PAGES : ∃ t, mg "MAX_PAGES" = some (.int 64 t)
  int_MAX_BATCH : ∃ t, mg "MAX_BATCH" = some (.int 8 t)
  int_MAX_SPARE : ∃ t, mg "MAX_SPARE" = some (.int 8 t)
  int_MAX_SLOTS : ∃ t, mg "MAX_SLOTS" = some (.int 8 t)
  int_MAX_STOPS : ∃ t, mg "MAX_STOPS" = some (.int 6 t)
  glo_STORE : mg "STORE" = some (.ref (He.ga K "STORE"))
  glo_FAILURE : mg "FAILURE" = some (.ref (He.ga K "FAILURE"))
  tup_STORE : ∀ H : Hp, SqT K H (He.ga K "STORE") [.str "store"]
  tup_FAILURE : ∀ H : Hp, SqT K H (He.ga K "FAILURE") [.str "failure"]
  glo_BOUNDS : mg "BOUNDS" = some (.ref (He.ga K "BOUNDS"))
  tab_alloc : ∀ H : Hp, ∃ u v, PySem.W.nsIn K (He.ga K "BOUNDS") "alloc" = some (some u) ∧ RelV v u ∧ Rp.Td K H v (.tuple [.tuple [.int 0, .int 2], .tuple [.int 0, .int 7]])
  tab_free : ∀ H : Hp, ∃ u v, PySem.W.nsIn K (He.ga K "BOUNDS") "free" = some (some u) ∧ RelV v u ∧ Rp.Td K H v (.tuple [.tuple [.int 0, .int 7]])
  tab_adopt : ∀ H : Hp, ∃ u v, PySem.W.nsIn K (He.ga K "BOUNDS") "adopt" = some (some u) ∧ RelV v u ∧ Rp.Td K H v (.tuple [.tuple [.int 0, .int 7]])
  tab_drain : ∀ H : Hp, ∃ u v, PySem.W.nsIn K (He.ga K "BOUNDS") "drain" = some (some u) ∧ RelV v u ∧ Rp.Td K H v (.tuple [])
  bounds : ∃ es n, KDict K w (He.ga K "BOUNDS") es n
theorem txt_mk {K : Fr} {mg : Str → Option Value} {w : World} {h : Heap} (X : K.In h) (G : h.Ns mainGlobals mg) (c : SaysX fa fn tb w K) : Txt K mg w := ⟨
  He.free_ok (x := "len") X G (c.fact 0),
  He.free_ok (x := "int") X G (c.fact 1),
  He.free_ok (x := "abs") X G (c.fact 2),
  He.free_ok (x := "range") X G (c.fact 3),
  He.free_ok (x := "tuple") X G (c.fact 4),
  He.free_ok (x := "list") X G (c.fact 5),
  He.free_ok (x := "sorted") X G (c.fact 6),
  He.free_ok (x := "all") X G (c.fact 7),
  He.free_ok (x := "any") X G (c.fact 8),
  He.free_ok (x := "max") X G (c.fact 9),
  He.free_ok (x := "min") X G (c.fact 10),
  He.free_ok (x := "zip") X G (c.fact 11),
  He.free_ok (x := "enumerate") X G (c.fact 12),
  He.free_ok (x := "isinstance") X G (c.fact 13),
  He.free_ok (x := "bool") X G (c.fact 14),
  He.free_ok (x := "str") X G (c.fact 15),
  He.glo_ok (x := "sent_messages") X G (c.fact 16),
  He.glo_ok (x := "costs") X G (c.fact 17),
  He.glo_ok (x := "is_integer") X G (c.fact 18),
  He.glo_ok (x := "is_between") X G (c.fact 19),
  He.glo_ok (x := "is_row") X G (c.fact 20),
  He.glo_ok (x := "is_operation") X G (c.fact 21),
  He.glo_ok (x := "is_classes") X G (c.fact 22),
  He.glo_ok (x := "fits") X G (c.fact 23),
  He.glo_ok (x := "is_thread") X G (c.fact 24),
  He.glo_ok (x := "is_move") X G (c.fact 25),
  He.glo_ok (x := "_law_pool") X G (c.fact 26),
  He.glo_ok (x := "_law_take") X G (c.fact 27),
  He.glo_ok (x := "_law_pair") X G (c.fact 28),
  He.glo_ok (x := "_law_machine") X G (c.fact 29),
  He.glo_ok (x := "_law_run") X G (c.fact 30),
  He.glo_ok (x := "_law_open") X G (c.fact 31),
  He.glo_ok (x := "law") X G (c.fact 32),
  He.glo_ok (x := "HeapError") X G (c.fact 33),
  He.glo_ok (x := "InvalidMachine") X G (c.fact 34),
  He.glo_ok (x := "InvalidMove") X G (c.fact 35),
  He.glo_ok (x := "InvalidRun") X G (c.fact 36),
  He.glo_ok (x := "State") X G (c.fact 37),
  He.glo_ok (x := "Worker") X G (c.fact 38),
  He.glo_ok (x := "Draft") X G (c.fact 39),
  He.glo_ok (x := "Stepper") X G (c.fact 40),
  He.glo_ok (x := "Machine") X G (c.fact 41),
  He.cls_ok (x := "State") (c.fact 42),
  He.mkr_ok (x := "State") (c.fact 43),
  He.noat_ok (x := "State") (f := "parts") (c.fact 44),
  propB_ok (x := "State") (f := "pages") (c.fact 45),
  propB_ok (x := "State") (f := "slots") (c.fact 46),
  propB_ok (x := "State") (f := "threads") (c.fact 47),
  propB_ok (x := "State") (f := "arrivals") (c.fact 48),
  propB_ok (x := "State") (f := "flight") (c.fact 49),
  He.cls_ok (x := "Worker") (c.fact 50),
  He.mkr_ok (x := "Worker") (c.fact 51),
  He.noat_ok (x := "Worker") (f := "status") (c.fact 52),
  He.noat_ok (x := "Worker") (f := "at") (c.fact 53),
  He.noat_ok (x := "Worker") (f := "phase") (c.fact 54),
  He.noat_ok (x := "Worker") (f := "hand") (c.fact 55),
  He.noat_ok (x := "Worker") (f := "caches") (c.fact 56),
  He.noat_ok (x := "Worker") (f := "batches") (c.fact 57),
  He.meth_ok (x := "Worker") (m := "entry") (c.fact 58),
  He.meth_ok (x := "Worker") (m := "is_empty") (c.fact 59),
  He.cls_ok (x := "Draft") (c.fact 60),
  He.mkr_ok (x := "Draft") (c.fact 61),
  He.noat_ok (x := "Draft") (f := "own_pages") (c.fact 62),
  He.noat_ok (x := "Draft") (f := "own_slots") (c.fact 63),
  He.noat_ok (x := "Draft") (f := "workers") (c.fact 64),
  He.noat_ok (x := "Draft") (f := "own_arrivals") (c.fact 65),
  He.noat_ok (x := "Draft") (f := "own_flight") (c.fact 66),
  He.meth_ok (x := "Draft") (m := "frozen") (c.fact 67),
  He.cls_ok (x := "Stepper") (c.fact 68),
  He.mkr_ok (x := "Stepper") (c.fact 69),
  He.noat_ok (x := "Stepper") (f := "owner") (c.fact 70),
  He.noat_ok (x := "Stepper") (f := "draft") (c.fact 71),
  He.meth_ok (x := "Stepper") (m := "is_small") (c.fact 72),
  He.meth_ok (x := "Stepper") (m := "home_of") (c.fact 73),
  He.meth_ok (x := "Stepper") (m := "spare_pages") (c.fact 74),
  He.meth_ok (x := "Stepper") (m := "put_home") (c.fact 75),
  He.meth_ok (x := "Stepper") (m := "bring") (c.fact 76),
  He.meth_ok (x := "Stepper") (m := "lists_with_blocks") (c.fact 77),
  He.meth_ok (x := "Stepper") (m := "page_to_open") (c.fact 78),
  He.meth_ok (x := "Stepper") (m := "advance") (c.fact 79),
  He.meth_ok (x := "Stepper") (m := "look_for_end") (c.fact 80),
  He.meth_ok (x := "Stepper") (m := "is_waiting") (c.fact 81),
  He.meth_ok (x := "Stepper") (m := "step") (c.fact 82),
  He.meth_ok (x := "Stepper") (m := "flush") (c.fact 83),
  He.meth_ok (x := "Stepper") (m := "flush_batch") (c.fact 84),
  He.meth_ok (x := "Stepper") (m := "take") (c.fact 85),
  He.meth_ok (x := "Stepper") (m := "drain") (c.fact 86),
  He.meth_ok (x := "Stepper") (m := "allocate") (c.fact 87),
  He.meth_ok (x := "Stepper") (m := "fill") (c.fact 88),
  He.meth_ok (x := "Stepper") (m := "open_page") (c.fact 89),
  He.meth_ok (x := "Stepper") (m := "fill_from") (c.fact 90),
  He.meth_ok (x := "Stepper") (m := "free") (c.fact 91),
  He.meth_ok (x := "Stepper") (m := "free_block") (c.fact 92),
  He.meth_ok (x := "Stepper") (m := "send") (c.fact 93),
  He.meth_ok (x := "Stepper") (m := "adopt") (c.fact 94),
  He.meth_ok (x := "Stepper") (m := "carry") (c.fact 95),
  He.meth_ok (x := "Stepper") (m := "sweep") (c.fact 96),
  He.cls_ok (x := "Machine") (c.fact 97),
  He.mkr_ok (x := "Machine") (c.fact 98),
  He.noat_ok (x := "Machine") (f := "settings") (c.fact 99),
  propB_ok (x := "Machine") (f := "sockets") (c.fact 100),
  propB_ok (x := "Machine") (f := "classes") (c.fact 101),
  propB_ok (x := "Machine") (f := "threads") (c.fact 102),
  propB_ok (x := "Machine") (f := "pages") (c.fact 103),
  propB_ok (x := "Machine") (f := "batch") (c.fact 104),
  propB_ok (x := "Machine") (f := "spare") (c.fact 105),
  propB_ok (x := "Machine") (f := "slots") (c.fact 106),
  propB_ok (x := "Machine") (f := "stops") (c.fact 107),
  propB_ok (x := "Machine") (f := "fault") (c.fact 108),
  propB_ok (x := "Machine") (f := "start") (c.fact 109),
  He.meth_ok (x := "Machine") (m := "moves") (c.fact 110),
  He.meth_ok (x := "Machine") (m := "is_served") (c.fact 111),
  He.meth_ok (x := "Machine") (m := "step") (c.fact 112),
  He.meth_ok (x := "Machine") (m := "run") (c.fact 113),
  He.int_ok (x := "MAX_CLASS") (i := 2) X G (c.fact 114),
  He.int_ok (x := "MAX_SLOT") (i := 7) X G (c.fact 115),
  He.int_ok (x := "MAX_LARGE") (i := 8) X G (c.fact 116),
  He.int_ok (x := "MAX_SOCKETS") (i := 4) X G (c.fact 117),
  He.int_ok (x := "MAX_CLASSES") (i := 3) X G (c.fact 118),
  He.int_ok (x := "MAX_BLOCKS") (i := 8) X G (c.fact 119),
  He.int_ok (x := "MAX_THREADS") (i := 6) X G (c.fact 120),
  He.int_ok (x := "MAX_OPERATIONS") (i := 30) X G (c.fact 121),
  He.int_ok (x := "MAX_PAGES") (i := 64) X G (c.fact 122),
  He.int_ok (x := "MAX_BATCH") (i := 8) X G (c.fact 123),
  He.int_ok (x := "MAX_SPARE") (i := 8) X G (c.fact 124),
  He.int_ok (x := "MAX_SLOTS") (i := 8) X G (c.fact 125),
  He.int_ok (x := "MAX_STOPS") (i := 6) X G (c.fact 126),
  He.glo_ok (x := "STORE") X G (c.fact 127),
  He.glo_ok (x := "FAILURE") X G (c.fact 128),
  fun H => He.tupB_ok (x := "STORE") (vs := [.str "store"]) (c.fact 129) H,
  fun H => He.tupB_ok (x := "FAILURE") (vs := [.str "failure"]) (c.fact 130) H,
  He.glo_ok (x := "BOUNDS") X G (c.fact 131),
  fun H => tabB_ok (x := "BOUNDS") (k := "alloc") (d := (.tuple [.tuple [.int 0, .int 2], .tuple [.int 0, .int 7]])) (c.fact 132) H,
  fun H => tabB_ok (x := "BOUNDS") (k := "free") (d := (.tuple [.tuple [.int 0, .int 7]])) (c.fact 133) H,
  fun H => tabB_ok (x := "BOUNDS") (k := "adopt") (d := (.tuple [.tuple [.int 0, .int 7]])) (c.fact 134) H,
  fun H => tabB_ok (x := "BOUNDS") (k := "drain") (d := (.tuple [])) (c.fact 135) H,
  c.tab
⟩
/-- a def of the text, where it stands -/
abbrev FnD (K : Fr) (d : DX) : Prop := ∃ fd, FunD K d.name d.qual (defArgs d.st) (defBody d.st) (defScope d.st) (d.dvs K) (d.kws K) (d.adr K) fd
/-- a def keeps its promise, at level k -/
structure Ok (P : Program) (w : World) (K : Fr) (mg : Str → Option Value) (base : Heap) (k : Nat) (f : Addr) (ps : List Str) (sp : Sp) : Prop where
  ex : ∃ fd, FnOk P w K mg base CX0 k f fd ps sp ∧ Binds K fd ps []
  kp : PySem.W.keepIn K (.ref f) = true
section
variable {P : Program} {w : World} {K : Fr} {mg : Str → Option Value} {base : Heap}
theorem Ok.mono {j k : Nat} {f : Addr} {ps : List Str} {sp : Sp} (G : Ok P w K mg base j f ps sp) (h : j ≤ k) : Ok P w K mg base k f ps sp := by
  obtain ⟨fd, F, b⟩ := G.ex
  exact ⟨⟨fd, F.mono h, b⟩, G.kp⟩
theorem ok_of {d : DX} {N ps : List Str} {k : Nat} {sp : Sp} (F : FnD K d) (hdf : d.dfl = []) (hkw : d.kwd = []) (S : FnScope N ps (defScope d.st))
    (hb : ∀ (kV doc pm : Value) (an : Option Addr) (cdv ct : Value) (us : List Value), us.length = ps.length → bindArgs (PySem.W.fnOf d.name d.qual (defArgs d.st) (defBody d.st) (defScope d.st) .none kV doc pm an cdv ct) ⟨us, []⟩ = pure (ps.zip us))
    (len : ∀ vs H Q E, sp vs H Q E → vs.length = ps.length)
    (hbody : ∀ (cdv : Value) (A : Around) (outer : List Env) (s : Shared) (H : Hp) (vs : List V) (Q : VK) (E : XK), Room k (A.deeper (envOfC d.qual (defScope d.st) s.heap.objs.size (d.adr K) cdv)) → sp vs H Q E →
      ∃ t, PSs (cxOf CX0 P w K mg base N d.qual (defScope d.st) (d.adr K) cdv A outer s H E).nox (defBody d.st) t ∧ t { nx := fun _ H' => Q .non H', rt := Q } (start N vs) H) : Ok P w K mg base (k + 1) (d.adr K) ps sp := by
  obtain ⟨fd, F⟩ := F
  have e1 : d.dvs K = [] := by
    show d.dfl.map _ = []
    rw [hdf] <;> rfl
  have e2 : d.kws K = [] := by
    show d.kwd.map _ = []
    rw [hkw] <;> rfl
  rw [e1, e2] at F
  refine ⟨⟨fd, F.ok S len fun cdv A outer s H vs Q E hr h => ?_, F.bindsN hb⟩, F.kp⟩
  obtain ⟨t, h1, h2⟩ := hbody cdv A outer s H vs Q E hr h
  exact ⟨t, h1.nox, h2⟩
end
section
variable {X : Cx} {k : Nat} {f C : Addr} {ps : List Str} {sp : Sp} {x m : Str} {p pos apos : Pos} {e o : Expr} {es : List Expr} {ta : TE} {t : TA}
theorem pe_callO (G : Ok X.prog X.w X.K X.mg X.base k f ps sp) (hr : Room k X.A) (hg : Gl X x) (hm : X.mg x = some (.ref f)) (ha : PA X (e :: es) t) (hdb : (x == ("__debug__" : Str)) = false := by decide) (he : starEach (e :: es) X.env = (false, eval e X.env) :: starEach es X.env := by rfl) (hpl : (backTo pos (starEach es X.env)).any (·.1) = false := by rfl) :
    PE X (.Call (.Name x p) (e :: es) [] pos) (tCall sp [] E0 t) := by
  obtain ⟨fd, F, b⟩ := G.ex
  exact pe_call F hr hg hm G.kp b .nil pass0 ha hdb he hpl
theorem pe_methO {pl : Sem Bool} (he : PE X o ta) (c : Cls X.K C) (hm : Meth X.K C m f) (G : Ok X.prog X.w X.K X.mg X.base k f ps sp) (hr : Room k X.A) (ha : PA X (e :: es) t)
    (hst : starEach (e :: es) X.env = (false, eval e X.env) :: starEach es X.env := by rfl) (hpl : (backTo pos (starEach es X.env)).any (·.1) = false := by rfl)
    (ht : eval (.Call (.Attribute o m apos) (e :: es) [] pos) X.env = (do
      let ov ← eval o X.env
      standAt apos.atName
      let (f, first) ← holding [ov] (getMethod ov m pl)
      callWith pos f first (backTo pos (starEach (e :: es) X.env)) (backToKw pos (keywordEach [] X.env))) := by rfl) :
    PE X (.Call (.Attribute o m apos) (e :: es) [] pos) (tMeth C m sp [] E0 ta t) := by
  obtain ⟨fd, F, b⟩ := G.ex
  exact pe_meth he c hm F hr b .nil pass0 ha hst hpl ht
theorem pe_methO0 {pl : Sem Bool} (he : PE X o ta) (c : Cls X.K C) (hm : Meth X.K C m f) (G : Ok X.prog X.w X.K X.mg X.base k f ps sp) (hr : Room k X.A)
    (ht : eval (.Call (.Attribute o m apos) [] [] pos) X.env = (do
      let ov ← eval o X.env
      standAt apos.atName
      let (f, first) ← holding [ov] (getMethod ov m pl)
      callWith pos f first (backTo pos (starEach [] X.env)) (backToKw pos (keywordEach [] X.env))) := by rfl) :
    PE X (.Call (.Attribute o m apos) [] [] pos) (tMeth C m sp [] E0 ta tNil) := by
  obtain ⟨fd, F, b⟩ := G.ex
  exact pe_meth0 he c hm F hr b .nil pass0 ht
theorem pe_makeO (M : Mk X.K C f) (G : Ok X.prog X.w X.K X.mg X.base k f ps sp) (hr : Room (k + 1) X.A) (hg : Gl X x) (hm : X.mg x = some (.ref C)) (ha : PA X (e :: es) t) (hdb : (x == ("__debug__" : Str)) = false := by decide) (he : starEach (e :: es) X.env = (false, eval e X.env) :: starEach es X.env := by rfl) (hpl : (backTo pos (starEach es X.env)).any (·.1) = false := by rfl) :
    PE X (.Call (.Name x p) (e :: es) [] pos) (tMake C sp [] E0 t) := by
  obtain ⟨fd, F, b⟩ := G.ex
  exact pe_make M F hr hg hm b .nil pass0 ha hdb he hpl
theorem pe_propO {q g : Addr} (he : PE X e ta) (c : Cls X.K C) (hp : PropOf X.K C m q g) (G : Ok X.prog X.w X.K X.mg X.base k g ps sp) (hr : Room (k + 1) X.A)
    (hab : attributeBase e m X.env (eval e X.env) = eval e X.env) : PE X (.Attribute e m pos) (tProp C sp [] E0 ta) := by
  obtain ⟨fd, F, b⟩ := G.ex
  exact pe_prop he c hp F hr b .nil (fun _ _ _ _ _ _ _ h => h.elim) hab
end
end Hf
set_option Elab.async false
set_option linter.all false
set_option maxRecDepth 100000
set_option maxHeartbeats 4000000
set_option autoImplicit false
/-! How a draft stands in the heap: every list that may change has a role; a role has an address and a content. -/
namespace Rp
open PySem PySem.Spec PyProof.Rows L2 Mx Evl
/-! ### data of the mirror -/
def eN (n : Nat) : PyData := .int (n : Int)
def eB (b : Blk) : PyData := .tuple [eN b.1, eN b.2]
def ePg : Pg → PyData
  | .store => .tuple [.str "store"]
  | .small h f => .tuple [.str "small", eN h, eN 0, .tuple (f.map eN)]
def eSl : Sl → PyData
  | .non => .none
  | .blk b => .tuple [.str "block", eN b.1, eN b.2]
  | .fail => .tuple [.str "failure"]
def eBs (l : List Blk) : PyData := .tuple (l.map eB)
def eMs (m : Nat × List Blk) : PyData := .tuple [eN m.1, eBs m.2]
def phS : Ph → Str
  | .begin => "begin"
  | .hand => "hand"
  | .send => "send"
  | .flush => "flush"
  | .over => "over"
def rnS : Bool → Str
  | true => "running"
  | false => "ended"
def eWk (w : Wk) : PyData := .tuple [.str (rnS w.run), eN w.pc, .str (phS w.ph), eBs w.hand, .tuple [eBs w.cache], .tuple (w.bats.map fun l => .tuple [eBs l])]
def eDS (D : DS) : PyData := .tuple [.tuple (D.pages.map ePg), .tuple (D.slots.map eSl), .tuple (D.wks.map eWk), .tuple (D.arrs.map eBs), .tuple (D.fl.map eMs)]
def eOp : Op → PyData
  | .alloc s => .tuple [.str "alloc", eN 0, eN s]
  | .free s => .tuple [.str "free", eN s]
  | .adopt s => .tuple [.str "adopt", eN s]
  | .drain => .tuple [.str "drain"]
def eTh (t : Nat × List Op) : PyData := .tuple [eN t.1, .tuple (t.2.map eOp)]
def eMC (M : MC) : PyData := .tuple [eN M.ns, .tuple [eN M.size], .tuple (M.thr.map eTh), eN 4, eN M.batch, eN 0, eN M.nsl, eN 0, .none]
def eMv : Mv → PyData
  | .step t => .tuple [.str "step", eN t]
  | .carry m => .tuple [.str "carry", eN m]
  | .sweep s => .tuple [.str "sweep", eN s]
def eEv : Ev → PyData
  | .hit b => .tuple [.str "hit", eB b]
  | .take n => .tuple [.str "take", eN n]
  | .home b => .tuple [.str "home", eB b]
  | .pass b => .tuple [.str "pass", eB b]
  | .fill p => .tuple [.str "fill", eN p]
  | .opn p => .tuple [.str "open", eN p]
  | .fail => .tuple [.str "fail"]
  | .keep b => .tuple [.str "keep", eB b]
  | .nothing => .tuple [.str "nothing"]
  | .batch b => .tuple [.str "batch", eB b]
  | .send h n => .tuple [.str "send", eN h, eN n]
  | .adopt p h => .tuple [.str "adopt", eN p, eN h]
  | .carry s n => .tuple [.str "carry", eN s, eN n]
  | .sweep n => .tuple [.str "sweep", eN n]
/-! ### roles -/
inductive Rl
  | drf | pages | slots | wks | arrs | flight | arr (j : Nat) | wk (i : Nat) | hand (i : Nat) | caches (i : Nat) | cache (i : Nat) | bats (i : Nat) | row (i j : Nat) | bat (i j : Nat)
  deriving DecidableEq
inductive Wn
  | leaf (ds : List PyData) | refs (as : List Addr) | ins (C : Addr) (fs : List (Str × V))
abbrev Lc := Rl → Addr
def fDr (loc : Lc) : List (Str × V) := [("own_pages", .ref (loc .pages)), ("own_slots", .ref (loc .slots)), ("workers", .ref (loc .wks)), ("own_arrivals", .ref (loc .arrs)), ("own_flight", .ref (loc .flight))]
def fWk (w : Wk) (h c b : Addr) : List (Str × V) := [("status", .str (rnS w.run)), ("at", .int w.pc), ("phase", .str (phS w.ph)), ("hand", .ref h), ("caches", .ref c), ("batches", .ref b)]
def want (K : Frg) (D : DS) (loc : Lc) : Rl → Option Wn
  | .drf => some (.ins (He.ga K "Draft") (fDr loc))
  | .pages => some (.leaf (D.pages.map ePg))
  | .slots => some (.leaf (D.slots.map eSl))
  | .wks => some (.refs ((List.range D.wks.length).map fun i => loc (.wk i)))
  | .arrs => some (.refs ((List.range D.arrs.length).map fun j => loc (.arr j)))
  | .flight => some (.leaf (D.fl.map eMs))
  | .arr j => D.arrs[j]?.map fun l => .leaf (l.map eB)
  | .wk i => D.wks[i]?.map fun w => .ins (He.ga K "Worker") (fWk w (loc (.hand i)) (loc (.caches i)) (loc (.bats i)))
  | .hand i => D.wks[i]?.map fun w => .leaf (w.hand.map eB)
  | .caches i => D.wks[i]?.map fun _ => .refs [loc (.cache i)]
  | .cache i => D.wks[i]?.map fun w => .leaf (w.cache.map eB)
  | .bats i => D.wks[i]?.map fun w => .refs ((List.range w.bats.length).map fun j => loc (.row i j))
  | .row i j => D.wks[i]?.bind fun w => w.bats[j]?.map fun _ => .refs [loc (.bat i j)]
  | .bat i j => D.wks[i]?.bind fun w => w.bats[j]?.map fun l => .leaf (l.map eB)
def Sat (K : Frg) (H : Hp) (a : Addr) : Wn → Prop
  | .leaf ds => ∃ xs, H a = some (.lst xs) ∧ TdL K H xs ds
  | .refs as => H a = some (.lst (as.map V.ref))
  | .ins C fs => ∃ dx, H a = some (.ins C dx fs)
def fxd : Rl → Bool
  | .arr _ => false
  | .hand _ => false
  | .cache _ => false
  | .bat _ _ => false
  | _ => true
structure Rep (K : Frg) (H : Hp) (loc : Lc) (D : DS) : Prop where
  sat : ∀ r w, want K D loc r = some w → Sat K H (loc r) w
  inj : ∀ r r', (want K D loc r).isSome = true → (want K D loc r').isSome = true → loc r = loc r' → r = r'
  dead : ∀ r, want K D loc r = none → ∃ r', fxd r' = true ∧ (want K D loc r').isSome = true ∧ loc r = loc r'
/-- not a tuple -/
def nTup : HO → Prop
  | .lst _ => True
  | .ins _ _ _ => True
  | _ => False
section
variable {K : Frg} {H H' : Hp} {loc : Lc} {D D' : DS}
theorem Sat.obj {a : Addr} {w : Wn} (h : Sat K H a w) : ∃ o, H a = some o ∧ nTup o := by
  cases w with
  | leaf ds =>
    obtain ⟨xs, e, _⟩ := h
    exact ⟨_, e, trivial⟩
  | refs as => exact ⟨_, h, trivial⟩
  | ins C fs =>
    obtain ⟨dx, e⟩ := h
    exact ⟨_, e, trivial⟩
theorem Sat.keep {a : Addr} {w : Wn} (h : Sat K H a w) (e : H' a = H a) (k : Tk H H') : Sat K H' a w := by
  cases w with
  | leaf ds =>
    obtain ⟨xs, e1, t⟩ := h
    exact ⟨xs, e.trans e1, t.keep k⟩
  | refs as => exact e.trans h
  | ins C fs =>
    obtain ⟨dx, e1⟩ := h
    exact ⟨dx, e.trans e1⟩
theorem Sat.ex {a : Addr} {w : Wn} (h : Sat K H a w) (e : Ex H H') : Sat K H' a w := by
  obtain ⟨o, ho, _⟩ := h.obj
  exact h.keep ((e a o ho).trans ho.symm) (.of_ex e)
theorem Rep.ex (R : Rep K H loc D) (e : Ex H H') : Rep K H' loc D := ⟨fun r w h => (R.sat r w h).ex e, R.inj, R.dead⟩
/-- an object that is no tuple is written: the tuples stay -/
theorem tk_upd {a : Addr} {o u : HO} (h : H a = some o) (n : nTup o) : Tk H (upd H a u) := fun b xs hb => by
  have hne : b ≠ a := by
    intro e
    subst e
    rcases hb with hb | ⟨ob, hb⟩ <;> rw [h] at hb <;> cases hb <;> exact n
  rcases hb with hb | ⟨ob, hb⟩
  · exact .inl (by rw [upd_ne hne]; exact hb)
  · exact .inr ⟨ob, by rw [upd_ne hne]; exact hb⟩
/-- one role's content is changed in place -/
theorem Rep.put (R : Rep K H loc D) {r : Rl} {w w' : Wn} {o : HO} (hr : want K D loc r = some w) (hw : want K D' loc r = some w') (hs : Sat K (upd H (loc r) o) (loc r) w')
    (ho : ∀ r', r' ≠ r → want K D' loc r' = want K D loc r') : Rep K (upd H (loc r) o) loc D' := by
  obtain ⟨o1, e1, n1⟩ := (R.sat r w hr).obj
  have live : ∀ r', (want K D' loc r').isSome = true → (want K D loc r').isSome = true := fun r' h => by
    by_cases e : r' = r
    · subst e
      rw [hr]
      rfl
    · rw [← ho r' e]
      exact h
  refine ⟨fun r' w2 h => ?_, fun r' r2 h1 h2 => R.inj r' r2 (live r' h1) (live r2 h2), fun r' h => ?_⟩
  rotate_left
  · have hne : r' ≠ r := by
      rintro rfl
      rw [hw] at h
      cases h
    rw [ho r' hne] at h
    obtain ⟨r2, f, l, e⟩ := R.dead r' h
    refine ⟨r2, f, ?_, e⟩
    by_cases e2 : r2 = r
    · subst e2
      rw [hw]
      rfl
    · rw [ho r2 e2]
      exact l
  by_cases e : r' = r
  · subst e
    rw [hw] at h
    cases h
    exact hs
  · rw [ho r' e] at h
    have hne : loc r' ≠ loc r := fun q => e (R.inj r' r (by rw [h]; rfl) (by rw [hr]; rfl) q)
    exact (R.sat r' w2 h).keep (upd_ne hne) (tk_upd e1 n1)
/-- a role gets another object (at a, made before), its parent p is written -/
def mv (loc : Lc) (c : Rl) (a : Addr) : Lc := fun r => if r = c then a else loc r
theorem mv_same {c : Rl} {a : Addr} : mv loc c a c = a := by
  unfold mv
  rw [if_pos rfl]
theorem mv_ne {c r : Rl} {a : Addr} (h : r ≠ c) : mv loc c a r = loc r := by
  unfold mv
  rw [if_neg h]
theorem Rep.swap (R : Rep K H loc D) {p c : Rl} {w wp wc : Wn} {o : HO} {a : Addr} (hpc : p ≠ c) (hcf : fxd c = false) (hp : want K D loc p = some w) (hc : (want K D loc c).isSome = true) (ha : ∀ r, (want K D loc r).isSome = true → loc r ≠ a)
    (hwp : want K D' (mv loc c a) p = some wp) (hwc : want K D' (mv loc c a) c = some wc) (sp : Sat K (upd H (loc p) o) (loc p) wp) (sc : Sat K H a wc)
    (ho : ∀ r, r ≠ p → r ≠ c → want K D' (mv loc c a) r = want K D loc r) : Rep K (upd H (loc p) o) (mv loc c a) D' := by
  obtain ⟨o1, e1, n1⟩ := (R.sat p w hp).obj
  have hpl : (want K D loc p).isSome = true := by rw [hp]; rfl
  have live : ∀ r, (want K D' (mv loc c a) r).isSome = true → (want K D loc r).isSome = true := fun r h => by
    by_cases e : r = p
    · subst e
      exact hpl
    · by_cases e2 : r = c
      · subst e2
        exact hc
      · rw [← ho r e e2]
        exact h
  have ap : a ≠ loc p := Ne.symm (ha p hpl)
  refine ⟨fun r w2 h => ?_, fun r r2 h1 h2 q => ?_, fun r h => ?_⟩
  rotate_left 2
  · have n1 : r ≠ p := by
      rintro rfl
      rw [hwp] at h
      cases h
    have n2 : r ≠ c := by
      rintro rfl
      rw [hwc] at h
      cases h
    rw [ho r n1 n2] at h
    obtain ⟨r2, f, l, e⟩ := R.dead r h
    have n3 : r2 ≠ c := by
      rintro rfl
      rw [hcf] at f
      cases f
    refine ⟨r2, f, ?_, by rw [mv_ne n2, mv_ne n3]; exact e⟩
    by_cases e2 : r2 = p
    · subst e2
      rw [hwp]
      rfl
    · rw [ho r2 e2 n3]
      exact l
  · by_cases e : r = p
    · subst e
      rw [hwp] at h
      cases h
      rw [mv_ne hpc]
      exact sp
    · by_cases e2 : r = c
      · subst e2
        rw [hwc] at h
        cases h
        rw [mv_same]
        exact sc.keep (upd_ne ap) (tk_upd e1 n1)
      · rw [ho r e e2] at h
        rw [mv_ne e2]
        have hne : loc r ≠ loc p := fun q => e (R.inj r p (by rw [h]; rfl) hpl q)
        exact (R.sat r w2 h).keep (upd_ne hne) (tk_upd e1 n1)
  · by_cases e : r = c
    · subst e
      by_cases e2 : r2 = r
      · exact e2.symm
      · rw [mv_same, mv_ne e2] at q
        exact absurd q.symm (ha r2 (live r2 h2))
    · by_cases e2 : r2 = c
      · subst e2
        rw [mv_same, mv_ne e] at q
        exact absurd q (ha r (live r h1))
      · rw [mv_ne e, mv_ne e2] at q
        exact R.inj r r2 (live r h1) (live r2 h2) q
end
/-! ### what stays -/
structure Ext (H : Hp) (loc : Lc) (H' : Hp) (loc' : Lc) : Prop where
  fr : ∀ b o, H b = some o → (∀ r, loc r ≠ b) → H' b = some o
  lc : ∀ r, loc' r = loc r ∨ H (loc' r) = none
  dm : ∀ b, H b ≠ none → H' b ≠ none
  fx : ∀ r, fxd r = true → loc' r = loc r
  tk : Tk H H'
section
variable {H H1 H2 : Hp} {l l1 l2 : Lc}
theorem Ext.refl : Ext H l H l := ⟨fun _ _ h _ => h, fun _ => .inl rfl, fun _ h => h, fun _ _ => rfl, .refl H⟩
theorem Ext.of_ex (e : Ex H H1) : Ext H l H1 l := ⟨fun b o h _ => e b o h, fun _ => .inl rfl, fun b h q => h (fresh_back e q), fun _ _ => rfl, .of_ex e⟩
theorem Ext.trans (a : Ext H l H1 l1) (b : Ext H1 l1 H2 l2) : Ext H l H2 l2 where
  fr := fun c o h hr => b.fr c o (a.fr c o h hr) fun r q => by
    rcases a.lc r with e | e
    · exact hr r (e ▸ q)
    · rw [q, h] at e
      cases e
  lc := fun r => by
    rcases b.lc r with e | e
    · rw [e]
      exact a.lc r
    · right
      cases q : H (l2 r) with
      | none => rfl
      | some o => exact absurd e (a.dm _ (by rw [q]; exact fun z => nomatch z))
  dm := fun c h => b.dm c (a.dm c h)
  fx := fun r h => (b.fx r h).trans (a.fx r h)
  tk := a.tk.trans b.tk
theorem Ext.ex (a : Ext H l H1 l1) (e : Ex H1 H2) : Ext H l H2 l1 := a.trans (.of_ex e)
theorem Ext.put {r : Rl} {o u : HO} (h : H (l r) = some u) (n : nTup u) : Ext H l (upd H (l r) o) l :=
  ⟨fun b x hb hr => by rw [upd_ne (Ne.symm (hr r))]; exact hb, fun _ => .inl rfl, fun b hb => by
    by_cases e : b = l r
    · rw [e, upd_same]
      exact fun z => nomatch z
    · rw [upd_ne e]
      exact hb, fun _ _ => rfl, tk_upd h n⟩
/-- .. from an earlier heap in which the new object's place was free -/
theorem Ext.swap {c p : Rl} {o u : HO} {a : Addr} (e0 : Ext H l H1 l1) (h : H1 (l1 p) = some u) (n : nTup u) (hc : fxd c = false) (ha : H a = none) : Ext H l (upd H1 (l1 p) o) (mv l1 c a) := by
  have e1 := e0.trans (Ext.put (r := p) (o := o) h n)
  refine ⟨e1.fr, fun r => ?_, e1.dm, fun r hr => ?_, e1.tk⟩
  · by_cases e : r = c
    · subst e
      rw [mv_same]
      exact .inr ha
    · rw [mv_ne e]
      exact e1.lc r
  · have : r ≠ c := by
      rintro rfl
      rw [hc] at hr
      cases hr
    rw [mv_ne this]
    exact e1.fx r hr
end
end Rp
set_option Elab.async false
set_option linter.all false
set_option maxRecDepth 100000
set_option maxHeartbeats 4000000
set_option autoImplicit false
/-! A draft's changes, one by one: the content of a role as the mirror's function says it. -/
namespace Rp
open PySem PySem.Spec PyProof.Rows L2 Mx Evl
section
variable {K : Frg} {H : Hp} {loc : Lc} {D : DS} {t : Nat} {w w' : Wk} {a : Addr}
theorem wk_of (h : D.wks[t]? = some w) : D.wk t = w := by
  show D.wks.getD t default = w
  rw [List.getD_eq_getElem?_getD, h] <;> rfl
theorem set_at {α : Type} {l : List α} {x y : α} (h : l[t]? = some x) (i : Nat) : (l.set t y)[i]? = if i = t then some y else l[i]? := by
  have ht := (List.getElem?_eq_some_iff.mp h).1
  by_cases e : i = t
  · subst e
    rw [if_pos rfl, List.getElem?_set_self ht]
  · rw [if_neg e, List.getElem?_set_ne (Ne.symm e)]
/-! pages, slots, flight -/
theorem Rep.atPages (R : Rep K H loc D) : ∃ xs, H (loc .pages) = some (.lst xs) ∧ TdL K H xs (D.pages.map ePg) := R.sat .pages _ rfl
theorem Rep.atSlots (R : Rep K H loc D) : ∃ xs, H (loc .slots) = some (.lst xs) ∧ TdL K H xs (D.slots.map eSl) := R.sat .slots _ rfl
theorem Rep.atFlight (R : Rep K H loc D) : ∃ xs, H (loc .flight) = some (.lst xs) ∧ TdL K H xs (D.fl.map eMs) := R.sat .flight _ rfl
theorem Rep.atArrs (R : Rep K H loc D) : H (loc .arrs) = some (.lst (((List.range D.arrs.length).map fun j => loc (.arr j)).map V.ref)) := R.sat .arrs _ rfl
theorem Rep.atWks (R : Rep K H loc D) : H (loc .wks) = some (.lst (((List.range D.wks.length).map fun j => loc (.wk j)).map V.ref)) := R.sat .wks _ rfl
theorem Rep.atDrf (R : Rep K H loc D) : ∃ dx, H (loc .drf) = some (.ins (He.ga K "Draft") dx (fDr loc)) := R.sat .drf _ rfl
theorem want_arr {l : List Blk} {j : Nat} (h : D.arrs[j]? = some l) : want K D loc (.arr j) = some (.leaf (l.map eB)) := by simp [want, h]
theorem want_wk (h : D.wks[t]? = some w) : want K D loc (.wk t) = some (.ins (He.ga K "Worker") (fWk w (loc (.hand t)) (loc (.caches t)) (loc (.bats t)))) := by simp [want, h]
theorem want_hand (h : D.wks[t]? = some w) : want K D loc (.hand t) = some (.leaf (w.hand.map eB)) := by simp [want, h]
theorem want_caches (h : D.wks[t]? = some w) : want K D loc (.caches t) = some (.refs [loc (.cache t)]) := by simp [want, h]
theorem want_cache (h : D.wks[t]? = some w) : want K D loc (.cache t) = some (.leaf (w.cache.map eB)) := by simp [want, h]
theorem want_bats (h : D.wks[t]? = some w) : want K D loc (.bats t) = some (.refs ((List.range w.bats.length).map fun j => loc (.row t j))) := by simp [want, h]
theorem want_row {j : Nat} {l : List Blk} (h : D.wks[t]? = some w) (hj : w.bats[j]? = some l) : want K D loc (.row t j) = some (.refs [loc (.bat t j)]) := by simp [want, h, hj]
theorem want_bat {j : Nat} {l : List Blk} (h : D.wks[t]? = some w) (hj : w.bats[j]? = some l) : want K D loc (.bat t j) = some (.leaf (l.map eB)) := by simp [want, h, hj]
theorem Rep.putPages (R : Rep K H loc D) {xs : List V} {p : Nat} {x : Pg} {v : V} (h : H (loc .pages) = some (.lst xs)) (tv : Td K H v (ePg x)) : Rep K (upd H (loc .pages) (.lst (xs.set p v))) loc (D.setPg p x) := by
  obtain ⟨ys, hy, ty⟩ := R.atPages
  rw [h] at hy
  cases hy
  refine R.put (r := .pages) (w' := .leaf ((D.setPg p x).pages.map ePg)) rfl rfl ⟨_, upd_same, ?_⟩ fun r' hr => by cases r' <;> first | rfl | exact absurd rfl hr
  show TdL K _ (xs.set p v) ((D.pages.set p x).map ePg)
  rw [List.map_set]
  exact (ty.set p tv).keep (tk_upd h trivial)
theorem Rep.putSlots (R : Rep K H loc D) {xs : List V} {p : Nat} {x : Sl} {v : V} (h : H (loc .slots) = some (.lst xs)) (tv : Td K H v (eSl x)) : Rep K (upd H (loc .slots) (.lst (xs.set p v))) loc (D.setSl p x) := by
  obtain ⟨ys, hy, ty⟩ := R.atSlots
  rw [h] at hy
  cases hy
  refine R.put (r := .slots) (w' := .leaf ((D.setSl p x).slots.map eSl)) rfl rfl ⟨_, upd_same, ?_⟩ fun r' hr => by cases r' <;> first | rfl | exact absurd rfl hr
  show TdL K _ (xs.set p v) ((D.slots.set p x).map eSl)
  rw [List.map_set]
  exact (ty.set p tv).keep (tk_upd h trivial)
theorem Rep.putFlight (R : Rep K H loc D) {xs : List V} {hm : Nat} {l : List Blk} {v : V} (h : H (loc .flight) = some (.lst xs)) (tv : Td K H v (eMs (hm, l))) : Rep K (upd H (loc .flight) (.lst (xs ++ [v]))) loc (D.addFl hm l) := by
  obtain ⟨ys, hy, ty⟩ := R.atFlight
  rw [h] at hy
  cases hy
  refine R.put (r := .flight) (w' := .leaf ((D.addFl hm l).fl.map eMs)) rfl rfl ⟨_, upd_same, ?_⟩ fun r' hr => by cases r' <;> first | rfl | exact absurd rfl hr
  show TdL K _ (xs ++ [v]) ((D.fl ++ [(hm, l)]).map eMs)
  rw [List.map_append]
  exact (ty.append (.one tv)).keep (tk_upd h trivial)
theorem map_erase {α β : Type} (f : α → β) : ∀ (l : List α) (m : Nat), (l.eraseIdx m).map f = (l.map f).eraseIdx m
  | [], _ => rfl
  | _ :: _, 0 => rfl
  | x :: l, m + 1 => by
    show f x :: (l.eraseIdx m).map f = f x :: (l.map f).eraseIdx m
    rw [map_erase f l m]
theorem Rep.popFlight (R : Rep K H loc D) {xs : List V} {m : Nat} (h : H (loc .flight) = some (.lst xs)) : Rep K (upd H (loc .flight) (.lst (xs.eraseIdx m))) loc { D with fl := D.fl.eraseIdx m } := by
  obtain ⟨ys, hy, ty⟩ := R.atFlight
  rw [h] at hy
  cases hy
  refine R.put (r := .flight) (w' := .leaf ((D.fl.eraseIdx m).map eMs)) rfl rfl ⟨_, upd_same, ?_⟩ fun r' hr => by cases r' <;> first | rfl | exact absurd rfl hr
  show TdL K _ (xs.eraseIdx m) ((D.fl.eraseIdx m).map eMs)
  rw [map_erase]
  exact (ty.erase m).keep (tk_upd h trivial)
/-! arrivals -/
theorem Rep.putArr (R : Rep K H loc D) {xs : List V} {z : Nat} {l l' : List Blk} (hz : D.arrs[z]? = some l) (tv : TdL K H xs (l'.map eB)) : Rep K (upd H (loc (.arr z)) (.lst xs)) loc (D.setArr z l') := by
  obtain ⟨o, ho, no⟩ := (R.sat _ _ (want_arr hz)).obj
  refine R.put (r := .arr z) (w' := .leaf (l'.map eB)) (want_arr hz) ?_ ⟨_, upd_same, tv.keep (tk_upd ho no)⟩ fun r' hr => ?_
  · refine want_arr ?_
    show (D.arrs.set z l')[z]? = some l'
    rw [set_at hz, if_pos rfl]
  · cases r' with
    | arr j =>
      have hj : j ≠ z := fun e => hr (by rw [e])
      show ((D.arrs.set z l')[j]?).map _ = (D.arrs[j]?).map _
      rw [set_at hz, if_neg hj]
    | arrs =>
      show some (Wn.refs ((List.range (D.arrs.set z l').length).map _)) = some (Wn.refs ((List.range D.arrs.length).map _))
      rw [List.length_set]
    | _ => rfl
/-- own_arrivals[z] = a new list -/
theorem Rep.swapArr (R : Rep K H loc D) {xs : List V} {z : Nat} {l l' : List Blk} (hz : D.arrs[z]? = some l) (ha : ∀ r, (want K D loc r).isSome = true → loc r ≠ a) (hx : H a = some (.lst xs)) (tv : TdL K H xs (l'.map eB)) :
    Rep K (upd H (loc .arrs) (.lst ((((List.range D.arrs.length).map fun j => loc (.arr j)).map V.ref).set z (.ref a)))) (mv loc (.arr z) a) (D.setArr z l') := by
  have hzl := (List.getElem?_eq_some_iff.mp hz).1
  refine R.swap (p := .arrs) (c := .arr z) (wp := .refs ((List.range D.arrs.length).map fun j => mv loc (.arr z) a (.arr j))) (wc := .leaf (l'.map eB)) (fun q => nomatch q) rfl rfl (by rw [want_arr hz]; rfl) ha ?_ ?_ ?_ ⟨xs, hx, tv⟩ fun r h1 h2 => ?_
  · show some (Wn.refs ((List.range (D.arrs.set z l').length).map _)) = _
    rw [List.length_set]
  · refine want_arr ?_
    show (D.arrs.set z l')[z]? = some l'
    rw [set_at hz, if_pos rfl]
  · show upd H (loc .arrs) _ (loc .arrs) = _
    rw [upd_same]
    congr 2
    apply List.ext_getElem?
    intro i
    by_cases e : i = z
    · subst e
      rw [List.getElem?_set_self (by simpa using hzl), List.getElem?_map, List.getElem?_map, List.getElem?_range hzl]
      show some (V.ref a) = some (V.ref (mv loc (.arr i) a (.arr i)))
      rw [mv_same]
    · rw [List.getElem?_set_ne (Ne.symm e), List.getElem?_map, List.getElem?_map, List.getElem?_map, List.getElem?_map]
      cases q : (List.range D.arrs.length)[i]? with
      | none => rfl
      | some j =>
        have hj : j = i := by
          obtain ⟨h1, h2⟩ := List.getElem?_eq_some_iff.mp q
          rw [List.getElem_range] at h2
          exact h2.symm
        subst hj
        show some (V.ref (loc (.arr j))) = some (V.ref (mv loc (.arr z) a (.arr j)))
        rw [mv_ne (fun q => e (by cases q; rfl))]
  · cases r with
    | arr j =>
      have hj : j ≠ z := fun e => h2 (by rw [e])
      show ((D.arrs.set z l')[j]?).map _ = (D.arrs[j]?).map _
      rw [set_at hz, if_neg hj]
    | arrs => exact absurd rfl h1
    | _ => rfl
/-! workers -/
theorem setWk_oth (hw : D.wks[t]? = some w) (hb : w'.bats.length = w.bats.length) (r : Rl) (h1 : ∀ i, r = .wk i → i ≠ t ∨ fWk w' (loc (.hand t)) (loc (.caches t)) (loc (.bats t)) = fWk w (loc (.hand t)) (loc (.caches t)) (loc (.bats t))) (h2 : ∀ i, r = .hand i → i ≠ t ∨ w'.hand = w.hand) (h3 : ∀ i, r = .cache i → i ≠ t ∨ w'.cache = w.cache)
    (h4 : ∀ i j, r = .bat i j → i ≠ t ∨ w'.bats[j]? = w.bats[j]?) : want K (D.setWk t w') loc r = want K D loc r := by
  have hs : ∀ i, (D.setWk t w').wks[i]? = if i = t then some w' else D.wks[i]? := fun i => set_at hw i
  have hl : (D.setWk t w').wks.length = D.wks.length := List.length_set
  cases r with
  | wks =>
    show some (Wn.refs ((List.range (D.setWk t w').wks.length).map _)) = _
    rw [hl] <;> rfl
  | wk i =>
    show ((D.setWk t w').wks[i]?).map _ = (D.wks[i]?).map _
    rw [hs]
    by_cases e : i = t
    · subst e
      rw [if_pos rfl, hw]
      rcases h1 i rfl with h | h
      · exact absurd rfl h
      · simp only [Option.map_some]
        rw [h]
    · rw [if_neg e]
  | hand i =>
    show ((D.setWk t w').wks[i]?).map _ = (D.wks[i]?).map _
    rw [hs]
    by_cases e : i = t
    · subst e
      rw [if_pos rfl, hw]
      rcases h2 i rfl with h | h
      · exact absurd rfl h
      · simp only [Option.map_some]
        rw [h]
    · rw [if_neg e]
  | caches i =>
    show ((D.setWk t w').wks[i]?).map _ = (D.wks[i]?).map _
    rw [hs]
    by_cases e : i = t
    · subst e
      rw [if_pos rfl, hw]
      rfl
    · rw [if_neg e]
  | cache i =>
    show ((D.setWk t w').wks[i]?).map _ = (D.wks[i]?).map _
    rw [hs]
    by_cases e : i = t
    · subst e
      rw [if_pos rfl, hw]
      rcases h3 i rfl with h | h
      · exact absurd rfl h
      · simp only [Option.map_some]
        rw [h]
    · rw [if_neg e]
  | bats i =>
    show ((D.setWk t w').wks[i]?).map _ = (D.wks[i]?).map _
    rw [hs]
    by_cases e : i = t
    · subst e
      rw [if_pos rfl, hw]
      simp only [Option.map_some]
      rw [hb]
    · rw [if_neg e]
  | row i j =>
    show ((D.setWk t w').wks[i]?).bind _ = (D.wks[i]?).bind _
    rw [hs]
    by_cases e : i = t
    · subst e
      rw [if_pos rfl, hw]
      simp only [Option.bind_some]
      by_cases hj : j < w.bats.length
      · rw [List.getElem?_eq_getElem hj, List.getElem?_eq_getElem (by rw [hb]; exact hj)]
        rfl
      · rw [List.getElem?_eq_none (by omega), List.getElem?_eq_none (by omega)]
    · rw [if_neg e]
  | bat i j =>
    show ((D.setWk t w').wks[i]?).bind _ = (D.wks[i]?).bind _
    rw [hs]
    by_cases e : i = t
    · subst e
      rw [if_pos rfl, hw]
      simp only [Option.bind_some]
      rcases h4 i j rfl with h | h
      · exact absurd rfl h
      · rw [h]
    · rw [if_neg e]
  | _ => rfl
theorem setWk_at (hw : D.wks[t]? = some w) : (D.setWk t w').wks[t]? = some w' := by
  show (D.wks.set t w')[t]? = some w'
  rw [set_at hw, if_pos rfl]
/-- a worker's plain fields -/
theorem Rep.putWk (R : Rep K H loc D) (hw : D.wks[t]? = some w) (h1 : w'.hand = w.hand) (h2 : w'.cache = w.cache) (h3 : w'.bats = w.bats) {dx : Addr} :
    Rep K (upd H (loc (.wk t)) (.ins (He.ga K "Worker") dx (fWk w' (loc (.hand t)) (loc (.caches t)) (loc (.bats t))))) loc (D.setWk t w') := by
  refine R.put (r := .wk t) (want_wk hw) (want_wk (setWk_at hw)) ⟨dx, upd_same⟩ fun r hr => setWk_oth hw (by rw [h3]) r (fun i e => .inl fun q => hr (by rw [e, q])) (fun _ _ => .inr h1) (fun _ _ => .inr h2) (fun _ _ _ => .inr (by rw [h3]))
theorem Rep.putHand (R : Rep K H loc D) (hw : D.wks[t]? = some w) (h0 : fWk w' (loc (.hand t)) (loc (.caches t)) (loc (.bats t)) = fWk w (loc (.hand t)) (loc (.caches t)) (loc (.bats t))) (h2 : w'.cache = w.cache) (h3 : w'.bats = w.bats) {xs : List V} (tv : TdL K H xs (w'.hand.map eB)) :
    Rep K (upd H (loc (.hand t)) (.lst xs)) loc (D.setWk t w') := by
  obtain ⟨o, ho, no⟩ := (R.sat _ _ (want_hand hw)).obj
  refine R.put (r := .hand t) (want_hand hw) (want_hand (setWk_at hw)) ⟨xs, upd_same, tv.keep (tk_upd ho no)⟩ fun r hr => setWk_oth hw (by rw [h3]) r (fun i e => .inr h0) (fun i e => .inl fun q => hr (by rw [e, q])) (fun _ _ => .inr h2) (fun _ _ _ => .inr (by rw [h3]))
theorem Rep.putCache (R : Rep K H loc D) (hw : D.wks[t]? = some w) (h0 : fWk w' (loc (.hand t)) (loc (.caches t)) (loc (.bats t)) = fWk w (loc (.hand t)) (loc (.caches t)) (loc (.bats t))) (h1 : w'.hand = w.hand) (h3 : w'.bats = w.bats) {xs : List V} (tv : TdL K H xs (w'.cache.map eB)) :
    Rep K (upd H (loc (.cache t)) (.lst xs)) loc (D.setWk t w') := by
  obtain ⟨o, ho, no⟩ := (R.sat _ _ (want_cache hw)).obj
  refine R.put (r := .cache t) (want_cache hw) (want_cache (setWk_at hw)) ⟨xs, upd_same, tv.keep (tk_upd ho no)⟩ fun r hr => setWk_oth hw (by rw [h3]) r (fun i e => .inr h0) (fun _ _ => .inr h1) (fun i e => .inl fun q => hr (by rw [e, q])) (fun _ _ _ => .inr (by rw [h3]))
theorem Rep.putBat (R : Rep K H loc D) (hw : D.wks[t]? = some w) {j : Nat} {l l' : List Blk} (hj : w.bats[j]? = some l) (h0 : fWk w' (loc (.hand t)) (loc (.caches t)) (loc (.bats t)) = fWk w (loc (.hand t)) (loc (.caches t)) (loc (.bats t))) (h1 : w'.hand = w.hand) (h2 : w'.cache = w.cache) (h3 : w'.bats = w.bats.set j l') {xs : List V} (tv : TdL K H xs (l'.map eB)) :
    Rep K (upd H (loc (.bat t j)) (.lst xs)) loc (D.setWk t w') := by
  obtain ⟨o, ho, no⟩ := (R.sat _ _ (want_bat hw hj)).obj
  have hj' : w'.bats[j]? = some l' := by rw [h3, set_at hj, if_pos rfl]
  refine R.put (r := .bat t j) (want_bat hw hj) (want_bat (setWk_at hw) hj') ⟨xs, upd_same, tv.keep (tk_upd ho no)⟩ fun r hr => setWk_oth hw (by rw [h3, List.length_set]) r (fun i e => .inr h0) (fun _ _ => .inr h1) (fun _ _ => .inr h2) (fun i k e => ?_)
  by_cases q : i = t
  · right
    have hk : k ≠ j := fun z => hr (by rw [e, q, z])
    rw [h3, set_at hj, if_neg hk]
  · exact .inl q
/-- worker.hand = a new list -/
theorem Rep.swapHand (R : Rep K H loc D) (hw : D.wks[t]? = some w) (h2 : w'.cache = w.cache) (h3 : w'.bats = w.bats) (ha : ∀ r, (want K D loc r).isSome = true → loc r ≠ a) {xs : List V} (hx : H a = some (.lst xs)) (tv : TdL K H xs (w'.hand.map eB)) {dx : Addr} :
    Rep K (upd H (loc (.wk t)) (.ins (He.ga K "Worker") dx (fWk w' a (loc (.caches t)) (loc (.bats t))))) (mv loc (.hand t) a) (D.setWk t w') := by
  refine R.swap (p := .wk t) (c := .hand t) (fun q => nomatch q) rfl (want_wk hw) (by rw [want_hand hw]; rfl) ha (want_wk (setWk_at hw)) (want_hand (setWk_at hw)) ?_ ⟨xs, hx, tv⟩ fun r h1 h2' => ?_
  · rw [mv_same]
    exact ⟨dx, upd_same⟩
  · have e : want K (D.setWk t w') (mv loc (.hand t) a) r = want K (D.setWk t w') loc r := by
      cases r with
      | wk i =>
        have hi : i ≠ t := fun q => h1 (by rw [q])
        show ((D.setWk t w').wks[i]?).map _ = ((D.setWk t w').wks[i]?).map _
        rw [show mv loc (.hand t) a (.hand i) = loc (.hand i) from mv_ne fun q => hi (by cases q; rfl)] <;> rfl
      | _ => rfl
    rw [e]
    exact setWk_oth hw (by rw [h3]) r (fun i e => .inl fun q => h1 (by rw [e, q])) (fun i e => .inl fun q => h2' (by rw [e, q])) (fun _ _ => .inr h2) (fun _ _ _ => .inr (by rw [h3]))
/-- worker.caches[0] = a new list -/
theorem Rep.swapCache (R : Rep K H loc D) (hw : D.wks[t]? = some w) (h0 : fWk w' (loc (.hand t)) (loc (.caches t)) (loc (.bats t)) = fWk w (loc (.hand t)) (loc (.caches t)) (loc (.bats t))) (h1 : w'.hand = w.hand) (h3 : w'.bats = w.bats) (ha : ∀ r, (want K D loc r).isSome = true → loc r ≠ a) {xs : List V} (hx : H a = some (.lst xs)) (tv : TdL K H xs (w'.cache.map eB)) :
    Rep K (upd H (loc (.caches t)) (.lst [.ref a])) (mv loc (.cache t) a) (D.setWk t w') := by
  refine R.swap (p := .caches t) (c := .cache t) (fun q => nomatch q) rfl (want_caches hw) (by rw [want_cache hw]; rfl) ha (want_caches (setWk_at hw)) (want_cache (setWk_at hw)) ?_ ⟨xs, hx, tv⟩ fun r h1' h2' => ?_
  · rw [mv_same]
    exact upd_same
  · have e : want K (D.setWk t w') (mv loc (.cache t) a) r = want K (D.setWk t w') loc r := by
      cases r with
      | caches i =>
        have hi : i ≠ t := fun q => h1' (by rw [q])
        show ((D.setWk t w').wks[i]?).map _ = ((D.setWk t w').wks[i]?).map _
        rw [show mv loc (.cache t) a (.cache i) = loc (.cache i) from mv_ne fun q => hi (by cases q; rfl)] <;> rfl
      | _ => rfl
    rw [e]
    exact setWk_oth hw (by rw [h3]) r (fun i e => .inr h0) (fun _ _ => .inr h1) (fun i e => .inl fun q => h2' (by rw [e, q])) (fun _ _ _ => .inr (by rw [h3]))
/-- row[0] = a new list -/
theorem Rep.swapBat (R : Rep K H loc D) (hw : D.wks[t]? = some w) {j : Nat} {l l' : List Blk} (hj : w.bats[j]? = some l) (h0 : fWk w' (loc (.hand t)) (loc (.caches t)) (loc (.bats t)) = fWk w (loc (.hand t)) (loc (.caches t)) (loc (.bats t))) (h1 : w'.hand = w.hand) (h2 : w'.cache = w.cache) (h3 : w'.bats = w.bats.set j l')
    (ha : ∀ r, (want K D loc r).isSome = true → loc r ≠ a) {xs : List V} (hx : H a = some (.lst xs)) (tv : TdL K H xs (l'.map eB)) :
    Rep K (upd H (loc (.row t j)) (.lst [.ref a])) (mv loc (.bat t j) a) (D.setWk t w') := by
  have hj' : w'.bats[j]? = some l' := by rw [h3, set_at hj, if_pos rfl]
  refine R.swap (p := .row t j) (c := .bat t j) (fun q => nomatch q) rfl (want_row hw hj) (by rw [want_bat hw hj]; rfl) ha (want_row (setWk_at hw) hj') (want_bat (setWk_at hw) hj') ?_ ⟨xs, hx, tv⟩ fun r h1' h2' => ?_
  · rw [mv_same]
    exact upd_same
  · have e : want K (D.setWk t w') (mv loc (.bat t j) a) r = want K (D.setWk t w') loc r := by
      cases r with
      | row i k =>
        have hi : ¬ (i = t ∧ k = j) := fun q => h1' (by rw [q.1, q.2])
        show ((D.setWk t w').wks[i]?).bind _ = ((D.setWk t w').wks[i]?).bind _
        rw [show mv loc (.bat t j) a (.bat i k) = loc (.bat i k) from mv_ne fun q => hi (by cases q; exact ⟨rfl, rfl⟩)] <;> rfl
      | _ => rfl
    rw [e]
    refine setWk_oth hw (by rw [h3, List.length_set]) r (fun i e => .inr h0) (fun _ _ => .inr h1) (fun _ _ => .inr h2) (fun i k e => ?_)
    by_cases q : i = t
    · right
      have hk : k ≠ j := fun z => h2' (by rw [e, q, z])
      rw [h3, set_at hj, if_neg hk]
    · exact .inl q
/-- an address that stood at a role that may be swapped, when another object stands there now: no role has it -/
theorem Rep.left {c : Rl} (R : Rep K H loc D) (hc : fxd c = false) (hl : (want K D loc c).isSome = true) (ha : a ≠ loc c) : ∀ r, mv loc c a r ≠ loc c := fun r q => by
  by_cases e : r = c
  · subst e
    rw [mv_same] at q
    exact ha q
  · rw [mv_ne e] at q
    cases hw : want K D loc r with
    | some x => exact e (R.inj r c (by rw [hw]; rfl) hl q)
    | none =>
      obtain ⟨r2, f, l, e2⟩ := R.dead r hw
      have := R.inj r2 c l hl (e2.symm.trans q)
      subst this
      rw [hc] at f
      cases f
end
end Rp
set_option Elab.async false
set_option linter.all false
set_option maxRecDepth 100000
set_option maxHeartbeats 4000000
set_option autoImplicit false
/-! What each def promises. -/
namespace Rp
open PySem PySem.Spec PyProof.Rows L2 Mx Evl Hf
def cscope : Expr → Scope
  | .ListComp _ _ sc _ => sc
  | _ => ⟨.function, [], false, false, []⟩
def aval : Stmt → Expr
  | .Assign _ v _ => v
  | _ => .Constant .none 0 ⟨0, 0, 0, 0⟩
def carg : Expr → Expr
  | .Call _ (a :: _) _ _ => a
  | e => e
theorem hu65 {k : Nat} {A : Around} (hr : Room k A) : A.units + 65 < cLine := by have := hr.un; omega
/-- a machine stands at m -/
def Mac (K : Frg) (H : Hp) (m : Addr) (M : MC) : Prop := ∃ dx p, H m = some (.ins (He.ga K "Machine") dx [("settings", .ref p)]) ∧ Td K H (.ref p) (eMC M)
/-- a state stands at s -/
def StA (K : Frg) (H : Hp) (s : Addr) (D : DS) : Prop := ∃ dx p, H s = some (.ins (He.ga K "State") dx [("parts", .ref p)]) ∧ Td K H (.ref p) (eDS D)
/-- a stepper stands at s, of the machine M, over a draft of D -/
structure Stp (K : Frg) (H : Hp) (s : Addr) (M : MC) (loc : Lc) (D : DS) : Prop where
  rep : Rep K H loc D
  own : ∃ m dx, H s = some (.ins (He.ga K "Stepper") dx [("owner", .ref m), ("draft", .ref (loc .drf))]) ∧ Mac K H m M ∧ ∀ r, loc r ≠ m
  ns : ∀ r, loc r ≠ s
section
variable {K : Frg} {H H' : Hp} {s m : Addr} {M : MC} {loc loc' : Lc} {D D' : DS}
theorem Mac.ex (h : Mac K H m M) (e : Ex H H') : Mac K H' m M := by
  obtain ⟨dx, p, h1, h2⟩ := h
  exact ⟨dx, p, e _ _ h1, h2.ex e⟩
theorem StA.ex (h : StA K H m D) (e : Ex H H') : StA K H' m D := by
  obtain ⟨dx, p, h1, h2⟩ := h
  exact ⟨dx, p, e _ _ h1, h2.ex e⟩
theorem Ext.off (e : Ext H loc H' loc') {b : Addr} {o : HO} (hb : H b = some o) (hr : ∀ r, loc r ≠ b) (r : Rl) : loc' r ≠ b := fun q => by
  rcases e.lc r with z | z
  · exact hr r (z ▸ q)
  · rw [q, hb] at z
    cases z
theorem Stp.ext (S : Stp K H s M loc D) (e : Ext H loc H' loc') (R : Rep K H' loc' D') : Stp K H' s M loc' D' := by
  obtain ⟨m, dx, h1, ⟨dx2, p, h2, h3⟩, hm⟩ := S.own
  exact ⟨R, ⟨m, dx, by rw [e.fx .drf rfl]; exact e.fr _ _ h1 S.ns, ⟨dx2, p, e.fr _ _ h2 hm, h3.keep e.tk⟩, e.off h2 hm⟩, e.off h1 S.ns⟩
theorem Stp.ex (S : Stp K H s M loc D) (e : Ex H H') : Stp K H' s M loc D := S.ext (.of_ex e) (S.rep.ex e)
theorem Stp.is_ (S : Stp K H s M loc D) (h : D = D') : Stp K H s M loc D' := h ▸ S
/-- an address that no role has -/
theorem Rep.fresh (R : Rep K H loc D) {a : Addr} (ha : H a = none) : ∀ r, (want K D loc r).isSome = true → loc r ≠ a := fun r hr q => by
  obtain ⟨w, hw⟩ := Option.isSome_iff_exists.mp hr
  obtain ⟨o, ho, _⟩ := (R.sat r w hw).obj
  rw [q, ha] at ho
  cases ho
end
/-! ### the promises -/
def spSet (K : Frg) (i : Nat) : Sp := fun vs H Q _ => ∃ m dx p xs v, vs = [.ref m] ∧ H m = some (.ins (He.ga K "Machine") dx [("settings", .ref p)]) ∧ SqT K H p xs ∧ xs[i]? = some v ∧ Q v H
def spPart (K : Frg) (i : Nat) : Sp := fun vs H Q _ => ∃ m dx p xs v, vs = [.ref m] ∧ H m = some (.ins (He.ga K "State") dx [("parts", .ref p)]) ∧ SqT K H p xs ∧ xs[i]? = some v ∧ Q v H
def spIsSmall (K : Frg) : Sp := fun vs H Q _ => ∃ s M loc D p h f, vs = [.ref s, .int (p : Nat)] ∧ Stp K H s M loc D ∧ D.pages[p]? = some (.small h f) ∧ ∀ H', Ex H H' → Q (.bl true) H'
def spHomeOf (K : Frg) : Sp := fun vs H Q _ => ∃ s M loc D bv b h f, vs = [.ref s, bv] ∧ Stp K H s M loc D ∧ Td K H bv (eB b) ∧ D.pages[b.1]? = some (.small h f) ∧ ∀ H', Ex H H' → Q (.int (h : Nat)) H'
def spSpare (K : Frg) : Sp := fun vs H Q _ => ∃ s M loc D z, vs = [.ref s, .int (z : Nat)] ∧ Stp K H s M loc D ∧ D.pages.length ≤ 1000 ∧ ∀ p H', Ex H H' → H p = none → H' p = some (.lst []) → Q (.ref p) H'
def spPutHome (K : Frg) : Sp := fun vs H Q _ => ∃ s M loc D bv b h f, vs = [.ref s, bv] ∧ Stp K H s M loc D ∧ D.pages.length ≤ 1000 ∧ Td K H bv (eB b) ∧ D.pages[b.1]? = some (.small h f) ∧ f.length ≤ 1000 ∧ M.size ≤ 1000 ∧
  ∀ H' loc', Stp K H' s M loc' (putHome M D b) → Ext H loc H' loc' → Q .non H'
def spBring (K : Frg) : Sp := fun vs H Q _ => ∃ s M loc D bv b z h f, vs = [.ref s, bv, .int (z : Nat)] ∧ Stp K H s M loc D ∧ D.pages.length ≤ 1000 ∧ Td K H bv (eB b) ∧ D.pages[b.1]? = some (.small h f) ∧ f.length ≤ 1000 ∧ M.size ≤ 1000 ∧ D.fl.length ≤ 10000 ∧
  ∀ v H' loc', Stp K H' s M loc' (bring M D b z).1 → Ext H loc H' loc' → Td K H' v (eEv (bring M D b z).2) → Q v H'
def spLists (K : Frg) : Sp := fun vs H Q _ => ∃ s M loc D z, vs = [.ref s, .int 0, .int (z : Nat)] ∧ Stp K H s M loc D ∧ D.pages.length ≤ 1000 ∧ ∀ p H', Ex H H' → H p = none → H' p = some (.lst ((listsWith D z).map fun (n : Nat) => V.int n)) → Q (.ref p) H'
def vOpt : Option Nat → V
  | none => .non
  | some p => .int (p : Nat)
def spToOpen (K : Frg) : Sp := fun vs H Q _ => ∃ s M loc D z, vs = [.ref s, .int (z : Nat)] ∧ Stp K H s M loc D ∧ D.pages.length ≤ 1000 ∧ ∀ H', Ex H H' → Q (vOpt (pageToOpen D)) H'
def spEmpty (K : Frg) : Sp := fun vs H Q _ => ∃ loc D t w, vs = [.ref (loc (.wk t))] ∧ Rep K H loc D ∧ D.wks[t]? = some w ∧ w.bats.length ≤ 1000 ∧ ∀ H', Ex H H' → Q (.bl w.empty) H'
def spEntry (K : Frg) : Sp := fun vs H Q _ => ∃ loc D t w, vs = [.ref (loc (.wk t))] ∧ Rep K H loc D ∧ D.wks[t]? = some w ∧ w.bats.length ≤ 1000 ∧ ∀ v H', Ex H H' → Td K H' v (eWk w) → Q v H'
/-- a method of the stepper on a thread: the draft becomes what f says -/
def spThr (K : Frg) (pre : MC → DS → Nat → Prop) (f : MC → DS → Nat → DS) : Sp := fun vs H Q _ => ∃ s M loc D t, vs = [.ref s, .int (t : Nat)] ∧ Stp K H s M loc D ∧ pre M D t ∧
  ∀ H' loc', Stp K H' s M loc' (f M D t) → Ext H loc H' loc' → Q .non H'
def preT (M : MC) (D : DS) (t : Nat) : Prop := ∃ w, D.wks[t]? = some w ∧ t < M.thr.length ∧ w.bats.length ≤ 1000
def spAdvance (K : Frg) : Sp := spThr K preT advance
def spLookEnd (K : Frg) : Sp := spThr K preT lookEnd
/-! ### sizes -/
def opSlots : Op → List Nat
  | .alloc s => [s]
  | .free s => [s]
  | .adopt s => [s]
  | .drain => []
def slB : Sl → List Blk
  | .blk b => [b]
  | _ => []
/-- the blocks outside of the lists of pages -/
def outside (D : DS) : List Blk := D.slots.flatMap slB ++ (D.wks.flatMap (fun w => w.hand ++ w.cache ++ w.bats.flatten) ++ (D.arrs.flatten ++ D.fl.flatMap (fun m => m.2)))
structure Fit (M : MC) (D : DS) : Prop where
  size : M.size ≤ 100
  bat : M.batch ≤ 100
  pos : 1 ≤ M.batch
  ns : M.ns ≤ 100
  thr : M.thr.length ≤ 100
  prg : ∀ (t : Nat) (p : Nat × List Op), M.thr[t]? = some p → p.2.length ≤ 100 ∧ p.1 < M.ns ∧ ∀ o ∈ p.2, ∀ s ∈ opSlots o, s < M.nsl
  nsl : M.nsl ≤ 100
  sl : D.slots.length = M.nsl
  pg : D.pages.length = 4
  fr : ∀ (p h : Nat) (f : List Nat), D.pages[p]? = some (.small h f) → f.length ≤ 100 ∧ h < M.ns
  wl : D.wks.length = M.thr.length
  wk : ∀ (t : Nat) (w : Wk), D.wks[t]? = some w → w.hand.length ≤ 100 ∧ w.cache.length ≤ 100 ∧ w.bats.length = M.ns ∧ ∀ l ∈ w.bats, l.length ≤ 100
  al : D.arrs.length = M.ns
  ar : ∀ l ∈ D.arrs, l.length ≤ 100
  fl : D.fl.length ≤ 100
  fb : ∀ m ∈ D.fl, m.1 < M.ns ∧ m.2.length ≤ 100
  sm : ∀ b ∈ outside D, ∃ h f, D.pages[b.1]? = some (.small h f)
/-- a move's method: arguments are numbers, the result is an event -/
def spEv (K : Frg) (pre : MC → DS → Nat → Nat → Nat → Prop) (f : MC → DS → Nat → Nat → Nat → DS × Ev) (ar : Nat → Nat → Nat → List Int) : Sp := fun vs H Q _ => ∃ s M loc D t z x, vs = .ref s :: (ar t z x).map V.int ∧ Stp K H s M loc D ∧ pre M D t z x ∧
  ∀ v H' loc', Stp K H' s M loc' (f M D t z x).1 → Ext H loc H' loc' → Td K H' v (eEv (f M D t z x).2) → Q v H'
def a1 (t z x : Nat) : List Int := [t]
def a2 (t z x : Nat) : List Int := [t, z]
def a3 (t z x : Nat) : List Int := [t, z, x]
def a4 (t z x : Nat) : List Int := [t, z, 0, x]
/-- thread t, of socket z, stands at an operation (or its end) -/
structure At (M : MC) (D : DS) (t z : Nat) (wk : Wk) : Prop where
  fit : Fit M D
  wk : D.wks[t]? = some wk
  thr : ∃ ops, M.thr[t]? = some (z, ops)
def spTake (K : Frg) : Sp := spEv K (fun M D t z _ => ∃ wk, At M D t z wk) (fun M D t z _ => (take D t z, .take (D.arr z).length)) a2
def spDrain (K : Frg) : Sp := spEv K (fun M D t z _ => ∃ wk, At M D t z wk ∧ (wk.ph ≠ .begin → wk.ph = .hand ∧ wk.hand ≠ [])) (fun M D t z _ => drain M D t z) a2
def spFlush (K : Frg) : Sp := spEv K (fun M D t z _ => ∃ wk, At M D t z wk ∧ (wk.cache = [] → ∃ j, firstBat (fun l => !l.isEmpty) wk = some j)) (fun M D t z _ => flush M D t z) a2
def spAllocate (K : Frg) : Sp := spEv K (fun M D t z s => ∃ wk, At M D t z wk ∧ s < M.nsl) (fun M D t z s => allocate M D t z s) a4
def spFill (K : Frg) : Sp := spEv K (fun M D t z s => ∃ wk, At M D t z wk ∧ s < M.nsl) (fun M D t z s => fill M D t z s) a4
def spOpenPage (K : Frg) : Sp := spEv K (fun M D t z s => ∃ wk, At M D t z wk ∧ s < M.nsl) (fun M D t z s => openPage M D t z s) a4
def spFree (K : Frg) : Sp := spEv K (fun M D t z s => ∃ wk, At M D t z wk ∧ s < M.nsl ∧ (wk.ph = .send → ∃ j, firstBat (fun l => decide (M.batch ≤ l.length)) wk = some j) ∧ (wk.ph ≠ .send → D.sl s ≠ .non)) (fun M D t z s => freeOp M D t z s) a3
def spAdopt (K : Frg) : Sp := spEv K (fun M D t z s => ∃ wk, At M D t z wk ∧ s < M.nsl ∧ D.sl s ≠ .non) (fun M D t z s => adopt M D t z s) a3
def spSend (K : Frg) : Sp := spEv K (fun M D t z _ => ∃ wk, At M D t z wk ∧ ∃ j, firstBat (fun l => decide (M.batch ≤ l.length)) wk = some j) (fun M D t _ _ => sendFull M D t) a1
def spFlushBat (K : Frg) : Sp := fun vs H Q _ => ∃ s M loc D t wk j, vs = [.ref s, .ref (loc (.wk t))] ∧ Stp K H s M loc D ∧ Fit M D ∧ D.wks[t]? = some wk ∧ firstBat (fun l => !l.isEmpty) wk = some j ∧
  ∀ v H' loc', Stp K H' s M loc' (flushBat D t).1 → Ext H loc H' loc' → Td K H' v (eEv (flushBat D t).2) → Q v H'
def spFillFrom (K : Frg) : Sp := fun vs H Q _ => ∃ s M loc D t wk p h f, vs = [.ref s, .ref (loc (.wk t)), .int (p : Nat)] ∧ Stp K H s M loc D ∧ M.batch ≤ 100 ∧ D.wks[t]? = some wk ∧ D.pages[p]? = some (.small h f) ∧ f.length ≤ 100 ∧
  ∀ v H' loc', Stp K H' s M loc' (fillFrom M D t p) → Ext H loc H' loc' → Q v H'
def spFreeBlock (K : Frg) : Sp := fun vs H Q _ => ∃ s M loc D D0 t z bv b wk, vs = [.ref s, .int (t : Nat), .int (z : Nat), bv] ∧ Stp K H s M loc D ∧ At M D0 t z wk ∧ D.pages = D0.pages ∧ D.wks = D0.wks ∧ D.fl = D0.fl ∧ (∃ h f, D.pages[b.1]? = some (.small h f)) ∧ Td K H bv (eB b) ∧
  ∀ v H' loc', Stp K H' s M loc' (freeBlock M D t z b).1 → Ext H loc H' loc' → Td K H' v (eEv (freeBlock M D t z b).2) → Q v H'
/-- what a step of thread t needs -/
structure CanStep (M : MC) (D : DS) (t : Nat) : Prop where
  fit : Fit M D
  st : ∃ wk ops z, D.wks[t]? = some wk ∧ M.thr[t]? = some (z, ops) ∧ wk.pc ≤ ops.length ∧ (wk.pc = ops.length → wk.cache = [] → ∃ j, firstBat (fun l => !l.isEmpty) wk = some j)
    ∧ (ops[wk.pc]? = some .drain → wk.ph ≠ .begin → wk.ph = .hand ∧ wk.hand ≠ [])
    ∧ (∀ s, ops[wk.pc]? = some (.free s) → wk.ph = .send → ∃ j, firstBat (fun l => decide (M.batch ≤ l.length)) wk = some j)
    ∧ (∀ s, ops[wk.pc]? = some (.free s) → wk.ph ≠ .send → D.sl s ≠ .non)
    ∧ (∀ s, ops[wk.pc]? = some (.adopt s) → D.sl s ≠ .non)
def spStep (K : Frg) : Sp := spEv K (fun M D t _ _ => CanStep M D t) (fun M D t _ _ => stepT M D t) a1
def spCarry (K : Frg) : Sp := spEv K (fun M D m _ _ => Fit M D ∧ m < D.fl.length) (fun M D m _ _ => carry D m) a1
def spSweep (K : Frg) : Sp := spEv K (fun M D z _ _ => Fit M D ∧ z < M.ns ∧ ∀ (i : Nat) b, (D.arr z)[i]? = some b → ∃ h f, (((D.arr z).take i).foldl (fun D b => (bring M D b z).1) (D.setArr z [])).pages[b.1]? = some (.small h f)) (fun M D z _ _ => sweep M D z) a1
def spWaiting (K : Frg) : Sp := fun vs H Q _ => ∃ s M loc D t wk ops z, vs = [.ref s, .int (t : Nat)] ∧ Stp K H s M loc D ∧ Fit M D ∧ D.wks[t]? = some wk ∧ M.thr[t]? = some (z, ops) ∧ wk.pc ≤ ops.length ∧ ∀ H', Ex H H' → Q (.bl (waiting M D t)) H'
/-- the draft is new -/
def spDraftI (K : Frg) : Sp := fun vs H Q _ => ∃ a dx st D, vs = [.ref a, .ref st] ∧ H a = some (.ins (He.ga K "Draft") dx []) ∧ StA K H st D ∧ (∀ M, Fit M D → True) ∧ D.pages.length ≤ 100 ∧ D.slots.length ≤ 100 ∧ D.wks.length ≤ 100 ∧ D.arrs.length ≤ 100 ∧ D.fl.length ≤ 100 ∧ (∀ l ∈ D.arrs, l.length ≤ 100) ∧ (∀ w ∈ D.wks, w.hand.length ≤ 100 ∧ w.cache.length ≤ 100 ∧ w.bats.length ≤ 100 ∧ ∀ l ∈ w.bats, l.length ≤ 100) ∧
  ∀ H' loc, (∀ b o, H b = some o → b ≠ a → H' b = some o) → Rep K H' loc D → loc .drf = a → (∀ r, loc r = a ∨ H (loc r) = none) → Q .non H'
def spFrozen (K : Frg) : Sp := fun vs H Q _ => ∃ loc D M, vs = [.ref (loc .drf)] ∧ Rep K H loc D ∧ Fit M D ∧ ∀ st H', Ex H H' → StA K H' st D → Q (.ref st) H'
def spStepperI (K : Frg) : Sp := fun vs H Q _ => ∃ a dx m d, vs = [.ref a, .ref m, .ref d] ∧ H a = some (.ins (He.ga K "Stepper") dx []) ∧ ∀ H', (∀ x o, H x = some o → x ≠ a → H' x = some o) → H' a = some (.ins (He.ga K "Stepper") dx [("owner", .ref m), ("draft", .ref d)]) → Q .non H'
def spStateI (K : Frg) : Sp := fun vs H Q _ => ∃ a dx p1 p2 p3 p4 p5, vs = [.ref a, p1, p2, p3, p4, p5] ∧ H a = some (.ins (He.ga K "State") dx []) ∧ ∀ H' p, (∀ x o, H x = some o → x ≠ a → H' x = some o) → H' a = some (.ins (He.ga K "State") dx [("parts", .ref p)]) → SqT K H' p [p1, p2, p3, p4, p5] → Q .non H'
end Rp
set_option Elab.async false
set_option linter.all false
set_option maxRecDepth 100000
set_option maxHeartbeats 4000000
set_option autoImplicit false
/-! Readings in short: fields, properties, items, calls. -/
namespace Rp
open PySem PySem.Spec PyProof.Rows L2 Mx Evl Hf
theorem lk_ne {a k : Str} {v : V} {r : List (Str × V)} (h : (a == k) = false) : List.lookup a ((k, v) :: r) = List.lookup a r := by
  show (match a == k with | true => some v | false => List.lookup a r) = _
  rw [h]
theorem lk_eq {a k : Str} {v : V} {r : List (Str × V)} (h : (a == k) = true) : List.lookup a ((k, v) :: r) = some v := by
  show (match a == k with | true => some v | false => List.lookup a r) = _
  rw [h]
theorem lk_Draft_own_pages {loc : Lc} : (fDr loc : List (Str × V)).lookup ("own_pages" : Str) = some (.ref (loc .pages)) := by
  unfold fDr
  rw [lk_eq (by decide +kernel)]
theorem lk_Draft_own_slots {loc : Lc} : (fDr loc : List (Str × V)).lookup ("own_slots" : Str) = some (.ref (loc .slots)) := by
  unfold fDr
  rw [lk_ne (by decide +kernel), lk_eq (by decide +kernel)]
theorem lk_Draft_workers {loc : Lc} : (fDr loc : List (Str × V)).lookup ("workers" : Str) = some (.ref (loc .wks)) := by
  unfold fDr
  rw [lk_ne (by decide +kernel), lk_ne (by decide +kernel), lk_eq (by decide +kernel)]
theorem lk_Draft_own_arrivals {loc : Lc} : (fDr loc : List (Str × V)).lookup ("own_arrivals" : Str) = some (.ref (loc .arrs)) := by
  unfold fDr
  rw [lk_ne (by decide +kernel), lk_ne (by decide +kernel), lk_ne (by decide +kernel), lk_eq (by decide +kernel)]
theorem lk_Draft_own_flight {loc : Lc} : (fDr loc : List (Str × V)).lookup ("own_flight" : Str) = some (.ref (loc .flight)) := by
  unfold fDr
  rw [lk_ne (by decide +kernel), lk_ne (by decide +kernel), lk_ne (by decide +kernel), lk_ne (by decide +kernel), lk_eq (by decide +kernel)]
theorem no_Draft_frozen {loc : Lc} : (fDr loc : List (Str × V)).lookup ("frozen" : Str) = none := by
  unfold fDr
  rw [lk_ne (by decide +kernel), lk_ne (by decide +kernel), lk_ne (by decide +kernel), lk_ne (by decide +kernel), lk_ne (by decide +kernel)] <;> rfl
theorem lk_Worker_status {w : Wk} {h c b : Addr} : (fWk w h c b : List (Str × V)).lookup ("status" : Str) = some (.str (rnS w.run)) := by
  unfold fWk
  rw [lk_eq (by decide +kernel)]
theorem lk_Worker_at {w : Wk} {h c b : Addr} : (fWk w h c b : List (Str × V)).lookup ("at" : Str) = some (.int w.pc) := by
  unfold fWk
  rw [lk_ne (by decide +kernel), lk_eq (by decide +kernel)]
theorem lk_Worker_phase {w : Wk} {h c b : Addr} : (fWk w h c b : List (Str × V)).lookup ("phase" : Str) = some (.str (phS w.ph)) := by
  unfold fWk
  rw [lk_ne (by decide +kernel), lk_ne (by decide +kernel), lk_eq (by decide +kernel)]
theorem lk_Worker_hand {w : Wk} {h c b : Addr} : (fWk w h c b : List (Str × V)).lookup ("hand" : Str) = some (.ref h) := by
  unfold fWk
  rw [lk_ne (by decide +kernel), lk_ne (by decide +kernel), lk_ne (by decide +kernel), lk_eq (by decide +kernel)]
theorem lk_Worker_caches {w : Wk} {h c b : Addr} : (fWk w h c b : List (Str × V)).lookup ("caches" : Str) = some (.ref c) := by
  unfold fWk
  rw [lk_ne (by decide +kernel), lk_ne (by decide +kernel), lk_ne (by decide +kernel), lk_ne (by decide +kernel), lk_eq (by decide +kernel)]
theorem lk_Worker_batches {w : Wk} {h c b : Addr} : (fWk w h c b : List (Str × V)).lookup ("batches" : Str) = some (.ref b) := by
  unfold fWk
  rw [lk_ne (by decide +kernel), lk_ne (by decide +kernel), lk_ne (by decide +kernel), lk_ne (by decide +kernel), lk_ne (by decide +kernel), lk_eq (by decide +kernel)]
theorem no_Worker_entry {w : Wk} {h c b : Addr} : (fWk w h c b : List (Str × V)).lookup ("entry" : Str) = none := by
  unfold fWk
  rw [lk_ne (by decide +kernel), lk_ne (by decide +kernel), lk_ne (by decide +kernel), lk_ne (by decide +kernel), lk_ne (by decide +kernel), lk_ne (by decide +kernel)] <;> rfl
theorem no_Worker_is_empty {w : Wk} {h c b : Addr} : (fWk w h c b : List (Str × V)).lookup ("is_empty" : Str) = none := by
  unfold fWk
  rw [lk_ne (by decide +kernel), lk_ne (by decide +kernel), lk_ne (by decide +kernel), lk_ne (by decide +kernel), lk_ne (by decide +kernel), lk_ne (by decide +kernel)] <;> rfl
theorem lk_Stepper_owner {m d : Addr} : ([("owner", V.ref m), ("draft", V.ref d)] : List (Str × V)).lookup ("owner" : Str) = some (.ref m) := by
  rw [lk_eq (by decide +kernel)]
theorem lk_Stepper_draft {m d : Addr} : ([("owner", V.ref m), ("draft", V.ref d)] : List (Str × V)).lookup ("draft" : Str) = some (.ref d) := by
  rw [lk_ne (by decide +kernel), lk_eq (by decide +kernel)]
theorem no_Stepper_is_small {m d : Addr} : ([("owner", V.ref m), ("draft", V.ref d)] : List (Str × V)).lookup ("is_small" : Str) = none := by
  rw [lk_ne (by decide +kernel), lk_ne (by decide +kernel)] <;> rfl
theorem no_Stepper_home_of {m d : Addr} : ([("owner", V.ref m), ("draft", V.ref d)] : List (Str × V)).lookup ("home_of" : Str) = none := by
  rw [lk_ne (by decide +kernel), lk_ne (by decide +kernel)] <;> rfl
theorem no_Stepper_spare_pages {m d : Addr} : ([("owner", V.ref m), ("draft", V.ref d)] : List (Str × V)).lookup ("spare_pages" : Str) = none := by
  rw [lk_ne (by decide +kernel), lk_ne (by decide +kernel)] <;> rfl
theorem no_Stepper_put_home {m d : Addr} : ([("owner", V.ref m), ("draft", V.ref d)] : List (Str × V)).lookup ("put_home" : Str) = none := by
  rw [lk_ne (by decide +kernel), lk_ne (by decide +kernel)] <;> rfl
theorem no_Stepper_bring {m d : Addr} : ([("owner", V.ref m), ("draft", V.ref d)] : List (Str × V)).lookup ("bring" : Str) = none := by
  rw [lk_ne (by decide +kernel), lk_ne (by decide +kernel)] <;> rfl
theorem no_Stepper_lists_with_blocks {m d : Addr} : ([("owner", V.ref m), ("draft", V.ref d)] : List (Str × V)).lookup ("lists_with_blocks" : Str) = none := by
  rw [lk_ne (by decide +kernel), lk_ne (by decide +kernel)] <;> rfl
theorem no_Stepper_page_to_open {m d : Addr} : ([("owner", V.ref m), ("draft", V.ref d)] : List (Str × V)).lookup ("page_to_open" : Str) = none := by
  rw [lk_ne (by decide +kernel), lk_ne (by decide +kernel)] <;> rfl
theorem no_Stepper_advance {m d : Addr} : ([("owner", V.ref m), ("draft", V.ref d)] : List (Str × V)).lookup ("advance" : Str) = none := by
  rw [lk_ne (by decide +kernel), lk_ne (by decide +kernel)] <;> rfl
theorem no_Stepper_look_for_end {m d : Addr} : ([("owner", V.ref m), ("draft", V.ref d)] : List (Str × V)).lookup ("look_for_end" : Str) = none := by
  rw [lk_ne (by decide +kernel), lk_ne (by decide +kernel)] <;> rfl
theorem no_Stepper_is_waiting {m d : Addr} : ([("owner", V.ref m), ("draft", V.ref d)] : List (Str × V)).lookup ("is_waiting" : Str) = none := by
  rw [lk_ne (by decide +kernel), lk_ne (by decide +kernel)] <;> rfl
theorem no_Stepper_step {m d : Addr} : ([("owner", V.ref m), ("draft", V.ref d)] : List (Str × V)).lookup ("step" : Str) = none := by
  rw [lk_ne (by decide +kernel), lk_ne (by decide +kernel)] <;> rfl
theorem no_Stepper_flush {m d : Addr} : ([("owner", V.ref m), ("draft", V.ref d)] : List (Str × V)).lookup ("flush" : Str) = none := by
  rw [lk_ne (by decide +kernel), lk_ne (by decide +kernel)] <;> rfl
theorem no_Stepper_flush_batch {m d : Addr} : ([("owner", V.ref m), ("draft", V.ref d)] : List (Str × V)).lookup ("flush_batch" : Str) = none := by
  rw [lk_ne (by decide +kernel), lk_ne (by decide +kernel)] <;> rfl
theorem no_Stepper_take {m d : Addr} : ([("owner", V.ref m), ("draft", V.ref d)] : List (Str × V)).lookup ("take" : Str) = none := by
  rw [lk_ne (by decide +kernel), lk_ne (by decide +kernel)] <;> rfl
theorem no_Stepper_drain {m d : Addr} : ([("owner", V.ref m), ("draft", V.ref d)] : List (Str × V)).lookup ("drain" : Str) = none := by
  rw [lk_ne (by decide +kernel), lk_ne (by decide +kernel)] <;> rfl
theorem no_Stepper_allocate {m d : Addr} : ([("owner", V.ref m), ("draft", V.ref d)] : List (Str × V)).lookup ("allocate" : Str) = none := by
  rw [lk_ne (by decide +kernel), lk_ne (by decide +kernel)] <;> rfl
theorem no_Stepper_fill {m d : Addr} : ([("owner", V.ref m), ("draft", V.ref d)] : List (Str × V)).lookup ("fill" : Str) = none := by
  rw [lk_ne (by decide +kernel), lk_ne (by decide +kernel)] <;> rfl
theorem no_Stepper_open_page {m d : Addr} : ([("owner", V.ref m), ("draft", V.ref d)] : List (Str × V)).lookup ("open_page" : Str) = none := by
  rw [lk_ne (by decide +kernel), lk_ne (by decide +kernel)] <;> rfl
theorem no_Stepper_fill_from {m d : Addr} : ([("owner", V.ref m), ("draft", V.ref d)] : List (Str × V)).lookup ("fill_from" : Str) = none := by
  rw [lk_ne (by decide +kernel), lk_ne (by decide +kernel)] <;> rfl
theorem no_Stepper_free {m d : Addr} : ([("owner", V.ref m), ("draft", V.ref d)] : List (Str × V)).lookup ("free" : Str) = none := by
  rw [lk_ne (by decide +kernel), lk_ne (by decide +kernel)] <;> rfl
theorem no_Stepper_free_block {m d : Addr} : ([("owner", V.ref m), ("draft", V.ref d)] : List (Str × V)).lookup ("free_block" : Str) = none := by
  rw [lk_ne (by decide +kernel), lk_ne (by decide +kernel)] <;> rfl
theorem no_Stepper_send {m d : Addr} : ([("owner", V.ref m), ("draft", V.ref d)] : List (Str × V)).lookup ("send" : Str) = none := by
  rw [lk_ne (by decide +kernel), lk_ne (by decide +kernel)] <;> rfl
theorem no_Stepper_adopt {m d : Addr} : ([("owner", V.ref m), ("draft", V.ref d)] : List (Str × V)).lookup ("adopt" : Str) = none := by
  rw [lk_ne (by decide +kernel), lk_ne (by decide +kernel)] <;> rfl
theorem no_Stepper_carry {m d : Addr} : ([("owner", V.ref m), ("draft", V.ref d)] : List (Str × V)).lookup ("carry" : Str) = none := by
  rw [lk_ne (by decide +kernel), lk_ne (by decide +kernel)] <;> rfl
theorem no_Stepper_sweep {m d : Addr} : ([("owner", V.ref m), ("draft", V.ref d)] : List (Str × V)).lookup ("sweep" : Str) = none := by
  rw [lk_ne (by decide +kernel), lk_ne (by decide +kernel)] <;> rfl
theorem lk_Machine_settings {m : Addr} : ([("settings", V.ref m)] : List (Str × V)).lookup ("settings" : Str) = some (.ref m) := by
  rw [lk_eq (by decide +kernel)]
theorem no_Machine_moves {m : Addr} : ([("settings", V.ref m)] : List (Str × V)).lookup ("moves" : Str) = none := by
  rw [lk_ne (by decide +kernel)] <;> rfl
theorem no_Machine_is_served {m : Addr} : ([("settings", V.ref m)] : List (Str × V)).lookup ("is_served" : Str) = none := by
  rw [lk_ne (by decide +kernel)] <;> rfl
theorem no_Machine_step {m : Addr} : ([("settings", V.ref m)] : List (Str × V)).lookup ("step" : Str) = none := by
  rw [lk_ne (by decide +kernel)] <;> rfl
theorem no_Machine_run {m : Addr} : ([("settings", V.ref m)] : List (Str × V)).lookup ("run" : Str) = none := by
  rw [lk_ne (by decide +kernel)] <;> rfl
theorem lk_State_parts {m : Addr} : ([("parts", V.ref m)] : List (Str × V)).lookup ("parts" : Str) = some (.ref m) := by
  rw [lk_eq (by decide +kernel)]
theorem putF_ne {f k : Str} {v u : V} {r : List (Str × V)} (h : ¬ k = f) : putF f v ((k, u) :: r) = (k, u) :: putF f v r := by
  show (if k = f then (k, v) :: r else (k, u) :: putF f v r) = _
  rw [if_neg h]
theorem putF_eq {f : Str} {v u : V} {r : List (Str × V)} : putF f v ((f, u) :: r) = (f, v) :: r := by
  show (if f = f then (f, v) :: r else (f, u) :: putF f v r) = _
  rw [if_pos rfl]
theorem put_status {w : Wk} {h c b2 : Addr} (b : Bool) : putF "status" (.str (rnS b)) (fWk w h c b2) = fWk { w with run := b } h c b2 := by
  unfold fWk
  rw [putF_eq]
theorem put_at {w : Wk} {h c b2 : Addr} (n : Nat) : putF "at" (.int (n : Nat)) (fWk w h c b2) = fWk { w with pc := n } h c b2 := by
  unfold fWk
  rw [putF_ne (by decide +kernel), putF_eq]
theorem put_phase {w : Wk} {h c b2 : Addr} (p : Ph) : putF "phase" (.str (phS p)) (fWk w h c b2) = fWk { w with ph := p } h c b2 := by
  unfold fWk
  rw [putF_ne (by decide +kernel), putF_ne (by decide +kernel), putF_eq]
theorem put_hand {w : Wk} {h h2 c b2 : Addr} : putF "hand" (.ref h2) (fWk w h c b2) = fWk w h2 c b2 := by
  unfold fWk
  rw [putF_ne (by decide +kernel), putF_ne (by decide +kernel), putF_ne (by decide +kernel), putF_eq]
section
variable {K : Frg} {mg : Str → Option Value} {w : World} {σ : L2.St} {H : Hp} {ta tb tc te : TE} {s m : Addr} {M : MC} {loc : Lc} {D : DS} {t : Nat} {wk : Wk}
theorem ev_fld {a C dx : Addr} {fs : List (Str × V)} {f : Str} {v : V} (h : Ev ta σ H (.ref a)) (ho : H a = some (.ins C dx fs)) (c : Cls K C) (n : NoAttr K C f) (l : fs.lookup f = some v) : Ev (tFld K ta f) σ H v := fun H1 e Q q =>
  h H1 e _ fun H2 e2 => ⟨a, C, dx, fs, v, rfl, e2 _ _ (e _ _ ho), c, n, l, q H2 e2⟩
theorem ev_ixL {a : Addr} {xs : List V} {j : Nat} {v : V} (h : Ev ta σ H (.ref a)) (hs : SqL K H a xs) (hi : Ev tb σ H (.int (j : Nat))) (hv : xs[j]? = some v) : Ev (tOp (rIxL K) ta tb) σ H v := ev_op h hi (rv_ixL hs (atI_nat hv))
theorem edL_ix {a : Addr} {xs : List V} {ds : List PyData} {j : Nat} {d : PyData} (h : Ev ta σ H (.ref a)) (hs : SqL K H a xs) (hx : TdL K H xs ds) (hi : Ev tb σ H (.int (j : Nat))) (hd : ds[j]? = some d) : EvD K (tOp (rIxL K) ta tb) σ H d := by
  obtain ⟨v, hv, tv⟩ := hx.get hd
  exact EvD.of (ev_ixL h hs hi hv) tv
/-! the stepper's parts -/
theorem ev_draft (T : Txt K mg w) (S : Stp K H s M loc D) (h : Ev ta σ H (.ref s)) : Ev (tFld K ta "draft") σ H (.ref (loc .drf)) := by
  obtain ⟨m, dx, h1, _⟩ := S.own
  exact ev_fld h h1 T.cls_Stepper T.noat_Stepper_draft lk_Stepper_draft
theorem ev_pages (T : Txt K mg w) (S : Stp K H s M loc D) (h : Ev ta σ H (.ref s)) : Ev (tFld K (tFld K ta "draft") "own_pages") σ H (.ref (loc .pages)) := by
  obtain ⟨dx, h1⟩ := S.rep.atDrf
  exact ev_fld (ev_draft T S h) h1 T.cls_Draft T.noat_Draft_own_pages lk_Draft_own_pages
theorem ev_slots (T : Txt K mg w) (S : Stp K H s M loc D) (h : Ev ta σ H (.ref s)) : Ev (tFld K (tFld K ta "draft") "own_slots") σ H (.ref (loc .slots)) := by
  obtain ⟨dx, h1⟩ := S.rep.atDrf
  exact ev_fld (ev_draft T S h) h1 T.cls_Draft T.noat_Draft_own_slots lk_Draft_own_slots
theorem ev_wks (T : Txt K mg w) (S : Stp K H s M loc D) (h : Ev ta σ H (.ref s)) : Ev (tFld K (tFld K ta "draft") "workers") σ H (.ref (loc .wks)) := by
  obtain ⟨dx, h1⟩ := S.rep.atDrf
  exact ev_fld (ev_draft T S h) h1 T.cls_Draft T.noat_Draft_workers lk_Draft_workers
theorem ev_arrs (T : Txt K mg w) (S : Stp K H s M loc D) (h : Ev ta σ H (.ref s)) : Ev (tFld K (tFld K ta "draft") "own_arrivals") σ H (.ref (loc .arrs)) := by
  obtain ⟨dx, h1⟩ := S.rep.atDrf
  exact ev_fld (ev_draft T S h) h1 T.cls_Draft T.noat_Draft_own_arrivals lk_Draft_own_arrivals
theorem ev_flight (T : Txt K mg w) (S : Stp K H s M loc D) (h : Ev ta σ H (.ref s)) : Ev (tFld K (tFld K ta "draft") "own_flight") σ H (.ref (loc .flight)) := by
  obtain ⟨dx, h1⟩ := S.rep.atDrf
  exact ev_fld (ev_draft T S h) h1 T.cls_Draft T.noat_Draft_own_flight lk_Draft_own_flight
theorem range_at {α : Type} {n j : Nat} {f : Nat → α} (h : j < n) : ((List.range n).map f)[j]? = some (f j) := by
  rw [List.getElem?_map, List.getElem?_range h] <;> rfl
theorem ev_worker (T : Txt K mg w) (S : Stp K H s M loc D) (h : Ev ta σ H (.ref s)) (hi : Ev tb σ H (.int (t : Nat))) (hw : D.wks[t]? = some wk) : Ev (tOp (rIxL K) (tFld K (tFld K ta "draft") "workers") tb) σ H (.ref (loc (.wk t))) :=
  ev_ixL (ev_wks T S h) (SqL.of S.rep.atWks) hi (by rw [List.getElem?_map, range_at (List.getElem?_eq_some_iff.mp hw).1] <;> rfl)
theorem ed_page (T : Txt K mg w) (S : Stp K H s M loc D) {p : Nat} {x : Pg} (h : Ev ta σ H (.ref s)) (hi : Ev tb σ H (.int (p : Nat))) (hp : D.pages[p]? = some x) : EvD K (tOp (rIxL K) (tFld K (tFld K ta "draft") "own_pages") tb) σ H (ePg x) := by
  obtain ⟨xs, h1, h2⟩ := S.rep.atPages
  exact edL_ix (ev_pages T S h) (SqL.of h1) h2 hi (by rw [List.getElem?_map, hp] <;> rfl)
theorem ed_slot (T : Txt K mg w) (S : Stp K H s M loc D) {p : Nat} {x : Sl} (h : Ev ta σ H (.ref s)) (hi : Ev tb σ H (.int (p : Nat))) (hp : D.slots[p]? = some x) : EvD K (tOp (rIxL K) (tFld K (tFld K ta "draft") "own_slots") tb) σ H (eSl x) := by
  obtain ⟨xs, h1, h2⟩ := S.rep.atSlots
  exact edL_ix (ev_slots T S h) (SqL.of h1) h2 hi (by rw [List.getElem?_map, hp] <;> rfl)
theorem ev_arr (T : Txt K mg w) (S : Stp K H s M loc D) {z : Nat} (h : Ev ta σ H (.ref s)) (hi : Ev tb σ H (.int (z : Nat))) (hz : z < D.arrs.length) : Ev (tOp (rIxL K) (tFld K (tFld K ta "draft") "own_arrivals") tb) σ H (.ref (loc (.arr z))) :=
  ev_ixL (ev_arrs T S h) (SqL.of S.rep.atArrs) hi (by rw [List.getElem?_map, range_at hz] <;> rfl)
/-! a worker's parts -/
theorem Rep.atWk (R : Rep K H loc D) (hw : D.wks[t]? = some wk) : ∃ dx, H (loc (.wk t)) = some (.ins (He.ga K "Worker") dx (fWk wk (loc (.hand t)) (loc (.caches t)) (loc (.bats t)))) := R.sat _ _ (want_wk hw)
theorem Rep.atHand (R : Rep K H loc D) (hw : D.wks[t]? = some wk) : ∃ xs, H (loc (.hand t)) = some (.lst xs) ∧ TdL K H xs (wk.hand.map eB) := R.sat _ _ (want_hand hw)
theorem Rep.atCaches (R : Rep K H loc D) (hw : D.wks[t]? = some wk) : H (loc (.caches t)) = some (.lst [.ref (loc (.cache t))]) := R.sat _ _ (want_caches hw)
theorem Rep.atCache (R : Rep K H loc D) (hw : D.wks[t]? = some wk) : ∃ xs, H (loc (.cache t)) = some (.lst xs) ∧ TdL K H xs (wk.cache.map eB) := R.sat _ _ (want_cache hw)
theorem Rep.atBats (R : Rep K H loc D) (hw : D.wks[t]? = some wk) : H (loc (.bats t)) = some (.lst (((List.range wk.bats.length).map fun j => loc (.row t j)).map V.ref)) := R.sat _ _ (want_bats hw)
theorem Rep.atRow (R : Rep K H loc D) (hw : D.wks[t]? = some wk) {j : Nat} {l : List Blk} (hj : wk.bats[j]? = some l) : H (loc (.row t j)) = some (.lst [.ref (loc (.bat t j))]) := R.sat _ _ (want_row hw hj)
theorem Rep.atBat (R : Rep K H loc D) (hw : D.wks[t]? = some wk) {j : Nat} {l : List Blk} (hj : wk.bats[j]? = some l) : ∃ xs, H (loc (.bat t j)) = some (.lst xs) ∧ TdL K H xs (l.map eB) := R.sat _ _ (want_bat hw hj)
theorem Rep.atArr (R : Rep K H loc D) {j : Nat} {l : List Blk} (hj : D.arrs[j]? = some l) : ∃ xs, H (loc (.arr j)) = some (.lst xs) ∧ TdL K H xs (l.map eB) := R.sat _ _ (want_arr hj)
theorem ev_status (T : Txt K mg w) (R : Rep K H loc D) (hw : D.wks[t]? = some wk) (h : Ev ta σ H (.ref (loc (.wk t)))) : Ev (tFld K ta "status") σ H (.str (rnS wk.run)) := by
  obtain ⟨dx, h1⟩ := R.atWk hw
  exact ev_fld h h1 T.cls_Worker T.noat_Worker_status lk_Worker_status
theorem ev_at (T : Txt K mg w) (R : Rep K H loc D) (hw : D.wks[t]? = some wk) (h : Ev ta σ H (.ref (loc (.wk t)))) : Ev (tFld K ta "at") σ H (.int wk.pc) := by
  obtain ⟨dx, h1⟩ := R.atWk hw
  exact ev_fld h h1 T.cls_Worker T.noat_Worker_at lk_Worker_at
theorem ev_phase (T : Txt K mg w) (R : Rep K H loc D) (hw : D.wks[t]? = some wk) (h : Ev ta σ H (.ref (loc (.wk t)))) : Ev (tFld K ta "phase") σ H (.str (phS wk.ph)) := by
  obtain ⟨dx, h1⟩ := R.atWk hw
  exact ev_fld h h1 T.cls_Worker T.noat_Worker_phase lk_Worker_phase
theorem ev_hand (T : Txt K mg w) (R : Rep K H loc D) (hw : D.wks[t]? = some wk) (h : Ev ta σ H (.ref (loc (.wk t)))) : Ev (tFld K ta "hand") σ H (.ref (loc (.hand t))) := by
  obtain ⟨dx, h1⟩ := R.atWk hw
  exact ev_fld h h1 T.cls_Worker T.noat_Worker_hand lk_Worker_hand
theorem ev_caches (T : Txt K mg w) (R : Rep K H loc D) (hw : D.wks[t]? = some wk) (h : Ev ta σ H (.ref (loc (.wk t)))) : Ev (tFld K ta "caches") σ H (.ref (loc (.caches t))) := by
  obtain ⟨dx, h1⟩ := R.atWk hw
  exact ev_fld h h1 T.cls_Worker T.noat_Worker_caches lk_Worker_caches
theorem ev_batches (T : Txt K mg w) (R : Rep K H loc D) (hw : D.wks[t]? = some wk) (h : Ev ta σ H (.ref (loc (.wk t)))) : Ev (tFld K ta "batches") σ H (.ref (loc (.bats t))) := by
  obtain ⟨dx, h1⟩ := R.atWk hw
  exact ev_fld h h1 T.cls_Worker T.noat_Worker_batches lk_Worker_batches
theorem ev_cache (T : Txt K mg w) (R : Rep K H loc D) (hw : D.wks[t]? = some wk) (h : Ev ta σ H (.ref (loc (.wk t)))) (hi : Ev tb σ H (.int 0)) : Ev (tOp (rIxL K) (tFld K ta "caches") tb) σ H (.ref (loc (.cache t))) :=
  ev_ixL (j := 0) (ev_caches T R hw h) (SqL.of (R.atCaches hw)) hi rfl
theorem ev_row (T : Txt K mg w) (R : Rep K H loc D) (hw : D.wks[t]? = some wk) {j : Nat} (hj : j < wk.bats.length) (h : Ev ta σ H (.ref (loc (.wk t)))) (hi : Ev tb σ H (.int (j : Nat))) : Ev (tOp (rIxL K) (tFld K ta "batches") tb) σ H (.ref (loc (.row t j))) :=
  ev_ixL (ev_batches T R hw h) (SqL.of (R.atBats hw)) hi (by rw [List.getElem?_map, range_at hj] <;> rfl)
theorem ev_bat (T : Txt K mg w) (R : Rep K H loc D) (hw : D.wks[t]? = some wk) {j : Nat} {l : List Blk} (hj : wk.bats[j]? = some l) (h : Ev ta σ H (.ref (loc (.wk t)))) (hi : Ev tb σ H (.int (j : Nat))) (hk : Ev tc σ H (.int 0)) : Ev (tOp (rIxL K) (tOp (rIxL K) (tFld K ta "batches") tb) tc) σ H (.ref (loc (.bat t j))) :=
  ev_ixL (j := 0) (ev_row T R hw (List.getElem?_eq_some_iff.mp hj).1 h hi) (SqL.of (R.atRow hw hj)) hk rfl
/-! the machine's settings -/
theorem Stp.mac (S : Stp K H s M loc D) : ∃ m, Mac K H m M ∧ ∀ (ta : TE) (σ : L2.St) (mg : Str → Option Value) (w : World), Txt K mg w → Ev ta σ H (.ref s) → Ev (tFld K ta "owner") σ H (.ref m) := by
  obtain ⟨m, dx, h1, h2, _⟩ := S.own
  exact ⟨m, h2, fun ta σ mg w T h => ev_fld h h1 T.cls_Stepper T.noat_Stepper_owner lk_Stepper_owner⟩
def lMC (M : MC) : List PyData := [eN M.ns, .tuple [eN M.size], .tuple (M.thr.map eTh), eN 4, eN M.batch, eN 0, eN M.nsl, eN 0, .none]
theorem ed_set {i : Nat} {d : PyData} (hm : Mac K H m M) (h : Ev ta σ H (.ref m)) (hd : (lMC M)[i]? = some d) : EvD K (tProp (He.ga K "Machine") (spSet K i) [] E0 ta) σ H d := fun H1 e Q q =>
  h H1 e _ fun H2 e2 => by
    obtain ⟨dx, p, h1, h2⟩ := hm.ex (e.trans e2)
    obtain ⟨a, xs, ea, hs, ts⟩ := h2.tup_inv
    obtain rfl : p = a := V.ref.inj ea
    obtain ⟨v, hv, tv⟩ := ts.get (show (lMC M)[i]? = some d from hd)
    exact ⟨m, dx, _, rfl, h1, m, dx, p, xs, v, rfl, h1, hs, hv, q v H2 e2 tv⟩
theorem ed_owner {i : Nat} {d : PyData} (T : Txt K mg w) (S : Stp K H s M loc D) (h : Ev ta σ H (.ref s)) (hd : (lMC M)[i]? = some d) : EvD K (tProp (He.ga K "Machine") (spSet K i) [] E0 (tFld K ta "owner")) σ H d := by
  obtain ⟨m, hm, he⟩ := S.mac
  exact ed_set hm (he ta σ mg w T h) hd
def lDS (D : DS) : List PyData := [.tuple (D.pages.map ePg), .tuple (D.slots.map eSl), .tuple (D.wks.map eWk), .tuple (D.arrs.map eBs), .tuple (D.fl.map eMs)]
theorem ed_part {i : Nat} {d : PyData} (hm : StA K H m D) (h : Ev ta σ H (.ref m)) (hd : (lDS D)[i]? = some d) : EvD K (tProp (He.ga K "State") (spPart K i) [] E0 ta) σ H d := fun H1 e Q q =>
  h H1 e _ fun H2 e2 => by
    obtain ⟨dx, p, h1, h2⟩ := hm.ex (e.trans e2)
    obtain ⟨a, xs, ea, hs, ts⟩ := h2.tup_inv
    obtain rfl : p = a := V.ref.inj ea
    obtain ⟨v, hv, tv⟩ := ts.get (show (lDS D)[i]? = some d from hd)
    exact ⟨m, dx, _, rfl, h1, m, dx, p, xs, v, rfl, h1, hs, hv, q v H2 e2 tv⟩
/-! statements -/
variable {E : Ends} {tz : TS} {C dx : Addr} {fs : List (Str × V)} {f : Str}
theorem ixN_of {n j : Nat} (h : j < n) : ixN n (j : Int) = some j := Evl.ixN_nat h
/-- x = e, e such data -/
theorem s_asgD {i : Nat} {d : PyData} (h : EvD K te σ H d) (k : ∀ v H1, Ex H H1 → Td K H1 v d → E.nx (σ.set i (some v)) H1) : tAsg te (gName i) E σ H := h H (Ex.refl H) _ fun v H1 e t => k v H1 e t
theorem q_asgD {i : Nat} {d : PyData} (h : EvD K te σ H d) (k : ∀ v H1, Ex H H1 → Td K H1 v d → tz E (σ.set i (some v)) H1) : tSeq (tAsg te (gName i)) tz E σ H := s_asgD (E := { E with nx := tz E }) h k
/-- targets = e, e a tuple of data -/
theorem s_asgTup {n : Nat} {g : TGs} {ds : List PyData} (h : EvD K te σ H (.tuple ds)) (hn : ds.length = n) (k : ∀ xs H1, Ex H H1 → TdL K H1 xs ds → g xs σ H1 E.nx) : tAsg te (gTup K n g) E σ H := h H (Ex.refl H) _ fun v H1 e t => by
  obtain ⟨a, xs, rfl, hs, ts⟩ := t.tup_inv
  exact ⟨a, xs, rfl, hs, by rw [ts.length, hn], k xs H1 e ts⟩
theorem q_asgTup {n : Nat} {g : TGs} {ds : List PyData} (h : EvD K te σ H (.tuple ds)) (hn : ds.length = n) (k : ∀ xs H1, Ex H H1 → TdL K H1 xs ds → g xs σ H1 (tz E)) : tSeq (tAsg te (gTup K n g)) tz E σ H := s_asgTup (E := { E with nx := tz E }) h hn k
theorem s_retD {d : PyData} (h : EvD K te σ H d) (k : ∀ v H1, Ex H H1 → Td K H1 v d → E.rt v H1) : tRet te E σ H := h H (Ex.refl H) _ fun v H1 e t => k v H1 e t
/-- o.f = e -/
theorem s_fld {a : Addr} {v : V} (hv : Ev tb σ H v) (ho : Ev ta σ H (.ref a)) (h : H a = some (.ins C dx fs)) (c : Cls K C) (n : NoAttr K C f) (hl : fs.length < 1000) (k : ∀ H1, Ex H H1 → E.nx σ (upd H1 a (.ins C dx (putF f v fs)))) : sFld K ta tb f E σ H :=
  hv H (Ex.refl H) _ fun H1 e1 => ho H1 e1 _ fun H2 e2 => ⟨a, C, dx, fs, rfl, e2 _ _ (e1 _ _ h), c, n, hl, k H2 (e1.trans e2)⟩
theorem q_fld {a : Addr} {v : V} (hv : Ev tb σ H v) (ho : Ev ta σ H (.ref a)) (h : H a = some (.ins C dx fs)) (c : Cls K C) (n : NoAttr K C f) (hl : fs.length < 1000) (k : ∀ H1, Ex H H1 → tz E σ (upd H1 a (.ins C dx (putF f v fs)))) : tSeq (sFld K ta tb f) tz E σ H := s_fld (E := { E with nx := tz E }) hv ho h c n hl k
/-- o[i] = e, o a list, e data -/
theorem s_setD {a : Addr} {xs : List V} {j : Nat} {d : PyData} (hv : EvD K te σ H d) (ho : Ev ta σ H (.ref a)) (hi : Ev tb σ H (.int (j : Nat))) (h : H a = some (.lst xs)) (hj : j < xs.length) (k : ∀ v H1, Ex H H1 → Td K H1 v d → E.nx σ (upd H1 a (.lst (xs.set j v)))) : tAsg te (gSub ta tb rSetL) E σ H :=
  hv H (Ex.refl H) _ fun v H1 e1 t => ho H1 e1 _ fun H2 e2 => hi H2 (e1.trans e2) _ fun H3 e3 =>
    ⟨a, xs, (j : Int), j, rfl, rfl, e3 _ _ (e2 _ _ (e1 _ _ h)), Evl.ixN_nat hj, k v H3 ((e1.trans e2).trans e3) (t.ex (e2.trans e3))⟩
theorem q_setD {a : Addr} {xs : List V} {j : Nat} {d : PyData} (hv : EvD K te σ H d) (ho : Ev ta σ H (.ref a)) (hi : Ev tb σ H (.int (j : Nat))) (h : H a = some (.lst xs)) (hj : j < xs.length) (k : ∀ v H1, Ex H H1 → Td K H1 v d → tz E σ (upd H1 a (.lst (xs.set j v)))) : tSeq (tAsg te (gSub ta tb rSetL)) tz E σ H := s_setD (E := { E with nx := tz E }) hv ho hi h hj k
/-- xs.append(e), e data -/
theorem s_appD {a : Addr} {xs : List V} {d : PyData} (ho : Ev ta σ H (.ref a)) (hv : EvD K te σ H d) (h : H a = some (.lst xs)) (hz : xs.length < 100000) (k : ∀ v H1, Ex H H1 → Td K H1 v d → E.nx σ (upd H1 a (.lst (xs ++ [v])))) : tDrop (tBM K "list" rAppend ta (tCons te tNil)) E σ H :=
  ho H (Ex.refl H) _ fun H1 e1 => ⟨Or.inl ⟨rfl, xs, sq_of (e1 a _ h)⟩, hv H1 e1 _ fun v H2 e2 t => ⟨a, xs, v, rfl, rfl, e2 a _ (e1 a _ h), sz_lt hz, k v H2 (e1.trans e2) t⟩⟩
theorem q_appD {a : Addr} {xs : List V} {d : PyData} (ho : Ev ta σ H (.ref a)) (hv : EvD K te σ H d) (h : H a = some (.lst xs)) (hz : xs.length < 100000) (k : ∀ v H1, Ex H H1 → Td K H1 v d → tz E σ (upd H1 a (.lst (xs ++ [v])))) : tSeq (tDrop (tBM K "list" rAppend ta (tCons te tNil))) tz E σ H := s_appD (E := { E with nx := tz E }) ho hv h hz k
/-- a method's call -/
theorem e_meth {Q : VK} {sp : Sp} {me : Str} {tr : TA} {ds : List PyData} (ho : Ev ta σ H (.ref s)) (h : H s = some (.ins C dx fs)) (hl : fs.lookup me = none) (ha : EvDL K tr σ H ds) (k : ∀ vs H1, Ex H H1 → TdL K H1 vs ds → sp (.ref s :: (vs ++ [])) H1 Q E0) : tMeth C me sp [] E0 ta tr σ H Q :=
  ho H (Ex.refl H) _ fun H1 e1 => ⟨s, dx, fs, rfl, e1 _ _ h, hl, ha H1 e1 _ fun vs H2 e2 t => k vs H2 (e1.trans e2) t⟩
theorem s_dropM {te : TE} (h : te σ H fun _ H1 => E.nx σ H1) : tDrop te E σ H := h
theorem e_drop {te : TE} (h : te σ H fun _ H1 => tz E σ H1) : tSeq (tDrop te) tz E σ H := h
theorem e_asg {te : TE} {i : Nat} (h : te σ H fun v H1 => tz E (σ.set i (some v)) H1) : tSeq (tAsg te (gName i)) tz E σ H := h
theorem Stp.atS (S : Stp K H s M loc D) : ∃ m dx, H s = some (.ins (He.ga K "Stepper") dx [("owner", .ref m), ("draft", .ref (loc .drf))]) := by
  obtain ⟨m, dx, h1, _⟩ := S.own
  exact ⟨m, dx, h1⟩
theorem wk_at (hw : D.wks[t]? = some wk) : t < D.wks.length := (List.getElem?_eq_some_iff.mp hw).1
end
/-! small data may be compared -/
def Sm (n : Nat) (d : PyData) : Prop := PyData.canLay0 d = true ∧ d.depth ≤ n
def SmL (n : Nat) (ds : List PyData) : Prop := PyData.canLayAll0 ds = true ∧ PyData.depthAll ds ≤ n
theorem Sm.shp {n : Nat} {d : PyData} (h : Sm n d) (hn : n ≤ 64 := by decide) : shp d := by
  show (PyData.canLay0 d && decide (d.depth ≤ 64)) = true
  rw [h.1, decide_eq_true (Nat.le_trans h.2 hn)]
  rfl
theorem Sm.mono {n m : Nat} {d : PyData} (h : Sm n d) (hn : n ≤ m) : Sm m d := ⟨h.1, Nat.le_trans h.2 hn⟩
theorem sm_int (n : Nat) (i : Int) : Sm n (.int i) := ⟨by simp only [PyData.canLay0], by simp only [PyData.depth]; omega⟩
theorem sm_n (n : Nat) (i : Nat) : Sm n (eN i) := sm_int n i
theorem sm_non (n : Nat) : Sm n .none := ⟨by simp only [PyData.canLay0], by simp only [PyData.depth]; omega⟩
theorem sm_str (n : Nat) {x : Str} (h : PyData.canLay0 (.str x) = true) : Sm n (.str x) := ⟨h, by simp only [PyData.depth]; omega⟩
theorem sml_nil (n : Nat) : SmL n [] := ⟨by simp only [PyData.canLayAll0], by simp only [PyData.depthAll]; omega⟩
theorem sml_cons {n : Nat} {d : PyData} {ds : List PyData} (h : Sm n d) (t : SmL n ds) : SmL n (d :: ds) := ⟨by simp only [PyData.canLayAll0]; rw [h.1, t.1]; rfl, by
  have a := h.2
  have b := t.2
  simp only [PyData.depthAll]
  omega⟩
theorem sm_tup {n : Nat} {ds : List PyData} (h : SmL n ds) : Sm (n + 1) (.tuple ds) := ⟨by simp only [PyData.canLay0]; exact h.1, by
  have b := h.2
  simp only [PyData.depth]
  omega⟩
theorem sm_lst {n : Nat} {ds : List PyData} (h : SmL n ds) : Sm (n + 1) (.list ds) := ⟨by simp only [PyData.canLay0]; exact h.1, by
  have b := h.2
  simp only [PyData.depth]
  omega⟩
theorem sml_map {α : Type} {n : Nat} {f : α → PyData} (h : ∀ x, Sm n (f x)) : ∀ l : List α, SmL n (l.map f)
  | [] => sml_nil n
  | x :: l => sml_cons (h x) (sml_map h l)
theorem sm_blk (b : Blk) : Sm 1 (eB b) := sm_tup (sml_cons (sm_n 0 _) (sml_cons (sm_n 0 _) (sml_nil 0)))
theorem sm_bs (l : List Blk) : Sm 2 (eBs l) := sm_tup (sml_map sm_blk l)
theorem sm_pg (x : Pg) : Sm 2 (ePg x) := by
  cases x with
  | store => exact sm_tup (sml_cons (sm_str 1 (by decide +kernel)) (sml_nil 1))
  | small h f => exact sm_tup (sml_cons (sm_str 1 (by decide +kernel)) (sml_cons (sm_n 1 _) (sml_cons (sm_n 1 _) (sml_cons (sm_tup (sml_map (sm_n 0) f)) (sml_nil 1)))))
theorem sm_sl (x : Sl) : Sm 1 (eSl x) := by
  cases x with
  | non => exact sm_non 1
  | blk b => exact sm_tup (sml_cons (sm_str 0 (by decide +kernel)) (sml_cons (sm_n 0 _) (sml_cons (sm_n 0 _) (sml_nil 0))))
  | fail => exact sm_tup (sml_cons (sm_str 0 (by decide +kernel)) (sml_nil 0))
theorem sm_mv (x : Mv) : Sm 1 (eMv x) := by
  cases x <;> exact sm_tup (sml_cons (sm_str 0 (by decide +kernel)) (sml_cons (sm_n 0 _) (sml_nil 0)))
theorem sm_op (x : Op) : Sm 1 (eOp x) := by
  cases x with
  | alloc s => exact sm_tup (sml_cons (sm_str 0 (by decide +kernel)) (sml_cons (sm_n 0 _) (sml_cons (sm_n 0 _) (sml_nil 0))))
  | free s => exact sm_tup (sml_cons (sm_str 0 (by decide +kernel)) (sml_cons (sm_n 0 _) (sml_nil 0)))
  | adopt s => exact sm_tup (sml_cons (sm_str 0 (by decide +kernel)) (sml_cons (sm_n 0 _) (sml_nil 0)))
  | drain => exact sm_tup (sml_cons (sm_str 0 (by decide +kernel)) (sml_nil 0))
theorem eqvAll_nil (ds : List PyData) : PyData.eqvAll ds [] = ds.isEmpty := by
  cases ds <;> simp [PyData.eqvAll]
theorem eqv_nilL (ds : List PyData) : PyData.eqv (.list ds) (.list []) = ds.isEmpty := by
  rw [PyData.eqv, eqvAll_nil]
theorem eqv_nilT (ds : List PyData) : PyData.eqv (.tuple ds) (.tuple []) = ds.isEmpty := by
  rw [PyData.eqv, eqvAll_nil]
section
variable {K : Frg} {σ : L2.St} {H : Hp} {ta tb : TE} {a : Addr} {xs : List V} {ds : List PyData}
/-- xs == [], xs != [] of a list of such data -/
theorem ev_nil (h : Ev ta σ H (.ref a)) (hs : SqL K H a xs) (hx : TdL K H xs ds) (sm : SmL 20 ds) : Ev (tOp (rEqD K) ta (tLst tNil)) σ H (.bl xs.isEmpty) := fun H1 e Q q =>
  h H1 e _ fun H2 e2 => ⟨Nat.zero_le _, fun p hp => ⟨.list ds, .list [], .lst (ex_l ((e.trans e2).trans (Ex.new hp)) hs) (hx.ex ((e.trans e2).trans (Ex.new hp))).dp, .lst (SqL.of upd_same) .nil, (sm_lst sm).shp, (sm_lst (sml_nil 0)).shp, by
    rw [eqv_nilL, show ds.isEmpty = xs.isEmpty by have := hx.length; cases xs <;> cases ds <;> simp_all]
    exact q _ (e2.trans (Ex.new hp))⟩⟩
theorem ev_notNil (h : Ev ta σ H (.ref a)) (hs : SqL K H a xs) (hx : TdL K H xs ds) (sm : SmL 20 ds) : Ev (tOp (rNeD K) ta (tLst tNil)) σ H (.bl (!xs.isEmpty)) := fun H1 e Q q =>
  h H1 e _ fun H2 e2 => ⟨Nat.zero_le _, fun p hp => ⟨.list ds, .list [], .lst (ex_l ((e.trans e2).trans (Ex.new hp)) hs) (hx.ex ((e.trans e2).trans (Ex.new hp))).dp, .lst (SqL.of upd_same) .nil, (sm_lst sm).shp, (sm_lst (sml_nil 0)).shp, by
    rw [eqv_nilL, show ds.isEmpty = xs.isEmpty by have := hx.length; cases xs <;> cases ds <;> simp_all]
    exact q _ (e2.trans (Ex.new hp))⟩⟩
theorem tdl_nats {K : Frg} {H : Hp} : ∀ ns : List Nat, TdL K H (ns.map fun (n : Nat) => V.int n) (ns.map eN)
  | [] => .nil
  | n :: ns => .cons (.int n) (tdl_nats ns)
end
end Rp

namespace Rp
open PySem PySem.Spec PyProof.Rows L2 Mx Evl Hf
section
variable {K : Frg} {mg : Str → Option Value} {w : World} {σ : L2.St} {H : Hp} {ta tb tc te : TE} {s m : Addr} {M : MC} {loc : Lc} {D : DS} {t : Nat} {wk : Wk} {E : Ends} {tz : TS}
theorem setWk_setWk {a b : Wk} : (D.setWk t a).setWk t b = D.setWk t b := by
  show ({ D with wks := (D.wks.set t a).set t b } : DS) = { D with wks := D.wks.set t b }
  rw [List.set_set]
theorem setWk_self (hw : D.wks[t]? = some wk) : D.setWk t wk = D := by
  obtain ⟨h, e⟩ := List.getElem?_eq_some_iff.mp hw
  show ({ D with wks := D.wks.set t wk } : DS) = D
  rw [← e, List.set_getElem_self]
/-- a plain field of a worker is stored -/
theorem s_wk {f : Str} {v : V} {w' : Wk} (T : Txt K mg w) (S : Stp K H s M loc D) (hw : D.wks[t]? = some wk) (n : NoAttr K (He.ga K "Worker") f) (hv : Ev tb σ H v) (ho : Ev ta σ H (.ref (loc (.wk t)))) (h1 : w'.hand = wk.hand) (h2 : w'.cache = wk.cache) (h3 : w'.bats = wk.bats)
    (hp : putF f v (fWk wk (loc (.hand t)) (loc (.caches t)) (loc (.bats t))) = fWk w' (loc (.hand t)) (loc (.caches t)) (loc (.bats t))) (k : ∀ H1, Stp K H1 s M loc (D.setWk t w') → Ext H loc H1 loc → E.nx σ H1) : sFld K ta tb f E σ H := by
  obtain ⟨dx, hk⟩ := S.rep.atWk hw
  refine s_fld hv ho hk T.cls_Worker n (by show 6 < 1000; decide) fun H1 e1 => ?_
  have R1 := S.rep.ex e1
  have hk1 := e1 _ _ hk
  have e2 : Ext H loc (upd H1 (loc (.wk t)) (.ins (He.ga K "Worker") dx (putF f v (fWk wk (loc (.hand t)) (loc (.caches t)) (loc (.bats t)))))) loc := (Ext.of_ex e1).trans (Ext.put hk1 trivial)
  refine k _ (S.ext e2 ?_) e2
  rw [hp]
  exact R1.putWk hw h1 h2 h3
theorem q_phase {p : Ph} (T : Txt K mg w) (S : Stp K H s M loc D) (hw : D.wks[t]? = some wk) (ho : Ev ta σ H (.ref (loc (.wk t)))) (hv : Ev tb σ H (.str (phS p))) (k : ∀ H1, Stp K H1 s M loc (D.setWk t { wk with ph := p }) → Ext H loc H1 loc → tz E σ H1) : tSeq (sFld K ta tb "phase") tz E σ H :=
  s_wk (w' := { wk with ph := p }) (E := { E with nx := tz E }) T S hw T.noat_Worker_phase hv ho rfl rfl rfl (put_phase p) k
theorem s_phase {p : Ph} (T : Txt K mg w) (S : Stp K H s M loc D) (hw : D.wks[t]? = some wk) (ho : Ev ta σ H (.ref (loc (.wk t)))) (hv : Ev tb σ H (.str (phS p))) (k : ∀ H1, Stp K H1 s M loc (D.setWk t { wk with ph := p }) → Ext H loc H1 loc → E.nx σ H1) : sFld K ta tb "phase" E σ H :=
  s_wk (w' := { wk with ph := p }) T S hw T.noat_Worker_phase hv ho rfl rfl rfl (put_phase p) k
/-- worker.at += 1 -/
theorem q_at1 (T : Txt K mg w) (S : Stp K H s M loc D) (hw : D.wks[t]? = some wk) (ho : Ev ta σ H (.ref (loc (.wk t)))) (k : ∀ H1, Stp K H1 s M loc (D.setWk t { wk with pc := wk.pc + 1 }) → Ext H loc H1 loc → tz E σ H1) : tSeq (sFldAug K ta (tC (.int 1)) rAdd "at") tz E σ H := by
  obtain ⟨dx, hk⟩ := S.rep.atWk hw
  refine ho H (Ex.refl H) _ fun H1 e1 => ?_
  have hk1 := e1 _ _ hk
  refine ⟨_, _, dx, _, _, rfl, hk1, T.cls_Worker, T.noat_Worker_at, lk_Worker_at, _, _, rfl, rfl, dx, _, hk1, by show 6 < 1000; decide, ?_⟩
  have e2 : Ext H loc (upd H1 (loc (.wk t)) (.ins (He.ga K "Worker") dx (putF "at" (.int ((wk.pc : Int) + 1)) (fWk wk (loc (.hand t)) (loc (.caches t)) (loc (.bats t)))))) loc := (Ext.of_ex e1).trans (Ext.put hk1 trivial)
  refine k _ (S.ext e2 ?_) e2
  have hp : putF "at" (.int ((wk.pc : Int) + 1)) (fWk wk (loc (.hand t)) (loc (.caches t)) (loc (.bats t))) = fWk { wk with pc := wk.pc + 1 } (loc (.hand t)) (loc (.caches t)) (loc (.bats t)) := put_at (wk.pc + 1)
  rw [hp]
  exact (S.rep.ex e1).putWk (w' := { wk with pc := wk.pc + 1 }) hw rfl rfl rfl
/-- a call of one of the stepper's own methods on a thread -/
theorem e_thr {pre : MC → DS → Nat → Prop} {f : MC → DS → Nat → DS} {me : Str} {Q : VK} (S : Stp K H s M loc D) (ho : Ev ta σ H (.ref s)) (hn : ∀ m d : Addr, ([("owner", V.ref m), ("draft", V.ref d)] : List (Str × V)).lookup me = none) (ha : Ev tb σ H (.int (t : Nat))) (hp : pre M D t)
    (k : ∀ H' loc', Stp K H' s M loc' (f M D t) → Ext H loc H' loc' → Q .non H') : tMeth (He.ga K "Stepper") me (spThr K pre f) [] E0 ta (tCons tb tNil) σ H Q := by
  obtain ⟨m, dx, hs⟩ := S.atS
  refine e_meth (K := K) ho hs (hn _ _) (el_cons (ed_int ha) el_nil) fun vs H1 e1 tv => ?_
  obtain ⟨v, ws, rfl, t1, t2⟩ := tv.cons_inv
  obtain rfl := TdL.nil_iff.mp t2
  obtain rfl := Td.int_iff.mp t1
  exact ⟨s, M, loc, D, t, rfl, S.ex e1, hp, fun H' loc' S' e' => k H' loc' S' ((Ext.of_ex e1).trans e')⟩
end
end Rp
set_option Elab.async false
set_option linter.all false
set_option maxRecDepth 100000
set_option maxHeartbeats 4000000
set_option autoImplicit false
/-! More readings in short. -/
namespace Rp
open PySem PySem.Spec PyProof.Rows L2 Mx Evl Hf
theorem phS_eq (p q : Ph) : decide (V.str (phS q) = V.str (phS p)) = decide (q = p) := by cases q <;> cases p <;> decide +kernel
theorem ph_clear (q : Ph) : V.str (phS q) ≠ .str "clear" := by cases q <;> decide +kernel
theorem ph_get (q : Ph) : V.str (phS q) ≠ .str "get" := by cases q <;> decide +kernel
theorem seq_nat {j n : Nat} (h : j < n) : seqIndex? (j : Int) n = some j := by
  unfold seqIndex?
  have e1 : ¬ ((j : Int) < 0) := by omega
  simp [e1, h]
theorem pg_of {D : DS} {p : Nat} {x : Pg} (h : D.pages[p]? = some x) : D.pg p = x := by
  show D.pages.getD p .store = x
  rw [List.getD_eq_getElem?_getD, h] <;> rfl
theorem sl_of {D : DS} {p : Nat} {x : Sl} (h : D.slots[p]? = some x) : D.sl p = x := by
  show D.slots.getD p .non = x
  rw [List.getD_eq_getElem?_getD, h] <;> rfl
theorem arr_of {D : DS} {p : Nat} {x : List Blk} (h : D.arrs[p]? = some x) : D.arr p = x := by
  show D.arrs.getD p [] = x
  rw [List.getD_eq_getElem?_getD, h] <;> rfl
theorem bat_of {w : Wk} {p : Nat} {x : List Blk} (h : w.bats[p]? = some x) : w.bat p = x := by
  show w.bats.getD p [] = x
  rw [List.getD_eq_getElem?_getD, h] <;> rfl
theorem given_all {n : Nat} {v : Nat → V} : given n (fun _ => true) v = (List.range n).map v := by
  unfold given
  rw [List.filter_eq_self.mpr (fun _ _ => rfl)]
theorem given_none {n : Nat} {v : Nat → V} : given n (fun _ => false) v = [] := by
  unfold given
  rw [List.filter_eq_nil_iff.mpr (fun _ _ h => by cases h)] <;> rfl
theorem inV_nat (i : Nat) (f : List Nat) : inV (.int (i : Nat)) (f.map fun (n : Nat) => V.int n) = f.contains i := by
  unfold inV
  rw [List.any_map]
  induction f with
  | nil => rfl
  | cons x f ih =>
    rw [List.any_cons, List.contains_cons, ih]
    congr 1
    show ((x : Int) == (i : Int)) = (i == x)
    rw [Bool.eq_iff_iff, beq_iff_eq, beq_iff_eq]
    omega
theorem flat_nats (f : List Nat) : (f.map fun (n : Nat) => V.int n).all flatV = true := by
  rw [List.all_map]
  exact List.all_eq_true.mpr fun _ _ => rfl
theorem sml_bs (l : List Blk) : SmL 20 (l.map eB) := sml_map (fun b => (sm_blk b).mono (by decide)) l
section
variable {K : Frg} {mg : Str → Option Value} {w : World} {σ : L2.St} {H : Hp} {ta tb tc te tl ti : TE} {s m : Addr} {M : MC} {loc : Lc} {D : DS} {t : Nat} {wk : Wk} {E : Ends} {tz : TS} {tt : TT}
theorem TdL.nats {xs : List V} {f : List Nat} (h : TdL K H xs (f.map eN)) : xs = f.map fun (n : Nat) => V.int n := by
  induction f generalizing xs with
  | nil => exact TdL.nil_iff.mp h
  | cons x f ih =>
    obtain ⟨v, ws, rfl, t1, t2⟩ := h.cons_inv
    rw [ih t2, Td.int_iff.mp t1] <;> rfl
theorem EvD.non (h : EvD K te σ H .none) : Ev te σ H .non := fun H1 e Q q => h H1 e Q fun v H2 e2 t => by
  obtain rfl := Td.non_iff.mp t
  exact q H2 e2
theorem ev_isPh {q : Ph} (p : Ph) (h : Ev ta σ H (.str (phS q))) : Ev (tOp rEq ta (tC (.str (phS p)))) σ H (.bl (decide (q = p))) := ev_is (ev_op h ev_c (rv_eq rfl)) (by rw [phS_eq])
theorem ev_noStr {x y : Str} (h : Ev ta σ H (.str x)) (n : V.str x ≠ .str y) : Ev (tOp rEq ta (tC (.str y))) σ H (.bl false) := ev_is (ev_op h ev_c (rv_eq rfl)) (by rw [decide_eq_false n])
theorem ev_fault (x : Str) (T : Txt K mg w) (S : Stp K H s M loc D) (h : Ev ta σ H (.ref s)) : Ev (tOp rEq (tProp (He.ga K "Machine") (spSet K 8) [] E0 (tFld K ta "owner")) (tC (.str x))) σ H (.bl false) :=
  ev_is (ev_op (EvD.non (ed_owner (i := 8) T S h rfl)) ev_c (rv_eq rfl)) (by rw [decide_eq_false (fun h => by cases h)])
theorem ev_eqN {a b : Nat} (h1 : Ev ta σ H (.int a)) (h2 : Ev tb σ H (.int b)) : Ev (tOp rEq ta tb) σ H (.bl (decide (a = b))) := ev_is (ev_op h1 h2 (rv_eq rfl)) (by
  congr 1
  by_cases e : a = b
  · subst e; simp
  · have : ¬ (V.int (a : Int) = V.int b) := fun h => e (by have := V.int.inj h; omega)
    rw [decide_eq_false this, decide_eq_false e])
theorem ev_neN {a b : Nat} (h1 : Ev ta σ H (.int a)) (h2 : Ev tb σ H (.int b)) : Ev (tOp rNe ta tb) σ H (.bl (!decide (a = b))) := ev_is (ev_op h1 h2 (rv_ne rfl)) (by
  congr 2
  by_cases e : a = b
  · subst e; simp
  · have : ¬ (V.int (a : Int) = V.int b) := fun h => e (by have := V.int.inj h; omega)
    rw [decide_eq_false this, decide_eq_false e])
/-- a length -/
theorem ev_lenT {a : Addr} {xs : List V} (ha : Ev ta σ H (.ref a)) (h : SqT K H a xs) : Ev (tCB (rLenS K) (tCons ta tNil)) σ H (.int (xs.length : Int)) := fun H1 e Q q => ha H1 e _ fun H2 e2 => ⟨a, xs, rfl, Or.inr (ex_t (e.trans e2) h), q H2 e2⟩
theorem ev_lenD {ds : List PyData} (ha : EvD K ta σ H (.tuple ds)) : Ev (tCB (rLenS K) (tCons ta tNil)) σ H (.int (ds.length : Nat)) := fun H1 e Q q => ha H1 e _ fun v H2 e2 t => by
  obtain ⟨a, xs, rfl, hs, ts⟩ := t.tup_inv
  refine ⟨a, xs, rfl, Or.inr hs, ?_⟩
  rw [ts.length]
  exact q H2 e2
theorem ev_lNil {a : Addr} {xs : List V} {l : List Blk} (h : Ev ta σ H (.ref a)) (hs : H a = some (.lst xs)) (hx : TdL K H xs (l.map eB)) : Ev (tOp (rEqD K) ta (tLst tNil)) σ H (.bl l.isEmpty) :=
  ev_is (ev_nil h (SqL.of hs) hx (sml_bs l)) (by have := hx.length; cases l <;> cases xs <;> simp_all)
theorem ev_lNot {a : Addr} {xs : List V} {l : List Blk} (h : Ev ta σ H (.ref a)) (hs : H a = some (.lst xs)) (hx : TdL K H xs (l.map eB)) : Ev (tOp (rNeD K) ta (tLst tNil)) σ H (.bl (!l.isEmpty)) :=
  ev_is (ev_notNil h (SqL.of hs) hx (sml_bs l)) (by have := hx.length; cases l <;> cases xs <;> simp_all)
/-- the same of a list of numbers (new, or not) -/
theorem ev_nNil {a : Addr} {l : List Nat} (h : Ev ta σ H (.ref a)) (hs : H a = some (.lst (l.map fun (n : Nat) => V.int n))) : Ev (tOp (rEqD K) ta (tLst tNil)) σ H (.bl l.isEmpty) :=
  ev_is (ev_nil h (SqL.of hs) (tdl_nats l) (sml_map (fun n => sm_n 20 n) l)) (by cases l <;> simp)
theorem ev_nNot {a : Addr} {l : List Nat} (h : Ev ta σ H (.ref a)) (hs : H a = some (.lst (l.map fun (n : Nat) => V.int n))) : Ev (tOp (rNeD K) ta (tLst tNil)) σ H (.bl (!l.isEmpty)) :=
  ev_is (ev_notNil h (SqL.of hs) (tdl_nats l) (sml_map (fun n => sm_n 20 n) l)) (by cases l <;> simp)
theorem ev_nNotN {l : List Nat} (h : EvL ta σ H (l.map fun (n : Nat) => V.int n)) : Ev (tOp (rNeD K) ta (tLst tNil)) σ H (.bl (!l.isEmpty)) := fun H1 e Q q =>
  h H1 e _ fun p H2 hp e2 hs => ⟨Nat.zero_le _, fun r hr => ⟨.list (l.map eN), .list [], .lst (SqL.of ((Ex.new hr) _ _ hs)) (tdl_nats l).dp, .lst (SqL.of upd_same) .nil, (sm_lst (sml_map (fun n => sm_n 20 n) l)).shp, (sm_lst (sml_nil 0)).shp, by
    rw [eqv_nilL, show (l.map eN).isEmpty = l.isEmpty by cases l <;> rfl]
    exact q _ (e2.trans (Ex.new hr))⟩⟩
/-- x is None, x is not None -/
theorem ev_isNon {x : V} (h : Ev ta σ H x) : Ev (tOp (fun x y H Q => y = V.non ∧ Q (V.bl (decide (x = V.non))) H) ta (tC V.non)) σ H (.bl (decide (x = .non))) := ev_op h ev_c fun H1 _ _ q => ⟨rfl, q H1 (Ex.refl H1)⟩
theorem ev_notNon {x : V} (h : Ev ta σ H x) : Ev (tOp (fun x y H Q => y = V.non ∧ Q (V.bl !decide (x = V.non)) H) ta (tC V.non)) σ H (.bl (!decide (x = .non))) := ev_op h ev_c fun H1 _ _ q => ⟨rfl, q H1 (Ex.refl H1)⟩
/-! targets -/
theorem g2 {i j : Nat} {v1 v2 : V} {Q : L2.St → Hp → Prop} (k : Q ((σ.set i (some v1)).set j (some v2)) H) : gCons (gName i) (gCons (gName j) gNil) [v1, v2] σ H Q := ⟨_, _, rfl, _, _, rfl, rfl, k⟩
theorem g4 {i j a b : Nat} {v1 v2 v3 v4 : V} {Q : L2.St → Hp → Prop} (k : Q ((((σ.set i (some v1)).set j (some v2)).set a (some v3)).set b (some v4)) H) : gCons (gName i) (gCons (gName j) (gCons (gName a) (gCons (gName b) gNil))) [v1, v2, v3, v4] σ H Q := ⟨_, _, rfl, _, _, rfl, _, _, rfl, _, _, rfl, rfl, k⟩
theorem q_page4 {n i j a b h : Nat} {f : List Nat} (hn : 4 = n) (he : EvD K te σ H (ePg (.small h f))) (k : ∀ v H1, Ex H H1 → Td K H1 v (.tuple (f.map eN)) → tz E ((((σ.set i (some (.str "small"))).set j (some (.int (h : Nat)))).set a (some (.int (0 : Nat)))).set b (some v)) H1) :
    tSeq (tAsg te (gTup K n (gCons (gName i) (gCons (gName j) (gCons (gName a) (gCons (gName b) gNil)))))) tz E σ H := by
  refine q_asgTup he hn fun xs H1 e tx => ?_
  obtain ⟨v1, r1, rfl, t1, u1⟩ := tx.cons_inv
  obtain ⟨v2, r2, rfl, t2, u2⟩ := u1.cons_inv
  obtain ⟨v3, r3, rfl, t3, u3⟩ := u2.cons_inv
  obtain ⟨v4, r4, rfl, t4, u4⟩ := u3.cons_inv
  obtain rfl := TdL.nil_iff.mp u4
  obtain rfl := Td.str_iff.mp t1
  obtain rfl := Td.int_iff.mp t2
  obtain rfl := Td.int_iff.mp t3
  exact g4 (k v4 H1 e t4)
theorem q_asg2D {n i j : Nat} {d1 d2 : PyData} (hn : 2 = n) (he : EvD K te σ H (.tuple [d1, d2])) (k : ∀ v1 v2 H1, Ex H H1 → Td K H1 v1 d1 → Td K H1 v2 d2 → tz E ((σ.set i (some v1)).set j (some v2)) H1) :
    tSeq (tAsg te (gTup K n (gCons (gName i) (gCons (gName j) gNil)))) tz E σ H := by
  refine q_asgTup he hn fun xs H1 e tx => ?_
  obtain ⟨v1, r1, rfl, t1, u1⟩ := tx.cons_inv
  obtain ⟨v2, r2, rfl, t2, u2⟩ := u1.cons_inv
  obtain rfl := TdL.nil_iff.mp u2
  exact g2 (k v1 v2 H1 e t1 t2)
/-! tuples -/
theorem ed_cat {ds es : List PyData} (h1 : EvD K ta σ H (.tuple ds)) (h2 : EvD K tb σ H (.tuple es)) (hz : ds.length + es.length ≤ 100000) : EvD K (tOp (rCatA K) ta tb) σ H (.tuple (ds ++ es)) := fun H1 e Q q =>
  h1 H1 e _ fun v H2 e2 t => h2 H2 (e.trans e2) _ fun u H3 e3 t2 => by
    obtain ⟨a, xs, rfl, hs, ts⟩ := (t.ex e3).tup_inv
    obtain ⟨b, ys, rfl, hs2, ts2⟩ := t2.tup_inv
    refine ⟨a, b, xs, ys, rfl, rfl, hs, hs2, sz_of (by rw [ts.length, ts2.length]; exact hz), fun ex => ?_, fun _ ey => ?_, fun _ _ p hp => ?_⟩
    · subst ex
      cases ts
      exact q _ H3 (e2.trans e3) t2
    · subst ey
      cases ts2
      rw [List.append_nil] at q
      exact q _ H3 (e2.trans e3) (t.ex e3)
    · exact q _ _ ((e2.trans e3).trans (Ex.new hp)) (.tup (.inl (.inl upd_same)) ((ts.append ts2).ex (Ex.new hp)))
theorem cut_hi {xs : List V} {n : Nat} : cutV xs none (some (n : Int)) = xs.take n := by
  unfold cutV
  rw [HT.sIx_none, HT.sIx_nat, List.drop_zero, Nat.sub_zero]
  by_cases h : n ≤ xs.length
  · rw [Nat.min_eq_left h]
  · rw [Nat.min_eq_right (by omega), List.take_of_length_le (Nat.le_refl _), List.take_of_length_le (by omega)]
theorem cut_lo {xs : List V} {n : Nat} : cutV xs (some (n : Int)) none = xs.drop n := by
  unfold cutV
  rw [HT.sIx_none, HT.sIx_nat]
  by_cases h : n ≤ xs.length
  · rw [Nat.min_eq_left h, List.take_of_length_le (by rw [List.length_drop]; omega)]
  · rw [Nat.min_eq_right (by omega), List.drop_of_length_le (Nat.le_refl _), List.drop_of_length_le (by omega), List.take_nil]
theorem ed_take {ds : List PyData} {n : Nat} (h : EvD K ta σ H (.tuple ds)) (hn : Ev tb σ H (.int (n : Nat))) : EvD K (tSl (rSlA K) ta tNoPart (tPart tb)) σ H (.tuple (ds.take n)) := fun H1 e Q q =>
  h H1 e _ fun v H2 e2 t => hn H2 (e.trans e2) _ fun H3 e3 => by
    obtain ⟨a, xs, rfl, hs, ts⟩ := (t.ex e3).tup_inv
    refine ⟨_, rfl, a, xs, rfl, hs, fun hw => ?_, fun _ p hp => ?_⟩
    · have hw2 := hw.2
      rw [HT.sIx_nat] at hw2
      have : ds.take n = ds := List.take_of_length_le (by rw [← ts.length]; omega)
      rw [this] at q
      exact q _ H3 (e2.trans e3) (t.ex e3)
    · rw [cut_hi]
      exact q _ _ ((e2.trans e3).trans (Ex.new hp)) (.tup (.inl (.inl upd_same)) ((ts.take n).ex (Ex.new hp)))
theorem ed_drop {ds : List PyData} {n : Nat} (h : EvD K ta σ H (.tuple ds)) (hn : Ev tb σ H (.int (n : Nat))) : EvD K (tSl (rSlA K) ta (tPart tb) tNoPart) σ H (.tuple (ds.drop n)) := fun H1 e Q q =>
  h H1 e _ fun v H2 e2 t => hn H2 (e.trans e2) _ fun H3 e3 => by
    obtain ⟨a, xs, rfl, hs, ts⟩ := (t.ex e3).tup_inv
    refine ⟨_, rfl, a, xs, rfl, hs, fun hw => ?_, fun _ p hp => ?_⟩
    · have hw2 := hw.1
      rw [HT.sIx_nat] at hw2
      have : ds.drop n = ds := by
        by_cases hn0 : n = 0
        · rw [hn0, List.drop_zero]
        · have hl : ds.length = 0 := by rw [← ts.length]; omega
          rw [List.eq_nil_of_length_eq_zero hl, List.drop_nil]
      rw [this] at q
      exact q _ H3 (e2.trans e3) (t.ex e3)
    · rw [cut_lo]
      exact q _ _ ((e2.trans e3).trans (Ex.new hp)) (.tup (.inl (.inl upd_same)) ((ts.drop n).ex (Ex.new hp)))
theorem ed_store (T : Txt K mg w) : EvD K (tC (.ref (He.ga K "STORE"))) σ H (ePg .store) := EvD.of ev_c (.tup (T.tup_STORE H) (.cons (.str _) .nil))
theorem ed_failure (T : Txt K mg w) : EvD K (tC (.ref (He.ga K "FAILURE"))) σ H (eSl .fail) := EvD.of ev_c (.tup (T.tup_FAILURE H) (.cons (.str _) .nil))
theorem ed_non : EvD K (tC .non) σ H .none := EvD.of ev_c .non
theorem ed_tupL {a : Addr} {xs : List V} {ds : List PyData} (ha : Ev ta σ H (.ref a)) (h : H a = some (.lst xs)) (hx : TdL K H xs ds) : EvD K (tCB (Ru.rTupS K) (tCons ta tNil)) σ H (.tuple ds) := fun H1 e Q q =>
  ha H1 e _ fun H2 e2 => ⟨a, xs, rfl, Or.inl ⟨SqL.of ((e.trans e2) _ _ h), fun l hl => q _ _ (e2.trans (Ex.new hl)) (.tup (.inl (.inl upd_same)) (hx.ex ((e.trans e2).trans (Ex.new hl))))⟩⟩
theorem ev_all {bs : List Bool} (h : EvL te σ H (bs.map V.bl)) : Ev (tCB (rAll K) (tCons te tNil)) σ H (.bl (bs.all id)) := fun H1 e Q q =>
  h H1 e _ fun p H2 hp e2 h2 => ⟨p, bs, rfl, SqL.of h2, q H2 e2⟩
theorem ev_any {bs : List Bool} (h : EvL te σ H (bs.map V.bl)) : Ev (tCB (rAny K) (tCons te tNil)) σ H (.bl (bs.any id)) := fun H1 e Q q =>
  h H1 e _ fun p H2 hp e2 h2 => ⟨p, bs, rfl, SqL.of h2, q H2 e2⟩
/-! pages and slots are stored -/
theorem s_setPage {p : Nat} {x : Pg} (T : Txt K mg w) (S : Stp K H s M loc D) (he : EvD K te σ H (ePg x)) (ho : Ev ta σ H (.ref s)) (hi : Ev tb σ H (.int (p : Nat))) (hp : p < D.pages.length) (k : ∀ H1, Stp K H1 s M loc (D.setPg p x) → Ext H loc H1 loc → E.nx σ H1) :
    tAsg te (gSub (tFld K (tFld K ta "draft") "own_pages") tb rSetL) E σ H := by
  obtain ⟨xs, h1, h2⟩ := S.rep.atPages
  refine s_setD he (ev_pages T S ho) hi h1 (by rw [h2.length, List.length_map]; exact hp) fun v H1 e t => ?_
  have e2 : Ext H loc (upd H1 (loc .pages) (.lst (xs.set p v))) loc := (Ext.of_ex e).trans (Ext.put (e _ _ h1) trivial)
  exact k _ (S.ext e2 ((S.rep.ex e).putPages (e _ _ h1) t)) e2
theorem q_setPage {p : Nat} {x : Pg} (T : Txt K mg w) (S : Stp K H s M loc D) (he : EvD K te σ H (ePg x)) (ho : Ev ta σ H (.ref s)) (hi : Ev tb σ H (.int (p : Nat))) (hp : p < D.pages.length) (k : ∀ H1, Stp K H1 s M loc (D.setPg p x) → Ext H loc H1 loc → tz E σ H1) :
    tSeq (tAsg te (gSub (tFld K (tFld K ta "draft") "own_pages") tb rSetL)) tz E σ H := s_setPage (E := { E with nx := tz E }) T S he ho hi hp k
theorem q_setSlot {p : Nat} {x : Sl} (T : Txt K mg w) (S : Stp K H s M loc D) (he : EvD K te σ H (eSl x)) (ho : Ev ta σ H (.ref s)) (hi : Ev tb σ H (.int (p : Nat))) (hp : p < D.slots.length) (k : ∀ H1, Stp K H1 s M loc (D.setSl p x) → Ext H loc H1 loc → tz E σ H1) :
    tSeq (tAsg te (gSub (tFld K (tFld K ta "draft") "own_slots") tb rSetL)) tz E σ H := by
  obtain ⟨xs, h1, h2⟩ := S.rep.atSlots
  refine q_setD he (ev_slots T S ho) hi h1 (by rw [h2.length, List.length_map]; exact hp) fun v H1 e t => ?_
  have e2 : Ext H loc (upd H1 (loc .slots) (.lst (xs.set p v))) loc := (Ext.of_ex e).trans (Ext.put (e _ _ h1) trivial)
  exact k _ (S.ext e2 ((S.rep.ex e).putSlots (e _ _ h1) t)) e2
/-- own_flight.append(..) -/
theorem q_flight {hm : Nat} {l : List Blk} (T : Txt K mg w) (S : Stp K H s M loc D) (he : EvD K te σ H (eMs (hm, l))) (ho : Ev ta σ H (.ref s)) (hz : D.fl.length < 100000) (k : ∀ H1, Stp K H1 s M loc (D.addFl hm l) → Ext H loc H1 loc → tz E σ H1) :
    tSeq (tDrop (tBM K "list" rAppend (tFld K (tFld K ta "draft") "own_flight") (tCons te tNil))) tz E σ H := by
  obtain ⟨xs, h1, h2⟩ := S.rep.atFlight
  refine q_appD (ev_flight T S ho) he h1 (by rw [h2.length, List.length_map]; exact hz) fun v H1 e t => ?_
  have e2 : Ext H loc (upd H1 (loc .flight) (.lst (xs ++ [v]))) loc := (Ext.of_ex e).trans (Ext.put (e _ _ h1) trivial)
  exact k _ (S.ext e2 ((S.rep.ex e).putFlight (e _ _ h1) t)) e2
/-! items are taken out of lists -/
theorem te_popAt {Q : VK} {a : Addr} {xs : List V} {j : Nat} {v : V} (hl : Ev tl σ H (.ref a)) (h : H a = some (.lst xs)) (hj : xs[j]? = some v) (hb : j < 100000) (hi : Ev ti σ H (.int (j : Nat))) (k : ∀ H1, Ex H H1 → Q v (upd H1 a (.lst (xs.eraseIdx j)))) : tBM K "list" rPopAt tl (tCons ti tNil) σ H Q :=
  hl H (Ex.refl H) _ fun H1 e1 => ⟨Or.inl ⟨rfl, xs, sq_of (e1 a _ h)⟩, hi H1 e1 _ fun H2 e2 => ⟨a, xs, (j : Int), j, v, rfl, rfl, e2 _ _ (e1 _ _ h), by omega, by omega, seq_nat (List.getElem?_eq_some_iff.mp hj).1, hj, k H2 (e1.trans e2)⟩⟩
theorem te_pop {Q : VK} {a : Addr} {xs : List V} {v : V} (hl : Ev tl σ H (.ref a)) (h : H a = some (.lst xs)) (hj : xs[xs.length - 1]? = some v) (k : ∀ H1, Ex H H1 → Q v (upd H1 a (.lst xs.dropLast))) : tBM0 K "list" rPop tl σ H Q :=
  hl H (Ex.refl H) _ fun H1 e1 => ⟨Or.inl ⟨rfl, xs, sq_of (e1 a _ h)⟩, a, xs, v, rfl, rfl, e1 _ _ h, hj, k H1 e1⟩
/-- self.bring(list.pop(0), socket) -/
theorem e_bringPop {Q : VK} {r : Rl} {xs : List V} {b : Blk} {ds : List PyData} {tq : TE} {z : Nat} {D' : DS} {h : Nat} {f : List Nat} (S : Stp K H s M loc D) (ho : Ev ta σ H (.ref s)) (hl : Ev tl σ H (.ref (loc r))) (hx : H (loc r) = some (.lst xs)) (tx : TdL K H xs (eB b :: ds)) (hz : ∀ H1, Ev tq σ H1 (.int (z : Nat)))
    (R' : ∀ H1 ws, Ex H H1 → TdL K H1 ws ds → Rep K (upd H1 (loc r) (.lst ws)) loc D') (hP : D'.pages.length ≤ 1000) (hp : D'.pages[b.1]? = some (.small h f)) (hf : f.length ≤ 1000) (hM : M.size ≤ 1000) (hfl : D'.fl.length ≤ 10000)
    (k : ∀ v H' loc', Stp K H' s M loc' (bring M D' b z).1 → Ext H loc H' loc' → Td K H' v (eEv (bring M D' b z).2) → Q v H') : tMeth (He.ga K "Stepper") "bring" (spBring K) [] E0 ta (tCons (tBM K "list" rPopAt tl (tCons (tC (.int 0)) tNil)) (tCons tq tNil)) σ H Q := by
  obtain ⟨v, ws, rfl, tv, tws⟩ := tx.cons_inv
  obtain ⟨m, dx, hs⟩ := S.atS
  refine ho H (Ex.refl H) _ fun H1 e1 => ⟨s, dx, _, rfl, e1 _ _ hs, no_Stepper_bring, ?_⟩
  refine te_popAt (j := 0) (hl.mono e1) (e1 _ _ hx) rfl (by decide) ev_c fun H2 e2 => ?_
  have e12 := e1.trans e2
  have tk : Tk H2 (upd H2 (loc r) (.lst ws)) := tk_upd (e12 _ _ hx) trivial
  have e3 : Ext H loc (upd H2 (loc r) (.lst ws)) loc := (Ext.of_ex e12).trans (Ext.put (e12 _ _ hx) trivial)
  refine hz _ _ (Ex.refl _) _ fun H3 e4 => ?_
  exact ⟨s, M, loc, D', v, b, z, h, f, rfl, (S.ext e3 (R' _ ws e12 (tws.ex e12))).ex e4, hP, ((tv.ex e12).keep tk).ex e4, hp, hf, hM, hfl, fun v' H' loc' S' e' t' => k v' H' loc' S' ((e3.trans (Ext.of_ex e4)).trans e') t'⟩
/-! the stepper's questions -/
theorem ev_small {p h : Nat} {f : List Nat} (S : Stp K H s M loc D) (ho : Ev ta σ H (.ref s)) (hi : Ev tb σ H (.int (p : Nat))) (hp : D.pages[p]? = some (.small h f)) : Ev (tMeth (He.ga K "Stepper") "is_small" (spIsSmall K) [] E0 ta (tCons tb tNil)) σ H (.bl true) := fun H1 e Q q => by
  obtain ⟨m, dx, hs⟩ := S.atS
  refine ho H1 e _ fun H2 e2 => ⟨s, dx, _, rfl, (e.trans e2) _ _ hs, no_Stepper_is_small, hi H2 (e.trans e2) _ fun H3 e3 => ?_⟩
  exact ⟨s, M, loc, D, p, h, f, rfl, S.ex ((e.trans e2).trans e3), hp, fun H' e' => q H' ((e2.trans e3).trans e')⟩
theorem ev_homeOf {b : Blk} {h : Nat} {f : List Nat} (S : Stp K H s M loc D) (ho : Ev ta σ H (.ref s)) (hi : EvD K tb σ H (eB b)) (hp : D.pages[b.1]? = some (.small h f)) : Ev (tMeth (He.ga K "Stepper") "home_of" (spHomeOf K) [] E0 ta (tCons tb tNil)) σ H (.int (h : Nat)) := fun H1 e Q q => by
  obtain ⟨m, dx, hs⟩ := S.atS
  refine ho H1 e _ fun H2 e2 => ⟨s, dx, _, rfl, (e.trans e2) _ _ hs, no_Stepper_home_of, hi H2 (e.trans e2) _ fun v H3 e3 t => ?_⟩
  exact ⟨s, M, loc, D, v, b, h, f, rfl, S.ex ((e.trans e2).trans e3), t, hp, fun H' e' => q H' ((e2.trans e3).trans e')⟩
theorem el_spare {z : Nat} (S : Stp K H s M loc D) (ho : Ev ta σ H (.ref s)) (hi : Ev tb σ H (.int (z : Nat))) (hl : D.pages.length ≤ 1000) : EvL (tMeth (He.ga K "Stepper") "spare_pages" (spSpare K) [] E0 ta (tCons tb tNil)) σ H [] := fun H1 e Q q => by
  obtain ⟨m, dx, hs⟩ := S.atS
  refine ho H1 e _ fun H2 e2 => ⟨s, dx, _, rfl, (e.trans e2) _ _ hs, no_Stepper_spare_pages, hi H2 (e.trans e2) _ fun H3 e3 => ?_⟩
  exact ⟨s, M, loc, D, z, rfl, S.ex ((e.trans e2).trans e3), hl, fun p H' e' hp h2 => q p H' (fresh_back (e2.trans e3) hp) ((e2.trans e3).trans e') h2⟩
theorem el_lists {z : Nat} (S : Stp K H s M loc D) (ho : Ev ta σ H (.ref s)) (hi : Ev tb σ H (.int 0)) (hj : Ev tc σ H (.int (z : Nat))) (hl : D.pages.length ≤ 1000) : EvL (tMeth (He.ga K "Stepper") "lists_with_blocks" (spLists K) [] E0 ta (tCons tb (tCons tc tNil))) σ H ((listsWith D z).map fun (n : Nat) => V.int n) := fun H1 e Q q => by
  obtain ⟨m, dx, hs⟩ := S.atS
  refine ho H1 e _ fun H2 e2 => ⟨s, dx, _, rfl, (e.trans e2) _ _ hs, no_Stepper_lists_with_blocks, hi H2 (e.trans e2) _ fun H3 e3 => hj H3 ((e.trans e2).trans e3) _ fun H4 e4 => ?_⟩
  exact ⟨s, M, loc, D, z, rfl, S.ex (((e.trans e2).trans e3).trans e4), hl, fun p H' e' hp h2 => q p H' (fresh_back ((e2.trans e3).trans e4) hp) (((e2.trans e3).trans e4).trans e') h2⟩
theorem ev_toOpen {z : Nat} (S : Stp K H s M loc D) (ho : Ev ta σ H (.ref s)) (hi : Ev tb σ H (.int (z : Nat))) (hl : D.pages.length ≤ 1000) : Ev (tMeth (He.ga K "Stepper") "page_to_open" (spToOpen K) [] E0 ta (tCons tb tNil)) σ H (vOpt (pageToOpen D)) := fun H1 e Q q => by
  obtain ⟨m, dx, hs⟩ := S.atS
  refine ho H1 e _ fun H2 e2 => ⟨s, dx, _, rfl, (e.trans e2) _ _ hs, no_Stepper_page_to_open, hi H2 (e.trans e2) _ fun H3 e3 => ?_⟩
  exact ⟨s, M, loc, D, z, rfl, S.ex ((e.trans e2).trans e3), hl, fun H' e' => q H' ((e2.trans e3).trans e')⟩
/-- a move's method is called -/
theorem e_ev {pre : MC → DS → Nat → Nat → Nat → Prop} {f : MC → DS → Nat → Nat → Nat → DS × Ev} {ar : Nat → Nat → Nat → List Int} {me : Str} {Q : VK} {tr : TA} (t z x : Nat) (S : Stp K H s M loc D) (ho : Evl.Ev ta σ H (.ref s)) (hn : ∀ m d : Addr, ([("owner", V.ref m), ("draft", V.ref d)] : List (Str × V)).lookup me = none) (ha : EvDL K tr σ H ((ar t z x).map PyData.int)) (hp : pre M D t z x)
    (k : ∀ v H' loc', Stp K H' s M loc' (f M D t z x).1 → Ext H loc H' loc' → Td K H' v (eEv (f M D t z x).2) → Q v H') : tMeth (He.ga K "Stepper") me (spEv K pre f ar) [] E0 ta tr σ H Q := by
  obtain ⟨m, dx, hs⟩ := S.atS
  refine e_meth (K := K) ho hs (hn _ _) ha fun vs H1 e1 tv => ?_
  have ev := TdL.ints tv
  subst ev
  exact ⟨s, M, loc, D, t, z, x, by rw [List.append_nil], S.ex e1, hp, fun v H' l' S' e' t' => k v H' l' S' ((Ext.of_ex e1).trans e') t'⟩
/-- a plain field of a worker as a target -/
theorem g_wk {f : Str} {v : V} {w' : Wk} {Q : L2.St → Hp → Prop} (T : Txt K mg w) (S : Stp K H s M loc D) (hw : D.wks[t]? = some wk) (n : NoAttr K (He.ga K "Worker") f) (ho : Ev ta σ H (.ref (loc (.wk t)))) (h1 : w'.hand = wk.hand) (h2 : w'.cache = wk.cache) (h3 : w'.bats = wk.bats)
    (hp : putF f v (fWk wk (loc (.hand t)) (loc (.caches t)) (loc (.bats t))) = fWk w' (loc (.hand t)) (loc (.caches t)) (loc (.bats t))) (k : ∀ H1, Stp K H1 s M loc (D.setWk t w') → Ext H loc H1 loc → Q σ H1) : Ru.gFld K ta f v σ H Q := by
  obtain ⟨dx, hk⟩ := S.rep.atWk hw
  refine ho H (Ex.refl H) _ fun H1 e1 => ⟨_, _, dx, _, rfl, e1 _ _ hk, T.cls_Worker, n, by show 6 < 1000; decide, ?_⟩
  have e2 : Ext H loc (upd H1 (loc (.wk t)) (.ins (He.ga K "Worker") dx (putF f v (fWk wk (loc (.hand t)) (loc (.caches t)) (loc (.bats t)))))) loc := (Ext.of_ex e1).trans (Ext.put (e1 _ _ hk) trivial)
  refine k _ (S.ext e2 ?_) e2
  rw [hp]
  exact (S.rep.ex e1).putWk hw h1 h2 h3
theorem ed_if {b : Bool} {d : PyData} (h : EvT tt σ H b) (h1 : b = true → EvD K ta σ H d) (h2 : b = false → EvD K tb σ H d) : EvD K (tIf tt ta tb) σ H d := fun H1 e Q q => h H1 e _ fun H2 e2 => by
  cases b with
  | true => exact h1 rfl H2 (e.trans e2) Q fun v H3 e3 t => q v H3 (e2.trans e3) t
  | false => exact h2 rfl H2 (e.trans e2) Q fun v H3 e3 t => q v H3 (e2.trans e3) t
theorem et_yes : EvT tYes σ H true := fun H1 _ _ q => q H1 (Ex.refl H1)
theorem ble {n : Nat} (h : Nat.ble n 100000 = true := by rfl) : n ≤ 100000 := Nat.le_of_ble_eq_true h
/-! loops over enumerate -/
/-- the body lets all objects stand -/
theorem s_forEx {xs : List V} {tu : TS} {i1 i2 n : Nat} (hn : 2 = n) (h : EvL ta σ H xs) (P : Nat → L2.St → Prop) (h0 : P 0 σ)
    (hs : ∀ (i : Nat) x σ' H', Ex H H' → xs[i]? = some x → P i σ' → ∀ N : L2.St → Hp → Prop, (∀ σ2 H2, P (i + 1) σ2 → Ex H' H2 → N σ2 H2) → tu { E with nx := N, ct := N, bk := E.nx } ((σ'.set i1 (some (.int (i : Nat)))).set i2 (some x)) H')
    (hd : ∀ σ' H', P xs.length σ' → Ex H H' → E.nx σ' H') : tFor (iEnum K (tCons ta tNil)) (gTup K n (gCons (gName i1) (gCons (gName i2) gNil))) tu E σ H :=
  h H (Ex.refl H) _ fun p H1 hp e h1 => ⟨p, xs, rfl, SqL.of h1, for_it (walk_enum (xs := xs)) (fun i σ' H' => P i σ' ∧ Ex H1 H') ⟨h0, Ex.refl H1⟩ (fun i σ' H' _ q => SqL.of (q.2 _ _ h1)) (fun i x σ' H' H2 hi q y => by
    obtain ⟨Tu, x1, y1, rfl, hT, rfl, e1, e2⟩ := y
    cases e1
    refine ⟨Tu, [.int (i : Nat), y1], rfl, .inl (.inl upd_same), hn, g2 ?_⟩
    exact hs i y1 σ' _ ((e.trans q.2).trans (Ex.new hT)) e2 q.1 _ fun σ2 H2 p2 e3 => ⟨p2, q.2.trans ((Ex.new hT).trans e3)⟩) (fun σ' H' q => hd σ' H' q.1 (e.trans q.2))⟩
theorem s_forEH {a : Addr} {xs : List V} {tu : TS} {i1 i2 n : Nat} (hn : 2 = n) (h : Ev ta σ H (.ref a)) (hx : SqL K H a xs) (P : Nat → L2.St → Hp → Prop) (h0 : ∀ H1, Ex H H1 → P 0 σ H1) (hl : ∀ i σ' H', P i σ' H' → SqL K H' a xs)
    (hs : ∀ (i : Nat) x σ' H' H2, xs[i]? = some x → P i σ' H' → Ex H' H2 → tu { E with nx := P (i + 1), ct := P (i + 1), bk := E.nx } ((σ'.set i1 (some (.int (i : Nat)))).set i2 (some x)) H2)
    (hd : ∀ σ' H', P xs.length σ' H' → E.nx σ' H') : tFor (iEnum K (tCons ta tNil)) (gTup K n (gCons (gName i1) (gCons (gName i2) gNil))) tu E σ H :=
  h H (Ex.refl H) _ fun H1 e => ⟨a, xs, rfl, ex_l e hx, for_it (walk_enum (xs := xs)) P (h0 H1 e) (fun i σ' H' _ q => hl i σ' H' q) (fun i x σ' H' H2 hi q y => by
    obtain ⟨Tu, x1, y1, rfl, hT, rfl, e1, e2⟩ := y
    cases e1
    refine ⟨Tu, [.int (i : Nat), y1], rfl, .inl (.inl upd_same), hn, g2 ?_⟩
    exact hs i y1 σ' H' _ e2 q (Ex.new hT)) (fun σ' H' q => hd σ' H' q)⟩
/-- [.. for i, x in enumerate(list) if ..] -/
theorem el_lcE {a : Addr} {xs : List V} {i1 i2 n : Nat} {vs : List Nat} (f : Nat → Bool) (v : Nat → V) (hn : 2 = n) (h : Ev ta σ H (.ref a)) (hx : SqL K H a xs) (hz : xs.length ≤ 40000) (hw : ∀ x y, wipe (((wipe σ vs).set i1 (some x)).set i2 (some y)) vs = wipe σ vs)
    (ht : ∀ (i : Nat) (x : V) H1, Ex H H1 → xs[i]? = some x → EvT tt (((wipe σ vs).set i1 (some (.int (i : Nat)))).set i2 (some x)) H1 (f i)) (he : ∀ (i : Nat) (x : V) H1, Ex H H1 → xs[i]? = some x → f i = true → Ev te (((wipe σ vs).set i1 (some (.int (i : Nat)))).set i2 (some x)) H1 (v i)) :
    EvL (tLc (iEnum K (tCons ta tNil)) (gTup K n (gCons (gName i1) (gCons (gName i2) gNil))) tt te vs) σ H (given xs.length f v) := fun H0 e Q q => h H0 e _ fun H1 e1 => ⟨a, xs, rfl, ex_l (e.trans e1) hx, fun Dl hD =>
  lc_it (walk_enum (xs := xs)) (Cw H1 f v Dl) ⟨hD, Ex.new hD, upd_same⟩ (fun i H' _ p => ex_l ((e.trans e1).trans p.2.1) hx) (fun i x H' H2 hi p y => by
    obtain ⟨Tu, x1, y1, rfl, hT, rfl, e1', e2⟩ := y
    cases e1'
    refine ⟨Tu, [.int (i : Nat), y1], rfl, .inl (.inl upd_same), hn, g2 ⟨hw _ _, ?_⟩⟩
    have p' : Cw H1 f v Dl i (upd H' Tu (.tup [.int (i : Nat), y1])) := ⟨p.1, p.2.1.trans (Ex.new hT), (Ex.new hT) _ _ p.2.2⟩
    exact cw_turn p' (by omega) (ht i y1 H1 (e.trans e1) e2) (fun hf => he i y1 H1 (e.trans e1) e2 hf))
    (fun H' p => q Dl H' (fresh_back e1 p.1) (e1.trans p.2.1) p.2.2)⟩
end
end Rp
set_option Elab.async false
set_option linter.all false
set_option maxRecDepth 100000
set_option maxHeartbeats 4000000
set_option autoImplicit false
/-! Comprehensions whose items are made new. -/
namespace Rp
open PySem PySem.Spec PyProof.Rows L2 Mx Evl Hf
section
variable {K : Frg} {mg : Str → Option Value} {w : World} {σ : L2.St} {H : Hp} {ta tb tc te tl ti : TE} {s m : Addr} {M : MC} {loc : Lc} {D : DS} {t : Nat} {wk : Wk} {E : Ends} {tz : TS} {tt : TT}
/-- what a comprehension gathers: I by the new list's place, what it holds, the heap -/
structure LcI (H : Hp) (xs : List V) (te : TE) (st : V → L2.St) (I : Addr → List V → Hp → Prop) : Prop where
  hm : ∀ Dl acc H1 H2, Ex H1 H2 → I Dl acc H1 → I Dl acc H2
  hu : ∀ Dl acc H1 ys o, H1 Dl = some (.lst ys) → I Dl acc H1 → I Dl acc (upd H1 Dl o)
  h0 : ∀ Dl H1, Ex H H1 → H Dl = none → H1 Dl = some (.lst []) → I Dl [] H1
  he : ∀ Dl acc x H1 l, Ex H H1 → H Dl = none → H1 Dl = some (.lst l) → xs[acc.length]? = some x → I Dl acc H1 → ∀ Q : VK, (∀ v H2, Ex H1 H2 → I Dl (acc ++ [v]) H2 → Q v H2) → te (st x) H1 Q
theorem lcI_core {J : It} {a : Addr} {xs : List V} {j : Nat} {vs : List Nat} {I : Addr → List V → Hp → Prop} {G : Hp → Prop} (W : Walk J xs.length G (YAt xs)) (gm : ∀ H H', Ex H H' → G H → G H') (hw : ∀ x, wipe ((wipe σ vs).set j (some x)) vs = wipe σ vs) (hz : xs.length ≤ 40000) {H0 H1 : Hp} (e : Ex H H1) (hG : G H1)
    (L : LcI H xs te (fun x => (wipe σ vs).set j (some x)) I) {Q : VK} (q : ∀ p H2 acc, H1 p = none → Ex H1 H2 → H2 p = some (.lst acc) → acc.length = xs.length → I p acc H2 → Q (.ref p) H2) :
    ∀ Dl, H1 Dl = none → ∃ W : Nat → Nat → Hp → Prop, (∃ m, W 0 m (upd H1 Dl (.lst []))) ∧ ∀ i m H, W i m H →
      (J.stop i H ∧ Q (.ref Dl) H) ∨ (J.go i H ∧ ∃ Nx : Hp → Prop, (∀ H', Nx H' → ∃ m', m' < m ∧ W (i + 1) m' H') ∧ ∀ x H', J.yld i H x H' → gName j x (wipe σ vs) H' fun σ2 H2 => wipe σ2 vs = wipe σ vs ∧ tYes σ2 H2 fun b H3 =>
        if b = true then te σ2 H3 fun y H4 => ∃ acc, H4 Dl = some (.lst acc) ∧ acc.length < sizeLine ∧ Nx (upd H4 Dl (.lst (acc ++ [y]))) else Nx H3) := fun Dl hD =>
  lc_it W (fun i H' => Ex H1 H' ∧ ∃ acc, H' Dl = some (.lst acc) ∧ acc.length = i ∧ I Dl acc H') ⟨Ex.new hD, [], upd_same, rfl, L.h0 Dl _ (e.trans (Ex.new hD)) (fresh_back e hD) upd_same⟩ (fun i H' _ p => gm _ _ p.1 hG) (fun i x H' H2 hi p y => by
    obtain ⟨e1, acc, h1, h2, h3⟩ := p
    obtain ⟨rfl, hx⟩ := y
    subst h2
    refine ⟨hw x, ?_⟩
    show te _ _ _
    refine L.he Dl acc x H2 acc (e.trans e1) (fresh_back e hD) h1 hx h3 _ fun v H4 e4 i4 => ?_
    have h4 := e4 _ _ h1
    exact ⟨acc, h4, sz_lt (by omega), (Ex.mut (e1.trans e4) hD), acc ++ [v], upd_same, by rw [List.length_append] <;> rfl, L.hu _ _ _ _ _ h4 i4⟩) (fun H' p => by
    obtain ⟨e1, acc, h1, h2, h3⟩ := p
    exact q Dl H' acc hD e1 h1 h2 h3)
theorem lcI_list {a : Addr} {xs : List V} {j : Nat} {vs : List Nat} {I : Addr → List V → Hp → Prop} (h : Ev tl σ H (.ref a)) (hx : SqL K H a xs) (hw : ∀ x, wipe ((wipe σ vs).set j (some x)) vs = wipe σ vs) (hz : xs.length ≤ 40000) (L : ∀ H1, Ex H H1 → LcI H1 xs te (fun x => (wipe σ vs).set j (some x)) I)
    {H0 : Hp} (e0 : Ex H H0) {Q : VK} (q : ∀ p H2 acc, H0 p = none → Ex H0 H2 → H2 p = some (.lst acc) → acc.length = xs.length → I p acc H2 → Q (.ref p) H2) : tLc (iList K tl) (gName j) tYes te vs σ H0 Q := h H0 e0 _ fun H1 e1 =>
  ⟨a, rfl, ⟨xs, ex_l (e0.trans e1) hx⟩, lcI_core (G := fun H => SqL K H a xs) (H := H1) (H0 := H0) (a := a) walk_list (fun _ _ e h => ex_l e h) hw hz (Ex.refl H1) (ex_l (e0.trans e1) hx) (L H1 (e0.trans e1)) fun p H2 acc hp e h1 h2 h3 => q p H2 acc (fresh_back e1 hp) (e1.trans e) h1 h2 h3⟩
theorem lcI_tup {a : Addr} {xs : List V} {j : Nat} {vs : List Nat} {I : Addr → List V → Hp → Prop} (h : Ev tl σ H (.ref a)) (hx : SqT K H a xs) (hw : ∀ x, wipe ((wipe σ vs).set j (some x)) vs = wipe σ vs) (hz : xs.length ≤ 40000) (L : ∀ H1, Ex H H1 → LcI H1 xs te (fun x => (wipe σ vs).set j (some x)) I)
    {H0 : Hp} (e0 : Ex H H0) {Q : VK} (q : ∀ p H2 acc, H0 p = none → Ex H0 H2 → H2 p = some (.lst acc) → acc.length = xs.length → I p acc H2 → Q (.ref p) H2) : tLc (iTup K tl) (gName j) tYes te vs σ H0 Q := h H0 e0 _ fun H1 e1 =>
  ⟨a, rfl, ⟨xs, ex_t (e0.trans e1) hx⟩, lcI_core (G := fun H => SqT K H a xs) (H := H1) (H0 := H0) (a := a) walk_tup (fun _ _ e h => ex_t e h) hw hz (Ex.refl H1) (ex_t (e0.trans e1) hx) (L H1 (e0.trans e1)) fun p H2 acc hp e h1 h2 h3 => q p H2 acc (fresh_back e1 hp) (e1.trans e) h1 h2 h3⟩
theorem lcI_range {tA : TA} {n : Nat} {j : Nat} {vs : List Nat} {I : Addr → List V → Hp → Prop} (h : EvA tA σ H [.int (n : Nat)]) (hw : ∀ x, wipe ((wipe σ vs).set j (some x)) vs = wipe σ vs) (hz : n ≤ 40000) (L : ∀ H1, Ex H H1 → LcI H1 ((List.range n).map fun (i : Nat) => V.int i) te (fun x => (wipe σ vs).set j (some x)) I)
    {H0 : Hp} (e0 : Ex H H0) {Q : VK} (q : ∀ p H2 acc, H0 p = none → Ex H0 H2 → H2 p = some (.lst acc) → acc.length = n → I p acc H2 → Q (.ref p) H2) : tLc (iRng1 tA) (gName j) tYes te vs σ H0 Q := h H0 e0 _ fun H1 e1 =>
  ⟨(n : Int), rfl, by omega, by omega, by
    have hl : ((List.range n).map fun (i : Nat) => V.int i).length = n := by rw [List.length_map, List.length_range]
    have W : Walk (Itr 0 ((n : Int)).toNat) ((List.range n).map fun (i : Nat) => V.int i).length (fun _ => True) (YAt ((List.range n).map fun (i : Nat) => V.int i)) := by
      rw [hl, Int.toNat_natCast]
      exact (walk_range (lo := 0) (n := n)).mono (fun _ h => h) fun i H x H' hi _ y => ⟨y.1, by rw [y.2, range_at hi]; show some (V.int (i : Int)) = some (V.int (0 + (i : Int))); rw [Int.zero_add]⟩
    exact lcI_core (G := fun _ => True) (H := H1) (H0 := H0) (a := 0) W (fun _ _ _ _ => trivial) hw (by rw [hl]; exact hz) (Ex.refl H1) trivial (L H1 (e0.trans e1)) fun p H2 acc hp e h1 h2 h3 => q p H2 acc (fresh_back e1 hp) (e1.trans e) h1 (h2.trans hl) h3⟩
/-- the items are data -/
theorem lcI_data {xs : List V} {ds : List PyData} {st : V → L2.St} (hl : xs.length = ds.length) (he : ∀ (i : Nat) x d H1, Ex H H1 → xs[i]? = some x → ds[i]? = some d → EvD K te (st x) H1 d) : LcI H xs te st (fun _ acc H' => TdL K H' acc (ds.take acc.length)) where
  hm := fun _ _ _ _ e h => h.ex e
  hu := fun _ _ _ _ _ h1 h => h.keep (tk_upd h1 trivial)
  h0 := fun _ _ _ _ _ => .nil
  he := fun Dl acc x H1 l e _ _ hx h Q q => by
    have hi : acc.length < ds.length := by rw [← hl]; exact (List.getElem?_eq_some_iff.mp hx).1
    refine he acc.length x ds[acc.length] H1 e hx (List.getElem?_eq_getElem hi) H1 (Ex.refl H1) Q fun v H2 e2 t => q v H2 e2 ?_
    rw [List.length_append]
    show TdL K H2 (acc ++ [v]) (ds.take (acc.length + 1))
    rw [List.take_add_one, List.getElem?_eq_getElem hi]
    exact (h.ex e2).append (.one t)
theorem eld_lcL {a : Addr} {xs : List V} {ds : List PyData} {j : Nat} {vs : List Nat} (h : Ev tl σ H (.ref a)) (hx : SqL K H a xs) (hw : ∀ x, wipe ((wipe σ vs).set j (some x)) vs = wipe σ vs) (hz : xs.length ≤ 40000) (hl : xs.length = ds.length)
    (he : ∀ (i : Nat) x d H1, Ex H H1 → xs[i]? = some x → ds[i]? = some d → EvD K te ((wipe σ vs).set j (some x)) H1 d) : EvLD K (tLc (iList K tl) (gName j) tYes te vs) σ H ds := fun H0 e Q q =>
  lcI_list h hx hw hz (fun H1 e1 => lcI_data hl fun i x d H2 e2 => he i x d H2 (e1.trans e2)) e fun p H2 acc hp e2 h1 h2 h3 => q p acc H2 hp e2 h1 (by
    rw [h2, hl, List.take_of_length_le (Nat.le_refl _)] at h3
    exact h3)
theorem eld_lcT {a : Addr} {xs : List V} {ds : List PyData} {j : Nat} {vs : List Nat} (h : Ev tl σ H (.ref a)) (hx : SqT K H a xs) (hw : ∀ x, wipe ((wipe σ vs).set j (some x)) vs = wipe σ vs) (hz : xs.length ≤ 40000) (hl : xs.length = ds.length)
    (he : ∀ (i : Nat) x d H1, Ex H H1 → xs[i]? = some x → ds[i]? = some d → EvD K te ((wipe σ vs).set j (some x)) H1 d) : EvLD K (tLc (iTup K tl) (gName j) tYes te vs) σ H ds := fun H0 e Q q =>
  lcI_tup h hx hw hz (fun H1 e1 => lcI_data hl fun i x d H2 e2 => he i x d H2 (e1.trans e2)) e fun p H2 acc hp e2 h1 h2 h3 => q p acc H2 hp e2 h1 (by
    rw [h2, hl, List.take_of_length_le (Nat.le_refl _)] at h3
    exact h3)
theorem eld_lcTD {es ds : List PyData} {j : Nat} {vs : List Nat} (h : EvD K tl σ H (.tuple es)) (hw : ∀ x, wipe ((wipe σ vs).set j (some x)) vs = wipe σ vs) (hz : es.length ≤ 40000) (hl : es.length = ds.length)
    (he : ∀ (i : Nat) x d e H1, Ex H H1 → es[i]? = some e → Td K H1 x e → ds[i]? = some d → EvD K te ((wipe σ vs).set j (some x)) H1 d) : EvLD K (tLc (iTup K tl) (gName j) tYes te vs) σ H ds := fun H0 e0 Q q => h H0 e0 _ fun v H1 e1 t1 => by
  obtain ⟨a, xs, rfl, hs, ts⟩ := t1.tup_inv
  refine ⟨a, rfl, ⟨xs, hs⟩, lcI_core (G := fun H => SqT K H a xs) (H := H1) (H0 := H0) (a := a) (te := te) walk_tup (fun _ _ e h => ex_t e h) hw (by rw [ts.length]; exact hz) (Ex.refl H1) hs (lcI_data (K := K) (ds := ds) (by rw [ts.length, hl]) fun i x d H2 e2 hx hd => ?_) fun p H2 acc hp e2 h1 h2 h3 => q p acc H2 (fresh_back e1 hp) (e1.trans e2) h1 ?_⟩
  · obtain ⟨e', he', te'⟩ := ts.get' hx
    exact he i x d e' H2 ((e0.trans e1).trans e2) he' (te'.ex e2) hd
  · rw [h2, ts.length, hl, List.take_of_length_le (Nat.le_refl _)] at h3
    exact h3
theorem eld_lcR {n : Nat} {ds : List PyData} {j : Nat} {vs : List Nat} (h : Ev tl σ H (.int (n : Nat))) (hw : ∀ x, wipe ((wipe σ vs).set j (some x)) vs = wipe σ vs) (hz : n ≤ 40000) (hl : n = ds.length)
    (he : ∀ (i : Nat) d H1, Ex H H1 → ds[i]? = some d → EvD K te ((wipe σ vs).set j (some (.int (i : Nat)))) H1 d) : EvLD K (tLc (iRng1 (tCons tl tNil)) (gName j) tYes te vs) σ H ds := fun H0 e Q q =>
  lcI_range (n := n) (ea_cons h ea_nil) hw hz (fun H1 e1 => lcI_data (K := K) (ds := ds) (by rw [List.length_map, List.length_range, hl]) fun i x d H2 e2 hx hd => by
    have hi : i < n := by rw [hl]; exact (List.getElem?_eq_some_iff.mp hd).1
    rw [range_at hi] at hx
    cases hx
    exact he i d H2 (e1.trans e2) hd) e fun p H2 acc hp e2 h1 h2 h3 => q p acc H2 hp e2 h1 (by
    rw [h2, hl, List.take_of_length_le (Nat.le_refl _)] at h3
    exact h3)
/-- tuple(a new list) -/
theorem ed_tupN {ds : List PyData} (h : EvLD K te σ H ds) : EvD K (tCB (Ru.rTupS K) (tCons te tNil)) σ H (.tuple ds) := fun H1 e Q q =>
  h H1 e _ fun p vs H2 hp e2 h2 t2 => ⟨p, vs, rfl, Or.inl ⟨SqL.of h2, fun l hl => q _ _ (e2.trans (Ex.new hl)) (.tup (.inl (.inl upd_same)) (t2.ex (Ex.new hl)))⟩⟩
theorem ev_anyL {a : Addr} {as : List Addr} (ha : Ev ta σ H (.ref a)) (hs : SqL K H a (as.map V.ref)) (bs : List Bool) (hl : bs.length = as.length) (hi : ∀ (i : Nat) (l : Addr), as[i]? = some l → ∃ ys, SqL K H l ys ∧ bs[i]? = some (!ys.isEmpty)) : Ev (tCB (Ru.rAnyL K) (tCons ta tNil)) σ H (.bl (bs.any id)) := fun H1 e Q q =>
  ha H1 e _ fun H2 e2 => ⟨a, as, bs, rfl, ex_l (e.trans e2) hs, hl, fun i l h => by
    obtain ⟨ys, h1, h2⟩ := hi i l h
    exact ⟨ys, ex_l (e.trans e2) h1, h2⟩, q H2 e2⟩
theorem made_ex {H1 H' : Hp} {x dx : Addr} {o o2 : HO} (hx : H1 x = none) (hd : H1 dx = none) (hf : ∀ y o', (upd (upd H1 dx o2) x o) y = some o' → y ≠ x → H' y = some o') : Ex H1 H' := fun b ob hb => by
  have h1 : b ≠ x := fun q => by rw [q, hx] at hb; cases hb
  have h2 : b ≠ dx := fun q => by rw [q, hd] at hb; cases hb
  exact hf b ob (by rw [upd_ne h1, upd_ne h2]; exact hb) h1
theorem eld_listT {ds : List PyData} (h : EvD K ta σ H (.tuple ds)) : EvLD K (tCB (rListS K) (tCons ta tNil)) σ H ds := fun H1 e Q q => h H1 e _ fun v H2 e2 t => by
  obtain ⟨a, xs, rfl, hs, ts⟩ := t.tup_inv
  exact ⟨a, xs, rfl, Or.inr hs, fun l hl => q l xs _ (fresh_back e2 hl) (e2.trans (Ex.new hl)) upd_same (ts.ex (Ex.new hl))⟩
theorem q_fldLD {a C dx : Addr} {fs : List (Str × V)} {f : Str} {ds : List PyData} (hv : EvLD K tb σ H ds) (ho : Ev ta σ H (.ref a)) (h : H a = some (.ins C dx fs)) (c : Cls K C) (n : NoAttr K C f) (hl : fs.length < 1000)
    (k : ∀ p xs H1, H p = none → Ex H H1 → H1 p = some (.lst xs) → TdL K H1 xs ds → tz E σ (upd H1 a (.ins C dx (putF f (.ref p) fs)))) : tSeq (sFld K ta tb f) tz E σ H :=
  hv H (Ex.refl H) _ fun p xs H1 hp e1 h1 t1 => ho H1 e1 _ fun H2 e2 => ⟨a, C, dx, fs, rfl, (e1.trans e2) _ _ h, c, n, hl, k p xs H2 hp (e1.trans e2) (e2 _ _ h1) (t1.ex e2)⟩
theorem s_fldLD {a C dx : Addr} {fs : List (Str × V)} {f : Str} {ds : List PyData} (hv : EvLD K tb σ H ds) (ho : Ev ta σ H (.ref a)) (h : H a = some (.ins C dx fs)) (c : Cls K C) (n : NoAttr K C f) (hl : fs.length < 1000)
    (k : ∀ p xs H1, H p = none → Ex H H1 → H1 p = some (.lst xs) → TdL K H1 xs ds → E.nx σ (upd H1 a (.ins C dx (putF f (.ref p) fs)))) : sFld K ta tb f E σ H :=
  hv H (Ex.refl H) _ fun p xs H1 hp e1 h1 t1 => ho H1 e1 _ fun H2 e2 => ⟨a, C, dx, fs, rfl, (e1.trans e2) _ _ h, c, n, hl, k p xs H2 hp (e1.trans e2) (e2 _ _ h1) (t1.ex e2)⟩
/-- [list(x) for x in tuple of tuples] -/
theorem te_newLists {ls : List (List PyData)} {j : Nat} {vs : List Nat} (h : EvD K tl σ H (.tuple (ls.map .tuple))) (hw : ∀ x, wipe ((wipe σ vs).set j (some x)) vs = wipe σ vs) (hv : ∀ x : V, ((wipe σ vs).set j (some x))[j]? = some (some x)) (hz : ls.length ≤ 40000) {H0 : Hp} (e0 : Ex H H0) {Q : VK}
    (q : ∀ p H2 (as : List Addr), H0 p = none → Ex H0 H2 → H2 p = some (.lst (as.map V.ref)) → as.length = ls.length → as.Nodup → (∀ a ∈ as, a ≠ p ∧ H0 a = none) → (∀ (i : Nat) a d, as[i]? = some a → ls[i]? = some d → ∃ zs, H2 a = some (.lst zs) ∧ TdL K H2 zs d) → Q (.ref p) H2) :
    tLc (iTup K tl) (gName j) tYes (tCB (rListS K) (tCons (tVar j) tNil)) vs σ H0 Q := h H0 e0 _ fun v H1 e1 t1 => by
  obtain ⟨a, xs, rfl, hs, ts⟩ := t1.tup_inv
  have hxl : xs.length = ls.length := by rw [ts.length, List.length_map]
  let I : Addr → List V → Hp → Prop := fun Dl acc H' => ∃ as : List Addr, acc = as.map V.ref ∧ as.Nodup ∧ (∀ a ∈ as, a ≠ Dl ∧ H1 a = none ∧ H' a ≠ none) ∧ ∀ (i : Nat) a d, as[i]? = some a → ls[i]? = some d → ∃ zs, H' a = some (.lst zs) ∧ TdL K H' zs d
  have L : LcI H1 xs (tCB (rListS K) (tCons (tVar j) tNil)) (fun x => (wipe σ vs).set j (some x)) I := {
    hm := fun Dl acc H2 H3 e ⟨as, h1, h2, h3, h4⟩ => ⟨as, h1, h2, fun a ha => ⟨(h3 a ha).1, (h3 a ha).2.1, fun z => (h3 a ha).2.2 (fresh_back e z)⟩, fun i a d hi hd => by
      obtain ⟨zs, z1, z2⟩ := h4 i a d hi hd
      exact ⟨zs, e _ _ z1, z2.ex e⟩⟩
    hu := fun Dl acc H2 ys o hD ⟨as, h1, h2, h3, h4⟩ => ⟨as, h1, h2, fun a ha => ⟨(h3 a ha).1, (h3 a ha).2.1, by rw [upd_ne (h3 a ha).1]; exact (h3 a ha).2.2⟩, fun i a d hi hd => by
      obtain ⟨zs, z1, z2⟩ := h4 i a d hi hd
      exact ⟨zs, by rw [upd_ne (h3 a (List.mem_of_getElem? hi)).1]; exact z1, z2.keep (tk_upd hD trivial)⟩⟩
    h0 := fun Dl H2 _ _ _ => ⟨[], rfl, List.nodup_nil, (fun _ h => nomatch h), fun i _ _ h _ => by simp at h⟩
    he := fun Dl acc x H2 l e hD hDl hx ⟨as, h1, h2, h3, h4⟩ Q' q' => by
      have hal : acc.length = as.length := by rw [h1, List.length_map]
      obtain ⟨d, hd, td⟩ := (ts.ex e).get' hx
      rw [List.getElem?_map] at hd
      obtain ⟨dd, hdd, rfl⟩ := Option.map_eq_some_iff.mp hd
      refine eld_listT (ed_var (hv x) td) H2 (Ex.refl H2) Q' fun p zs H3 hp e3 hp3 t3 => q' _ H3 e3 ⟨as ++ [p], by rw [h1, List.map_append] <;> rfl, ?_, ?_, ?_⟩
      · rw [List.nodup_append]
        refine ⟨h2, List.nodup_cons.mpr ⟨(fun z => nomatch z), List.nodup_nil⟩, fun b hb c hc => ?_⟩
        rw [List.mem_singleton] at hc
        subst hc
        exact fun z => (h3 b hb).2.2 (z ▸ hp)
      · intro b hb
        rw [List.mem_append, List.mem_singleton] at hb
        rcases hb with hb | rfl
        · exact ⟨(h3 b hb).1, (h3 b hb).2.1, fun z => (h3 b hb).2.2 (fresh_back e3 z)⟩
        · exact ⟨(fun z => by rw [z, hDl] at hp; cases hp), fresh_back e hp, (by rw [hp3]; exact fun z => nomatch z)⟩
      · intro i b d' hi hd'
        by_cases hlt : i < as.length
        · rw [List.getElem?_append_left hlt] at hi
          obtain ⟨zs', z1, z2⟩ := h4 i b d' hi hd'
          exact ⟨zs', e3 _ _ z1, z2.ex e3⟩
        · rw [List.getElem?_append_right (by omega)] at hi
          have h0 : i - as.length = 0 := by
            have := (List.getElem?_eq_some_iff.mp hi).1
            simp at this
            omega
          rw [h0] at hi
          cases hi
          have hi2 : i = acc.length := by omega
          rw [hi2, hdd] at hd'
          cases hd'
          exact ⟨zs, hp3, t3⟩ }
  refine ⟨a, rfl, ⟨xs, hs⟩, lcI_core (G := fun H => SqT K H a xs) (H := H1) (H0 := H0) (a := a) walk_tup (fun _ _ e h => ex_t e h) hw (by rw [hxl]; exact hz) (Ex.refl H1) hs L fun p H2 acc hp e2 h1 h2 h3 => ?_⟩
  obtain ⟨as, g1, g2', g3, g4'⟩ := h3
  subst g1
  exact q p H2 as (fresh_back e1 hp) (e1.trans e2) h1 (by rw [← hxl, ← h2, List.length_map]) g2' (fun b hb => ⟨(g3 b hb).1, fresh_back e1 (g3 b hb).2.1⟩) g4'
theorem st_keep {a i j : Nat} {x : Option (Option V)} {u v : Option V} (h : σ[a]? = x) (h1 : i ≠ a) (h2 : j ≠ a) : ((σ.set i u).set j v)[a]? = x := by rw [List.getElem?_set_ne h2, List.getElem?_set_ne h1]; exact h
theorem st_1 {i j n : Nat} {u v : Option V} (h : σ.length = n) (hi : i < n) (h2 : j ≠ i) : ((σ.set i u).set j v)[i]? = some u := by rw [List.getElem?_set_ne h2, List.getElem?_set_self (by omega)]
theorem st_2 {i j n : Nat} {u v : Option V} (h : σ.length = n) (hj : j < n) : ((σ.set i u).set j v)[j]? = some v := by rw [List.getElem?_set_self (by rw [List.length_set]; omega)]
theorem st_len {i j n : Nat} {u v : Option V} (h : σ.length = n) : ((σ.set i u).set j v).length = n := by rw [List.length_set, List.length_set]; exact h
end
end Rp
set_option Elab.async false
set_option linter.all false
set_option maxRecDepth 100000
set_option maxHeartbeats 4000000
set_option autoImplicit false
/-! A worker, and a draft, newly made. -/
namespace Rp
open PySem PySem.Spec PyProof.Rows L2 Mx Evl Hf
inductive Wr
  | wk | hand | caches | cache | bats | row (j : Nat) | bat (j : Nat)
  deriving DecidableEq
def wantW (K : Frg) (w : Wk) (l : Wr → Addr) : Wr → Option Wn
  | .wk => some (.ins (He.ga K "Worker") (fWk w (l .hand) (l .caches) (l .bats)))
  | .hand => some (.leaf (w.hand.map eB))
  | .caches => some (.refs [l .cache])
  | .cache => some (.leaf (w.cache.map eB))
  | .bats => some (.refs ((List.range w.bats.length).map fun j => l (.row j)))
  | .row j => w.bats[j]?.map fun _ => .refs [l (.bat j)]
  | .bat j => w.bats[j]?.map fun b => .leaf (b.map eB)
structure RepW (K : Frg) (H : Hp) (l : Wr → Addr) (w : Wk) : Prop where
  sat : ∀ r x, wantW K w l r = some x → Sat K H (l r) x
  inj : ∀ r r', (wantW K w l r).isSome = true → (wantW K w l r').isSome = true → l r = l r' → r = r'
  dead : ∀ r, wantW K w l r = none → l r = l .wk
theorem RepW.ex {K : Frg} {H H' : Hp} {l : Wr → Addr} {w : Wk} (R : RepW K H l w) (e : Ex H H') : RepW K H' l w := ⟨fun r x h => (R.sat r x h).ex e, R.inj, R.dead⟩
def spWorkerI (K : Frg) : Sp := fun vs H Q _ => ∃ a dx v w, vs = [.ref a, v] ∧ H a = some (.ins (He.ga K "Worker") dx []) ∧ Td K H v (eWk w) ∧ w.bats.length ≤ 100 ∧
  ∀ H' l, (∀ x o, H x = some o → x ≠ a → H' x = some o) → RepW K H' l w → l .wk = a → (∀ r, l r = a ∨ H (l r) = none) → (∀ r, H' (l r) ≠ none) → Q .non H'
section
variable {K : Frg} {mg : Str → Option Value} {w : World} {σ : L2.St} {H : Hp} {ta tb tc te tl ti : TE} {s m : Addr} {M : MC} {loc : Lc} {D : DS} {t : Nat} {wk : Wk} {E : Ends} {tz : TS} {tt : TT}
theorem te_newRows {ls : List (List PyData)} {j j2 : Nat} {vs vs2 : List Nat} (h : EvD K tl σ H (.tuple (ls.map fun d => .tuple [.tuple d]))) (hw : ∀ x, wipe ((wipe σ vs).set j (some x)) vs = wipe σ vs) (hv : ∀ x : V, ((wipe σ vs).set j (some x))[j]? = some (some x)) (hz : ls.length ≤ 40000)
    (hw2 : ∀ y x, wipe ((wipe ((wipe σ vs).set j (some y)) vs2).set j2 (some x)) vs2 = wipe ((wipe σ vs).set j (some y)) vs2) (hv2 : ∀ y x : V, ((wipe ((wipe σ vs).set j (some y)) vs2).set j2 (some x))[j2]? = some (some x)) {H0 : Hp} (e0 : Ex H H0) {Q : VK}
    (q : ∀ p H2 (as : List (Addr × Addr)), H0 p = none → Ex H0 H2 → H2 p = some (.lst (as.map fun a => V.ref a.1)) → as.length = ls.length → (∀ (i j : Nat) a b, as[i]? = some a → as[j]? = some b → (a.1 = b.1 → i = j) ∧ (a.2 = b.2 → i = j) ∧ a.1 ≠ b.2) → (∀ a ∈ as, (a.1 ≠ p ∧ H0 a.1 = none) ∧ a.2 ≠ p ∧ H0 a.2 = none) →
      (∀ (i : Nat) a d, as[i]? = some a → ls[i]? = some d → H2 a.1 = some (.lst [.ref a.2]) ∧ ∃ zs, H2 a.2 = some (.lst zs) ∧ TdL K H2 zs d) → Q (.ref p) H2) :
    tLc (iTup K tl) (gName j) tYes (tLc (iTup K (tVar j)) (gName j2) tYes (tCB (rListS K) (tCons (tVar j2) tNil)) vs2) vs σ H0 Q := h H0 e0 _ fun H1v H1 e1 t1 => by
  obtain ⟨a, xs, rfl, hs, ts⟩ := t1.tup_inv
  have hxl : xs.length = ls.length := by rw [ts.length, List.length_map]
  let I : Addr → List V → Hp → Prop := fun Dl acc H' => ∃ as : List (Addr × Addr), acc = as.map (fun a => V.ref a.1) ∧ (∀ (i j : Nat) a b, as[i]? = some a → as[j]? = some b → (a.1 = b.1 → i = j) ∧ (a.2 = b.2 → i = j) ∧ a.1 ≠ b.2) ∧ (∀ a ∈ as, (a.1 ≠ Dl ∧ H1 a.1 = none ∧ H' a.1 ≠ none) ∧ a.2 ≠ Dl ∧ H1 a.2 = none ∧ H' a.2 ≠ none) ∧
    ∀ (i : Nat) a d, as[i]? = some a → ls[i]? = some d → H' a.1 = some (.lst [.ref a.2]) ∧ ∃ zs, H' a.2 = some (.lst zs) ∧ TdL K H' zs d
  have L : LcI H1 xs (tLc (iTup K (tVar j)) (gName j2) tYes (tCB (rListS K) (tCons (tVar j2) tNil)) vs2) (fun x => (wipe σ vs).set j (some x)) I := {
    hm := fun Dl acc H2 H3 e ⟨as, h1, h2, h3, h4⟩ => ⟨as, h1, h2, fun a ha => ⟨⟨(h3 a ha).1.1, (h3 a ha).1.2.1, fun z => (h3 a ha).1.2.2 (fresh_back e z)⟩, (h3 a ha).2.1, (h3 a ha).2.2.1, fun z => (h3 a ha).2.2.2 (fresh_back e z)⟩, fun i a d hi hd => by
      obtain ⟨z0, zs, z1, z2⟩ := h4 i a d hi hd
      exact ⟨e _ _ z0, zs, e _ _ z1, z2.ex e⟩⟩
    hu := fun Dl acc H2 ys o hD ⟨as, h1, h2, h3, h4⟩ => ⟨as, h1, h2, fun a ha => ⟨⟨(h3 a ha).1.1, (h3 a ha).1.2.1, by rw [upd_ne (h3 a ha).1.1]; exact (h3 a ha).1.2.2⟩, (h3 a ha).2.1, (h3 a ha).2.2.1, by rw [upd_ne (h3 a ha).2.1]; exact (h3 a ha).2.2.2⟩, fun i a d hi hd => by
      obtain ⟨z0, zs, z1, z2⟩ := h4 i a d hi hd
      have hm := h3 a (List.mem_of_getElem? hi)
      exact ⟨by rw [upd_ne hm.1.1]; exact z0, zs, by rw [upd_ne hm.2.1]; exact z1, z2.keep (tk_upd hD trivial)⟩⟩
    h0 := fun Dl H2 _ _ _ => ⟨[], rfl, (fun i j _ _ h _ => by simp at h), (fun _ h => nomatch h), fun i _ _ h _ => by simp at h⟩
    he := fun Dl acc x H2 l e hD hDl hx ⟨as, h1, h2, h3, h4⟩ Q' q' => by
      have hal : acc.length = as.length := by rw [h1, List.length_map]
      obtain ⟨d, hd, td⟩ := (ts.ex e).get' hx
      rw [List.getElem?_map] at hd
      obtain ⟨dd, hdd, rfl⟩ := Option.map_eq_some_iff.mp hd
      refine te_newLists (K := K) (ls := [dd]) (ed_var (hv x) td) (hw2 x) (hv2 x) (Nat.le_of_ble_eq_true rfl) (Ex.refl H2) fun p H3 cs hp e3 hp3 c1 c2 c3 c4 => ?_
      obtain ⟨c, rfl⟩ : ∃ c, cs = [c] := by
        cases cs with
        | nil => cases c1
        | cons c r =>
          cases r with
          | nil => exact ⟨c, rfl⟩
          | cons _ _ => simp at c1
      obtain ⟨zs, hc3, t3⟩ := c4 0 c dd rfl rfl
      obtain ⟨hcp, hc⟩ := c3 c (List.mem_singleton.mpr rfl)
      have out : ∀ b : Addr × Addr, b ∈ as → b.1 ≠ p ∧ b.1 ≠ c ∧ b.2 ≠ p ∧ b.2 ≠ c := fun b hb => ⟨fun z => (h3 b hb).1.2.2 (z ▸ hp), fun z => (h3 b hb).1.2.2 (z ▸ hc), fun z => (h3 b hb).2.2.2 (z ▸ hp), fun z => (h3 b hb).2.2.2 (z ▸ hc)⟩
      have at_ : ∀ (i : Nat) b, (as ++ [(p, c)])[i]? = some b → (i < as.length ∧ as[i]? = some b) ∨ (i = as.length ∧ b = (p, c)) := fun i b hi => by
        by_cases hlt : i < as.length
        · rw [List.getElem?_append_left hlt] at hi
          exact .inl ⟨hlt, hi⟩
        · rw [List.getElem?_append_right (by omega)] at hi
          have h0 : i - as.length = 0 := by
            have := (List.getElem?_eq_some_iff.mp hi).1
            simp at this
            omega
          rw [h0] at hi
          cases hi
          exact .inr ⟨by omega, rfl⟩
      refine q' _ H3 e3 ⟨as ++ [(p, c)], by rw [h1, List.map_append] <;> rfl, ?_, ?_, ?_⟩
      · intro i k a b hi hk
        rcases at_ i a hi with ⟨_, hi⟩ | ⟨hi, rfl⟩ <;> rcases at_ k b hk with ⟨_, hk⟩ | ⟨hk, rfl⟩
        · exact h2 i k a b hi hk
        · have o := out a (List.mem_of_getElem? hi)
          exact ⟨fun z => absurd z o.1, fun z => absurd z o.2.2.2, o.2.1⟩
        · have o := out b (List.mem_of_getElem? hk)
          exact ⟨fun z => absurd z.symm o.1, fun z => absurd z.symm o.2.2.2, fun z => o.2.2.1 z.symm⟩
        · exact ⟨fun _ => by omega, fun _ => by omega, fun z => hcp z.symm⟩
      · intro b hb
        rw [List.mem_append, List.mem_singleton] at hb
        rcases hb with hb | rfl
        · exact ⟨⟨(h3 b hb).1.1, (h3 b hb).1.2.1, fun z => (h3 b hb).1.2.2 (fresh_back e3 z)⟩, (h3 b hb).2.1, (h3 b hb).2.2.1, fun z => (h3 b hb).2.2.2 (fresh_back e3 z)⟩
        · exact ⟨⟨(fun z => by rw [show p = Dl from z, hDl] at hp; cases hp), fresh_back e hp, (by rw [hp3]; exact fun z => nomatch z)⟩, (fun z => by rw [show c = Dl from z, hDl] at hc; cases hc), fresh_back e hc, (by rw [hc3]; exact fun z => nomatch z)⟩
      · intro i b d' hi hd'
        rcases at_ i b hi with ⟨_, hi⟩ | ⟨hi2, rfl⟩
        · obtain ⟨z0, zs', z1, z2⟩ := h4 i b d' hi hd'
          exact ⟨e3 _ _ z0, zs', e3 _ _ z1, z2.ex e3⟩
        · rw [hi2, ← hal, hdd] at hd'
          cases hd'
          exact ⟨hp3, zs, hc3, t3⟩ }
  refine ⟨a, rfl, ⟨xs, hs⟩, lcI_core (G := fun H => SqT K H a xs) (H := H1) (H0 := H0) (a := a) walk_tup (fun _ _ e h => ex_t e h) hw (by rw [hxl]; exact hz) (Ex.refl H1) hs L fun p H2 acc hp e2 h1 h2 h3 => ?_⟩
  obtain ⟨as, g1, g2', g3, g4'⟩ := h3
  subst g1
  exact q p H2 as (fresh_back e1 hp) (e1.trans e2) h1 (by rw [← hxl, ← h2, List.length_map]) g2' (fun b hb => ⟨⟨(g3 b hb).1.1, fresh_back e1 (g3 b hb).1.2.1⟩, (g3 b hb).2.1, fresh_back e1 (g3 b hb).2.2.1⟩) g4'
def lW (a hh cc c0 bb : Addr) (as : List (Addr × Addr)) : Wr → Addr
  | .wk => a
  | .hand => hh
  | .caches => cc
  | .cache => c0
  | .bats => bb
  | .row j => (as[j]?.map Prod.fst).getD a
  | .bat j => (as[j]?.map Prod.snd).getD a
theorem q_fldE {f : Str} (h : tb σ H fun y H1 => ta σ H1 fun x H2 => ∃ a C dx fs, x = .ref a ∧ H2 a = some (.ins C dx fs) ∧ Cls K C ∧ NoAttr K C f ∧ fs.length < 1000 ∧ tz E σ (upd H2 a (.ins C dx (putF f y fs)))) : tSeq (sFld K ta tb f) tz E σ H := h
theorem s_fldE {f : Str} (h : tb σ H fun y H1 => ta σ H1 fun x H2 => ∃ a C dx fs, x = .ref a ∧ H2 a = some (.ins C dx fs) ∧ Cls K C ∧ NoAttr K C f ∧ fs.length < 1000 ∧ E.nx σ (upd H2 a (.ins C dx (putF f y fs)))) : sFld K ta tb f E σ H := h
def w1 (w : Wk) : List (Str × V) := [("status", .str (rnS w.run))]
def w2 (w : Wk) : List (Str × V) := [("status", .str (rnS w.run)), ("at", .int w.pc)]
def w3 (w : Wk) : List (Str × V) := [("status", .str (rnS w.run)), ("at", .int w.pc), ("phase", .str (phS w.ph))]
def w4 (w : Wk) (h : Addr) : List (Str × V) := [("status", .str (rnS w.run)), ("at", .int w.pc), ("phase", .str (phS w.ph)), ("hand", .ref h)]
def w5 (w : Wk) (h c : Addr) : List (Str × V) := [("status", .str (rnS w.run)), ("at", .int w.pc), ("phase", .str (phS w.ph)), ("hand", .ref h), ("caches", .ref c)]
theorem pw1 {w : Wk} : putF "status" (.str (rnS w.run)) [] = w1 w := rfl
theorem pw2 {w : Wk} : putF "at" (.int (w.pc : Int)) (w1 w) = w2 w := by
  unfold w1 w2
  rw [putF_ne (by decide +kernel)] <;> rfl
theorem pw3 {w : Wk} : putF "phase" (.str (phS w.ph)) (w2 w) = w3 w := by
  unfold w2 w3
  rw [putF_ne (by decide +kernel), putF_ne (by decide +kernel)] <;> rfl
theorem pw4 {w : Wk} {h : Addr} : putF "hand" (.ref h) (w3 w) = w4 w h := by
  unfold w3 w4
  rw [putF_ne (by decide +kernel), putF_ne (by decide +kernel), putF_ne (by decide +kernel)] <;> rfl
theorem pw5 {w : Wk} {h c : Addr} : putF "caches" (.ref c) (w4 w h) = w5 w h c := by
  unfold w4 w5
  rw [putF_ne (by decide +kernel), putF_ne (by decide +kernel), putF_ne (by decide +kernel), putF_ne (by decide +kernel)] <;> rfl
theorem pw6 {w : Wk} {h c b : Addr} : putF "batches" (.ref b) (w5 w h c) = fWk w h c b := by
  unfold w5 fWk
  rw [putF_ne (by decide +kernel), putF_ne (by decide +kernel), putF_ne (by decide +kernel), putF_ne (by decide +kernel), putF_ne (by decide +kernel)] <;> rfl
theorem lW_row {a hh cc c0 bb : Addr} {as : List (Addr × Addr)} {j : Nat} {x : Addr × Addr} (h : as[j]? = some x) : lW a hh cc c0 bb as (.row j) = x.1 := by
  show (as[j]?.map Prod.fst).getD a = _
  rw [h] <;> rfl
theorem lW_bat {a hh cc c0 bb : Addr} {as : List (Addr × Addr)} {j : Nat} {x : Addr × Addr} (h : as[j]? = some x) : lW a hh cc c0 bb as (.bat j) = x.2 := by
  show (as[j]?.map Prod.snd).getD a = _
  rw [h] <;> rfl
theorem repW_of {H : Hp} {a dx hh cc c0 bb : Addr} {as : List (Addr × Addr)} {w : Wk} {zs cs : List V} (hl : as.length = w.bats.length) (ha : H a = some (.ins (He.ga K "Worker") dx (fWk w hh cc bb))) (h1 : H hh = some (.lst zs)) (t1 : TdL K H zs (w.hand.map eB))
    (h2 : H cc = some (.lst [.ref c0])) (h3 : H c0 = some (.lst cs)) (t3 : TdL K H cs (w.cache.map eB)) (h4 : H bb = some (.lst (as.map fun x => V.ref x.1)))
    (h5 : ∀ (i : Nat) x d, as[i]? = some x → w.bats[i]? = some d → H x.1 = some (.lst [.ref x.2]) ∧ ∃ zs, H x.2 = some (.lst zs) ∧ TdL K H zs (d.map eB))
    (n1 : a ≠ hh ∧ a ≠ cc ∧ a ≠ c0 ∧ a ≠ bb ∧ hh ≠ cc ∧ hh ≠ c0 ∧ hh ≠ bb ∧ cc ≠ c0 ∧ cc ≠ bb ∧ c0 ≠ bb) (n2 : ∀ x ∈ as, (x.1 ≠ a ∧ x.1 ≠ hh ∧ x.1 ≠ cc ∧ x.1 ≠ c0 ∧ x.1 ≠ bb) ∧ x.2 ≠ a ∧ x.2 ≠ hh ∧ x.2 ≠ cc ∧ x.2 ≠ c0 ∧ x.2 ≠ bb)
    (n3 : ∀ (i j : Nat) a b, as[i]? = some a → as[j]? = some b → (a.1 = b.1 → i = j) ∧ (a.2 = b.2 → i = j) ∧ a.1 ≠ b.2) : RepW K H (lW a hh cc c0 bb as) w := by
  have g : ∀ {j : Nat} {d : List Blk}, w.bats[j]? = some d → ∃ x, as[j]? = some x ∧ x ∈ as := fun {j d} h => by
    have hj : j < as.length := by rw [hl]; exact (List.getElem?_eq_some_iff.mp h).1
    exact ⟨as[j], List.getElem?_eq_getElem hj, List.getElem_mem hj⟩
  refine ⟨fun r x h => ?_, fun r r' hr hr' q => ?_, fun r h => ?_⟩
  rotate_left 2
  · cases r with
    | row j =>
      have hj : w.bats[j]? = none := Option.map_eq_none_iff.mp h
      have hj2 : as[j]? = none := List.getElem?_eq_none (by have := List.getElem?_eq_none_iff.mp hj; omega)
      show (as[j]?.map Prod.fst).getD a = a
      rw [hj2] <;> rfl
    | bat j =>
      have hj : w.bats[j]? = none := Option.map_eq_none_iff.mp h
      have hj2 : as[j]? = none := List.getElem?_eq_none (by have := List.getElem?_eq_none_iff.mp hj; omega)
      show (as[j]?.map Prod.snd).getD a = a
      rw [hj2] <;> rfl
    | _ => cases h
  · cases r with
    | wk => cases h; exact ⟨dx, ha⟩
    | hand => cases h; exact ⟨zs, h1, t1⟩
    | caches => cases h; exact h2
    | cache => cases h; exact ⟨cs, h3, t3⟩
    | bats =>
      cases h
      show H bb = some (.lst (((List.range w.bats.length).map fun j => lW a hh cc c0 bb as (.row j)).map V.ref))
      rw [h4]
      congr 2
      apply List.ext_getElem?
      intro i
      rw [List.getElem?_map, List.getElem?_map]
      by_cases hi : i < w.bats.length
      · obtain ⟨x, hx, _⟩ := g (List.getElem?_eq_getElem hi)
        rw [hx, range_at hi, lW_row hx] <;> rfl
      · rw [List.getElem?_eq_none (by omega), List.getElem?_eq_none (by rw [List.length_map, List.length_range]; omega)] <;> rfl
    | row j =>
      obtain ⟨d, hd, rfl⟩ := Option.map_eq_some_iff.mp h
      obtain ⟨x, hx, _⟩ := g hd
      rw [lW_row hx]
      show H x.1 = some (.lst [.ref (lW a hh cc c0 bb as (.bat j))])
      rw [lW_bat hx]
      exact (h5 j x d hx hd).1
    | bat j =>
      obtain ⟨d, hd, rfl⟩ := Option.map_eq_some_iff.mp h
      obtain ⟨x, hx, _⟩ := g hd
      rw [lW_bat hx]
      exact (h5 j x d hx hd).2
  · obtain ⟨m1, m2, m3, m4, m5, m6, m7, m8, m9, m10⟩ := n1
    have gr : ∀ j, (wantW K w (lW a hh cc c0 bb as) (.row j)).isSome = true → ∃ x, as[j]? = some x ∧ x ∈ as := fun j h => by
      obtain ⟨y, hy⟩ := Option.isSome_iff_exists.mp h
      obtain ⟨d, hd, _⟩ := Option.map_eq_some_iff.mp hy
      exact g hd
    have gb : ∀ j, (wantW K w (lW a hh cc c0 bb as) (.bat j)).isSome = true → ∃ x, as[j]? = some x ∧ x ∈ as := fun j h => by
      obtain ⟨y, hy⟩ := Option.isSome_iff_exists.mp h
      obtain ⟨d, hd, _⟩ := Option.map_eq_some_iff.mp hy
      exact g hd
    cases r with
    | row j =>
      obtain ⟨x, hx, mx⟩ := gr j hr
      have nx := n2 x mx
      rw [lW_row hx] at q
      cases r' with
      | row j' =>
        obtain ⟨y, hy, my⟩ := gr j' hr'
        rw [lW_row hy] at q
        rw [(n3 j j' x y hx hy).1 q]
      | bat j' =>
        obtain ⟨y, hy, my⟩ := gb j' hr'
        rw [lW_bat hy] at q
        exact absurd q (n3 j j' x y hx hy).2.2
      | _ => first | exact absurd q nx.1.1 | exact absurd q nx.1.2.1 | exact absurd q nx.1.2.2.1 | exact absurd q nx.1.2.2.2.1 | exact absurd q nx.1.2.2.2.2
    | bat j =>
      obtain ⟨x, hx, mx⟩ := gb j hr
      have nx := n2 x mx
      rw [lW_bat hx] at q
      cases r' with
      | row j' =>
        obtain ⟨y, hy, my⟩ := gr j' hr'
        rw [lW_row hy] at q
        exact absurd q.symm (n3 j' j y x hy hx).2.2
      | bat j' =>
        obtain ⟨y, hy, my⟩ := gb j' hr'
        rw [lW_bat hy] at q
        rw [(n3 j j' x y hx hy).2.1 q]
      | _ => first | exact absurd q nx.2.1 | exact absurd q nx.2.2.1 | exact absurd q nx.2.2.2.1 | exact absurd q nx.2.2.2.2.1 | exact absurd q nx.2.2.2.2.2
    | _ =>
      cases r' with
      | row j' =>
        obtain ⟨y, hy, my⟩ := gr j' hr'
        have ny := n2 y my
        rw [lW_row hy] at q
        first | exact absurd q.symm ny.1.1 | exact absurd q.symm ny.1.2.1 | exact absurd q.symm ny.1.2.2.1 | exact absurd q.symm ny.1.2.2.2.1 | exact absurd q.symm ny.1.2.2.2.2
      | bat j' =>
        obtain ⟨y, hy, my⟩ := gb j' hr'
        have ny := n2 y my
        rw [lW_bat hy] at q
        first | exact absurd q.symm ny.2.1 | exact absurd q.symm ny.2.2.1 | exact absurd q.symm ny.2.2.2.1 | exact absurd q.symm ny.2.2.2.2.1 | exact absurd q.symm ny.2.2.2.2.2
      | _ => first | rfl | exact absurd q m1 | exact absurd q m2 | exact absurd q m3 | exact absurd q m4 | exact absurd q m5 | exact absurd q m6 | exact absurd q m7 | exact absurd q m8 | exact absurd q m9 | exact absurd q m10 | exact absurd q.symm m1 | exact absurd q.symm m2 | exact absurd q.symm m3 | exact absurd q.symm m4 | exact absurd q.symm m5 | exact absurd q.symm m6 | exact absurd q.symm m7 | exact absurd q.symm m8 | exact absurd q.symm m9 | exact absurd q.symm m10
/-- only the object at a is written, others are made -/
structure Only (a : Addr) (H H' : Hp) : Prop where
  fr : ∀ b o, H b = some o → b ≠ a → H' b = some o
  dm : ∀ b, H b ≠ none → H' b ≠ none
  tk : Tk H H'
theorem Only.refl {a : Addr} {H : Hp} : Only a H H := ⟨fun _ _ h _ => h, fun _ h => h, .refl H⟩
theorem Only.of_ex {a : Addr} {H H' : Hp} (e : Ex H H') : Only a H H' := ⟨fun b o h _ => e b o h, fun b h q => h (fresh_back e q), .of_ex e⟩
theorem Only.trans {a : Addr} {H H1 H2 : Hp} (x : Only a H H1) (y : Only a H1 H2) : Only a H H2 := ⟨fun b o h n => y.fr b o (x.fr b o h n) n, fun b h => y.dm b (x.dm b h), x.tk.trans y.tk⟩
theorem Only.upd {a : Addr} {H H1 : Hp} (x : Only a H H1) {o u : HO} (h : H1 a = some o) (n : nTup o) : Only a H (upd H1 a u) := x.trans ⟨fun b o' hb hn => by rw [upd_ne hn]; exact hb, fun b hb => by
  by_cases e : b = a
  · rw [e, upd_same]; exact fun z => nomatch z
  · rw [upd_ne e]; exact hb, tk_upd h n⟩
theorem Only.none {a : Addr} {H H' : Hp} (x : Only a H H') {b : Addr} (h : H' b = none) : H b = none := by
  cases q : H b with
  | none => rfl
  | some o => exact absurd h (x.dm b (by rw [q]; exact fun z => nomatch z))
end
end Rp
set_option Elab.async false
set_option linter.all false
set_option maxRecDepth 100000
set_option maxHeartbeats 4000000
set_option autoImplicit false
/-! A draft, newly made. -/
namespace Rp
open PySem PySem.Spec PyProof.Rows L2 Mx Evl Hf
def lD (a p1 p2 pw pa pf : Addr) (ls : List (Wr → Addr)) (as : List Addr) : Lc
  | .drf => a
  | .pages => p1
  | .slots => p2
  | .wks => pw
  | .arrs => pa
  | .flight => pf
  | .arr j => (as[j]?).getD a
  | .wk i => (ls[i]?).getD (fun _ => a) .wk
  | .hand i => (ls[i]?).getD (fun _ => a) .hand
  | .caches i => (ls[i]?).getD (fun _ => a) .caches
  | .cache i => (ls[i]?).getD (fun _ => a) .cache
  | .bats i => (ls[i]?).getD (fun _ => a) .bats
  | .row i j => (ls[i]?).getD (fun _ => a) (.row j)
  | .bat i j => (ls[i]?).getD (fun _ => a) (.bat j)
def phR : Rl → Nat
  | .drf => 0
  | .pages => 1
  | .slots => 2
  | .arrs => 4
  | .arr _ => 4
  | .flight => 5
  | _ => 3
/-- a worker's role -/
def wrO : Rl → Option (Nat × Wr)
  | .wk i => some (i, .wk)
  | .hand i => some (i, .hand)
  | .caches i => some (i, .caches)
  | .cache i => some (i, .cache)
  | .bats i => some (i, .bats)
  | .row i j => some (i, .row j)
  | .bat i j => some (i, .bat j)
  | _ => none
theorem wrO_inj {r r' : Rl} {x : Nat × Wr} (h : wrO r = some x) (h' : wrO r' = some x) : r = r' := by
  cases r <;> cases h <;> cases r' <;> cases h' <;> rfl
section
variable {K : Frg} {D : DS} {a p1 p2 pw pa pf : Addr} {ls : List (Wr → Addr)} {as : List Addr} {H : Hp}
theorem lD_wr {r : Rl} {i : Nat} {x : Wr} {l : Wr → Addr} (h : wrO r = some (i, x)) (hl : ls[i]? = some l) : lD a p1 p2 pw pa pf ls as r = l x := by
  cases r <;> cases h <;> simp only [lD, hl, Option.getD_some]
theorem want_wr {loc : Lc} {r : Rl} {i : Nat} {x : Wr} {w : Wk} {l : Wr → Addr} (h : wrO r = some (i, x)) (hw : D.wks[i]? = some w) (hl : ∀ r y, wrO r = some (i, y) → loc r = l y) : want K D loc r = wantW K w l x := by
  have e1 := hl (.hand i) .hand rfl
  have e2 := hl (.caches i) .caches rfl
  have e3 := hl (.bats i) .bats rfl
  have e4 := hl (.cache i) .cache rfl
  cases r <;> cases h
  case wk => rw [want_wk hw, e1, e2, e3] <;> rfl
  case hand => rw [want_hand hw] <;> rfl
  case caches => rw [want_caches hw, e4] <;> rfl
  case cache => rw [want_cache hw] <;> rfl
  case bats =>
    rw [want_bats hw]
    show _ = some (Wn.refs _)
    congr 2
    exact List.map_congr_left fun j _ => hl (.row i j) (.row j) rfl
  case row j =>
    show (D.wks[i]?).bind _ = w.bats[j]?.map _
    rw [hw, Option.bind_some, hl (.bat i j) (.bat j) rfl]
  case bat j =>
    show (D.wks[i]?).bind _ = w.bats[j]?.map _
    rw [hw] <;> rfl
theorem want_none {loc : Lc} {r : Rl} {i : Nat} {x : Wr} (h : wrO r = some (i, x)) (hw : D.wks[i]? = none) : want K D loc r = none := by
  cases r <;> cases h <;> simp [want, hw]
theorem repD_of {dx : Addr} {x1 x2 x3 : List V} (hL : ls.length = D.wks.length) (hA : as.length = D.arrs.length)
    (h0 : H a = some (.ins (He.ga K "Draft") dx [("own_pages", .ref p1), ("own_slots", .ref p2), ("workers", .ref pw), ("own_arrivals", .ref pa), ("own_flight", .ref pf)]))
    (h1 : H p1 = some (.lst x1)) (t1 : TdL K H x1 (D.pages.map ePg)) (h2 : H p2 = some (.lst x2)) (t2 : TdL K H x2 (D.slots.map eSl)) (h3 : H pf = some (.lst x3)) (t3 : TdL K H x3 (D.fl.map eMs))
    (h4 : H pw = some (.lst (ls.map fun l => V.ref (l .wk)))) (h5 : H pa = some (.lst (as.map V.ref))) (h6 : ∀ (i : Nat) l w, ls[i]? = some l → D.wks[i]? = some w → RepW K H l w)
    (h7 : ∀ (i : Nat) b d, as[i]? = some b → D.arrs[i]? = some d → ∃ zs, H b = some (.lst zs) ∧ TdL K H zs (d.map eB))
    (n1 : ∀ l ∈ ls, ∀ r, l r ≠ pw) (n2 : ∀ (i j : Nat) l l' r r', ls[i]? = some l → ls[j]? = some l' → l r = l' r' → i = j) (n3 : ∀ b ∈ as, b ≠ pa) (n4 : as.Nodup)
    (tm : Addr → Nat) (m0 : tm a = 0) (m1 : tm p1 = 1) (m2 : tm p2 = 2) (m3 : tm pw = 3) (m3' : ∀ l ∈ ls, ∀ r, tm (l r) = 3) (m4 : tm pa = 4) (m4' : ∀ b ∈ as, tm b = 4) (m5 : tm pf = 5) : Rep K H (lD a p1 p2 pw pa pf ls as) D := by
  have gl : ∀ {i : Nat} {w : Wk}, D.wks[i]? = some w → ∃ l, ls[i]? = some l ∧ l ∈ ls := fun {i w} h => by
    have hi : i < ls.length := by rw [hL]; exact (List.getElem?_eq_some_iff.mp h).1
    exact ⟨ls[i], List.getElem?_eq_getElem hi, List.getElem_mem hi⟩
  have ga : ∀ {i : Nat} {w : List Blk}, D.arrs[i]? = some w → ∃ l, as[i]? = some l ∧ l ∈ as := fun {i w} h => by
    have hi : i < as.length := by rw [hA]; exact (List.getElem?_eq_some_iff.mp h).1
    exact ⟨as[i], List.getElem?_eq_getElem hi, List.getElem_mem hi⟩
  have wr : ∀ {r i x}, wrO r = some (i, x) → (want K D (lD a p1 p2 pw pa pf ls as) r).isSome = true → ∃ w l, D.wks[i]? = some w ∧ ls[i]? = some l ∧ l ∈ ls ∧ lD a p1 p2 pw pa pf ls as r = l x ∧ want K D (lD a p1 p2 pw pa pf ls as) r = wantW K w l x := fun {r i x} h hs => by
    cases hw : D.wks[i]? with
    | none => rw [want_none h hw] at hs; cases hs
    | some w =>
      obtain ⟨l, hl, ml⟩ := gl hw
      exact ⟨w, l, rfl, hl, ml, lD_wr h hl, want_wr h hw fun r y hr => lD_wr hr hl⟩
  have la : ∀ {j b}, as[j]? = some b → lD a p1 p2 pw pa pf ls as (.arr j) = b := fun {j b} h => by simp only [lD, h, Option.getD_some]
  have lv : ∀ r, (want K D (lD a p1 p2 pw pa pf ls as) r).isSome = true → tm (lD a p1 p2 pw pa pf ls as r) = phR r := fun r hr => by
    cases hw : wrO r with
    | some x =>
      obtain ⟨w, l, _, _, ml, e, _⟩ := wr hw hr
      rw [e, m3' l ml]
      cases r <;> first | rfl | cases hw
    | none =>
      cases r
      case drf => exact m0
      case pages => exact m1
      case slots => exact m2
      case wks => exact m3
      case arrs => exact m4
      case flight => exact m5
      case arr j =>
        obtain ⟨y, hy⟩ := Option.isSome_iff_exists.mp hr
        obtain ⟨d, hd, _⟩ := Option.map_eq_some_iff.mp hy
        obtain ⟨b, hb, mb⟩ := ga hd
        rw [la hb]
        exact m4' b mb
      all_goals cases hw
  refine ⟨fun r x h => ?_, fun r r' hr hr' q => ?_, fun r h => ?_⟩
  rotate_left 2
  · cases hw : wrO r with
    | some y =>
      obtain ⟨i, x⟩ := y
      cases hwk : D.wks[i]? with
      | none =>
        have hl : ls[i]? = none := List.getElem?_eq_none (by have := List.getElem?_eq_none_iff.mp hwk; omega)
        refine ⟨.drf, rfl, rfl, ?_⟩
        cases r <;> cases hw <;> simp only [lD, hl, Option.getD_none]
      | some w =>
        obtain ⟨l, hl, ml⟩ := gl hwk
        refine ⟨.wk i, rfl, by rw [want_wk hwk]; rfl, ?_⟩
        rw [lD_wr hw hl, lD_wr (x := .wk) rfl hl]
        exact (h6 i l w hl hwk).dead x (by rw [← want_wr hw hwk fun r y hr => lD_wr hr hl]; exact h)
    | none =>
      cases r
      case arr j =>
        have hj : D.arrs[j]? = none := Option.map_eq_none_iff.mp h
        have hj2 : as[j]? = none := List.getElem?_eq_none (by have := List.getElem?_eq_none_iff.mp hj; omega)
        refine ⟨.drf, rfl, rfl, ?_⟩
        simp only [lD, hj2, Option.getD_none]
      all_goals first | (cases h; done) | (cases hw; done)
  · cases hw : wrO r with
    | some y =>
      obtain ⟨w, l, g1, g2, ml, e1, e2⟩ := wr hw (by rw [h]; rfl)
      rw [e1]
      exact (h6 _ l w g2 g1).sat _ _ (e2.symm.trans h)
    | none =>
      cases r
      case drf => cases h; exact ⟨dx, h0⟩
      case pages => cases h; exact ⟨x1, h1, t1⟩
      case slots => cases h; exact ⟨x2, h2, t2⟩
      case flight => cases h; exact ⟨x3, h3, t3⟩
      case wks =>
        cases h
        show H pw = some (.lst (((List.range D.wks.length).map fun j => lD a p1 p2 pw pa pf ls as (.wk j)).map V.ref))
        rw [h4]
        congr 2
        apply List.ext_getElem?
        intro i
        rw [List.getElem?_map, List.getElem?_map]
        by_cases hi : i < D.wks.length
        · obtain ⟨l, hl, _⟩ := gl (List.getElem?_eq_getElem hi)
          rw [hl, range_at hi, lD_wr (x := .wk) rfl hl] <;> rfl
        · rw [List.getElem?_eq_none (by omega), List.getElem?_eq_none (by rw [List.length_map, List.length_range]; omega)] <;> rfl
      case arrs =>
        cases h
        show H pa = some (.lst (((List.range D.arrs.length).map fun j => lD a p1 p2 pw pa pf ls as (.arr j)).map V.ref))
        rw [h5]
        congr 2
        apply List.ext_getElem?
        intro i
        rw [List.getElem?_map, List.getElem?_map]
        by_cases hi : i < D.arrs.length
        · obtain ⟨l, hl, _⟩ := ga (List.getElem?_eq_getElem hi)
          rw [hl, range_at hi, la hl] <;> rfl
        · rw [List.getElem?_eq_none (by omega), List.getElem?_eq_none (by rw [List.length_map, List.length_range]; omega)] <;> rfl
      case arr j =>
        obtain ⟨d, hd, rfl⟩ := Option.map_eq_some_iff.mp h
        obtain ⟨b, hb, _⟩ := ga hd
        rw [la hb]
        exact h7 j b d hb hd
      all_goals cases hw
  · have hp : phR r = phR r' := by rw [← lv r hr, ← lv r' hr', q]
    cases hw : wrO r with
    | some y =>
      obtain ⟨w, l, g1, g2, ml, e1, e2⟩ := wr hw hr
      cases hw' : wrO r' with
      | some y' =>
        obtain ⟨w', l', g1', g2', ml', e1', e2'⟩ := wr hw' hr'
        rw [e1, e1'] at q
        have hi := n2 _ _ l l' _ _ g2 g2' q
        obtain ⟨i, z⟩ := y
        obtain ⟨i', z'⟩ := y'
        obtain rfl : i = i' := hi
        rw [g2] at g2'
        cases g2'
        rw [g1] at g1'
        cases g1'
        have := (h6 _ l w g2 g1).inj z z' (by rw [← e2]; exact hr) (by rw [← e2']; exact hr') q
        subst this
        exact wrO_inj hw hw'
      | none =>
        have h3 : phR r = 3 := by cases r <;> first | rfl | cases hw
        rw [h3] at hp
        cases r'
        case wks => rw [e1] at q; exact absurd q (n1 l ml _)
        all_goals first | (cases hw'; done) | (cases hp; done)
    | none =>
      cases hw' : wrO r' with
      | some y' =>
        obtain ⟨w', l', g1', g2', ml', e1', e2'⟩ := wr hw' hr'
        have h3 : phR r' = 3 := by cases r' <;> first | rfl | cases hw'
        rw [h3] at hp
        cases r
        case wks => rw [e1'] at q; exact absurd q.symm (n1 l' ml' _)
        all_goals first | (cases hw; done) | (cases hp; done)
      | none =>
        have arr1 : ∀ j, (want K D (lD a p1 p2 pw pa pf ls as) (.arr j)).isSome = true → ∃ b, as[j]? = some b ∧ b ∈ as := fun j h => by
          obtain ⟨y, hy⟩ := Option.isSome_iff_exists.mp h
          obtain ⟨d, hd, _⟩ := Option.map_eq_some_iff.mp hy
          exact ga hd
        cases r <;> first | (cases hw; done) | skip
        case arr j =>
          obtain ⟨b, hb, mb⟩ := arr1 j hr
          cases r' <;> first | (cases hw'; done) | skip
          case arr j' =>
            obtain ⟨c, hc, mc⟩ := arr1 j' hr'
            rw [la hb, la hc] at q
            subst q
            obtain ⟨hj, ej⟩ := List.getElem?_eq_some_iff.mp hb
            obtain ⟨hj', ej'⟩ := List.getElem?_eq_some_iff.mp hc
            have : j = j' := (List.getElem_inj n4).mp (ej.trans ej'.symm)
            rw [this]
          case arrs => rw [la hb] at q; exact absurd q (n3 b mb)
          all_goals cases hp
        case arrs =>
          cases r' <;> first | (cases hw'; done) | skip
          case arr j' =>
            obtain ⟨c, hc, mc⟩ := arr1 j' hr'
            rw [la hc] at q
            exact absurd q.symm (n3 c mc)
          case arrs => rfl
          all_goals cases hp
        all_goals (cases r' <;> first | rfl | (cases hw'; done) | (cases hp; done))
end
section
variable {K : Frg} {mg : Str → Option Value} {w : World} {σ : L2.St} {H : Hp} {ta tb tc te tl ti : TE} {s m : Addr} {M : MC} {loc : Lc} {D : DS} {t : Nat} {wk : Wk} {E : Ends} {tz : TS} {tt : TT}
theorem te_newWorkers {wks : List Wk} {j : Nat} {vs : List Nat} (h : EvD K tl σ H (.tuple (wks.map eWk))) (hw : ∀ x, wipe ((wipe σ vs).set j (some x)) vs = wipe σ vs) (hv : ∀ x : V, ((wipe σ vs).set j (some x))[j]? = some (some x)) (hz : wks.length ≤ 40000) (hb : ∀ w ∈ wks, w.bats.length ≤ 100) {H0 : Hp} (e0 : Ex H H0) {Q : VK}
    (q : ∀ p H2 (ls : List (Wr → Addr)), H0 p = none → Ex H0 H2 → H2 p = some (.lst (ls.map fun l => V.ref (l .wk))) → ls.length = wks.length → (∀ (i : Nat) l w, ls[i]? = some l → wks[i]? = some w → RepW K H2 l w) → (∀ l ∈ ls, ∀ r, l r ≠ p ∧ H0 (l r) = none ∧ H2 (l r) ≠ none) →
      (∀ (i j : Nat) l l' r r', ls[i]? = some l → ls[j]? = some l' → l r = l' r' → i = j) → Q (.ref p) H2) :
    tLc (iTup K tl) (gName j) tYes (tMake (He.ga K "Worker") (spWorkerI K) [] E0 (tCons (tVar j) tNil)) vs σ H0 Q := h H0 e0 _ fun v H1 e1 t1 => by
  obtain ⟨a, xs, rfl, hs, ts⟩ := t1.tup_inv
  have hxl : xs.length = wks.length := by rw [ts.length, List.length_map]
  let I : Addr → List V → Hp → Prop := fun Dl acc H' => ∃ ls : List (Wr → Addr), acc = ls.map (fun l => V.ref (l .wk)) ∧ (∀ (i : Nat) l w, ls[i]? = some l → wks[i]? = some w → RepW K H' l w) ∧ (∀ l ∈ ls, ∀ r, l r ≠ Dl ∧ H1 (l r) = none ∧ H' (l r) ≠ none) ∧
    ∀ (i j : Nat) l l' r r', ls[i]? = some l → ls[j]? = some l' → l r = l' r' → i = j
  have L : LcI H1 xs (tMake (He.ga K "Worker") (spWorkerI K) [] E0 (tCons (tVar j) tNil)) (fun x => (wipe σ vs).set j (some x)) I := {
    hm := fun Dl acc H2 H3 e ⟨ls, h1, h2, h3, h4⟩ => ⟨ls, h1, fun i l w hi hd => (h2 i l w hi hd).ex e, fun l hl r => ⟨(h3 l hl r).1, (h3 l hl r).2.1, fun z => (h3 l hl r).2.2 (fresh_back e z)⟩, h4⟩
    hu := fun Dl acc H2 ys o hD ⟨ls, h1, h2, h3, h4⟩ => ⟨ls, h1, fun i l w hi hd => ⟨fun r x hx => ((h2 i l w hi hd).sat r x hx).keep (upd_ne (h3 l (List.mem_of_getElem? hi) r).1) (tk_upd hD trivial), (h2 i l w hi hd).inj, (h2 i l w hi hd).dead⟩, fun l hl r => ⟨(h3 l hl r).1, (h3 l hl r).2.1, by rw [upd_ne (h3 l hl r).1]; exact (h3 l hl r).2.2⟩, h4⟩
    h0 := fun Dl H2 _ _ _ => ⟨[], rfl, (fun i _ _ h _ => by simp at h), (fun _ h => nomatch h), fun i _ _ _ _ _ h _ => by simp at h⟩
    he := fun Dl acc x H2 l0 e hD hDl hx ⟨ls, h1, h2, h3, h4⟩ Q' q' => by
      have hal : acc.length = ls.length := by rw [h1, List.length_map]
      obtain ⟨d, hd, td⟩ := (ts.ex e).get' hx
      rw [List.getElem?_map] at hd
      obtain ⟨w1, hw1, rfl⟩ := Option.map_eq_some_iff.mp hd
      refine (ea_cons (ev_var (hv x)) ea_nil) H2 (Ex.refl H2) _ fun H3 e3 => fun y dy hy hdy hne => ?_
      have old : ∀ {b : Addr}, (upd (upd H3 dy (.own y)) y (.ins (He.ga K "Worker") dy [])) b = none → H3 b = none := fun {b} hb => by
        have b1 : b ≠ y := fun z => by rw [z, upd_same] at hb; cases hb
        rw [upd_ne b1] at hb
        have b2 : b ≠ dy := fun z => by rw [z, upd_same] at hb; cases hb
        rw [upd_ne b2] at hb
        exact hb
      have em : Ex H3 (upd (upd H3 dy (.own y)) y (.ins (He.ga K "Worker") dy [])) := made_ex hy hdy fun _ _ h _ => h
      refine ⟨y, dy, x, w1, rfl, upd_same, (td.ex e3).ex em, hb w1 (List.mem_of_getElem? hw1), fun H4 l hf R hwk hfr hne4 => ⟨rfl, ?_⟩⟩
      have e4 : Ex H2 H4 := e3.trans (made_ex hy hdy hf)
      have fr2 : ∀ r, H2 (l r) = none := fun r => by
        rcases hfr r with z | z
        · rw [z]; exact fresh_back e3 hy
        · exact fresh_back e3 (old z)
      have at_ : ∀ (i : Nat) b, (ls ++ [l])[i]? = some b → (i < ls.length ∧ ls[i]? = some b) ∨ (i = ls.length ∧ b = l) := fun i b hi => by
        by_cases hlt : i < ls.length
        · rw [List.getElem?_append_left hlt] at hi
          exact .inl ⟨hlt, hi⟩
        · rw [List.getElem?_append_right (by omega)] at hi
          have h0 : i - ls.length = 0 := by
            have := (List.getElem?_eq_some_iff.mp hi).1
            simp at this
            omega
          rw [h0] at hi
          cases hi
          exact .inr ⟨by omega, rfl⟩
      refine q' _ H4 e4 ⟨ls ++ [l], by rw [h1, List.map_append, ← hwk] <;> rfl, fun i b w2 hi hd2 => ?_, fun b hb2 r => ?_, fun i k b c r r' hi hk hq => ?_⟩
      · rcases at_ i b hi with ⟨_, hi2⟩ | ⟨hi2, rfl⟩
        · exact (h2 i b w2 hi2 hd2).ex e4
        · rw [hi2, ← hal, hw1] at hd2
          cases hd2
          exact R
      · rw [List.mem_append, List.mem_singleton] at hb2
        rcases hb2 with hb2 | rfl
        · exact ⟨(h3 b hb2 r).1, (h3 b hb2 r).2.1, fun z => (h3 b hb2 r).2.2 (fresh_back e4 z)⟩
        · refine ⟨fun z => ?_, fresh_back e (fr2 r), hne4 r⟩
          have := fr2 r
          rw [z, hDl] at this
          cases this
      · rcases at_ i b hi with ⟨_, hi2⟩ | ⟨hi2, rfl⟩ <;> rcases at_ k c hk with ⟨_, hk2⟩ | ⟨hk2, rfl⟩
        · exact h4 i k b c r r' hi2 hk2 hq
        · exact absurd (hq ▸ fr2 r') (h3 b (List.mem_of_getElem? hi2) r).2.2
        · exact absurd (hq ▸ fr2 r) (h3 c (List.mem_of_getElem? hk2) r').2.2
        · omega }
  refine ⟨a, rfl, ⟨xs, hs⟩, lcI_core (G := fun H => SqT K H a xs) (H := H1) (H0 := H0) (a := a) walk_tup (fun _ _ e h => ex_t e h) hw (by rw [hxl]; exact hz) (Ex.refl H1) hs L fun p H2 acc hp e2 h1 h2 h3 => ?_⟩
  obtain ⟨ls, g1, g2, g3, g4⟩ := h3
  subst g1
  exact q p H2 ls (fresh_back e1 hp) (e1.trans e2) h1 (by rw [← hxl, ← h2, List.length_map]) g2 (fun b hb r => ⟨(g3 b hb r).1, fresh_back e1 (g3 b hb r).2.1, (g3 b hb r).2.2⟩) g4
def d1 (p : Addr) : List (Str × V) := [("own_pages", .ref p)]
def d2 (p q : Addr) : List (Str × V) := [("own_pages", .ref p), ("own_slots", .ref q)]
def d3 (p q r : Addr) : List (Str × V) := [("own_pages", .ref p), ("own_slots", .ref q), ("workers", .ref r)]
def d4 (p q r u : Addr) : List (Str × V) := [("own_pages", .ref p), ("own_slots", .ref q), ("workers", .ref r), ("own_arrivals", .ref u)]
def d5 (p q r u v : Addr) : List (Str × V) := [("own_pages", .ref p), ("own_slots", .ref q), ("workers", .ref r), ("own_arrivals", .ref u), ("own_flight", .ref v)]
theorem pd1 {p : Addr} : putF "own_pages" (.ref p) [] = d1 p := rfl
theorem pd2 {p q : Addr} : putF "own_slots" (.ref q) (d1 p) = d2 p q := by
  unfold d1 d2
  rw [putF_ne (by decide +kernel)] <;> rfl
theorem pd3 {p q r : Addr} : putF "workers" (.ref r) (d2 p q) = d3 p q r := by
  unfold d2 d3
  rw [putF_ne (by decide +kernel), putF_ne (by decide +kernel)] <;> rfl
theorem pd4 {p q r u : Addr} : putF "own_arrivals" (.ref u) (d3 p q r) = d4 p q r u := by
  unfold d3 d4
  rw [putF_ne (by decide +kernel), putF_ne (by decide +kernel), putF_ne (by decide +kernel)] <;> rfl
theorem pd5 {p q r u v : Addr} : putF "own_flight" (.ref v) (d4 p q r u) = d5 p q r u v := by
  unfold d4 d5
  rw [putF_ne (by decide +kernel), putF_ne (by decide +kernel), putF_ne (by decide +kernel), putF_ne (by decide +kernel)] <;> rfl
/-- when an object was made -/
noncomputable def tmB (G0 G1 G2 G3 G4 : Hp) (b : Addr) : Nat := if (G4 b).isNone then 5 else if (G3 b).isNone then 4 else if (G2 b).isNone then 3 else if (G1 b).isNone then 2 else if (G0 b).isNone then 1 else 0
theorem nn_f {G : Hp} {b : Addr} (h : G b ≠ none) : ¬ ((G b).isNone = true) := by
  cases q : G b with
  | none => exact absurd q h
  | some o => exact fun z => nomatch z
theorem nn_t {G : Hp} {b : Addr} (h : G b = none) : (G b).isNone = true := by rw [h] <;> rfl
end
end Rp
set_option Elab.async false
set_option linter.all false
set_option maxRecDepth 100000
set_option maxHeartbeats 4000000
set_option autoImplicit false
/-! The changes of a draft as statements. -/
namespace Rp
open PySem PySem.Spec PyProof.Rows L2 Mx Evl Hf
section
variable {K : Frg} {mg : Str → Option Value} {w : World} {σ : L2.St} {H : Hp} {ta tb tc te tl ti : TE} {s m : Addr} {M : MC} {loc : Lc} {D : DS} {t : Nat} {wk : Wk} {E : Ends} {tz : TS} {tt : TT}
theorem q_asgE {g : TG} (h : te σ H fun x H1 => g x σ H1 (tz E)) : tSeq (tAsg te g) tz E σ H := h
/-- worker.hand = a new list -/
theorem q_hand {l : List Blk} {xs : List V} (T : Txt K mg w) (S : Stp K H s M loc D) (hw : D.wks[t]? = some wk) (hv : EvL tb σ H xs) (tx : TdL K H xs (l.map eB)) (ho : ∀ H1, Ev ta σ H1 (.ref (loc (.wk t)))) (k : ∀ H1 loc1, Stp K H1 s M loc1 (D.setWk t { wk with hand := l }) → Ext H loc H1 loc1 → tz E σ H1) : tSeq (sFld K ta tb "hand") tz E σ H := by
  refine q_fldE (hv H (Ex.refl H) _ fun p H1 hp e1 h1 => ho H1 H1 (Ex.refl _) _ fun H2 e2 => ?_)
  obtain ⟨dx, hk⟩ := S.rep.atWk hw
  have e12 := e1.trans e2
  refine ⟨_, _, dx, _, rfl, e12 _ _ hk, T.cls_Worker, T.noat_Worker_hand, by show 6 < 1000; decide, ?_⟩
  rw [put_hand]
  have R3 := (S.rep.ex e12).swapHand (w' := { wk with hand := l }) hw rfl rfl (fun r hr => S.rep.fresh hp r hr) (e2 _ _ h1) (tx.ex e12) (dx := dx)
  have x := Ext.swap (c := .hand t) (p := .wk t) (o := .ins (He.ga K "Worker") dx (fWk { wk with hand := l } p (loc (.caches t)) (loc (.bats t)))) (Ext.of_ex (l := loc) e12) (e12 _ _ hk) trivial rfl hp
  exact k _ _ (S.ext x R3) x
/-- worker.caches[0] = a new list -/
theorem q_cache {l : List Blk} (T : Txt K mg w) (S : Stp K H s M loc D) (hw : D.wks[t]? = some wk) (hv : EvLD K te σ H (l.map eB)) (ho : ∀ H1, Ev ta σ H1 (.ref (loc (.wk t)))) (hi : ∀ H1, Ev tb σ H1 (.int 0)) (k : ∀ H1 loc1, Stp K H1 s M loc1 (D.setWk t { wk with cache := l }) → Ext H loc H1 loc1 → tz E σ H1) : tSeq (tAsg te (gSub (tFld K ta "caches") tb rSetL)) tz E σ H := by
  refine hv H (Ex.refl H) _ fun p xs H1 hp e1 h1 t1 => ?_
  have S1 := S.ex e1
  refine (ev_caches T S1.rep hw (ho H1)) H1 (Ex.refl _) _ fun H2 e2 => hi H2 H2 (Ex.refl _) _ fun H3 e3 => ?_
  have e123 := e1.trans (e2.trans e3)
  have hk := e123 _ _ (S.rep.atCaches hw)
  refine ⟨_, [_], ((0 : Nat) : Int), 0, rfl, rfl, hk, rfl, ?_⟩
  have R3 := (S.rep.ex e123).swapCache (w' := { wk with cache := l }) hw rfl rfl rfl (fun r hr => S.rep.fresh hp r hr) ((e2.trans e3) _ _ h1) (t1.ex (e2.trans e3))
  have x := Ext.swap (c := .cache t) (p := .caches t) (o := .lst [.ref p]) (Ext.of_ex (l := loc) e123) hk trivial rfl hp
  exact k _ _ (S.ext x R3) x
/-- row[0] = [] -/
theorem q_row0 {j : Nat} {l : List Blk} (S : Stp K H s M loc D) (hw : D.wks[t]? = some wk) (hj : wk.bats[j]? = some l) (ho : ∀ H1, Ev ta σ H1 (.ref (loc (.row t j)))) (hi : ∀ H1, Ev tb σ H1 (.int 0)) (k : ∀ H1 loc1, Stp K H1 s M loc1 (D.setWk t { wk with bats := wk.bats.set j [] }) → Ext H loc H1 loc1 → (∀ o, H (loc (.bat t j)) = some o → H1 (loc (.bat t j)) = some o) → (∀ r, loc1 r ≠ loc (.bat t j)) → tz E σ H1) : tSeq (tAsg (tLst tNil) (gSub ta tb rSetL)) tz E σ H := by
  refine q_asgE ((el_lst ea_nil (by decide)) H (Ex.refl H) _ fun p H1 hp e1 h1 => ?_)
  refine ho H1 H1 (Ex.refl _) _ fun H2 e2 => hi H2 H2 (Ex.refl _) _ fun H3 e3 => ?_
  have e123 := e1.trans (e2.trans e3)
  have hk := e123 _ _ (S.rep.atRow hw hj)
  refine ⟨_, [_], ((0 : Nat) : Int), 0, rfl, rfl, hk, rfl, ?_⟩
  have R3 := (S.rep.ex e123).swapBat (w' := { wk with bats := wk.bats.set j [] }) hw hj rfl rfl rfl rfl (fun r hr => S.rep.fresh hp r hr) ((e2.trans e3) _ _ h1) .nil
  have x := Ext.swap (c := .bat t j) (p := .row t j) (o := .lst [.ref p]) (Ext.of_ex (l := loc) e123) hk trivial rfl hp
  have hne : loc (.bat t j) ≠ loc (.row t j) := fun q => nomatch S.rep.inj _ _ (by rw [want_bat hw hj]; rfl) (by rw [want_row hw hj]; rfl) q
  refine k _ _ (S.ext x R3) x (fun o h => ?_) (S.rep.left rfl (by rw [want_bat hw hj]; rfl) (S.rep.fresh hp _ (by rw [want_bat hw hj]; rfl)).symm)
  show upd H3 (loc (.row t j)) _ (loc (.bat t j)) = _
  rw [upd_ne hne]
  exact e123 _ _ h
/-- own_arrivals[z] = [] -/
theorem q_arr0 {z : Nat} {l : List Blk} (T : Txt K mg w) (S : Stp K H s M loc D) (ho : Ev ta σ H (.ref s)) (hi : Ev tb σ H (.int (z : Nat))) (hz : D.arrs[z]? = some l) (k : ∀ H1 loc1, Stp K H1 s M loc1 (D.setArr z []) → Ext H loc H1 loc1 → (∀ o, H (loc (.arr z)) = some o → H1 (loc (.arr z)) = some o) → (∀ r, loc1 r ≠ loc (.arr z)) → tz E σ H1) :
    tSeq (tAsg (tLst tNil) (gSub (tFld K (tFld K ta "draft") "own_arrivals") tb rSetL)) tz E σ H := by
  refine q_asgE ((el_lst ea_nil (by decide)) H (Ex.refl H) _ fun p H1 hp e1 h1 => ?_)
  refine (ev_arrs T S ho) H1 e1 _ fun H2 e2 => hi H2 (e1.trans e2) _ fun H3 e3 => ?_
  have e123 := e1.trans (e2.trans e3)
  have hk := e123 _ _ S.rep.atArrs
  have hzl := (List.getElem?_eq_some_iff.mp hz).1
  refine ⟨_, _, (z : Int), z, rfl, rfl, hk, ixN_of (by rw [List.length_map, List.length_map, List.length_range]; exact hzl), ?_⟩
  have R3 := (S.rep.ex e123).swapArr (l' := []) hz (fun r hr => S.rep.fresh hp r hr) ((e2.trans e3) _ _ h1) .nil
  have x := Ext.swap (c := .arr z) (p := .arrs) (o := .lst ((((List.range D.arrs.length).map fun j => loc (.arr j)).map V.ref).set z (.ref p))) (Ext.of_ex (l := loc) e123) hk trivial rfl hp
  have hne : loc (.arr z) ≠ loc .arrs := fun q => nomatch S.rep.inj _ _ (by rw [want_arr hz]; rfl) rfl q
  refine k _ _ (S.ext x R3) x (fun o h => ?_) (S.rep.left rfl (by rw [want_arr hz]; rfl) (S.rep.fresh hp _ (by rw [want_arr hz]; rfl)).symm)
  show upd H3 (loc .arrs) _ (loc (.arr z)) = _
  rw [upd_ne hne]
  exact e123 _ _ h
/-- worker.caches[0].append(block) -/
theorem q_appCache {b : Blk} (T : Txt K mg w) (S : Stp K H s M loc D) (hw : D.wks[t]? = some wk) (hc : wk.cache.length < 1000) (hl : Ev tl σ H (.ref (loc (.cache t)))) (he : EvD K te σ H (eB b)) (k : ∀ H1, Stp K H1 s M loc (D.setWk t { wk with cache := wk.cache ++ [b] }) → Ext H loc H1 loc → tz E σ H1) : tSeq (tDrop (tBM K "list" rAppend tl (tCons te tNil))) tz E σ H := by
  obtain ⟨xs, h1, h2⟩ := S.rep.atCache hw
  refine q_appD hl he h1 (by rw [h2.length, List.length_map]; omega) fun v H1 e t => ?_
  have x : Ext H loc (upd H1 (loc (.cache _)) (.lst (xs ++ [v]))) loc := (Ext.of_ex e).trans (Ext.put (e _ _ h1) trivial)
  refine k _ (S.ext x ((S.rep.ex e).putCache (w' := { wk with cache := wk.cache ++ [b] }) hw rfl rfl rfl ?_)) x
  show TdL K H1 (xs ++ [v]) ((wk.cache ++ [b]).map eB)
  rw [List.map_append]
  exact (h2.ex e).append (.one t)
/-- worker.batches[j][0].append(block) -/
theorem q_appBat {b : Blk} {j : Nat} {l : List Blk} (T : Txt K mg w) (S : Stp K H s M loc D) (hw : D.wks[t]? = some wk) (hj : wk.bats[j]? = some l) (hc : l.length < 1000) (hl : Ev tl σ H (.ref (loc (.bat t j)))) (he : EvD K te σ H (eB b)) (k : ∀ H1, Stp K H1 s M loc (D.setWk t { wk with bats := wk.bats.set j (l ++ [b]) }) → Ext H loc H1 loc → tz E σ H1) : tSeq (tDrop (tBM K "list" rAppend tl (tCons te tNil))) tz E σ H := by
  obtain ⟨xs, h1, h2⟩ := S.rep.atBat hw hj
  refine q_appD hl he h1 (by rw [h2.length, List.length_map]; omega) fun v H1 e t => ?_
  have x : Ext H loc (upd H1 (loc (.bat _ j)) (.lst (xs ++ [v]))) loc := (Ext.of_ex e).trans (Ext.put (e _ _ h1) trivial)
  refine k _ (S.ext x ((S.rep.ex e).putBat (w' := { wk with bats := wk.bats.set j (l ++ [b]) }) (l' := l ++ [b]) hw hj rfl rfl rfl rfl ?_)) x
  show TdL K H1 (xs ++ [v]) ((l ++ [b]).map eB)
  rw [List.map_append]
  exact (h2.ex e).append (.one t)
theorem e_fillFrom {Q : VK} {p h : Nat} {f : List Nat} (S : Stp K H s M loc D) (ho : Ev ta σ H (.ref s)) (hv : Ev tb σ H (.ref (loc (.wk t)))) (hi : Ev tc σ H (.int (p : Nat))) (hM : M.batch ≤ 100) (hw : D.wks[t]? = some wk) (hp : D.pages[p]? = some (.small h f)) (hf : f.length ≤ 100)
    (k : ∀ v H' loc', Stp K H' s M loc' (fillFrom M D t p) → Ext H loc H' loc' → Q v H') : tMeth (He.ga K "Stepper") "fill_from" (spFillFrom K) [] E0 ta (tCons tb (tCons tc tNil)) σ H Q := by
  obtain ⟨m, dx, hs⟩ := S.atS
  refine ho H (Ex.refl H) _ fun H1 e1 => ⟨s, dx, _, rfl, e1 _ _ hs, no_Stepper_fill_from, hv H1 e1 _ fun H2 e2 => hi H2 (e1.trans e2) _ fun H3 e3 => ?_⟩
  have e := (e1.trans e2).trans e3
  exact ⟨s, M, loc, D, t, wk, p, h, f, rfl, S.ex e, hM, hw, hp, hf, fun v H' l' S' x => k v H' l' S' ((Ext.of_ex e).trans x)⟩
theorem e_putHome {Q : VK} {b : Blk} {h : Nat} {f : List Nat} (S : Stp K H s M loc D) (ho : Ev ta σ H (.ref s)) (hb : EvD K tb σ H (eB b)) (hP : D.pages.length ≤ 1000) (hp : D.pages[b.1]? = some (.small h f)) (hf : f.length ≤ 1000) (hM : M.size ≤ 1000)
    (k : ∀ H' loc', Stp K H' s M loc' (putHome M D b) → Ext H loc H' loc' → Q .non H') : tMeth (He.ga K "Stepper") "put_home" (spPutHome K) [] E0 ta (tCons tb tNil) σ H Q := by
  obtain ⟨m, dx, hs⟩ := S.atS
  refine e_meth (K := K) ho hs no_Stepper_put_home (el_cons hb el_nil) fun vs H3 e3 tv => ?_
  obtain ⟨v, ws, rfl, t1, t2⟩ := tv.cons_inv
  obtain rfl := TdL.nil_iff.mp t2
  exact ⟨s, M, loc, D, v, b, h, f, rfl, S.ex e3, hP, t1, hp, hf, hM, fun H' l' S' x => k H' l' S' ((Ext.of_ex e3).trans x)⟩
theorem e_bring {Q : VK} {b : Blk} {z h : Nat} {f : List Nat} (S : Stp K H s M loc D) (ho : Ev ta σ H (.ref s)) (hb : EvD K tb σ H (eB b)) (hz : Ev tc σ H (.int (z : Nat))) (hP : D.pages.length ≤ 1000) (hp : D.pages[b.1]? = some (.small h f)) (hf : f.length ≤ 1000) (hM : M.size ≤ 1000) (hfl : D.fl.length ≤ 10000)
    (k : ∀ v H' loc', Stp K H' s M loc' (bring M D b z).1 → Ext H loc H' loc' → Td K H' v (eEv (bring M D b z).2) → Q v H') : tMeth (He.ga K "Stepper") "bring" (spBring K) [] E0 ta (tCons tb (tCons tc tNil)) σ H Q := by
  obtain ⟨m, dx, hs⟩ := S.atS
  refine e_meth (K := K) ho hs no_Stepper_bring (el_cons hb (el_cons (ed_int hz) el_nil)) fun vs H3 e3 tv => ?_
  obtain ⟨v, ws, rfl, t1, t2⟩ := tv.cons_inv
  obtain ⟨v2, ws2, rfl, t3, t4⟩ := t2.cons_inv
  obtain rfl := TdL.nil_iff.mp t4
  obtain rfl := Td.int_iff.mp t3
  exact ⟨s, M, loc, D, v, b, z, h, f, rfl, S.ex e3, hP, t1, hp, hf, hM, hfl, fun v H' l' S' x t' => k v H' l' S' ((Ext.of_ex e3).trans x) t'⟩
theorem ed_tupRange {n : Nat} (h : Ev te σ H (.int (n : Nat))) (hn : n ≤ 100000) : EvD K (tTupRg (tRg1 te)) σ H (.tuple ((List.range n).map eN)) := fun H1 e Q q =>
  h H1 e _ fun H2 e2 => ⟨n, rfl, ⟨by omega, by omega, by omega, by omega, by omega⟩, fun p hp => q _ _ (e2.trans (Ex.new hp)) (.tup (.inl (.inl upd_same)) (by
    have : rgV 0 (n : Int) = (List.range n).map fun (i : Nat) => V.int i := by
      unfold rgV
      rw [show ((n : Int) - 0).toNat = n by omega]
      exact List.map_congr_left fun i _ => by rw [Int.zero_add]
    rw [this]
    exact tdl_nats _))⟩
theorem td_ev {v : V} {x : Mx.Ev} (h : Td K H v (eEv x)) : v ≠ .non := by
  rintro rfl
  cases x <;> cases h
end
/-! what the mirror's functions leave -/
theorem putHome_wks (M : MC) (D : DS) (b : Blk) : (putHome M D b).wks = D.wks := by
  unfold putHome
  cases D.pg b.1 <;> rfl
theorem bring_wks (M : MC) (D : DS) (b : Blk) (z : Nat) : (bring M D b z).1.wks = D.wks := by
  unfold bring
  split
  · exact putHome_wks M D b
  · rfl
theorem putHome_fl (M : MC) (D : DS) (b : Blk) : (putHome M D b).fl = D.fl := by
  unfold putHome
  cases D.pg b.1 <;> rfl
theorem putHome_len (M : MC) (D : DS) (b : Blk) : (putHome M D b).pages.length = D.pages.length := by
  unfold putHome
  cases D.pg b.1 with
  | store => rfl
  | small h f => show (D.pages.set _ _).length = _; rw [List.length_set]
theorem bring_len (M : MC) (D : DS) (b : Blk) (z : Nat) : (bring M D b z).1.pages.length = D.pages.length := by
  unfold bring
  split
  · exact putHome_len M D b
  · rfl
theorem bring_fl (M : MC) (D : DS) (b : Blk) (z : Nat) : (bring M D b z).1.fl.length ≤ D.fl.length + 1 := by
  unfold bring
  split
  · show (putHome M D b).fl.length ≤ _
    rw [putHome_fl]
    omega
  · show (D.fl ++ _).length ≤ _
    rw [List.length_append]
    exact Nat.le_refl _
theorem lists_small {D : DS} {z p : Nat} (h : p ∈ listsWith D z) : ∃ h f, D.pages[p]? = some (.small h f) := by
  unfold listsWith at h
  obtain ⟨h1, h2⟩ := List.mem_filter.mp h
  have hp := List.mem_range.mp h1
  have e := List.getElem?_eq_getElem hp
  rw [pg_of e] at h2
  cases hx : D.pages[p] with
  | store => rw [hx] at h2; cases h2
  | small h f => exact ⟨h, f, by rw [e, hx]⟩
theorem store_lt {D : DS} {p : Nat} (h : pageToOpen D = some p) : p < D.pages.length := by
  have := List.mem_of_mem_head? h
  unfold storePages at this
  exact List.mem_range.mp (List.mem_filter.mp this).1
theorem out_slot {D : DS} {i : Nat} {b : Blk} (h : D.slots[i]? = some (.blk b)) : b ∈ outside D :=
  List.mem_append_left _ (List.mem_flatMap.mpr ⟨_, List.mem_of_getElem? h, List.mem_singleton.mpr rfl⟩)
theorem out_hand {D : DS} {i : Nat} {w : Wk} {b : Blk} (h : D.wks[i]? = some w) (hb : b ∈ w.hand) : b ∈ outside D :=
  List.mem_append_right _ (List.mem_append_left _ (List.mem_flatMap.mpr ⟨_, List.mem_of_getElem? h, List.mem_append_left _ (List.mem_append_left _ hb)⟩))
theorem out_cache {D : DS} {i : Nat} {w : Wk} {b : Blk} (h : D.wks[i]? = some w) (hb : b ∈ w.cache) : b ∈ outside D :=
  List.mem_append_right _ (List.mem_append_left _ (List.mem_flatMap.mpr ⟨_, List.mem_of_getElem? h, List.mem_append_left _ (List.mem_append_right _ hb)⟩))
theorem out_arr {D : DS} {i : Nat} {l : List Blk} {b : Blk} (h : D.arrs[i]? = some l) (hb : b ∈ l) : b ∈ outside D :=
  List.mem_append_right _ (List.mem_append_right _ (List.mem_append_left _ (List.mem_flatten.mpr ⟨_, List.mem_of_getElem? h, hb⟩)))
theorem At.thl {M : MC} {D : DS} {t z : Nat} {wk : Wk} (A : At M D t z wk) : t < M.thr.length := by
  obtain ⟨ops, h⟩ := A.thr
  exact (List.getElem?_eq_some_iff.mp h).1
theorem At.zn {M : MC} {D : DS} {t z : Nat} {wk : Wk} (A : At M D t z wk) : z < M.ns := by
  obtain ⟨ops, h⟩ := A.thr
  exact (A.fit.prg t _ h).2.1
theorem Fit.pT {M : MC} {D D' : DS} {t : Nat} {w' : Wk} (F : Fit M D) (hw : D'.wks[t]? = some w') (ht : t < M.thr.length) (hb : w'.bats.length = M.ns) : preT M D' t := ⟨w', hw, ht, by rw [hb]; have := F.ns; omega⟩
end Rp
set_option Elab.async false
set_option linter.all false
set_option maxRecDepth 100000
set_option maxHeartbeats 4000000
set_option autoImplicit false
namespace Rp
open PySem PySem.Spec PyProof.Rows L2 Mx Evl Hf
theorem firstBat_at {p : List Blk → Bool} {wk : Wk} {j : Nat} (h : firstBat p wk = some j) : ∃ l, wk.bats[j]? = some l ∧ p l = true ∧ ∀ i l', i < j → wk.bats[i]? = some l' → p l' = false := by
  unfold firstBat at h
  have hm := List.mem_of_find?_eq_some h
  have hj := List.mem_range.mp hm
  have hp := List.find?_some h
  refine ⟨wk.bats[j], List.getElem?_eq_getElem hj, by rw [bat_of (List.getElem?_eq_getElem hj)] at hp; exact hp, fun i l' hi hl => ?_⟩
  have := (List.find?_range_eq_some.mp h).2.2 i hi
  rw [bat_of hl] at this
  simpa using this

theorem firstBat_len {p : List Blk → Bool} {wk : Wk} {j : Nat} (h : firstBat p wk = some j) : j < wk.bats.length := by
  obtain ⟨l, h1, _⟩ := firstBat_at h
  exact (List.getElem?_eq_some_iff.mp h1).1
section
variable {K : Frg} {σ : L2.St} {H : Hp} {ta tb te : TE} {s : Addr} {M : MC} {loc : Lc} {D : DS} {t : Nat} {wk : Wk} {E : Ends}
theorem s_asgE {g : TG} (h : te σ H fun x H1 => g x σ H1 E.nx) : tAsg te g E σ H := h
theorem e_flushBat {Q : VK} {j : Nat} (S : Stp K H s M loc D) (ho : Ev ta σ H (.ref s)) (hv : Ev tb σ H (.ref (loc (.wk t)))) (F1 : Fit M D) (hw : D.wks[t]? = some wk) (hj : firstBat (fun l => !l.isEmpty) wk = some j)
    (k : ∀ v H' loc', Stp K H' s M loc' (flushBat D t).1 → Ext H loc H' loc' → Td K H' v (eEv (flushBat D t).2) → Q v H') : tMeth (He.ga K "Stepper") "flush_batch" (spFlushBat K) [] E0 ta (tCons tb tNil) σ H Q := by
  obtain ⟨m, dx, hs⟩ := S.atS
  refine ho H (Ex.refl H) _ fun H1 e1 => ⟨s, dx, _, rfl, e1 _ _ hs, no_Stepper_flush_batch, hv H1 e1 _ fun H2 e2 => ?_⟩
  have e := e1.trans e2
  exact ⟨s, M, loc, D, t, wk, j, rfl, S.ex e, F1, hw, hj, fun v H' l' S' x t' => k v H' l' S' ((Ext.of_ex e).trans x) t'⟩
theorem e_freeBlock {Q : VK} {tc td : TE} {D0 : DS} {z : Nat} {b : Blk} (S : Stp K H s M loc D) (ho : Ev ta σ H (.ref s)) (ht : Ev tb σ H (.int (t : Nat))) (hz : Ev tc σ H (.int (z : Nat))) (hb : EvD K td σ H (eB b)) (A : At M D0 t z wk) (h1 : D.pages = D0.pages) (h2 : D.wks = D0.wks) (h3 : D.fl = D0.fl) (h4 : ∃ h f, D.pages[b.1]? = some (.small h f))
    (k : ∀ v H' loc', Stp K H' s M loc' (freeBlock M D t z b).1 → Ext H loc H' loc' → Td K H' v (eEv (freeBlock M D t z b).2) → Q v H') : tMeth (He.ga K "Stepper") "free_block" (spFreeBlock K) [] E0 ta (tCons tb (tCons tc (tCons td tNil))) σ H Q := by
  obtain ⟨m, dx, hs⟩ := S.atS
  refine e_meth (K := K) ho hs no_Stepper_free_block (el_cons (ed_int ht) (el_cons (ed_int hz) (el_cons hb el_nil))) fun vs H3 e3 tv => ?_
  obtain ⟨v, ws, rfl, t1, t2⟩ := tv.cons_inv
  obtain ⟨v2, ws2, rfl, t3, t4⟩ := t2.cons_inv
  obtain ⟨v3, ws3, rfl, t5, t6⟩ := t4.cons_inv
  obtain rfl := TdL.nil_iff.mp t6
  obtain rfl := Td.int_iff.mp t1
  obtain rfl := Td.int_iff.mp t3
  exact ⟨s, M, loc, D, D0, t, z, v3, b, wk, rfl, S.ex e3, A, h1, h2, h3, h4, t5, fun v H' l' S' x t' => k v H' l' S' ((Ext.of_ex e3).trans x) t'⟩
end
theorem eqv_fail (x : Sl) (h : x ≠ .non) : PyData.eqv (eSl x) (eSl .fail) = decide (x = .fail) := by
  have e1 : (("block" : Str) == ("failure" : Str)) = false := by decide +kernel
  have e2 : (("failure" : Str) == ("failure" : Str)) = true := by decide +kernel
  cases x with
  | non => exact absurd rfl h
  | blk b => simp [eSl, PyData.eqv, PyData.eqvAll, e1]
  | fail => simp [eSl, PyData.eqv, PyData.eqvAll, e2]
theorem prog_of {M : MC} {t z : Nat} {ops : List Op} (h : M.thr[t]? = some (z, ops)) : M.prog t = ops := by
  unfold MC.prog
  rw [List.getD_eq_getElem?_getD, h] <;> rfl
theorem sock_of {M : MC} {t z : Nat} {ops : List Op} (h : M.thr[t]? = some (z, ops)) : M.sock t = z := by
  unfold MC.sock
  rw [List.getD_eq_getElem?_getD, h] <;> rfl
def opW : Op → Str
  | .alloc _ => "alloc"
  | .free _ => "free"
  | .adopt _ => "adopt"
  | .drain => "drain"
def opN : Op → List Int
  | .alloc s => [0, s]
  | .free s => [s]
  | .adopt s => [s]
  | .drain => []
theorem eOp_eq (o : Op) : eOp o = .tuple (.str (opW o) :: (opN o).map .int) := by cases o <;> rfl
section
variable {K : Frg} {mg : Str → Option Value} {w : World} {σ : L2.St} {H : Hp} {ta tb te : TE} {s : Addr} {M : MC} {loc : Lc} {D : DS} {t : Nat} {wk : Wk} {E : Ends} {tz : TS}
/-- word, *numbers = an operation -/
theorem q_star {i j : Nat} {o : Op} (h : EvD K te σ H (eOp o)) (k : ∀ p H1, H p = none → Ex H H1 → H1 p = some (.lst ((opN o).map V.int)) → tz E ((σ.set i (some (.str (opW o)))).set j (some (.ref p))) H1) : tSeq (tAsg te (Ru.gStar K i j)) tz E σ H := by
  refine q_asgE (h H (Ex.refl H) _ fun v H1 e1 t1 => ?_)
  rw [eOp_eq] at t1
  obtain ⟨a, xs, rfl, hs, ts⟩ := t1.tup_inv
  obtain ⟨v1, r, rfl, t2, u2⟩ := ts.cons_inv
  obtain rfl := Td.str_iff.mp t2
  have := TdL.ints u2
  subst this
  refine ⟨a, _, _, rfl, hs, by rw [List.length_map]; cases o <;> exact Nat.le_of_ble_eq_true rfl, fun p hp => k p _ (fresh_back e1 hp) (e1.trans (Ex.new hp)) upd_same⟩
theorem ed_thread {z : Nat} {ops : List Op} (T : Txt K mg w) (S : Stp K H s M loc D) (h : Ev ta σ H (.ref s)) (hi : Ev tb σ H (.int (t : Nat))) (hth : M.thr[t]? = some (z, ops)) : EvD K (tOp (rIxT K) (tProp (He.ga K "Machine") (spSet K 2) [] E0 (tFld K ta "owner")) tb) σ H (.tuple [eN z, .tuple (ops.map eOp)]) :=
  ed_ixT (j := t) (d := eTh (z, ops)) (ed_owner (i := 2) T S h rfl) hi (ixN_of (by rw [List.length_map]; exact (List.getElem?_eq_some_iff.mp hth).1)) (by rw [List.getElem?_map, hth] <;> rfl)
end
def isAl : Op → Bool
  | .alloc _ => true
  | _ => false
theorem wne (x y : Str) (h : (x == y) = false) : ¬ (V.str x = V.str y) := fun e => by
  have := V.str.inj e
  subst this
  rw [beq_self_eq_true] at h
  cases h
theorem sne (x y : Str) (h : (x == y) = false) : ¬ (x = y) := fun e => by
  subst e
  rw [beq_self_eq_true] at h
  cases h
theorem opW_drain (o : Op) : decide (V.str (opW o) = V.str "drain") = decide (o = .drain) := by
  cases o with
  | alloc s => rw [decide_eq_false (show ¬ (V.str (opW (.alloc s)) = V.str "drain") from wne _ _ (show (("alloc" : Str) == "drain") = false by decide +kernel)), decide_eq_false (by intro h; cases h)]
  | free s => rw [decide_eq_false (show ¬ (V.str (opW (.free s)) = V.str "drain") from wne _ _ (show (("free" : Str) == "drain") = false by decide +kernel)), decide_eq_false (by intro h; cases h)]
  | adopt s => rw [decide_eq_false (show ¬ (V.str (opW (.adopt s)) = V.str "drain") from wne _ _ (show (("adopt" : Str) == "drain") = false by decide +kernel)), decide_eq_false (by intro h; cases h)]
  | drain => rw [decide_eq_true (show V.str (opW .drain) = V.str "drain" from rfl), decide_eq_true rfl]
theorem opW_large (o : Op) : V.str (opW o) ≠ V.str "large" := by
  cases o with
  | alloc s => exact wne _ _ (show (("alloc" : Str) == "large") = false by decide +kernel)
  | free s => exact wne _ _ (show (("free" : Str) == "large") = false by decide +kernel)
  | adopt s => exact wne _ _ (show (("adopt" : Str) == "large") = false by decide +kernel)
  | drain => exact wne _ _ (show (("drain" : Str) == "large") = false by decide +kernel)
theorem opW_alloc (o : Op) : (!decide (V.str (opW o) = V.str "alloc")) = !isAl o := by
  cases o with
  | alloc s => rw [decide_eq_true (show V.str (opW (.alloc s)) = V.str "alloc" from rfl)] <;> rfl
  | free s => rw [decide_eq_false (show ¬ (V.str (opW (.free s)) = V.str "alloc") from wne _ _ (show (("free" : Str) == "alloc") = false by decide +kernel))] <;> rfl
  | adopt s => rw [decide_eq_false (show ¬ (V.str (opW (.adopt s)) = V.str "alloc") from wne _ _ (show (("adopt" : Str) == "alloc") = false by decide +kernel))] <;> rfl
  | drain => rw [decide_eq_false (show ¬ (V.str (opW .drain) = V.str "alloc") from wne _ _ (show (("drain" : Str) == "alloc") = false by decide +kernel))] <;> rfl
end Rp
set_option Elab.async false
set_option linter.all false
set_option maxRecDepth 100000
set_option maxHeartbeats 4000000
set_option autoImplicit false
/-! What the machine's methods and the law's functions promise. -/
namespace Rp
open PySem PySem.Spec PyProof.Rows L2 Mx Evl Hf
/-- the walk goes through from here -/
structure Good (M : MC) (D : DS) : Prop where
  fit : Fit M D
  pc : ∀ (t : Nat) (wk : Wk) (ops : List Op) (z : Nat), D.wks[t]? = some wk → M.thr[t]? = some (z, ops) → wk.pc ≤ ops.length
  can : ∀ (t : Nat) (wk : Wk), D.wks[t]? = some wk → wk.run = true → waiting M D t = false → CanStep M D t
  swe : ∀ (z i : Nat) (b : Blk), z < M.ns → (D.arr z)[i]? = some b → ∃ h f, (((D.arr z).take i).foldl (fun D b => (bring M D b z).1) (D.setArr z [])).pages[b.1]? = some (.small h f)
  nxt : ∀ x ∈ moves M D, Fit M (stepM M D x).1
/-- the states and events of a run -/
def runM (M : MC) : DS → List Mv → List (DS × Mx.Ev)
  | _, [] => []
  | D, x :: xs => stepM M D x :: runM M (stepM M D x).1 xs
/-- a run whose every move is possible -/
def RunOk (M : MC) : DS → List Mv → Prop
  | D, [] => Good M D
  | D, x :: xs => Good M D ∧ x ∈ moves M D ∧ RunOk M (stepM M D x).1 xs
def spServed (K : Frg) : Sp := fun vs H Q _ => ∃ m M st D z, vs = [.ref m, .ref st, .int (z : Nat)] ∧ Mac K H m M ∧ StA K H st D ∧ D.wks.length = M.thr.length ∧ M.thr.length ≤ 100 ∧ ∀ H', Ex H H' → Q (.bl (served M D z)) H'
def spMoves (K : Frg) : Sp := fun vs H Q _ => ∃ m M st D, vs = [.ref m, .ref st] ∧ Mac K H m M ∧ StA K H st D ∧ Good M D ∧
  ∀ p H' xs ms, H p = none → Ex H H' → H' p = some (.lst xs) → TdL K H' xs (ms.map eMv) → List.Perm ms (moves M D) → Q (.ref p) H'
/-- a state and an event -/
def PairAt (K : Frg) (H : Hp) (v : V) (r : DS × Mx.Ev) : Prop := ∃ a st ve, v = .ref a ∧ SqT K H a [.ref st, ve] ∧ StA K H st r.1 ∧ Td K H ve (eEv r.2)
def spMStep (K : Frg) : Sp := fun vs H Q _ => ∃ m M st D mv x, vs = [.ref m, .ref st, mv] ∧ Mac K H m M ∧ StA K H st D ∧ Good M D ∧ Td K H mv (eMv x) ∧ x ∈ moves M D ∧ (∀ v H', Ex H H' → PairAt K H' v (stepM M D x) → Q v H')
/-- a list of such -/
def RowsAt (K : Frg) (H : Hp) (xs : List V) (rs : List (DS × Mx.Ev)) : Prop := xs.length = rs.length ∧ ∀ (i : Nat) v r, xs[i]? = some v → rs[i]? = some r → PairAt K H v r
def spMRun (K : Frg) : Sp := fun vs H Q _ => ∃ m M p xs ms, vs = [.ref m, .ref p] ∧ Mac K H m M ∧ H p = some (.lst xs) ∧ TdL K H xs (ms.map eMv) ∧ ms.length ≤ 60 ∧ RunOk M (start M) ms ∧ Fit M (start M) ∧ 2 ≤ M.ns ∧ 1 ≤ M.nsl ∧
  (∀ p' H' ys, H p' = none → Ex H H' → H' p' = some (.lst ys) → RowsAt K H' ys (runM M (start M) ms) → Q (.ref p') H')
def spStart (K : Frg) : Sp := fun vs H Q _ => ∃ m M, vs = [.ref m] ∧ Mac K H m M ∧ Fit M (start M) ∧ 2 ≤ M.ns ∧ 1 ≤ M.nsl ∧ (∀ st H', Ex H H' → StA K H' st (start M) → Q (.ref st) H')
def isCar : Mv → Bool
  | .carry _ => true
  | _ => false
def sentM (D D' : DS) (x : Mv) : Int := (D'.fl.length : Int) - D.fl.length + (if isCar x then 1 else 0)
def spSent (K : Frg) : Sp := fun vs H Q _ => ∃ s1 D1 s2 D2 mv x, vs = [.ref s1, .ref s2, mv] ∧ StA K H s1 D1 ∧ StA K H s2 D2 ∧ Td K H mv (eMv x) ∧ ∀ H', Ex H H' → Q (.int (sentM D1 D2 x)) H'
def isStp : Mv → Bool
  | .step _ => true
  | _ => false
def evW : Mx.Ev → Str
  | .hit _ => "hit"
  | .take _ => "take"
  | .home _ => "home"
  | .pass _ => "pass"
  | .fill _ => "fill"
  | .opn _ => "open"
  | .fail => "fail"
  | .keep _ => "keep"
  | .nothing => "nothing"
  | .batch _ => "batch"
  | .send _ _ => "send"
  | .adopt _ _ => "adopt"
  | .carry _ _ => "carry"
  | .sweep _ => "sweep"
def isPS : Mx.Ev → Bool
  | .pass _ => true
  | .sweep _ => true
  | _ => false
/-- messages and passed, from D on -/
def mesM (M : MC) : DS → List Mv → Int
  | _, [] => 0
  | D, x :: xs => sentM D (stepM M D x).1 x + mesM M (stepM M D x).1 xs
def pasM (M : MC) : DS → List Mv → Int
  | _, [] => 0
  | D, x :: xs => (if isPS (stepM M D x).2 then sentM D (stepM M D x).1 x else 0) + pasM M (stepM M D x).1 xs
def cntM (M : MC) (w : Str) (D : DS) (ms : List Mv) : Nat := ((runM M D ms).map fun r => evW r.2).count w
def costM (M : MC) (ms : List Mv) : List Int := [(ms.countP isStp : Nat), (cntM M "hit" (start M) ms : Nat), (cntM M "open" (start M) ms : Nat), (cntM M "batch" (start M) ms : Nat), mesM M (start M) ms, pasM M (start M) ms]
def spCosts (K : Frg) : Sp := fun vs H Q _ => ∃ m M p xs ms, vs = [.ref m, .ref p] ∧ Mac K H m M ∧ H p = some (.lst xs) ∧ TdL K H xs (ms.map eMv) ∧ ms.length ≤ 60 ∧ RunOk M (start M) ms ∧ Fit M (start M) ∧ 2 ≤ M.ns ∧ 1 ≤ M.nsl ∧
  (∀ v H', Ex H H' → Td K H' v (.tuple ((costM M ms).map .int)) → Q v H')
/-! the law's own -/
def PoolAt (H : Hp) (p : Addr) : Prop := ∃ a b : Int, H p = some (.lst [.int a, .int b]) ∧ 0 ≤ a ∧ 0 ≤ b ∧ b < 2147483647
def spTakeL (K : Frg) : Sp := fun vs H Q _ => ∃ p n, vs = [.ref p, .int (n : Nat)] ∧ PoolAt H p ∧ 0 < n ∧ n ≤ 100000 ∧ ∀ (r : Nat) H', r < n → Only p H H' → PoolAt H' p → Q (.int (r : Nat)) H'
def spPoolL (K : Frg) : Sp := fun vs H Q _ => ∃ (p : Addr) (xs : List Int) (k : Nat), vs = [.ref p, .int (k : Nat)] ∧ SqL K H p (xs.map V.int) ∧ k ≤ 1000 ∧ ∀ q H', H q = none → Ex H H' → PoolAt H' q → Q (.ref q) H'
/-- the two programs of a pair -/
def pairOps (ad : Bool) (cs : List Nat) : List Op := if ad then .adopt (cs.headD 0) :: (cs.map .free ++ [.drain]) else cs.map .free
def PairL (far cells : Nat) (x : List (Nat × List Op)) : Prop := ∃ cs ad, cs ≠ [] ∧ cs.length ≤ 6 ∧ (∀ c ∈ cs, c < cells) ∧ x = [(0, cs.map .alloc), (far, pairOps ad cs)]
def spPairL (K : Frg) : Sp := fun vs H Q _ => ∃ p ns cells, vs = [.ref p, .int (ns : Nat), .int 1, .int (cells : Nat), .int 6] ∧ PoolAt H p ∧ 2 ≤ ns ∧ 0 < cells ∧ cells ≤ 3 ∧
  ∀ q H' xs x, H q = none → Only p H H' → PoolAt H' p → H' q = some (.lst xs) → TdL K H' xs (x.map eTh) → PairL (ns - 1) cells x → Q (.ref q) H'
structure OkM (M : MC) : Prop where
  ns : 2 ≤ M.ns ∧ M.ns ≤ 3
  size : 1 ≤ M.size ∧ M.size ≤ 4
  bat : 1 ≤ M.batch ∧ M.batch ≤ 3
  nsl : 1 ≤ M.nsl ∧ M.nsl ≤ 3
  thr : ∃ x y, PairL (M.ns - 1) M.nsl x ∧ PairL (M.ns - 1) M.nsl y ∧ M.thr = x ++ y.reverse
def dM (M : MC) : List PyData := [eN M.ns, .tuple [eN M.size], .tuple (M.thr.map eTh), eN 4, eN M.batch, eN 0, eN M.nsl, eN 0]
def spMachL (K : Frg) : Sp := fun vs H Q _ => ∃ v M, vs = [v, .non] ∧ Td K H v (.tuple (dM M)) ∧ OkM M ∧ ∀ m H', Ex H H' → Mac K H' m M → Q (.ref m) H'
def spMInit (K : Frg) : Sp := fun vs H Q _ => ∃ a dx v1 v2 M, vs = [.ref a, .int (M.ns : Nat), v1, v2, .int 4, .int (M.batch : Nat), .int 0, .int (M.nsl : Nat), .int 0, .non] ∧ H a = some (.ins (He.ga K "Machine") dx []) ∧ Td K H v1 (.tuple [eN M.size]) ∧ Td K H v2 (.tuple (M.thr.map eTh)) ∧ OkM M ∧
  ∀ H', (∀ x o, H x = some o → x ≠ a → H' x = some o) → Mac K H' a M → Q .non H'
/-- the state behind moves -/
def endM (M : MC) : DS → List Mv → DS
  | D, [] => D
  | D, x :: xs => endM M (stepM M D x).1 xs
/-- a row of the run: move, event, state -/
def LRow (K : Frg) (H : Hp) (v : V) (x : Mv) (r : DS × Mx.Ev) : Prop := ∃ a mv ve st, v = .ref a ∧ SqT K H a [mv, ve, .ref st] ∧ Td K H mv (eMv x) ∧ Td K H ve (eEv r.2) ∧ StA K H st r.1
def spRunL (K : Frg) : Sp := fun vs H Q _ => ∃ p m M, vs = [.ref p, .ref m, .int 60] ∧ PoolAt H p ∧ Mac K H m M ∧ OkM M ∧ Fit M (start M) ∧ moves M (start M) ≠ [] ∧ (∀ l, RunOk M (start M) l → ∀ x ∈ moves M (endM M (start M) l), RunOk M (start M) (l ++ [x])) ∧ RunOk M (start M) [] ∧
  ∀ q H' xs ms, H q = none → Only p H H' → PoolAt H' p → H' q = some (.lst xs) → xs.length = ms.length → 0 < ms.length → ms.length ≤ 60 → RunOk M (start M) ms → (∀ (i : Nat) v x r, xs[i]? = some v → ms[i]? = some x → (runM M (start M) ms)[i]? = some r → LRow K H' v x r) → Q (.ref q) H'
/-- the batches that are not empty -/
def openM (D : DS) : Nat := (D.wks.map fun w => w.bats.countP fun l => !l.isEmpty).sum
def spOpenL (K : Frg) : Sp := fun vs H Q _ => ∃ st D, vs = [.ref st] ∧ StA K H st D ∧ D.wks.length ≤ 100 ∧ (∀ w ∈ D.wks, w.bats.length ≤ 100 ∧ ∀ l ∈ w.bats, l.length ≤ 100) ∧ ∀ H', Ex H H' → Q (.int (openM D : Nat)) H'
/-! checks -/
def spIsInt : Sp := fun vs H Q _ => ∃ n : Int, vs = [.int n] ∧ ∀ H', Ex H H' → Q (.bl true) H'
def spBetween : Sp := fun vs H Q _ => ∃ n a b : Int, vs = [.int n, .int a, .int b] ∧ a ≤ n ∧ n ≤ b ∧ ∀ H', Ex H H' → Q (.bl true) H'
def spIsRow (K : Frg) : Sp := fun vs H Q _ => ∃ p xs, vs = [.ref p] ∧ (SqT K H p xs ∨ H p = some (.lst xs)) ∧ ∀ H', Ex H H' → Q (.bl true) H'
def spIsClasses (K : Frg) : Sp := fun vs H Q _ => ∃ v n, vs = [v] ∧ Td K H v (.tuple [eN n]) ∧ 1 ≤ n ∧ n ≤ 8 ∧ ∀ H', Ex H H' → Q (.bl true) H'
def OpOk (nsl : Nat) (o : Op) : Prop := nsl ≤ 8 ∧ ∀ s ∈ opSlots o, s < nsl
def spIsOp (K : Frg) : Sp := fun vs H Q _ => ∃ v o, vs = [v] ∧ Td K H v (eOp o) ∧ (∀ s ∈ opSlots o, s < 8) ∧ ∀ H', Ex H H' → Q (.bl true) H'
def spFits (K : Frg) : Sp := fun vs H Q _ => ∃ v o nsl, vs = [v, .int 1, .int (nsl : Nat)] ∧ Td K H v (eOp o) ∧ OpOk nsl o ∧ ∀ H', Ex H H' → Q (.bl true) H'
def spIsThread (K : Frg) : Sp := fun vs H Q _ => ∃ v t ns nsl, vs = [v, .int (ns : Nat), .int 1, .int (nsl : Nat)] ∧ Td K H v (eTh t) ∧ t.1 < ns ∧ t.2.length ≤ 30 ∧ (∀ o ∈ t.2, OpOk nsl o) ∧ ∀ H', Ex H H' → Q (.bl true) H'
def spIsMove (K : Frg) : Sp := fun vs H Q _ => ∃ v x, vs = [v] ∧ Td K H v (eMv x) ∧ ∀ H', Ex H H' → Q (.bl true) H'
def spLaw (K : Frg) : Sp := fun vs H Q _ => ∃ (p : Addr) (xs : List Int), vs = [.ref p] ∧ SqL K H p (xs.map V.int) ∧ xs.length ≤ 63 ∧ ∀ H', Q (.bl true) H'
end Rp
set_option autoImplicit false
set_option linter.all false
namespace Mp
open Mx Rp
/-! ### sums and counts -/
theorem sum_set {α : Type} (f : α → Nat) : ∀ (l : List α) (i : Nat) (x y : α), l[i]? = some x → ((l.set i y).map f).sum + f x = (l.map f).sum + f y
  | [], i, x, y, h => by simp at h
  | a :: l, 0, x, y, h => by simp at h; subst h; simp; omega
  | a :: l, i + 1, x, y, h => by
    have := sum_set f l i x y (by simpa using h)
    simp only [List.set_cons_succ, List.map_cons, List.sum_cons]; omega
def wkB (w : Wk) : List Blk := w.hand ++ w.cache ++ w.bats.flatten
def pgC (D : DS) (b : Blk) : Nat := match D.pages[b.1]? with
  | some (.small _ f) => f.count b.2
  | _ => 0
def wnt (M : MC) (D : DS) (b : Blk) : Nat := match D.pages[b.1]? with
  | some (.small _ _) => if b.2 < M.size then 1 else 0
  | _ => 0
def oC (D : DS) (b : Blk) : Nat := (D.slots.map fun s => (slB s).count b).sum + ((D.wks.map fun w => (wkB w).count b).sum + ((D.arrs.map fun l => l.count b).sum + (D.fl.map fun m => m.2.count b).sum))
theorem count_fm {α : Type} (g : α → List Blk) (b : Blk) : ∀ l : List α, (l.flatMap g).count b = (l.map fun x => (g x).count b).sum
  | [] => rfl
  | a :: l => by simp [List.flatMap_cons, List.count_append, count_fm g b l]
theorem count_fl (b : Blk) : ∀ l : List (List Blk), l.flatten.count b = (l.map fun x => x.count b).sum
  | [] => rfl
  | a :: l => by simp [List.count_append, count_fl b l]
theorem oC_eq (D : DS) (b : Blk) : (outside D).count b = oC D b := by
  unfold outside oC
  rw [List.count_append, List.count_append, List.count_append, count_fm, count_fm, count_fm, count_fl]
  rfl
theorem mem_oC {D : DS} {b : Blk} : b ∈ outside D ↔ 0 < oC D b := by rw [← oC_eq, List.count_pos_iff]
theorem mem_wk {D : DS} {b : Blk} {t : Nat} {w : Wk} (h : D.wks[t]? = some w) (hb : b ∈ wkB w) : 0 < oC D b := by
  rw [← mem_oC]; unfold outside
  have := List.mem_of_getElem? h
  refine List.mem_append_right _ (List.mem_append_left _ ?_)
  exact List.mem_flatMap.mpr ⟨w, this, hb⟩
theorem mem_ar {D : DS} {b : Blk} {z : Nat} (hb : b ∈ D.arr z) : 0 < oC D b := by
  rw [← mem_oC]; unfold outside
  unfold DS.arr at hb
  cases h : D.arrs[z]? with
  | none => simp [List.getD, h] at hb
  | some l =>
    simp [List.getD, h] at hb
    simp only [List.mem_append, List.mem_flatten]
    exact Or.inr (Or.inr (Or.inl ⟨l, List.mem_of_getElem? h, hb⟩))
theorem mem_fl {D : DS} {b : Blk} {m : Nat × List Blk} (hm : m ∈ D.fl) (hb : b ∈ m.2) : 0 < oC D b := by
  rw [← mem_oC]; unfold outside
  simp only [List.mem_append, List.mem_flatMap]
  exact Or.inr (Or.inr (Or.inr ⟨m, hm, hb⟩))
theorem mem_bat {w : Wk} {j : Nat} {b : Blk} (h : b ∈ w.bat j) : b ∈ wkB w := by
  unfold Wk.bat at h
  cases e : w.bats[j]? with
  | none => simp [List.getD, e] at h
  | some l =>
    simp [List.getD, e] at h
    simp only [wkB, List.mem_append, List.mem_flatten]
    exact Or.inr ⟨l, List.mem_of_getElem? e, h⟩
theorem mem_hc {w : Wk} {b : Blk} (h : b ∈ w.hand ∨ b ∈ w.cache) : b ∈ wkB w := by
  simp only [wkB, List.mem_append]; exact Or.inl h
/-! ### the state's invariant -/
/-- every block that is on its way to its home's socket is right -/
structure Hm (M : MC) (D : DS) : Prop where
  h1 : ∀ (t : Nat) (w : Wk) (z : Nat) (ops : List Op), D.wks[t]? = some w → M.thr[t]? = some (z, ops) → ∀ b, b ∈ w.hand ∨ b ∈ w.cache → homeOf D b = z
  h2 : ∀ (t : Nat) (w : Wk), D.wks[t]? = some w → ∀ j b, b ∈ w.bat j → homeOf D b = j
  h3 : ∀ z b, b ∈ D.arr z → homeOf D b = z
  h4 : ∀ m, m ∈ D.fl → ∀ b, b ∈ m.2 → homeOf D b = m.1
structure Gl (M : MC) (a : Prop) (D : DS) (ex : List Blk) : Prop where
  pl : ∀ b, pgC D b + oC D b + ex.count b = wnt M D b
  sl : D.slots.length = M.nsl
  pg : D.pages.length = 4
  wl : D.wks.length = M.thr.length
  al : D.arrs.length = M.ns
  hm : ∀ (p h : Nat) (f : List Nat), D.pages[p]? = some (.small h f) → h < M.ns
  fl : ∀ m, m ∈ D.fl → m.1 < M.ns ∧ m.2 ≠ []
  hh : a → Hm M D
section
variable {M : MC} {a : Prop} {D D' : DS} {ex ex' : List Blk}
theorem Gl.small (g : Gl M a D ex) {b : Blk} (h : 0 < oC D b + ex.count b) : ∃ h f, D.pages[b.1]? = some (.small h f) ∧ b.2 < M.size := by
  have := g.pl b
  unfold wnt at this
  split at this
  · rename_i h' f' e
    refine ⟨h', f', e, ?_⟩
    split at this
    · assumption
    · omega
  · omega
theorem Gl.setWk (g : Gl M a D ex) {t : Nat} {w w' : Wk} (hw : D.wks[t]? = some w) (hc : ∀ b, (wkB w').count b + ex'.count b = (wkB w).count b + ex.count b)
    (hx : a → (∀ z ops, M.thr[t]? = some (z, ops) → ∀ b, b ∈ w'.hand ∨ b ∈ w'.cache → homeOf D b = z) ∧ ∀ j b, b ∈ w'.bat j → homeOf D b = j) : Gl M a (D.setWk t w') ex' where
  pl b := by
    have h1 := g.pl b
    have h2 := sum_set (fun w => (wkB w).count b) D.wks t w w' hw
    have h3 := hc b
    show pgC D b + oC (D.setWk t w') b + ex'.count b = wnt M D b
    simp only [oC, DS.setWk] at h1 ⊢
    omega
  sl := g.sl
  pg := g.pg
  wl := by simp [DS.setWk, g.wl]
  al := g.al
  hm := g.hm
  fl := g.fl
  hh ha := by
    have hlt : t < D.wks.length := by
      by_cases h : t < D.wks.length
      · exact h
      · rw [List.getElem?_eq_none (by omega)] at hw; cases hw
    constructor
    · intro t' w1 z ops h1 h2 b hb
      show homeOf D b = z
      simp only [DS.setWk, List.getElem?_set] at h1
      split at h1
      · rename_i e; subst e
        simp [hlt] at h1; subst h1
        exact (hx ha).1 z ops h2 b hb
      · exact (g.hh ha).h1 t' w1 z ops h1 h2 b hb
    · intro t' w1 h1 j b hb
      show homeOf D b = j
      simp only [DS.setWk, List.getElem?_set] at h1
      split at h1
      · rename_i e; subst e
        simp [hlt] at h1; subst h1
        exact (hx ha).2 j b hb
      · exact (g.hh ha).h2 t' w1 h1 j b hb
    · exact (g.hh ha).h3
    · exact (g.hh ha).h4
theorem Gl.setSl (g : Gl M a D ex) {s : Nat} {x x' : Sl} (hw : D.slots[s]? = some x) (hc : ∀ b, (slB x').count b + ex'.count b = (slB x).count b + ex.count b) : Gl M a (D.setSl s x') ex' where
  pl b := by
    have h1 := g.pl b
    have h2 := sum_set (fun w => (slB w).count b) D.slots s x x' hw
    have h3 := hc b
    show pgC D b + oC (D.setSl s x') b + ex'.count b = wnt M D b
    simp only [oC, DS.setSl] at h1 ⊢
    omega
  sl := by simp [DS.setSl, g.sl]
  pg := g.pg
  wl := g.wl
  al := g.al
  hm := g.hm
  fl := g.fl
  hh ha := ⟨(g.hh ha).h1, (g.hh ha).h2, (g.hh ha).h3, (g.hh ha).h4⟩
theorem Gl.setArr (g : Gl M a D ex) {z : Nat} {x x' : List Blk} (hw : D.arrs[z]? = some x) (hc : ∀ b, x'.count b + ex'.count b = x.count b + ex.count b)
    (hx : a → ∀ b, b ∈ x' → homeOf D b = z) : Gl M a (D.setArr z x') ex' where
  pl b := by
    have h1 := g.pl b
    have h2 := sum_set (fun w => w.count b) D.arrs z x x' hw
    have h3 := hc b
    show pgC D b + oC (D.setArr z x') b + ex'.count b = wnt M D b
    simp only [oC, DS.setArr] at h1 ⊢
    omega
  sl := g.sl
  pg := g.pg
  wl := g.wl
  al := by simp [DS.setArr, g.al]
  hm := g.hm
  fl := g.fl
  hh ha := by
    refine ⟨(g.hh ha).h1, (g.hh ha).h2, ?_, (g.hh ha).h4⟩
    intro z' b hb
    show homeOf D b = z'
    by_cases e : z' = z
    · subst e
      refine hx ha b ?_
      have hlt : z' < D.arrs.length := by
        by_cases h : z' < D.arrs.length
        · exact h
        · rw [List.getElem?_eq_none (by omega)] at hw; cases hw
      simpa [DS.arr, DS.setArr, List.getD, List.getElem?_set, hlt] using hb
    · refine (g.hh ha).h3 z' b ?_
      have e' : ¬ z = z' := fun q => e q.symm
      simpa [DS.arr, DS.setArr, List.getD, List.getElem?_set, e'] using hb
theorem Gl.addFl (g : Gl M a D ex) {h : Nat} {l : List Blk} (hl : l ≠ []) (hs : h < M.ns) (hc : ∀ b, l.count b + ex'.count b = ex.count b)
    (hx : a → ∀ b, b ∈ l → homeOf D b = h) : Gl M a (D.addFl h l) ex' where
  pl b := by
    have h1 := g.pl b
    have h3 := hc b
    show pgC D b + oC (D.addFl h l) b + ex'.count b = wnt M D b
    simp only [oC, DS.addFl, List.map_append, List.sum_append] at h1 ⊢
    simp
    omega
  sl := g.sl
  pg := g.pg
  wl := g.wl
  al := g.al
  hm := g.hm
  fl m hm := by
    simp only [DS.addFl, List.mem_append, List.mem_singleton] at hm
    rcases hm with hm | rfl
    · exact g.fl m hm
    · exact ⟨hs, hl⟩
  hh ha := by
    refine ⟨(g.hh ha).h1, (g.hh ha).h2, (g.hh ha).h3, ?_⟩
    intro m hm b hb
    simp only [DS.addFl, List.mem_append, List.mem_singleton] at hm
    rcases hm with hm | rfl
    · exact (g.hh ha).h4 m hm b hb
    · exact hx ha b hb
theorem Gl.page (g : Gl M a D ex) {P : List Pg} (hl : P.length = 4) (hm : ∀ (p h : Nat) (f : List Nat), P[p]? = some (.small h f) → h < M.ns)
    (pl : ∀ b, pgC { D with pages := P } b + oC D b + ex'.count b = wnt M { D with pages := P } b) (hx : a → ∀ b, 0 < oC D b → homeOf { D with pages := P } b = homeOf D b) : Gl M a { D with pages := P } ex' where
  pl := pl
  sl := g.sl
  pg := hl
  wl := g.wl
  al := g.al
  hm := hm
  fl := g.fl
  hh ha := by
    constructor
    · intro t w z ops h1 h2 b hb
      rw [hx ha b (mem_wk h1 (mem_hc hb))]
      exact (g.hh ha).h1 t w z ops h1 h2 b hb
    · intro t w h1 j b hb
      rw [hx ha b (mem_wk h1 (mem_bat hb))]
      exact (g.hh ha).h2 t w h1 j b hb
    · intro z b hb
      rw [hx ha b (mem_ar (z := z) hb)]
      exact (g.hh ha).h3 z b hb
    · intro m hm b hb
      rw [hx ha b (mem_fl hm hb)]
      exact (g.hh ha).h4 m hm b hb
theorem pg_of {p : Nat} {x : Pg} (h : D.pages[p]? = some x) : D.pg p = x := by simp [DS.pg, List.getD, h]
theorem setPg_get {p : Nat} {x : Pg} (q : Nat) (h : p < D.pages.length) : (D.pages.set p x)[q]? = if q = p then some x else D.pages[q]? := by
  rw [List.getElem?_set]
  by_cases e : p = q
  · subst e; simp [h]
  · have e' : ¬ q = p := fun z => e z.symm
    simp [e, e']
theorem lt_of_get {α : Type} {l : List α} {i : Nat} {x : α} (h : l[i]? = some x) : i < l.length := by
  by_cases e : i < l.length
  · exact e
  · rw [List.getElem?_eq_none (by omega)] at h; cases h
theorem homeOf_of {b : Blk} {h : Nat} {f : List Nat} (e : D.pages[b.1]? = some (.small h f)) : homeOf D b = h := by simp [homeOf, pg_of e]
theorem putHome_home {b c : Blk} (g : Gl M a D (b :: ex)) (hc : 0 < oC D c + ex.count c) : homeOf (Mx.putHome M D b) c = homeOf D c := by
  obtain ⟨h, f, e, hb⟩ := g.small (b := b) (by rw [List.count_cons_self]; omega)
  have hlt := lt_of_get e
  unfold Mx.putHome
  rw [pg_of e]
  simp only [DS.setPg]
  by_cases ec : c.1 = b.1
  · unfold homeOf DS.pg
    simp only [List.getD]
    rw [setPg_get _ hlt, if_pos ec, ec, e]
    simp only [Option.getD_some]
    split
    · rename_i q
      split at q
      · rename_i full
        exfalso
        have h1 := g.pl c
        unfold pgC wnt at h1
        rw [ec, e] at h1
        simp only at h1
        have hcb : List.count c [b] = List.count c.2 [b.2] := by
          rcases c with ⟨c1, c2⟩; rcases b with ⟨b1, b2⟩
          simp only at ec; subst ec
          simp [List.count_singleton]
        rw [show b :: ex = [b] ++ ex from rfl, List.count_append, hcb] at h1
        by_cases hs : c.2 < M.size
        · have hin : c.2 ∈ f ++ [b.2] := by
            have := full
            simp only [fullPg, List.all_eq_true, List.mem_range] at this
            have := this c.2 hs
            simpa using this
          have : 0 < (f ++ [b.2]).count c.2 := List.count_pos_iff.mpr hin
          rw [List.count_append] at this
          rw [if_pos hs] at h1
          omega
        · rw [if_neg hs] at h1
          omega
      · cases q
    · rename_i q
      split at q
      · cases q
      · cases q; rfl
  · unfold homeOf DS.pg
    simp only [List.getD]
    rw [setPg_get _ hlt, if_neg ec]
theorem Gl.putHome {b : Blk} (g : Gl M a D (b :: ex)) : Gl M a (putHome M D b) ex := by
  obtain ⟨h, f, e, hb⟩ := g.small (b := b) (by rw [List.count_cons_self]; omega)
  have hlt := lt_of_get e
  unfold Mx.putHome
  rw [pg_of e]
  simp only [DS.setPg]
  refine g.page (by simp [g.pg]) ?_ ?_ ?_
  · intro p h' f' hp
    rw [setPg_get _ hlt] at hp
    split at hp
    · split at hp
      · cases hp
      · cases hp; exact g.hm _ _ _ e
    · exact g.hm _ _ _ hp
  · intro c
    have h1 := g.pl c
    unfold pgC wnt at h1 ⊢
    simp only [setPg_get _ hlt]
    by_cases ec : c.1 = b.1
    · rw [if_pos ec]
      rw [ec, e] at h1
      simp only at h1
      have hcb : List.count c [b] = List.count c.2 [b.2] := by
        rcases c with ⟨c1, c2⟩; rcases b with ⟨b1, b2⟩
        simp only at ec; subst ec
        simp [List.count_singleton]
      rw [show b :: ex = [b] ++ ex from rfl, List.count_append, hcb] at h1
      split
      · rename_i k q
        split at q
        · cases q
        · cases q
          simp only [List.count_append]; omega
      · rename_i q
        split at q
        · rename_i full
          by_cases hs : c.2 < M.size
          · have hin : c.2 ∈ f ++ [b.2] := by
              have := full
              simp only [fullPg, List.all_eq_true, List.mem_range] at this
              have := this c.2 hs
              simpa using this
            have : 0 < (f ++ [b.2]).count c.2 := List.count_pos_iff.mpr hin
            rw [List.count_append] at this
            rw [if_pos hs] at h1
            omega
          · rw [if_neg hs] at h1
            omega
        · exact absurd rfl (q _ _)
    · rw [if_neg ec]
      have : List.count c (b :: ex) = List.count c ex := by
        rw [List.count_cons_of_ne]
        intro q; exact ec (by rw [q])
      rw [this] at h1
      exact h1
  · intro ha c hc
    have := putHome_home g (c := c) (by omega)
    unfold Mx.putHome at this
    rw [pg_of e] at this
    exact this
theorem Gl.bring {b : Blk} {z : Nat} (g : Gl M a D (b :: ex)) : Gl M a (bring M D b z).1 ex := by
  obtain ⟨h, f, e, hb⟩ := g.small (b := b) (by rw [List.count_cons_self]; omega)
  unfold Mx.bring
  split
  · exact g.putHome
  · refine g.addFl (by simp) (by rw [homeOf_of e]; exact g.hm _ _ _ e) ?_ ?_
    · intro c; rw [show b :: ex = [b] ++ ex from rfl, List.count_append]
    · intro _ c hc
      rw [List.mem_singleton.mp hc]
theorem putHome_fl {b : Blk} : (Mx.putHome M D b).fl = D.fl := by
  unfold Mx.putHome; split <;> rfl
theorem putHome_wks {b : Blk} : (Mx.putHome M D b).wks = D.wks := by
  unfold Mx.putHome; split <;> rfl
theorem bring_wks {b : Blk} {z : Nat} : (Mx.bring M D b z).1.wks = D.wks := by
  unfold Mx.bring; split
  · exact putHome_wks
  · rfl
theorem Gl.sweep : ∀ (l : List Blk) (D : DS), Gl M a D (l ++ ex) → ∀ z, Gl M a (l.foldl (fun D b => (Mx.bring M D b z).1) D) ex
  | [], D, g, z => g
  | b :: l, D, g, z => by
    simp only [List.foldl_cons]
    exact Gl.sweep l _ (Gl.bring (ex := l ++ ex) g) z
theorem Gl.fillFrom {t p h : Nat} {f : List Nat} {w : Wk} (g : Gl M a D ex) (hw : D.wks[t]? = some w) (hc : w.cache = []) (hp : D.pages[p]? = some (.small h f))
    (hx : a → ∀ z ops, M.thr[t]? = some (z, ops) → h = z) : Gl M a (Mx.fillFrom M D t p) ex := by
  have hlt := lt_of_get hp
  unfold Mx.fillFrom
  rw [pg_of hp]
  have hwk : D.wk t = w := by simp [DS.wk, List.getD, hw]
  rw [hwk]
  simp only
  -- first the pages, with the blocks over, then the worker
  have g1 : Gl M a (D.setPg p (.small h (f.drop M.batch))) (((f.take M.batch).map fun n => (p, n)) ++ ex) := by
    simp only [DS.setPg]
    refine g.page (by simp [g.pg]) ?_ ?_ ?_
    · intro q h' f' hq
      rw [setPg_get _ hlt] at hq
      split at hq
      · cases hq; exact g.hm _ _ _ hp
      · exact g.hm _ _ _ hq
    · intro c
      have h1 := g.pl c
      unfold pgC wnt at h1 ⊢
      simp only [setPg_get _ hlt]
      rw [List.count_append]
      by_cases ec : c.1 = p
      · rw [if_pos ec]
        rw [ec, hp] at h1
        simp only at h1 ⊢
        have hm : ∀ l : List Nat, List.count c (l.map fun n => (p, n)) = l.count c.2 := by
          intro l
          induction l with
          | nil => rfl
          | cons x l ih =>
            rcases c with ⟨c1, c2⟩
            simp only at ec; subst ec
            simp [List.count_cons] at ih ⊢
            exact ih
        rw [hm]
        have := List.count_append (a := c.2) (l₁ := f.take M.batch) (l₂ := f.drop M.batch)
        rw [List.take_append_drop] at this
        omega
      · rw [if_neg ec]
        have : List.count c ((f.take M.batch).map fun n => (p, n)) = 0 := by
          rw [List.count_eq_zero]
          intro q
          simp only [List.mem_map] at q
          obtain ⟨n, _, q⟩ := q
          exact ec (by rw [← q])
        rw [this]
        omega
    · intro ha c hc
      unfold homeOf DS.pg
      simp only [List.getD]
      rw [setPg_get _ hlt]
      by_cases ec : c.1 = p
      · rw [if_pos ec, ec, hp]; rfl
      · rw [if_neg ec]
  have hw1 : (D.setPg p (.small h (f.drop M.batch))).wks[t]? = some w := hw
  have g2 := g1.setWk (w' := { w with cache := (f.take M.batch).map fun n => (p, n), ph := .begin }) (ex' := ex) hw1 (by
    intro b
    simp only [wkB, List.count_append, hc, List.count_nil]
    omega) (by
    intro ha
    constructor
    · intro z ops ht b hb
      rcases hb with hb | hb
      · exact (g1.hh ha).h1 t w z ops hw1 ht b (Or.inl hb)
      · simp only [List.mem_map] at hb
        obtain ⟨n, _, rfl⟩ := hb
        rw [homeOf_of (h := h) (f := f.drop M.batch)]
        · exact hx ha z ops ht
        · simp only [DS.setPg]; rw [setPg_get _ hlt, if_pos rfl]
    · intro j b hb
      exact (g1.hh ha).h2 t w hw1 j b hb)
  exact g2
end
end Mp
set_option autoImplicit false
set_option linter.all false
namespace Mp
open Mx Rp
/-! ### the worker's invariant -/
def batL (M : MC) (w : Wk) : Prop := ∀ j, (w.bat j).length < M.batch
def batT (w : Wk) : Nat := w.bats.flatten.length
def endW (ops : List Op) (w : Wk) : Wk := if w.pc = ops.length then (if w.empty then { w with run := false, ph := .over } else { w with ph := .flush }) else w
def advW (ops : List Op) (w : Wk) : Wk := endW ops { w with pc := w.pc + 1, ph := .begin }
structure WkOk (M : MC) (ops : List Op) (w : Wk) : Prop where
  bl : w.bats.length = M.ns
  st : (w.pc = ops.length ∧ w.hand = [] ∧ batL M w ∧ (w.run = true → w.empty = false))
    ∨ (w.pc < ops.length ∧ w.ph = .begin ∧ w.hand = [] ∧ batL M w)
    ∨ (∃ s, ops[w.pc]? = some (.alloc s) ∧ w.ph = .hand ∧ w.cache = [] ∧ batL M w)
    ∨ (ops[w.pc]? = some .drain ∧ w.ph = .hand ∧ w.hand ≠ [] ∧ batL M w)
    ∨ (∃ s j, ops[w.pc]? = some (.free s) ∧ w.ph = .send ∧ w.hand = [] ∧ (w.bat j).length = M.batch ∧ ∀ i, i ≠ j → (w.bat i).length < M.batch)
theorem endW_hand (ops : List Op) (w : Wk) : (endW ops w).hand = w.hand := by unfold endW; split <;> (try split) <;> rfl
theorem endW_cache (ops : List Op) (w : Wk) : (endW ops w).cache = w.cache := by unfold endW; split <;> (try split) <;> rfl
theorem endW_bats (ops : List Op) (w : Wk) : (endW ops w).bats = w.bats := by unfold endW; split <;> (try split) <;> rfl
theorem endW_wkB (ops : List Op) (w : Wk) : wkB (endW ops w) = wkB w := by simp only [wkB, endW_hand, endW_cache, endW_bats]
theorem endW_bat (ops : List Op) (w : Wk) (j : Nat) : (endW ops w).bat j = w.bat j := by simp only [Wk.bat, endW_bats]
theorem endW_batT (ops : List Op) (w : Wk) : batT (endW ops w) = batT w := by simp only [batT, endW_bats]
theorem advW_wkB (ops : List Op) (w : Wk) : wkB (advW ops w) = wkB w := by simp only [advW, endW_wkB]; rfl
theorem advW_batT (ops : List Op) (w : Wk) : batT (advW ops w) = batT w := by simp only [advW, endW_batT]; rfl
theorem endW_ok {M : MC} {ops : List Op} {w : Wk} (hp : w.pc ≤ ops.length) (hl : w.bats.length = M.ns) (hh : w.hand = []) (hb : batL M w) (hq : w.ph = .begin ∨ w.pc = ops.length) : WkOk M ops (endW ops w) := by
  refine ⟨by rw [endW_bats]; exact hl, ?_⟩
  by_cases e : w.pc = ops.length
  · left
    refine ⟨?_, by rw [endW_hand]; exact hh, fun j => by rw [endW_bat]; exact hb j, ?_⟩
    · unfold endW; rw [if_pos e]; split <;> exact e
    · unfold endW; rw [if_pos e]
      split
      · intro h; cases h
      · rename_i h; intro _
        show w.empty = false
        simpa using h
  · right; left
    have : endW ops w = w := by unfold endW; rw [if_neg e]
    rw [this]
    exact ⟨by omega, hq.resolve_right e, hh, hb⟩
theorem advW_ok {M : MC} {ops : List Op} {w : Wk} (hp : w.pc < ops.length) (hl : w.bats.length = M.ns) (hh : w.hand = []) (hb : batL M w) : WkOk M ops (advW ops w) :=
  endW_ok (w := { w with pc := w.pc + 1, ph := .begin }) hp hl hh hb (.inl rfl)
section
variable {M : MC} {a : Prop} {D D' : DS} {ex ex' : List Blk} {t z : Nat} {w w' : Wk} {ops : List Op}
theorem wk_of (h : D.wks[t]? = some w) : D.wk t = w := by simp [DS.wk, List.getD, h]
theorem prog_of (h : M.thr[t]? = some (z, ops)) : M.prog t = ops := by simp [MC.prog, List.getD, h]
theorem sock_of (h : M.thr[t]? = some (z, ops)) : M.sock t = z := by simp [MC.sock, List.getD, h]
theorem set_get (h : D.wks[t]? = some w) : (D.setWk t w').wks[t]? = some w' := by simp [DS.setWk, lt_of_get h]
theorem set_self (h : D.wks[t]? = some w) : D.setWk t w = D := by
  have : D.wks.set t w = D.wks := by
    apply List.ext_getElem?
    intro i
    rw [List.getElem?_set]
    split
    · rename_i e; subst e; simp [lt_of_get h, h]
      have := lt_of_get h
      rw [List.getElem?_eq_getElem this] at h
      exact (Option.some.inj h).symm
    · rfl
  unfold DS.setWk; rw [this]
theorem set_set' : (D.setWk t w).setWk t w' = D.setWk t w' := by simp [DS.setWk]
theorem lookEnd_eq (h : D.wks[t]? = some w) (ht : M.thr[t]? = some (z, ops)) : lookEnd M D t = D.setWk t (endW ops w) := by
  unfold lookEnd endW
  rw [wk_of h, prog_of ht]
  split
  · split <;> rfl
  · exact (set_self h).symm
theorem advance_eq (h : D.wks[t]? = some w) (ht : M.thr[t]? = some (z, ops)) : advance M D t = D.setWk t (advW ops w) := by
  unfold advance advW
  rw [wk_of h, lookEnd_eq (set_get h) ht, set_set']
def isB : Mx.Ev → Nat
  | .batch _ => 1
  | _ => 0
def isAd : Mx.Ev → Bool
  | .adopt _ _ => true
  | _ => false
structure Res (M : MC) (a : Prop) (D : DS) (t : Nat) (ops : List Op) (w : Wk) (r : DS × Mx.Ev) : Prop where
  gl : Gl M a r.1 []
  fl : D.fl.length ≤ r.1.fl.length
  wk : ∃ w', r.1.wks = D.wks.set t w' ∧ WkOk M ops w' ∧ isB r.2 + batT w ≤ M.batch * (if isPS r.2 then 0 else r.1.fl.length - D.fl.length) + batT w'
  ps : a → isPS r.2 = true → r.1.fl.length = D.fl.length
/-- the worker changes, its blocks and the homes do not -/
theorem Gl.endWk (g : Gl M a D ex) (h : D.wks[t]? = some w) (e1 : w'.hand = w.hand) (e2 : w'.cache = w.cache) (e3 : w'.bats = w.bats) : Gl M a (D.setWk t w') ex := by
  refine g.setWk h (fun b => by simp only [wkB, e1, e2, e3]) ?_
  intro ha
  refine ⟨fun z ops ht b hb => ?_, fun j b hb => ?_⟩
  · rw [e1, e2] at hb; exact (g.hh ha).h1 t w z ops h ht b hb
  · have : w'.bat j = w.bat j := by simp only [Wk.bat, e3]
    rw [this] at hb; exact (g.hh ha).h2 t w h j b hb
theorem Gl.advWk (g : Gl M a D ex) (h : D.wks[t]? = some w) : Gl M a (D.setWk t (advW ops w)) ex :=
  g.endWk h (by simp only [advW, endW_hand]) (by simp only [advW, endW_cache]) (by simp only [advW, endW_bats])
theorem bring_fl (b : Blk) (z : Nat) : ((bring M D b z).1.fl = D.fl ∧ (bring M D b z).2 = .home b) ∨ ((bring M D b z).1.fl.length = D.fl.length + 1 ∧ (bring M D b z).2 = .pass b ∧ homeOf D b ≠ z) := by
  unfold bring
  split
  · left; exact ⟨putHome_fl, rfl⟩
  · right
    rename_i h
    refine ⟨?_, rfl, h⟩
    simp [DS.addFl]
theorem bat_set (j : Nat) (l : List Blk) (i : Nat) (hj : j < w.bats.length) : ({ w with bats := w.bats.set j l } : Wk).bat i = if i = j then l else w.bat i := by
  unfold Wk.bat
  simp only [List.getD, List.getElem?_set]
  by_cases e : i = j
  · subst e; simp [hj]
  · have : ¬ j = i := fun q => e q.symm
    simp [e, this]
theorem bat_get (j : Nat) (hj : j < w.bats.length) : w.bats[j]? = some (w.bat j) := by
  unfold Wk.bat
  simp [List.getD, hj]
theorem batT_set (j : Nat) (l : List Blk) (hj : j < w.bats.length) : batT { w with bats := w.bats.set j l } + (w.bat j).length = batT w + l.length := by
  unfold batT
  simp only [List.length_flatten]
  exact sum_set List.length w.bats j _ l (bat_get j hj)
theorem cnt_set (j : Nat) (l : List Blk) (hj : j < w.bats.length) (b : Blk) : (w.bats.set j l).flatten.count b + (w.bat j).count b = w.bats.flatten.count b + l.count b := by
  simp only [count_fl]
  exact sum_set (fun l => List.count b l) w.bats j _ l (bat_get j hj)
/-! ### the moves of a thread -/
structure Th (M : MC) (a : Prop) (D : DS) (t z : Nat) (ops : List Op) (w : Wk) : Prop where
  g : Gl M a D []
  ht : M.thr[t]? = some (z, ops)
  hw : D.wks[t]? = some w
  ok : WkOk M ops w
  hz : z < M.ns
  bp : 0 < M.batch
theorem bring_res (T : Th M a D t z ops w) {b : Blk} {w1 w2 : Wk} (e : ∀ c, (wkB w1).count c + [b].count c = (wkB w).count c) (hb : b ∈ w.hand ∨ b ∈ w.cache) (hs : ∀ c, c ∈ w1.hand ∨ c ∈ w1.cache → c ∈ w.hand ∨ c ∈ w.cache)
    (eb : w1.bats = w.bats) (e1 : w2.hand = w1.hand) (e2 : w2.cache = w1.cache) (e3 : w2.bats = w1.bats) (hok : WkOk M ops w2) :
    Res M a D t ops w ((bring M (D.setWk t w1) b z).1.setWk t w2, (bring M (D.setWk t w1) b z).2) := by
  have g1 : Gl M a (D.setWk t w1) [b] := by
    refine T.g.setWk T.hw (fun c => by rw [e c]; simp) ?_
    intro ha
    refine ⟨fun z ops ht c hc => (T.g.hh ha).h1 t w z ops T.hw ht c (hs c hc), fun j c hc => ?_⟩
    have : w1.bat j = w.bat j := by simp only [Wk.bat, eb]
    rw [this] at hc; exact (T.g.hh ha).h2 t w T.hw j c hc
  have g2 := g1.bring (z := z)
  have hw2 : (bring M (D.setWk t w1) b z).1.wks[t]? = some w1 := by rw [bring_wks]; exact set_get T.hw
  have hT : batT w2 = batT w := by simp only [batT, e3, eb]
  refine ⟨g2.endWk hw2 e1 e2 e3, ?_, ⟨w2, ?_, hok, ?_⟩, ?_⟩
  · show D.fl.length ≤ (bring M (D.setWk t w1) b z).1.fl.length
    rcases bring_fl (M := M) (D := D.setWk t w1) b z with ⟨h, _⟩ | ⟨h, _⟩
    · rw [h]; exact Nat.le_refl _
    · rw [h]; exact Nat.le_succ _
  · show (bring M (D.setWk t w1) b z).1.wks.set t w2 = D.wks.set t w2
    rw [bring_wks]; simp [DS.setWk]
  · rw [hT]
    rcases bring_fl (M := M) (D := D.setWk t w1) b z with ⟨_, h⟩ | ⟨_, h, _⟩
    · simp only [h, isB]; omega
    · simp only [h, isB]; omega
  · intro ha hp
    rcases bring_fl (M := M) (D := D.setWk t w1) b z with ⟨h, _⟩ | ⟨_, _, h⟩
    · show (bring M (D.setWk t w1) b z).1.fl.length = D.fl.length
      rw [h]; rfl
    · exact absurd ((T.g.hh ha).h1 t w z ops T.hw T.ht b hb) h
/-- a move that sends nothing and puts nothing into a batch -/
theorem quiet_res {D1 : DS} {ev : Mx.Ev} {w1 w2 : Wk} (T : Th M a D t z ops w) (g1 : Gl M a D1 []) (hw1 : D1.wks = D.wks.set t w1) (hf : D1.fl = D.fl) (hB : isB ev = 0)
    (e1 : w2.hand = w1.hand) (e2 : w2.cache = w1.cache) (e3 : w2.bats = w1.bats) (eb : w1.bats = w.bats) (hok : WkOk M ops w2) : Res M a D t ops w (D1.setWk t w2, ev) := by
  have hw2 : D1.wks[t]? = some w1 := by rw [hw1]; simp [lt_of_get T.hw]
  refine ⟨g1.endWk hw2 e1 e2 e3, ?_, ⟨w2, ?_, hok, ?_⟩, ?_⟩
  · show D.fl.length ≤ D1.fl.length
    rw [hf]; exact Nat.le_refl _
  · show D1.wks.set t w2 = D.wks.set t w2
    rw [hw1]; simp
  · have : batT w2 = batT w := by simp only [batT, e3, eb]
    rw [this]
    show isB ev + _ ≤ _
    rw [hB]; omega
  · intro _ _
    show D1.fl.length = D.fl.length
    rw [hf]
theorem adv_hand (ops : List Op) (w : Wk) : (advW ops w).hand = w.hand := by simp only [advW, endW_hand]
theorem adv_cache (ops : List Op) (w : Wk) : (advW ops w).cache = w.cache := by simp only [advW, endW_cache]
theorem adv_bats (ops : List Op) (w : Wk) : (advW ops w).bats = w.bats := by simp only [advW, endW_bats]
/-- a batch is sent -/
theorem send_res (T : Th M a D t z ops w) {j : Nat} {w2 : Wk} (hj : j < w.bats.length) (hne : w.bat j ≠ []) (hle : (w.bat j).length ≤ M.batch) 
    (e1 : w2.hand = w.hand) (e2 : w2.cache = w.cache) (e3 : w2.bats = w.bats.set j []) (hok : WkOk M ops w2) : Res M a D t ops w ((sendBat D t j).setWk t w2, .send j (w.bat j).length) := by
  have hs : sendBat D t j = (D.setWk t { w with bats := w.bats.set j [] }).addFl j (w.bat j) := by unfold sendBat; rw [wk_of T.hw]
  have g1 : Gl M a (D.setWk t { w with bats := w.bats.set j [] }) (w.bat j) := by
    refine T.g.setWk T.hw (fun b => ?_) ?_
    · have := cnt_set (w := w) j [] hj b
      simp only [List.count_nil] at this
      simp only [wkB, List.count_append, List.count_nil]
      omega
    · intro ha
      refine ⟨fun z ops ht c hc => (T.g.hh ha).h1 t w z ops T.hw ht c hc, fun i c hc => ?_⟩
      rw [bat_set j [] i hj] at hc
      split at hc
      · cases hc
      · exact (T.g.hh ha).h2 t w T.hw i c hc
  have g2 : Gl M a (sendBat D t j) [] := by
    rw [hs]
    refine g1.addFl hne (by rw [← T.ok.bl]; exact hj) (fun b => by simp) ?_
    intro ha b hb
    exact (T.g.hh ha).h2 t w T.hw j b hb
  have hw2 : (sendBat D t j).wks[t]? = some { w with bats := w.bats.set j [] } := by
    rw [hs]; exact set_get T.hw
  have hf : (sendBat D t j).fl.length = D.fl.length + 1 := by rw [hs]; simp [DS.addFl, DS.setWk]
  refine ⟨g2.endWk hw2 e1 e2 e3, ?_, ⟨w2, ?_, hok, ?_⟩, ?_⟩
  · show D.fl.length ≤ (sendBat D t j).fl.length
    omega
  · show (sendBat D t j).wks.set t w2 = D.wks.set t w2
    rw [hs]; simp [DS.setWk, DS.addFl]
  · have h1 := batT_set (w := w) j [] hj
    have h2 : batT w2 = batT { w with bats := w.bats.set j [] } := by simp only [batT, e3]
    have h3 : (((sendBat D t j).setWk t w2).fl.length - D.fl.length) = 1 := by
      show (sendBat D t j).fl.length - D.fl.length = 1
      omega
    simp only [isB, isPS, h3, h2, List.length_nil] at h1 ⊢
    simp
    omega
  · intro _ h; cases h
theorem firstBat_spec {p : List Blk → Bool} {j : Nat} (h : firstBat p w = some j) : j < w.bats.length ∧ p (w.bat j) = true := by
  unfold firstBat at h
  have h1 := List.find?_some h
  have h2 := List.mem_of_find?_eq_some h
  exact ⟨List.mem_range.mp h2, h1⟩
theorem firstBat_ex {p : List Blk → Bool} {j : Nat} (hj : j < w.bats.length) (hp : p (w.bat j) = true) : ∃ i, firstBat p w = some i := by
  unfold firstBat
  cases h : (List.range w.bats.length).find? fun j => p (w.bat j) with
  | some i => exact ⟨i, rfl⟩
  | none =>
    rw [List.find?_eq_none] at h
    exact absurd hp (h j (List.mem_range.mpr hj))
theorem bat_lt {j : Nat} (h : w.bat j ≠ []) : j < w.bats.length := by
  by_cases e : j < w.bats.length
  · exact e
  · exact absurd (by simp [Wk.bat, List.getD, List.getElem?_eq_none (Nat.le_of_not_lt e)]) h
theorem empty_ex (hh : w.hand = []) (hc : w.cache = []) (he : w.empty = false) : ∃ j, firstBat (fun l => !l.isEmpty) w = some j := by
  unfold Wk.empty at he
  simp only [hh, hc, List.isEmpty_nil, Bool.true_and] at he
  rw [List.all_eq_false] at he
  obtain ⟨l, hl, hn⟩ := he
  obtain ⟨i, hi, e⟩ := List.getElem_of_mem hl
  refine firstBat_ex (j := i) hi ?_
  have : w.bat i = l := by
    have := bat_get (w := w) i hi
    rw [List.getElem?_eq_getElem hi, e] at this
    exact (Option.some.inj this).symm
  rw [this]; simpa using hn
end
end Mp
set_option autoImplicit false
set_option linter.all false
namespace Mp
open Mx Rp
section
variable {M : MC} {a : Prop} {D D' : DS} {ex ex' : List Blk} {t z : Nat} {w w' : Wk} {ops : List Op}
theorem setWk_slots : (D.setWk t w).slots = D.slots := rfl
theorem lt_of_op {i : Nat} {o : Op} (h : ops[i]? = some o) : i < ops.length := lt_of_get h
theorem slot_at (h : D.slots.length = M.nsl) {s : Nat} (hs : s < M.nsl) : D.slots[s]? = some (D.sl s) := by
  unfold DS.sl; simp [List.getD, h, hs]
theorem arr_at (h : D.arrs.length = M.ns) {s : Nat} (hs : s < M.ns) : D.arrs[s]? = some (D.arr s) := by
  unfold DS.arr; simp [List.getD, h, hs]
theorem getLast_app {α : Type} {l : List α} {b : α} (h : l.getLast? = some b) : l = l.dropLast ++ [b] := by
  have hne : l ≠ [] := by intro e; rw [e] at h; cases h
  rw [List.getLast?_eq_some_getLast hne] at h
  rw [← Option.some.inj h]
  exact (List.dropLast_concat_getLast hne).symm
theorem wkOk_begin (T : WkOk M ops w) (hp : w.pc < ops.length) (hb : w.ph = .begin) : w.hand = [] ∧ batL M w := by
  rcases T.st with h | h | ⟨s, h⟩ | h | ⟨s, j, h⟩
  · omega
  · exact ⟨h.2.2.1, h.2.2.2⟩
  · rw [hb] at h; cases h.2.1
  · rw [hb] at h; cases h.2.1
  · rw [hb] at h; cases h.2.1
/-- the arrivals become the hand -/
theorem Gl.take (T : Th M a D t z ops w) (hh : w.hand = []) {w1 : Wk} (e1 : w1.hand = D.arr z) (e2 : w1.cache = w.cache) (e3 : w1.bats = w.bats) : Gl M a ((D.setWk t w1).setArr z []) [] := by
  have g1 : Gl M a (D.setArr z []) (D.arr z) := T.g.setArr (arr_at T.g.al T.hz) (fun b => by simp) (fun _ b hb => by cases hb)
  refine g1.setWk (D := D.setArr z []) T.hw (fun b => ?_) ?_
  · simp only [wkB, List.count_append, e1, e2, e3, hh, List.count_nil]; omega
  · intro ha
    refine ⟨fun z' ops' ht b hb => ?_, fun j b hb => ?_⟩
    · rw [e1, e2] at hb
      rcases hb with hb | hb
      · rw [T.ht] at ht
        obtain ⟨rfl, rfl⟩ := Prod.mk.inj (Option.some.inj ht)
        exact (T.g.hh ha).h3 z b hb
      · exact (T.g.hh ha).h1 t w z' ops' T.hw ht b (Or.inr hb)
    · have : w1.bat j = w.bat j := by simp only [Wk.bat, e3]
      rw [this] at hb; exact (T.g.hh ha).h2 t w T.hw j b hb
theorem take_eq (h : D.wks[t]? = some w) : Mx.take D t z = (D.setWk t { w with hand := D.arr z, ph := .hand }).setArr z [] := by
  unfold Mx.take; rw [wk_of h]
theorem tail_cnt {l : List Blk} {b : Blk} {r : List Blk} (h : l = b :: r) (c : Blk) : l.tail.count c + [b].count c = l.count c := by
  subst h
  rw [show b :: r = [b] ++ r from rfl, List.count_append]; simp; omega
theorem lists_spec {p : Nat} {l : List Nat} (h : listsWith D z = p :: l) : ∃ f, D.pages[p]? = some (.small z f) ∧ f ≠ [] := by
  have hp : p ∈ listsWith D z := by rw [h]; exact List.mem_cons_self
  simp only [listsWith, List.mem_filter, List.mem_range] at hp
  obtain ⟨h1, h2⟩ := hp
  have h3 : D.pages[p]? = some (D.pg p) := by unfold DS.pg; simp [List.getD, h1]
  cases e : D.pg p with
  | store => rw [e] at h2; cases h2
  | small h' f =>
    rw [e] at h2 h3
    simp only [isList, Bool.and_eq_true, decide_eq_true_eq] at h2
    obtain ⟨rfl, h4⟩ := h2
    exact ⟨f, h3, by intro q; subst q; simp at h4⟩
theorem open_spec {p : Nat} (h : pageToOpen D = some p) : D.pages[p]? = some .store := by
  unfold pageToOpen at h
  have hp : p ∈ storePages D := List.mem_of_mem_head? h
  simp only [storePages, List.mem_filter, List.mem_range] at hp
  obtain ⟨h1, h2⟩ := hp
  have h3 : D.pages[p]? = some (D.pg p) := by unfold DS.pg; simp [List.getD, h1]
  cases e : D.pg p with
  | store => rw [e] at h3; exact h3
  | small h' f => rw [e] at h2; cases h2
theorem Gl.openPg (g : Gl M a D ex) {p : Nat} (hp : D.pages[p]? = some .store) (hz : z < M.ns) : Gl M a (D.setPg p (.small z (List.range M.size))) ex := by
  have hlt := lt_of_get hp
  simp only [DS.setPg]
  refine g.page (by simp [g.pg]) ?_ ?_ ?_
  · intro q h' f' hq
    rw [setPg_get _ hlt] at hq
    split at hq
    · cases hq; exact hz
    · exact g.hm _ _ _ hq
  · intro c
    have h1 := g.pl c
    unfold pgC wnt at h1 ⊢
    simp only [setPg_get _ hlt]
    by_cases ec : c.1 = p
    · rw [if_pos ec]
      rw [ec, hp] at h1
      simp only at h1 ⊢
      have : (List.range M.size).count c.2 = if c.2 < M.size then 1 else 0 := by
        rw [List.nodup_range.count]
        simp only [List.mem_range]
      omega
    · rw [if_neg ec]
      exact h1
  · intro ha c hc
    obtain ⟨h', f', e, _⟩ := g.small (b := c) (by omega)
    unfold homeOf DS.pg
    simp only [List.getD]
    rw [setPg_get _ hlt]
    by_cases ec : c.1 = p
    · rw [ec, hp] at e; cases e
    · rw [if_neg ec]
theorem fill_res {D1 : DS} {p : Nat} {f : List Nat} {ev : Mx.Ev} (T : Th M a D t z ops w) (g : Gl M a D1 []) (hw1 : D1.wks = D.wks) (hf1 : D1.fl = D.fl) (hc : w.cache = []) (hh : w.hand = []) (hb : batL M w) (hpc : w.pc < ops.length)
    (hp : D1.pages[p]? = some (.small z f)) (hB : isB ev = 0) : Res M a D t ops w (Mx.fillFrom M D1 t p, ev) := by
  have hw : D1.wks[t]? = some w := by rw [hw1]; exact T.hw
  have g1 := g.fillFrom (h := z) hw hc hp (fun _ z' ops' ht => by
    rw [T.ht] at ht
    exact (Prod.mk.inj (Option.some.inj ht)).1)
  have e : Mx.fillFrom M D1 t p = (D1.setWk t { w with cache := (f.take M.batch).map fun n => (p, n), ph := .begin }).setPg p (.small z (f.drop M.batch)) := by
    unfold Mx.fillFrom; rw [pg_of hp, wk_of hw]
  have ef : (Mx.fillFrom M D1 t p).fl = D.fl := by rw [e]; exact hf1
  refine ⟨g1, ?_, ⟨{ w with cache := (f.take M.batch).map fun n => (p, n), ph := .begin }, ?_, ⟨T.ok.bl, .inr (.inl ⟨hpc, rfl, hh, hb⟩)⟩, ?_⟩, ?_⟩
  · show D.fl.length ≤ (Mx.fillFrom M D1 t p).fl.length
    rw [ef]; exact Nat.le_refl _
  · show (Mx.fillFrom M D1 t p).wks = _
    rw [e]; show D1.wks.set t _ = _
    rw [hw1]
  · show isB ev + _ ≤ _
    rw [hB]
    have : batT ({ w with cache := (f.take M.batch).map fun n => (p, n), ph := .begin } : Wk) = batT w := rfl
    rw [this]; omega
  · intro _ _
    show (Mx.fillFrom M D1 t p).fl.length = _
    rw [ef]
/-! the operations -/
theorem alloc_res {s : Nat} (T : Th M a D t z ops w) (ho : ops[w.pc]? = some (.alloc s)) (hs : s < M.nsl)
    (h1 : w.ph = .begin → w.cache ≠ [] → D.sl s = .non) (h2 : w.ph ≠ .begin → w.hand = [] → listsWith D z = [] → pageToOpen D = none → D.sl s = .non) : Res M a D t ops w (allocate M D t z s) := by
  have hpc := lt_of_op ho
  unfold allocate
  rw [wk_of T.hw]
  by_cases hb : w.ph = .begin
  · rw [if_pos hb]
    obtain ⟨hh, hl⟩ := wkOk_begin T.ok hpc hb
    cases hc : w.cache.getLast? with
    | none =>
      have hc' : w.cache = [] := by simpa using hc
      rw [take_eq T.hw]
      show Res M a D t ops w ((D.setWk t { w with hand := D.arr z, ph := .hand }).setArr z [], _)
      have g1 := Gl.take (w1 := { w with hand := D.arr z, ph := .hand }) T hh rfl rfl rfl
      have := quiet_res (ev := .take (D.arr z).length) (w1 := { w with hand := D.arr z, ph := .hand }) (w2 := { w with hand := D.arr z, ph := .hand }) T g1 rfl rfl rfl rfl rfl rfl rfl
        ⟨T.ok.bl, .inr (.inr (.inl ⟨s, ho, rfl, hc', hl⟩))⟩
      rw [set_self (by exact set_get T.hw)] at this
      exact this
    | some b =>
      have hap := getLast_app hc
      have hne : w.cache ≠ [] := by intro e; rw [e] at hc; cases hc
      have hsl := h1 hb hne
      have g1 : Gl M a (D.setWk t { w with cache := w.cache.dropLast }) [b] := by
        refine T.g.setWk T.hw (fun c => ?_) ?_
        · have : w.cache.count c = w.cache.dropLast.count c + [b].count c := by
            rw [← List.count_append, ← hap]
          simp only [wkB, List.count_append, List.count_nil]
          omega
        · intro ha
          refine ⟨fun z' ops' ht c hc => (T.g.hh ha).h1 t w z' ops' T.hw ht c ?_, fun j c hc => (T.g.hh ha).h2 t w T.hw j c hc⟩
          rcases hc with hc | hc
          · exact .inl hc
          · exact .inr ((List.dropLast_sublist _).subset hc)
      have g2 : Gl M a ((D.setWk t { w with cache := w.cache.dropLast }).setSl s (.blk b)) [] := by
        refine g1.setSl (x := .non) ?_ (fun c => ?_)
        · rw [← hsl]; exact slot_at T.g.sl hs
        · simp [slB]
      have hw2 : ((D.setWk t { w with cache := w.cache.dropLast }).setSl s (.blk b)).wks[t]? = some { w with cache := w.cache.dropLast } := set_get T.hw
      show Res M a D t ops w (advance M ((D.setWk t { w with cache := w.cache.dropLast }).setSl s (.blk b)) t, .hit b)
      rw [advance_eq hw2 T.ht]
      exact quiet_res T g2 rfl rfl rfl (adv_hand _ _) (adv_cache _ _) (adv_bats _ _) rfl (advW_ok hpc T.ok.bl hh hl)
  · rw [if_neg hb]
    have h3 : w.ph = .hand ∧ w.cache = [] ∧ batL M w := by
      rcases T.ok.st with h | h | ⟨s, h⟩ | h | ⟨s, j, h⟩
      · omega
      · exact absurd h.2.1 hb
      · exact h.2
      · rw [ho] at h; cases h.1
      · rw [ho] at h; cases h.1
    cases hh : w.hand with
    | nil =>
      show Res M a D t ops w (fill M D t z s)
      unfold fill
      cases hl : listsWith D z with
      | cons p l =>
        obtain ⟨f, hf, _⟩ := lists_spec hl
        exact fill_res T T.g rfl rfl h3.2.1 hh h3.2.2 hpc hf rfl
      | nil =>
        show Res M a D t ops w (openPage M D t z s)
        unfold openPage
        cases hp : pageToOpen D with
        | some p =>
          have hst := open_spec hp
          exact fill_res (D1 := D.setPg p (.small z (List.range M.size))) T (T.g.openPg hst T.hz) rfl rfl h3.2.1 hh h3.2.2 hpc (by simp only [DS.setPg]; rw [setPg_get _ (lt_of_get hst), if_pos rfl]) rfl
        | none =>
          have hsl := h2 hb hh hl hp
          have g2 : Gl M a (D.setSl s .fail) [] := by
            refine T.g.setSl (x := .non) ?_ (fun c => ?_)
            · rw [← hsl]; exact slot_at T.g.sl hs
            · simp [slB]
          show Res M a D t ops w (advance M (D.setSl s .fail) t, .fail)
          rw [advance_eq (D := D.setSl s .fail) T.hw T.ht]
          exact quiet_res (w1 := w) T g2 (by have := congrArg DS.wks (set_self T.hw); exact this.symm) rfl rfl (adv_hand _ _) (adv_cache _ _) (adv_bats _ _) rfl (advW_ok hpc T.ok.bl hh h3.2.2)
    | cons b r =>
      show Res M a D t ops w (bring M (popHand D t) b z)
      have hpop : popHand D t = D.setWk t { w with hand := w.hand.tail } := by unfold popHand; rw [wk_of T.hw]
      rw [hpop]
      have := bring_res (w1 := { w with hand := w.hand.tail }) (w2 := { w with hand := w.hand.tail }) T (b := b) (fun c => by
        have := tail_cnt hh c
        simp only [wkB, List.count_append]; omega) (by rw [hh]; exact .inl List.mem_cons_self) (fun c hc => by
        rcases hc with hc | hc
        · exact .inl (List.mem_of_mem_tail hc)
        · exact .inr hc) rfl rfl rfl rfl ⟨T.ok.bl, .inr (.inr (.inl ⟨s, ho, h3.1, h3.2.1, h3.2.2⟩))⟩
      have hw2 : (bring M (D.setWk t { w with hand := w.hand.tail }) b z).1.wks[t]? = some { w with hand := w.hand.tail } := by rw [bring_wks]; exact set_get T.hw
      rw [set_self hw2] at this
      exact this
theorem drain_res (T : Th M a D t z ops w) (ho : ops[w.pc]? = some .drain) : Res M a D t ops w (drain M D t z) := by
  have hpc := lt_of_op ho
  unfold drain
  rw [wk_of T.hw]
  by_cases hb : w.ph = .begin
  · rw [if_pos hb]
    obtain ⟨hh, hl⟩ := wkOk_begin T.ok hpc hb
    rw [take_eq T.hw]
    have g1 := Gl.take (w1 := { w with hand := D.arr z, ph := .hand }) T hh rfl rfl rfl
    have hw2 : ((D.setWk t { w with hand := D.arr z, ph := .hand }).setArr z []).wks[t]? = some { w with hand := D.arr z, ph := .hand } := set_get T.hw
    unfold drainEnd
    rw [wk_of hw2]
    by_cases he : D.arr z = []
    · rw [if_pos ⟨rfl, he⟩, advance_eq hw2 T.ht]
      exact quiet_res T g1 rfl rfl rfl (adv_hand _ _) (adv_cache _ _) (adv_bats _ _) rfl (advW_ok hpc T.ok.bl he hl)
    · rw [if_neg (fun q => he q.2)]
      have := quiet_res (ev := .take (D.arr z).length) (w1 := { w with hand := D.arr z, ph := .hand }) (w2 := { w with hand := D.arr z, ph := .hand }) T g1 rfl rfl rfl rfl rfl rfl rfl
        ⟨T.ok.bl, .inr (.inr (.inr (.inl ⟨ho, rfl, he, hl⟩)))⟩
      rw [set_self hw2] at this
      exact this
  · rw [if_neg hb]
    have h3 : w.ph = .hand ∧ w.hand ≠ [] ∧ batL M w := by
      rcases T.ok.st with h | h | ⟨s, h⟩ | h | ⟨s, j, h⟩
      · omega
      · exact absurd h.2.1 hb
      · rw [ho] at h; cases h.1
      · exact h.2
      · rw [ho] at h; cases h.1
    cases hh : w.hand with
    | nil => exact absurd hh h3.2.1
    | cons b r =>
      show Res M a D t ops w (drainEnd M (bring M (popHand D t) b z).1 t, (bring M (popHand D t) b z).2)
      have hpop : popHand D t = D.setWk t { w with hand := w.hand.tail } := by unfold popHand; rw [wk_of T.hw]
      rw [hpop]
      have hw2 : (bring M (D.setWk t { w with hand := w.hand.tail }) b z).1.wks[t]? = some { w with hand := w.hand.tail } := by rw [bring_wks]; exact set_get T.hw
      have main : ∀ w2 : Wk, w2.hand = w.hand.tail → w2.cache = w.cache → w2.bats = w.bats → WkOk M ops w2 → Res M a D t ops w ((bring M (D.setWk t { w with hand := w.hand.tail }) b z).1.setWk t w2, (bring M (D.setWk t { w with hand := w.hand.tail }) b z).2) := fun w2 e1 e2 e3 hok =>
        bring_res (w1 := { w with hand := w.hand.tail }) (w2 := w2) T (b := b) (fun c => by
        have := tail_cnt hh c
        simp only [wkB, List.count_append]; omega) (by rw [hh]; exact .inl List.mem_cons_self) (fun c hc => by
        rcases hc with hc | hc
        · exact .inl (List.mem_of_mem_tail hc)
        · exact .inr hc) rfl e1 e2 e3 hok
      unfold drainEnd
      rw [wk_of hw2]
      by_cases he : w.hand.tail = []
      · rw [if_pos ⟨h3.1, he⟩, advance_eq hw2 T.ht]
        exact main _ (adv_hand _ _) (adv_cache _ _) (adv_bats _ _) (advW_ok hpc T.ok.bl he h3.2.2)
      · rw [if_neg (fun q => he q.2)]
        have := main { w with hand := w.hand.tail } rfl rfl rfl ⟨T.ok.bl, .inr (.inr (.inr (.inl ⟨ho, h3.1, he, h3.2.2⟩)))⟩
        rw [set_self hw2] at this
        exact this
theorem sendFull_res {s : Nat} (T : Th M a D t z ops w) (ho : ops[w.pc]? = some (.free s)) (hp : w.ph = .send) : Res M a D t ops w (sendFull M D t) := by
  have hpc := lt_of_op ho
  obtain ⟨hh, j, hj1, hj2⟩ : w.hand = [] ∧ ∃ j, (w.bat j).length = M.batch ∧ ∀ i, i ≠ j → (w.bat i).length < M.batch := by
    rcases T.ok.st with h | h | ⟨s, h⟩ | h | ⟨s, j, h⟩
    · omega
    · rw [hp] at h; cases h.2.1
    · rw [hp] at h; cases h.2.1
    · rw [hp] at h; cases h.2.1
    · exact ⟨h.2.2.1, j, h.2.2.2⟩
  have hbp := T.bp
  have hjne : w.bat j ≠ [] := by intro e; rw [e] at hj1; simp at hj1; omega
  obtain ⟨i, hi⟩ := firstBat_ex (w := w) (p := fun l => decide (M.batch ≤ l.length)) (bat_lt hjne) (by simp [hj1])
  unfold sendFull
  rw [wk_of T.hw, hi]
  obtain ⟨hi1, hi2⟩ := firstBat_spec hi
  have hij : i = j := by
    by_cases e : i = j
    · exact e
    · have := hj2 i e
      simp at hi2; omega
  subst hij
  have hw2 : (sendBat D t i).wks[t]? = some { w with bats := w.bats.set i [] } := by
    unfold sendBat; rw [wk_of T.hw]; exact set_get T.hw
  show Res M a D t ops w (advance M (sendBat D t i) t, .send i (w.bat i).length)
  rw [advance_eq hw2 T.ht]
  refine send_res T hi1 hjne (by omega) (adv_hand _ _) (adv_cache _ _) (adv_bats _ _) (advW_ok (w := { w with bats := w.bats.set i [] }) hpc (by simp [T.ok.bl]) hh ?_)
  intro k
  rw [bat_set i [] k hi1]
  split
  · simpa using T.bp
  · rename_i e; exact hj2 k e
theorem free_res {s : Nat} (T : Th M a D t z ops w) (ho : ops[w.pc]? = some (.free s)) (hs : s < M.nsl) : Res M a D t ops w (freeOp M D t z s) := by
  have hpc := lt_of_op ho
  unfold freeOp
  rw [wk_of T.hw]
  by_cases hp : w.ph = .send
  · rw [if_pos hp]; exact sendFull_res T ho hp
  · rw [if_neg hp]
    obtain ⟨hh, hl⟩ : w.hand = [] ∧ batL M w := by
      rcases T.ok.st with h | h | ⟨s, h⟩ | h | ⟨s, j, h⟩
      · omega
      · exact h.2.2
      · rw [ho] at h; cases h.1
      · rw [ho] at h; cases h.1
      · exact absurd h.2.1 hp
    have hself : D.wks = D.wks.set t w := (congrArg DS.wks (set_self T.hw)).symm
    have other : slB (D.sl s) = [] → Res M a D t ops w (advance M (D.setSl s .non) t, .nothing) := by
      intro hsl
      have g2 : Gl M a (D.setSl s .non) [] := T.g.setSl (slot_at T.g.sl hs) (fun c => by rw [hsl]; simp [slB])
      rw [advance_eq (D := D.setSl s .non) T.hw T.ht]
      exact quiet_res (w1 := w) T g2 hself rfl rfl (adv_hand _ _) (adv_cache _ _) (adv_bats _ _) rfl (advW_ok hpc T.ok.bl hh hl)
    cases hsl : D.sl s with
    | non => exact other (by rw [hsl]; rfl)
    | fail => exact other (by rw [hsl]; rfl)
    | blk b =>
      have g1 : Gl M a (D.setSl s .non) [b] := T.g.setSl (slot_at T.g.sl hs) (fun c => by rw [hsl]; simp [slB])
      have hw1 : (D.setSl s .non).wks[t]? = some w := T.hw
      show Res M a D t ops w (freeBlock M (D.setSl s .non) t z b)
      obtain ⟨h, f, he, hb2⟩ := g1.small (b := b) (by simp)
      have hho := homeOf_of he
      have hhns : h < M.ns := g1.hm _ _ _ he
      have hhb : h < w.bats.length := by rw [T.ok.bl]; exact hhns
      unfold freeBlock
      rw [wk_of hw1, hho]
      by_cases hz : h ≠ z
      · rw [if_pos hz]
        have g2 : Gl M a ((D.setSl s .non).setWk t { w with bats := w.bats.set h (w.bat h ++ [b]) }) [] := by
          refine g1.setWk hw1 (fun c => ?_) ?_
          · have := cnt_set (w := w) h (w.bat h ++ [b]) hhb c
            simp only [List.count_append] at this
            simp only [wkB, List.count_append, List.count_nil]
            omega
          · intro ha
            refine ⟨fun z ops ht c hc => (g1.hh ha).h1 t w z ops hw1 ht c hc, fun i c hc => ?_⟩
            rw [bat_set h _ i hhb] at hc
            split at hc
            · rename_i e; subst e
              simp only [List.mem_append, List.mem_singleton] at hc
              rcases hc with hc | rfl
              · exact (g1.hh ha).h2 t w hw1 i c hc
              · exact hho
            · exact (g1.hh ha).h2 t w hw1 i c hc
        have hw2 : ((D.setSl s .non).setWk t { w with bats := w.bats.set h (w.bat h ++ [b]) }).wks[t]? = some { w with bats := w.bats.set h (w.bat h ++ [b]) } := set_get T.hw
        have hbt := batT_set (w := w) h (w.bat h ++ [b]) hhb
        have main : ∀ w2 : Wk, w2.hand = w.hand → w2.cache = w.cache → w2.bats = w.bats.set h (w.bat h ++ [b]) → WkOk M ops w2 → Res M a D t ops w (((D.setSl s .non).setWk t { w with bats := w.bats.set h (w.bat h ++ [b]) }).setWk t w2, .batch b) := by
          intro w2 e1 e2 e3 hok
          refine ⟨g2.endWk hw2 e1 e2 e3, Nat.le_refl _, ⟨w2, ?_, hok, ?_⟩, ?_⟩
          · simp [DS.setWk, DS.setSl]
          · have : batT w2 = batT { w with bats := w.bats.set h (w.bat h ++ [b]) } := by simp only [batT, e3]
            rw [this]
            simp only [isB, List.length_append, List.length_singleton] at hbt ⊢
            omega
          · intro _ q; cases q
        show Res M a D t ops w (if M.batch ≤ (w.bat h).length + 1 then ((D.setSl s .non).setWk t { w with bats := w.bats.set h (w.bat h ++ [b]) }).setWk t { ((D.setSl s .non).setWk t { w with bats := w.bats.set h (w.bat h ++ [b]) }).wk t with ph := .send } else advance M ((D.setSl s .non).setWk t { w with bats := w.bats.set h (w.bat h ++ [b]) }) t, .batch b)
        by_cases hf : M.batch ≤ (w.bat h).length + 1
        · rw [if_pos hf, wk_of hw2]
          refine main _ rfl rfl rfl ⟨by simp [T.ok.bl], .inr (.inr (.inr (.inr ⟨s, h, ho, rfl, hh, ?_, ?_⟩)))⟩
          · have := bat_set (w := w) h (w.bat h ++ [b]) h hhb
            rw [if_pos rfl] at this
            have h2 := hl h
            show (({ w with bats := w.bats.set h (w.bat h ++ [b]) } : Wk).bat h).length = M.batch
            rw [this]; simp; omega
          · intro i hi
            have := bat_set (w := w) h (w.bat h ++ [b]) i hhb
            rw [if_neg hi] at this
            show (({ w with bats := w.bats.set h (w.bat h ++ [b]) } : Wk).bat i).length < M.batch
            rw [this]; exact hl i
        · rw [if_neg hf, advance_eq hw2 T.ht]
          refine main _ (adv_hand _ _) (adv_cache _ _) (adv_bats _ _) (advW_ok (w := { w with bats := w.bats.set h (w.bat h ++ [b]) }) hpc (by simp [T.ok.bl]) hh ?_)
          intro i
          rw [bat_set h _ i hhb]
          split
          · simp; omega
          · exact hl i
      · rw [if_neg hz]
        have hz' : h = z := Decidable.not_not.mp hz
        by_cases hc : w.cache.length < M.batch
        · rw [if_pos hc]
          have g2 : Gl M a ((D.setSl s .non).setWk t { w with cache := w.cache ++ [b] }) [] := by
            refine g1.setWk hw1 (fun c => ?_) ?_
            · simp only [wkB, List.count_append, List.count_nil]; omega
            · intro ha
              refine ⟨fun z' ops' ht c hc => ?_, fun j c hc => (g1.hh ha).h2 t w hw1 j c hc⟩
              rcases hc with hc | hc
              · exact (g1.hh ha).h1 t w z' ops' hw1 ht c (.inl hc)
              · simp only [List.mem_append, List.mem_singleton] at hc
                rcases hc with hc | rfl
                · exact (g1.hh ha).h1 t w z' ops' hw1 ht c (.inr hc)
                · rw [T.ht] at ht
                  rw [hho, hz']
                  exact (Prod.mk.inj (Option.some.inj ht)).1
          rw [advance_eq (set_get hw1) T.ht]
          exact quiet_res (w1 := { w with cache := w.cache ++ [b] }) T g2 rfl rfl rfl (adv_hand _ _) (adv_cache _ _) (adv_bats _ _) rfl (advW_ok hpc T.ok.bl hh hl)
        · rw [if_neg hc]
          have hw3 : (putHome M (D.setSl s .non) b).wks[t]? = some w := by rw [putHome_wks]; exact hw1
          rw [advance_eq hw3 T.ht]
          exact quiet_res (w1 := w) T g1.putHome (by rw [putHome_wks]; exact hself) (by rw [putHome_fl]; rfl) rfl (adv_hand _ _) (adv_cache _ _) (adv_bats _ _) rfl (advW_ok hpc T.ok.bl hh hl)
theorem adopt_res {s : Nat} (T : Th M a D t z ops w) (ho : ops[w.pc]? = some (.adopt s)) (hx : a → isAd (adopt M D t z s).2 = false) : Res M a D t ops w (adopt M D t z s) := by
  have hpc := lt_of_op ho
  obtain ⟨hh, hl⟩ : w.hand = [] ∧ batL M w := by
    rcases T.ok.st with h | h | ⟨s, h⟩ | h | ⟨s, j, h⟩
    · omega
    · exact h.2.2
    · rw [ho] at h; cases h.1
    · rw [ho] at h; cases h.1
    · rw [ho] at h; cases h.1
  have hself : D.wks = D.wks.set t w := (congrArg DS.wks (set_self T.hw)).symm
  have other : Res M a D t ops w (advance M D t, .nothing) := by
    rw [advance_eq T.hw T.ht]
    exact quiet_res (w1 := w) T T.g hself rfl rfl (adv_hand _ _) (adv_cache _ _) (adv_bats _ _) rfl (advW_ok hpc T.ok.bl hh hl)
  unfold adopt at hx ⊢
  cases hsl : D.sl s with
  | non => exact other
  | fail => exact other
  | blk b =>
    rw [hsl] at hx
    simp only at hx ⊢
    cases hp : D.pg b.1 with
    | store => exact other
    | small h f =>
      rw [hp] at hx
      have na : ¬ a := fun ha => by cases hx ha
      have he : D.pages[b.1]? = some (.small h f) := by
        unfold DS.pg at hp
        cases e : D.pages[b.1]? with
        | none => simp [List.getD, e] at hp
        | some x => simp [List.getD, e] at hp; rw [hp]
      have hlt := lt_of_get he
      have g2 : Gl M a (D.setPg b.1 (.small z f)) [] := by
        simp only [DS.setPg]
        refine T.g.page (by simp [T.g.pg]) ?_ ?_ (fun ha => absurd ha na)
        · intro q h' f' hq
          rw [setPg_get _ hlt] at hq
          split at hq
          · cases hq; exact T.hz
          · exact T.g.hm _ _ _ hq
        · intro c
          have h1 := T.g.pl c
          unfold pgC wnt at h1 ⊢
          simp only [setPg_get _ hlt]
          by_cases ec : c.1 = b.1
          · rw [if_pos ec]
            rw [ec, he] at h1
            exact h1
          · rw [if_neg ec]; exact h1
      show Res M a D t ops w (advance M (D.setPg b.1 (.small z f)) t, .adopt b.1 h)
      rw [advance_eq (D := D.setPg b.1 (.small z f)) T.hw T.ht]
      exact quiet_res (w1 := w) T g2 hself rfl rfl (adv_hand _ _) (adv_cache _ _) (adv_bats _ _) rfl (advW_ok hpc T.ok.bl hh hl)
theorem flush_res (T : Th M a D t z ops w) (ho : ops[w.pc]? = none) (hr : w.run = true) : Res M a D t ops w (flush M D t z) := by
  have hge : ops.length ≤ w.pc := by simpa using ho
  obtain ⟨hpc, hh, hl, he⟩ : w.pc = ops.length ∧ w.hand = [] ∧ batL M w ∧ (w.run = true → w.empty = false) := by
    rcases T.ok.st with h | h | ⟨s, h⟩ | h | ⟨s, j, h⟩
    · exact h
    · omega
    · rw [ho] at h; cases h.1
    · rw [ho] at h; cases h.1
    · rw [ho] at h; cases h.1
  unfold flush
  rw [wk_of T.hw]
  cases hc : w.cache with
  | cons b r =>
    show Res M a D t ops w (lookEnd M (bring M (popCache0 D t) b z).1 t, (bring M (popCache0 D t) b z).2)
    have hpop : popCache0 D t = D.setWk t { w with cache := w.cache.tail } := by unfold popCache0; rw [wk_of T.hw]
    rw [hpop]
    have hw2 : (bring M (D.setWk t { w with cache := w.cache.tail }) b z).1.wks[t]? = some { w with cache := w.cache.tail } := by rw [bring_wks]; exact set_get T.hw
    rw [lookEnd_eq hw2 T.ht]
    exact bring_res (w1 := { w with cache := w.cache.tail }) (w2 := endW ops { w with cache := w.cache.tail }) T (b := b) (fun c => by
        have := tail_cnt hc c
        simp only [wkB, List.count_append]; omega) (by rw [hc]; exact .inr List.mem_cons_self) (fun c hc => by
        rcases hc with hc | hc
        · exact .inl hc
        · exact .inr (List.mem_of_mem_tail hc)) rfl (endW_hand _ _) (endW_cache _ _) (endW_bats _ _) (endW_ok (w := { w with cache := w.cache.tail }) (Nat.le_of_eq hpc) T.ok.bl hh hl (.inr hpc))
  | nil =>
    obtain ⟨j, hj⟩ := empty_ex hh hc (he hr)
    obtain ⟨hj1, hj2⟩ := firstBat_spec hj
    show Res M a D t ops w (lookEnd M (flushBat D t).1 t, (flushBat D t).2)
    have hf : flushBat D t = (sendBat D t j, .send j (w.bat j).length) := by
      unfold flushBat; rw [wk_of T.hw, hj]
    rw [hf]
    have hw2 : (sendBat D t j).wks[t]? = some { w with bats := w.bats.set j [] } := by
      unfold sendBat; rw [wk_of T.hw]; exact set_get T.hw
    show Res M a D t ops w (lookEnd M (sendBat D t j) t, .send j (w.bat j).length)
    rw [lookEnd_eq hw2 T.ht]
    refine send_res T hj1 (by intro q; rw [q] at hj2; cases hj2) (Nat.le_of_lt (hl j)) (endW_hand _ _) (endW_cache _ _) (endW_bats _ _) (endW_ok (w := { w with bats := w.bats.set j [] }) (Nat.le_of_eq hpc) (by simp [T.ok.bl]) hh ?_ (.inr hpc))
    intro k
    rw [bat_set j [] k hj1]
    split
    · simpa using T.bp
    · exact hl k
end
end Mp
set_option autoImplicit false
set_option linter.all false
namespace Mp
open Mx Rp
/-! ### the machine -/
theorem okM_thr {M : MC} (O : OkM M) : M.thr.length = 4 ∧ ∀ p ∈ M.thr, p.1 < M.ns ∧ p.2.length ≤ 8 ∧ ∀ o ∈ p.2, ∀ s ∈ opSlots o, s < M.nsl := by
  obtain ⟨h1, _⟩ := O.ns
  have pr : ∀ x, PairL (M.ns - 1) M.nsl x → x.length = 2 ∧ ∀ p ∈ x, p.1 < M.ns ∧ p.2.length ≤ 8 ∧ ∀ o ∈ p.2, ∀ s ∈ opSlots o, s < M.nsl := by
    rintro x ⟨cs, ad, hne, hl, hc, rfl⟩
    refine ⟨rfl, ?_⟩
    intro p hp
    simp only [List.mem_cons, List.not_mem_nil, or_false] at hp
    rcases hp with rfl | rfl
    · refine ⟨by show 0 < M.ns; omega, by simp; omega, ?_⟩
      intro o ho s hs
      simp only [List.mem_map] at ho
      obtain ⟨c, hc', rfl⟩ := ho
      simp only [opSlots, List.mem_singleton] at hs
      subst hs; exact hc _ hc'
    · refine ⟨by show M.ns - 1 < M.ns; omega, ?_, ?_⟩
      · unfold pairOps; split <;> simp <;> omega
      · intro o ho s hs
        have fr : o ∈ cs.map Op.free → s < M.nsl := by
          intro ho
          simp only [List.mem_map] at ho
          obtain ⟨c, hc', rfl⟩ := ho
          simp only [opSlots, List.mem_singleton] at hs
          subst hs; exact hc _ hc'
        unfold pairOps at ho
        simp only at ho
        split at ho
        · simp only [List.mem_cons, List.mem_append, List.not_mem_nil, or_false] at ho
          rcases ho with rfl | ho | rfl
          · simp only [opSlots, List.mem_singleton] at hs
            subst hs
            cases cs with
            | nil => exact absurd rfl hne
            | cons c r => exact hc _ List.mem_cons_self
          · exact fr ho
          · cases hs
        · exact fr ho
  obtain ⟨x, y, hx, hy, e⟩ := O.thr
  obtain ⟨lx, fx⟩ := pr x hx
  obtain ⟨ly, fy⟩ := pr y hy
  rw [e]
  refine ⟨by simp [lx, ly], ?_⟩
  intro p hp
  simp only [List.mem_append, List.mem_reverse] at hp
  rcases hp with hp | hp
  · exact fx p hp
  · exact fy p hp
structure Inv (M : MC) (a : Prop) (D : DS) : Prop where
  gl : Gl M a D []
  wk : ∀ (t : Nat) (w : Wk) (z : Nat) (ops : List Op), D.wks[t]? = some w → M.thr[t]? = some (z, ops) → WkOk M ops w
def batTot (D : DS) : Nat := (D.wks.map batT).sum
structure MvRes (M : MC) (a : Prop) (D : DS) (x : Mv) : Prop where
  inv : Inv M a (stepM M D x).1
  sent : 0 ≤ sentM D (stepM M D x).1 x
  bal : (isB (stepM M D x).2 : Int) + batTot D ≤ (M.batch : Int) * (if isPS (stepM M D x).2 then 0 else sentM D (stepM M D x).1 x) + batTot (stepM M D x).1
  ps : a → isPS (stepM M D x).2 = true → sentM D (stepM M D x).1 x = 0
section
variable {M : MC} {a : Prop} {D D' : DS} {ex ex' : List Blk} {t z : Nat} {w w' : Wk} {ops : List Op}
theorem thr_ex (O : OkM M) (g : Gl M a D ex) (hw : D.wks[t]? = some w) : ∃ z ops, M.thr[t]? = some (z, ops) ∧ z < M.ns ∧ ops.length ≤ 8 ∧ ∀ o ∈ ops, ∀ s ∈ opSlots o, s < M.nsl := by
  have h1 := lt_of_get hw
  rw [g.wl] at h1
  have h2 := List.getElem?_eq_getElem h1
  obtain ⟨h3, h4, h5⟩ := (okM_thr O).2 _ (List.getElem_mem h1)
  exact ⟨_, _, h2, h3, h4, h5⟩
theorem op_slot {i : Nat} {o : Op} {s n : Nat} (h : ∀ o ∈ ops, ∀ s ∈ opSlots o, s < n) (ho : ops[i]? = some o) (hs : s ∈ opSlots o) : s < n := h o (List.mem_of_getElem? ho) s hs
theorem step_res (O : OkM M) (I : Inv M a D) (hw : D.wks[t]? = some w) (hr : w.run = true) (hn : waiting M D t = false) (ht : M.thr[t]? = some (z, ops)) (hx : a → isAd (stepT M D t).2 = false) : Res M a D t ops w (stepT M D t) := by
  obtain ⟨z', ops', ht', hz, _, hs⟩ := thr_ex O I.gl hw
  rw [ht] at ht'
  obtain ⟨rfl, rfl⟩ := Prod.mk.inj (Option.some.inj ht')
  have T : Th M a D t z ops w := ⟨I.gl, ht, hw, I.wk t w z ops hw ht, hz, O.bat.1⟩
  unfold stepT at hx ⊢
  unfold waiting at hn
  rw [prog_of ht, wk_of hw, sock_of ht] at hx hn ⊢
  cases ho : ops[w.pc]? with
  | none => exact flush_res T ho hr
  | some o =>
    rw [ho] at hx hn
    cases o with
    | alloc s =>
      refine alloc_res T ho (op_slot hs ho (by simp [opSlots])) ?_ ?_
      · intro hb hc
        simp only [hb] at hn
        have : w.cache.isEmpty = false := by cases hq : w.cache with
          | nil => exact absurd hq hc
          | cons _ _ => rfl
        simp [this] at hn
        exact hn
      · intro hb hh hl hp
        have h3 : w.ph ≠ .send := by
          rcases T.ok.st with h | h | ⟨s, h⟩ | h | ⟨s, j, h⟩
          · rw [h.1] at ho; simp at ho
          · rw [h.2.1]; decide
          · rw [h.2.1]; decide
          · rw [h.2.1]; decide
          · rw [ho] at h; cases h.1
        simp [hb, h3, hh, hl, hp] at hn
        exact hn
    | free s => exact free_res T ho (op_slot hs ho (by simp [opSlots]))
    | adopt s => exact adopt_res T ho hx
    | drain => exact drain_res T ho
theorem res_mv (I : Inv M a D) (hw : D.wks[t]? = some w) (ht : M.thr[t]? = some (z, ops)) (R : Res M a D t ops w (stepT M D t)) : MvRes M a D (.step t) := by
  obtain ⟨w', e1, e2, e3⟩ := R.wk
  have hf := R.fl
  have hs : sentM D (stepT M D t).1 (.step t) = (((stepT M D t).1.fl.length - D.fl.length : Nat) : Int) := by
    simp only [sentM, isCar]
    simp; omega
  have hb : batTot (stepT M D t).1 + batT w = batTot D + batT w' := by
    unfold batTot; rw [e1]
    exact sum_set batT D.wks t w w' hw
  refine ⟨⟨R.gl, ?_⟩, ?_, ?_, ?_⟩
  · intro t' w1 z1 ops1 h1 h2
    show WkOk M ops1 w1
    have h1' : (D.wks.set t w')[t']? = some w1 := by rw [← e1]; exact h1
    rw [List.getElem?_set] at h1'
    split at h1'
    · rename_i e; subst e
      simp [lt_of_get hw] at h1'
      subst h1'
      rw [ht] at h2
      obtain ⟨rfl, rfl⟩ := Prod.mk.inj (Option.some.inj h2)
      exact e2
    · exact I.wk t' w1 z1 ops1 h1' h2
  · show 0 ≤ sentM D (stepT M D t).1 (.step t)
    rw [hs]; omega
  · show (isB (stepT M D t).2 : Int) + batTot D ≤ (M.batch : Int) * (if isPS (stepT M D t).2 then 0 else sentM D (stepT M D t).1 (.step t)) + batTot (stepT M D t).1
    rw [hs]
    cases hp : isPS (stepT M D t).2 with
    | true => simp only [hp, if_true] at e3 ⊢; simp at e3 ⊢; omega
    | false =>
      simp only [hp] at e3 ⊢
      simp only [Bool.false_eq_true, if_false] at e3 ⊢
      have : ((isB (stepT M D t).2 + batT w : Nat) : Int) ≤ ((M.batch * ((stepT M D t).1.fl.length - D.fl.length) + batT w' : Nat) : Int) := by exact_mod_cast e3
      rw [Int.natCast_add, Int.natCast_add, Int.natCast_mul] at this
      omega
  · intro ha hp
    show sentM D (stepT M D t).1 (.step t) = 0
    rw [hs, R.ps ha hp]; simp
theorem sum_erase {α : Type} (f : α → Nat) : ∀ (l : List α) (i : Nat) (x : α), l[i]? = some x → ((l.eraseIdx i).map f).sum + f x = (l.map f).sum
  | [], i, x, h => by simp at h
  | a :: l, 0, x, h => by simp at h; subst h; simp; omega
  | a :: l, i + 1, x, h => by
    have := sum_erase f l i x (by simpa using h)
    simp only [List.eraseIdx_cons_succ, List.map_cons, List.sum_cons]; omega
theorem Gl.delFl (g : Gl M a D []) {m s : Nat} {bs : List Blk} (h : D.fl[m]? = some (s, bs)) : Gl M a { D with fl := D.fl.eraseIdx m } bs where
  pl b := by
    have h1 := g.pl b
    have h2 := sum_erase (fun m : Nat × List Blk => m.2.count b) D.fl m (s, bs) h
    show pgC D b + oC { D with fl := D.fl.eraseIdx m } b + bs.count b = wnt M D b
    simp only [oC, List.count_nil] at h1 ⊢
    simp only at h2
    omega
  sl := g.sl
  pg := g.pg
  wl := g.wl
  al := g.al
  hm := g.hm
  fl m' hm' := g.fl m' (List.mem_of_mem_eraseIdx hm')
  hh ha := ⟨(g.hh ha).h1, (g.hh ha).h2, (g.hh ha).h3, fun m' hm' b hb => (g.hh ha).h4 m' (List.mem_of_mem_eraseIdx hm') b hb⟩
theorem batTot_of (h : D'.wks = D.wks) : batTot D' = batTot D := by unfold batTot; rw [h]
theorem carry_mv (I : Inv M a D) {m : Nat} (hm : m < D.fl.length) : MvRes M a D (.carry m) := by
  obtain ⟨s, bs, h⟩ : ∃ s bs, D.fl[m]? = some (s, bs) := ⟨_, _, List.getElem?_eq_getElem hm⟩
  have e : stepM M D (.carry m) = (({ D with fl := D.fl.eraseIdx m } : DS).setArr s (D.arr s ++ bs), .carry s bs.length) := by
    show Mx.carry D m = _
    unfold Mx.carry; rw [h]
  have hmem := List.mem_of_getElem? h
  have hs := (I.gl.fl _ hmem).1
  have hsent : sentM D (stepM M D (.carry m)).1 (.carry m) = 0 := by
    rw [e]
    simp only [sentM, isCar, DS.setArr, List.length_eraseIdx, hm, if_true]
    omega
  have g1 := I.gl.delFl h
  have g2 : Gl M a (({ D with fl := D.fl.eraseIdx m } : DS).setArr s (D.arr s ++ bs)) [] := by
    refine g1.setArr (x := D.arr s) (arr_at I.gl.al hs) (fun b => by simp [List.count_append]) ?_
    intro ha b hb
    simp only [List.mem_append] at hb
    rcases hb with hb | hb
    · exact (I.gl.hh ha).h3 s b hb
    · exact (I.gl.hh ha).h4 _ hmem b hb
  refine ⟨⟨?_, ?_⟩, ?_, ?_, fun _ _ => hsent⟩
  · rw [e]; exact g2
  · rw [e]; exact I.wk
  · rw [hsent]; exact Int.le_refl _
  · rw [hsent, e]
    have : batTot (({ D with fl := D.fl.eraseIdx m } : DS).setArr s (D.arr s ++ bs)) = batTot D := rfl
    simp only [this, isB]
    split <;> simp
theorem sweep_fold (z : Nat) : ∀ (l : List Blk) (D : DS), Gl M a D l → (a → ∀ b ∈ l, homeOf D b = z) →
    (l.foldl (fun D b => (bring M D b z).1) D).wks = D.wks ∧ D.fl.length ≤ (l.foldl (fun D b => (bring M D b z).1) D).fl.length ∧ (a → (l.foldl (fun D b => (bring M D b z).1) D).fl.length = D.fl.length)
  | [], D, g, h => ⟨rfl, Nat.le_refl _, fun _ => rfl⟩
  | b :: l, D, g, h => by
    simp only [List.foldl_cons]
    have g1 := Gl.bring (z := z) g
    have ih := sweep_fold z l _ g1 (by
      intro ha c hc
      have hb := h ha b List.mem_cons_self
      have e : (bring M D b z).1 = putHome M D b := by unfold bring; rw [if_pos hb]
      rw [e, putHome_home g (by have := List.count_pos_iff.mpr hc; omega)]
      exact h ha c (List.mem_cons_of_mem _ hc))
    refine ⟨by rw [ih.1, bring_wks], ?_, ?_⟩
    · refine Nat.le_trans ?_ ih.2.1
      rcases bring_fl (M := M) (D := D) b z with ⟨h, _⟩ | ⟨h, _⟩
      · rw [h]; exact Nat.le_refl _
      · rw [h]; exact Nat.le_succ _
    · intro ha
      rw [ih.2.2 ha]
      rcases bring_fl (M := M) (D := D) b z with ⟨h1, _⟩ | ⟨_, _, h1⟩
      · rw [h1]
      · exact absurd (h ha b List.mem_cons_self) h1
theorem sweep_gl (I : Inv M a D) (hz : z < M.ns) : Gl M a (D.setArr z []) (D.arr z) :=
  I.gl.setArr (arr_at I.gl.al hz) (fun b => by simp) (fun _ b hb => by cases hb)
theorem sweep_mv (I : Inv M a D) (hz : z < M.ns) : MvRes M a D (.sweep z) := by
  have g0 := sweep_gl I hz
  have g1 : Gl M a (stepM M D (.sweep z)).1 [] := Gl.sweep (ex := []) (D.arr z) _ (by rw [List.append_nil]; exact g0) z
  obtain ⟨h1, h2, h3⟩ := sweep_fold z (D.arr z) (D.setArr z []) g0 (fun ha b hb => (I.gl.hh ha).h3 z b hb)
  have hw : (stepM M D (.sweep z)).1.wks = D.wks := h1
  have h2' : D.fl.length ≤ (stepM M D (.sweep z)).1.fl.length := h2
  refine ⟨⟨g1, by rw [hw]; exact I.wk⟩, ?_, ?_, ?_⟩
  · simp only [sentM, isCar]; simp; omega
  · rw [batTot_of hw]
    show (isB (.sweep (D.arr z).length) : Int) + _ ≤ (M.batch : Int) * (if isPS (.sweep (D.arr z).length) then 0 else _) + _
    simp [isB, isPS]
  · intro ha _
    have h3' : (stepM M D (.sweep z)).1.fl.length = D.fl.length := h3 ha
    simp only [sentM, isCar]; simp; omega
theorem arrs_len (g : Gl M a D ex) : D.arrs.length = M.ns := g.al
theorem mv_cases {x : Mv} (g : Gl M a D ex) (hx : x ∈ moves M D) : (∃ m, x = .carry m ∧ m < D.fl.length) ∨ (∃ t w, x = .step t ∧ D.wks[t]? = some w ∧ w.run = true ∧ waiting M D t = false) ∨ (∃ z, x = .sweep z ∧ z < M.ns) := by
  unfold moves at hx
  simp only [List.mem_append, List.mem_map, List.mem_filter, List.mem_range] at hx
  rcases hx with (⟨m, h, rfl⟩ | ⟨t, ⟨h, h2⟩, rfl⟩) | ⟨z, ⟨h, h2⟩, rfl⟩
  · exact .inl ⟨m, rfl, h⟩
  · right; left
    have := List.getElem?_eq_getElem h
    rw [wk_of this] at h2
    simp at h2
    exact ⟨t, _, rfl, this, h2.1, h2.2⟩
  · right; right
    exact ⟨z, rfl, by rw [← g.al]; exact h⟩
theorem mv_res (O : OkM M) (I : Inv M a D) {x : Mv} (hx : x ∈ moves M D) (hn : a → isAd (stepM M D x).2 = false) : MvRes M a D x := by
  rcases mv_cases I.gl hx with ⟨m, rfl, h⟩ | ⟨t, w, rfl, h1, h2, h3⟩ | ⟨z, rfl, h⟩
  · exact carry_mv I h
  · obtain ⟨z, ops, ht, _⟩ := thr_ex O I.gl h1
    exact res_mv I h1 ht (step_res O I h1 h2 h3 ht hn)
  · exact sweep_mv I h
/-! ### sizes -/
theorem sum_le1 {α : Type} (f : α → Nat) : ∀ U : List α, (∀ x ∈ U, f x ≤ 1) → (U.map f).sum ≤ U.length
  | [], _ => Nat.le_refl _
  | x :: U, h => by
    have h1 := sum_le1 f U (fun y hy => h y (List.mem_cons_of_mem _ hy))
    have h2 := h x List.mem_cons_self
    simp only [List.map_cons, List.sum_cons, List.length_cons]; omega
theorem len_le {α : Type} [BEq α] [LawfulBEq α] (U : List α) : ∀ l : List α, (∀ b ∈ l, b ∈ U) → l.length ≤ (U.map fun u => l.count u).sum
  | [], _ => Nat.zero_le _
  | x :: l, h => by
    have ih := len_le U l (fun y hy => h y (List.mem_cons_of_mem _ hy))
    have key : ∀ V : List α, x ∈ V → (V.map fun u => l.count u).sum + 1 ≤ (V.map fun u => (x :: l).count u).sum := by
      have ge : ∀ V : List α, (V.map fun u => l.count u).sum ≤ (V.map fun u => (x :: l).count u).sum := by
        intro V
        induction V with
        | nil => exact Nat.le_refl _
        | cons v V ih =>
          have := List.count_le_count_cons (a := v) (b := x) (l := l)
          simp only [List.map_cons, List.sum_cons]; omega
      intro V hV
      induction V with
      | nil => cases hV
      | cons v V ihV =>
        simp only [List.map_cons, List.sum_cons]
        cases Classical.em (v = x) with
        | inl e =>
          subst e
          have := ge V
          rw [List.count_cons_self]; omega
        | inr e =>
          have h1 := ihV (by rcases List.mem_cons.mp hV with q | q; exact absurd q.symm e; exact q)
          have := List.count_le_count_cons (a := v) (b := x) (l := l)
          omega
    have := key U (h x List.mem_cons_self)
    simp only [List.length_cons]; omega
theorem out_len (O : OkM M) (g : Gl M a D ex) : (outside D).length ≤ 16 := by
  have h1 : (outside D).length ≤ (((List.range 4).flatMap fun p => (List.range 4).map fun n => (p, n)).map (fun u : Blk => (outside D).count u)).sum := len_le ((List.range 4).flatMap fun p => (List.range 4).map fun n => (p, n)) (outside D) (by
    intro b hb
    obtain ⟨h, f, e, hs⟩ := g.small (b := b) (by have := mem_oC.mp hb; omega)
    have hp := lt_of_get e
    have := O.size.2
    rw [g.pg] at hp
    simp only [List.mem_flatMap, List.mem_map, List.mem_range]
    exact ⟨b.1, hp, b.2, by omega, rfl⟩)
  have h2 := sum_le1 (fun u : Blk => (outside D).count u) ((List.range 4).flatMap fun p => (List.range 4).map fun n => (p, n)) (by
    intro b _
    rw [oC_eq]
    have := g.pl b
    unfold wnt at this
    split at this
    · split at this <;> omega
    · omega)
  have h3 : ((List.range 4).flatMap fun p => (List.range 4).map fun n => (p, n)).length = 16 := by decide
  omega
theorem fr_len (O : OkM M) (g : Gl M a D ex) {p h : Nat} {f : List Nat} (e : D.pages[p]? = some (.small h f)) : f.length ≤ 4 := by
  have hc : ∀ n, f.count n ≤ if n < M.size then 1 else 0 := by
    intro n
    have := g.pl (p, n)
    unfold pgC wnt at this
    rw [e] at this
    simp only at this
    omega
  have := O.size.2
  have h1 := len_le (List.range 4) f (by
    intro n hn
    have h1 := hc n
    have h2 := List.count_pos_iff.mpr hn
    rw [List.mem_range]
    split at h1 <;> omega)
  have h2 := sum_le1 (fun u => f.count u) (List.range 4) (by
    intro n _
    have := hc n
    split at this <;> omega)
  simp only [List.length_range] at h2
  omega
theorem flat_le {α : Type} {β : Type} (g : α → List β) {x : α} : ∀ {l : List α}, x ∈ l → (g x).length ≤ (l.flatMap g).length
  | y :: l, h => by
    simp only [List.flatMap_cons, List.length_append]
    rcases List.mem_cons.mp h with rfl | h
    · omega
    · have := flat_le g h; omega
theorem flt_le {β : Type} {x : List β} : ∀ {l : List (List β)}, x ∈ l → x.length ≤ l.flatten.length
  | y :: l, h => by
    simp only [List.flatten_cons, List.length_append]
    rcases List.mem_cons.mp h with rfl | h
    · omega
    · have := flt_le h; omega
theorem fl_le : ∀ l : List (Nat × List Blk), (∀ m ∈ l, m.2 ≠ []) → l.length ≤ (l.flatMap fun m => m.2).length
  | [], _ => Nat.le_refl _
  | y :: l, h => by
    have ih := fl_le l (fun m hm => h m (List.mem_cons_of_mem _ hm))
    have h1 := h y List.mem_cons_self
    have : 0 < y.2.length := List.length_pos_iff.mpr h1
    simp only [List.flatMap_cons, List.length_append, List.length_cons]; omega
theorem fit_of (O : OkM M) (I : Inv M a D) : Fit M D := by
  have g := I.gl
  have ho := out_len O g
  have ho2 : (outside D).length = (D.slots.flatMap slB).length + ((D.wks.flatMap fun w => w.hand ++ w.cache ++ w.bats.flatten).length + (D.arrs.flatten.length + (D.fl.flatMap fun m => m.2).length)) := by
    unfold outside; simp only [List.length_append]
  obtain ⟨o1, o2, o3, o4, _⟩ := O
  have O : OkM M := ⟨o1, o2, o3, o4, ‹_›⟩
  obtain ⟨t1, t2⟩ := okM_thr O
  constructor
  · omega
  · omega
  · omega
  · omega
  · omega
  · intro t p hp
    obtain ⟨h1, h2, h3⟩ := t2 p (List.mem_of_getElem? hp)
    exact ⟨by omega, h1, h3⟩
  · omega
  · exact g.sl
  · exact g.pg
  · intro p h f e
    have := fr_len O g e
    exact ⟨by omega, g.hm p h f e⟩
  · exact g.wl
  · intro t w hw
    obtain ⟨z, ops, ht, _⟩ := thr_ex O g hw
    have hb := (I.wk t w z ops hw ht).bl
    have h1 := flat_le (fun w : Wk => w.hand ++ w.cache ++ w.bats.flatten) (List.mem_of_getElem? hw)
    simp only [List.length_append] at h1
    refine ⟨by omega, by omega, hb, ?_⟩
    intro l hl
    have := flt_le hl
    omega
  · exact g.al
  · intro l hl
    have := flt_le hl
    omega
  · have := fl_le D.fl (fun m hm => (g.fl m hm).2)
    omega
  · intro m hm
    have := flat_le (fun m : Nat × List Blk => m.2) hm
    exact ⟨(g.fl m hm).1, by omega⟩
  · intro b hb
    obtain ⟨h, f, e, _⟩ := g.small (b := b) (by have := mem_oC.mp hb; omega)
    exact ⟨h, f, e⟩
theorem can_of (O : OkM M) (I : Inv M a D) (hw : D.wks[t]? = some w) (hr : w.run = true) (hn : waiting M D t = false) : CanStep M D t := by
  obtain ⟨z, ops, ht, hz, _, hs⟩ := thr_ex O I.gl hw
  have W := I.wk t w z ops hw ht
  have bp := O.bat.1
  unfold waiting at hn
  rw [prog_of ht, wk_of hw, sock_of ht] at hn
  refine ⟨fit_of O I, w, ops, z, hw, ht, ?_, ?_, ?_, ?_, ?_, ?_⟩
  · rcases W.st with h | h | ⟨s, h⟩ | h | ⟨s, j, h⟩
    · omega
    · omega
    · exact Nat.le_of_lt (lt_of_get h.1)
    · exact Nat.le_of_lt (lt_of_get h.1)
    · exact Nat.le_of_lt (lt_of_get h.1)
  · intro hp hc
    rcases W.st with h | h | ⟨s, h⟩ | h | ⟨s, j, h⟩
    · exact empty_ex h.2.1 hc (h.2.2.2 hr)
    · omega
    · have := lt_of_get h.1; omega
    · have := lt_of_get h.1; omega
    · have := lt_of_get h.1; omega
  · intro ho hp
    rcases W.st with h | h | ⟨s, h⟩ | h | ⟨s, j, h⟩
    · rw [h.1] at ho; simp at ho
    · exact absurd h.2.1 hp
    · rw [ho] at h; cases h.1
    · exact ⟨h.2.1, h.2.2.1⟩
    · rw [ho] at h; cases h.1
  · intro s ho hp
    rcases W.st with h | h | ⟨s, h⟩ | h | ⟨s, j, h⟩
    · rw [h.1] at ho; simp at ho
    · rw [hp] at h; cases h.2.1
    · rw [hp] at h; cases h.2.1
    · rw [hp] at h; cases h.2.1
    · have hne : w.bat j ≠ [] := by
        intro q
        have h4 := h.2.2.2.1
        rw [q] at h4
        simp at h4
        omega
      exact firstBat_ex (j := j) (bat_lt hne) (by simp [h.2.2.2.1])
  · intro s ho hp
    rw [ho] at hn
    simp [hp] at hn
    exact hn
  · intro s ho
    rw [ho] at hn
    have h3 : w.ph ≠ .send := by
      rcases W.st with h | h | ⟨s, h⟩ | h | ⟨s, j, h⟩
      · rw [h.1] at ho; simp at ho
      · rw [h.2.1]; decide
      · rw [h.2.1]; decide
      · rw [h.2.1]; decide
      · rw [ho] at h; cases h.1
    simp [h3] at hn
    exact hn
theorem good_of (O : OkM M) (I : Inv M False D) : Good M D := by
  refine ⟨fit_of O I, ?_, fun t w hw hr hn => can_of O I hw hr hn, ?_, fun x hx => fit_of O (mv_res O I hx (fun h => h.elim)).inv⟩
  · intro t w ops z hw ht
    rcases (I.wk t w z ops hw ht).st with h | h | ⟨s, h⟩ | h | ⟨s, j, h⟩
    · omega
    · omega
    · exact Nat.le_of_lt (lt_of_get h.1)
    · exact Nat.le_of_lt (lt_of_get h.1)
    · exact Nat.le_of_lt (lt_of_get h.1)
  · intro z i b hz hb
    have g0 := sweep_gl I hz
    have e : D.arr z = (D.arr z).take i ++ (D.arr z).drop i := (List.take_append_drop i _).symm
    rw [e] at g0
    have g1 := Gl.sweep (ex := (D.arr z).drop i) ((D.arr z).take i) _ g0 z
    have hd : (D.arr z).drop i = b :: (D.arr z).drop (i + 1) := by
      have hlt := lt_of_get hb
      rw [List.drop_eq_getElem_cons hlt]
      rw [List.getElem?_eq_getElem hlt] at hb
      rw [Option.some.inj hb]
    obtain ⟨h, f, e2, _⟩ := g1.small (b := b) (by rw [hd, List.count_cons_self]; omega)
    exact ⟨h, f, e2⟩
end
end Mp
set_option Elab.async false
set_option linter.all false
set_option maxRecDepth 100000
set_option maxHeartbeats 4000000
set_option autoImplicit false
namespace Rp
open PySem PySem.Spec PyProof.Rows L2 Mx Evl Hf
section
variable {K : Frg} {mg : Str → Option Value} {w : World} {σ : L2.St} {H : Hp} {ta tb te tl ti : TE} {s m : Addr} {M : MC} {loc : Lc} {D : DS} {t : Nat} {wk : Wk} {E : Ends} {tz : TS} {tt : TT}
theorem tyx_tup {a : Addr} {xs : List V} (h : SqT K H a xs) : TyX K H (.ref a) (.type "tuple") := by
  rcases h with (h | ⟨o, h⟩) | ⟨o, its, n, h1, h2, _⟩
  · exact .base (.tup h)
  · exact .fTuple h
  · exact .kTuple h1 h2
theorem kit_same (c : Value) (h : (c == c) = true) : PySem.W.kitOne K c c = some true := by
  unfold PySem.W.kitOne
  rw [if_pos h]
theorem ev_isiInt {n : Int} (h : Ev ta σ H (.int n)) : Ev (tCB (rIsi K) (tCons ta (tCons (tC (.ty "int")) tNil))) σ H (.bl true) :=
  ev_cb (ea_cons h (ea_cons ev_c ea_nil)) fun H1 _ Q q => ⟨_, _, _, _, true, rfl, .ty _, .base (.int n), kit_same _ (by decide +kernel), q H1 (Ex.refl H1)⟩
theorem ev_isiIntB {n : Int} (h : Ev ta σ H (.int n)) : Ev (tCB (rIsi K) (tCons ta (tCons (tC (.ty "bool")) tNil))) σ H (.bl false) :=
  ev_cb (ea_cons h (ea_cons ev_c ea_nil)) fun H1 _ Q q => ⟨_, _, _, _, false, rfl, .ty _, .base (.int n), rfl, q H1 (Ex.refl H1)⟩
theorem ev_isiStr {n : Str} (h : Ev ta σ H (.str n)) : Ev (tCB (rIsi K) (tCons ta (tCons (tC (.ty "str")) tNil))) σ H (.bl true) :=
  ev_cb (ea_cons h (ea_cons ev_c ea_nil)) fun H1 _ Q q => ⟨_, _, _, _, true, rfl, .ty _, .base (.str n), kit_same _ (by decide +kernel), q H1 (Ex.refl H1)⟩
theorem ev_isiTup {a : Addr} {xs : List V} (hs : SqT K H a xs) (h : Ev ta σ H (.ref a)) : Ev (tCB (rIsi K) (tCons ta (tCons (tC (.ty "tuple")) tNil))) σ H (.bl true) :=
  ev_cb (ea_cons h (ea_cons ev_c ea_nil)) fun H1 e Q q => ⟨_, _, _, _, true, rfl, .ty _, tyx_tup (ex_t e hs), kit_same _ (by decide +kernel), q H1 (Ex.refl H1)⟩
/-- isinstance(x, (list, tuple)) -/
theorem ev_isiRow {a : Addr} {xs : List V} (hs : SqT K H a xs ∨ H a = some (.lst xs)) (h : Ev ta σ H (.ref a)) : Ev (tCB (rIsiT K) (tCons ta (tCons (tTup (tCons (tC (.ty "list")) (tCons (tC (.ty "tuple")) tNil))) tNil))) σ H (.bl true) := fun H1 e Q q =>
  h H1 e _ fun H2 e2 => ⟨by show 2 ≤ sizeLine; decide, fun p hp => by
    have e3 : Ex H2 (upd H2 p (.tup [.ty "list", .ty "tuple"])) := Ex.new hp
    have e0 := (e.trans e2).trans e3
    rcases hs with hs | hs
    · exact ⟨_, p, _, _, [.type "list", .type "tuple"], true, rfl, upd_same, .cons (.ty _) (.cons (.ty _) .nil), tyx_tup (ex_t e0 hs), rfl, q _ (e2.trans e3)⟩
    · exact ⟨_, p, _, _, [.type "list", .type "tuple"], true, rfl, upd_same, .cons (.ty _) (.cons (.ty _) .nil), .base (.lst (e0 _ _ hs)), rfl, q _ (e2.trans e3)⟩⟩
theorem walk_zipT {a b : Addr} {xs ys : List V} {n : Nat} (hn : n = min xs.length ys.length) : Walk (RZ.ItzT K a b) n (fun H => SqT K H a xs ∧ SqT K H b ys) (YPair (fun i => xs[i]?) (fun i => ys[i]?)) := by
  subst hn
  refine ⟨fun i _ hi q => ?_, fun _ q => ⟨xs, ys, q.1, q.2, by omega⟩, fun i H v H' _ q y => ?_⟩
  · have h1 : i < xs.length := by omega
    have h2 : i < ys.length := by omega
    exact ⟨xs, ys, xs[i], ys[i], q.1, q.2, by simp [h1], by simp [h2]⟩
  · obtain ⟨T, x, z, h1, h2, h3, h4, h5⟩ := y
    exact ⟨T, x, z, h1, h2, h3, h4 xs q.1, h5 ys q.2⟩
/-- [.. for (x, y) in zip(t1, t2)], two tuples of data; g takes the pair apart -/
theorem el_lcZT {es fs : List PyData} {g : TG} {vs : List Nat} (v : Nat → V) (h1 : EvD K ta σ H (.tuple es)) (h2 : EvD K tb σ H (.tuple fs)) (hl : es.length = fs.length) (hz : es.length ≤ 40000)
    (he : ∀ (i : Nat) (x y : V) d e T H1, Ex H H1 → es[i]? = some d → fs[i]? = some e → Td K H1 x d → Td K H1 y e → H1 T = some (.tup [x, y]) → ∀ Q : L2.St → Hp → Prop, (∀ σ2, wipe σ2 vs = wipe σ vs → Ev te σ2 H1 (v i) → Q σ2 H1) → g (.ref T) (wipe σ vs) H1 Q) :
    EvL (tLc (RZ.iZipA K (tCons ta (tCons tb tNil))) g tYes te vs) σ H (given es.length (fun _ => true) v) := fun H0 e Q q => h1 H0 e _ fun v1 H1 e1 t1 => h2 H1 (e.trans e1) _ fun v2 H2 e2 t2 => by
  obtain ⟨a, xs, rfl, hs1, ts1⟩ := (t1.ex e2).tup_inv
  obtain ⟨b, ys, rfl, hs2, ts2⟩ := t2.tup_inv
  have e02 := (e.trans e1).trans e2
  refine ⟨a, b, xs, ys, rfl, .inr ⟨hs1, hs2, fun Dl hD => ?_⟩⟩
  have hx := ts1.length
  have hy := ts2.length
  refine lc_it (walk_zipT (K := K) (xs := xs) (ys := ys) (n := es.length) (by omega)) (Cw H2 (fun _ => true) v Dl) ⟨hD, Ex.new hD, upd_same⟩ (fun i H' _ p => ⟨ex_t p.2.1 hs1, ex_t p.2.1 hs2⟩) (fun i x H' H3 hi p y => ?_) (fun H' p => q Dl H' (fresh_back (e1.trans e2) p.1) ((e1.trans e2).trans p.2.1) p.2.2)
  obtain ⟨Tu, x1, y1, rfl, hT, rfl, f1, f2⟩ := y
  have p' : Cw H2 (fun _ => true) v Dl i (upd H' Tu (.tup [x1, y1])) := ⟨p.1, p.2.1.trans (Ex.new hT), (Ex.new hT) _ _ p.2.2⟩
  obtain ⟨d, hd, td⟩ := ts1.get' f1
  obtain ⟨e', he', te'⟩ := ts2.get' f2
  refine he i x1 y1 d e' Tu (upd H' Tu (.tup [x1, y1])) (e02.trans p'.2.1) hd he' (td.ex p'.2.1) (te'.ex p'.2.1) upd_same _ fun σ2 hw hev => ⟨hw, ?_⟩
  show te σ2 _ _
  refine hev _ (Ex.refl _) _ fun H4 e4 => ⟨given i (fun _ => true) v, e4 Dl _ p'.2.2, sz_lt (by have := given_len i (fun _ => true) v; omega), p'.1, Ex.mut (p'.2.1.trans e4) p'.1, ?_⟩
  rw [given_yes rfl]
  exact upd_same
theorem rng_map (n : Nat) (b : Nat → Bool) : (given n (fun _ => true) fun i => V.bl (b i)) = ((List.range n).map b).map V.bl := by
  rw [given_all, List.map_map] <;> rfl
/-- .. all true -/
theorem ev_allT {n : Nat} (h : EvL te σ H (given n (fun _ => true) fun _ => V.bl true)) : Ev (tCB (rAll K) (tCons te tNil)) σ H (.bl true) := by
  have e := rng_map n fun _ => true
  rw [e] at h
  refine ev_is (ev_all h) (congrArg V.bl ?_)
  rw [List.all_map]
  exact List.all_eq_true.mpr fun _ _ => rfl
theorem ev_chain {i j k : Int} (h1 : Ev ta σ H (.int i)) (h2 : Ev tb σ H (.int j)) (h3 : Ev te σ H (.int k)) (a : i ≤ j) (b : j ≤ k) : Ev (tChain (rI0 fun i j => V.bl (decide (i ≤ j))) (rI0 fun i j => V.bl (decide (i ≤ j))) ta tb te) σ H (.bl true) := fun H1 e Q q =>
  h1 H1 e _ fun H2 e2 => h2 H2 (e.trans e2) _ fun H3 e3 => ⟨i, j, rfl, rfl, _, rfl, by
    rw [decide_eq_true a, if_pos rfl]
    refine h3 H3 ((e.trans e2).trans e3) _ fun H4 e4 => ⟨j, k, rfl, rfl, ?_⟩
    show Q (V.bl (decide (j ≤ k))) H4
    rw [decide_eq_true b]
    exact q H4 ((e2.trans e3).trans e4)⟩
theorem ev_between {i j k : Int} (h1 : Ev ta σ H (.int i)) (h2 : Ev tb σ H (.int j)) (h3 : Ev te σ H (.int k)) (a : j ≤ i) (b : i ≤ k) : Ev (tCall spBetween [] E0 (tCons ta (tCons tb (tCons te tNil)))) σ H (.bl true) := fun H1 e Q q =>
  h1 H1 e _ fun H2 e2 => h2 H2 (e.trans e2) _ fun H3 e3 => h3 H3 ((e.trans e2).trans e3) _ fun H4 e4 => ⟨i, j, k, rfl, a, b, fun H5 e5 => q H5 (((e2.trans e3).trans e4).trans e5)⟩
theorem ev_isRow {a : Addr} {xs : List V} (hs : SqT K H a xs ∨ H a = some (.lst xs)) (h : Ev ta σ H (.ref a)) : Ev (tCall (spIsRow K) [] E0 (tCons ta tNil)) σ H (.bl true) := fun H1 e Q q =>
  h H1 e _ fun H2 e2 => ⟨a, xs, rfl, hs.imp (ex_t (e.trans e2)) ((e.trans e2) _ _), fun H3 e3 => q H3 (e2.trans e3)⟩
theorem ev_isRowD {ds : List PyData} (h : EvD K ta σ H (.tuple ds)) : Ev (tCall (spIsRow K) [] E0 (tCons ta tNil)) σ H (.bl true) := fun H1 e Q q =>
  h H1 e _ fun v H2 e2 t => by
    obtain ⟨a, xs, rfl, hs, _⟩ := t.tup_inv
    exact ⟨a, xs, rfl, .inl hs, fun H3 e3 => q H3 (e2.trans e3)⟩
theorem ev_isiTupD {ds : List PyData} (h : EvD K ta σ H (.tuple ds)) : Ev (tCB (rIsi K) (tCons ta (tCons (tC (.ty "tuple")) tNil))) σ H (.bl true) := fun H1 e Q q =>
  h H1 e _ fun v H2 e2 t => by
    obtain ⟨a, xs, rfl, hs, _⟩ := t.tup_inv
    exact ⟨_, _, _, _, true, rfl, .ty _, tyx_tup hs, kit_same _ (by decide +kernel), q H2 e2⟩
theorem ev_eqN' {a b : Int} (h1 : Ev ta σ H (.int a)) (h2 : Ev tb σ H (.int b)) (e : a = b) : Ev (tOp rNe ta tb) σ H (.bl false) := ev_is (ev_op h1 h2 (rv_ne rfl)) (by rw [e, decide_eq_true rfl] <;> rfl)
theorem ev_lt {a b : Nat} (h1 : Ev ta σ H (.int a)) (h2 : Ev tb σ H (.int b)) : Ev (tOp (rI0 fun i j => V.bl (decide (i < j))) ta tb) σ H (.bl (decide (a < b))) := ev_is (ev_op h1 h2 rv_I0) (by
  congr 1
  apply Bool.eq_iff_iff.mpr
  rw [decide_eq_true_iff, decide_eq_true_iff]
  omega)
theorem ev_gt {a b : Nat} (h1 : Ev ta σ H (.int a)) (h2 : Ev tb σ H (.int b)) : Ev (tOp (rI0 fun i j => V.bl (decide (j < i))) ta tb) σ H (.bl (decide (b < a))) := ev_is (ev_op h1 h2 rv_I0) (by
  congr 1
  apply Bool.eq_iff_iff.mpr
  rw [decide_eq_true_iff, decide_eq_true_iff]
  omega)
theorem TdL.bools {xs : List V} {bs : List Bool} (h : TdL K H xs (bs.map PyData.bool)) : xs = bs.map V.bl := by
  induction bs generalizing xs with
  | nil => exact TdL.nil_iff.mp h
  | cons x f ih =>
    obtain ⟨v, ws, rfl, t1, t2⟩ := h.cons_inv
    rw [ih t2, Td.bl_iff.mp t1] <;> rfl
theorem ev_allD {bs : List Bool} (h : EvLD K te σ H (bs.map PyData.bool)) : Ev (tCB (rAll K) (tCons te tNil)) σ H (.bl (bs.all id)) := fun H1 e Q q =>
  h H1 e _ fun p xs H2 hp e2 h2 t => ⟨p, bs, rfl, by rw [← t.bools]; exact SqL.of h2, q H2 e2⟩
theorem ev_allTup {ds : List PyData} {j : Nat} {vs : List Nat} (h : EvD K tl σ H (.tuple ds)) (hw : ∀ x, wipe ((wipe σ vs).set j (some x)) vs = wipe σ vs) (hz : ds.length ≤ 40000) (he : ∀ (i : Nat) x d H1, Ex H H1 → ds[i]? = some d → Td K H1 x d → Ev te ((wipe σ vs).set j (some x)) H1 (.bl true)) :
    Ev (tCB (rAll K) (tCons (tLc (iTup K tl) (gName j) tYes te vs) tNil)) σ H (.bl true) := by
  refine ev_is (ev_allD (K := K) (bs := ds.map fun _ => true) (eld_lcTD h hw hz (by rw [List.length_map, List.length_map]) fun i x d e H1 e1 he1 tx hd => ?_)) (congrArg V.bl ?_)
  · rw [List.map_map, List.getElem?_map, he1] at hd
    cases hd
    exact EvD.of (he i x e H1 e1 he1 tx) (.bl true)
  · rw [List.all_map]
    exact List.all_eq_true.mpr fun _ _ => rfl
theorem eqv_notnil (d : PyData) (ds : List PyData) : PyData.eqv (.tuple (d :: ds)) (.tuple []) = false := by
  rw [eqv_nilT] <;> rfl
/-- _law_take(pool, n) -/
theorem e_take {Q : VK} {p : Addr} {n : Nat} (h1 : Ev ta σ H (.ref p)) (h2 : Ev tb σ H (.int (n : Nat))) (hP : PoolAt H p) (hn : 0 < n) (hn2 : n ≤ 100000) (k : ∀ (r : Nat) H', r < n → Only p H H' → PoolAt H' p → Q (.int (r : Nat)) H') : tCall (spTakeL K) [] E0 (tCons ta (tCons tb tNil)) σ H Q :=
  h1 H (Ex.refl H) _ fun H1 e1 => h2 H1 e1 _ fun H2 e2 => by
    obtain ⟨a, b, hp, h⟩ := hP
    have e := e1.trans e2
    exact ⟨p, n, rfl, ⟨a, b, e _ _ hp, h⟩, hn, hn2, fun r H' hr o P => k r H' hr ((Only.of_ex e).trans o) P⟩
theorem PoolAt.ex {H' : Hp} {p : Addr} (h : PoolAt H p) (e : Ex H H') : PoolAt H' p := by
  obtain ⟨a, b, hp, h⟩ := h
  exact ⟨a, b, e _ _ hp, h⟩
theorem ev_toInt {i : Int} (h : Ev te σ H (.int i)) : Ev (tCB (fun xs H Q => (∃ i, xs = [V.int i] ∧ Q (V.int i) H) ∨ ∃ k, xs = [V.bl k] ∧ Q (V.int (if k = true then 1 else 0)) H) (tCons te tNil)) σ H (.int i) := ev_cb (ea_cons h ea_nil) fun H2 _ Q' q => .inl ⟨i, rfl, q H2 (Ex.refl H2)⟩
theorem ev_toIntB {i : Bool} (h : Ev te σ H (.bl i)) : Ev (tCB (fun xs H Q => (∃ i, xs = [V.int i] ∧ Q (V.int i) H) ∨ ∃ k, xs = [V.bl k] ∧ Q (V.int (if k = true then 1 else 0)) H) (tCons te tNil)) σ H (.int (if i = true then 1 else 0)) := ev_cb (ea_cons h ea_nil) fun H2 _ Q' q => .inr ⟨i, rfl, q H2 (Ex.refl H2)⟩
end
end Rp
set_option Elab.async false
set_option linter.all false
set_option maxRecDepth 100000
set_option maxHeartbeats 4000000
set_option autoImplicit false
/-! States, drafts and steppers are made. -/
namespace Rp
open PySem PySem.Spec PyProof.Rows L2 Mx Evl Hf
section
variable {K : Frg} {mg : Str → Option Value} {w : World} {σ : L2.St} {H : Hp} {ta tb te tl ti : TE} {s m : Addr} {M : MC} {loc : Lc} {D : DS} {t : Nat} {wk : Wk} {E : Ends} {tz : TS} {tt : TT}
theorem te_state {Q : VK} {tA : TA} (ea : EvDL K tA σ H (lDS D)) (k : ∀ st H', Ex H H' → StA K H' st D → Q (.ref st) H') : tMake (He.ga K "State") (spStateI K) [] E0 tA σ H Q := by
  refine ea H (Ex.refl H) _ fun vs H3 e3 tv => ?_
  obtain ⟨u1, r1', rfl, a1, b1⟩ := tv.cons_inv
  obtain ⟨u2, r2', rfl, a2, b2⟩ := b1.cons_inv
  obtain ⟨u3, r3', rfl, a3, b3⟩ := b2.cons_inv
  obtain ⟨u4, r4', rfl, a4, b4⟩ := b3.cons_inv
  obtain ⟨u5, r5', rfl, a5, b5⟩ := b4.cons_inv
  obtain rfl := TdL.nil_iff.mp b5
  intro x dx' hx hdx hne
  refine ⟨x, _, u1, u2, u3, u4, u5, rfl, upd_same, fun H' p hf hxo hq => ?_⟩
  have e4 := made_ex hx hdx hf
  exact ⟨rfl, k x H' (e3.trans e4) ⟨_, p, hxo, .tup hq (tv.ex e4)⟩⟩
theorem old_none {H : Hp} {x dx b : Addr} {o o2 : HO} (h : (upd (upd H dx o2) x o) b = none) : H b = none := by
  have b1 : b ≠ x := fun z => by rw [z, upd_same] at h; cases h
  rw [upd_ne b1] at h
  have b2 : b ≠ dx := fun z => by rw [z, upd_same] at h; cases h
  rw [upd_ne b2] at h
  exact h
theorem te_draft {Q : VK} {st : Addr} (h : Ev ta σ H (.ref st)) (hst : StA K H st D) (F : Fit M D) (k : ∀ d H' loc, H d = none → Ex H H' → Rep K H' loc D → loc .drf = d → (∀ r, H (loc r) = none) → Q (.ref d) H') : tMake (He.ga K "Draft") (spDraftI K) [] E0 (tCons ta tNil) σ H Q := by
  refine h H (Ex.refl H) _ fun H1 e1 => ?_
  intro x dx hx hdx hne
  have em : Ex H1 (upd (upd H1 dx (.own x)) x (.ins (He.ga K "Draft") dx [])) := made_ex hx hdx fun _ _ h _ => h
  refine ⟨x, dx, st, D, rfl, upd_same, (hst.ex e1).ex em, fun _ _ => trivial, by rw [F.pg]; decide, by rw [F.sl]; exact F.nsl, by rw [F.wl]; exact F.thr, by rw [F.al]; exact F.ns, F.fl, F.ar, fun w hw => ?_, fun H' loc hf R hd hn => ⟨rfl, k x H' loc (fresh_back e1 hx) (e1.trans (made_ex hx hdx hf)) R hd fun r => ?_⟩⟩
  · obtain ⟨i, hi, rfl⟩ := List.getElem_of_mem hw
    obtain ⟨a, b, c, d⟩ := F.wk i _ (List.getElem?_eq_getElem hi)
    exact ⟨a, b, by rw [c]; exact F.ns, d⟩
  · rcases hn r with z | z
    · rw [z]; exact fresh_back e1 hx
    · exact fresh_back e1 (old_none z)
theorem te_stepper {Q : VK} {d : Addr} (h1 : Ev ta σ H (.ref m)) {tA : TA} (h2 : ∀ H1, Ex H H1 → ∀ Q' : List V → Hp → Prop, (∀ H2, Ex H1 H2 → Q' [.ref d] H2) → tA σ H1 Q') (k : ∀ s dx H', H s = none → Ex H H' → H' s = some (.ins (He.ga K "Stepper") dx [("owner", .ref m), ("draft", .ref d)]) → Q (.ref s) H') : tMake (He.ga K "Stepper") (spStepperI K) [] E0 (tCons ta tA) σ H Q := by
  refine h1 H (Ex.refl H) _ fun H1 e1 => h2 H1 e1 _ fun H2 e2 => ?_
  intro x dx hx hdx hne
  exact ⟨x, dx, m, d, rfl, upd_same, fun H' hf hx' => ⟨rfl, k x dx H' (fresh_back (e1.trans e2) hx) ((e1.trans e2).trans (made_ex hx hdx hf)) hx'⟩⟩
theorem Rep.nn (R : Rep K H loc D) (r : Rl) : H (loc r) ≠ none := by
  cases hw : want K D loc r with
  | some x =>
    obtain ⟨o, ho, _⟩ := (R.sat r x hw).obj
    rw [ho]
    exact fun z => nomatch z
  | none =>
    obtain ⟨r2, _, l, e⟩ := R.dead r hw
    obtain ⟨x, hx⟩ := Option.isSome_iff_exists.mp l
    obtain ⟨o, ho, _⟩ := (R.sat r2 x hx).obj
    rw [e, ho]
    exact fun z => nomatch z
theorem stp_of {H0 : Hp} {dx d : Addr} (hm : Mac K H0 m M) (hl : ∀ r, H0 (loc r) = none) (R : Rep K H loc D) (hd : loc .drf = d) (hs : H s = none) (e0 : Ex H0 H) {H1 : Hp} (e : Ex H H1) (h : H1 s = some (.ins (He.ga K "Stepper") dx [("owner", .ref m), ("draft", .ref d)])) : Stp K H1 s M loc D := by
  refine ⟨R.ex e, ⟨m, dx, by rw [hd]; exact h, (hm.ex e0).ex e, fun r q => ?_⟩, fun r q => R.nn r (q ▸ hs)⟩
  obtain ⟨dx2, p, h1, _⟩ := hm
  have := hl r
  rw [q, h1] at this
  cases this
theorem Ext.back {H0 H' : Hp} {loc' : Lc} (x : Ext H loc H' loc') (e0 : Ex H0 H) (hl : ∀ r, H0 (loc r) = none) : Ex H0 H' := fun b o h => x.fr b o (e0 b o h) fun r q => by
  have := hl r
  rw [q, h] at this
  cases this
theorem eqv_mv (x : Mv) : PyData.eqv (eMv x) (eMv x) = true := by
  have e1 : (("step" : Str) == ("step" : Str)) = true := by decide +kernel
  have e2 : (("carry" : Str) == ("carry" : Str)) = true := by decide +kernel
  have e3 : (("sweep" : Str) == ("sweep" : Str)) = true := by decide +kernel
  cases x <;> simp [eMv, eN, PyData.eqv, PyData.eqvAll, e1, e2, e3]
theorem rep_flat (v : V) : ∀ n : Nat, (List.replicate n [v]).flatten = List.replicate n v
  | 0 => rfl
  | n + 1 => by
    rw [List.replicate_succ, List.replicate_succ, List.flatten_cons, rep_flat v n] <;> rfl
theorem tdl_rep {v : V} {d : PyData} (h : Td K H v d) : ∀ n : Nat, TdL K H (List.replicate n v) (List.replicate n d)
  | 0 => .nil
  | n + 1 => .cons h (tdl_rep h n)
theorem ed_rep {n : Nat} {d : PyData} (h : EvD K ta σ H (.tuple [d])) (hn : Ev tb σ H (.int (n : Nat))) (h2 : 2 ≤ n) (h3 : n ≤ 1000) : EvD K (tOp (rRepT K) ta tb) σ H (.tuple (List.replicate n d)) := fun H1 e Q q =>
  h H1 e _ fun v H2 e2 t => hn H2 (e.trans e2) _ fun H3 e3 => by
    obtain ⟨a, xs, rfl, hs, ts⟩ := (t.ex e3).tup_inv
    obtain ⟨v, r, rfl, t1, t2⟩ := ts.cons_inv
    obtain rfl := TdL.nil_iff.mp t2
    refine ⟨a, n, _, rfl, rfl, hs, (fun z => nomatch z), by omega, by omega, by show 1 ≤ 1000; decide, fun p hp => q _ _ ((e2.trans e3).trans (Ex.new hp)) (.tup (.inl (.inl upd_same)) ?_)⟩
    rw [Int.toNat_natCast]
    rw [rep_flat]
    exact tdl_rep (t1.ex (Ex.new hp)) n
theorem s_retE (h : te σ H E.rt) : tRet te E σ H := h
theorem te_tup2' {Q : VK} (h : ta σ H fun x H1 => tb σ H1 fun y H2 => 2 ≤ sizeLine ∧ ∀ p, H2 p = none → Q (.ref p) (upd H2 p (.tup [x, y]))) : tTup (tCons ta (tCons tb tNil)) σ H Q := h
theorem te_meth {Q : VK} {C : Addr} {me : Str} {sp : Sp} {tA : TA} (h : ta σ H fun x H1 => ∃ a dx fs, x = .ref a ∧ H1 a = some (.ins C dx fs) ∧ fs.lookup me = none ∧ tA σ H1 fun vs H2 => sp (x :: (vs ++ [])) H2 Q E0) : tMeth C me sp [] E0 ta tA σ H Q := h
end
end Rp
set_option Elab.async false
set_option linter.all false
set_option maxRecDepth 100000
set_option maxHeartbeats 4000000
set_option autoImplicit false
namespace Rp
open PySem PySem.Spec PyProof.Rows L2 Mx Evl Hf
theorem perm_lift {α β : Type} {g : α → β} {l l' : List β} (h : List.Perm l l') : ∀ zs : List α, l' = zs.map g → ∃ zs', List.Perm zs' zs ∧ l = zs'.map g := by
  induction h with
  | nil => intro zs h; exact ⟨zs, .refl zs, h⟩
  | cons x _ ih =>
    intro zs h
    cases zs with
    | nil => cases h
    | cons z zs =>
      rw [List.map_cons] at h
      obtain ⟨h1, h2⟩ := List.cons.inj h
      obtain ⟨zs', p, e⟩ := ih zs h2
      exact ⟨z :: zs', .cons z p, by rw [List.map_cons, h1, e]⟩
  | swap x y l =>
    intro zs h
    cases zs with
    | nil => cases h
    | cons z zs =>
      cases zs with
      | nil => cases h
      | cons z2 zs =>
        rw [List.map_cons, List.map_cons] at h
        obtain ⟨h1, h2⟩ := List.cons.inj h
        obtain ⟨h3, h4⟩ := List.cons.inj h2
        exact ⟨z2 :: z :: zs, .swap z z2 zs, by rw [List.map_cons, List.map_cons, h1, h3, h4]⟩
  | trans _ _ ih1 ih2 =>
    intro zs h
    obtain ⟨zs1, p1, e1⟩ := ih2 zs h
    obtain ⟨zs2, p2, e2⟩ := ih1 zs1 e1
    exact ⟨zs2, p2.trans p1, e2⟩
theorem alike_mv (x y : Mv) : PySem.W.alike (eMv x) (eMv y) = true := by
  cases x <;> cases y <;> simp [eMv, eN, PySem.W.alike, PySem.W.alikeAll]
section
variable {K : Frg} {mg : Str → Option Value} {w : World} {σ : L2.St} {H : Hp} {ta tb te tl ti : TE} {s m : Addr} {M : MC} {loc : Lc} {D : DS} {t : Nat} {wk : Wk} {E : Ends} {tz : TS} {tt : TT}
theorem q_asgLD {i : Nat} {ds : List PyData} (h : EvLD K te σ H ds) (k : ∀ p xs H1, H p = none → Ex H H1 → H1 p = some (.lst xs) → TdL K H1 xs ds → tz E (σ.set i (some (.ref p))) H1) : tSeq (tAsg te (gName i)) tz E σ H := h H (Ex.refl H) _ fun p xs H1 hp e h1 t => k p xs H1 hp e h1 t
theorem te_cb1 {r : List V → Hp → VK → Prop} {Q : VK} (h : te σ H fun x H1 => r [x] H1 Q) : tCB r (tCons te tNil) σ H Q := h
/-- the length of [x for x in .. if ..] -/
theorem cnt_core {J : It} {xs : List V} {ds : List PyData} {j : Nat} {vs : List Nat} {G : Hp → Prop} (f : PyData → Bool) (W : Walk J xs.length G (YAt xs)) (gm : ∀ H H', Ex H H' → G H → G H') (hw : ∀ x, wipe ((wipe σ vs).set j (some x)) vs = wipe σ vs) (hv : ∀ x : V, ((wipe σ vs).set j (some x))[j]? = some (some x)) (hz : xs.length ≤ 40000) {H1 : Hp} (hG : G H1) (ht : TdL K H1 xs ds)
    (he : ∀ (i : Nat) x d H2, Ex H1 H2 → ds[i]? = some d → Td K H2 x d → EvT tt ((wipe σ vs).set j (some x)) H2 (f d)) {Q : VK} (q : ∀ p H2 acc, H1 p = none → Ex H1 H2 → H2 p = some (.lst acc) → acc.length = ds.countP f → Q (.ref p) H2) :
    ∀ Dl, H1 Dl = none → ∃ W : Nat → Nat → Hp → Prop, (∃ m, W 0 m (upd H1 Dl (.lst []))) ∧ ∀ i m H, W i m H →
      (J.stop i H ∧ Q (.ref Dl) H) ∨ (J.go i H ∧ ∃ Nx : Hp → Prop, (∀ H', Nx H' → ∃ m', m' < m ∧ W (i + 1) m' H') ∧ ∀ x H', J.yld i H x H' → gName j x (wipe σ vs) H' fun σ2 H2 => wipe σ2 vs = wipe σ vs ∧ tt σ2 H2 fun b H3 =>
        if b = true then tVar j σ2 H3 fun y H4 => ∃ acc, H4 Dl = some (.lst acc) ∧ acc.length < sizeLine ∧ Nx (upd H4 Dl (.lst (acc ++ [y]))) else Nx H3) := fun Dl hD =>
  lc_it W (fun i H' => Ex H1 H' ∧ ∃ acc, H' Dl = some (.lst acc) ∧ acc.length = (ds.take i).countP f) ⟨Ex.new hD, [], upd_same, rfl⟩ (fun i H' _ p => gm _ _ p.1 hG) (fun i x H' H2 hi p y => by
    obtain ⟨e1, acc, h1, h2⟩ := p
    obtain ⟨rfl, hx⟩ := y
    obtain ⟨d, hd, td⟩ := ht.get' hx
    have hc : (ds.take (i + 1)).countP f = (ds.take i).countP f + (if f d = true then 1 else 0) := by
      rw [List.take_add_one, hd, List.countP_append]
      show _ + [d].countP f = _
      rw [List.countP_cons, List.countP_nil, Nat.zero_add]
    have hle : (ds.take i).countP f ≤ i := Nat.le_trans List.countP_le_length (by rw [List.length_take]; exact Nat.min_le_left _ _)
    refine ⟨hw x, he i x d H2 e1 hd (td.ex e1) H2 (Ex.refl H2) _ fun H3 e3 => ?_⟩
    cases hf : f d with
    | true =>
      rw [if_pos rfl]
      refine ⟨x, hv x, acc, e3 _ _ h1, sz_lt (by omega), Ex.mut (e1.trans e3) hD, acc ++ [x], upd_same, ?_⟩
      rw [List.length_append, h2, hc, hf] <;> rfl
    | false =>
      refine ⟨e1.trans e3, acc, e3 _ _ h1, ?_⟩
      rw [h2, hc, hf] <;> rfl) (fun H' p => by
    obtain ⟨e1, acc, h1, h2⟩ := p
    refine q Dl H' acc hD e1 h1 ?_
    rw [h2, ht.length, List.take_of_length_le (Nat.le_refl _)])
theorem te_cntT {ds : List PyData} {j : Nat} {vs : List Nat} (f : PyData → Bool) (h : EvD K tl σ H (.tuple ds)) (hw : ∀ x, wipe ((wipe σ vs).set j (some x)) vs = wipe σ vs) (hv : ∀ x : V, ((wipe σ vs).set j (some x))[j]? = some (some x)) (hz : ds.length ≤ 40000)
    (he : ∀ (i : Nat) x d H2, Ex H H2 → ds[i]? = some d → Td K H2 x d → EvT tt ((wipe σ vs).set j (some x)) H2 (f d)) {H0 : Hp} (e0 : Ex H H0) {Q : VK} (q : ∀ p H2 acc, H0 p = none → Ex H0 H2 → H2 p = some (.lst acc) → acc.length = ds.countP f → Q (.ref p) H2) : tLc (iTup K tl) (gName j) tt (tVar j) vs σ H0 Q := h H0 e0 _ fun v H1 e1 t1 => by
  obtain ⟨a, xs, rfl, hs, ts⟩ := t1.tup_inv
  exact ⟨a, rfl, ⟨xs, hs⟩, cnt_core (K := K) (σ := σ) (tt := tt) (xs := xs) (ds := ds) (j := j) (vs := vs) (G := fun H => SqT K H a xs) f walk_tup (fun _ _ e h => ex_t e h) hw hv (by rw [ts.length]; exact hz) hs ts (fun i x d H2 e2 hd tx => he i x d H2 ((e0.trans e1).trans e2) hd tx) fun p H2 acc hp e2 h1 h2 => q p H2 acc (fresh_back e1 hp) (e1.trans e2) h1 h2⟩
theorem ev_cntT {ds : List PyData} {j : Nat} {vs : List Nat} (f : PyData → Bool) (h : EvD K tl σ H (.tuple ds)) (hw : ∀ x, wipe ((wipe σ vs).set j (some x)) vs = wipe σ vs) (hv : ∀ x : V, ((wipe σ vs).set j (some x))[j]? = some (some x)) (hz : ds.length ≤ 40000)
    (he : ∀ (i : Nat) x d H2, Ex H H2 → ds[i]? = some d → Td K H2 x d → EvT tt ((wipe σ vs).set j (some x)) H2 (f d)) : Ev (tCB (rLenS K) (tCons (tLc (iTup K tl) (gName j) tt (tVar j) vs) tNil)) σ H (.int (ds.countP f : Nat)) := fun H0 e0 Q q =>
  te_cb1 (te_cntT f h hw hv hz he e0 fun p H2 acc hp e2 h1 h2 => ⟨p, acc, rfl, Or.inl (SqL.of h1), by rw [h2]; exact q H2 e2⟩)
theorem te_cntL {a : Addr} {xs : List V} {ds : List PyData} {j : Nat} {vs : List Nat} (f : PyData → Bool) (h : Ev tl σ H (.ref a)) (hs : SqL K H a xs) (ts : TdL K H xs ds) (hw : ∀ x, wipe ((wipe σ vs).set j (some x)) vs = wipe σ vs) (hv : ∀ x : V, ((wipe σ vs).set j (some x))[j]? = some (some x)) (hz : ds.length ≤ 40000)
    (he : ∀ (i : Nat) x d H2, Ex H H2 → ds[i]? = some d → Td K H2 x d → EvT tt ((wipe σ vs).set j (some x)) H2 (f d)) {H0 : Hp} (e0 : Ex H H0) {Q : VK} (q : ∀ p H2 acc, H0 p = none → Ex H0 H2 → H2 p = some (.lst acc) → acc.length = ds.countP f → Q (.ref p) H2) : tLc (iList K tl) (gName j) tt (tVar j) vs σ H0 Q := h H0 e0 _ fun H1 e1 =>
  ⟨a, rfl, ⟨xs, ex_l (e0.trans e1) hs⟩, cnt_core (K := K) (σ := σ) (tt := tt) (xs := xs) (ds := ds) (j := j) (vs := vs) (G := fun H => SqL K H a xs) f walk_list (fun _ _ e h => ex_l e h) hw hv (by rw [ts.length]; exact hz) (ex_l (e0.trans e1) hs) (ts.ex (e0.trans e1)) (fun i x d H2 e2 hd tx => he i x d H2 ((e0.trans e1).trans e2) hd tx) fun p H2 acc hp e2 h1 h2 => q p H2 acc (fresh_back e1 hp) (e1.trans e2) h1 h2⟩
theorem ev_cntL {a : Addr} {xs : List V} {ds : List PyData} {j : Nat} {vs : List Nat} (f : PyData → Bool) (h : Ev tl σ H (.ref a)) (hs : SqL K H a xs) (ts : TdL K H xs ds) (hw : ∀ x, wipe ((wipe σ vs).set j (some x)) vs = wipe σ vs) (hv : ∀ x : V, ((wipe σ vs).set j (some x))[j]? = some (some x)) (hz : ds.length ≤ 40000)
    (he : ∀ (i : Nat) x d H2, Ex H H2 → ds[i]? = some d → Td K H2 x d → EvT tt ((wipe σ vs).set j (some x)) H2 (f d)) : Ev (tCB (rLenS K) (tCons (tLc (iList K tl) (gName j) tt (tVar j) vs) tNil)) σ H (.int (ds.countP f : Nat)) := fun H0 e0 Q q =>
  te_cb1 (te_cntL f h hs ts hw hv hz he e0 fun p H2 acc hp e2 h1 h2 => ⟨p, acc, rfl, Or.inl (SqL.of h1), by rw [h2]; exact q H2 e2⟩)
/-- for i, x in enumerate(a tuple of data) -/
theorem s_forET {ds : List PyData} {tu : TS} {i1 i2 n : Nat} (hn : 2 = n) (h : EvD K ta σ H (.tuple ds)) (P : Hp → Nat → L2.St → Hp → Prop) (h0 : ∀ H1, Ex H H1 → P H1 0 σ H1) (hl : ∀ H1 i σ' H', Ex H H1 → P H1 i σ' H' → Tk H1 H')
    (hs : ∀ H1 (i : Nat) x d σ' H' H2, Ex H H1 → ds[i]? = some d → Td K H2 x d → P H1 i σ' H' → Ex H' H2 → tu { E with nx := P H1 (i + 1), ct := P H1 (i + 1), bk := E.nx } ((σ'.set i1 (some (.int (i : Nat)))).set i2 (some x)) H2)
    (hd : ∀ H1 σ' H', Ex H H1 → P H1 ds.length σ' H' → E.nx σ' H') : tFor (Ru.iEnumT K (tCons ta tNil)) (gTup K n (gCons (gName i1) (gCons (gName i2) gNil))) tu E σ H :=
  h H (Ex.refl H) _ fun v H1 e t => by
    obtain ⟨a, xs, rfl, hs1, ts⟩ := t.tup_inv
    refine ⟨a, xs, rfl, hs1, for_it (Ru.walk_enumT (xs := xs)) (P H1) (h0 H1 e) (fun i σ' H' _ q => (hl H1 i σ' H' e q).sq hs1) (fun i x σ' H' H2 hi q y => ?_) (fun σ' H' q => hd H1 σ' H' e (by rw [← ts.length]; exact q))⟩
    obtain ⟨Tu, x1, y1, rfl, hT, rfl, e1, e2⟩ := y
    cases e1
    refine ⟨Tu, [.int (i : Nat), y1], rfl, .inl (.inl upd_same), hn, g2 ?_⟩
    obtain ⟨d, hd', td⟩ := ts.get' e2
    exact hs H1 i y1 d σ' H' _ e hd' ((td.keep (hl H1 i σ' H' e q)).ex (Ex.new hT)) q (Ex.new hT)
theorem te_stepper2 {Q : VK} {td : TE} {P : Addr → Hp → Prop} (h1 : Ev ta σ H (.ref m)) (hd : ∀ H1, Ex H H1 → ∀ Q' : VK, (∀ d H2, P d H2 → Q' (.ref d) H2) → td σ H1 Q') (k : ∀ d H2 s dx H', P d H2 → H2 s = none → Ex H2 H' → H' s = some (.ins (He.ga K "Stepper") dx [("owner", .ref m), ("draft", .ref d)]) → Q (.ref s) H') : tMake (He.ga K "Stepper") (spStepperI K) [] E0 (tCons ta (tCons td tNil)) σ H Q := by
  refine h1 H (Ex.refl H) _ fun H1 e1 => hd H1 e1 _ fun d H2 hP => ?_
  intro x dx hx hdx hne
  exact ⟨x, dx, m, d, rfl, upd_same, fun H' hf hx' => ⟨rfl, k d H2 x dx H' hP hx (made_ex hx hdx hf) hx'⟩⟩
theorem StA.upd {p : Addr} {xs : List V} {o : HO} (h : StA K H s D) (hp : H p = some (.lst xs)) : StA K (upd H p o) s D := by
  obtain ⟨dx, q, h1, h2⟩ := h
  exact ⟨dx, q, by rw [upd_ne (fun z => by rw [z, hp] at h1; cases h1)]; exact h1, h2.keep (tk_upd hp trivial)⟩
theorem PairAt.ex {H' : Hp} {v : V} {r : DS × Mx.Ev} (h : PairAt K H v r) (e : Ex H H') : PairAt K H' v r := by
  obtain ⟨a, st, ve, h1, h2, h3, h4⟩ := h
  exact ⟨a, st, ve, h1, ex_t e h2, h3.ex e, h4.ex e⟩
theorem PairAt.upd {p : Addr} {xs : List V} {o : HO} {v : V} {r : DS × Mx.Ev} (h : PairAt K H v r) (hp : H p = some (.lst xs)) : PairAt K (upd H p o) v r := by
  obtain ⟨a, st, ve, h1, h2, h3, h4⟩ := h
  have tk : Tk H (L2.upd H p o) := tk_upd hp trivial
  exact ⟨a, st, ve, h1, tk.sq h2, h3.upd hp, h4.keep tk⟩
theorem ev_start {M : MC} {C : Prop} (hm : Mac K H m M) (F : Fit M (start M)) (h2 : 2 ≤ M.ns) (h1 : 1 ≤ M.nsl) (h : Ev ta σ H (.ref m)) : ∀ H1, Ex H H1 → ∀ Q : VK, (∀ st H2, Ex H1 H2 → StA K H2 st (start M) → Q (.ref st) H2) → tProp (He.ga K "Machine") (spStart K) [] E0 ta σ H1 Q := fun H1 e Q q => h H1 e _ fun H2 e2 => by
  have hm2 := hm.ex (e.trans e2)
  obtain ⟨dx, p, g1, g2⟩ := hm2
  exact ⟨m, dx, _, rfl, g1, m, M, rfl, ⟨dx, p, g1, g2⟩, F, h2, h1, fun st H3 e3 hst => q st H3 (e2.trans e3) hst⟩
end
theorem run_ok {M : MC} : ∀ {ms : List Mv} {D : DS} {i : Nat} {x : Mv}, RunOk M D ms → ms[i]? = some x → ∃ D', Good M D' ∧ x ∈ moves M D' ∧ (runM M D ms)[i]? = some (stepM M D' x) ∧ (i = 0 → D' = D) ∧ (∀ r, 0 < i → (runM M D ms)[i - 1]? = some r → r.1 = D')
  | [], _, _, _, _, h => by cases h
  | y :: ms, D, 0, x, ⟨h1, h2, h3⟩, h => by
    cases h
    exact ⟨D, h1, h2, rfl, fun _ => rfl, fun _ h => absurd h (by decide)⟩
  | y :: ms, D, i + 1, x, ⟨h1, h2, h3⟩, h => by
    obtain ⟨D', g1, g2, g3, g4, g5⟩ := run_ok (i := i) h3 h
    refine ⟨D', g1, g2, g3, (fun z => by cases z), fun r _ hr => ?_⟩
    cases i with
    | zero => cases hr; exact (g4 rfl).symm
    | succ i => exact g5 r (Nat.succ_pos _) hr
theorem runM_len {M : MC} : ∀ (ms : List Mv) (D : DS), (runM M D ms).length = ms.length
  | [], _ => rfl
  | x :: ms, D => congrArg (· + 1) (runM_len ms _)
section
variable {K : Frg} {σ : L2.St} {H : Hp} {ta tb te tl ti : TE} {E : Ends} {tz : TS}
/-- for x in a tuple of data -/
theorem q_forTD {ds : List PyData} {g : TG} {tu : TS} (h : EvD K tl σ H (.tuple ds)) (P : Hp → Nat → L2.St → Hp → Prop) (h0 : ∀ H1, Ex H H1 → P H1 0 σ H1) (hl : ∀ H1 i σ' H', Ex H H1 → P H1 i σ' H' → Tk H1 H')
    (hs : ∀ H1 (i : Nat) x d σ' H', Ex H H1 → ds[i]? = some d → Td K H' x d → P H1 i σ' H' → g x σ' H' fun σ2 H2 => tu { E with nx := P H1 (i + 1), ct := P H1 (i + 1), bk := tz E } σ2 H2)
    (hd : ∀ H1 σ' H', Ex H H1 → P H1 ds.length σ' H' → tz E σ' H') : tSeq (tFor (iTup K tl) g tu) tz E σ H := by
  refine h H (Ex.refl H) _ fun v H1 e t => ?_
  obtain ⟨a, xs, rfl, hs1, ts⟩ := t.tup_inv
  refine ⟨a, rfl, ⟨xs, hs1⟩, for_it (D := { E with nx := tz E }) (walk_tup (xs := xs)) (P H1) (h0 H1 e) (fun i σ' H' _ q => (hl H1 i σ' H' e q).sq hs1) (fun i x σ' H' H2 hi q y => ?_) (fun σ' H' q => hd H1 σ' H' e (by rw [← ts.length]; exact q))⟩
  obtain ⟨rfl, hx⟩ := y
  obtain ⟨d, hd', td⟩ := ts.get' hx
  exact hs H1 i x d σ' H2 e hd' (td.keep (hl H1 i σ' H2 e q)) q
theorem s_forTD {ds : List PyData} {g : TG} {tu : TS} (h : EvD K tl σ H (.tuple ds)) (P : Hp → Nat → L2.St → Hp → Prop) (h0 : ∀ H1, Ex H H1 → P H1 0 σ H1) (hl : ∀ H1 i σ' H', Ex H H1 → P H1 i σ' H' → Tk H1 H')
    (hs : ∀ H1 (i : Nat) x d σ' H', Ex H H1 → ds[i]? = some d → Td K H' x d → P H1 i σ' H' → g x σ' H' fun σ2 H2 => tu { E with nx := P H1 (i + 1), ct := P H1 (i + 1), bk := E.nx } σ2 H2)
    (hd : ∀ H1 σ' H', Ex H H1 → P H1 ds.length σ' H' → E.nx σ' H') : tFor (iTup K tl) g tu E σ H := by
  refine h H (Ex.refl H) _ fun v H1 e t => ?_
  obtain ⟨a, xs, rfl, hs1, ts⟩ := t.tup_inv
  refine ⟨a, rfl, ⟨xs, hs1⟩, for_it (D := E) (walk_tup (xs := xs)) (P H1) (h0 H1 e) (fun i σ' H' _ q => (hl H1 i σ' H' e q).sq hs1) (fun i x σ' H' H2 hi q y => ?_) (fun σ' H' q => hd H1 σ' H' e (by rw [← ts.length]; exact q))⟩
  obtain ⟨rfl, hx⟩ := y
  obtain ⟨d, hd', td⟩ := ts.get' hx
  exact hs H1 i x d σ' H2 e hd' (td.keep (hl H1 i σ' H2 e q)) q
theorem wipe1 {σ : L2.St} {j : Nat} (x : V) : wipe ((wipe σ [j]).set j (some x)) [j] = wipe σ [j] := by
  show ((σ.set j none).set j (some x)).set j none = σ.set j none
  rw [List.set_set, List.set_set]
theorem ed_repOr {K : Frg} {n : Nat} {d : PyData} (h : EvD K ta σ H (.tuple [d])) (hn : Ev tb σ H (.int (n : Nat))) (h2 : 1 ≤ n) (h3 : n ≤ 1000) : EvD K (tOp (fun x y H_1 Q => Ru.rRep1 K x y H_1 Q ∨ rRepT K x y H_1 Q) ta tb) σ H (.tuple (List.replicate n d)) := fun H1 e Q q => by
  by_cases h1 : n = 1
  · subst h1
    refine h H1 e _ fun v H2 e2 t => hn H2 (e.trans e2) _ fun H3 e3 => .inl ?_
    obtain ⟨a, xs, rfl, hs, ts⟩ := (t.ex e3).tup_inv
    exact ⟨a, xs, rfl, rfl, hs, q _ H3 (e2.trans e3) (t.ex e3)⟩
  · refine h H1 e _ fun v H2 e2 t => hn H2 (e.trans e2) _ fun H3 e3 => .inr ?_
    have := ed_rep (K := K) (n := n) (d := d) (EvD.of (ev_c (v := v) (σ := σ) (H := H3)) (t.ex e3)) (ev_c (v := .int (n : Nat))) (by omega) h3 H3 (Ex.refl H3) Q fun v H4 e4 t4 => q v H4 ((e2.trans e3).trans e4) t4
    exact this
/-- [.. for (a, b) in list]: g takes the item apart -/
theorem el_lcLg {K : Frg} {a : Addr} {xs : List V} {g : TG} {vs : List Nat} (v : Nat → V) (h : Ev tl σ H (.ref a)) (hx : SqL K H a xs) (hz : xs.length ≤ 40000)
    (he : ∀ (i : Nat) (x : V) H1, Ex H H1 → xs[i]? = some x → ∀ Q : L2.St → Hp → Prop, (∀ σ2, wipe σ2 vs = wipe σ vs → Ev te σ2 H1 (v i) → Q σ2 H1) → g x (wipe σ vs) H1 Q) :
    EvL (tLc (iList K tl) g tYes te vs) σ H (given xs.length (fun _ => true) v) := fun H0 e Q q => h H0 e _ fun H1 e1 => ⟨a, rfl, ⟨xs, ex_l (e.trans e1) hx⟩, fun Dl hD => by
  refine lc_it (walk_list (K := K) (xs := xs)) (Cw H1 (fun _ => true) v Dl) ⟨hD, Ex.new hD, upd_same⟩ (fun i H' _ p => ex_l ((e.trans e1).trans p.2.1) hx) (fun i x H' H3 hi p y => ?_) (fun H' p => q Dl H' (fresh_back e1 p.1) (e1.trans p.2.1) p.2.2)
  obtain ⟨rfl, hxi⟩ := y
  refine he i x H3 ((e.trans e1).trans p.2.1) hxi _ fun σ2 hw hev => ⟨hw, ?_⟩
  show te σ2 _ _
  refine hev _ (Ex.refl _) _ fun H4 e4 => ⟨given i (fun _ => true) v, e4 Dl _ p.2.2, sz_lt (by have := given_len i (fun _ => true) v; omega), p.1, Ex.mut (p.2.1.trans e4) p.1, ?_⟩
  rw [given_yes rfl]
  exact upd_same⟩
end
theorem endM_snoc (M : MC) : ∀ (l : List Mv) (D : DS) (x : Mv), endM M D (l ++ [x]) = (stepM M (endM M D l) x).1
  | [], _, _ => rfl
  | y :: l, D, x => endM_snoc M l (stepM M D y).1 x
theorem mesM_snoc (M : MC) : ∀ (l : List Mv) (D : DS) (x : Mv), mesM M D (l ++ [x]) = mesM M D l + sentM (endM M D l) (stepM M (endM M D l) x).1 x
  | [], D, x => by show sentM _ _ _ + 0 = 0 + _; rw [Int.add_zero, Int.zero_add] <;> rfl
  | y :: l, D, x => by
    show sentM _ _ _ + mesM M _ (l ++ [x]) = sentM _ _ _ + mesM M _ l + _
    rw [mesM_snoc M l, Int.add_assoc] <;> rfl
theorem pasM_snoc (M : MC) : ∀ (l : List Mv) (D : DS) (x : Mv), pasM M D (l ++ [x]) = pasM M D l + (if isPS (stepM M (endM M D l) x).2 then sentM (endM M D l) (stepM M (endM M D l) x).1 x else 0)
  | [], D, x => by
    show (if isPS (stepM M D x).2 then sentM D (stepM M D x).1 x else 0) + 0 = 0 + _
    rw [Int.add_zero, Int.zero_add] <;> rfl
  | y :: l, D, x => by
    show (if isPS (stepM M D y).2 then sentM D (stepM M D y).1 y else 0) + pasM M _ (l ++ [x]) = (if isPS (stepM M D y).2 then sentM D (stepM M D y).1 y else 0) + pasM M _ l + _
    rw [pasM_snoc M l, Int.add_assoc] <;> rfl
theorem run_at {M : MC} : ∀ {ms : List Mv} {D : DS} {i : Nat} {x : Mv}, ms[i]? = some x → (runM M D ms)[i]? = some (stepM M (endM M D (ms.take i)) x)
  | [], _, _, _, h => by cases h
  | y :: ms, D, 0, x, h => by cases h; rfl
  | y :: ms, D, i + 1, x, h => run_at (ms := ms) (D := (stepM M D y).1) (i := i) h
theorem ev_word (x : Mx.Ev) : ∃ ds, eEv x = .tuple (.str (evW x) :: ds) := by cases x <;> exact ⟨_, rfl⟩
theorem ev_ps (x : Mx.Ev) : inV (.str (evW x)) [.str "pass", .str "sweep"] = isPS x := by
  have h : ∀ y : Str, (inV (.str y) [.str "pass", .str "sweep"] = true) = (inV (.str y) [.str "pass", .str "sweep"] = true) := fun _ => rfl
  cases x <;> (first | exact (by decide +kernel : inV (.str "hit") [.str "pass", .str "sweep"] = false) | exact (by decide +kernel : inV (.str "take") [.str "pass", .str "sweep"] = false) | exact (by decide +kernel : inV (.str "home") [.str "pass", .str "sweep"] = false) | exact (by decide +kernel : inV (.str "pass") [.str "pass", .str "sweep"] = true) | exact (by decide +kernel : inV (.str "fill") [.str "pass", .str "sweep"] = false) | exact (by decide +kernel : inV (.str "open") [.str "pass", .str "sweep"] = false) | exact (by decide +kernel : inV (.str "fail") [.str "pass", .str "sweep"] = false) | exact (by decide +kernel : inV (.str "keep") [.str "pass", .str "sweep"] = false) | exact (by decide +kernel : inV (.str "nothing") [.str "pass", .str "sweep"] = false) | exact (by decide +kernel : inV (.str "batch") [.str "pass", .str "sweep"] = false) | exact (by decide +kernel : inV (.str "send") [.str "pass", .str "sweep"] = false) | exact (by decide +kernel : inV (.str "adopt") [.str "pass", .str "sweep"] = false) | exact (by decide +kernel : inV (.str "carry") [.str "pass", .str "sweep"] = false) | exact (by decide +kernel : inV (.str "sweep") [.str "pass", .str "sweep"] = true))
section
variable {K : Frg} {σ : L2.St} {H : Hp} {ta tb te tl ti : TE} {E : Ends} {tz : TS}
theorem q_forZL {a b : Addr} {xs ys : List V} {g : TG} {tu : TS} (h1 : Ev ta σ H (.ref a)) (h2 : Ev tb σ H (.ref b)) (hx : SqL K H a xs) (hy : SqL K H b ys) (hl : xs.length = ys.length) (P : Nat → L2.St → Hp → Prop) (h0 : ∀ H1, Ex H H1 → P 0 σ H1) (hq : ∀ i σ' H', P i σ' H' → SqL K H' a xs ∧ SqL K H' b ys)
    (hs : ∀ (i : Nat) (x y : V) (T : Addr) (σ : L2.St) (H : Hp), xs[i]? = some x → ys[i]? = some y → P i σ H → H T = none → g (.ref T) σ (upd H T (.tup [x, y])) fun σ2 H2 => tu { E with nx := P (i + 1), ct := P (i + 1), bk := tz E } σ2 H2) (hd : ∀ σ H, P xs.length σ H → tz E σ H) :
    tSeq (tFor (RZ.iZipA K (tCons ta (tCons tb tNil))) g tu) tz E σ H := h1 H (Ex.refl H) _ fun H1 e1 => h2 H1 e1 _ fun H2 e2 =>
  ⟨a, b, xs, ys, rfl, .inl ⟨ex_l (e1.trans e2) hx, ex_l (e1.trans e2) hy, RZ.for_zipL (D := { E with nx := tz E }) hl P (h0 H2 (e1.trans e2)) hq hs hd⟩⟩
end
end Rp
set_option Elab.async false
set_option linter.all false
set_option maxRecDepth 100000
set_option maxHeartbeats 4000000
set_option autoImplicit false
/-! A def with parameters by keyword alone. -/
namespace Hf
open PySem PySem.Spec PyProof.Rows L2
structure OkK (P : Program) (w : World) (K : Fr) (mg : Str → Option Value) (base : Heap) (k : Nat) (f : Addr) (ps : List Str) (n : Nat) (ks : List Str) (sp : Sp) : Prop where
  ex : ∃ fd, FnOk P w K mg base CX0 k f fd ps sp ∧ KBn K fd ps n ks (fun us ws => us ++ ws) (fun vs zs => vs ++ zs)
theorem ok_ofK {P : Program} {w : World} {K : Fr} {mg : Str → Option Value} {base : Heap} {d : DX} {N ps : List Str} {k : Nat} {sp : Sp} (n : Nat) (ks : List Str) (F : FnD K d) (hdf : d.dfl = []) (hkw : d.kws K ≠ []) (S : FnScope N ps (defScope d.st))
    (hb : ∀ (D : Addr) (doc pm : Value) (an : Option Addr) (cdv ct : Value) (us ws : List Value), us.length = n → ws.length = ks.length → bindArgs (PySem.W.fnOf d.name d.qual (defArgs d.st) (defBody d.st) (defScope d.st) .none (.ref D) doc pm an cdv ct) ⟨us, ks.zip ws⟩ = pure (ps.zip (us ++ ws)))
    (len : ∀ vs H Q E, sp vs H Q E → vs.length = ps.length)
    (hbody : ∀ (cdv : Value) (A : Around) (outer : List Env) (s : Shared) (H : Hp) (vs : List V) (Q : VK) (E : XK), Room k (A.deeper (envOfC d.qual (defScope d.st) s.heap.objs.size (d.adr K) cdv)) → sp vs H Q E →
      ∃ t, PSs (cxOf CX0 P w K mg base N d.qual (defScope d.st) (d.adr K) cdv A outer s H E).nox (defBody d.st) t ∧ t { nx := fun _ H' => Q .non H', rt := Q } (start N vs) H) : OkK P w K mg base (k + 1) (d.adr K) ps n ks sp := by
  obtain ⟨fd, F⟩ := F
  have e1 : d.dvs K = [] := by
    show d.dfl.map _ = []
    rw [hdf] <;> rfl
  rw [e1] at F
  obtain ⟨mv, hK⟩ := F.kbinds0 n ks [] (fun us _ ws => us ++ ws) hkw (fun _ h => nomatch h) (fun h1 _ h3 => h1.append h3) fun D doc pm an cdv ct us mv ws h1 h2 h3 => hb D doc pm an cdv ct us ws h1 h3
  refine ⟨fd, F.ok S len fun cdv A outer s H vs Q E hr h => ?_, hK⟩
  obtain ⟨t, h1, h2⟩ := hbody cdv A outer s H vs Q E hr h
  exact ⟨t, h1.nox, h2⟩
theorem pe_makeOK {X : Cx} {k n : Nat} {f C : Addr} {ps ks : List Str} {sp : Sp} {x : Str} {p pos : Pos} {e : Expr} {es : List Expr} {kws : List Keyword} {t tk : TA} (M : Mk X.K C f) (G : OkK X.prog X.w X.K X.mg X.base k f ps (n + 1) ks sp) (hr : Room (k + 1) X.A) (hg : Gl X x) (hm : X.mg x = some (.ref C)) (ha : PA X (e :: es) t) (hkw : PK X kws tk)
    (hall : (backToKw pos (keywordEach kws X.env)).all (·.1.isSome) = true := by rfl) (hks : (backToKw pos (keywordEach kws X.env)).filterMap (·.1) = ks := by rfl) (hdb : (x == ("__debug__" : Str)) = false := by decide)
    (he : starEach (e :: es) X.env = (false, eval e X.env) :: starEach es X.env := by rfl) (hpl : ((backTo pos (starEach (e :: es) X.env)).any (·.1) || (backToKw pos (keywordEach kws X.env)).any (·.1.isNone)) = false := by rfl) :
    PE X (.Call (.Name x p) (e :: es) kws pos) (tMakeK C n ks.length sp (fun vs zs => vs ++ zs) E0 t tk) := by
  obtain ⟨fd, F, b⟩ := G.ex
  exact pe_makeK M F hr hg hm b pass0 ha hkw hall hks hdb he hpl
end Hf
namespace Rp
open PySem PySem.Spec PyProof.Rows L2 Mx Evl Hf
section
variable {K : Frg} {σ : L2.St} {H : Hp} {ta tb te tl ti : TE} {E : Ends} {tz : TS} {M : MC}
theorem ed_tupT {ds : List PyData} (h : EvD K ta σ H (.tuple ds)) : EvD K (tCB (Ru.rTupS K) (tCons ta tNil)) σ H (.tuple ds) := fun H1 e Q q => te_cb1 (h H1 e _ fun v H2 e2 t => by
  obtain ⟨a, xs, rfl, hs, ts⟩ := t.tup_inv
  exact ⟨a, xs, rfl, Or.inr ⟨hs, q _ H2 e2 t⟩⟩)
theorem q_forLD {ds : List PyData} {g : TG} {tu : TS} (h : EvLD K tl σ H ds) (P : Nat → L2.St → Prop) (h0 : P 0 σ)
    (hs : ∀ (i : Nat) x d σ' H', Ex H H' → ds[i]? = some d → Td K H' x d → P i σ' → ∀ N : L2.St → Hp → Prop, (∀ σ2 H2, P (i + 1) σ2 → Ex H' H2 → N σ2 H2) → g x σ' H' fun σ2 H2 => tu { E with nx := N, ct := N, bk := tz E } σ2 H2)
    (hd : ∀ σ' H', P ds.length σ' → Ex H H' → tz E σ' H') : tSeq (tFor (iList K tl) g tu) tz E σ H := by
  refine h H (Ex.refl H) _ fun p xs H1 hp e h1 t1 => ?_
  refine ⟨p, rfl, ⟨xs, SqL.of h1⟩, for_it (D := { E with nx := tz E }) (walk_list (xs := xs)) (fun i σ' H' => P i σ' ∧ Ex H1 H') ⟨h0, Ex.refl H1⟩ (fun i σ' H' _ q => SqL.of (q.2 _ _ h1)) (fun i x σ' H' H2 hi q y => ?_) (fun σ' H' q => hd σ' H' (by rw [← t1.length]; exact q.1) (e.trans q.2))⟩
  obtain ⟨rfl, hx⟩ := y
  obtain ⟨d, hd', td⟩ := t1.get' hx
  exact hs i x d σ' H2 (e.trans q.2) hd' (td.ex q.2) q.1 _ fun σ2 H3 p2 e3 => ⟨p2, q.2.trans e3⟩
theorem eld_lcTg {es ds : List PyData} {g : TG} {vs : List Nat} (h : EvD K tl σ H (.tuple es)) (hz : es.length ≤ 40000) (hl : es.length = ds.length)
    (he : ∀ (i : Nat) x e d H1, Ex H H1 → es[i]? = some e → Td K H1 x e → ds[i]? = some d → ∀ Q : L2.St → Hp → Prop, (∀ σ2, wipe σ2 vs = wipe σ vs → EvD K te σ2 H1 d → Q σ2 H1) → g x (wipe σ vs) H1 Q) : EvLD K (tLc (iTup K tl) g tYes te vs) σ H ds := fun H0 e0 Q q => h H0 e0 _ fun v H1 e1 t1 => by
  obtain ⟨a, xs, rfl, hs, ts⟩ := t1.tup_inv
  have hxl : xs.length = es.length := ts.length
  refine ⟨a, rfl, ⟨xs, hs⟩, fun Dl hD => lc_it (walk_tup (xs := xs)) (fun i H' => Ex H1 H' ∧ ∃ acc, H' Dl = some (.lst acc) ∧ acc.length = i ∧ TdL K H' acc (ds.take i)) ⟨Ex.new hD, [], upd_same, rfl, .nil⟩ (fun i H' _ p => ex_t p.1 hs) (fun i x H' H2 hi p y => ?_) (fun H' p => ?_)⟩
  · obtain ⟨e2, acc, h1, h2, h3⟩ := p
    obtain ⟨rfl, hx⟩ := y
    obtain ⟨e, he', te'⟩ := ts.get' hx
    have hid : i < ds.length := by omega
    refine he i x e ds[i] H2 ((e0.trans e1).trans e2) he' (te'.ex e2) (List.getElem?_eq_getElem hid) _ fun σ2 hw hev => ⟨hw, ?_⟩
    show te σ2 _ _
    refine hev _ (Ex.refl _) _ fun y H4 e4 t4 => ⟨acc, e4 _ _ h1, sz_lt (by omega), Ex.mut (e2.trans e4) hD, acc ++ [y], upd_same, by rw [List.length_append, h2] <;> rfl, ?_⟩
    have tk := tk_upd (u := .lst (acc ++ [y])) (e4 _ _ h1) trivial
    rw [List.take_add_one, List.getElem?_eq_getElem hid]
    exact ((h3.ex e4).keep tk).append (.one (t4.keep tk))
  · obtain ⟨e2, acc, h1, h2, h3⟩ := p
    rw [hxl, hl, List.take_of_length_le (Nat.le_refl _)] at h3
    exact q Dl acc H' (fresh_back e1 hD) (e1.trans e2) h1 h3
end
theorem PairL.ok {far cells ns : Nat} {x : List (Nat × List Op)} (h : PairL far cells x) (h1 : far < ns) (h2 : cells ≤ 3) : x.length = 2 ∧ ∀ t ∈ x, t.1 < ns ∧ t.2 ≠ [] ∧ t.2.length ≤ 8 ∧ ∀ o ∈ t.2, OpOk cells o := by
  obtain ⟨cs, ad, n1, n2, n3, rfl⟩ := h
  refine ⟨rfl, fun t ht => ?_⟩
  have hcs : ∃ c l, cs = c :: l := List.exists_cons_of_ne_nil n1
  rcases List.mem_cons.mp ht with rfl | ht
  · refine ⟨by show 0 < ns; omega, ?_, by rw [List.length_map]; omega, fun o ho => ?_⟩
    · obtain ⟨c, l, rfl⟩ := hcs
      exact fun z => nomatch z
    · obtain ⟨c, hc, rfl⟩ := List.mem_map.mp ho
      exact ⟨by omega, fun s hs => by rw [List.mem_singleton.mp hs]; exact n3 c hc⟩
  · rw [List.mem_singleton.mp ht]
    have hf : ∀ o ∈ cs.map Op.free, OpOk cells o := fun o ho => by
      obtain ⟨c, hc, rfl⟩ := List.mem_map.mp ho
      exact ⟨by omega, fun s hs => by rw [List.mem_singleton.mp hs]; exact n3 c hc⟩
    refine ⟨h1, ?_, ?_, fun o ho => ?_⟩
    · obtain ⟨c, l, rfl⟩ := hcs
      show pairOps ad _ ≠ []
      cases ad <;> exact fun z => nomatch z
    · show (pairOps ad cs).length ≤ 8
      cases ad
      · show (cs.map Op.free).length ≤ 8
        rw [List.length_map]
        omega
      · show (Op.adopt (cs.headD 0) :: (cs.map Op.free ++ [.drain])).length ≤ 8
        rw [List.length_cons, List.length_append, List.length_map]
        show cs.length + 1 + 1 ≤ 8
        omega
    · have ho : o ∈ pairOps ad cs := ho
      cases ad
      · exact hf o ho
      · rcases List.mem_cons.mp ho with rfl | ho
        · refine ⟨by omega, fun s hs => ?_⟩
          rw [List.mem_singleton.mp hs]
          obtain ⟨c, l, rfl⟩ := hcs
          exact n3 c List.mem_cons_self
        · rcases List.mem_append.mp ho with ho | ho
          · exact hf o ho
          · rw [List.mem_singleton.mp ho]
            exact ⟨by omega, fun s hs => nomatch hs⟩
theorem OkM.thrs {M : MC} (h : OkM M) : M.thr.length = 4 ∧ ∀ t ∈ M.thr, t.1 < M.ns ∧ t.2 ≠ [] ∧ t.2.length ≤ 8 ∧ ∀ o ∈ t.2, OpOk M.nsl o := by
  obtain ⟨x, y, hx, hy, e⟩ := h.thr
  have h1 := h.ns
  have h2 := h.nsl
  obtain ⟨lx, ax⟩ := hx.ok (ns := M.ns) (by omega) h2.2
  obtain ⟨ly, ay⟩ := hy.ok (ns := M.ns) (by omega) h2.2
  rw [e]
  refine ⟨by rw [List.length_append, List.length_reverse, lx, ly], fun t ht => ?_⟩
  rcases List.mem_append.mp ht with ht | ht
  · exact ax t ht
  · exact ay t (List.mem_reverse.mp ht)
end Rp
set_option Elab.async false
set_option linter.all false
set_option maxRecDepth 100000
set_option maxHeartbeats 4000000
set_option autoImplicit false
namespace Rp
open PySem PySem.Spec PyProof.Rows L2 Mx Evl Hf
section
variable {K : Frg} {mg : Str → Option Value} {w : World} {σ : L2.St} {H : Hp} {ta tb tc td te tl ti : TE} {M : MC} {E : Ends} {tz tu tw : TS} {tt : TT}
theorem only_mut {p Dl : Addr} {H1 H4 : Hp} {o : HO} (x : Only p H1 H4) (h : H1 Dl = none) : Only p H1 (L2.upd H4 Dl o) := ⟨fun b o' hb hn => by
    have : b ≠ Dl := fun z => by rw [z, h] at hb; cases hb
    rw [upd_ne this]
    exact x.fr b o' hb hn, fun b hb => by
    have : b ≠ Dl := fun z => hb (by rw [z, h])
    rw [upd_ne this]
    exact x.dm b hb, fun b xs hb => by
    have hne : b ≠ Dl := fun z => by
      rcases hb with hb | ⟨ob, hb⟩ <;> rw [z, h] at hb <;> cases hb
    rcases x.tk b xs hb with r | ⟨ob, r⟩
    · exact .inl (by rw [upd_ne hne]; exact r)
    · exact .inr ⟨ob, by rw [upd_ne hne]; exact r⟩⟩
theorem q_par {i j : Nat} (h : ta σ H fun x H1 => tb σ H1 fun y H2 => ∃ v w, [x, y] = [v, w] ∧ tz E ((σ.set i (some v)).set j (some w)) H2) : tSeq (tPar i j (tCons ta (tCons tb tNil))) tz E σ H := h
theorem q_ifE (h : tt σ H fun b H1 => if b = true then tu { E with nx := tz E } σ H1 else tw { E with nx := tz E } σ H1) : tSeq (tIfS tt tu tw) tz E σ H := h
theorem te_takes {Q : VK} {p : Addr} {cells most j : Nat} {vs : List Nat} (h1 : Ev ta σ H (.ref p)) (h2 : Ev tb σ H (.int (most : Nat))) (hc : ∀ x H1, Ev tc ((wipe σ vs).set j (some x)) H1 (.ref p)) (hd : ∀ x H1, Ev td ((wipe σ vs).set j (some x)) H1 (.int (cells : Nat))) (hw : ∀ x, wipe ((wipe σ vs).set j (some x)) vs = wipe σ vs)
    (hP : PoolAt H p) (m0 : 0 < most) (m1 : most ≤ 100) (c0 : 0 < cells) (c1 : cells ≤ 100) (k : ∀ q H' (cs : List Nat), H q = none → Only p H H' → PoolAt H' p → H' q = some (.lst (cs.map fun (n : Nat) => V.int n)) → cs ≠ [] → cs.length ≤ most → (∀ c ∈ cs, c < cells) → Q (.ref q) H') :
    tLc (iRng1 (tCons (tOp (rI0 fun i j => V.int (i + j)) (tC (V.int 1)) (tCall (spTakeL K) [] E0 (tCons ta (tCons tb tNil)))) tNil)) (gName j) tYes (tCall (spTakeL K) [] E0 (tCons tc (tCons td tNil))) vs σ H Q := by
  show tCall (spTakeL K) [] E0 (tCons ta (tCons tb tNil)) σ H _
  refine e_take h1 h2 hP m0 (by omega) fun r H1 hr o1 P1 => ?_
  refine ⟨1, (r : Int), rfl, rfl, 1 + (r : Int), rfl, by omega, by omega, fun Dl hD => ?_⟩
  have hDp : Dl ≠ p := fun z => by
    obtain ⟨a, b, hp, _⟩ := P1
    rw [z, hp] at hD
    cases hD
  have hn : (1 + (r : Int)).toNat = r + 1 := by omega
  rw [hn]
  refine lc_it (walk_range (lo := 0) (n := r + 1)) (fun i H' => Only p H1 H' ∧ PoolAt H' p ∧ ∃ cs : List Nat, H' Dl = some (.lst (cs.map fun (n : Nat) => V.int n)) ∧ cs.length = i ∧ ∀ c ∈ cs, c < cells) ⟨only_mut Only.refl hD, ?_, [], upd_same, rfl, fun _ h => nomatch h⟩ (fun _ _ _ _ => trivial) (fun i x H' H2 hi q y => ?_) (fun H' q => ?_)
  · obtain ⟨a, b, hp, h⟩ := P1
    exact ⟨a, b, by rw [upd_ne (Ne.symm hDp)]; exact hp, h⟩
  · obtain ⟨q1, q2, cs, q3, q4, q5⟩ := q
    obtain ⟨rfl, rfl⟩ := y
    refine ⟨hw _, ?_⟩
    show tCall (spTakeL K) [] E0 (tCons tc (tCons td tNil)) _ H2 _
    refine e_take (hc _ H2) (hd _ H2) q2 c0 (by omega) fun r2 H4 hr2 o4 P4 => ?_
    have h4 := o4.fr _ _ q3 hDp
    refine ⟨_, h4, sz_lt (by rw [List.length_map]; omega), only_mut (q1.trans o4) hD, ?_, cs ++ [r2], ?_, by rw [List.length_append, q4] <;> rfl, fun c hc => ?_⟩
    · obtain ⟨a, b, hp, h⟩ := P4
      exact ⟨a, b, by rw [upd_ne (Ne.symm hDp)]; exact hp, h⟩
    · rw [upd_same, List.map_append] <;> rfl
    · rcases List.mem_append.mp hc with hc | hc
      · exact q5 c hc
      · rw [List.mem_singleton.mp hc]; exact hr2
  · obtain ⟨q1, q2, cs, q3, q4, q5⟩ := q
    exact k Dl H' cs (o1.none hD) (o1.trans q1) q2 q3 (fun z => by rw [z] at q4; cases q4) (by omega) q5
end
end Rp
set_option Elab.async false
set_option linter.all false
set_option maxRecDepth 100000
set_option maxHeartbeats 4000000
set_option autoImplicit false
/-! What the law asks of the mirror. -/
namespace Rp
open PySem PySem.Spec PyProof.Rows L2 Mx Evl Hf
/-- no adoption among the events of a run -/
def noAd (M : MC) (ms : List Mv) : Prop := ∀ r ∈ runM M (start M) ms, evW r.2 ≠ "adopt"
structure MathM (M : MC) : Prop where
  fit : Fit M (start M)
  mv : moves M (start M) ≠ []
  ok0 : RunOk M (start M) []
  ext : ∀ l, RunOk M (start M) l → ∀ x ∈ moves M (endM M (start M) l), RunOk M (start M) (l ++ [x])
  pre : ∀ l n, RunOk M (start M) l → RunOk M (start M) (l.take n)
  law : ∀ l, RunOk M (start M) l → (cntM M "batch" (start M) l : Int) / (M.batch : Int) + pasM M (start M) l ≤ mesM M (start M) l + (openM (endM M (start M) l) : Int)
  up : ∀ l n m, RunOk M (start M) l → n ≤ m → ∀ (i : Nat) a b, (costM M (l.take n))[i]? = some a → (costM M (l.take m))[i]? = some b → a ≤ b
  no : ∀ l, RunOk M (start M) l → noAd M l → pasM M (start M) l = 0
theorem te_callE {σ : L2.St} {H : Hp} {Q : VK} {sp : Sp} {tA : TA} (h : tA σ H fun vs H1 => sp (vs ++ []) H1 Q E0) : tCall sp [] E0 tA σ H Q := h
theorem te_tupE {σ : L2.St} {H : Hp} {Q : VK} {tA : TA} (h : tA σ H fun xs H1 => xs.length ≤ sizeLine ∧ ∀ p, H1 p = none → Q (.ref p) (upd H1 p (.tup xs))) : tTup tA σ H Q := h
theorem ta_consE {σ : L2.St} {H : Hp} {Q : List V → Hp → Prop} {ta : TE} {tr : TA} (h : ta σ H fun x H1 => tr σ H1 fun xs H2 => Q (x :: xs) H2) : tCons ta tr σ H Q := h
theorem te_opE {σ : L2.St} {H : Hp} {Q : VK} {r : R2} {ta tb : TE} (h : ta σ H fun x H1 => tb σ H1 fun y H2 => r x y H2 Q) : tOp r ta tb σ H Q := h
theorem te_cE {σ : L2.St} {H : Hp} {Q : VK} {v : V} (h : Q v H) : tC v σ H Q := h
theorem te_lstE {σ : L2.St} {H : Hp} {Q : VK} {tA : TA} (h : tA σ H fun xs H1 => xs.length ≤ sizeLine ∧ ∀ p, H1 p = none → Q (.ref p) (upd H1 p (.lst xs))) : tLst tA σ H Q := h
theorem s_forLE {K : Frg} {σ : L2.St} {H : Hp} {E : Ends} {tl : TE} {g : TG} {tu : TS} (h : tl σ H fun x H1 => ∃ a, x = .ref a ∧ (∃ xs, SqL K H1 a xs) ∧ ∃ W : Nat → Nat → L2.St → Hp → Prop, (∃ m, W 0 m σ H1) ∧ ∀ i m σ H, W i m σ H → ((Itl K a).stop i H ∧ E.nx σ H) ∨ ((Itl K a).go i H ∧ ∃ N : L2.St → Hp → Prop, (∀ σ' H', N σ' H' → ∃ m', m' < m ∧ W (i + 1) m' σ' H') ∧ ∀ x H', (Itl K a).yld i H x H' → g x σ H' fun σ2 H2 => tu { E with nx := N, ct := N, bk := E.nx } σ2 H2)) : tFor (iList K tl) g tu E σ H := h
theorem only_ex {p : Addr} {Hk H1 H' : Hp} (x : Only p H1 H') (e : Ex Hk H1) (h : Hk p = none) : Ex Hk H' := fun b o hb => x.fr b o (e b o hb) fun z => by rw [z, h] at hb; cases hb
theorem StA.only {K : Frg} {H H' : Hp} {p s : Addr} {D : DS} (h : StA K H s D) (P : PoolAt H p) (o : Only p H H') : StA K H' s D := by
  obtain ⟨a, b, hp, _⟩ := P
  obtain ⟨dx, u, g1, g2'⟩ := h
  exact ⟨dx, u, o.fr _ _ g1 (fun z => by rw [z, hp] at g1; cases g1), g2'.keep o.tk⟩
theorem Mac.only {K : Frg} {H H' : Hp} {p s : Addr} {M : MC} (h : Mac K H s M) (P : PoolAt H p) (o : Only p H H') : Mac K H' s M := by
  obtain ⟨a, b, hp, _⟩ := P
  obtain ⟨dx, u, g1, g2'⟩ := h
  exact ⟨dx, u, o.fr _ _ g1 (fun z => by rw [z, hp] at g1; cases g1), g2'.keep o.tk⟩
theorem LRow.only {K : Frg} {H H' : Hp} {p : Addr} {v : V} {x : Mv} {r : DS × Mx.Ev} (h : LRow K H v x r) (P : PoolAt H p) (o : Only p H H') : LRow K H' v x r := by
  obtain ⟨b, mv, ve, st, rfl, g1, g2', g3, g4'⟩ := h
  exact ⟨b, mv, ve, st, rfl, o.tk.sq g1, g2'.keep o.tk, g3.keep o.tk, g4'.only P o⟩
theorem LRow.ex {K : Frg} {H H' : Hp} {v : V} {x : Mv} {r : DS × Mx.Ev} (h : LRow K H v x r) (e : Ex H H') : LRow K H' v x r := by
  obtain ⟨b, mv, ve, st, rfl, g1, g2', g3, g4'⟩ := h
  exact ⟨b, mv, ve, st, rfl, ex_t e g1, g2'.ex e, g3.ex e, g4'.ex e⟩
theorem run_good' {M : MC} : ∀ {l : List Mv} {D : DS}, RunOk M D l → Good M (endM M D l)
  | [], _, h => h
  | x :: l, _, ⟨_, _, h⟩ => run_good' (l := l) h
end Rp
set_option autoImplicit false
set_option linter.all false
namespace Mp
open Mx Rp
section
variable {M : MC} {a : Prop} {D D' : DS}
/-! ### the start -/
theorem start_inv (O : OkM M) : Inv M a (start M) := by
  have hpg : ∀ (p : Nat) (x : Pg), (start M).pages[p]? = some x → x = .store := by
    intro p x h
    simp only [start] at h
    rw [List.getElem?_replicate] at h
    split at h
    · exact (Option.some.inj h).symm
    · cases h
  have hwk : ∀ (t : Nat) (w : Wk), (start M).wks[t]? = some w → ∃ z ops, M.thr[t]? = some (z, ops) ∧ w = { run := !ops.isEmpty, pc := 0, ph := if ops.isEmpty then .over else .begin, hand := [], cache := [], bats := List.replicate M.ns [] } := by
    intro t w h
    simp only [start, List.getElem?_map] at h
    cases e : M.thr[t]? with
    | none => rw [e] at h; cases h
    | some p =>
      rw [e] at h
      exact ⟨p.1, p.2, rfl, (Option.some.inj h).symm⟩
  have hwb : ∀ w ∈ (start M).wks, wkB w = [] := by
    intro w hw
    obtain ⟨t, ht⟩ := List.getElem?_of_mem hw
    obtain ⟨z, ops, _, rfl⟩ := hwk t w ht
    simp [wkB]
  have hout : outside (start M) = [] := by
    have s0 : ∀ n : Nat, (List.replicate n Sl.non).flatMap slB = [] := by
      intro n; induction n with
      | zero => rfl
      | succ n ih => rw [List.replicate_succ, List.flatMap_cons, ih]; rfl
    have w0 : (start M).wks.flatMap (fun w => w.hand ++ w.cache ++ w.bats.flatten) = [] := by
      rw [List.flatMap_eq_nil_iff]; exact hwb
    unfold outside
    rw [w0]
    show (List.replicate M.nsl Sl.non).flatMap slB ++ ([] ++ ((List.replicate M.ns ([] : List Blk)).flatten ++ [])) = []
    rw [s0]; simp
  have hoc : ∀ b, oC (start M) b = 0 := by
    intro b; rw [← oC_eq, hout]; rfl
  have harr : ∀ z, (start M).arr z = [] := by
    intro z
    simp only [DS.arr, start, List.getD]
    rw [List.getElem?_replicate]
    split <;> rfl
  refine ⟨⟨?_, by simp [start], by simp [start], by simp [start], by simp [start], ?_, ?_, ?_⟩, ?_⟩
  · intro b
    rw [hoc b]
    unfold pgC wnt
    cases e : (start M).pages[b.1]? with
    | none => rfl
    | some x => rw [hpg _ _ e]; rfl
  · intro p h f e
    cases hpg _ _ e
  · intro m hm; cases hm
  · intro _
    constructor
    · intro t w z ops hw _ b hb
      have := mem_wk hw (mem_hc hb)
      rw [hoc] at this; omega
    · intro t w hw j b hb
      have := mem_wk hw (mem_bat hb)
      rw [hoc] at this; omega
    · intro z b hb
      rw [harr] at hb; cases hb
    · intro m hm; cases hm
  · intro t w z ops hw ht
    obtain ⟨z', ops', ht', rfl⟩ := hwk t w hw
    rw [ht] at ht'
    obtain ⟨rfl, rfl⟩ := Prod.mk.inj (Option.some.inj ht')
    have hb : ∀ j, ({ run := !ops.isEmpty, pc := 0, ph := if ops.isEmpty then .over else .begin, hand := [], cache := [], bats := List.replicate M.ns [] } : Wk).bat j = [] := by
      intro j
      simp only [Wk.bat, List.getD, List.getElem?_replicate]
      split <;> rfl
    have bp := O.bat.1
    have hl : batL M { run := !ops.isEmpty, pc := 0, ph := if ops.isEmpty then .over else .begin, hand := [], cache := [], bats := List.replicate M.ns [] } := by
      intro j; rw [hb j]; exact bp
    refine ⟨by simp, ?_⟩
    cases ops with
    | nil => left; exact ⟨rfl, rfl, hl, fun h => by cases h⟩
    | cons o r => right; left; exact ⟨by simp, rfl, rfl, hl⟩
theorem start_moves (O : OkM M) : moves M (start M) ≠ [] := by
  obtain ⟨x, y, ⟨cs, ad, hne, _, _, rfl⟩, _, e⟩ := O.thr
  have ht : M.thr[0]? = some (0, cs.map .alloc) := by rw [e]; rfl
  cases cs with
  | nil => exact absurd rfl hne
  | cons c r =>
    have hlen : 0 < (start M).wks.length := by
      have : 0 < M.thr.length := lt_of_get ht
      simpa [start] using this
    have hw : (start M).wks[0]? = some { run := true, pc := 0, ph := .begin, hand := [], cache := [], bats := List.replicate M.ns [] } := by
      simp only [start, List.getElem?_map, ht]; rfl
    intro h
    have : Mv.step 0 ∈ moves M (start M) := by
      unfold moves
      simp only [List.mem_append, List.mem_map, List.mem_filter, List.mem_range]
      left; right
      refine ⟨0, ⟨hlen, ?_⟩, rfl⟩
      rw [wk_of hw]
      unfold waiting
      rw [prog_of ht, wk_of hw]
      rfl
    rw [h] at this; cases this
/-! ### runs -/
/-- no adoption among the events -/
def nA (M : MC) : DS → List Mv → Prop
  | _, [] => True
  | D, x :: xs => isAd (stepM M D x).2 = false ∧ nA M (stepM M D x).1 xs
theorem run_inv (O : OkM M) : ∀ (l : List Mv) (D : DS), Inv M a D → RunOk M D l → (a → nA M D l) → Inv M a (endM M D l)
  | [], D, I, _, _ => I
  | x :: l, D, I, ⟨_, hx, h⟩, hn => run_inv O l _ (mv_res O I hx (fun ha => (hn ha).1)).inv h (fun ha => (hn ha).2)
theorem run_ext (O : OkM M) : ∀ (l : List Mv) (D : DS), Inv M False D → RunOk M D l → ∀ x ∈ moves M (endM M D l), RunOk M D (l ++ [x])
  | [], D, I, g, x, hx => ⟨g, hx, good_of O (mv_res O I hx (fun h => h.elim)).inv⟩
  | y :: l, D, I, ⟨g, hy, h⟩, x, hx => ⟨g, hy, run_ext O l _ (mv_res O I hy (fun h => h.elim)).inv h x hx⟩
theorem run_pre : ∀ (l : List Mv) (n : Nat) (D : DS), RunOk M D l → RunOk M D (l.take n)
  | [], n, D, h => by rw [List.take_nil]; exact h
  | y :: l, 0, D, ⟨g, _, _⟩ => g
  | y :: l, n + 1, D, ⟨g, hy, h⟩ => ⟨g, hy, run_pre l n _ h⟩
theorem endM_app : ∀ (l r : List Mv) (D : DS), endM M D (l ++ r) = endM M (endM M D l) r
  | [], r, D => rfl
  | x :: l, r, D => endM_app l r _
theorem runM_app : ∀ (l r : List Mv) (D : DS), runM M D (l ++ r) = runM M D l ++ runM M (endM M D l) r
  | [], r, D => rfl
  | x :: l, r, D => by
    show stepM M D x :: runM M (stepM M D x).1 (l ++ r) = _
    rw [runM_app l r]; rfl
theorem mesM_app : ∀ (l r : List Mv) (D : DS), mesM M D (l ++ r) = mesM M D l + mesM M (endM M D l) r
  | [], r, D => by show mesM M D r = 0 + mesM M D r; omega
  | x :: l, r, D => by
    show sentM D (stepM M D x).1 x + mesM M (stepM M D x).1 (l ++ r) = (sentM D (stepM M D x).1 x + mesM M (stepM M D x).1 l) + _
    rw [mesM_app l r]
    show _ = _ + mesM M (endM M (stepM M D x).1 l) r
    omega
theorem pasM_app : ∀ (l r : List Mv) (D : DS), pasM M D (l ++ r) = pasM M D l + pasM M (endM M D l) r
  | [], r, D => by show pasM M D r = 0 + pasM M D r; omega
  | x :: l, r, D => by
    show (if isPS (stepM M D x).2 then sentM D (stepM M D x).1 x else 0) + pasM M (stepM M D x).1 (l ++ r) = ((if isPS (stepM M D x).2 then sentM D (stepM M D x).1 x else 0) + pasM M (stepM M D x).1 l) + _
    rw [pasM_app l r]
    show _ = _ + pasM M (endM M (stepM M D x).1 l) r
    omega
theorem cntM_app (w : PySem.Str) (l r : List Mv) (D : DS) : cntM M w D (l ++ r) = cntM M w D l + cntM M w (endM M D l) r := by
  unfold cntM; rw [runM_app, List.map_append, List.count_append]
theorem runOk_app : ∀ (l r : List Mv) (D : DS), RunOk M D (l ++ r) → RunOk M (endM M D l) r
  | [], r, D, h => h
  | x :: l, r, D, ⟨_, _, h⟩ => runOk_app l r _ h
theorem mes_pos (O : OkM M) : ∀ (l : List Mv) (D : DS), Inv M False D → RunOk M D l → 0 ≤ mesM M D l ∧ 0 ≤ pasM M D l
  | [], D, _, _ => ⟨Int.le_refl _, Int.le_refl _⟩
  | x :: l, D, I, ⟨_, hx, h⟩ => by
    have R := mv_res O I hx (fun h => h.elim)
    obtain ⟨h1, h2⟩ := mes_pos O l _ R.inv h
    have h3 := R.sent
    show 0 ≤ sentM D (stepM M D x).1 x + mesM M (stepM M D x).1 l ∧ 0 ≤ (if isPS (stepM M D x).2 then sentM D (stepM M D x).1 x else 0) + pasM M (stepM M D x).1 l
    refine ⟨by omega, ?_⟩
    split <;> omega
/-- how many of the events are batches -/
def nB (M : MC) : DS → List Mv → Nat
  | _, [] => 0
  | D, x :: xs => isB (stepM M D x).2 + nB M (stepM M D x).1 xs
theorem bal_run (O : OkM M) : ∀ (l : List Mv) (D : DS), Inv M False D → RunOk M D l → (nB M D l : Int) + batTot D ≤ (M.batch : Int) * (mesM M D l - pasM M D l) + batTot (endM M D l)
  | [], D, _, _ => by simp [nB, mesM, pasM, endM]
  | x :: l, D, I, ⟨_, hx, h⟩ => by
    have R := mv_res O I hx (fun h => h.elim)
    have ih := bal_run O l _ R.inv h
    have h1 := R.bal
    show ((isB (stepM M D x).2 + nB M (stepM M D x).1 l : Nat) : Int) + batTot D ≤ (M.batch : Int) * ((sentM D (stepM M D x).1 x + mesM M (stepM M D x).1 l) - ((if isPS (stepM M D x).2 then sentM D (stepM M D x).1 x else 0) + pasM M (stepM M D x).1 l)) + batTot (endM M (stepM M D x).1 l)
    have e : (sentM D (stepM M D x).1 x + mesM M (stepM M D x).1 l) - ((if isPS (stepM M D x).2 then sentM D (stepM M D x).1 x else 0) + pasM M (stepM M D x).1 l) = (if isPS (stepM M D x).2 then 0 else sentM D (stepM M D x).1 x) + (mesM M (stepM M D x).1 l - pasM M (stepM M D x).1 l) := by
      split <;> omega
    rw [e, Int.mul_add, Int.natCast_add]
    omega
theorem pas_zero (O : OkM M) : ∀ (l : List Mv) (D : DS), Inv M True D → RunOk M D l → nA M D l → pasM M D l = 0
  | [], D, _, _, _ => rfl
  | x :: l, D, I, ⟨_, hx, h⟩, ⟨n1, n2⟩ => by
    have R := mv_res O I hx (fun _ => n1)
    have ih := pas_zero O l _ R.inv h n2
    show (if isPS (stepM M D x).2 then sentM D (stepM M D x).1 x else 0) + pasM M (stepM M D x).1 l = 0
    rw [ih]
    split
    · rename_i hp; rw [R.ps trivial hp]; rfl
    · rfl
/-! ### the batches that are open -/
theorem flat_cnt (n : Nat) : ∀ L : List (List Blk), (∀ l ∈ L, l.length ≤ n) → L.flatten.length ≤ n * L.countP fun l => !l.isEmpty
  | [], _ => by simp
  | l :: L, h => by
    have ih := flat_cnt n L (fun x hx => h x (List.mem_cons_of_mem _ hx))
    have h1 := h l List.mem_cons_self
    rw [List.flatten_cons, List.length_append, List.countP_cons]
    cases l with
    | nil => simpa using ih
    | cons b r =>
      have : (if (!(b :: r).isEmpty) = true then 1 else 0) = 1 := rfl
      rw [this, Nat.mul_add]
      omega
theorem wkOk_bat {ops : List Op} {w : Wk} (W : WkOk M ops w) : ∀ j, (w.bat j).length ≤ M.batch := by
  intro j
  rcases W.st with h | h | ⟨s, h⟩ | h | ⟨s, i, h⟩
  · exact Nat.le_of_lt (h.2.2.1 j)
  · exact Nat.le_of_lt (h.2.2.2 j)
  · exact Nat.le_of_lt (h.2.2.2 j)
  · exact Nat.le_of_lt (h.2.2.2 j)
  · by_cases e : j = i
    · rw [e]; exact Nat.le_of_eq h.2.2.2.1
    · exact Nat.le_of_lt (h.2.2.2.2 j e)
theorem wks_open (n : Nat) : ∀ L : List Wk, (∀ w ∈ L, ∀ l ∈ w.bats, l.length ≤ n) → (L.map batT).sum ≤ n * (L.map fun w => w.bats.countP fun l => !l.isEmpty).sum
  | [], _ => by simp
  | w :: L, h => by
    have ih := wks_open n L (fun x hx => h x (List.mem_cons_of_mem _ hx))
    have h1 := flat_cnt n w.bats (h w List.mem_cons_self)
    simp only [List.map_cons, List.sum_cons, Nat.mul_add, batT] at ih ⊢
    omega
theorem bat_open (O : OkM M) (I : Inv M a D) : batTot D ≤ M.batch * openM D := by
  refine wks_open M.batch D.wks ?_
  intro w hw l hl
  obtain ⟨t, ht⟩ := List.getElem?_of_mem hw
  obtain ⟨z, ops, ht2, _⟩ := thr_ex O I.gl ht
  have W := I.wk t w z ops ht ht2
  obtain ⟨j, hj⟩ := List.getElem?_of_mem hl
  have := wkOk_bat W j
  unfold Wk.bat at this
  simp only [List.getD, hj, Option.getD_some] at this
  exact this
theorem start_tot : batTot (start M) = 0 := by
  unfold batTot start
  simp only [List.map_map]
  generalize M.thr = L
  have e : (batT ∘ fun p : Nat × List Op => ({ run := !p.2.isEmpty, pc := 0, ph := if p.2.isEmpty then .over else .begin, hand := [], cache := [], bats := List.replicate M.ns [] } : Wk)) = fun _ => 0 := by
    funext p; simp [batT]
  rw [e]
  induction L with
  | nil => rfl
  | cons x L ih => simp only [List.map_cons, List.sum_cons, ih]
/-! ### the words of the events -/
theorem wB (e : Mx.Ev) : isB e = [evW e].count ("batch" : PySem.Str) := by
  cases e <;> rfl
theorem wA (e : Mx.Ev) (h : evW e ≠ "adopt") : isAd e = false := by
  cases e <;> first | rfl | exact absurd rfl h
theorem nB_eq : ∀ (l : List Mv) (D : DS), cntM M "batch" D l = nB M D l
  | [], D => rfl
  | x :: l, D => by
    have ih := nB_eq l (stepM M D x).1
    show ([evW (stepM M D x).2] ++ ((runM M (stepM M D x).1 l).map fun r => evW r.2)).count ("batch" : PySem.Str) = isB (stepM M D x).2 + nB M (stepM M D x).1 l
    rw [List.count_append, ← wB, ← ih]; rfl
theorem nA_of : ∀ (l : List Mv) (D : DS), (∀ r ∈ runM M D l, evW r.2 ≠ "adopt") → nA M D l
  | [], D, _ => trivial
  | x :: l, D, h => ⟨wA _ (h _ List.mem_cons_self), nA_of l _ (fun r hr => h r (List.mem_cons_of_mem _ hr))⟩
theorem law_run (O : OkM M) (l : List Mv) (h : RunOk M (start M) l) : (cntM M "batch" (start M) l : Int) / (M.batch : Int) + pasM M (start M) l ≤ mesM M (start M) l + (openM (endM M (start M) l) : Int) := by
  have I : Inv M False (start M) := start_inv O
  have h1 := bal_run O l _ I h
  have h2 := bat_open O (run_inv O l _ I h (fun q => q.elim))
  rw [start_tot] at h1
  rw [nB_eq]
  have bp := O.bat.1
  have h3 : (batTot (endM M (start M) l) : Int) ≤ (M.batch : Int) * (openM (endM M (start M) l) : Int) := by exact_mod_cast h2
  have h4 : (nB M (start M) l : Int) ≤ (mesM M (start M) l - pasM M (start M) l + (openM (endM M (start M) l) : Int)) * (M.batch : Int) := by
    rw [Int.mul_comm, Int.mul_add]
    simp at h1
    omega
  have h5 := Int.ediv_le_of_le_mul (by omega : (0 : Int) < (M.batch : Int)) h4
  omega
theorem up_run (O : OkM M) (l : List Mv) (n m : Nat) (h : RunOk M (start M) l) (hnm : n ≤ m) (i : Nat) (a b : Int) (ha : (costM M (l.take n))[i]? = some a) (hb : (costM M (l.take m))[i]? = some b) : a ≤ b := by
  have e : l.take m = l.take n ++ (l.take m).drop n := by
    have := (List.take_append_drop n (l.take m)).symm
    rw [List.take_take, Nat.min_eq_left hnm] at this
    exact this
  have hm := run_pre l m _ h
  have hn := run_pre l n _ h
  rw [e] at hb hm
  generalize (l.take m).drop n = r at hb hm
  generalize l.take n = k at ha hb hn hm
  have hr := runOk_app k r _ hm
  have I : Inv M False (endM M (start M) k) := run_inv O k _ (start_inv O) hn (fun q => q.elim)
  obtain ⟨p1, p2⟩ := mes_pos O r _ I hr
  unfold costM at ha hb
  rw [mesM_app, pasM_app, cntM_app, cntM_app, cntM_app, List.countP_append] at hb
  match i, ha, hb with
  | 0, ha, hb => simp at ha hb; omega
  | 1, ha, hb => simp at ha hb; omega
  | 2, ha, hb => simp at ha hb; omega
  | 3, ha, hb => simp at ha hb; omega
  | 4, ha, hb => simp at ha hb; omega
  | 5, ha, hb => simp at ha hb; omega
  | i + 6, ha, hb => simp at ha
theorem mathM (O : OkM M) : MathM M where
  fit := fit_of O (start_inv (a := False) O)
  mv := start_moves O
  ok0 := good_of O (start_inv O)
  ext := fun l h x hx => run_ext O l _ (start_inv O) h x hx
  pre := fun l n h => run_pre l n _ h
  law := law_run O
  up := fun l n m h hnm i a b ha hb => up_run O l n m h hnm i a b ha hb
  no := fun l h hn => pas_zero O l _ (start_inv O) h (nA_of l _ hn)
end
end Mp
set_option Elab.async false
set_option linter.all false
set_option maxRecDepth 100000
set_option maxHeartbeats 4000000
set_option autoImplicit false
namespace Rp
open PySem PySem.Spec PyProof.Rows L2 Mx Evl Hf
section
variable {P : Program} {w : World} {K : Frg} {mg : Str → Option Value} {base : Heap}
theorem ok_Machine_batch (T : Txt K mg w) (F : FnD K d_Machine_batch)  : Ok P w K mg base 1 (pg K "Machine" "batch") ["self"] (spSet K 4) := by
  have sc : FnScope ["self"] ["self"] (defScope s_Machine_batch) := ⟨rfl, rfl, rfl, by decide +kernel, rfl, by decide +kernel, by decide +kernel⟩
  let nm : List Str := ["self"]
  refine ok_of F rfl rfl sc (fun _ _ _ _ _ _ us hl => match us, hl with | [_], _ => rfl) (fun vs H Q E h => ?_) (fun cdv A outer s H vs Q E hr h => ?_)
  · obtain ⟨m, dx, p, xs, v, rfl, _⟩ := h
    rfl
  · obtain ⟨m, dx, p, xs, v, rfl, hm, hs, hv, q⟩ := h
    refine ⟨_, (pss_one (ps_ret (pe_ix ix_tup (pe_fld (pv 0) rfl) pe_int (fun _ _ => rfl)))), ?_⟩
    exact ⟨_, rfl, m, _, dx, _, _, rfl, hm, T.cls_Machine, T.noat_Machine_settings, lk_Machine_settings, p, xs, (4 : Nat), v, rfl, rfl, hs, atI_nat hv, q⟩

end
end Rp
set_option Elab.async false
set_option linter.all false
set_option maxRecDepth 100000
set_option maxHeartbeats 4000000
set_option autoImplicit false
namespace Rp
open PySem PySem.Spec PyProof.Rows L2 Mx Evl Hf
section
variable {P : Program} {w : World} {K : Frg} {mg : Str → Option Value} {base : Heap}
theorem ok_is_integer (T : Txt K mg w) (F : FnD K d_is_integer)  : Ok P w K mg base 1 (He.ga K "is_integer") ["value"] (spIsInt) := by
  have sc : FnScope ["value"] ["value"] (defScope s_is_integer) := ⟨rfl, rfl, rfl, by decide +kernel, rfl, by decide +kernel, by decide +kernel⟩
  let nm : List Str := ["value"]
  refine ok_of F rfl rfl sc (fun _ _ _ _ _ _ us hl => match us, hl with | [_], _ => rfl) (fun vs H Q E h => ?_) (fun cdv A outer s H vs Q E hr h => ?_)
  · obtain ⟨n, rfl, _⟩ := h
    rfl
  · obtain ⟨n, rfl, k⟩ := h
    refine ⟨_, (pss_one (ps_ret (pe_and (pe_callB call_isi (by rfl) T.free_isinstance (by decide +kernel) (pa_cons (pv 0) (pa_cons (pe_bltn (v := .ty "int") (by rfl) T.free_int (by decide +kernel) rfl) pa_nil))) (pe_one (pe_not (pe_callB call_isi (by rfl) T.free_isinstance (by decide +kernel) (pa_cons (pv 0) (pa_cons (pe_bltn (v := .ty "bool") (by rfl) T.free_bool (by decide +kernel) rfl) pa_nil)))))))), ?_⟩
    exact Evl.s_ret (ev_andV (ev_isiInt (n := n) (ev_var rfl)) fun _ => ev_notV (ev_isiIntB (n := n) (ev_var rfl))) fun H1 e => k H1 e

end
end Rp
set_option Elab.async false
set_option linter.all false
set_option maxRecDepth 100000
set_option maxHeartbeats 4000000
set_option autoImplicit false
namespace Rp
open PySem PySem.Spec PyProof.Rows L2 Mx Evl Hf
section
variable {P : Program} {w : World} {K : Frg} {mg : Str → Option Value} {base : Heap}
theorem ok_is_between (T : Txt K mg w) (F : FnD K d_is_between) (G_is_integer : Ok P w K mg base 1 (He.ga K "is_integer") ["value"] (spIsInt)) : Ok P w K mg base 2 (He.ga K "is_between") ["value", "least", "most"] (spBetween) := by
  have sc : FnScope ["value", "least", "most"] ["value", "least", "most"] (defScope s_is_between) := ⟨rfl, rfl, rfl, by decide +kernel, rfl, by decide +kernel, by decide +kernel⟩
  let nm : List Str := ["value", "least", "most"]
  refine ok_of F rfl rfl sc (fun _ _ _ _ _ _ us hl => match us, hl with | [_, _, _], _ => rfl) (fun vs H Q E h => ?_) (fun cdv A outer s H vs Q E hr h => ?_)
  · obtain ⟨n, a, b, rfl, _⟩ := h
    rfl
  · obtain ⟨n, a, b, rfl, ha, hb, k⟩ := h
    refine ⟨_, (pss_one (ps_ret (pe_and (pe_callO G_is_integer (hr.mono (by decide)) (by rfl) T.glo_is_integer (pa_cons (pv 0) pa_nil)) (pe_one (pe_chain op_le op_le (pv 1) (pv 0) (pv 2)))))), ?_⟩
    exact Evl.s_ret (ev_andV (a := true) (fun H1 e Q' q => (ev_var (v := .int n) rfl) H1 e _ fun H2 e2 => ⟨n, rfl, fun H3 e3 => q H3 (e2.trans e3)⟩) fun _ => ev_chain (ev_var rfl) (ev_var rfl) (ev_var rfl) ha hb) fun H1 e => k H1 e

end
end Rp
set_option Elab.async false
set_option linter.all false
set_option maxRecDepth 100000
set_option maxHeartbeats 4000000
set_option autoImplicit false
namespace Rp
open PySem PySem.Spec PyProof.Rows L2 Mx Evl Hf
section
variable {P : Program} {w : World} {K : Frg} {mg : Str → Option Value} {base : Heap}
theorem ok_is_row (T : Txt K mg w) (F : FnD K d_is_row)  : Ok P w K mg base 1 (He.ga K "is_row") ["value"] (spIsRow K) := by
  have sc : FnScope ["value"] ["value"] (defScope s_is_row) := ⟨rfl, rfl, rfl, by decide +kernel, rfl, by decide +kernel, by decide +kernel⟩
  let nm : List Str := ["value"]
  refine ok_of F rfl rfl sc (fun _ _ _ _ _ _ us hl => match us, hl with | [_], _ => rfl) (fun vs H Q E h => ?_) (fun cdv A outer s H vs Q E hr h => ?_)
  · obtain ⟨p, xs, rfl, _⟩ := h
    rfl
  · obtain ⟨p, xs, rfl, hs, k⟩ := h
    refine ⟨_, (pss_one (ps_ret (pe_callB call_isiT (by rfl) T.free_isinstance (by decide +kernel) (pa_cons (pv 0) (pa_cons (pe_tup (pa_cons (pe_bltn (v := .ty "list") (by rfl) T.free_list (by decide +kernel) rfl) (pa_cons (pe_bltn (v := .ty "tuple") (by rfl) T.free_tuple (by decide +kernel) rfl) pa_nil))) pa_nil))))), ?_⟩
    exact Evl.s_ret (ev_isiRow hs (ev_var rfl)) fun H1 e => k H1 e

end
end Rp
set_option Elab.async false
set_option linter.all false
set_option maxRecDepth 100000
set_option maxHeartbeats 4000000
set_option autoImplicit false
namespace Rp
open PySem PySem.Spec PyProof.Rows L2 Mx Evl Hf
section
variable {P : Program} {w : World} {K : Frg} {mg : Str → Option Value} {base : Heap}
theorem ok_is_classes (T : Txt K mg w) (F : FnD K d_is_classes) (G_is_between : Ok P w K mg base 2 (He.ga K "is_between") ["value", "least", "most"] (spBetween)) (G_is_row : Ok P w K mg base 1 (He.ga K "is_row") ["value"] (spIsRow K)) : Ok P w K mg base 3 (He.ga K "is_classes") ["value"] (spIsClasses K) := by
  have sc : FnScope ["value", "blocks"] ["value"] (defScope s_is_classes) := ⟨rfl, rfl, rfl, by decide +kernel, rfl, by decide +kernel, by decide +kernel⟩
  let nm : List Str := ["value", "blocks"]
  refine ok_of F rfl rfl sc (fun _ _ _ _ _ _ us hl => match us, hl with | [_], _ => rfl) (fun vs H Q E h => ?_) (fun cdv A outer s H vs Q E hr h => ?_)
  · obtain ⟨v, n, rfl, _⟩ := h
    rfl
  · obtain ⟨v, n, rfl, t, h1, h2, k⟩ := h
    refine ⟨_, (pss_cons (ps_if (PW.pt (pw_or (pt_not (pt_val (pe_callO G_is_row (hr.mono (by decide)) (by rfl) T.glo_is_row (pa_cons (pv 0) pa_nil)))) (pw_or1 (pt_not (pt_chain op_le op_le pe_int (pe_callB Ru.cr_len (by rfl) T.free_len PySem.boot_len (pa_cons (pv 0) pa_nil)) (pe_glob (v := .int 3) (by rfl) T.int_MAX_CLASSES.choose_spec ⟨_, rfl⟩)))))) (pss_one (ps_ret pe_bl)) pss_nil) (pss_one (ps_ret (pe_callB (cr_all rfl) (by rfl) T.free_all (by decide +kernel) (pa_cons (pe_lc (own := [("blocks", 1)]) (g := (gName 1)) (by rfl) sc.nd (pi_tup (pv 0)) (blkOk_by (own := [("blocks", 1)]) (N := nm) (sc := defScope s_is_classes) (by decide +kernel)) (fun _ _ _ _ _ => (pg_name (i := 1) sc.nd rfl (by first | exact Or.inl rfl | exact Or.inr rfl))) (fun _ _ _ _ _ => pts_nil) (fun _ _ _ _ _ => (pe_callO G_is_between (hr.mono (by decide)) (by rfl) T.glo_is_between (pa_cons (pv 1) (pa_cons pe_int (pa_cons (pe_glob (v := .int 8) (by rfl) T.int_MAX_BLOCKS.choose_spec ⟨_, rfl⟩) pa_nil)))))) pa_nil))))), ?_⟩
    have ev := ed_var (σ := L2.start ["value", "blocks"] [v]) (i := 0) rfl t
    refine q_when (b := false) (et_is (et_or (et_not (et_B (ev_isRowD ev))) fun _ => et_not (et_test (ev_chain (i := 1) (j := 1) (k := 3) ev_c (ev_lenD ev) ev_c (by decide) (by decide)))) rfl) (fun h => nomatch h) fun _ H1 e1 => ?_
    refine Evl.s_ret (ev_allTup (ed_var (i := 0) rfl (t.ex e1)) (fun _ => rfl) (Nat.le_of_ble_eq_true rfl) fun i x d H2 e2 hd tx => ?_) fun H2 e2 => k H2 (e1.trans e2)
    cases i with
    | succ i => cases hd
    | zero =>
      cases hd
      obtain rfl := Td.int_iff.mp tx
      exact ev_between (i := n) (ev_var rfl) ev_c ev_c (by omega) (by omega)

end
end Rp
set_option Elab.async false
set_option linter.all false
set_option maxRecDepth 100000
set_option maxHeartbeats 4000000
set_option autoImplicit false
namespace Rp
open PySem PySem.Spec PyProof.Rows L2 Mx Evl Hf
section
variable {P : Program} {w : World} {K : Frg} {mg : Str → Option Value} {base : Heap}
def opB : Op → List (Int × Int)
  | .alloc _ => [(0, 2), (0, 7)]
  | .free _ => [(0, 7)]
  | .adopt _ => [(0, 7)]
  | .drain => []
theorem tabO (T : Txt K mg w) (o : Op) (H : Hp) : ∃ u v, PySem.W.nsIn K (He.ga K "BOUNDS") (opW o) = some (some u) ∧ RelV v u ∧ Td K H v (.tuple ((opB o).map fun b => .tuple [.int b.1, .int b.2])) := by
  cases o with
  | alloc s => exact T.tab_alloc H
  | free s => exact T.tab_free H
  | adopt s => exact T.tab_adopt H
  | drain => exact T.tab_drain H
theorem sm_opW (o : Op) : Sm 1 (.str (opW o)) := by
  cases o with
  | alloc s => exact sm_str 1 (x := "alloc") (by decide +kernel)
  | free s => exact sm_str 1 (x := "free") (by decide +kernel)
  | adopt s => exact sm_str 1 (x := "adopt") (by decide +kernel)
  | drain => exact sm_str 1 (x := "drain") (by decide +kernel)
theorem op_len (o : Op) : (opN o).length = (opB o).length := by cases o <;> rfl
theorem op_in (o : Op) (h : ∀ s ∈ opSlots o, s < 8) : ∀ (i : Nat) n b, (opN o)[i]? = some n → (opB o)[i]? = some b → b.1 ≤ n ∧ n ≤ b.2 := by
  intro i n b h1 h2
  cases o with
  | alloc s =>
    have := h s (List.mem_singleton.mpr rfl)
    match i with
    | 0 => cases h1; cases h2; exact ⟨by show (0 : Int) ≤ 0; omega, by show (0 : Int) ≤ 2; omega⟩
    | 1 => cases h1; cases h2; exact ⟨by show (0 : Int) ≤ (s : Int); omega, by show (s : Int) ≤ 7; omega⟩
    | i + 2 => cases h1
  | free s =>
    have := h s (List.mem_singleton.mpr rfl)
    match i with
    | 0 => cases h1; cases h2; exact ⟨by show (0 : Int) ≤ (s : Int); omega, by show (s : Int) ≤ 7; omega⟩
    | i + 1 => cases h1
  | adopt s =>
    have := h s (List.mem_singleton.mpr rfl)
    match i with
    | 0 => cases h1; cases h2; exact ⟨by show (0 : Int) ≤ (s : Int); omega, by show (s : Int) ≤ 7; omega⟩
    | i + 1 => cases h1
  | drain => cases h1
theorem ok_is_operation (T : Txt K mg w) (F : FnD K d_is_operation) (G_is_between : Ok P w K mg base 2 (He.ga K "is_between") ["value", "least", "most"] (spBetween)) : Ok P w K mg base 3 (He.ga K "is_operation") ["value"] (spIsOp K) := by
  have sc : FnScope ["value", "bounds", "number", "least", "most"] ["value"] (defScope s_is_operation) := ⟨rfl, rfl, rfl, by decide +kernel, rfl, by decide +kernel, by decide +kernel⟩
  let nm : List Str := ["value", "bounds", "number", "least", "most"]
  refine ok_of F rfl rfl sc (fun _ _ _ _ _ _ us hl => match us, hl with | [_], _ => rfl) (fun vs H Q E h => ?_) (fun cdv A outer s H vs Q E hr h => ?_)
  · obtain ⟨v, o, rfl, _⟩ := h
    rfl
  · obtain ⟨v, o, rfl, t, hs, k⟩ := h
    refine ⟨_, (pss_cons (ps_if (PW.pt (pw_or (pt_not (pt_val (pe_callB call_isi (by rfl) T.free_isinstance (by decide +kernel) (pa_cons (pv 0) (pa_cons (pe_bltn (v := .ty "tuple") (by rfl) T.free_tuple (by decide +kernel) rfl) pa_nil))))) (pw_or (pt_cmpR (op_eqD hr.units) (pv 0) (pe_tup pa_nil) (nomark _)) (pw_or1 (pt_not (pt_val (pe_callB call_isi (by rfl) T.free_isinstance (by decide +kernel) (pa_cons (pe_ix ix_tup (pv 0) pe_int (fun _ _ => rfl)) (pa_cons (pe_bltn (v := .ty "str") (by rfl) T.free_str (by decide +kernel) rfl) pa_nil))))))))) (pss_one (ps_ret pe_bl)) pss_nil) (pss_cons (ps_set (i := 1) sc.nd rfl (by first | exact Or.inl rfl | exact Or.inr rfl) (Ru.pe_kget (pe_glob (v := .ref _) (by rfl) T.glo_BOUNDS rfl) (pe_ix ix_tup (pv 0) pe_int (fun _ _ => rfl)) pe_non ⟨rfl, rfl, rfl, rfl⟩)) (pss_cons (ps_if (PW.pt (pw_or (pt_cmpR op_isN (pv 1) pe_non (nomark _)) (pw_or1 (pt_cmpR op_ne (pe_callB Ru.cr_len (by rfl) T.free_len PySem.boot_len (pa_cons (pv 0) pa_nil)) (pe_op op_add (pe_callB Ru.cr_len (by rfl) T.free_len PySem.boot_len (pa_cons (pv 1) pa_nil)) pe_int) (nomark _))))) (pss_one (ps_ret pe_bl)) pss_nil) (pss_one (ps_ret (pe_callB (cr_all rfl) (by rfl) T.free_all (by decide +kernel) (pa_cons (pe_lc (own := [("number", 2), ("least", 3), ("most", 4)]) (g := (gTup K 2 (gCons (gName 2) (gCons (gTup K 2 (gCons (gName 3) (gCons (gName 4) gNil))) gNil)))) (by rfl) sc.nd (RZ.pi_zipA (by rfl) T.free_zip (pa_cons (pe_slice sl_tupA (pv 0) (po_some pe_int) po_none) (pa_cons (pv 1) pa_nil))) (blkOk_by (own := [("number", 2), ("least", 3), ("most", 4)]) (N := nm) (sc := defScope s_is_operation) (by decide +kernel)) (fun _ _ _ _ _ => (pg_tup rfl (pgs_cons (pg_name (i := 2) sc.nd rfl (by first | exact Or.inl rfl | exact Or.inr rfl)) (pgs_cons (pg_tup rfl (pgs_cons (pg_name (i := 3) sc.nd rfl (by first | exact Or.inl rfl | exact Or.inr rfl)) (pgs_cons (pg_name (i := 4) sc.nd rfl (by first | exact Or.inl rfl | exact Or.inr rfl)) pgs_nil))) pgs_nil)))) (fun _ _ _ _ _ => pts_nil) (fun _ _ _ _ _ => (pe_callO G_is_between (hr.mono (by decide)) (by rfl) T.glo_is_between (pa_cons (pv 2) (pa_cons (pv 3) (pa_cons (pv 4) pa_nil)))))) pa_nil))))))), ?_⟩
    rw [eOp_eq] at t
    have ev := ed_var (σ := L2.start ["value", "bounds", "number", "least", "most"] [v]) (i := 0) rfl t
    have smo : Sm 2 (.tuple (.str (opW o) :: (opN o).map .int)) := sm_tup (sml_cons (sm_opW o) (sml_map (fun i => sm_int 1 i) _))
    have h00 : ∀ n : Nat, ixN (n + 1) 0 = some 0 := fun n => Evl.ixN_nat (j := 0) (Nat.succ_pos n)
    have ev0 : Ev (tOp (rIxT K) (tVar 0) (tC (.int 0))) (L2.start ["value", "bounds", "number", "least", "most"] [v]) H (.str (opW o)) := (ed_ixT (j := 0) (d := .str (opW o)) ev ev_c (h00 _) rfl).str
    refine q_when (b := false) (et_is (et_or (et_not (et_B (ev_isiTupD ev))) fun _ => et_or (et_test (ev_eqD ev (ed_tup el_nil ble) smo.shp (sm_tup (sml_nil 1)).shp)) fun _ => et_not (et_B (ev_isiStr ev0))) (by rw [eqv_notnil] <;> rfl)) (fun h => nomatch h) fun _ H1 e1 => ?_
    obtain ⟨es, n, KD⟩ := T.bounds
    refine q_asgE ⟨_, es, n, rfl, KD, ev0 H1 e1 _ fun H2 e2 => ?_⟩
    obtain ⟨u, bv, hu, hr, tbv⟩ := tabO T o H2
    refine ⟨_, u, bv, rfl, hu, hr, ?_⟩
    dsimp only [gName]
    have hbn : bv ≠ .non := by
      rintro rfl
      cases tbv
    have t2 := t.ex (e1.trans e2)
    have ev2 := ed_var (σ := (L2.start ["value", "bounds", "number", "least", "most"] [v]).set 1 (some bv)) (i := 0) rfl t2
    have eb2 := ed_var (σ := (L2.start ["value", "bounds", "number", "least", "most"] [v]).set 1 (some bv)) (i := 1) rfl tbv
    refine q_when (b := false) (et_is (et_or (et_test (ev_isNon (ev_var (v := bv) rfl))) fun _ => et_test (ev_eqN' (ev_lenD ev2) (ev_op (ev_lenD eb2) ev_c rv_I0) (by
      rw [List.length_map, List.length_cons, List.length_map, op_len]
      omega))) (by rw [decide_eq_false hbn] <;> rfl)) (fun h => nomatch h) fun _ H3 e3 => ?_
    have t3 := t2.ex e3
    have tb3 := tbv.ex e3
    have e03 := (e1.trans e2).trans e3
    refine Evl.s_ret (ev_allT (n := (opN o).length) ?_) fun H4 e4 => k H4 (e03.trans e4)
    have edr := ed_drop (K := K) (n := 1) (ed_var (σ := (L2.start ["value", "bounds", "number", "least", "most"] [v]).set 1 (some bv)) (i := 0) rfl t3) (ev_c (v := .int ((1 : Nat) : Int)))
    rw [show (PyData.str (opW o) :: (opN o).map PyData.int).drop 1 = (opN o).map PyData.int from rfl] at edr
    have hll : ((opN o).map PyData.int).length = (opN o).length := List.length_map _
    rw [← hll]
    refine el_lcZT (fun _ => .bl true) edr (ed_var (i := 1) rfl tb3) (by rw [List.length_map, List.length_map, op_len]) (by rw [List.length_map]; cases o <;> exact Nat.le_of_ble_eq_true rfl) fun i x y d e Tu H4 e4 hd he tx ty hT Q' q => ?_
    rw [List.getElem?_map] at hd he
    obtain ⟨num, hnum, rfl⟩ := Option.map_eq_some_iff.mp hd
    obtain ⟨b, hb, rfl⟩ := Option.map_eq_some_iff.mp he
    obtain rfl := Td.int_iff.mp tx
    obtain ⟨a2, xs2, rfl, hs2, ts2⟩ := ty.tup_inv
    obtain ⟨w1, r1, rfl, u1, u2⟩ := ts2.cons_inv
    obtain ⟨w2, r2, rfl, u3, u4⟩ := u2.cons_inv
    obtain rfl := TdL.nil_iff.mp u4
    obtain rfl := Td.int_iff.mp u1
    obtain rfl := Td.int_iff.mp u3
    refine ⟨Tu, _, rfl, st_of hT, rfl, _, _, rfl, _, _, rfl, ⟨a2, _, rfl, hs2, rfl, g2 ⟨rfl, q _ rfl ?_⟩⟩⟩
    obtain ⟨c1, c2⟩ := op_in o hs i num b hnum hb
    exact ev_between (ev_var rfl) (ev_var rfl) (ev_var rfl) c1 c2

end
end Rp
set_option Elab.async false
set_option linter.all false
set_option maxRecDepth 100000
set_option maxHeartbeats 4000000
set_option autoImplicit false
namespace Rp
open PySem PySem.Spec PyProof.Rows L2 Mx Evl Hf
section
variable {P : Program} {w : World} {K : Frg} {mg : Str → Option Value} {base : Heap}
theorem ok_fits (T : Txt K mg w) (F : FnD K d_fits) (G_is_operation : Ok P w K mg base 3 (He.ga K "is_operation") ["value"] (spIsOp K)) : Ok P w K mg base 4 (He.ga K "fits") ["operation", "kinds", "slots"] (spFits K) := by
  have sc : FnScope ["operation", "kinds", "slots"] ["operation", "kinds", "slots"] (defScope s_fits) := ⟨rfl, rfl, rfl, by decide +kernel, rfl, by decide +kernel, by decide +kernel⟩
  let nm : List Str := ["operation", "kinds", "slots"]
  refine ok_of F rfl rfl sc (fun _ _ _ _ _ _ us hl => match us, hl with | [_, _, _], _ => rfl) (fun vs H Q E h => ?_) (fun cdv A outer s H vs Q E hr h => ?_)
  · obtain ⟨v, o, nsl, rfl, _⟩ := h
    rfl
  · obtain ⟨v, o, nsl, rfl, t, ⟨hn, hs⟩, k⟩ := h
    refine ⟨_, (pss_cons (ps_if (pt_not (pt_val (pe_callO G_is_operation (hr.mono (by decide)) (by rfl) T.glo_is_operation (pa_cons (pv 0) pa_nil)))) (pss_one (ps_ret pe_bl)) pss_nil) (pss_cons (ps_if (PW.pt (pw_and (pt_cmpR op_eq (pe_ix ix_tup (pv 0) pe_int (fun _ _ => rfl)) pe_str (nomark _)) (pw_and1 (pt_cmpR op_ge (pe_ix ix_tup (pv 0) pe_int (fun _ _ => rfl)) (pv 1) (nomark _))))) (pss_one (ps_ret pe_bl)) pss_nil) (pss_one (ps_ret (pe_or (pe_cmpR op_eq (pe_ix ix_tup (pv 0) pe_int (fun _ _ => rfl)) pe_str (nomark _)) (pe_one (pe_cmpR op_lt (pe_ix ix_tup (pv 0) (pe_un un_neg pe_int) (fun _ _ => rfl)) (pv 2) (nomark _)))))))), ?_⟩
    have t0 := t
    rw [eOp_eq] at t
    have h00 : ∀ n : Nat, ixN (n + 1) 0 = some 0 := fun n => Evl.ixN_nat (j := 0) (Nat.succ_pos n)
    refine q_when (b := false) (et_is (et_not (et_B (b := true) (fun H1 e Q' q => (ev_var (v := v) rfl) H1 e _ fun H2 e2 => ⟨v, o, rfl, t0.ex (e.trans e2), fun s h => by have := hs s h; omega, fun H3 e3 => q H3 (e2.trans e3)⟩))) rfl) (fun h => nomatch h) fun _ H1 e1 => ?_
    have t1 := t.ex e1
    have ev := ed_var (σ := L2.start ["operation", "kinds", "slots"] [v, .int 1, .int (nsl : Nat)]) (i := 0) rfl t1
    have ev0 : Ev (tOp (rIxT K) (tVar 0) (tC (.int 0))) (L2.start ["operation", "kinds", "slots"] [v, .int 1, .int (nsl : Nat)]) H1 (.str (opW o)) := (ed_ixT (j := 0) (d := .str (opW o)) ev ev_c (h00 _) rfl).str
    refine q_when (b := false) (et_is (et_and (b := false) (et_test (ev_op ev0 ev_c (rv_eq rfl))) fun ha => et_test ?_) (by rw [Bool.and_false])) (fun h => nomatch h) fun _ H2 e2 => ?_
    · cases o with
      | alloc s => exact ev_is (ev_op (ed_ixT (j := 1) (d := .int 0) ev ev_c rfl rfl).int (ev_var (v := .int 1) rfl) rv_I0) rfl
      | free s => exact absurd (of_decide_eq_true ha) (wne _ _ (show ((opW (.free s)) == ("alloc" : Str)) = false from (by decide +kernel : (("free" : Str) == "alloc") = false)))
      | adopt s => exact absurd (of_decide_eq_true ha) (wne _ _ (show ((opW (.adopt s)) == ("alloc" : Str)) = false from (by decide +kernel : (("adopt" : Str) == "alloc") = false)))
      | drain => exact absurd (of_decide_eq_true ha) (wne _ _ (show ((opW .drain) == ("alloc" : Str)) = false from (by decide +kernel : (("drain" : Str) == "alloc") = false)))
    · have ev2 := ev.mono e2
      refine Evl.s_ret (v := .bl true) ?_ fun H3 e3 => k H3 ((e1.trans e2).trans e3)
      refine ev_is (ev_orV (b := true) (ev_op (ev0.mono e2) ev_c (rv_eq rfl)) fun ha => ?_) (by rw [Bool.or_true])
      rw [opW_drain] at ha
      have hnd := of_decide_eq_false ha
      obtain ⟨q, hq1, hq2, hq3⟩ : ∃ q, opSlots o = [q] ∧ (PyData.str (opW o) :: (opN o).map PyData.int)[(opN o).length]? = some (eN q) ∧ ixN (PyData.str (opW o) :: (opN o).map PyData.int).length (-1) = some (opN o).length := by
        cases o with
        | drain => exact absurd rfl hnd
        | _ => exact ⟨_, rfl, rfl, rfl⟩
      have hqn := hs q (by rw [hq1]; exact List.mem_singleton.mpr rfl)
      exact ev_is (ev_lt (a := q) (b := nsl) (ed_ixT (d := eN q) ev2 (ev_un (ev_c (v := .int 1)) ru_neg) hq3 hq2).int (ev_var rfl)) (by rw [decide_eq_true hqn])

end
end Rp
set_option Elab.async false
set_option linter.all false
set_option maxRecDepth 100000
set_option maxHeartbeats 4000000
set_option autoImplicit false
namespace Rp
open PySem PySem.Spec PyProof.Rows L2 Mx Evl Hf
section
variable {P : Program} {w : World} {K : Frg} {mg : Str → Option Value} {base : Heap}
theorem ok_is_thread (T : Txt K mg w) (F : FnD K d_is_thread) (G_fits : Ok P w K mg base 4 (He.ga K "fits") ["operation", "kinds", "slots"] (spFits K)) (G_is_between : Ok P w K mg base 2 (He.ga K "is_between") ["value", "least", "most"] (spBetween)) (G_is_row : Ok P w K mg base 1 (He.ga K "is_row") ["value"] (spIsRow K)) : Ok P w K mg base 5 (He.ga K "is_thread") ["value", "sockets", "kinds", "slots"] (spIsThread K) := by
  have sc : FnScope ["value", "sockets", "kinds", "slots", "operation"] ["value", "sockets", "kinds", "slots"] (defScope s_is_thread) := ⟨rfl, rfl, rfl, by decide +kernel, rfl, by decide +kernel, by decide +kernel⟩
  let nm : List Str := ["value", "sockets", "kinds", "slots", "operation"]
  refine ok_of F rfl rfl sc (fun _ _ _ _ _ _ us hl => match us, hl with | [_, _, _, _], _ => rfl) (fun vs H Q E h => ?_) (fun cdv A outer s H vs Q E hr h => ?_)
  · obtain ⟨v, t, ns, nsl, rfl, _⟩ := h
    rfl
  · obtain ⟨v, t, ns, nsl, rfl, tv, h1, h2, h3, k⟩ := h
    refine ⟨_, (pss_cons (ps_if (PW.pt (pw_or (pt_not (pt_val (pe_callB call_isi (by rfl) T.free_isinstance (by decide +kernel) (pa_cons (pv 0) (pa_cons (pe_bltn (v := .ty "tuple") (by rfl) T.free_tuple (by decide +kernel) rfl) pa_nil))))) (pw_or (pt_cmpR op_ne (pe_callB Ru.cr_len (by rfl) T.free_len PySem.boot_len (pa_cons (pv 0) pa_nil)) pe_int (nomark _)) (pw_or1 (pt_not (pt_val (pe_callO G_is_between (hr.mono (by decide)) (by rfl) T.glo_is_between (pa_cons (pe_ix ix_tup (pv 0) pe_int (fun _ _ => rfl)) (pa_cons pe_int (pa_cons (pe_op op_sub (pv 1) pe_int) pa_nil)))))))))) (pss_one (ps_ret pe_bl)) pss_nil) (pss_cons (ps_if (PW.pt (pw_or (pt_not (pt_val (pe_callO G_is_row (hr.mono (by decide)) (by rfl) T.glo_is_row (pa_cons (pe_ix ix_tup (pv 0) pe_int (fun _ _ => rfl)) pa_nil)))) (pw_or1 (pt_cmpR op_gt (pe_callB Ru.cr_len (by rfl) T.free_len PySem.boot_len (pa_cons (pe_ix ix_tup (pv 0) pe_int (fun _ _ => rfl)) pa_nil)) (pe_glob (v := .int 30) (by rfl) T.int_MAX_OPERATIONS.choose_spec ⟨_, rfl⟩) (nomark _))))) (pss_one (ps_ret pe_bl)) pss_nil) (pss_one (ps_ret (pe_callB (cr_all rfl) (by rfl) T.free_all (by decide +kernel) (pa_cons (pe_lc (own := [("operation", 4)]) (g := (gName 4)) (by rfl) sc.nd (pi_tup (pe_ix ix_tup (pv 0) pe_int (fun _ _ => rfl))) (blkOk_by (own := [("operation", 4)]) (N := nm) (sc := defScope s_is_thread) (by decide +kernel)) (fun _ _ _ _ _ => (pg_name (i := 4) sc.nd rfl (by first | exact Or.inl rfl | exact Or.inr rfl))) (fun _ _ _ _ _ => pts_nil) (fun _ _ _ _ _ => (pe_callO G_fits (hr.mono (by decide)) (by rfl) T.glo_fits (pa_cons (pv 4) (pa_cons (pv 2) (pa_cons (pv 3) pa_nil)))))) pa_nil)))))), ?_⟩
    have ev := ed_var (σ := L2.start ["value", "sockets", "kinds", "slots", "operation"] [v, .int (ns : Nat), .int 1, .int (nsl : Nat)]) (i := 0) rfl tv
    have ev0 := (ed_ixT (tb := tC (.int 0)) (j := 0) (d := eN t.1) ev ev_c rfl rfl).int
    have ev1 := ed_ixT (tb := tC (.int 1)) (j := 1) (d := .tuple (t.2.map eOp)) ev ev_c rfl rfl
    refine q_when (b := false) (et_is (et_or (et_not (et_B (ev_isiTupD ev))) fun _ => et_or (et_test (ev_eqN' (ev_lenD ev) ev_c rfl)) fun _ => et_not (et_B (ev_between (i := t.1) (j := 0) (k := (ns : Int) - 1) ev0 ev_c (ev_op (ev_var rfl) ev_c rv_I0) (by omega) (by omega)))) rfl) (fun h => nomatch h) fun _ H1 e1 => ?_
    have elen := ev_lenD (ev1.mono e1)
    rw [List.length_map] at elen
    refine q_when (b := false) (et_is (et_or (et_not (et_B (ev_isRowD (ev1.mono e1)))) fun _ => et_test (ev_gt (b := 30) elen ev_c)) (by rw [decide_eq_false (by omega)] <;> rfl)) (fun h => nomatch h) fun _ H2 e2 => ?_
    refine Evl.s_ret (ev_allTup ((ev1.mono e1).mono e2) (fun _ => rfl) (by rw [List.length_map]; omega) fun i x d H3 e3 hd tx => ?_) fun H3 e3 => k H3 ((e1.trans e2).trans e3)
    rw [List.getElem?_map] at hd
    obtain ⟨o, ho, rfl⟩ := Option.map_eq_some_iff.mp hd
    exact ev_call (ea_cons (ev_var rfl) (ea_cons (ev_var rfl) (ea_cons (ev_var rfl) ea_nil))) fun H4 e4 Q' q E' => ⟨x, o, nsl, rfl, tx.ex e4, h3 o (List.mem_of_getElem? ho), fun H5 e5 => q H5 e5⟩

end
end Rp
set_option Elab.async false
set_option linter.all false
set_option maxRecDepth 100000
set_option maxHeartbeats 4000000
set_option autoImplicit false
namespace Rp
open PySem PySem.Spec PyProof.Rows L2 Mx Evl Hf
section
variable {P : Program} {w : World} {K : Frg} {mg : Str → Option Value} {base : Heap}
theorem ok_Machine_init (T : Txt K mg w) (F : FnD K d_Machine_init) (G_is_between : Ok P w K mg base 2 (He.ga K "is_between") ["value", "least", "most"] (spBetween)) (G_is_classes : Ok P w K mg base 3 (He.ga K "is_classes") ["value"] (spIsClasses K)) (G_is_row : Ok P w K mg base 1 (He.ga K "is_row") ["value"] (spIsRow K)) (G_is_thread : Ok P w K mg base 5 (He.ga K "is_thread") ["value", "sockets", "kinds", "slots"] (spIsThread K)) : OkK P w K mg base 6 (He.ma K (He.ga K "Machine") "__init__") ["self", "sockets", "classes", "threads", "pages", "batch", "spare", "slots", "stops", "fault"] 4 ["pages", "batch", "spare", "slots", "stops", "fault"] (spMInit K) := by
  have sc : FnScope ["self", "sockets", "classes", "threads", "pages", "batch", "spare", "slots", "stops", "fault", "is_slots", "most", "programs", "name", "value", "least", "limit", "thread", "socket", "program"] ["self", "sockets", "classes", "threads", "pages", "batch", "spare", "slots", "stops", "fault"] (defScope s_Machine_init) := ⟨rfl, rfl, rfl, by decide +kernel, rfl, by decide +kernel, by decide +kernel⟩
  let nm : List Str := ["self", "sockets", "classes", "threads", "pages", "batch", "spare", "slots", "stops", "fault", "is_slots", "most", "programs", "name", "value", "least", "limit", "thread", "socket", "program"]
  refine ok_ofK 4 ["pages", "batch", "spare", "slots", "stops", "fault"] F rfl (by intro h; cases h) sc (fun _ _ _ _ _ _ us ws h1 h2 => match us, ws, h1, h2 with | [_, _, _, _], [_, _, _, _, _, _], _, _ => rfl) (fun vs H Q E h => ?_) (fun cdv A outer s H vs Q E hr h => ?_)
  · obtain ⟨a, dx, v1, v2, M, rfl, _⟩ := h
    rfl
  · obtain ⟨a, dx, v1, v2, M, rfl, ha, t1, t2, ok, k⟩ := h
    refine ⟨_, (pss_cons (ps_if (pt_not (pt_val (pe_callO G_is_between (hr.mono (by decide)) (by rfl) T.glo_is_between (pa_cons (pv 1) (pa_cons pe_int (pa_cons (pe_glob (v := .int 4) (by rfl) T.int_MAX_SOCKETS.choose_spec ⟨_, rfl⟩) pa_nil)))))) (pss_one ps_never) pss_nil) (pss_cons (ps_if (pt_not (pt_val (pe_callO G_is_classes (hr.mono (by decide)) (by rfl) T.glo_is_classes (pa_cons (pv 2) pa_nil)))) (pss_one ps_never) pss_nil) (pss_cons (ps_set (i := 10) sc.nd rfl (by first | exact Or.inl rfl | exact Or.inr rfl) (pe_callO G_is_between (hr.mono (by decide)) (by rfl) T.glo_is_between (pa_cons (pv 7) (pa_cons pe_int (pa_cons (pe_glob (v := .int 8) (by rfl) T.int_MAX_SLOTS.choose_spec ⟨_, rfl⟩) pa_nil))))) (pss_cons (ps_set (i := 11) sc.nd rfl (by first | exact Or.inl rfl | exact Or.inr rfl) (pe_ifExp (pt_val (pv 10)) (pv 7) (pe_glob (v := .int 8) (by rfl) T.int_MAX_SLOTS.choose_spec ⟨_, rfl⟩))) (pss_cons (ps_if (PW.pt (pw_or (pt_not (pt_val (pe_callO G_is_row (hr.mono (by decide)) (by rfl) T.glo_is_row (pa_cons (pv 3) pa_nil)))) (pw_or1 (pt_not (pt_chain op_le op_le pe_int (pe_callB Ru.cr_len (by rfl) T.free_len PySem.boot_len (pa_cons (pv 3) pa_nil)) (pe_glob (v := .int 6) (by rfl) T.int_MAX_THREADS.choose_spec ⟨_, rfl⟩)))))) (pss_one ps_never) pss_nil) (pss_cons (ps_if (pt_not (pt_val (pe_callB (cr_all rfl) (by rfl) T.free_all (by decide +kernel) (pa_cons (pe_lc (own := [("thread", 17)]) (g := (gName 17)) (by rfl) sc.nd (pi_tup (pv 3)) (blkOk_by (own := [("thread", 17)]) (N := nm) (sc := defScope s_Machine_init) (by decide +kernel)) (fun _ _ _ _ _ => (pg_name (i := 17) sc.nd rfl (by first | exact Or.inl rfl | exact Or.inr rfl))) (fun _ _ _ _ _ => pts_nil) (fun _ _ _ _ _ => (pe_callO G_is_thread (hr.mono (by decide)) (by rfl) T.glo_is_thread (pa_cons (pv 17) (pa_cons (pv 1) (pa_cons (pe_callB (show CallR _ _ (Evl.rLenS K) from Ru.cr_len) (by rfl) T.free_len PySem.boot_len (pa_cons (pv 2) pa_nil)) (pa_cons (pv 11) pa_nil))))))) pa_nil)))) (pss_one ps_never) pss_nil) (pss_cons (ps_for PassesOwn.never rfl (pi_list (pe_lst (pa_cons (pe_tup (pa_cons pe_str (pa_cons (pv 4) (pa_cons pe_int (pa_cons (pe_glob (v := .int 64) (by rfl) T.int_MAX_PAGES.choose_spec ⟨_, rfl⟩) pa_nil))))) (pa_cons (pe_tup (pa_cons pe_str (pa_cons (pv 5) (pa_cons pe_int (pa_cons (pe_glob (v := .int 8) (by rfl) T.int_MAX_BATCH.choose_spec ⟨_, rfl⟩) pa_nil))))) (pa_cons (pe_tup (pa_cons pe_str (pa_cons (pv 6) (pa_cons pe_int (pa_cons (pe_glob (v := .int 8) (by rfl) T.int_MAX_SPARE.choose_spec ⟨_, rfl⟩) pa_nil))))) (pa_cons (pe_tup (pa_cons pe_str (pa_cons (pv 7) (pa_cons pe_int (pa_cons (pe_glob (v := .int 8) (by rfl) T.int_MAX_SLOTS.choose_spec ⟨_, rfl⟩) pa_nil))))) (pa_cons (pe_tup (pa_cons pe_str (pa_cons (pv 8) (pa_cons pe_int (pa_cons (pe_glob (v := .int 6) (by rfl) T.int_MAX_STOPS.choose_spec ⟨_, rfl⟩) pa_nil))))) pa_nil))))))) (pg_tup rfl (pgs_cons (pg_name (i := 13) sc.nd rfl (by first | exact Or.inl rfl | exact Or.inr rfl)) (pgs_cons (pg_name (i := 14) sc.nd rfl (by first | exact Or.inl rfl | exact Or.inr rfl)) (pgs_cons (pg_name (i := 15) sc.nd rfl (by first | exact Or.inl rfl | exact Or.inr rfl)) (pgs_cons (pg_name (i := 16) sc.nd rfl (by first | exact Or.inl rfl | exact Or.inr rfl)) pgs_nil))))) (pss_one (ps_if (pt_not (pt_val (pe_callO G_is_between (hr.mono (by decide)) (by rfl) T.glo_is_between (pa_cons (pv 14) (pa_cons (pv 15) (pa_cons (pv 16) pa_nil)))))) (pss_one ps_never) pss_nil))) (pss_cons (ps_if (PW.pt (pw_and (pt_cmpR op_notN (pv 9) pe_non (nomark _)) (pw_and1 (PW.pt (pw_or (pt_not (pt_val (pe_callB call_isi (by rfl) T.free_isinstance (by decide +kernel) (pa_cons (pv 9) (pa_cons (pe_bltn (v := .ty "str") (by rfl) T.free_str (by decide +kernel) rfl) pa_nil))))) (pw_or1 (pt_cmpR op_notIn_seq (pv 9) (pe_tup (pa_cons pe_str (pa_cons pe_str (pa_cons pe_str pa_nil)))) (by rfl)))))))) (pss_one ps_never) pss_nil) (pss_cons (ps_set (i := 12) sc.nd rfl (by first | exact Or.inl rfl | exact Or.inr rfl) (pe_callTy Ru.cr_tup (by rfl) T.free_tuple (by decide +kernel) (pa_cons (pe_lc (own := [("socket", 18), ("program", 19)]) (g := (gTup K 2 (gCons (gName 18) (gCons (gName 19) gNil)))) (by rfl) sc.nd (pi_tup (pv 3)) (blkOk_by (own := [("socket", 18), ("program", 19)]) (N := nm) (sc := defScope s_Machine_init) (by decide +kernel)) (fun _ _ _ _ _ => (pg_tup rfl (pgs_cons (pg_name (i := 18) sc.nd rfl (by first | exact Or.inl rfl | exact Or.inr rfl)) (pgs_cons (pg_name (i := 19) sc.nd rfl (by first | exact Or.inl rfl | exact Or.inr rfl)) pgs_nil)))) (fun _ _ _ _ _ => pts_nil) (fun _ _ _ _ _ => (pe_tup (pa_cons (pv 18) (pa_cons (pe_callTy (show CallR _ _ (Ru.rTupS K) from Ru.cr_tup) (by rfl) T.free_tuple (by decide +kernel) (pa_cons (pv 19) pa_nil)) pa_nil))))) pa_nil))) (pss_one (ps_fld (pv 0) (pe_tup (pa_cons (pv 1) (pa_cons (pe_callTy Ru.cr_tup (by rfl) T.free_tuple (by decide +kernel) (pa_cons (pv 2) pa_nil)) (pa_cons (pv 12) (pa_cons (pv 4) (pa_cons (pv 5) (pa_cons (pv 6) (pa_cons (pv 7) (pa_cons (pv 8) (pa_cons (pv 9) pa_nil)))))))))) rfl))))))))))), ?_⟩
    obtain ⟨hl4, hth⟩ := ok.thrs
    have h1 := ok.ns
    have h2 := ok.size
    have h3 := ok.bat
    have h4 := ok.nsl
    refine q_when (b := false) (et_is (et_not (et_B (ev_between (i := M.ns) (ev_var rfl) ev_c ev_c (by omega) (by omega)))) rfl) (fun h => nomatch h) fun _ H1 e1 => ?_
    refine q_when (b := false) (et_is (et_not (et_B (ev_call (z := .bl true) (ea_cons (ev_var (v := v1) rfl) ea_nil) fun H2 e2 Q' q E' => ⟨v1, M.size, rfl, (t1.ex e1).ex e2, by omega, by omega, fun H3 e3 => q H3 e3⟩))) rfl) (fun h => nomatch h) fun _ H2 e2 => ?_
    refine q_asg (ev_between (i := M.nsl) (ev_var rfl) ev_c ev_c (by omega) (by omega)) fun H3 e3 => ?_
    refine q_asg (v := .int (M.nsl : Nat)) (ev_if (b := true) (et_B (ev_var rfl)) (fun _ => ev_var rfl) (fun h => nomatch h)) fun H4 e4 => ?_
    have e04 := ((e1.trans e2).trans e3).trans e4
    have et4 := ed_var (σ := (((L2.start ["self", "sockets", "classes", "threads", "pages", "batch", "spare", "slots", "stops", "fault", "is_slots", "most", "programs", "name", "value", "least", "limit", "thread", "socket", "program"] [.ref a, .int (M.ns : Nat), v1, v2, .int 4, .int (M.batch : Nat), .int 0, .int (M.nsl : Nat), .int 0, .non]).set 10 (some (.bl true))).set 11 (some (.int (M.nsl : Nat))))) (i := 3) rfl (t2.ex e04)
    have elen := ev_lenD et4
    rw [List.length_map] at elen
    refine q_when (b := false) (et_is (et_or (et_not (et_B (ev_isRowD et4))) fun _ => et_not (et_test (ev_chain ev_c elen ev_c (by omega) (by omega)))) rfl) (fun h => nomatch h) fun _ H5 e5 => ?_
    have et5 := et4.mono e5
    have e05 := e04.trans e5
    refine q_when (b := false) (et_is (et_not (et_B (ev_allTup et5 (by intro _; rfl) (by rw [List.length_map]; omega) fun i x d H6 e6 hd tx => ?_))) rfl) (fun h => nomatch h) fun _ H6 e6 => ?_
    · rw [List.getElem?_map] at hd
      obtain ⟨th, hthi, rfl⟩ := Option.map_eq_some_iff.mp hd
      obtain ⟨g1, g2', g3, g4'⟩ := hth th (List.mem_of_getElem? hthi)
      have elc := ev_lenD (ed_var (σ := (wipe ((L2.start ["self", "sockets", "classes", "threads", "pages", "batch", "spare", "slots", "stops", "fault", "is_slots", "most", "programs", "name", "value", "least", "limit", "thread", "socket", "program"] [.ref a, .int (M.ns : Nat), v1, v2, .int 4, .int (M.batch : Nat), .int 0, .int (M.nsl : Nat), .int 0, .non]).set 10 (some (.bl true)) |>.set 11 (some (.int (M.nsl : Nat)))) [17]).set 17 (some x)) (i := 2) rfl ((t1.ex e05).ex e6))
      exact ev_call (ea_cons (ev_var rfl) (ea_cons (ev_var rfl) (ea_cons elc (ea_cons (ev_var rfl) ea_nil)))) fun H7 e7 Q' q E' => ⟨x, th, M.ns, M.nsl, rfl, tx.ex e7, g1, by omega, g4', fun H8 e8 => q H8 e8⟩
    have e06 := e05.trans e6
    refine q_forLD (K := K) (ds := [.tuple [.str "pages", .int 4, .int 1, .int 64], .tuple [.str "batch", .int (M.batch : Nat), .int 1, .int 8], .tuple [.str "spare", .int 0, .int 0, .int 8], .tuple [.str "slots", .int (M.nsl : Nat), .int 1, .int 8], .tuple [.str "stops", .int 0, .int 0, .int 6]])
      (eld_lst (el_cons (ed_tup (el_cons (ed_str ev_c) (el_cons (ed_int (ev_var rfl)) (el_cons (ed_int ev_c) (el_cons (ed_int ev_c) el_nil)))) ble) (el_cons (ed_tup (el_cons (ed_str ev_c) (el_cons (ed_int (ev_var rfl)) (el_cons (ed_int ev_c) (el_cons (ed_int ev_c) el_nil)))) ble) (el_cons (ed_tup (el_cons (ed_str ev_c) (el_cons (ed_int (ev_var rfl)) (el_cons (ed_int ev_c) (el_cons (ed_int ev_c) el_nil)))) ble) (el_cons (ed_tup (el_cons (ed_str ev_c) (el_cons (ed_int (ev_var rfl)) (el_cons (ed_int ev_c) (el_cons (ed_int ev_c) el_nil)))) ble) (el_cons (ed_tup (el_cons (ed_str ev_c) (el_cons (ed_int (ev_var rfl)) (el_cons (ed_int ev_c) (el_cons (ed_int ev_c) el_nil)))) ble) el_nil))))) ble)
      (fun _ σ' => σ'.length = 20 ∧ σ'[0]? = some (some (.ref a)) ∧ σ'[1]? = some (some (.int (M.ns : Nat))) ∧ σ'[2]? = some (some v1) ∧ σ'[3]? = some (some v2) ∧ σ'[4]? = some (some (.int 4)) ∧ σ'[5]? = some (some (.int (M.batch : Nat))) ∧ σ'[6]? = some (some (.int 0)) ∧ σ'[7]? = some (some (.int (M.nsl : Nat))) ∧ σ'[8]? = some (some (.int 0)) ∧ σ'[9]? = some (some .non)) ⟨rfl, rfl, rfl, rfl, rfl, rfl, rfl, rfl, rfl, rfl, rfl⟩ (fun i x d σ' H7 e7 hd tx q N hN => ?_) fun σ' H7 q e7 => ?_
    · obtain ⟨wd, n, lo, hi, rfl, hlo, hhi⟩ : ∃ (wd : Str) (n lo hi : Int), d = .tuple [.str wd, .int n, .int lo, .int hi] ∧ lo ≤ n ∧ n ≤ hi := by
        match i with
        | 0 => cases hd; exact ⟨_, _, _, _, rfl, by decide, by decide⟩
        | 1 => cases hd; exact ⟨_, _, _, _, rfl, by omega, by omega⟩
        | 2 => cases hd; exact ⟨_, _, _, _, rfl, by decide, by decide⟩
        | 3 => cases hd; exact ⟨_, _, _, _, rfl, by omega, by omega⟩
        | 4 => cases hd; exact ⟨_, _, _, _, rfl, by decide, by decide⟩
        | i + 5 => cases hd
      obtain ⟨a2, xs2, rfl, hs2, ts2⟩ := tx.tup_inv
      obtain ⟨y1, r1, rfl, u1, s1⟩ := ts2.cons_inv
      obtain ⟨y2, r2, rfl, u2, s2⟩ := s1.cons_inv
      obtain ⟨y3, r3, rfl, u3, s3⟩ := s2.cons_inv
      obtain ⟨y4, r4, rfl, u4, s4⟩ := s3.cons_inv
      obtain rfl := TdL.nil_iff.mp s4
      obtain rfl := Td.int_iff.mp u2
      obtain rfl := Td.int_iff.mp u3
      obtain rfl := Td.int_iff.mp u4
      refine ⟨a2, _, rfl, hs2, rfl, g4 ?_⟩
      obtain ⟨q0, q1, q2, q3, q4, q5, q6, q7, q8, q9, q10⟩ := q
      have kp : ∀ {j : Nat} {o : Option (Option V)}, σ'[j]? = o → j < 13 → ((((σ'.set 13 (some y1)).set 14 (some (.int n))).set 15 (some (.int lo))).set 16 (some (.int hi)))[j]? = o := fun {j o} h hj => by rw [List.getElem?_set_ne (by omega), List.getElem?_set_ne (by omega), List.getElem?_set_ne (by omega), List.getElem?_set_ne (by omega)]; exact h
      have b14 : ((((σ'.set 13 (some y1)).set 14 (some (.int n))).set 15 (some (.int lo))).set 16 (some (.int hi)))[14]? = some (some (.int n)) := by rw [List.getElem?_set_ne (by decide), List.getElem?_set_ne (by decide), List.getElem?_set_self (by rw [List.length_set]; omega)]
      have b15 : ((((σ'.set 13 (some y1)).set 14 (some (.int n))).set 15 (some (.int lo))).set 16 (some (.int hi)))[15]? = some (some (.int lo)) := by rw [List.getElem?_set_ne (by decide), List.getElem?_set_self (by rw [List.length_set, List.length_set]; omega)]
      have b16 : ((((σ'.set 13 (some y1)).set 14 (some (.int n))).set 15 (some (.int lo))).set 16 (some (.int hi)))[16]? = some (some (.int hi)) := List.getElem?_set_self (by rw [List.length_set, List.length_set, List.length_set]; omega)
      refine s_when (b := false) (et_is (et_not (et_B (ev_between (ev_var b14) (ev_var b15) (ev_var b16) hlo hhi))) rfl) (fun h => nomatch h) fun _ H8 e8 => ?_
      exact hN _ _ ⟨by rw [List.length_set, List.length_set, List.length_set, List.length_set]; exact q0, kp q1 (by decide), kp q2 (by decide), kp q3 (by decide), kp q4 (by decide), kp q5 (by decide), kp q6 (by decide), kp q7 (by decide), kp q8 (by decide), kp q9 (by decide), kp q10 (by decide)⟩ e8
    · obtain ⟨q0, q1, q2, q3, q4, q5, q6, q7, q8, q9, q10⟩ := q
      have e07 := e06.trans e7
      refine q_when (b := false) (et_is (et_and (a := false) (b := false) (et_test (ev_is (ev_notNon (ev_var q10)) rfl)) (fun h => nomatch h)) rfl) (fun h => nomatch h) fun _ H8 e8 => ?_
      have e08 := e07.trans e8
      refine q_asgD (d := .tuple (M.thr.map eTh)) (ed_tupN (eld_lcTg (es := M.thr.map eTh) (ds := M.thr.map eTh) (ed_var q4 (t2.ex e08)) (by rw [List.length_map]; omega) rfl fun i x e d H9 e9 he tx hd Q' q => ?_)) fun v12 H9 e9 t9 => ?_
      · rw [he] at hd
        cases hd
        rw [List.getElem?_map] at he
        obtain ⟨th, hthi, rfl⟩ := Option.map_eq_some_iff.mp he
        obtain ⟨a2, xs2, rfl, hs2, ts2⟩ := tx.tup_inv
        obtain ⟨y1, r1, rfl, u1, s1⟩ := ts2.cons_inv
        obtain ⟨y2, r2, rfl, u2, s2⟩ := s1.cons_inv
        obtain rfl := TdL.nil_iff.mp s2
        have hwl : (wipe σ' [18, 19]).length = 20 := by rw [L2.wipe_length]; exact q0
        refine ⟨a2, _, rfl, hs2, rfl, g2 (q _ ?_ (ed_tup (el_cons (ed_var (st_1 hwl (by decide) (by decide)) u1) (el_cons (ed_tupT (ed_var (st_2 hwl (by decide)) u2)) el_nil)) ble))⟩
        show (((((σ'.set 19 none).set 18 none).set 18 (some y1)).set 19 (some y2)).set 19 none).set 18 none = (σ'.set 19 none).set 18 none
        rw [List.set_set, List.set_set, List.set_comm _ _ (by decide : (18 : Nat) ≠ 19), List.set_set, List.set_set]
      · have e09 := e08.trans e9
        have k12 : ∀ {j : Nat} {o : Option (Option V)}, σ'[j]? = o → j ≠ 12 → (σ'.set 12 (some v12))[j]? = o := fun {j o} h hj => by rw [List.getElem?_set_ne (Ne.symm hj)]; exact h
        have c12 : (σ'.set 12 (some v12))[12]? = some (some v12) := List.getElem?_set_self (by omega)
        have eset : EvD K _ (σ'.set 12 (some v12)) H9 (eMC M) := ed_tup (el_cons (ed_int (ev_var (k12 q2 (by decide)))) (el_cons (ed_tupT (ed_var (k12 q3 (by decide)) (t1.ex e09))) (el_cons (ed_var c12 t9) (el_cons (ed_int (ev_var (k12 q5 (by decide)))) (el_cons (ed_int (ev_var (k12 q6 (by decide)))) (el_cons (ed_int (ev_var (k12 q7 (by decide)))) (el_cons (ed_int (ev_var (k12 q8 (by decide)))) (el_cons (ed_int (ev_var (k12 q9 (by decide)))) (el_cons (EvD.of (ev_var (k12 q10 (by decide))) .non) el_nil))))))))) ble
        refine s_fldE (eset H9 (Ex.refl _) _ fun v H10 e10 t10 => (ev_var (k12 q1 (by decide))) H10 (Ex.refl _) _ fun H11 e11 => ?_)
        have e0b := (e09.trans e10).trans e11
        have a11 := e0b _ _ ha
        obtain ⟨ap, xp, rfl, hsp, tsp⟩ := t10.tup_inv
        refine ⟨a, _, dx, _, rfl, a11, T.cls_Machine, T.noat_Machine_settings, by show 0 < 1000; decide, k _ (fun y o hy hne => ?_) ⟨dx, ap, upd_same, ?_⟩⟩
        · rw [upd_ne hne]
          exact e0b _ _ hy
        · exact (Td.tup hsp tsp : Td K H10 (.ref ap) (eMC M)).ex e11 |>.keep (tk_upd a11 trivial)

end
end Rp
set_option Elab.async false
set_option linter.all false
set_option maxRecDepth 100000
set_option maxHeartbeats 4000000
set_option autoImplicit false
namespace Rp
open PySem PySem.Spec PyProof.Rows L2 Mx Evl Hf
section
variable {P : Program} {w : World} {K : Frg} {mg : Str → Option Value} {base : Heap}
theorem ok_law_machine (T : Txt K mg w) (F : FnD K d_law_machine) (G_Machine_init : OkK P w K mg base 6 (He.ma K (He.ga K "Machine") "__init__") ["self", "sockets", "classes", "threads", "pages", "batch", "spare", "slots", "stops", "fault"] 4 ["pages", "batch", "spare", "slots", "stops", "fault"] (spMInit K)) : Ok P w K mg base 8 (He.ga K "_law_machine") ["_law_m", "_law_wrong"] (spMachL K) := by
  have sc : FnScope ["_law_m", "_law_wrong"] ["_law_m", "_law_wrong"] (defScope s_law_machine) := ⟨rfl, rfl, rfl, by decide +kernel, rfl, by decide +kernel, by decide +kernel⟩
  let nm : List Str := ["_law_m", "_law_wrong"]
  refine ok_of F rfl rfl sc (fun _ _ _ _ _ _ us hl => match us, hl with | [_, _], _ => rfl) (fun vs H Q E h => ?_) (fun cdv A outer s H vs Q E hr h => ?_)
  · obtain ⟨v, M, rfl, _⟩ := h
    rfl
  · obtain ⟨v, M, rfl, t, ok, k⟩ := h
    refine ⟨_, (pss_one (ps_ret (pe_makeOK T.mkr_Machine G_Machine_init (hr.mono (by decide)) (by rfl) T.glo_Machine (pa_cons (pe_ix ix_tup (pv 0) pe_int (fun _ _ => rfl)) (pa_cons (pe_ix ix_tup (pv 0) pe_int (fun _ _ => rfl)) (pa_cons (pe_ix ix_tup (pv 0) pe_int (fun _ _ => rfl)) pa_nil))) (pk_cons (pe_ix ix_tup (pv 0) pe_int (fun _ _ => rfl)) (pk_cons (pe_ix ix_tup (pv 0) pe_int (fun _ _ => rfl)) (pk_cons (pe_ix ix_tup (pv 0) pe_int (fun _ _ => rfl)) (pk_cons (pe_ix ix_tup (pv 0) pe_int (fun _ _ => rfl)) (pk_cons (pe_ix ix_tup (pv 0) pe_int (fun _ _ => rfl)) (pk_cons (pv 1) pk_nil))))))))), ?_⟩
    have ev : ∀ {H1 : Hp}, Ex H H1 → EvD K (tVar 0) (L2.start ["_law_m", "_law_wrong"] [v, .non]) H1 (.tuple (dM M)) := fun e => ed_var rfl (t.ex e)
    have ex : ∀ (i : Nat) (d : PyData) {H1 : Hp}, Ex H H1 → (dM M)[i]? = some d → EvD K (tOp (rIxT K) (tVar 0) (tC (.int (i : Nat)))) (L2.start ["_law_m", "_law_wrong"] [v, .non]) H1 d := fun i d H1 e hd => ed_ixT (j := i) (ev e) ev_c (ixN_of (List.getElem?_eq_some_iff.mp hd).1) hd
    refine s_retE (?_ : tMakeK _ _ _ _ _ _ _ _ _ _ _)
    refine (el_cons (ex 0 (eN M.ns) (Ex.refl H) rfl) (el_cons (ex 1 (.tuple [eN M.size]) (Ex.refl H) rfl) (el_cons (ex 2 (.tuple (M.thr.map eTh)) (Ex.refl H) rfl) el_nil))) H (Ex.refl H) _ fun vs H1 e1 tv => ?_
    refine (el_cons (ex 3 (eN 4) e1 rfl) (el_cons (ex 4 (eN M.batch) e1 rfl) (el_cons (ex 5 (eN 0) e1 rfl) (el_cons (ex 6 (eN M.nsl) e1 rfl) (el_cons (ex 7 (eN 0) e1 rfl) (el_cons (EvD.of (ev_var (v := .non) rfl) .non) el_nil)))))) H1 (Ex.refl H1) _ fun zs H2 e2 tz => ?_
    obtain ⟨a1, r1, rfl, u1, s1⟩ := tv.cons_inv
    obtain ⟨a2, r2, rfl, u2, s2⟩ := s1.cons_inv
    obtain ⟨a3, r3, rfl, u3, s3⟩ := s2.cons_inv
    obtain rfl := TdL.nil_iff.mp s3
    obtain ⟨b1, r1, rfl, w1, x1⟩ := tz.cons_inv
    obtain ⟨b2, r2, rfl, w2, x2⟩ := x1.cons_inv
    obtain ⟨b3, r3, rfl, w3, x3⟩ := x2.cons_inv
    obtain ⟨b4, r4, rfl, w4, x4⟩ := x3.cons_inv
    obtain ⟨b5, r5, rfl, w5, x5⟩ := x4.cons_inv
    obtain ⟨b6, r6, rfl, w6, x6⟩ := x5.cons_inv
    obtain rfl := TdL.nil_iff.mp x6
    obtain rfl := Td.int_iff.mp u1
    obtain rfl := Td.int_iff.mp w1
    obtain rfl := Td.int_iff.mp w2
    obtain rfl := Td.int_iff.mp w3
    obtain rfl := Td.int_iff.mp w4
    obtain rfl := Td.int_iff.mp w5
    obtain rfl := Td.non_iff.mp w6
    refine ⟨rfl, rfl, fun x dx hx hdx hne => ?_⟩
    have em : Ex H2 (upd (upd H2 dx (.own x)) x (.ins (He.ga K "Machine") dx [])) := made_ex hx hdx fun _ _ h _ => h
    exact ⟨x, dx, a2, a3, M, rfl, upd_same, (u2.ex e2).ex em, (u3.ex e2).ex em, ok, fun H' hf hm => ⟨rfl, k x H' ((e1.trans e2).trans (made_ex hx hdx hf)) hm⟩⟩

end
end Rp
set_option Elab.async false
set_option linter.all false
set_option maxRecDepth 100000
set_option maxHeartbeats 4000000
set_option autoImplicit false
namespace Rp
open PySem PySem.Spec PyProof.Rows L2 Mx Evl Hf
section
variable {P : Program} {w : World} {K : Frg} {mg : Str → Option Value} {base : Heap}
theorem ok_State_threads (T : Txt K mg w) (F : FnD K d_State_threads)  : Ok P w K mg base 1 (pg K "State" "threads") ["self"] (spPart K 2) := by
  have sc : FnScope ["self"] ["self"] (defScope s_State_threads) := ⟨rfl, rfl, rfl, by decide +kernel, rfl, by decide +kernel, by decide +kernel⟩
  let nm : List Str := ["self"]
  refine ok_of F rfl rfl sc (fun _ _ _ _ _ _ us hl => match us, hl with | [_], _ => rfl) (fun vs H Q E h => ?_) (fun cdv A outer s H vs Q E hr h => ?_)
  · obtain ⟨m, dx, p, xs, v, rfl, _⟩ := h
    rfl
  · obtain ⟨m, dx, p, xs, v, rfl, hm, hs, hv, q⟩ := h
    refine ⟨_, (pss_one (ps_ret (pe_ix ix_tup (pe_fld (pv 0) rfl) pe_int (fun _ _ => rfl)))), ?_⟩
    exact ⟨_, rfl, m, _, dx, _, _, rfl, hm, T.cls_State, T.noat_State_parts, lk_State_parts, p, xs, (2 : Nat), v, rfl, rfl, hs, atI_nat hv, q⟩

end
end Rp
set_option Elab.async false
set_option linter.all false
set_option maxRecDepth 100000
set_option maxHeartbeats 4000000
set_option autoImplicit false
namespace Rp
open PySem PySem.Spec PyProof.Rows L2 Mx Evl Hf
section
variable {P : Program} {w : World} {K : Frg} {mg : Str → Option Value} {base : Heap}
def fBat : PyData → Bool
  | .tuple ds => !ds.isEmpty
  | _ => false
theorem sum_take {f : Wk → Nat} (l : List Wk) (i : Nat) (w : Wk) (h : l[i]? = some w) : ((l.take (i + 1)).map f).sum = ((l.take i).map f).sum + f w := by
  rw [List.take_add_one, h, List.map_append, List.sum_append]
  show _ + [f w].sum = _
  rw [List.sum_cons, List.sum_nil, Nat.add_zero]
theorem cnt_take {f : List Blk → Bool} (l : List (List Blk)) (i : Nat) (b : List Blk) (h : l[i]? = some b) : (l.take (i + 1)).countP f = (l.take i).countP f + (if f b = true then 1 else 0) := by
  rw [List.take_add_one, h, List.countP_append]
  show _ + [b].countP f = _
  rw [List.countP_cons, List.countP_nil, Nat.zero_add]
theorem ok_law_open (T : Txt K mg w) (F : FnD K d_law_open) (G_State_threads : Ok P w K mg base 1 (pg K "State" "threads") ["self"] (spPart K 2)) : Ok P w K mg base 3 (He.ga K "_law_open") ["_law_state"] (spOpenL K) := by
  have sc : FnScope ["_law_state", "_law_found", "_law_row", "_law_by_class", "_law_some"] ["_law_state"] (defScope s_law_open) := ⟨rfl, rfl, rfl, by decide +kernel, rfl, by decide +kernel, by decide +kernel⟩
  let nm : List Str := ["_law_state", "_law_found", "_law_row", "_law_by_class", "_law_some"]
  refine ok_of F rfl rfl sc (fun _ _ _ _ _ _ us hl => match us, hl with | [_], _ => rfl) (fun vs H Q E h => ?_) (fun cdv A outer s H vs Q E hr h => ?_)
  · obtain ⟨st, D, rfl, _⟩ := h
    rfl
  · obtain ⟨st, D, rfl, hst, hwl, hb, k⟩ := h
    refine ⟨_, (pss_cons (ps_set (i := 1) sc.nd rfl (by first | exact Or.inl rfl | exact Or.inr rfl) pe_int) (pss_cons (ps_for PassesOwn.never rfl (pi_tup (pe_propO (pv 0) T.cls_State T.prop_State_threads G_State_threads (hr.mono (by decide)) rfl)) (pg_name (i := 2) sc.nd rfl (by first | exact Or.inl rfl | exact Or.inr rfl)) (pss_one (ps_for PassesOwn.never rfl (pi_tup (pe_ix ix_tup (pv 2) pe_int (fun _ _ => rfl))) (pg_name (i := 3) sc.nd rfl (by first | exact Or.inl rfl | exact Or.inr rfl)) (pss_one (ps_set (i := 1) sc.nd rfl (by first | exact Or.inl rfl | exact Or.inr rfl) (pe_op op_add (pv 1) (pe_callB Ru.cr_len (by rfl) T.free_len PySem.boot_len (pa_cons (pe_lc (own := [("_law_some", 4)]) (g := (gName 4)) (by rfl) sc.nd (pi_tup (pv 3)) (blkOk_by (own := [("_law_some", 4)]) (N := nm) (sc := defScope s_law_open) (by decide +kernel)) (fun _ _ _ _ _ => (pg_name (i := 4) sc.nd rfl (by first | exact Or.inl rfl | exact Or.inr rfl))) (fun _ _ _ _ _ => pts_one (pt_cmpR (show OpR _ _ (rNeD K) from (op_neD hr.units)) (pv 4) (pe_tup pa_nil) (nomark _))) (fun _ _ _ _ _ => (pv 4))) pa_nil)))))))) (pss_one (ps_ret (pv 1))))), ?_⟩
    let f0 : Wk → Nat := fun w => w.bats.countP fun l => !l.isEmpty
    refine q_asg (v := .int ((0 : Nat) : Int)) ev_c fun H1 e1 => ?_
    refine q_forTD (ds := D.wks.map eWk) (ed_part (i := 2) (hst.ex e1) (ev_var rfl) rfl) (fun Ha i σ' H' => Ex Ha H' ∧ σ'.length = 5 ∧ σ'[0]? = some (some (.ref st)) ∧ σ'[1]? = some (some (.int (((D.wks.take i).map f0).sum : Nat)))) (fun H2 e2 => ⟨Ex.refl _, rfl, rfl, rfl⟩) (fun _ _ _ _ _ q => Tk.of_ex q.1) (fun Ha i x d σ' H' eH hd tx q => ?_) fun Ha σ' H' eH q => ?_
    · obtain ⟨q0, q1, q2, q3⟩ := q
      rw [List.getElem?_map] at hd
      obtain ⟨wk, hwk, rfl⟩ := Option.map_eq_some_iff.mp hd
      obtain ⟨hbl, hbb⟩ := hb wk (List.mem_of_getElem? hwk)
      have v0 : (σ'.set 2 (some x))[0]? = some (some (.ref st)) := by rw [List.getElem?_set_ne (by decide)]; exact q2
      have v1 : (σ'.set 2 (some x))[1]? = some (some (.int (((D.wks.take i).map f0).sum : Nat))) := by rw [List.getElem?_set_ne (by decide)]; exact q3
      have v2 : (σ'.set 2 (some x))[2]? = some (some x) := List.getElem?_set_self (by omega)
      have vl : (σ'.set 2 (some x)).length = 5 := by rw [List.length_set]; exact q1
      show tFor _ _ _ _ (σ'.set 2 (some x)) H'
      generalize (σ'.set 2 (some x)) = σ1 at v0 v1 v2 vl ⊢
      refine s_forTD (E := ⟨_, _, _, _⟩) (ds := wk.bats.map fun l => .tuple [eBs l]) (ed_ixT (j := 5) (d := .tuple (wk.bats.map fun l => .tuple [eBs l])) (ed_var v2 tx) ev_c rfl rfl) (fun Hb j σ2 H2 => Ex Hb H2 ∧ σ2.length = 5 ∧ σ2[0]? = some (some (.ref st)) ∧ σ2[1]? = some (some (.int (((D.wks.take i).map f0).sum + (wk.bats.take j).countP (fun l => !l.isEmpty) : Nat)))) (fun H2 e2 => ⟨Ex.refl _, vl, v0, v1⟩) (fun _ _ _ _ _ q => Tk.of_ex q.1) (fun Hb j y d2 σ2 H2 eH2 hd2 ty q => ?_) fun Hb σ2 H2 eH2 q => ?_
      · obtain ⟨r0, r1, r2, r3⟩ := q
        rw [List.getElem?_map] at hd2
        obtain ⟨b, hbj, rfl⟩ := Option.map_eq_some_iff.mp hd2
        have u1 : (σ2.set 3 (some y))[1]? = some (some (.int (((D.wks.take i).map f0).sum + (wk.bats.take j).countP (fun l => !l.isEmpty) : Nat))) := by rw [List.getElem?_set_ne (by decide)]; exact r3
        have u0 : (σ2.set 3 (some y))[0]? = some (some (.ref st)) := by rw [List.getElem?_set_ne (by decide)]; exact r2
        have u3 : (σ2.set 3 (some y))[3]? = some (some y) := List.getElem?_set_self (by omega)
        have ul : (σ2.set 3 (some y)).length = 5 := by rw [List.length_set]; exact r1
        show tAsg _ _ _ (σ2.set 3 (some y)) H2
        generalize (σ2.set 3 (some y)) = σ3 at u0 u1 u3 ul ⊢
        have ecn := ev_cntT (K := K) (σ := σ3) (H := H2) (tt := tTest (tOp (rNeD K) (tVar 4) (tTup tNil))) (j := 4) (vs := [4]) fBat (ed_var u3 ty) wipe1 (fun x => List.getElem?_set_self (by show 4 < (σ3.set 4 none).length; rw [List.length_set]; omega)) (Nat.le_of_ble_eq_true rfl) fun i2 x2 d3 H3 e3 hd3 tx3 => by
          cases i2 with
          | succ i2 => cases hd3
          | zero =>
            cases hd3
            refine et_test (ev_is (ev_neD (ed_var (List.getElem?_set_self (by show 4 < (σ3.set 4 none).length; rw [List.length_set]; omega)) tx3) (ed_tup el_nil ble) (sm_bs b).shp (sm_tup (sml_nil 2)).shp) ?_)
            show V.bl (!PyData.eqv (.tuple (b.map eB)) (.tuple [])) = _
            rw [eqv_nilT] <;> rfl
        refine s_asg (v := .int ((((D.wks.take i).map f0).sum + (wk.bats.take (j + 1)).countP (fun l => !l.isEmpty) : Nat) : Int)) (ev_is (ev_op (ev_var u1) ecn rv_I0) ?_) fun H3 e3 => ?_
        · congr 1
          rw [cnt_take wk.bats j b hbj]
          have : ([eBs b] : List PyData).countP fBat = if (!b.isEmpty) = true then 1 else 0 := by
            rw [List.countP_cons, List.countP_nil, Nat.zero_add]
            show (if (!(b.map eB).isEmpty) = true then 1 else 0) = _
            rw [show (b.map eB).isEmpty = b.isEmpty by cases b <;> rfl]
          rw [this]
          omega
        · exact ⟨r0.trans e3, by rw [List.length_set]; exact ul, by rw [List.getElem?_set_ne (by decide)]; exact u0, List.getElem?_set_self (by omega)⟩
      · obtain ⟨r0, r1, r2, r3⟩ := q
        rw [List.length_map, List.take_of_length_le (Nat.le_refl _)] at r3
        refine ⟨(q0.trans eH2).trans r0, r1, r2, ?_⟩
        rw [sum_take D.wks i wk hwk]
        exact r3
    · obtain ⟨q0, q1, q2, q3⟩ := q
      rw [List.length_map, List.take_of_length_le (Nat.le_refl _)] at q3
      refine Evl.s_ret (ev_var q3) fun H2 e2 => k H2 ((e1.trans eH).trans (q0.trans e2))

end
end Rp
set_option Elab.async false
set_option linter.all false
set_option maxRecDepth 100000
set_option maxHeartbeats 4000000
set_option autoImplicit false
namespace Rp
open PySem PySem.Spec PyProof.Rows L2 Mx Evl Hf
section
variable {P : Program} {w : World} {K : Frg} {mg : Str → Option Value} {base : Heap}
theorem ok_law_take (T : Txt K mg w) (F : FnD K d_law_take)  : Ok P w K mg base 1 (He.ga K "_law_take") ["_law_pool_here", "_law_many"] (spTakeL K) := by
  have sc : FnScope ["_law_pool_here", "_law_many", "_law_found"] ["_law_pool_here", "_law_many"] (defScope s_law_take) := ⟨rfl, rfl, rfl, by decide +kernel, rfl, by decide +kernel, by decide +kernel⟩
  let nm : List Str := ["_law_pool_here", "_law_many", "_law_found"]
  refine ok_of F rfl rfl sc (fun _ _ _ _ _ _ us hl => match us, hl with | [_, _], _ => rfl) (fun vs H Q E h => ?_) (fun cdv A outer s H vs Q E hr h => ?_)
  · obtain ⟨p, n, rfl, _⟩ := h
    rfl
  · obtain ⟨p, n, rfl, ⟨a, b, hp, ha, hb, hb2⟩, hn, hn2, k⟩ := h
    refine ⟨_, (pss_cons (ps_if (pt_cmpR op_gt (pe_ix ix_list (pv 0) pe_int (fun _ _ => rfl)) pe_int (nomark _)) (pss_cons (ps_set (i := 2) sc.nd rfl (by first | exact Or.inl rfl | exact Or.inr rfl) (pe_op op_mod (pe_callTy call_int1 (by rfl) T.free_int (by decide +kernel) (pa_cons (pe_ix ix_list (pv 0) pe_int (fun _ _ => rfl)) pa_nil)) (pv 1))) (pss_cons (ps_asg (pe_op op_fdiv (pe_callTy call_int1 (by rfl) T.free_int (by decide +kernel) (pa_cons (pe_ix ix_list (pv 0) pe_int (fun _ _ => rfl)) pa_nil)) (pv 1)) (pg_sub (pv 0) pe_int set_list)) (pss_one (ps_ret (pv 2))))) pss_nil) (pss_cons (ps_asg (pe_op op_mod (pe_callTy call_int1 (by rfl) T.free_int (by decide +kernel) (pa_cons (pe_op op_add (pe_op op_mul (pe_ix ix_list (pv 0) pe_int (fun _ _ => rfl)) pe_int) pe_int) pa_nil)) pe_int) (pg_sub (pv 0) pe_int set_list)) (pss_one (ps_ret (pe_op op_mod (pe_op op_fdiv (pe_op op_mod (pe_callTy call_int1 (by rfl) T.free_int (by decide +kernel) (pa_cons (pe_op op_mul (pe_ix ix_list (pv 0) pe_int (fun _ _ => rfl)) (pe_ix ix_list (pv 0) pe_int (fun _ _ => rfl))) pa_nil)) pe_int) pe_int) (pv 1)))))), ?_⟩
    have ea0 : ∀ (H1 : Hp) (i j : Int) (σ : L2.St), σ[0]? = some (some (.ref p)) → H1 p = some (.lst [.int i, .int j]) → Ev (tOp (rIxL K) (tVar 0) (tC (V.int 0))) σ H1 (.int i) ∧ Ev (tOp (rIxL K) (tVar 0) (tC (V.int 1))) σ H1 (.int j) := fun H1 i j σ h0 h1 => ⟨ev_ixL (j := 0) (ev_var h0) (SqL.of h1) ev_c rfl, ev_ixL (j := 1) (ev_var h0) (SqL.of h1) ev_c rfl⟩
    have hpos : (0 : Int) < n := by omega
    refine q_when (b := decide (0 < a)) (et_test (ev_is (ev_op (ea0 H a b _ rfl hp).1 ev_c rv_I0) rfl)) (fun hb3 H1 e1 => ?_) fun hb3 H1 e1 => ?_
    · have hp1 := e1 _ _ hp
      refine q_asg (v := .int (a % (n : Int))) (ev_op (ev_toInt (ea0 H1 a b _ rfl hp1).1) (ev_var rfl) (rv_I hpos)) fun H2 e2 => ?_
      have hp2 := e2 _ _ hp1
      refine Evl.q_setL (j := 0) (v := .int (a / (n : Int))) hp2 (ev_op (ev_toInt (ea0 H2 a b _ rfl hp2).1) (ev_var rfl) (rv_I ⟨hpos, by omega⟩)) (ev_var rfl) ev_c (by show 0 < 2; decide) fun H3 e3 => ?_
      have hp3 := e3 _ _ hp2
      refine Evl.s_ret (ev_var rfl) fun H4 e4 => ?_
      have o := (((Only.of_ex (a := p) (e1.trans e2)).trans (.of_ex e3)).upd (u := .lst [.int (a / (n : Int)), .int b]) hp3 trivial).trans (.of_ex e4)
      have hr := Int.emod_nonneg a (b := (n : Int)) (by omega)
      have hr2 := Int.emod_lt_of_pos a hpos
      have hd : 0 ≤ a / (n : Int) := Int.ediv_nonneg ha (by omega)
      have := k (a % (n : Int)).toNat H4 (by omega) o ⟨_, _, e4 _ _ upd_same, hd, hb, hb2⟩
      rw [Int.toNat_of_nonneg hr] at this
      exact this
    · have hp1 := e1 _ _ hp
      refine Evl.q_setL (j := 1) (v := .int ((b * 48271 + 11) % 2147483647)) hp1 (ev_op (ev_toInt (ev_op (ev_op (ea0 H1 a b _ rfl hp1).2 ev_c (rv_I (Or.inl ⟨by omega, by omega⟩))) ev_c rv_I0)) ev_c (rv_I (by decide))) (ev_var rfl) ev_c (by show 1 < 2; decide) fun H2 e2 => ?_
      have hp2 := e2 _ _ hp1
      have hb5 : 0 ≤ (b * 48271 + 11) % 2147483647 := Int.emod_nonneg _ (by decide)
      have hb6 : (b * 48271 + 11) % 2147483647 < 2147483647 := Int.emod_lt_of_pos _ (by decide)
      generalize (b * 48271 + 11) % 2147483647 = b2 at hb5 hb6 ⊢
      have hpu : upd H2 p (.lst ([V.int a, V.int b].set 1 (.int b2))) p = some (.lst [.int a, .int b2]) := upd_same
      have he := (ea0 _ a b2 (L2.start ["_law_pool_here", "_law_many", "_law_found"] [.ref p, .int (n : Nat)]) rfl hpu).2
      refine Evl.s_ret (v := .int (b2 * b2 % 2147483629 / 64 % (n : Int))) (ev_op (ev_op (ev_op (ev_toInt (ev_op he he (rv_I (Or.inl ⟨by omega, by omega⟩)))) ev_c (rv_I (by decide))) ev_c (rv_I ⟨by decide, by decide⟩)) (ev_var rfl) (rv_I hpos)) fun H4 e4 => ?_
      have o := ((Only.of_ex (a := p) (e1.trans e2)).upd (u := .lst [.int a, .int b2]) hp2 trivial).trans (.of_ex e4)
      have hr := Int.emod_nonneg (b2 * b2 % 2147483629 / 64) (b := (n : Int)) (by omega)
      have hr2 := Int.emod_lt_of_pos (b2 * b2 % 2147483629 / 64) hpos
      have := k (b2 * b2 % 2147483629 / 64 % (n : Int)).toNat H4 (by omega) o ⟨_, _, e4 _ _ hpu, ha, hb5, hb6⟩
      rw [Int.toNat_of_nonneg hr] at this
      exact this

end
end Rp
set_option Elab.async false
set_option linter.all false
set_option maxRecDepth 100000
set_option maxHeartbeats 4000000
set_option autoImplicit false
namespace Rp
open PySem PySem.Spec PyProof.Rows L2 Mx Evl Hf
section
variable {P : Program} {w : World} {K : Frg} {mg : Str → Option Value} {base : Heap}
theorem ok_law_pair (T : Txt K mg w) (F : FnD K d_law_pair) (G_law_take : Ok P w K mg base 1 (He.ga K "_law_take") ["_law_pool_here", "_law_many"] (spTakeL K)) : Ok P w K mg base 2 (He.ga K "_law_pair") ["_law_pool_here", "_law_sockets", "_law_kinds", "_law_cells", "_law_most"] (spPairL K) := by
  have sc : FnScope ["_law_pool_here", "_law_sockets", "_law_kinds", "_law_cells", "_law_most", "_law_some", "_law_first", "_law_second", "_law_kind", "_law_far", "_law_turn", "_law_cell"] ["_law_pool_here", "_law_sockets", "_law_kinds", "_law_cells", "_law_most"] (defScope s_law_pair) := ⟨rfl, rfl, rfl, by decide +kernel, rfl, by decide +kernel, by decide +kernel⟩
  let nm : List Str := ["_law_pool_here", "_law_sockets", "_law_kinds", "_law_cells", "_law_most", "_law_some", "_law_first", "_law_second", "_law_kind", "_law_far", "_law_turn", "_law_cell"]
  refine ok_of F rfl rfl sc (fun _ _ _ _ _ _ us hl => match us, hl with | [_, _, _, _, _], _ => rfl) (fun vs H Q E h => ?_) (fun cdv A outer s H vs Q E hr h => ?_)
  · obtain ⟨p, ns, cells, rfl, _⟩ := h
    rfl
  · obtain ⟨p, ns, cells, rfl, hP, hns, hc0, hc3, k⟩ := h
    refine ⟨_, (pss_cons (ps_setLc (i := 5) (own := [("_law_turn", 10)]) (g := (gName 10)) (by rfl) sc.nd rfl rfl (sw_true rfl rfl rfl (by decide +kernel)) (pi_range1 (by rfl) T.free_range (pa_cons (pe_op op_add pe_int (pe_callO G_law_take (hr.mono (by decide)) (by rfl) T.glo_law_take (pa_cons (pv 0) (pa_cons (pv 4) pa_nil)))) pa_nil)) (blkOk_by (own := [("_law_turn", 10)]) (N := nm) (sc := defScope s_law_pair) (by decide +kernel)) (fun _ _ _ _ _ => (pg_name (i := 10) sc.nd rfl (by first | exact Or.inl rfl | exact Or.inr rfl))) (fun _ _ _ _ _ => pts_nil) (fun _ _ _ _ _ => (pe_callO G_law_take (hr.mono (by decide)) (by rfl) T.glo_law_take (pa_cons (pv 0) (pa_cons (pv 3) pa_nil))))) (pss_cons (ps_asg (pe_tup (pa_cons (pe_callO G_law_take (hr.mono (by decide)) (by rfl) T.glo_law_take (pa_cons (pv 0) (pa_cons (pv 2) pa_nil))) (pa_cons (pe_op op_sub (pv 1) pe_int) pa_nil))) (pg_tup rfl (pgs_cons (pg_name (i := 8) sc.nd rfl (by first | exact Or.inl rfl | exact Or.inr rfl)) (pgs_cons (pg_name (i := 9) sc.nd rfl (by first | exact Or.inl rfl | exact Or.inr rfl)) pgs_nil)))) (pss_cons (ps_set (i := 6) sc.nd rfl (by first | exact Or.inl rfl | exact Or.inr rfl) (pe_callTy Ru.cr_tup (by rfl) T.free_tuple (by decide +kernel) (pa_cons (pe_lc (own := [("_law_cell", 11)]) (g := (gName 11)) (by rfl) sc.nd (pi_list (pv 5)) (blkOk_by (own := [("_law_cell", 11)]) (N := nm) (sc := defScope s_law_pair) (by decide +kernel)) (fun _ _ _ _ _ => (pg_name (i := 11) sc.nd rfl (by first | exact Or.inl rfl | exact Or.inr rfl))) (fun _ _ _ _ _ => pts_nil) (fun _ _ _ _ _ => (pe_tup (pa_cons pe_str (pa_cons (pv 8) (pa_cons (pv 11) pa_nil)))))) pa_nil))) (pss_cons (ps_set (i := 7) sc.nd rfl (by first | exact Or.inl rfl | exact Or.inr rfl) (pe_callTy Ru.cr_tup (by rfl) T.free_tuple (by decide +kernel) (pa_cons (pe_lc (own := [("_law_cell", 11)]) (g := (gName 11)) (by rfl) sc.nd (pi_list (pv 5)) (blkOk_by (own := [("_law_cell", 11)]) (N := nm) (sc := defScope s_law_pair) (by decide +kernel)) (fun _ _ _ _ _ => (pg_name (i := 11) sc.nd rfl (by first | exact Or.inl rfl | exact Or.inr rfl))) (fun _ _ _ _ _ => pts_nil) (fun _ _ _ _ _ => (pe_tup (pa_cons pe_str (pa_cons (pv 11) pa_nil))))) pa_nil))) (pss_cons (ps_if (pt_cmpR op_eq (pe_callO G_law_take (hr.mono (by decide)) (by rfl) T.glo_law_take (pa_cons (pv 0) (pa_cons pe_int pa_nil))) pe_int (nomark _)) (pss_one (ps_set (i := 7) sc.nd rfl (by first | exact Or.inl rfl | exact Or.inr rfl) (pe_op op_catA (pe_op op_catA (pe_tup (pa_cons (pe_tup (pa_cons pe_str (pa_cons (pe_ix ix_list (pv 5) pe_int (fun _ _ => rfl)) pa_nil))) pa_nil)) (pv 7)) (pe_tup (pa_cons (pe_tup (pa_cons pe_str pa_nil)) pa_nil))))) pss_nil) (pss_one (ps_ret (pe_lst (pa_cons (pe_tup (pa_cons pe_int (pa_cons (pv 6) pa_nil))) (pa_cons (pe_tup (pa_cons (pv 9) (pa_cons (pv 7) pa_nil))) pa_nil)))))))))), ?_⟩
    refine q_asgE (te_takes (p := p) (cells := cells) (most := 6) (ev_var rfl) (ev_var rfl) (by intro x H1; exact ev_var rfl) (by intro x H1; exact ev_var rfl) (by intro _; rfl) hP (by decide) (by decide) hc0 (by omega) fun q H1 cs hq o1 P1 hq1 n1 n2 n3 => ?_)
    dsimp only [gName]
    have hqp : q ≠ p := fun z => by
      obtain ⟨a, b, hp, _⟩ := hP
      rw [z, hp] at hq
      cases hq
    refine q_asgE (te_tup2' (e_take (p := p) (n := 1) (ev_var rfl) (ev_var rfl) P1 (by decide) (by decide) fun r H2 hr o2 P2 => ?_))
    obtain rfl : r = 0 := by omega
    refine (ev_op (z := .int ((ns : Int) - 1)) (ev_var rfl) ev_c rv_I0) H2 (Ex.refl _) _ fun H3 e3 => ⟨by show 2 ≤ sizeLine; decide, fun u hu => ⟨u, _, rfl, .inl (.inl upd_same), rfl, g2 ?_⟩⟩
    have e4 : Ex H3 (upd H3 u (.tup [.int ((0 : Nat) : Int), .int ((ns : Int) - 1)])) := Ex.new hu
    generalize upd H3 u (.tup [.int ((0 : Nat) : Int), .int ((ns : Int) - 1)]) = H4 at e4 ⊢
    have e24 := e3.trans e4
    have q4 := e24 _ _ (o2.fr _ _ hq1 hqp)
    have o4 := (o1.trans o2).trans (.of_ex e24)
    have P4 := P2.ex e24
    have tcs : ∀ {H' : Hp}, TdL K H' (cs.map fun (n : Nat) => V.int n) (cs.map eN) := tdl_nats cs
    have cat : ∀ (i : Nat) (x : V) (d : PyData) (f : Nat → Op), (cs.map fun (n : Nat) => V.int n)[i]? = some x → ((cs.map f).map eOp)[i]? = some d → ∃ c, x = .int (c : Nat) ∧ d = eOp (f c) := fun i x d f h1 h2 => by
      rw [List.getElem?_map] at h1
      obtain ⟨c, hc, rfl⟩ := Option.map_eq_some_iff.mp h1
      rw [List.getElem?_map, List.getElem?_map, hc] at h2
      cases h2
      exact ⟨c, rfl, rfl⟩
    refine q_asgD (d := .tuple ((cs.map Op.alloc).map eOp)) (ed_tupN (eld_lcL (ds := (cs.map Op.alloc).map eOp) (ev_var rfl) (SqL.of q4) (by intro _; rfl) (by rw [List.length_map]; omega) (by rw [List.length_map, List.length_map, List.length_map]) fun i x d H5 e5 hx hd => ?_)) fun v1 H5 e5 t1 => ?_
    · obtain ⟨c, rfl, rfl⟩ := cat i x d _ hx hd
      exact ed_tup (el_cons (ed_str ev_c) (el_cons (ed_int (ev_var rfl)) (el_cons (ed_int (ev_var rfl)) el_nil))) ble
    have q5 := e5 _ _ q4
    refine q_asgD (d := .tuple ((cs.map Op.free).map eOp)) (ed_tupN (eld_lcL (ds := (cs.map Op.free).map eOp) (ev_var rfl) (SqL.of q5) (by intro _; rfl) (by rw [List.length_map]; omega) (by rw [List.length_map, List.length_map, List.length_map]) fun i x d H6 e6 hx hd => ?_)) fun v2 H6 e6 t2 => ?_
    · obtain ⟨c, rfl, rfl⟩ := cat i x d _ hx hd
      exact ed_tup (el_cons (ed_str ev_c) (el_cons (ed_int (ev_var rfl)) el_nil)) ble
    have q6 := e6 _ _ q5
    have o6 := o4.trans (.of_ex (e5.trans e6))
    have P6 := P4.ex (e5.trans e6)
    have t16 := t1.ex e6
    let σ6 := (((((((L2.start ["_law_pool_here", "_law_sockets", "_law_kinds", "_law_cells", "_law_most", "_law_some", "_law_first", "_law_second", "_law_kind", "_law_far", "_law_turn", "_law_cell"] [.ref p, .int (ns : Nat), .int 1, .int (cells : Nat), .int 6]).set 5 (some (.ref q))).set 8 (some (.int ((0 : Nat) : Int)))).set 9 (some (.int ((ns : Int) - 1)))).set 6 (some v1)).set 7 (some v2)))
    have hfar : (ns : Int) - 1 = ((ns - 1 : Nat) : Int) := by omega
    have fin : ∀ (ad : Bool) (v : V) (σ' : L2.St) (H' : Hp), Only p H H' → PoolAt H' p → Td K H' v1 (.tuple ((cs.map Op.alloc).map eOp)) → Td K H' v (.tuple ((pairOps ad cs).map eOp)) → σ'[6]? = some (some v1) → σ'[7]? = some (some v) → σ'[9]? = some (some (.int ((ns : Int) - 1))) →
        tRet (tLst (tCons (tTup (tCons (tC (V.int 0)) (tCons (tVar 6) tNil))) (tCons (tTup (tCons (tVar 9) (tCons (tVar 7) tNil))) tNil))) { nx := fun x H' => Q V.non H', rt := Q } σ' H' := by
      intro ad v σ' H' o P' ta1 ta2 h6 h7 h9
      refine s_retE ((eld_lst (ds := [eTh (0, cs.map .alloc), eTh (ns - 1, pairOps ad cs)]) (el_cons (ed_tup (el_cons (ed_int ev_c) (el_cons (ed_var h6 ta1) el_nil)) ble) (el_cons (ed_tup (el_cons (by rw [← show PyData.int ((ns : Int) - 1) = eN (ns - 1) from congrArg PyData.int hfar]; exact ed_int (ev_var h9)) (el_cons (ed_var h7 ta2) el_nil)) ble) el_nil)) ble) H' (Ex.refl _) _ fun qq xs H2 hqq e2 h2 t2 => ?_)
      exact k qq H2 xs [(0, cs.map .alloc), (ns - 1, pairOps ad cs)] (o.none hqq) (o.trans (.of_ex e2)) (P'.ex e2) h2 t2 ⟨cs, ad, n1, n2, n3, rfl⟩
    refine q_ifE ?_
    show tCall (spTakeL K) [] E0 (tCons (tVar 0) (tCons (tC (V.int 3)) tNil)) _ H6 _
    refine e_take (p := p) (n := 3) (ev_var rfl) ev_c P6 (by decide) (by decide) fun r H7 hr o7 P7 => ?_
    have o67 := o6.trans o7
    have q7 := o7.fr _ _ q6 hqp
    refine ⟨rfl, _, rfl, ?_⟩
    dsimp only
    by_cases hr0 : r = 0
    · subst hr0
      rw [if_pos (show decide (V.int ((0 : Nat) : Int) = V.int 0) = true from rfl)]
      obtain ⟨c, l, hcl⟩ := List.exists_cons_of_ne_nil n1
      have e0 : Ev (tOp (rIxL K) (tVar 5) (tC (.int 0))) σ6 H7 (.int (c : Nat)) := ev_ixL (j := 0) (ev_var rfl) (SqL.of q7) ev_c (by rw [hcl] <;> rfl)
      have tf7 := t2.keep o7.tk
      have em : [eOp (.adopt c)] ++ (cs.map Op.free).map eOp ++ [eOp .drain] = (pairOps true cs).map eOp := by
        show _ = (Op.adopt (cs.headD 0) :: (cs.map Op.free ++ [.drain])).map eOp
        rw [List.map_cons, List.map_append, hcl] <;> rfl
      have ec : EvD K _ σ6 H7 (.tuple ([eOp (.adopt c)] ++ (cs.map Op.free).map eOp ++ [eOp .drain])) := ed_cat (ed_cat (ed_tup (el_cons (ed_tup (el_cons (ed_str ev_c) (el_cons (ed_int e0) el_nil)) ble) el_nil) ble) (ed_var (i := 7) rfl tf7) (by rw [List.length_map, List.length_map]; show 1 + cs.length ≤ _; omega)) (ed_tup (el_cons (ed_tup (el_cons (ed_str ev_c) el_nil) ble) el_nil) ble) (by rw [List.length_append, List.length_map, List.length_map]; show 1 + cs.length + 1 ≤ _; omega)
      rw [em] at ec
      refine s_asgD ec fun v3 H8 e8 t8 => ?_
      exact fin true v3 _ H8 (o67.trans (.of_ex e8)) (P7.ex e8) ((t16.keep o7.tk).ex e8) t8 rfl rfl rfl
    · rw [if_neg (by intro h; have := of_decide_eq_true h; have h2 := V.int.inj this; omega)]
      exact fin false v2 _ H7 o67 P7 (t16.keep o7.tk) (t2.keep o7.tk) rfl rfl rfl

end
end Rp
set_option Elab.async false
set_option linter.all false
set_option maxRecDepth 100000
set_option maxHeartbeats 4000000
set_option autoImplicit false
namespace Rp
open PySem PySem.Spec PyProof.Rows L2 Mx Evl Hf
section
variable {P : Program} {w : World} {K : Frg} {mg : Str → Option Value} {base : Heap}
theorem ok_law_pool (T : Txt K mg w) (F : FnD K d_law_pool)  : Ok P w K mg base 1 (He.ga K "_law_pool") ["_law_script", "_law_k"] (spPoolL K) := by
  have sc : FnScope ["_law_script", "_law_k", "_law_cell", "_law_great", "_law_seed"] ["_law_script", "_law_k"] (defScope s_law_pool) := ⟨rfl, rfl, rfl, by decide +kernel, rfl, by decide +kernel, by decide +kernel⟩
  let nm : List Str := ["_law_script", "_law_k", "_law_cell", "_law_great", "_law_seed"]
  refine ok_of F rfl rfl sc (fun _ _ _ _ _ _ us hl => match us, hl with | [_, _], _ => rfl) (fun vs H Q E h => ?_) (fun cdv A outer s H vs Q E hr h => ?_)
  · obtain ⟨p, xs, kk, rfl, _⟩ := h
    rfl
  · obtain ⟨p, xs, kk, rfl, hp, hk, k⟩ := h
    refine ⟨_, (pss_cons (ps_set (i := 2) sc.nd rfl (by first | exact Or.inl rfl | exact Or.inr rfl) pe_int) (pss_cons (ps_if (pt_cmpR op_lt (pv 1) (pe_callB Ru.cr_len (by rfl) T.free_len PySem.boot_len (pa_cons (pv 0) pa_nil)) (nomark _)) (pss_one (ps_set (i := 2) sc.nd rfl (by first | exact Or.inl rfl | exact Or.inr rfl) (pe_callTy call_int1 (by rfl) T.free_int (by decide +kernel) (pa_cons (pe_ix ix_list (pv 0) (pv 1) (fun _ _ => rfl)) pa_nil)))) pss_nil) (pss_cons (ps_set (i := 3) sc.nd rfl (by first | exact Or.inl rfl | exact Or.inr rfl) (pe_callB call_abs (by rfl) T.free_abs (by decide +kernel) (pa_cons (pv 2) pa_nil))) (pss_cons (ps_set (i := 4) sc.nd rfl (by first | exact Or.inl rfl | exact Or.inr rfl) (pe_op op_add (pe_op op_add (pe_op op_mod (pe_callTy call_int1 (by rfl) T.free_int (by decide +kernel) (pa_cons (pv 2) pa_nil)) pe_int) (pe_op op_mul pe_int (pv 1))) pe_int)) (pss_one (ps_ret (pe_lst (pa_cons (pe_op op_mul (pv 3) (pe_callTy call_int1 (by rfl) T.free_int (by decide +kernel) (pa_cons (pe_cmpR op_ge (pv 3) (pe_op op_pow pe_int pe_int) (nomark _)) pa_nil))) (pa_cons (pe_op op_mod (pe_callTy call_int1 (by rfl) T.free_int (by decide +kernel) (pa_cons (pe_op op_add (pe_op op_mul (pe_op op_mul (pv 4) (pv 4)) (pv 4)) (pe_op op_mul pe_int (pv 1))) pa_nil)) pe_int) pa_nil))))))))), ?_⟩
    have fin : ∀ (c : Int) (σ' : L2.St) (H' : Hp), Ex H H' → σ'.length = 5 → σ'[1]? = some (some (.int (kk : Nat))) → σ'[2]? = some (some (.int c)) → tSeq (tAsg (tCB (fun xs H Q => ∃ i, xs = [V.int i] ∧ Q (V.int (if i < 0 then -i else i)) H) (tCons (tVar 2) tNil)) (gName 3)) (tSeq (tAsg (tOp (rI0 fun i j => V.int (i + j)) (tOp (rI0 fun i j => V.int (i + j)) (tOp (rI (fun x j => 0 < j) fun i j => V.int (i % j)) (tCB (fun xs H Q => (∃ i, xs = [V.int i] ∧ Q (V.int i) H) ∨ ∃ k, xs = [V.bl k] ∧ Q (V.int (if k = true then 1 else 0)) H) (tCons (tVar 2) tNil)) (tC (V.int 2147483629))) (tOp (rI CMul fun i j => V.int (i * j)) (tC (V.int 48271)) (tVar 1))) (tC (V.int 11))) (gName 4)) (tRet (tLst (tCons (tOp (rI CMul fun i j => V.int (i * j)) (tVar 3) (tCB (fun xs H Q => (∃ i, xs = [V.int i] ∧ Q (V.int i) H) ∨ ∃ k, xs = [V.bl k] ∧ Q (V.int (if k = true then 1 else 0)) H) (tCons (tOp (rI0 fun i j => V.bl (decide (j ≤ i))) (tVar 3) (tOp (rI CPow fun i j => V.int (i ^ j.toNat)) (tC (V.int 10)) (tC (V.int 18)))) tNil))) (tCons (tOp (rI (fun x j => 0 < j) fun i j => V.int (i % j)) (tCB (fun xs H Q => (∃ i, xs = [V.int i] ∧ Q (V.int i) H) ∨ ∃ k, xs = [V.bl k] ∧ Q (V.int (if k = true then 1 else 0)) H) (tCons (tOp (rI0 fun i j => V.int (i + j)) (tOp (rI CMul fun i j => V.int (i * j)) (tOp (rI CMul fun i j => V.int (i * j)) (tVar 4) (tVar 4)) (tVar 4)) (tOp (rI CMul fun i j => V.int (i * j)) (tC (V.int 39373)) (tVar 1))) tNil)) (tC (V.int 2147483647))) tNil))))) { nx := fun x H' => Q V.non H', rt := Q } σ' H' := by
      intro c σ' H' e0 hl h1 h2
      refine q_asg (v := .int (if c < 0 then -c else c)) (ev_cb (ea_cons (ev_var h2) ea_nil) fun H2 _ Q' q => ⟨c, rfl, q H2 (Ex.refl H2)⟩) fun H1 e1 => ?_
      have hg : 0 ≤ (if c < 0 then -c else c) := by split <;> omega
      generalize (if c < 0 then -c else c) = g at hg ⊢
      have v3 : (σ'.set 3 (some (.int g)))[3]? = some (some (.int g)) := List.getElem?_set_self (by omega)
      have v1 : (σ'.set 3 (some (.int g)))[1]? = some (some (.int (kk : Nat))) := by rw [List.getElem?_set_ne (by decide)]; exact h1
      have v2 : (σ'.set 3 (some (.int g)))[2]? = some (some (.int c)) := by rw [List.getElem?_set_ne (by decide)]; exact h2
      have vl : (σ'.set 3 (some (.int g))).length = 5 := by rw [List.length_set]; exact hl
      generalize σ'.set 3 (some (.int g)) = σ1 at v1 v2 v3 vl ⊢
      have hs1 : 0 ≤ c % 2147483629 := Int.emod_nonneg _ (by decide)
      have hs2 : c % 2147483629 < 2147483629 := Int.emod_lt_of_pos _ (by decide)
      refine q_asg (v := .int (c % 2147483629 + 48271 * (kk : Int) + 11)) (ev_op (ev_op (ev_op (ev_toInt (ev_var v2)) ev_c (rv_I (by decide))) (ev_op ev_c (ev_var v1) (rv_I (Or.inl ⟨by decide, by decide⟩))) rv_I0) ev_c rv_I0) fun H2 e2 => ?_
      have hsd1 : 0 ≤ c % 2147483629 + 48271 * (kk : Int) + 11 := by omega
      have hsd2 : c % 2147483629 + 48271 * (kk : Int) + 11 < 4294967296 := by omega
      generalize c % 2147483629 + 48271 * (kk : Int) + 11 = sd at hsd1 hsd2 ⊢
      have u4 : (σ1.set 4 (some (.int sd)))[4]? = some (some (.int sd)) := List.getElem?_set_self (by omega)
      have u1 : (σ1.set 4 (some (.int sd)))[1]? = some (some (.int (kk : Nat))) := by rw [List.getElem?_set_ne (by decide)]; exact v1
      have u3 : (σ1.set 4 (some (.int sd)))[3]? = some (some (.int g)) := by rw [List.getElem?_set_ne (by decide)]; exact v3
      generalize σ1.set 4 (some (.int sd)) = σ2 at u1 u3 u4 ⊢
      have hsq : (2 : Int) ^ 64 = 18446744073709551616 := by decide
      refine s_retL (xs := [.int (g * (if decide ((10 : Int) ^ (18 : Int).toNat ≤ g) = true then 1 else 0)), .int ((sd * sd * sd + 39373 * (kk : Int)) % 2147483647)]) (el_lst (ea_cons (ev_op (ev_var u3) (ev_toIntB (ev_op (ev_var u3) (ev_op ev_c ev_c (rv_I ⟨by decide, by decide, by decide⟩)) rv_I0)) (rv_I (Or.inr (by split <;> exact ⟨by decide, by decide⟩)))) (ea_cons (ev_op (ev_toInt (ev_op (ev_op (ev_op (ev_var u4) (ev_var u4) (rv_I (Or.inl ⟨by omega, by omega⟩))) (ev_var u4) (rv_I (Or.inr ⟨by omega, by omega⟩))) (ev_op ev_c (ev_var u1) (rv_I (Or.inl ⟨by decide, by decide⟩))) rv_I0)) ev_c (rv_I (by decide))) ea_nil)) (Nat.le_of_ble_eq_true rfl)) fun q H3 hq e3 h3 => ?_
      have ee := ((e0.trans e1).trans e2)
      refine k q H3 (fresh_back ee hq) (ee.trans e3) ⟨_, _, h3, ?_, Int.emod_nonneg _ (by decide), Int.emod_lt_of_pos _ (by decide)⟩
      split
      · omega
      · omega
    refine q_asg (v := .int 0) ev_c fun H1 e1 => ?_
    refine q_if (b := decide (kk < xs.length)) (et_test (ev_is (ev_op (ev_var rfl) (ev_len (ev_var rfl) (ex_l e1 hp)) rv_I0) (by
      congr 1
      rw [List.length_map]
      apply Bool.eq_iff_iff.mpr
      rw [decide_eq_true_iff, decide_eq_true_iff]
      omega))) (fun hb H2 e2 => ?_) fun hb H2 e2 => ?_
    · have hkl := of_decide_eq_true hb
      refine s_asg (v := .int xs[kk]) (ev_toInt (ev_ixL (j := kk) (ev_var rfl) (ex_l (e1.trans e2) hp) (ev_var rfl) (by rw [List.getElem?_map, List.getElem?_eq_getElem hkl] <;> rfl))) fun H3 e3 => ?_
      exact fin xs[kk] _ H3 ((e1.trans e2).trans e3) rfl rfl rfl
    · exact fin 0 _ H2 (e1.trans e2) rfl rfl rfl

end
end Rp
set_option Elab.async false
set_option linter.all false
set_option maxRecDepth 100000
set_option maxHeartbeats 4000000
set_option autoImplicit false
namespace Rp
open PySem PySem.Spec PyProof.Rows L2 Mx Evl Hf
section
variable {P : Program} {w : World} {K : Frg} {mg : Str → Option Value} {base : Heap}
theorem ok_State_arrivals (T : Txt K mg w) (F : FnD K d_State_arrivals)  : Ok P w K mg base 1 (pg K "State" "arrivals") ["self"] (spPart K 3) := by
  have sc : FnScope ["self"] ["self"] (defScope s_State_arrivals) := ⟨rfl, rfl, rfl, by decide +kernel, rfl, by decide +kernel, by decide +kernel⟩
  let nm : List Str := ["self"]
  refine ok_of F rfl rfl sc (fun _ _ _ _ _ _ us hl => match us, hl with | [_], _ => rfl) (fun vs H Q E h => ?_) (fun cdv A outer s H vs Q E hr h => ?_)
  · obtain ⟨m, dx, p, xs, v, rfl, _⟩ := h
    rfl
  · obtain ⟨m, dx, p, xs, v, rfl, hm, hs, hv, q⟩ := h
    refine ⟨_, (pss_one (ps_ret (pe_ix ix_tup (pe_fld (pv 0) rfl) pe_int (fun _ _ => rfl)))), ?_⟩
    exact ⟨_, rfl, m, _, dx, _, _, rfl, hm, T.cls_State, T.noat_State_parts, lk_State_parts, p, xs, (3 : Nat), v, rfl, rfl, hs, atI_nat hv, q⟩

end
end Rp
set_option Elab.async false
set_option linter.all false
set_option maxRecDepth 100000
set_option maxHeartbeats 4000000
set_option autoImplicit false
namespace Rp
open PySem PySem.Spec PyProof.Rows L2 Mx Evl Hf
section
variable {P : Program} {w : World} {K : Frg} {mg : Str → Option Value} {base : Heap}
theorem ok_State_flight (T : Txt K mg w) (F : FnD K d_State_flight)  : Ok P w K mg base 1 (pg K "State" "flight") ["self"] (spPart K 4) := by
  have sc : FnScope ["self"] ["self"] (defScope s_State_flight) := ⟨rfl, rfl, rfl, by decide +kernel, rfl, by decide +kernel, by decide +kernel⟩
  let nm : List Str := ["self"]
  refine ok_of F rfl rfl sc (fun _ _ _ _ _ _ us hl => match us, hl with | [_], _ => rfl) (fun vs H Q E h => ?_) (fun cdv A outer s H vs Q E hr h => ?_)
  · obtain ⟨m, dx, p, xs, v, rfl, _⟩ := h
    rfl
  · obtain ⟨m, dx, p, xs, v, rfl, hm, hs, hv, q⟩ := h
    refine ⟨_, (pss_one (ps_ret (pe_ix ix_tup (pe_fld (pv 0) rfl) pe_int (fun _ _ => rfl)))), ?_⟩
    exact ⟨_, rfl, m, _, dx, _, _, rfl, hm, T.cls_State, T.noat_State_parts, lk_State_parts, p, xs, (4 : Nat), v, rfl, rfl, hs, atI_nat hv, q⟩

end
end Rp
set_option Elab.async false
set_option linter.all false
set_option maxRecDepth 100000
set_option maxHeartbeats 4000000
set_option autoImplicit false
namespace Rp
open PySem PySem.Spec PyProof.Rows L2 Mx Evl Hf
section
variable {P : Program} {w : World} {K : Frg} {mg : Str → Option Value} {base : Heap}
theorem ok_State_pages (T : Txt K mg w) (F : FnD K d_State_pages)  : Ok P w K mg base 1 (pg K "State" "pages") ["self"] (spPart K 0) := by
  have sc : FnScope ["self"] ["self"] (defScope s_State_pages) := ⟨rfl, rfl, rfl, by decide +kernel, rfl, by decide +kernel, by decide +kernel⟩
  let nm : List Str := ["self"]
  refine ok_of F rfl rfl sc (fun _ _ _ _ _ _ us hl => match us, hl with | [_], _ => rfl) (fun vs H Q E h => ?_) (fun cdv A outer s H vs Q E hr h => ?_)
  · obtain ⟨m, dx, p, xs, v, rfl, _⟩ := h
    rfl
  · obtain ⟨m, dx, p, xs, v, rfl, hm, hs, hv, q⟩ := h
    refine ⟨_, (pss_one (ps_ret (pe_ix ix_tup (pe_fld (pv 0) rfl) pe_int (fun _ _ => rfl)))), ?_⟩
    exact ⟨_, rfl, m, _, dx, _, _, rfl, hm, T.cls_State, T.noat_State_parts, lk_State_parts, p, xs, (0 : Nat), v, rfl, rfl, hs, atI_nat hv, q⟩

end
end Rp
set_option Elab.async false
set_option linter.all false
set_option maxRecDepth 100000
set_option maxHeartbeats 4000000
set_option autoImplicit false
namespace Rp
open PySem PySem.Spec PyProof.Rows L2 Mx Evl Hf
section
variable {P : Program} {w : World} {K : Frg} {mg : Str → Option Value} {base : Heap}
theorem ok_State_slots (T : Txt K mg w) (F : FnD K d_State_slots)  : Ok P w K mg base 1 (pg K "State" "slots") ["self"] (spPart K 1) := by
  have sc : FnScope ["self"] ["self"] (defScope s_State_slots) := ⟨rfl, rfl, rfl, by decide +kernel, rfl, by decide +kernel, by decide +kernel⟩
  let nm : List Str := ["self"]
  refine ok_of F rfl rfl sc (fun _ _ _ _ _ _ us hl => match us, hl with | [_], _ => rfl) (fun vs H Q E h => ?_) (fun cdv A outer s H vs Q E hr h => ?_)
  · obtain ⟨m, dx, p, xs, v, rfl, _⟩ := h
    rfl
  · obtain ⟨m, dx, p, xs, v, rfl, hm, hs, hv, q⟩ := h
    refine ⟨_, (pss_one (ps_ret (pe_ix ix_tup (pe_fld (pv 0) rfl) pe_int (fun _ _ => rfl)))), ?_⟩
    exact ⟨_, rfl, m, _, dx, _, _, rfl, hm, T.cls_State, T.noat_State_parts, lk_State_parts, p, xs, (1 : Nat), v, rfl, rfl, hs, atI_nat hv, q⟩

end
end Rp
set_option Elab.async false
set_option linter.all false
set_option maxRecDepth 100000
set_option maxHeartbeats 4000000
set_option autoImplicit false
namespace Rp
open PySem PySem.Spec PyProof.Rows L2 Mx Evl Hf
section
variable {P : Program} {w : World} {K : Frg} {mg : Str → Option Value} {base : Heap}
theorem ok_Worker_init (T : Txt K mg w) (F : FnD K d_Worker_init)  : Ok P w K mg base 1 (He.ma K (He.ga K "Worker") "__init__") ["self", "entry"] (spWorkerI K) := by
  have sc : FnScope ["self", "entry", "status", "at", "phase", "hand", "caches", "batches", "cache", "row", "batch"] ["self", "entry"] (defScope s_Worker_init) := ⟨rfl, rfl, rfl, by decide +kernel, rfl, by decide +kernel, by decide +kernel⟩
  let nm : List Str := ["self", "entry", "status", "at", "phase", "hand", "caches", "batches", "cache", "row", "batch"]
  refine ok_of F rfl rfl sc (fun _ _ _ _ _ _ us hl => match us, hl with | [_, _], _ => rfl) (fun vs H Q E h => ?_) (fun cdv A outer s H vs Q E hr h => ?_)
  · obtain ⟨a, dx, v, w', rfl, _⟩ := h
    rfl
  · obtain ⟨a, dx, v, wk, rfl, ha, tv, hbl, k⟩ := h
    refine ⟨_, (pss_cons (ps_asg (pv 1) (pg_tup rfl (pgs_cons (pg_name (i := 2) sc.nd rfl (by first | exact Or.inl rfl | exact Or.inr rfl)) (pgs_cons (pg_name (i := 3) sc.nd rfl (by first | exact Or.inl rfl | exact Or.inr rfl)) (pgs_cons (pg_name (i := 4) sc.nd rfl (by first | exact Or.inl rfl | exact Or.inr rfl)) (pgs_cons (pg_name (i := 5) sc.nd rfl (by first | exact Or.inl rfl | exact Or.inr rfl)) (pgs_cons (pg_name (i := 6) sc.nd rfl (by first | exact Or.inl rfl | exact Or.inr rfl)) (pgs_cons (pg_name (i := 7) sc.nd rfl (by first | exact Or.inl rfl | exact Or.inr rfl)) pgs_nil)))))))) (pss_cons (ps_fld (pv 0) (pv 2) rfl) (pss_cons (ps_fld (pv 0) (pv 3) rfl) (pss_cons (ps_fld (pv 0) (pv 4) rfl) (pss_cons (ps_fld (pv 0) (pe_callTy Ru.cr_list (by rfl) T.free_list (by decide +kernel) (pa_cons (pv 5) pa_nil)) rfl) (pss_cons (ps_fld (pv 0) (pe_lc (own := [("cache", 8)]) (g := (gName 8)) (by rfl) sc.nd (pi_tup (pv 6)) (blkOk_by (own := [("cache", 8)]) (N := nm) (sc := defScope s_Worker_init) (by decide +kernel)) (fun _ _ _ _ _ => (pg_name (i := 8) sc.nd rfl (by first | exact Or.inl rfl | exact Or.inr rfl))) (fun _ _ _ _ _ => pts_nil) (fun _ _ _ _ _ => (pe_callTy (show CallR _ _ (Evl.rListS K) from Ru.cr_list) (by rfl) T.free_list (by decide +kernel) (pa_cons (pv 8) pa_nil)))) rfl) (pss_one (ps_fld (pv 0) (pe_lc (own := [("row", 9)]) (g := (gName 9)) (by rfl) sc.nd (pi_tup (pv 7)) (blkOk_by (own := [("row", 9)]) (N := nm) (sc := defScope s_Worker_init) (by decide +kernel)) (fun _ _ _ _ _ => (pg_name (i := 9) sc.nd rfl (by first | exact Or.inl rfl | exact Or.inr rfl))) (fun _ _ _ _ _ => pts_nil) (fun _ _ _ _ _ => (pe_lc (own := [("batch", 10)]) (g := (gName 10)) (by rfl) sc.nd (show PI _ _ _ (iTup K _) from (pi_tup (pv 9))) (blkOk_by (own := [("batch", 10)]) (N := nm) (sc := cscope (aval ((defBody s_Worker_init).getD 6 (.Pass ⟨0, 0, 0, 0⟩)))) (by decide +kernel)) (fun _ _ _ _ _ => (pg_name (i := 10) sc.nd rfl (by first | exact Or.inl rfl | exact Or.inr rfl))) (fun _ _ _ _ _ => pts_nil) (fun _ _ _ _ _ => (pe_callTy (show CallR _ _ (Evl.rListS K) from Ru.cr_list) (by rfl) T.free_list (by decide +kernel) (pa_cons (pv 10) pa_nil)))))) rfl)))))))), ?_⟩
    refine q_asgTup (ed_var (i := 1) rfl tv) rfl fun xs H1 e1 tx => ?_
    obtain ⟨v1, r1, rfl, t1, u1⟩ := tx.cons_inv
    obtain ⟨v2, r2, rfl, t2, u2⟩ := u1.cons_inv
    obtain ⟨v3, r3, rfl, t3, u3⟩ := u2.cons_inv
    obtain ⟨v4, r4, rfl, t4, u4⟩ := u3.cons_inv
    obtain ⟨v5, r5, rfl, t5, u5⟩ := u4.cons_inv
    obtain ⟨v6, r6, rfl, t6, u6⟩ := u5.cons_inv
    obtain rfl := TdL.nil_iff.mp u6
    obtain rfl := Td.str_iff.mp t1
    obtain rfl := Td.int_iff.mp t2
    obtain rfl := Td.str_iff.mp t3
    refine ⟨_, _, rfl, _, _, rfl, _, _, rfl, _, _, rfl, _, _, rfl, _, _, rfl, rfl, ?_⟩
    have o1 : Only a H H1 := .of_ex e1
    refine q_fld (ev_var rfl) (ev_var rfl) (e1 _ _ ha) T.cls_Worker T.noat_Worker_status (by decide) fun H2 e2 => ?_
    rw [pw1]
    have p2 := (Only.of_ex (a := a) e2).upd (u := .ins (He.ga K "Worker") dx (w1 wk)) (e2 _ _ (e1 _ _ ha)) trivial
    refine q_fld (ev_var rfl) (ev_var rfl) upd_same T.cls_Worker T.noat_Worker_at (by show 1 < 1000; decide) fun H3 e3 => ?_
    rw [pw2]
    have p3 := (Only.of_ex (a := a) e3).upd (u := .ins (He.ga K "Worker") dx (w2 wk)) (e3 _ _ upd_same) trivial
    refine q_fld (ev_var rfl) (ev_var rfl) upd_same T.cls_Worker T.noat_Worker_phase (by show 2 < 1000; decide) fun H4 e4 => ?_
    rw [pw3]
    have p4 := (Only.of_ex (a := a) e4).upd (u := .ins (He.ga K "Worker") dx (w3 wk)) (e4 _ _ upd_same) trivial
    have p234 := (p2.trans p3).trans p4
    have o4 := o1.trans p234
    have tk4 : Tk H1 _ := p234.tk
    refine q_fldLD (ds := wk.hand.map eB) (eld_listT (ed_var rfl (t4.keep tk4))) (ev_var rfl) upd_same T.cls_Worker T.noat_Worker_hand (by show 3 < 1000; decide) fun hh zs H5 hhn e5 h5 s5 => ?_
    have hha : hh ≠ a := fun q => by rw [q, upd_same] at hhn; cases hhn
    rw [pw4]
    have p5 := (Only.of_ex (a := a) e5).upd (u := .ins (He.ga K "Worker") dx (w4 wk hh)) (e5 _ _ upd_same) trivial
    have o5 := o4.trans p5
    have tk5 := tk4.trans p5.tk
    have s5' := s5.keep (tk_upd (u := .ins (He.ga K "Worker") dx (w4 wk hh)) (e5 _ _ upd_same) trivial)
    have h5' : upd H5 a (.ins (He.ga K "Worker") dx (w4 wk hh)) hh = some (.lst zs) := by rw [upd_ne hha]; exact h5
    generalize hX5 : upd H5 a (.ins (He.ga K "Worker") dx (w4 wk hh)) = X5 at p5 o5 tk5 s5' h5' ⊢
    have a5 : X5 a = some (.ins (He.ga K "Worker") dx (w4 wk hh)) := by rw [← hX5, upd_same]
    refine q_fldE ?_
    refine te_newLists (K := K) (ls := [wk.cache.map eB]) (ed_var (i := 6) rfl (t5.keep tk5)) (j := 8) (vs := [8]) (by intro _; rfl) (by intro _; rfl) (Nat.le_of_ble_eq_true rfl) (Ex.refl X5) fun cc H6 cs hcc e6 h6 c1 c2 c3 c4 => ?_
    refine (ev_var (v := .ref a) rfl) H6 (Ex.refl _) _ fun H7 e7 => ?_
    obtain ⟨c0, rfl⟩ : ∃ c, cs = [c] := by
      cases cs with
      | nil => cases c1
      | cons c r =>
        cases r with
        | nil => exact ⟨c, rfl⟩
        | cons _ _ => simp at c1
    obtain ⟨ws, hw0, tw0⟩ := c4 0 c0 _ rfl rfl
    obtain ⟨hc0c, hc0⟩ := c3 c0 (List.mem_singleton.mpr rfl)
    have e67 := e6.trans e7
    have cca : cc ≠ a := fun q => by rw [q, a5] at hcc; cases hcc
    have c0a : c0 ≠ a := fun q => by rw [q, a5] at hc0; cases hc0
    have cch : cc ≠ hh := fun q => by rw [q, h5'] at hcc; cases hcc
    have c0h : c0 ≠ hh := fun q => by rw [q, h5'] at hc0; cases hc0
    refine ⟨a, _, dx, _, rfl, e67 _ _ a5, T.cls_Worker, T.noat_Worker_caches, by show 4 < 1000; decide, ?_⟩
    rw [pw5]
    have p6 := (Only.of_ex (a := a) e67).upd (u := .ins (He.ga K "Worker") dx (w5 wk hh cc)) (e67 _ _ a5) trivial
    have tku := tk_upd (u := .ins (He.ga K "Worker") dx (w5 wk hh cc)) (e67 _ _ a5) trivial
    have o6 := o5.trans p6
    have tk6 := tk5.trans p6.tk
    have s6 := (s5'.ex e67).keep tku
    have tw6 := (tw0.ex e7).keep tku
    have h6a := p6.fr _ _ h5' hha
    have h6c : upd H7 a (.ins (He.ga K "Worker") dx (w5 wk hh cc)) cc = some (.lst [.ref c0]) := by rw [upd_ne cca]; exact e7 _ _ h6
    have h6d : upd H7 a (.ins (He.ga K "Worker") dx (w5 wk hh cc)) c0 = some (.lst ws) := by rw [upd_ne c0a]; exact e7 _ _ hw0
    generalize hX6 : upd H7 a (.ins (He.ga K "Worker") dx (w5 wk hh cc)) = X6 at p6 o6 tk6 s6 tw6 h6a h6c h6d ⊢
    have a6 : X6 a = some (.ins (He.ga K "Worker") dx (w5 wk hh cc)) := by rw [← hX6, upd_same]
    have em : (wk.bats.map fun l => PyData.tuple [eBs l]) = (wk.bats.map fun l => l.map eB).map fun d => .tuple [.tuple d] := by rw [List.map_map] <;> rfl
    have t6' := t6.keep tk6
    rw [show (PyData.tuple (wk.bats.map fun l => PyData.tuple [eBs l])) = .tuple ((wk.bats.map fun l => l.map eB).map fun d => .tuple [.tuple d]) from by rw [em]] at t6'
    refine s_fldE ?_
    refine te_newRows (K := K) (ls := wk.bats.map (fun l : List Blk => List.map eB l)) (ed_var (i := 7) rfl t6') (j := 9) (vs := [9]) (j2 := 10) (vs2 := [10]) (by intro _; rfl) (by intro _; rfl) (by rw [List.length_map]; omega) (by intro _ _; rfl) (by intro _ _; rfl) (Ex.refl X6) fun bb H8 as hbb e8 h8 b1 b2 b3 b4 => ?_
    refine (ev_var (v := .ref a) rfl) H8 (Ex.refl _) _ fun H9 e9 => ?_
    have e89 := e8.trans e9
    refine ⟨a, _, dx, _, rfl, e89 _ _ a6, T.cls_Worker, T.noat_Worker_batches, by show 5 < 1000; decide, ?_⟩
    rw [pw6]
    have p7 := (Only.of_ex (a := a) e89).upd (u := .ins (He.ga K "Worker") dx (fWk wk hh cc bb)) (e89 _ _ a6) trivial
    have tkv := tk_upd (u := .ins (He.ga K "Worker") dx (fWk wk hh cc bb)) (e89 _ _ a6) trivial
    have nn : ∀ {b : Addr} {o : HO}, X6 b = some o → ∀ {c : Addr}, X6 c = none → c ≠ b := fun {b o} hb {c} hc q => by rw [q, hb] at hc; cases hc
    have n2 : ∀ x ∈ as, (x.1 ≠ a ∧ x.1 ≠ hh ∧ x.1 ≠ cc ∧ x.1 ≠ c0 ∧ x.1 ≠ bb) ∧ x.2 ≠ a ∧ x.2 ≠ hh ∧ x.2 ≠ cc ∧ x.2 ≠ c0 ∧ x.2 ≠ bb := fun x hx => by
      obtain ⟨⟨g1, g2⟩, g3, g4⟩ := b3 x hx
      exact ⟨⟨nn a6 g2, nn h6a g2, nn h6c g2, nn h6d g2, g1⟩, nn a6 g4, nn h6a g4, nn h6c g4, nn h6d g4, g3⟩
    have hlen : as.length = wk.bats.length := by rw [b1, List.length_map]
    have h5n : H hh = none := o4.none hhn
    have ccn : H cc = none := o5.none hcc
    have c0n : H c0 = none := o5.none hc0
    have bbn : H bb = none := o6.none hbb
    refine k _ (lW a hh cc c0 bb as) (o6.trans p7).fr (repW_of (dx := dx) (zs := zs) (cs := ws) hlen upd_same (p7.fr _ _ h6a hha) (s6.keep p7.tk) (p7.fr _ _ h6c cca) (p7.fr _ _ h6d c0a) (tw6.keep p7.tk) ?_ (fun i x d hx hd => ?_) ⟨hha.symm, cca.symm, c0a.symm, (nn a6 hbb).symm, cch.symm, c0h.symm, (nn h6a hbb).symm, hc0c.symm, (nn h6c hbb).symm, (nn h6d hbb).symm⟩ n2 b2) rfl (fun r => ?_) fun r => ?_
    · rw [upd_ne (nn a6 hbb)]
      exact e9 _ _ h8
    · have mx := n2 x (List.mem_of_getElem? hx)
      obtain ⟨g1, zs', g2, g3⟩ := b4 i x (d.map eB) hx (by rw [List.getElem?_map, hd] <;> rfl)
      exact ⟨by rw [upd_ne mx.1.1]; exact e9 _ _ g1, zs', by rw [upd_ne mx.2.1]; exact e9 _ _ g2, (g3.ex e9).keep tkv⟩
    · cases r with
      | wk => exact .inl rfl
      | hand => exact .inr h5n
      | caches => exact .inr ccn
      | cache => exact .inr c0n
      | bats => exact .inr bbn
      | row j =>
        cases hj : as[j]? with
        | none => left; show (as[j]?.map Prod.fst).getD a = a; rw [hj] <;> rfl
        | some x => right; rw [lW_row hj]; exact o6.none (b3 x (List.mem_of_getElem? hj)).1.2
      | bat j =>
        cases hj : as[j]? with
        | none => left; show (as[j]?.map Prod.snd).getD a = a; rw [hj] <;> rfl
        | some x => right; rw [lW_bat hj]; exact o6.none (b3 x (List.mem_of_getElem? hj)).2.2
    · have na : upd H9 a (.ins (He.ga K "Worker") dx (fWk wk hh cc bb)) a ≠ none := by rw [upd_same]; exact fun z => nomatch z
      have nz : ∀ {b : Addr} {o : HO}, upd H9 a (.ins (He.ga K "Worker") dx (fWk wk hh cc bb)) b = some o → upd H9 a (.ins (He.ga K "Worker") dx (fWk wk hh cc bb)) b ≠ none := fun {b o} h => by rw [h]; exact fun z => nomatch z
      cases r with
      | wk => exact na
      | hand => exact nz (p7.fr _ _ h6a hha)
      | caches => exact nz (p7.fr _ _ h6c cca)
      | cache => exact nz (p7.fr _ _ h6d c0a)
      | bats => exact nz (o := .lst (as.map fun x => V.ref x.1)) (by show upd H9 a _ bb = _; rw [upd_ne (nn a6 hbb)]; exact e9 _ _ h8)
      | row j =>
        cases hj : as[j]? with
        | none => show upd H9 a _ ((as[j]?.map Prod.fst).getD a) ≠ none; rw [hj]; exact na
        | some x =>
          have hjb : j < wk.bats.length := by rw [← hlen]; exact (List.getElem?_eq_some_iff.mp hj).1
          obtain ⟨g1, zs', g2, g3⟩ := b4 j x (wk.bats[j].map eB) hj (by rw [List.getElem?_map, List.getElem?_eq_getElem hjb] <;> rfl)
          rw [lW_row hj]
          exact nz (o := .lst [.ref x.2]) (by rw [upd_ne (n2 x (List.mem_of_getElem? hj)).1.1]; exact e9 _ _ g1)
      | bat j =>
        cases hj : as[j]? with
        | none => show upd H9 a _ ((as[j]?.map Prod.snd).getD a) ≠ none; rw [hj]; exact na
        | some x =>
          have hjb : j < wk.bats.length := by rw [← hlen]; exact (List.getElem?_eq_some_iff.mp hj).1
          obtain ⟨g1, zs', g2, g3⟩ := b4 j x (wk.bats[j].map eB) hj (by rw [List.getElem?_map, List.getElem?_eq_getElem hjb] <;> rfl)
          rw [lW_bat hj]
          exact nz (o := .lst zs') (by rw [upd_ne (n2 x (List.mem_of_getElem? hj)).2.1]; exact e9 _ _ g2)

end
end Rp
set_option Elab.async false
set_option linter.all false
set_option maxRecDepth 100000
set_option maxHeartbeats 4000000
set_option autoImplicit false
namespace Rp
open PySem PySem.Spec PyProof.Rows L2 Mx Evl Hf
section
variable {P : Program} {w : World} {K : Frg} {mg : Str → Option Value} {base : Heap}
theorem ok_Draft_init (T : Txt K mg w) (F : FnD K d_Draft_init) (G_State_arrivals : Ok P w K mg base 1 (pg K "State" "arrivals") ["self"] (spPart K 3)) (G_State_flight : Ok P w K mg base 1 (pg K "State" "flight") ["self"] (spPart K 4)) (G_State_pages : Ok P w K mg base 1 (pg K "State" "pages") ["self"] (spPart K 0)) (G_State_slots : Ok P w K mg base 1 (pg K "State" "slots") ["self"] (spPart K 1)) (G_State_threads : Ok P w K mg base 1 (pg K "State" "threads") ["self"] (spPart K 2)) (G_Worker_init : Ok P w K mg base 1 (He.ma K (He.ga K "Worker") "__init__") ["self", "entry"] (spWorkerI K)) : Ok P w K mg base 3 (He.ma K (He.ga K "Draft") "__init__") ["self", "state"] (spDraftI K) := by
  have sc : FnScope ["self", "state", "entry", "blocks"] ["self", "state"] (defScope s_Draft_init) := ⟨rfl, rfl, rfl, by decide +kernel, rfl, by decide +kernel, by decide +kernel⟩
  let nm : List Str := ["self", "state", "entry", "blocks"]
  refine ok_of F rfl rfl sc (fun _ _ _ _ _ _ us hl => match us, hl with | [_, _], _ => rfl) (fun vs H Q E h => ?_) (fun cdv A outer s H vs Q E hr h => ?_)
  · obtain ⟨a, dx, st, D, rfl, _⟩ := h
    rfl
  · obtain ⟨a, dx, st, D, rfl, ha, hst, _, b1, b2, b3, b4, b5, b6, b7, k⟩ := h
    refine ⟨_, (pss_cons (ps_fld (pv 0) (pe_callTy Ru.cr_list (by rfl) T.free_list (by decide +kernel) (pa_cons (pe_propO (pv 1) T.cls_State T.prop_State_pages G_State_pages (hr.mono (by decide)) rfl) pa_nil)) rfl) (pss_cons (ps_fld (pv 0) (pe_callTy Ru.cr_list (by rfl) T.free_list (by decide +kernel) (pa_cons (pe_propO (pv 1) T.cls_State T.prop_State_slots G_State_slots (hr.mono (by decide)) rfl) pa_nil)) rfl) (pss_cons (ps_fld (pv 0) (pe_lc (own := [("entry", 2)]) (g := (gName 2)) (by rfl) sc.nd (pi_tup (pe_propO (pv 1) T.cls_State T.prop_State_threads G_State_threads (hr.mono (by decide)) rfl)) (blkOk_by (own := [("entry", 2)]) (N := nm) (sc := defScope s_Draft_init) (by decide +kernel)) (fun _ _ _ _ _ => (pg_name (i := 2) sc.nd rfl (by first | exact Or.inl rfl | exact Or.inr rfl))) (fun _ _ _ _ _ => pts_nil) (fun _ _ _ _ _ => (pe_makeO T.mkr_Worker G_Worker_init (hr.mono (by decide)) (by rfl) T.glo_Worker (pa_cons (pv 2) pa_nil)))) rfl) (pss_cons (ps_fld (pv 0) (pe_lc (own := [("blocks", 3)]) (g := (gName 3)) (by rfl) sc.nd (pi_tup (pe_propO (pv 1) T.cls_State T.prop_State_arrivals G_State_arrivals (hr.mono (by decide)) rfl)) (blkOk_by (own := [("blocks", 3)]) (N := nm) (sc := defScope s_Draft_init) (by decide +kernel)) (fun _ _ _ _ _ => (pg_name (i := 3) sc.nd rfl (by first | exact Or.inl rfl | exact Or.inr rfl))) (fun _ _ _ _ _ => pts_nil) (fun _ _ _ _ _ => (pe_callTy (show CallR _ _ (Evl.rListS K) from Ru.cr_list) (by rfl) T.free_list (by decide +kernel) (pa_cons (pv 3) pa_nil)))) rfl) (pss_one (ps_fld (pv 0) (pe_callTy Ru.cr_list (by rfl) T.free_list (by decide +kernel) (pa_cons (pe_propO (pv 1) T.cls_State T.prop_State_flight G_State_flight (hr.mono (by decide)) rfl) pa_nil)) rfl)))))), ?_⟩
    have tkH : ∀ {H1 : Hp}, Only a H H1 → a ≠ st → StA K H1 st D := fun {H1} o n => by
      obtain ⟨dx', p, h1, h2⟩ := hst
      exact ⟨dx', p, o.fr _ _ h1 n.symm, h2.keep o.tk⟩
    have nst : a ≠ st := fun z => by
      obtain ⟨dx', p, h1, _⟩ := hst
      rw [← z, ha] at h1
      have := congrArg (fun o => match o with | some (HO.ins _ _ fs) => fs.length | _ => 0) h1
      cases this
    refine q_fldLD (ds := D.pages.map ePg) (eld_listT (ed_part (i := 0) hst (ev_var rfl) rfl)) (ev_var rfl) ha T.cls_Draft T.noat_Draft_own_pages (by decide) fun p1 x1 H1 n1 e1 h1 t1 => ?_
    rw [pd1]
    have p1a : p1 ≠ a := fun q => by rw [q, ha] at n1; cases n1
    have a1 := e1 _ _ ha
    have o1 := (Only.of_ex (a := a) e1).upd (u := .ins (He.ga K "Draft") dx (d1 p1)) a1 trivial
    have h1' : upd H1 a (.ins (He.ga K "Draft") dx (d1 p1)) p1 = some (.lst x1) := by rw [upd_ne p1a]; exact h1
    have t1' := t1.keep (tk_upd (u := .ins (He.ga K "Draft") dx (d1 p1)) a1 trivial)
    have a1' : upd H1 a (.ins (He.ga K "Draft") dx (d1 p1)) a = some (.ins (He.ga K "Draft") dx (d1 p1)) := upd_same
    generalize upd H1 a (.ins (He.ga K "Draft") dx (d1 p1)) = G1 at o1 h1' t1' a1' ⊢
    have s1 := tkH o1 nst
    refine q_fldLD (ds := D.slots.map eSl) (eld_listT (ed_part (i := 1) s1 (ev_var rfl) rfl)) (ev_var rfl) a1' T.cls_Draft T.noat_Draft_own_slots (by show 1 < 1000; decide) fun p2 x2 H2 n2 e2 h2 t2 => ?_
    rw [pd2]
    have p2a : p2 ≠ a := fun q => by rw [q, a1'] at n2; cases n2
    have a2 := e2 _ _ a1'
    have q2 := (Only.of_ex (a := a) e2).upd (u := .ins (He.ga K "Draft") dx (d2 p1 p2)) a2 trivial
    have h2' : upd H2 a (.ins (He.ga K "Draft") dx (d2 p1 p2)) p2 = some (.lst x2) := by rw [upd_ne p2a]; exact h2
    have t2' := t2.keep (tk_upd (u := .ins (He.ga K "Draft") dx (d2 p1 p2)) a2 trivial)
    have a2' : upd H2 a (.ins (He.ga K "Draft") dx (d2 p1 p2)) a = some (.ins (He.ga K "Draft") dx (d2 p1 p2)) := upd_same
    generalize upd H2 a (.ins (He.ga K "Draft") dx (d2 p1 p2)) = G2 at q2 h2' t2' a2' ⊢
    have o2 := o1.trans q2
    have s2 := tkH o2 nst
    refine q_fldE ?_
    refine te_newWorkers (K := K) (wks := D.wks) (ed_part (i := 2) s2 (ev_var rfl) rfl) (j := 2) (vs := [2]) (by intro _; rfl) (by intro _; rfl) (by omega) (fun w hw => (b7 w hw).2.2.1) (Ex.refl G2) fun pw H3 ls n3 e3 h3 l1 l2 l3 l4 => ?_
    refine (ev_var (v := .ref a) rfl) H3 (Ex.refl _) _ fun H3' e3' => ?_
    have e33 := e3.trans e3'
    have a3 := e33 _ _ a2'
    refine ⟨a, _, dx, _, rfl, a3, T.cls_Draft, T.noat_Draft_workers, by show 2 < 1000; decide, ?_⟩
    rw [pd3]
    have pwa : pw ≠ a := fun q => by rw [q, a2'] at n3; cases n3
    have q3 := (Only.of_ex (a := a) e33).upd (u := .ins (He.ga K "Draft") dx (d3 p1 p2 pw)) a3 trivial
    have tk3 := tk_upd (u := .ins (He.ga K "Draft") dx (d3 p1 p2 pw)) a3 trivial
    have h3' : upd H3' a (.ins (He.ga K "Draft") dx (d3 p1 p2 pw)) pw = some (.lst (ls.map fun l => V.ref (l .wk))) := by rw [upd_ne pwa]; exact e3' _ _ h3
    have la3 : ∀ l ∈ ls, ∀ r, l r ≠ a := fun l hl r z => by
      have := (l3 l hl r).2.1
      rw [z, a2'] at this
      cases this
    have l2' : ∀ (i : Nat) l w, ls[i]? = some l → D.wks[i]? = some w → RepW K (upd H3' a (.ins (He.ga K "Draft") dx (d3 p1 p2 pw))) l w := fun i l w hi hd =>
      ⟨fun r x hx => (((l2 i l w hi hd).ex e3').sat r x hx).keep (upd_ne (la3 l (List.mem_of_getElem? hi) r)) tk3, (l2 i l w hi hd).inj, (l2 i l w hi hd).dead⟩
    have a3' : upd H3' a (.ins (He.ga K "Draft") dx (d3 p1 p2 pw)) a = some (.ins (He.ga K "Draft") dx (d3 p1 p2 pw)) := upd_same
    have l3' : ∀ l ∈ ls, ∀ r, upd H3' a (.ins (He.ga K "Draft") dx (d3 p1 p2 pw)) (l r) ≠ none := fun l hl r => by
      rw [upd_ne (la3 l hl r)]
      exact fun z => (l3 l hl r).2.2 (fresh_back e3' z)
    generalize upd H3' a (.ins (He.ga K "Draft") dx (d3 p1 p2 pw)) = G3 at q3 h3' l2' a3' l3' ⊢
    have o3 := o2.trans q3
    have s3 := tkH o3 nst
    refine q_fldE ?_
    have ear : EvD K (tProp (He.ga K "State") (spPart K 3) [] E0 (tVar 1)) (L2.start ["self", "state", "entry", "blocks"] [V.ref a, V.ref st]) G3 (.tuple ((D.arrs.map fun l : List Blk => List.map eB l).map PyData.tuple)) := by
      rw [List.map_map]
      exact ed_part (i := 3) s3 (ev_var rfl) rfl
    refine te_newLists (K := K) (ls := D.arrs.map fun l : List Blk => List.map eB l) ear (j := 3) (vs := [3]) (by intro _; rfl) (by intro _; rfl) (by rw [List.length_map]; omega) (Ex.refl G3) fun pa H4 as n4 e4 h4 c1 c2 c3 c4 => ?_
    refine (ev_var (v := .ref a) rfl) H4 (Ex.refl _) _ fun H4' e4' => ?_
    have e44 := e4.trans e4'
    have a4 := e44 _ _ a3'
    refine ⟨a, _, dx, _, rfl, a4, T.cls_Draft, T.noat_Draft_own_arrivals, by show 3 < 1000; decide, ?_⟩
    rw [pd4]
    have paa : pa ≠ a := fun q => by rw [q, a3'] at n4; cases n4
    have q4 := (Only.of_ex (a := a) e44).upd (u := .ins (He.ga K "Draft") dx (d4 p1 p2 pw pa)) a4 trivial
    have tk4 := tk_upd (u := .ins (He.ga K "Draft") dx (d4 p1 p2 pw pa)) a4 trivial
    have h4' : upd H4' a (.ins (He.ga K "Draft") dx (d4 p1 p2 pw pa)) pa = some (.lst (as.map V.ref)) := by rw [upd_ne paa]; exact e4' _ _ h4
    have ca : ∀ b ∈ as, b ≠ a := fun b hb z => by
      have := (c3 b hb).2
      rw [z, a3'] at this
      cases this
    have hA : as.length = D.arrs.length := by rw [c1, List.length_map]
    have c4' : ∀ (i : Nat) b d, as[i]? = some b → D.arrs[i]? = some d → ∃ zs, upd H4' a (.ins (He.ga K "Draft") dx (d4 p1 p2 pw pa)) b = some (.lst zs) ∧ TdL K (upd H4' a (.ins (He.ga K "Draft") dx (d4 p1 p2 pw pa))) zs (d.map eB) := fun i b d hi hd => by
      obtain ⟨zs, z1, z2⟩ := c4 i b (d.map eB) hi (by rw [List.getElem?_map, hd] <;> rfl)
      exact ⟨zs, by rw [upd_ne (ca b (List.mem_of_getElem? hi))]; exact e4' _ _ z1, (z2.ex e4').keep tk4⟩
    have a4' : upd H4' a (.ins (He.ga K "Draft") dx (d4 p1 p2 pw pa)) a = some (.ins (He.ga K "Draft") dx (d4 p1 p2 pw pa)) := upd_same
    generalize upd H4' a (.ins (He.ga K "Draft") dx (d4 p1 p2 pw pa)) = G4 at q4 h4' c4' a4' ⊢
    have o4 := o3.trans q4
    have s4 := tkH o4 nst
    refine s_fldLD (ds := D.fl.map eMs) (eld_listT (ed_part (i := 4) s4 (ev_var rfl) rfl)) (ev_var rfl) a4' T.cls_Draft T.noat_Draft_own_flight (by show 4 < 1000; decide) fun pf x3 H5 n5 e5 h5 t5 => ?_
    rw [pd5]
    have pfa : pf ≠ a := fun q => by rw [q, a4'] at n5; cases n5
    have a5 := e5 _ _ a4'
    have q5 := (Only.of_ex (a := a) e5).upd (u := .ins (He.ga K "Draft") dx (d5 p1 p2 pw pa pf)) a5 trivial
    have h5' : upd H5 a (.ins (He.ga K "Draft") dx (d5 p1 p2 pw pa pf)) pf = some (.lst x3) := by rw [upd_ne pfa]; exact h5
    have t5' := t5.keep (tk_upd (u := .ins (He.ga K "Draft") dx (d5 p1 p2 pw pa pf)) a5 trivial)
    have a5' : upd H5 a (.ins (He.ga K "Draft") dx (d5 p1 p2 pw pa pf)) a = some (.ins (He.ga K "Draft") dx (d5 p1 p2 pw pa pf)) := upd_same
    generalize upd H5 a (.ins (He.ga K "Draft") dx (d5 p1 p2 pw pa pf)) = G5 at q5 h5' t5' a5' ⊢
    have q12345 := ((q2.trans q3).trans q4).trans q5
    have q345 := (q3.trans q4).trans q5
    have q45 := q4.trans q5
    have nz : ∀ {G : Hp} {b : Addr} {o : HO}, G b = some o → G b ≠ none := fun {G b o} h => by rw [h]; exact fun z => nomatch z
    have RW5 : ∀ (i : Nat) l w, ls[i]? = some l → D.wks[i]? = some w → RepW K G5 l w := fun i l w hi hd => ⟨fun r x hx => by
      obtain ⟨o, ho, _⟩ := ((l2' i l w hi hd).sat r x hx).obj
      exact ((l2' i l w hi hd).sat r x hx).keep ((q45.fr _ _ ho (la3 l (List.mem_of_getElem? hi) r)).trans ho.symm) q45.tk, (l2' i l w hi hd).inj, (l2' i l w hi hd).dead⟩
    have tl : ∀ {b : Addr}, b ≠ a → G3 b ≠ none → G4 b ≠ none := fun {b} _ h => q4.dm b h
    have tm1 : tmB H G1 G2 G3 G4 p1 = 1 := by
      unfold tmB
      have g1 := nz h1'
      rw [if_neg (nn_f (q4.dm _ (q3.dm _ (q2.dm _ g1)))), if_neg (nn_f (q3.dm _ (q2.dm _ g1))), if_neg (nn_f (q2.dm _ g1)), if_neg (nn_f g1), if_pos (nn_t n1)]
    have tm2 : tmB H G1 G2 G3 G4 p2 = 2 := by
      unfold tmB
      have g2 := nz h2'
      rw [if_neg (nn_f (q4.dm _ (q3.dm _ g2))), if_neg (nn_f (q3.dm _ g2)), if_neg (nn_f g2), if_pos (nn_t n2)]
    have tm3 : tmB H G1 G2 G3 G4 pw = 3 := by
      unfold tmB
      have g3 := nz h3'
      rw [if_neg (nn_f (q4.dm _ g3)), if_neg (nn_f g3), if_pos (nn_t n3)]
    have tm3' : ∀ l ∈ ls, ∀ r, tmB H G1 G2 G3 G4 (l r) = 3 := fun l hl r => by
      unfold tmB
      have g3 := l3' l hl r
      rw [if_neg (nn_f (q4.dm _ g3)), if_neg (nn_f g3), if_pos (nn_t (l3 l hl r).2.1)]
    have tm4 : tmB H G1 G2 G3 G4 pa = 4 := by
      unfold tmB
      rw [if_neg (nn_f (nz h4')), if_pos (nn_t n4)]
    have tm4' : ∀ b ∈ as, tmB H G1 G2 G3 G4 b = 4 := fun b hb => by
      obtain ⟨i, hi, rfl⟩ := List.getElem_of_mem hb
      obtain ⟨zs, z1, _⟩ := c4' i _ D.arrs[i] (List.getElem?_eq_getElem hi) (List.getElem?_eq_getElem (by omega))
      unfold tmB
      rw [if_neg (nn_f (nz z1)), if_pos (nn_t (c3 _ hb).2)]
    have tm5 : tmB H G1 G2 G3 G4 pf = 5 := by
      unfold tmB
      rw [if_pos (nn_t n5)]
    have tm0 : tmB H G1 G2 G3 G4 a = 0 := by
      unfold tmB
      rw [if_neg (nn_f (nz a4')), if_neg (nn_f (nz a3')), if_neg (nn_f (nz a2')), if_neg (nn_f (nz a1')), if_neg (nn_f (nz ha))]
    refine k G5 (lD a p1 p2 pw pa pf ls as) (o4.trans q5).fr (repD_of (dx := dx) (x1 := x1) (x2 := x2) (x3 := x3) l1 hA a5' (q12345.fr _ _ h1' p1a) (t1'.keep q12345.tk) (q345.fr _ _ h2' p2a) (t2'.keep q345.tk) h5' t5' (q45.fr _ _ h3' pwa) (q5.fr _ _ h4' paa) RW5 (fun i b d hi hd => ?_) (fun l hl r => (l3 l hl r).1) l4 (fun b hb => (c3 b hb).1) c2 (tmB H G1 G2 G3 G4) tm0 tm1 tm2 tm3 tm3' tm4 tm4' tm5) rfl fun r => ?_
    · obtain ⟨zs, z1, z2⟩ := c4' i b d hi hd
      exact ⟨zs, q5.fr _ _ z1 (ca b (List.mem_of_getElem? hi)), z2.keep q5.tk⟩
    · have fw : ∀ (i : Nat) (x : Wr), (ls[i]?).getD (fun _ => a) x = a ∨ H ((ls[i]?).getD (fun _ => a) x) = none := fun i x => by
        cases hl : ls[i]? with
        | none => exact .inl rfl
        | some l => exact .inr (o2.none (l3 l (List.mem_of_getElem? hl) x).2.1)
      cases r with
      | drf => exact .inl rfl
      | pages => exact .inr n1
      | slots => exact .inr (o1.none n2)
      | wks => exact .inr (o2.none n3)
      | arrs => exact .inr (o3.none n4)
      | flight => exact .inr (o4.none n5)
      | arr j =>
        show (as[j]?).getD a = a ∨ H ((as[j]?).getD a) = none
        cases hl : as[j]? with
        | none => exact .inl rfl
        | some b => exact .inr (o3.none (c3 b (List.mem_of_getElem? hl)).2)
      | wk i => exact fw i _
      | hand i => exact fw i _
      | caches i => exact fw i _
      | cache i => exact fw i _
      | bats i => exact fw i _
      | row i j => exact fw i _
      | bat i j => exact fw i _

end
end Rp
set_option Elab.async false
set_option linter.all false
set_option maxRecDepth 100000
set_option maxHeartbeats 4000000
set_option autoImplicit false
namespace Rp
open PySem PySem.Spec PyProof.Rows L2 Mx Evl Hf
section
variable {P : Program} {w : World} {K : Frg} {mg : Str → Option Value} {base : Heap}
theorem ok_Machine_threads (T : Txt K mg w) (F : FnD K d_Machine_threads)  : Ok P w K mg base 1 (pg K "Machine" "threads") ["self"] (spSet K 2) := by
  have sc : FnScope ["self"] ["self"] (defScope s_Machine_threads) := ⟨rfl, rfl, rfl, by decide +kernel, rfl, by decide +kernel, by decide +kernel⟩
  let nm : List Str := ["self"]
  refine ok_of F rfl rfl sc (fun _ _ _ _ _ _ us hl => match us, hl with | [_], _ => rfl) (fun vs H Q E h => ?_) (fun cdv A outer s H vs Q E hr h => ?_)
  · obtain ⟨m, dx, p, xs, v, rfl, _⟩ := h
    rfl
  · obtain ⟨m, dx, p, xs, v, rfl, hm, hs, hv, q⟩ := h
    refine ⟨_, (pss_one (ps_ret (pe_ix ix_tup (pe_fld (pv 0) rfl) pe_int (fun _ _ => rfl)))), ?_⟩
    exact ⟨_, rfl, m, _, dx, _, _, rfl, hm, T.cls_Machine, T.noat_Machine_settings, lk_Machine_settings, p, xs, (2 : Nat), v, rfl, rfl, hs, atI_nat hv, q⟩

end
end Rp
set_option Elab.async false
set_option linter.all false
set_option maxRecDepth 100000
set_option maxHeartbeats 4000000
set_option autoImplicit false
namespace Rp
open PySem PySem.Spec PyProof.Rows L2 Mx Evl Hf
section
variable {P : Program} {w : World} {K : Frg} {mg : Str → Option Value} {base : Heap}
theorem ok_Machine_is_served (T : Txt K mg w) (F : FnD K d_Machine_is_served) (G_Machine_threads : Ok P w K mg base 1 (pg K "Machine" "threads") ["self"] (spSet K 2)) (G_State_threads : Ok P w K mg base 1 (pg K "State" "threads") ["self"] (spPart K 2)) : Ok P w K mg base 3 (He.ma K (He.ga K "Machine") "is_served") ["self", "state", "socket"] (spServed K) := by
  have sc : FnScope ["self", "state", "socket", "own", "entry"] ["self", "state", "socket"] (defScope s_Machine_is_served) := ⟨rfl, rfl, rfl, by decide +kernel, rfl, by decide +kernel, by decide +kernel⟩
  let nm : List Str := ["self", "state", "socket", "own", "entry"]
  refine ok_of F rfl rfl sc (fun _ _ _ _ _ _ us hl => match us, hl with | [_, _, _], _ => rfl) (fun vs H Q E h => ?_) (fun cdv A outer s H vs Q E hr h => ?_)
  · obtain ⟨m, M, st, D, z, rfl, _⟩ := h
    rfl
  · obtain ⟨m, M, st, D, z, rfl, hm, hst, hl, hl2, k⟩ := h
    refine ⟨_, (pss_one (ps_ret (pe_callB (cr_any rfl) (by rfl) T.free_any (by decide +kernel) (pa_cons (pe_lc (own := [("own", 3), ("entry", 4)]) (g := (gTup K 2 (gCons (gName 3) (gCons (gName 4) gNil)))) (by rfl) sc.nd (RZ.pi_zipA (by rfl) T.free_zip (pa_cons (pe_propO (pv 0) T.cls_Machine T.prop_Machine_threads G_Machine_threads (hr.mono (by decide)) rfl) (pa_cons (pe_propO (pv 1) T.cls_State T.prop_State_threads G_State_threads (hr.mono (by decide)) rfl) pa_nil))) (blkOk_by (own := [("own", 3), ("entry", 4)]) (N := nm) (sc := defScope s_Machine_is_served) (by decide +kernel)) (fun _ _ _ _ _ => (pg_tup rfl (pgs_cons (pg_name (i := 3) sc.nd rfl (by first | exact Or.inl rfl | exact Or.inr rfl)) (pgs_cons (pg_name (i := 4) sc.nd rfl (by first | exact Or.inl rfl | exact Or.inr rfl)) pgs_nil)))) (fun _ _ _ _ _ => pts_nil) (fun _ _ _ _ _ => (pe_and (pe_cmpR op_eq (pe_ix (show IxR _ (rIxT K) from ix_tup) (pv 3) pe_int (fun _ _ => rfl)) (pv 2) (nomark _)) (pe_one (pe_cmpR op_eq (pe_ix (show IxR _ (rIxT K) from ix_tup) (pv 4) pe_int (fun _ _ => rfl)) pe_str (nomark _)))))) pa_nil)))), ?_⟩
    have e1 := ed_set (i := 2) (d := .tuple (M.thr.map eTh)) (ta := tVar 0) (σ := L2.start ["self", "state", "socket", "own", "entry"] [.ref m, .ref st, .int (z : Nat)]) hm (ev_var rfl) rfl
    have e2 := ed_part (i := 2) (d := .tuple (D.wks.map eWk)) (ta := tVar 1) (σ := L2.start ["self", "state", "socket", "own", "entry"] [.ref m, .ref st, .int (z : Nat)]) hst (ev_var rfl) rfl
    refine Evl.s_ret (v := .bl (served M D z)) (ev_is (ev_any (bs := (List.range (M.thr.map eTh).length).map fun t => decide (M.sock t = z) && (D.wk t).run) ?_) ?_) fun H1 e => k H1 e
    · rw [← rng_map]
      refine el_lcZT (fun t => .bl (decide (M.sock t = z) && (D.wk t).run)) e1 e2 (by rw [List.length_map, List.length_map, hl]) (by rw [List.length_map]; omega) fun i x y d e T' H1 ex hd he tx ty hT Q' q => ?_
      rw [List.getElem?_map] at hd he
      obtain ⟨th, hth, rfl⟩ := Option.map_eq_some_iff.mp hd
      obtain ⟨wk, hwk, rfl⟩ := Option.map_eq_some_iff.mp he
      refine ⟨T', _, rfl, st_of hT, rfl, g2 (q _ rfl ?_)⟩
      rw [wk_of hwk, sock_of (z := th.1) (ops := th.2) hth]
      refine ev_andV (ev_eqN (a := th.1) (b := z) (ed_ixT (j := 0) (d := eN th.1) (ed_var (i := 3) rfl tx) ev_c rfl rfl).int (ev_var rfl)) fun _ => ?_
      refine ev_is (ev_op (ed_ixT (j := 0) (d := .str (rnS wk.run)) (ed_var (i := 4) rfl ty) ev_c rfl rfl).str ev_c (rv_eq rfl)) ?_
      cases wk.run
      · rw [decide_eq_false (show ¬ (V.str (rnS false) = V.str "running") from wne _ _ (by decide +kernel : (("ended" : Str) == "running") = false))]
      · rw [decide_eq_true (show V.str (rnS true) = V.str "running" from rfl)]
    · rw [List.any_map, List.length_map, ← hl] <;> rfl

end
end Rp
set_option Elab.async false
set_option linter.all false
set_option maxRecDepth 100000
set_option maxHeartbeats 4000000
set_option autoImplicit false
namespace Rp
open PySem PySem.Spec PyProof.Rows L2 Mx Evl Hf
section
variable {P : Program} {w : World} {K : Frg} {mg : Str → Option Value} {base : Heap}
theorem ok_Machine_stops (T : Txt K mg w) (F : FnD K d_Machine_stops)  : Ok P w K mg base 1 (pg K "Machine" "stops") ["self"] (spSet K 7) := by
  have sc : FnScope ["self"] ["self"] (defScope s_Machine_stops) := ⟨rfl, rfl, rfl, by decide +kernel, rfl, by decide +kernel, by decide +kernel⟩
  let nm : List Str := ["self"]
  refine ok_of F rfl rfl sc (fun _ _ _ _ _ _ us hl => match us, hl with | [_], _ => rfl) (fun vs H Q E h => ?_) (fun cdv A outer s H vs Q E hr h => ?_)
  · obtain ⟨m, dx, p, xs, v, rfl, _⟩ := h
    rfl
  · obtain ⟨m, dx, p, xs, v, rfl, hm, hs, hv, q⟩ := h
    refine ⟨_, (pss_one (ps_ret (pe_ix ix_tup (pe_fld (pv 0) rfl) pe_int (fun _ _ => rfl)))), ?_⟩
    exact ⟨_, rfl, m, _, dx, _, _, rfl, hm, T.cls_Machine, T.noat_Machine_settings, lk_Machine_settings, p, xs, (7 : Nat), v, rfl, rfl, hs, atI_nat hv, q⟩

end
end Rp
set_option Elab.async false
set_option linter.all false
set_option maxRecDepth 100000
set_option maxHeartbeats 4000000
set_option autoImplicit false
namespace Rp
open PySem PySem.Spec PyProof.Rows L2 Mx Evl Hf
section
variable {P : Program} {w : World} {K : Frg} {mg : Str → Option Value} {base : Heap}
theorem ok_Stepper_init (T : Txt K mg w) (F : FnD K d_Stepper_init)  : Ok P w K mg base 1 (He.ma K (He.ga K "Stepper") "__init__") ["self", "machine", "draft"] (spStepperI K) := by
  have sc : FnScope ["self", "machine", "draft"] ["self", "machine", "draft"] (defScope s_Stepper_init) := ⟨rfl, rfl, rfl, by decide +kernel, rfl, by decide +kernel, by decide +kernel⟩
  let nm : List Str := ["self", "machine", "draft"]
  refine ok_of F rfl rfl sc (fun _ _ _ _ _ _ us hl => match us, hl with | [_, _, _], _ => rfl) (fun vs H Q E h => ?_) (fun cdv A outer s H vs Q E hr h => ?_)
  · obtain ⟨a, dx, m, d, rfl, _⟩ := h
    rfl
  · obtain ⟨a, dx, m, d, rfl, ha, k⟩ := h
    refine ⟨_, (pss_cons (ps_fld (pv 0) (pv 1) rfl) (pss_one (ps_fld (pv 0) (pv 2) rfl))), ?_⟩
    refine q_fld (ev_var rfl) (ev_var rfl) ha T.cls_Stepper T.noat_Stepper_owner (by decide) fun H1 e1 => ?_
    refine s_fld (ev_var rfl) (ev_var rfl) upd_same T.cls_Stepper T.noat_Stepper_draft (by show 1 < 1000; decide) fun H2 e2 => ?_
    refine k _ (fun x o hx hne => ?_) ?_
    · rw [upd_ne hne]
      exact e2 _ _ (by rw [upd_ne hne]; exact e1 _ _ hx)
    · rw [upd_same]
      show some (HO.ins _ dx (putF "draft" (.ref d) [("owner", .ref m)])) = _
      rw [putF_ne (by decide +kernel)]
      rfl

end
end Rp
set_option Elab.async false
set_option linter.all false
set_option maxRecDepth 100000
set_option maxHeartbeats 4000000
set_option autoImplicit false
namespace Rp
open PySem PySem.Spec PyProof.Rows L2 Mx Evl Hf
section
variable {P : Program} {w : World} {K : Frg} {mg : Str → Option Value} {base : Heap}
theorem eqv_small3 (z : Nat) : PyData.eqv (.tuple [.str "store"]) (.tuple [.str "small", eN z, eN 0]) = false := by
  have e1 : (("store" : Str) == ("small" : Str)) = false := by decide +kernel
  simp [PyData.eqv, PyData.eqvAll, e1]
theorem eqv_small3b (h z : Nat) : PyData.eqv (.tuple [.str "small", eN h, eN 0]) (.tuple [.str "small", eN z, eN 0]) = decide (h = z) := by
  have e1 : (("small" : Str) == ("small" : Str)) = true := by decide +kernel
  have e2 : ((h : Int) == (z : Int)) = decide (h = z) := by
    rw [Bool.eq_iff_iff, beq_iff_eq, decide_eq_true_iff]
    omega
  simp [eN, PyData.eqv, PyData.eqvAll, e1, e2]
theorem ok_Stepper_lists_with_blocks (T : Txt K mg w) (F : FnD K d_Stepper_lists_with_blocks)  : Ok P w K mg base 1 (He.ma K (He.ga K "Stepper") "lists_with_blocks") ["self", "kind", "socket"] (spLists K) := by
  have sc : FnScope ["self", "kind", "socket", "found", "page", "entry"] ["self", "kind", "socket"] (defScope s_Stepper_lists_with_blocks) := ⟨rfl, rfl, rfl, by decide +kernel, rfl, by decide +kernel, by decide +kernel⟩
  let nm : List Str := ["self", "kind", "socket", "found", "page", "entry"]
  refine ok_of F rfl rfl sc (fun _ _ _ _ _ _ us hl => match us, hl with | [_, _, _], _ => rfl) (fun vs H Q E h => ?_) (fun cdv A outer s H vs Q E hr h => ?_)
  · obtain ⟨s, M, loc, D, z, rfl, _⟩ := h
    rfl
  · obtain ⟨s, M, loc, D, z, rfl, S, hl, k⟩ := h
    refine ⟨_, (pss_cons (ps_set (i := 3) sc.nd rfl (by first | exact Or.inl rfl | exact Or.inr rfl) (pe_lst pa_nil)) (pss_cons (ps_for PassesOwn.never rfl (pi_enum (by rfl) T.free_enumerate (pa_cons (pe_fld (pe_fld (pv 0) rfl) rfl) pa_nil)) (pg_tup rfl (pgs_cons (pg_name (i := 4) sc.nd rfl (by first | exact Or.inl rfl | exact Or.inr rfl)) (pgs_cons (pg_name (i := 5) sc.nd rfl (by first | exact Or.inl rfl | exact Or.inr rfl)) pgs_nil))) (pss_one (ps_if (PW.pt (pw_and (pt_cmpR (op_eqD hr.units) (pe_slice sl_tupA (pv 5) po_none (po_some pe_int)) (pe_tup (pa_cons pe_str (pa_cons (pv 2) (pa_cons (pv 1) pa_nil)))) (nomark _)) (pw_and1 (pt_cmpR (op_neD hr.units) (pe_ix ix_tup (pv 5) pe_int (fun _ _ => rfl)) (pe_tup pa_nil) (nomark _))))) (pss_one (ps_expr (pe_bm PySem.F.plainAttrs_list PySem.F.slot_list_append PySem.F.type_list_append mt_append (pv 3) (pa_cons (pv 4) pa_nil)))) pss_nil))) (pss_one (ps_ret (pv 3))))), ?_⟩
    obtain ⟨xs, h1, h2⟩ := S.rep.atPages
    have hx : xs.length = D.pages.length := by rw [h2.length, List.length_map]
    refine q_asgL (xs := []) (el_lst ea_nil (by decide)) fun p H1 hp e1 hpl => ?_
    let fb : Nat → Bool := fun i => isList z (D.pg i)
    let vb : Nat → V := fun i => .int (i : Nat)
    let Pv : Nat → L2.St → Hp → Prop := fun i σ' H' => (σ'.length = 6 ∧ σ'[0]? = some (some (.ref s)) ∧ σ'[1]? = some (some (.int 0)) ∧ σ'[2]? = some (some (.int (z : Nat))) ∧ σ'[3]? = some (some (.ref p))) ∧ Ex H H' ∧ H' p = some (.lst (given i fb vb))
    refine s_forEH (E := ⟨_, _, _, _⟩) rfl (ev_pages T (S.ex e1) (ev_var rfl)) (SqL.of (e1 _ _ h1)) Pv (fun H2 e2 => ⟨⟨rfl, rfl, rfl, rfl, rfl⟩, e1.trans e2, e2 _ _ hpl⟩) (fun i σ' H' q => SqL.of (q.2.1 _ _ h1)) (fun i x σ' H' H2 hx' q e2 => ?_) fun σ' H' q => ?_
    · obtain ⟨⟨q0, q1, q2, q3, q4⟩, q5, q6⟩ := q
      obtain ⟨d, hd, td⟩ := h2.get' hx'
      rw [List.getElem?_map] at hd
      obtain ⟨x', hx2, rfl⟩ := Option.map_eq_some_iff.mp hd
      have hi : i < 1000 := by have := (List.getElem?_eq_some_iff.mp hx2).1; omega
      have tv := td.ex (q5.trans e2)
      have v5 : ((σ'.set 4 (some (.int (i : Nat)))).set 5 (some x))[5]? = some (some x) := st_2 q0 (by decide)
      have v2 : ((σ'.set 4 (some (.int (i : Nat)))).set 5 (some x))[2]? = some (some (.int (z : Nat))) := st_keep q3 (by decide) (by decide)
      have v1 : ((σ'.set 4 (some (.int (i : Nat)))).set 5 (some x))[1]? = some (some (.int 0)) := st_keep q2 (by decide) (by decide)
      have v3 : ((σ'.set 4 (some (.int (i : Nat)))).set 5 (some x))[3]? = some (some (.ref p)) := st_keep q4 (by decide) (by decide)
      have v4 : ((σ'.set 4 (some (.int (i : Nat)))).set 5 (some x))[4]? = some (some (.int (i : Nat))) := st_1 q0 (by decide) (by decide)
      have v0 : ((σ'.set 4 (some (.int (i : Nat)))).set 5 (some x))[0]? = some (some (.ref s)) := st_keep q1 (by decide) (by decide)
      have hfb : fb i = isList z x' := by show isList z (D.pg i) = _; rw [pg_of hx2]
      have small : EvD K (tTup (tCons (tC (V.str "small")) (tCons (tVar 2) (tCons (tVar 1) tNil)))) ((σ'.set 4 (some (.int (i : Nat)))).set 5 (some x)) H2 (.tuple [.str "small", eN z, eN 0]) := ed_tup (el_cons (ed_str ev_c) (el_cons (ed_int (ev_var v2)) (el_cons (ed_int (ev_var v1)) el_nil))) ble
      have sms : Sm 2 (.tuple [.str "small", eN z, eN 0]) := sm_tup (sml_cons (sm_str 1 (by decide +kernel)) (sml_cons (sm_n 1 z) (sml_cons (sm_n 1 0) (sml_nil 1))))
      refine s_when (b := fb i) (et_is (et_and (a := match x' with | .store => false | .small h f => decide (h = z)) (b := match x' with | .store => false | .small h f => !f.isEmpty) (et_test ?_) fun ha => et_test ?_) ?_) (fun hb H3 e3 => ?_) fun hb H3 e3 => ?_
      · cases x' with
        | store => exact ev_is (ev_eqD (ed_take (n := 3) (ed_var v5 tv) ev_c) small (sm_tup (sml_cons (sm_str 1 (by decide +kernel)) (sml_nil 1))).shp sms.shp) (by rw [show ([PyData.str "store"].take 3) = [.str "store"] from rfl, eqv_small3])
        | small h f => exact ev_is (ev_eqD (ed_take (n := 3) (ed_var v5 tv) ev_c) small (sm_tup (sml_cons (sm_str 1 (by decide +kernel)) (sml_cons (sm_n 1 h) (sml_cons (sm_n 1 0) (sml_nil 1))))).shp sms.shp) (congrArg V.bl (eqv_small3b h z))
      · cases x' with
        | store => cases ha
        | small h f => exact ev_is (ev_neD (ed_ixT (j := 3) (d := .tuple (f.map eN)) (ed_var v5 tv) ev_c rfl rfl) (ed_tup el_nil ble) (sm_tup (sml_map (sm_n 1) f)).shp (sm_tup (sml_nil 1)).shp) (by rw [eqv_nilT]; cases f <;> rfl)
      · refine Eq.trans ?_ hfb.symm
        cases x' <;> rfl
      · refine Evl.s_app (l := p) (xs := given i fb vb) ((e2.trans e3) _ _ q6) (ev_var v3) (ev_var v4) (by have := given_len i fb vb; omega) fun H4 e4 => ?_
        refine ⟨⟨st_len q0, v0, v1, v2, v3⟩, ?_, ?_⟩
        · exact Ex.mut (((q5.trans e2).trans e3).trans e4) hp
        · rw [given_yes hb]
          exact upd_same
      · refine ⟨⟨st_len q0, v0, v1, v2, v3⟩, (q5.trans e2).trans e3, ?_⟩
        rw [given_no hb]
        exact (e2.trans e3) _ _ q6
    · obtain ⟨⟨q0, q1, q2, q3, q4⟩, q5, q6⟩ := q
      dsimp only
      refine Evl.s_ret (ev_var q4) fun H2 e2 => k p H2 (q5.trans e2) hp ?_
      rw [e2 _ _ q6, hx] <;> rfl

end
end Rp
set_option Elab.async false
set_option linter.all false
set_option maxRecDepth 100000
set_option maxHeartbeats 4000000
set_option autoImplicit false
namespace Rp
open PySem PySem.Spec PyProof.Rows L2 Mx Evl Hf
section
variable {P : Program} {w : World} {K : Frg} {mg : Str → Option Value} {base : Heap}
theorem eqv_spare (x : Pg) (z : Nat) : PyData.eqv (ePg x) (.tuple [.str "spare", eN z]) = false := by
  have e1 : (("store" : Str) == ("spare" : Str)) = false := by decide +kernel
  have e2 : (("small" : Str) == ("spare" : Str)) = false := by decide +kernel
  cases x <;> simp [ePg, PyData.eqv, PyData.eqvAll, e1, e2]
theorem ok_Stepper_spare_pages (T : Txt K mg w) (F : FnD K d_Stepper_spare_pages)  : Ok P w K mg base 1 (He.ma K (He.ga K "Stepper") "spare_pages") ["self", "socket"] (spSpare K) := by
  have sc : FnScope ["self", "socket", "page", "entry"] ["self", "socket"] (defScope s_Stepper_spare_pages) := ⟨rfl, rfl, rfl, by decide +kernel, rfl, by decide +kernel, by decide +kernel⟩
  let nm : List Str := ["self", "socket", "page", "entry"]
  refine ok_of F rfl rfl sc (fun _ _ _ _ _ _ us hl => match us, hl with | [_, _], _ => rfl) (fun vs H Q E h => ?_) (fun cdv A outer s H vs Q E hr h => ?_)
  · obtain ⟨s, M, loc, D, z, rfl, _⟩ := h
    rfl
  · obtain ⟨s, M, loc, D, z, rfl, S, hl, k⟩ := h
    refine ⟨_, (pss_one (ps_ret (pe_lc (own := [("page", 2), ("entry", 3)]) (g := (gTup K 2 (gCons (gName 2) (gCons (gName 3) gNil)))) (by rfl) sc.nd (pi_enum (by rfl) T.free_enumerate (pa_cons (pe_fld (pe_fld (pv 0) rfl) rfl) pa_nil)) (blkOk_by (own := [("page", 2), ("entry", 3)]) (N := nm) (sc := defScope s_Stepper_spare_pages) (by decide +kernel)) (fun _ _ _ _ _ => (pg_tup rfl (pgs_cons (pg_name (i := 2) sc.nd rfl (by first | exact Or.inl rfl | exact Or.inr rfl)) (pgs_cons (pg_name (i := 3) sc.nd rfl (by first | exact Or.inl rfl | exact Or.inr rfl)) pgs_nil)))) (fun _ _ _ _ _ => pts_one (pt_cmpR (show OpR _ _ (rEqD K) from (op_eqD hr.units)) (pv 3) (pe_tup (pa_cons pe_str (pa_cons (pv 1) pa_nil))) (nomark _))) (fun _ _ _ _ _ => (pv 2))))), ?_⟩
    obtain ⟨xs, h1, h2⟩ := S.rep.atPages
    have hx : xs.length = D.pages.length := by rw [h2.length, List.length_map]
    refine s_retL (xs := []) (fun H1 e Q' q => el_lcE (fun _ => false) (fun i => .int (i : Nat)) rfl (ev_pages T S (ev_var rfl)) (SqL.of h1) (by omega) (fun _ _ => rfl) (fun i x H1 e hx => ?_) (fun _ _ _ _ _ h => nomatch h) H1 e Q' (by rw [given_none]; exact q)) fun p H1 hp e h1 => k p H1 e hp h1
    obtain ⟨d, hd, td⟩ := h2.get' hx
    rw [List.getElem?_map] at hd
    obtain ⟨x', hx', rfl⟩ := Option.map_eq_some_iff.mp hd
    refine et_test (ev_is (ev_eqD (e := .tuple [.str "spare", eN z]) (ed_var rfl (td.ex e)) (ed_tup (el_cons (ed_str ev_c) (el_cons (ed_int (ev_var rfl)) el_nil)) ble) (sm_pg x').shp (sm_tup (sml_cons (sm_str 1 (by decide +kernel)) (sml_cons (sm_n 1 z) (sml_nil 1)))).shp) ?_)
    rw [eqv_spare]

end
end Rp
set_option Elab.async false
set_option linter.all false
set_option maxRecDepth 100000
set_option maxHeartbeats 4000000
set_option autoImplicit false
namespace Rp
open PySem PySem.Spec PyProof.Rows L2 Mx Evl Hf
section
variable {P : Program} {w : World} {K : Frg} {mg : Str → Option Value} {base : Heap}
theorem eqv_store (x : Pg) : PyData.eqv (ePg x) (ePg .store) = isStore x := by
  have e1 : (("store" : Str) == ("store" : Str)) = true := by decide +kernel
  have e2 : (("small" : Str) == ("store" : Str)) = false := by decide +kernel
  cases x <;> simp [ePg, PyData.eqv, PyData.eqvAll, e1, e2, isStore]
theorem ok_Stepper_page_to_open (T : Txt K mg w) (F : FnD K d_Stepper_page_to_open) (G_Stepper_spare_pages : Ok P w K mg base 1 (He.ma K (He.ga K "Stepper") "spare_pages") ["self", "socket"] (spSpare K)) : Ok P w K mg base 2 (He.ma K (He.ga K "Stepper") "page_to_open") ["self", "socket"] (spToOpen K) := by
  have sc : FnScope ["self", "socket", "found", "page", "entry"] ["self", "socket"] (defScope s_Stepper_page_to_open) := ⟨rfl, rfl, rfl, by decide +kernel, rfl, by decide +kernel, by decide +kernel⟩
  let nm : List Str := ["self", "socket", "found", "page", "entry"]
  refine ok_of F rfl rfl sc (fun _ _ _ _ _ _ us hl => match us, hl with | [_, _], _ => rfl) (fun vs H Q E h => ?_) (fun cdv A outer s H vs Q E hr h => ?_)
  · obtain ⟨s, M, loc, D, z, rfl, _⟩ := h
    rfl
  · obtain ⟨s, M, loc, D, z, rfl, S, hl, k⟩ := h
    refine ⟨_, (pss_cons (ps_set (i := 2) sc.nd rfl (by first | exact Or.inl rfl | exact Or.inr rfl) (pe_methO (pv 0) T.cls_Stepper T.meth_Stepper_spare_pages G_Stepper_spare_pages (hr.mono (by decide)) (pa_cons (pv 1) pa_nil))) (pss_cons (ps_if (pt_cmpR (op_eqD hr.units) (pv 2) (pe_lst pa_nil) (nomark _)) (pss_one (ps_setLc (i := 2) (own := [("page", 3), ("entry", 4)]) (g := (gTup K 2 (gCons (gName 3) (gCons (gName 4) gNil)))) (by rfl) sc.nd rfl rfl (sw_true rfl rfl rfl (by decide +kernel)) (pi_enum (by rfl) T.free_enumerate (pa_cons (pe_fld (pe_fld (pv 0) rfl) rfl) pa_nil)) (blkOk_by (own := [("page", 3), ("entry", 4)]) (N := nm) (sc := defScope s_Stepper_page_to_open) (by decide +kernel)) (fun _ _ _ _ _ => (pg_tup rfl (pgs_cons (pg_name (i := 3) sc.nd rfl (by first | exact Or.inl rfl | exact Or.inr rfl)) (pgs_cons (pg_name (i := 4) sc.nd rfl (by first | exact Or.inl rfl | exact Or.inr rfl)) pgs_nil)))) (fun _ _ _ _ _ => pts_one (pt_cmpR (show OpR _ _ (rEqD K) from (op_eqD hr.units)) (pv 4) (pe_glob (v := .ref _) (by rfl) T.glo_STORE rfl) (nomark _))) (fun _ _ _ _ _ => (pv 3)))) pss_nil) (pss_one (ps_ret (pe_ifExp (pt_cmpR (op_neD hr.units) (pv 2) (pe_lst pa_nil) (nomark _)) (pe_ix ix_list (pv 2) pe_int (fun _ _ => rfl)) pe_non))))), ?_⟩
    obtain ⟨xs, h1, h2⟩ := S.rep.atPages
    have hx : xs.length = D.pages.length := by rw [h2.length, List.length_map]
    refine q_asgL (el_spare (z := z) S (ev_var rfl) (ev_var rfl) hl) fun p H1 hp e1 hp1 => ?_
    have S1 := S.ex e1
    have eL : ∀ σ' : L2.St, σ' = ((L2.start ["self", "socket", "found", "page", "entry"] [V.ref s, .int (z : Nat)]).set 2 (some (.ref p))) → ∀ H2, Ex H1 H2 → EvL (tLc (iEnum K (tCons (tFld K (tFld K (tVar 0) "draft") "own_pages") tNil)) (gTup K 2 (gCons (gName 3) (gCons (gName 4) gNil))) (tTest (tOp (rEqD K) (tVar 4) (tC (V.ref (He.ga K "STORE"))))) (tVar 3) [3, 4]) σ' H2 ((storePages D).map fun (n : Nat) => V.int n) := by
      rintro σ' rfl H2 e2
      have S2 := S1.ex e2
      intro H3 e3 Q' q
      refine el_lcE (fun i => isStore (D.pg i)) (fun i => .int (i : Nat)) rfl (ev_pages T S2 (ev_var rfl)) (SqL.of ((e1.trans e2) _ _ h1)) (by omega) (fun _ _ => rfl) (fun i x H4 e4 hx => ?_) (fun i x H4 e4 _ _ => ev_var rfl) H3 e3 Q' ?_
      · obtain ⟨d, hd, td⟩ := h2.get' hx
        rw [List.getElem?_map] at hd
        obtain ⟨x', hx', rfl⟩ := Option.map_eq_some_iff.mp hd
        refine et_test (ev_is (ev_eqD (ed_var rfl (td.ex ((e1.trans e2).trans e4))) (ed_store T) (sm_pg x').shp (sm_pg .store).shp) ?_)
        rw [eqv_store, pg_of hx']
      · rw [hx]
        exact q
    refine q_if (et_test (ev_nNil (l := []) (ev_var rfl) hp1)) (fun _ H2 e2 => ?_) (fun hb => nomatch hb)
    refine s_asgL (eL _ rfl H2 e2) fun r H3 hr e3 hr3 => ?_
    dsimp only
    refine s_ret (v := vOpt (pageToOpen D)) (ev_if (et_test (ev_nNot (l := storePages D) (ev_var rfl) hr3)) (fun hb => ?_) fun hb => ?_) fun H4 e4 => k H4 (((e1.trans e2).trans e3).trans e4)
    · cases hs : storePages D with
      | nil =>
        rw [hs] at hb
        cases hb
      | cons x l =>
        rw [hs] at hr3
        show Ev _ _ _ (vOpt (storePages D).head?)
        rw [hs]
        exact ev_ixL (j := 0) (ev_var rfl) (SqL.of hr3) ev_c rfl
    · cases hs : storePages D with
      | nil =>
        show Ev _ _ _ (vOpt (storePages D).head?)
        rw [hs]
        exact ev_c
      | cons x l =>
        rw [hs] at hb
        cases hb

end
end Rp
set_option Elab.async false
set_option linter.all false
set_option maxRecDepth 100000
set_option maxHeartbeats 4000000
set_option autoImplicit false
namespace Rp
open PySem PySem.Spec PyProof.Rows L2 Mx Evl Hf
section
variable {P : Program} {w : World} {K : Frg} {mg : Str → Option Value} {base : Heap}
theorem ph_send (q : Ph) : inV (.str (phS q)) [.str "send", .str "clear", .str "get"] = decide (q = .send) := by cases q <;> decide +kernel
theorem sl_none (X : Sl) (v : V) (K : Frg) (H : Hp) (t : Td K H v (eSl X)) : decide (v = .non) = decide (X = .non) := by
  cases X with
  | non =>
    obtain rfl := Td.non_iff.mp t
    simp
  | blk b =>
    obtain ⟨a, xs, rfl, _⟩ := Td.tup_inv (ds := [.str "block", eN b.1, eN b.2]) t
    rw [decide_eq_false (by intro h; cases h), decide_eq_false (by intro h; cases h)]
  | fail =>
    obtain ⟨a, xs, rfl, _⟩ := Td.tup_inv (ds := [.str "failure"]) t
    rw [decide_eq_false (by intro h; cases h), decide_eq_false (by intro h; cases h)]
theorem ok_Stepper_is_waiting (T : Txt K mg w) (F : FnD K d_Stepper_is_waiting) (G_Machine_threads : Ok P w K mg base 1 (pg K "Machine" "threads") ["self"] (spSet K 2)) (G_Stepper_lists_with_blocks : Ok P w K mg base 1 (He.ma K (He.ga K "Stepper") "lists_with_blocks") ["self", "kind", "socket"] (spLists K)) (G_Stepper_page_to_open : Ok P w K mg base 2 (He.ma K (He.ga K "Stepper") "page_to_open") ["self", "socket"] (spToOpen K)) : Ok P w K mg base 3 (He.ma K (He.ga K "Stepper") "is_waiting") ["self", "thread"] (spWaiting K) := by
  have sc : FnScope ["self", "thread", "worker", "slot", "kind", "socket", "program", "word", "numbers"] ["self", "thread"] (defScope s_Stepper_is_waiting) := ⟨rfl, rfl, rfl, by decide +kernel, rfl, by decide +kernel, by decide +kernel⟩
  let nm : List Str := ["self", "thread", "worker", "slot", "kind", "socket", "program", "word", "numbers"]
  refine ok_of F rfl rfl sc (fun _ _ _ _ _ _ us hl => match us, hl with | [_, _], _ => rfl) (fun vs H Q E h => ?_) (fun cdv A outer s H vs Q E hr h => ?_)
  · obtain ⟨s, M, loc, D, t, wk, ops, z, rfl, _⟩ := h
    rfl
  · obtain ⟨s, M, loc, D, t, wk, ops, z, rfl, S, F1, hw, hth, hpc, k⟩ := h
    refine ⟨_, (pss_cons (ps_set (i := 2) sc.nd rfl (by first | exact Or.inl rfl | exact Or.inr rfl) (pe_ix ix_list (pe_fld (pe_fld (pv 0) rfl) rfl) (pv 1) (fun _ _ => rfl))) (pss_cons (ps_asg (pe_ix ix_tup (pe_propO (pe_fld (pv 0) rfl) T.cls_Machine T.prop_Machine_threads G_Machine_threads (hr.mono (by decide)) rfl) (pv 1) (fun _ _ => rfl)) (pg_tup rfl (pgs_cons (pg_name (i := 5) sc.nd rfl (by first | exact Or.inl rfl | exact Or.inr rfl)) (pgs_cons (pg_name (i := 6) sc.nd rfl (by first | exact Or.inl rfl | exact Or.inr rfl)) pgs_nil)))) (pss_cons (ps_if (pt_cmpR op_eq (pe_fld (pv 2) rfl) (pe_callB Ru.cr_len (by rfl) T.free_len PySem.boot_len (pa_cons (pv 6) pa_nil)) (nomark _)) (pss_one (ps_ret pe_bl)) pss_nil) (pss_cons (ps_asg (pe_ix ix_tup (pv 6) (pe_fld (pv 2) rfl) (fun _ _ => rfl)) (Ru.pg_star (i := 7) (j := 8) rfl sc.nd rfl rfl (by first | exact Or.inl rfl | exact Or.inr rfl) (by first | exact Or.inl rfl | exact Or.inr rfl))) (pss_cons (ps_if (PW.pt (pw_or (pt_cmpR op_eq (pv 7) pe_str (nomark _)) (pw_or1 (pt_cmpR op_in_seq (pe_fld (pv 2) rfl) (pe_tup (pa_cons pe_str (pa_cons pe_str (pa_cons pe_str pa_nil)))) (by rfl))))) (pss_one (ps_ret pe_bl)) pss_nil) (pss_cons (ps_set (i := 3) sc.nd rfl (by first | exact Or.inl rfl | exact Or.inr rfl) (pe_ix ix_list (pe_fld (pe_fld (pv 0) rfl) rfl) (pe_ix ix_list (pv 8) (pe_un un_neg pe_int) (fun _ _ => rfl)) (fun _ _ => rfl))) (pss_cons (ps_if (pt_cmpR op_eq (pv 7) pe_str (nomark _)) (pss_one (ps_ret (pe_cmpR op_notN (pv 3) pe_non (nomark _)))) pss_nil) (pss_cons (ps_if (pt_cmpR op_ne (pv 7) pe_str (nomark _)) (pss_one (ps_ret (pe_cmpR op_isN (pv 3) pe_non (nomark _)))) pss_nil) (pss_cons (ps_set (i := 4) sc.nd rfl (by first | exact Or.inl rfl | exact Or.inr rfl) (pe_ix ix_list (pv 8) pe_int (fun _ _ => rfl))) (pss_cons (ps_if (pt_cmpR op_eq (pe_fld (pv 2) rfl) pe_str (nomark _)) (pss_one (ps_ret (pe_and (pe_cmpR (op_neD hr.units) (pe_ix ix_list (pe_fld (pv 2) rfl) (pv 4) (fun _ _ => rfl)) (pe_lst pa_nil) (nomark _)) (pe_one (pe_cmpR op_notN (pv 3) pe_non (nomark _)))))) pss_nil) (pss_cons (ps_if (PW.pt (pw_or (pt_cmpR (op_neD hr.units) (pe_fld (pv 2) rfl) (pe_lst pa_nil) (nomark _)) (pw_or1 (pt_cmpR (op_neD hr.units) (pe_methO (pv 0) T.cls_Stepper T.meth_Stepper_lists_with_blocks G_Stepper_lists_with_blocks (hr.mono (by decide)) (pa_cons (pv 4) (pa_cons (pv 5) pa_nil))) (pe_lst pa_nil) (nomark _))))) (pss_one (ps_ret pe_bl)) pss_nil) (pss_one (ps_ret (pe_and (pe_cmpR op_isN (pe_methO (pv 0) T.cls_Stepper T.meth_Stepper_page_to_open G_Stepper_page_to_open (hr.mono (by decide)) (pa_cons (pv 5) pa_nil)) pe_non (nomark _)) (pe_one (pe_cmpR op_notN (pv 3) pe_non (nomark _))))))))))))))))), ?_⟩
    have hwt : waiting M D t = match ops[wk.pc]? with
        | none => false
        | some .drain => false
        | some (.alloc s) =>
          if wk.ph = .send then false
          else if wk.ph = .begin then !wk.cache.isEmpty && decide (D.sl s ≠ .non)
          else if !wk.hand.isEmpty || !(listsWith D z).isEmpty then false
          else (pageToOpen D).isNone && decide (D.sl s ≠ .non)
        | some (.free s) => if wk.ph = .send then false else decide (D.sl s = .non)
        | some (.adopt s) => if wk.ph = .send then false else decide (D.sl s = .non) := by
      unfold waiting
      rw [prog_of hth, sock_of hth, wk_of hw] <;> rfl
    have hpl : D.pages.length ≤ 1000 := by rw [F1.pg]; decide
    refine q_asg (ev_worker T S (ev_var rfl) (ev_var rfl) hw) fun H1 e1 => ?_
    have S1 := S.ex e1
    refine q_asg2D rfl (ed_thread T S1 (ev_var rfl) (ev_var rfl) hth) fun v1 v2 H2 e2 t1 t2 => ?_
    obtain rfl := Td.int_iff.mp t1
    have S2 := S1.ex e2
    have elen := ev_lenD (K := K) (ed_var (σ := (((L2.start ["self", "thread", "worker", "slot", "kind", "socket", "program", "word", "numbers"] [V.ref s, V.int (t : Nat)]).set 2 (some (.ref (loc (.wk t))))).set 5 (some (.int (z : Nat)))).set 6 (some v2)) (i := 6) rfl t2)
    rw [List.length_map] at elen
    refine q_when (et_test (ev_eqN (ev_at T S2.rep hw (ev_var rfl)) elen)) (fun hb H3 e3 => ?_) fun hb H3 e3 => ?_
    · have ho : ops[wk.pc]? = none := List.getElem?_eq_none (by have := of_decide_eq_true hb; omega)
      rw [ho] at hwt
      exact Evl.s_ret ev_c fun H4 e4 => by rw [hwt] at k; exact k H4 (((e1.trans e2).trans e3).trans e4)
    · have hb2 := of_decide_eq_false hb
      have hlt : wk.pc < ops.length := by omega
      have ho := List.getElem?_eq_getElem hlt
      have hsl := (F1.prg t _ hth).2.2 _ (List.getElem_mem hlt)
      generalize ops[wk.pc] = o at ho hsl
      have S3 := S2.ex e3
      rw [ho] at hwt
      refine q_star (o := o) (ed_ixT (j := wk.pc) (d := eOp o) (ed_var (i := 6) rfl (t2.ex e3)) (ev_at T S3.rep hw (ev_var rfl)) (ixN_of (by rw [List.length_map]; exact hlt)) (by rw [List.getElem?_map, ho] <;> rfl)) fun p H4 hp e4 h4 => ?_
      have S4 := S3.ex e4
      have x04 := ((e1.trans e2).trans e3).trans e4
      refine q_when (b := decide (o = .drain) || decide (wk.ph = .send)) (et_or (et_test (ev_is (ev_op (ev_var (v := .str (opW o)) rfl) ev_c (rv_eq rfl)) (by rw [opW_drain]))) fun _ => et_test (ev_is (ev_inU (ev_phase T S4.rep hw (ev_var rfl)) (eu_tup (ea_cons ev_c (ea_cons ev_c (ea_cons ev_c ea_nil))) (by show 3 ≤ _; decide)) rfl rfl) (by rw [ph_send]))) (fun hb5 H5 e5 => ?_) fun hb5 H5 e5 => ?_
      · refine Evl.s_ret ev_c fun H6 e6 => ?_
        have : waiting M D t = false := by
          rw [hwt]
          rw [Bool.or_eq_true, decide_eq_true_iff, decide_eq_true_iff] at hb5
          rcases hb5 with rfl | hb5
          · rfl
          · cases o <;> simp [hb5]
        rw [this] at k
        exact k H6 ((x04.trans e5).trans e6)
      · rw [Bool.or_eq_false_iff, decide_eq_false_iff_not, decide_eq_false_iff_not] at hb5
        obtain ⟨hnd, hns⟩ := hb5
        have S5 := S4.ex e5
        have h5 := e5 _ _ h4
        obtain ⟨q, hq1, hq2⟩ : ∃ q, opSlots o = [q] ∧ (opN o)[(opN o).length - 1]? = some (q : Int) := by
          cases o with
          | drain => exact absurd rfl hnd
          | _ => exact ⟨_, rfl, rfl⟩
        have hqs : q < D.slots.length := by rw [F1.sl]; exact hsl q (by rw [hq1]; exact List.mem_singleton.mpr rfl)
        have hs0 := List.getElem?_eq_getElem hqs
        generalize hX : D.slots[q] = X at hs0
        have hon : 0 < (opN o).length := by
          cases hn : opN o with
          | nil => rw [hn] at hq2; cases hq2
          | cons _ _ => exact Nat.succ_pos _
        have elast : Ev (tOp (rIxL K) (tVar 8) (tUn (rU fun i => V.int (-i)) (tC (V.int 1)))) ((((((L2.start ["self", "thread", "worker", "slot", "kind", "socket", "program", "word", "numbers"] [V.ref s, V.int (t : Nat)]).set 2 (some (.ref (loc (.wk t))))).set 5 (some (.int (z : Nat)))).set 6 (some v2)).set 7 (some (.str (opW o)))).set 8 (some (.ref p))) H5 (.int (q : Nat)) :=
          ev_op (ev_var rfl) (ev_un ev_c ru_neg) (rv_ixL (SqL.of h5) (by
            cases o with
            | drain => exact absurd rfl hnd
            | alloc s => cases hq1; rfl
            | free s => cases hq1; rfl
            | adopt s => cases hq1; rfl))
        refine q_asgD (ed_slot T S5 (ev_var rfl) elast hs0) fun v H6 e6 t6 => ?_
        have S6 := S5.ex e6
        have x06 := (x04.trans e5).trans e6
        have h6 := e6 _ _ h5
        refine q_when (et_test (ev_noStr (x := opW o) (ev_var rfl) (opW_large o))) (fun hb => nomatch hb) fun _ H7 e7 => ?_
        refine q_when (b := !isAl o) (et_test (ev_is (ev_op (ev_var (v := .str (opW o)) rfl) ev_c (rv_ne rfl)) (by rw [opW_alloc]))) (fun hb8 H8 e8 => ?_) fun hb8 H8 e8 => ?_
        · refine Evl.s_ret (ev_isNon (ev_var (v := v) rfl)) fun H9 e9 => ?_
          have : waiting M D t = decide (v = .non) := by
            rw [hwt, sl_none X v K H6 t6]
            cases o with
            | alloc s => cases hb8
            | drain => exact absurd rfl hnd
            | free s => cases hq1; simp [hns, sl_of hs0]
            | adopt s => cases hq1; simp [hns, sl_of hs0]
          rw [this] at k
          exact k H9 (((x06.trans e7).trans e8).trans e9)
        · cases o with
          | drain => cases hb8
          | free s => cases hb8
          | adopt s => cases hb8
          | alloc q' =>
            cases hq1
            have S8 := (S6.ex e7).ex e8
            have h8 := e8 _ _ (e7 _ _ h6)
            have x08 := (x06.trans e7).trans e8
            refine q_asg (v := .int ((0 : Nat) : Int)) (ev_ixL (j := 0) (ev_var rfl) (SqL.of h8) ev_c rfl) fun H9 e9 => ?_
            have S9 := S8.ex e9
            have hvn : (!decide (v = .non)) = decide (D.sl q ≠ .non) := by
              rw [sl_none X v K H6 t6, sl_of hs0]
              by_cases qx : X = .non
              · rw [decide_eq_true qx, decide_eq_false (fun z => z qx)] <;> rfl
              · rw [decide_eq_false qx, decide_eq_true qx] <;> rfl
            refine q_when (et_test (ev_isPh .begin (ev_phase T S9.rep hw (ev_var rfl)))) (fun hb10 H10 e10 => ?_) fun hb10 H10 e10 => ?_
            · have hpb := of_decide_eq_true hb10
              have S10 := S9.ex e10
              obtain ⟨ys, y1, y2⟩ := S10.rep.atCache hw
              refine Evl.s_ret (ev_andV (ev_lNot (ev_cache T S10.rep hw (ev_var rfl) (ev_var rfl)) y1 y2) fun _ => ev_notNon (ev_var (v := v) rfl)) fun H11 e11 => ?_
              have : waiting M D t = (!wk.cache.isEmpty && !decide (v = .non)) := by
                rw [hwt, hvn]
                simp [hpb]
              rw [this] at k
              exact k H11 (((x08.trans e9).trans e10).trans e11)
            · have hpb := of_decide_eq_false hb10
              have S10 := S9.ex e10
              obtain ⟨xs, x1, x2⟩ := S10.rep.atHand hw
              have x010 := (x08.trans e9).trans e10
              refine q_when (et_or (et_test (ev_lNot (ev_hand T S10.rep hw (ev_var rfl)) x1 x2)) fun _ => et_test (ev_nNotN (el_lists (z := z) S10 (ev_var rfl) (ev_var rfl) (ev_var rfl) hpl))) (fun hb11 H11 e11 => ?_) fun hb11 H11 e11 => ?_
              · refine Evl.s_ret ev_c fun H12 e12 => ?_
                have : waiting M D t = false := by
                  rw [hwt]
                  show (if wk.ph = .send then false else if wk.ph = .begin then _ else _) = _
                  rw [if_neg hns, if_neg hpb, if_pos hb11]
                rw [this] at k
                exact k H12 ((x010.trans e11).trans e12)
              · have S11 := S10.ex e11
                refine Evl.s_ret (ev_andV (ev_isNon (ev_toOpen (z := z) S11 (ev_var rfl) (ev_var rfl) hpl)) fun _ => ev_notNon (ev_var (v := v) rfl)) fun H12 e12 => ?_
                have : waiting M D t = (decide (vOpt (pageToOpen D) = .non) && !decide (v = .non)) := by
                  rw [hwt, hvn]
                  show (if wk.ph = .send then false else if wk.ph = .begin then _ else _) = _
                  rw [if_neg hns, if_neg hpb, if_neg (by rw [hb11]; decide)]
                  congr 1
                  cases pageToOpen D with
                  | none => simp [vOpt]
                  | some p => simp [vOpt]
                rw [this] at k
                exact k H12 ((x010.trans e11).trans e12)

end
end Rp
set_option Elab.async false
set_option linter.all false
set_option maxRecDepth 100000
set_option maxHeartbeats 4000000
set_option autoImplicit false
namespace Rp
open PySem PySem.Spec PyProof.Rows L2 Mx Evl Hf
section
variable {P : Program} {w : World} {K : Frg} {mg : Str → Option Value} {base : Heap}
theorem filter_succ (f : Nat → Bool) (i : Nat) : (List.range (i + 1)).filter f = (List.range i).filter f ++ (if f i = true then [i] else []) := by
  rw [List.range_succ, List.filter_append]
  congr 1
  cases h : f i <;> simp [h]
theorem tdl_zip {K : Frg} {H : Hp} : ∀ {xs : List V} {l : List Mv}, TdL K H xs (l.map eMv) → ∀ p ∈ xs.zip l, Td K H p.1 (eMv p.2)
  | [], _, _, p, hp => by cases hp
  | _ :: _, [], h, p, hp => by cases hp
  | v :: xs, x :: l, h, p, hp => by
    obtain ⟨v', ws, e, t1, t2⟩ := h.cons_inv
    cases e
    rw [List.zip_cons_cons] at hp
    rcases List.mem_cons.mp hp with rfl | hp
    · exact t1
    · exact tdl_zip t2 p hp
theorem tdl_of {K : Frg} {H : Hp} : ∀ {zs : List (V × Mv)}, (∀ p ∈ zs, Td K H p.1 (eMv p.2)) → TdL K H (zs.map Prod.fst) ((zs.map Prod.snd).map eMv)
  | [], _ => .nil
  | z :: zs, h => .cons (h z List.mem_cons_self) (tdl_of fun p hp => h p (List.mem_cons_of_mem _ hp))
theorem ok_Machine_moves (T : Txt K mg w) (F : FnD K d_Machine_moves) (G_Draft_init : Ok P w K mg base 3 (He.ma K (He.ga K "Draft") "__init__") ["self", "state"] (spDraftI K)) (G_Machine_is_served : Ok P w K mg base 3 (He.ma K (He.ga K "Machine") "is_served") ["self", "state", "socket"] (spServed K)) (G_Machine_stops : Ok P w K mg base 1 (pg K "Machine" "stops") ["self"] (spSet K 7)) (G_State_arrivals : Ok P w K mg base 1 (pg K "State" "arrivals") ["self"] (spPart K 3)) (G_State_flight : Ok P w K mg base 1 (pg K "State" "flight") ["self"] (spPart K 4)) (G_State_threads : Ok P w K mg base 1 (pg K "State" "threads") ["self"] (spPart K 2)) (G_Stepper_init : Ok P w K mg base 1 (He.ma K (He.ga K "Stepper") "__init__") ["self", "machine", "draft"] (spStepperI K)) (G_Stepper_is_waiting : Ok P w K mg base 3 (He.ma K (He.ga K "Stepper") "is_waiting") ["self", "thread"] (spWaiting K)) : Ok P w K mg base 5 (He.ma K (He.ga K "Machine") "moves") ["self", "state"] (spMoves K) := by
  have sc : FnScope ["self", "state", "stepper", "found", "stopped", "thread", "entry", "socket", "blocks", "message"] ["self", "state"] (defScope s_Machine_moves) := ⟨rfl, rfl, rfl, by decide +kernel, rfl, by decide +kernel, by decide +kernel⟩
  let nm : List Str := ["self", "state", "stepper", "found", "stopped", "thread", "entry", "socket", "blocks", "message"]
  refine ok_of F rfl rfl sc (fun _ _ _ _ _ _ us hl => match us, hl with | [_, _], _ => rfl) (fun vs H Q E h => ?_) (fun cdv A outer s H vs Q E hr h => ?_)
  · obtain ⟨m, M, st, D, rfl, _⟩ := h
    rfl
  · obtain ⟨m, M, st, D, rfl, hm, hst, G, k⟩ := h
    refine ⟨_, (pss_cons (ps_set (i := 2) sc.nd rfl (by first | exact Or.inl rfl | exact Or.inr rfl) (pe_makeO T.mkr_Stepper G_Stepper_init (hr.mono (by decide)) (by rfl) T.glo_Stepper (pa_cons (pv 0) (pa_cons (pe_makeO T.mkr_Draft G_Draft_init (hr.mono (by decide)) (by rfl) T.glo_Draft (pa_cons (pv 1) pa_nil)) pa_nil)))) (pss_cons (ps_setLc (i := 3) (own := [("message", 9)]) (g := (gName 9)) (by rfl) sc.nd rfl rfl (sw_true rfl rfl rfl (by decide +kernel)) (pi_range1 (by rfl) T.free_range (pa_cons (pe_callB Ru.cr_len (by rfl) T.free_len PySem.boot_len (pa_cons (pe_propO (pv 1) T.cls_State T.prop_State_flight G_State_flight (hr.mono (by decide)) rfl) pa_nil)) pa_nil)) (blkOk_by (own := [("message", 9)]) (N := nm) (sc := defScope s_Machine_moves) (by decide +kernel)) (fun _ _ _ _ _ => (pg_name (i := 9) sc.nd rfl (by first | exact Or.inl rfl | exact Or.inr rfl))) (fun _ _ _ _ _ => pts_nil) (fun _ _ _ _ _ => (pe_tup (pa_cons pe_str (pa_cons (pv 9) pa_nil))))) (pss_cons (ps_set (i := 4) sc.nd rfl (by first | exact Or.inl rfl | exact Or.inr rfl) (pe_callB Ru.cr_len (by rfl) T.free_len PySem.boot_len (pa_cons (pe_lc (own := [("entry", 6)]) (g := (gName 6)) (by rfl) sc.nd (pi_tup (pe_propO (pv 1) T.cls_State T.prop_State_threads G_State_threads (hr.mono (by decide)) rfl)) (blkOk_by (own := [("entry", 6)]) (N := nm) (sc := defScope s_Machine_moves) (by decide +kernel)) (fun _ _ _ _ _ => (pg_name (i := 6) sc.nd rfl (by first | exact Or.inl rfl | exact Or.inr rfl))) (fun _ _ _ _ _ => pts_one (pt_cmpR (show OpR _ _ (rIn K false) from op_in_seq) (pe_ix (show IxR _ (rIxT K) from ix_tup) (pv 6) pe_int (fun _ _ => rfl)) (pe_tup (pa_cons pe_str (pa_cons pe_str pa_nil))) (by rfl))) (fun _ _ _ _ _ => (pv 6))) pa_nil))) (pss_cons (ps_for PassesOwn.never rfl (Ru.pi_enumT (by rfl) T.free_enumerate (pa_cons (pe_propO (pv 1) T.cls_State T.prop_State_threads G_State_threads (hr.mono (by decide)) rfl) pa_nil)) (pg_tup rfl (pgs_cons (pg_name (i := 5) sc.nd rfl (by first | exact Or.inl rfl | exact Or.inr rfl)) (pgs_cons (pg_name (i := 6) sc.nd rfl (by first | exact Or.inl rfl | exact Or.inr rfl)) pgs_nil))) (pss_cons (ps_if (pt_cmpR op_eq (pe_ix ix_tup (pv 6) pe_int (fun _ _ => rfl)) pe_str (nomark _)) (pss_one (ps_expr (pe_bm PySem.F.plainAttrs_list PySem.F.slot_list_append PySem.F.type_list_append mt_append (pv 3) (pa_cons (pe_tup (pa_cons pe_str (pa_cons (pv 5) pa_nil))) pa_nil)))) pss_nil) (pss_cons (ps_if (pt_cmpR op_ne (pe_ix ix_tup (pv 6) pe_int (fun _ _ => rfl)) pe_str (nomark _)) (pss_one ps_continue) pss_nil) (pss_cons (ps_if (pt_not (pt_val (pe_methO (pv 2) T.cls_Stepper T.meth_Stepper_is_waiting G_Stepper_is_waiting (hr.mono (by decide)) (pa_cons (pv 5) pa_nil)))) (pss_one (ps_expr (pe_bm PySem.F.plainAttrs_list PySem.F.slot_list_append PySem.F.type_list_append mt_append (pv 3) (pa_cons (pe_tup (pa_cons pe_str (pa_cons (pv 5) pa_nil))) pa_nil)))) pss_nil) (pss_one (ps_if (pt_cmpR op_lt (pv 4) (pe_propO (pv 0) T.cls_Machine T.prop_Machine_stops G_Machine_stops (hr.mono (by decide)) rfl) (nomark _)) (pss_one (ps_expr (pe_bm PySem.F.plainAttrs_list PySem.F.slot_list_append PySem.F.type_list_append mt_append (pv 3) (pa_cons (pe_tup (pa_cons pe_str (pa_cons (pv 5) pa_nil))) pa_nil)))) pss_nil)))))) (pss_cons (ps_for PassesOwn.never rfl (Ru.pi_enumT (by rfl) T.free_enumerate (pa_cons (pe_propO (pv 1) T.cls_State T.prop_State_arrivals G_State_arrivals (hr.mono (by decide)) rfl) pa_nil)) (pg_tup rfl (pgs_cons (pg_name (i := 7) sc.nd rfl (by first | exact Or.inl rfl | exact Or.inr rfl)) (pgs_cons (pg_name (i := 8) sc.nd rfl (by first | exact Or.inl rfl | exact Or.inr rfl)) pgs_nil))) (pss_one (ps_if (PW.pt (pw_and (pt_cmpR (op_neD hr.units) (pv 8) (pe_tup pa_nil) (nomark _)) (pw_and1 (pt_not (pt_val (pe_methO (pv 0) T.cls_Machine T.meth_Machine_is_served G_Machine_is_served (hr.mono (by decide)) (pa_cons (pv 1) (pa_cons (pv 7) pa_nil)))))))) (pss_one (ps_expr (pe_bm PySem.F.plainAttrs_list PySem.F.slot_list_append PySem.F.type_list_append mt_append (pv 3) (pa_cons (pe_tup (pa_cons pe_str (pa_cons (pv 7) pa_nil))) pa_nil)))) pss_nil))) (pss_one (ps_ret (pe_callB (Ru.cr_sortD hr.units) (by rfl) T.free_sorted (by decide +kernel) (pa_cons (pv 3) pa_nil))))))))), ?_⟩
    have F1 := G.fit
    have hwl : D.wks.length ≤ 100 := by rw [F1.wl]; exact F1.thr
    have hal : D.arrs.length ≤ 100 := by rw [F1.al]; exact F1.ns
    refine q_asgE (te_stepper2 (m := m) (P := fun d H2 => ∃ loc, Ex H H2 ∧ Rep K H2 loc D ∧ loc .drf = d ∧ ∀ r, H (loc r) = none) (ev_var rfl) (fun H1 e1 Q' q => te_draft (D := D) (M := M) (ev_var rfl) (hst.ex e1) F1 fun d H2 loc hd e2 R hdr hfr => q d H2 ⟨loc, e1.trans e2, R, hdr, fun r => fresh_back e1 (hfr r)⟩) fun d H2 s dx Hb ⟨loc, e02, R, hdr, hfr⟩ hs e2 h3 => ?_)
    dsimp only [gName]
    have S0 : Stp K Hb s M loc D := stp_of hm hfr R hdr hs e02 e2 h3
    have e0b := e02.trans e2
    have hmb := hm.ex e0b
    have hsb := hst.ex e0b
    have efl := ev_lenD (ed_part (i := 4) (ta := tVar 1) (σ := (L2.start ["self", "state", "stepper", "found", "stopped", "thread", "entry", "socket", "blocks", "message"] [.ref m, .ref st]).set 2 (some (.ref s))) hsb (ev_var rfl) rfl)
    rw [List.length_map] at efl
    refine q_asgLD (K := K) (ds := ((List.range D.fl.length).map Mv.carry).map eMv) (eld_lcR (n := D.fl.length) (ds := ((List.range D.fl.length).map Mv.carry).map eMv) efl (by intro _; rfl) (by have := F1.fl; omega) (by rw [List.length_map, List.length_map, List.length_range]) fun i d' H1 e1 hd => ?_) fun p xs0 Hc hp ec hc tc => ?_
    · have hi : i < D.fl.length := by
        have := (List.getElem?_eq_some_iff.mp hd).1
        rw [List.length_map, List.length_map, List.length_range] at this
        exact this
      rw [List.getElem?_map, range_at hi] at hd
      cases hd
      exact ed_tup (el_cons (ed_str ev_c) (el_cons (ed_int (ev_var rfl)) el_nil)) ble
    have hsc := hsb.ex ec
    have hmc := hmb.ex ec
    have thr : ∀ {σ' : L2.St} {H' : Hp}, σ'[1]? = some (some (.ref st)) → StA K H' st D → EvD K (tProp (He.ga K "State") (spPart K 2) [] E0 (tVar 1)) σ' H' (.tuple (D.wks.map eWk)) := fun h1 h2 => ed_part (i := 2) h2 (ev_var h1) rfl
    refine q_asg (v := .int ((0 : Nat) : Int)) (ev_is (ev_cntT (fun _ => false) (thr rfl hsc) (by intro _; rfl) (by intro _; rfl) (by rw [List.length_map]; omega) fun i x d' H1 e1 hd tx => ?_) ?_) fun Hd ed => ?_
    · rw [List.getElem?_map] at hd
      obtain ⟨wk, hwk, rfl⟩ := Option.map_eq_some_iff.mp hd
      refine et_test (ev_is (ev_inU (ed_ixT (j := 0) (d := .str (rnS wk.run)) (ed_var (i := 6) rfl tx) ev_c rfl rfl).str (eu_tup (ea_cons ev_c (ea_cons ev_c ea_nil)) (by show 2 ≤ _; decide)) rfl rfl) ?_)
      cases wk.run <;> exact congrArg V.bl (by decide +kernel)
    · rw [List.countP_eq_zero.mpr fun _ _ h => by cases h]
    have S1 : ∀ {H' : Hp}, Ex Hb H' → Stp K H' s M loc D := fun e => S0.ex e
    have hcd := ed _ _ hc
    -- the list so far
    let fw : Nat → Bool := fun t => (D.wk t).run && !waiting M D t
    let Fd : Hp → List Mv → Prop := fun H' l => Ex Hb H' ∧ ∃ xs, H' p = some (.lst xs) ∧ TdL K H' xs (l.map eMv)
    have app : ∀ {te : TE} {σ' : L2.St} {H' : Hp} {l : List Mv} {x : Mv} {En : Ends}, σ'[3]? = some (some (.ref p)) → EvD K te σ' H' (eMv x) → Fd H' l → l.length ≤ 1000 → (∀ H2, Tk H' H2 → Fd H2 (l ++ [x]) → En.nx σ' H2) → tDrop (tBM K "list" rAppend (tVar 3) (tCons te tNil)) En σ' H' := by
      intro te σ' H' l x En h3 he hF hl kk
      obtain ⟨eF, xs, f1, f2⟩ := hF
      have hxl : xs.length = l.length := by rw [f2.length, List.length_map]
      refine s_appD (K := K) (d := eMv x) (ev_var h3) he f1 (by omega) fun v H1 e1 t1 => kk _ ((Tk.of_ex e1).trans (tk_upd (e1 _ _ f1) trivial)) ⟨Ex.mut (eF.trans e1) hp, xs ++ [v], upd_same, ?_⟩
      have tk := tk_upd (u := .lst (xs ++ [v])) (e1 _ _ f1) trivial
      rw [List.map_append]
      exact ((f2.ex e1).keep tk).append (.one (t1.keep tk))
    let σok : L2.St → Prop := fun σ' => σ'.length = 10 ∧ σ'[0]? = some (some (.ref m)) ∧ σ'[1]? = some (some (.ref st)) ∧ σ'[2]? = some (some (.ref s)) ∧ σ'[3]? = some (some (.ref p)) ∧ σ'[4]? = some (some (.int ((0 : Nat) : Int)))
    have σset : ∀ {σ' : L2.St} (i j : Nat) (u v : Option V), 5 ≤ i → 5 ≤ j → σok σ' → σok ((σ'.set i u).set j v) := fun {σ'} i j u v hi hj ⟨h0, h1, h2, h3, h4, h5⟩ => ⟨st_len h0, st_keep h1 (by omega) (by omega), st_keep h2 (by omega) (by omega), st_keep h3 (by omega) (by omega), st_keep h4 (by omega) (by omega), st_keep h5 (by omega) (by omega)⟩
    let cs := (List.range D.fl.length).map Mv.carry
    have hcsl : cs.length ≤ 100 := by show (List.map _ _).length ≤ _; rw [List.length_map, List.length_range]; exact F1.fl
    have Fex : ∀ {H1 H2 : Hp} {l : List Mv}, Ex H1 H2 → Fd H1 l → Fd H2 l := fun {H1 H2 l} e ⟨f1, xs, f2, f3⟩ => ⟨f1.trans e, xs, e _ _ f2, f3.ex e⟩
    let P1 : Hp → Nat → L2.St → Hp → Prop := fun H1 i σ' H' => σok σ' ∧ Fd H' (cs ++ ((List.range i).filter fw).map Mv.step) ∧ Tk H1 H' ∧ i ≤ D.wks.length
    have l1 : ∀ i, i ≤ D.wks.length → (cs ++ ((List.range i).filter fw).map Mv.step).length ≤ 200 := fun i hi => by
      have h1 : (cs ++ ((List.range i).filter fw).map Mv.step).length = cs.length + (((List.range i).filter fw).map Mv.step).length := List.length_append
      have h2 : (((List.range i).filter fw).map Mv.step).length = ((List.range i).filter fw).length := List.length_map _
      have := List.length_filter_le fw (List.range i)
      rw [List.length_range] at this
      omega
    refine s_forET (E := ⟨_, _, _, _⟩) rfl (thr rfl (hsc.ex ed)) P1 (fun H1 e1 => ⟨⟨rfl, rfl, rfl, rfl, rfl, rfl⟩, ⟨(ec.trans ed).trans e1, xs0, e1 _ _ hcd, (by rw [List.range_zero, List.filter_nil, List.map_nil, List.append_nil]; exact (tc.ex ed).ex e1)⟩, Tk.refl _, Nat.zero_le _⟩) (fun _ _ _ _ _ q => q.2.2.1) (fun H1 i x d' σ' H' H2 eH hd tx q e2 => ?_) fun H1 σ' H' eH q => ?_
    · obtain ⟨q0, q1, q2, q3⟩ := q
      rw [List.getElem?_map] at hd
      obtain ⟨wk, hwk, rfl⟩ := Option.map_eq_some_iff.mp hd
      have hi := (List.getElem?_eq_some_iff.mp hwk).1
      have vok := σset (σ' := σ') 5 6 (some (.int (i : Nat))) (some x) (by decide) (by decide) q0
      have v5 : ((σ'.set 5 (some (.int (i : Nat)))).set 6 (some x))[5]? = some (some (.int (i : Nat))) := st_1 q0.1 (by decide) (by decide)
      have v6 : ((σ'.set 5 (some (.int (i : Nat)))).set 6 (some x))[6]? = some (some x) := st_2 q0.1 (by decide)
      generalize ((σ'.set 5 (some (.int (i : Nat)))).set 6 (some x)) = σ1 at vok v5 v6 ⊢
      have F2 := Fex e2 q1
      have ew : ∀ {H3 : Hp}, Ex H2 H3 → Ev (tOp (rIxT K) (tVar 6) (tC (.int 0))) σ1 H3 (.str (rnS wk.run)) := fun e3 => (ed_ixT (j := 0) (d := .str (rnS wk.run)) (ed_var v6 (tx.ex e3)) ev_c rfl rfl).str
      refine q_when (et_test (ev_noStr (ew (Ex.refl _)) (by cases wk.run <;> exact wne _ _ (by decide +kernel)))) (fun h => nomatch h) fun _ H3 e3 => ?_
      have hrn : (!decide (V.str (rnS wk.run) = V.str "running")) = !wk.run := by
        cases wk.run
        · rw [decide_eq_false (show ¬ (V.str (rnS false) = V.str "running") from wne _ _ (by decide +kernel : (("ended" : Str) == "running") = false))] <;> rfl
        · rw [decide_eq_true (show V.str (rnS true) = V.str "running" from rfl)] <;> rfl
      have fwi : ∀ b, waiting M D i = b → fw i = (wk.run && !b) := fun b hb => by
        show ((D.wk i).run && !waiting M D i) = _
        rw [wk_of hwk, hb]
      have tk23 := (q2.trans (Tk.of_ex e2)).trans (Tk.of_ex e3)
      refine q_when (b := !wk.run) (et_test (ev_is (ev_op (ew e3) ev_c (rv_ne rfl)) (by rw [hrn]))) (fun hb H4 e4 => ?_) fun hb H4 e4 => ?_
      · refine ⟨vok, ?_, tk23.trans (Tk.of_ex e4), hi⟩
        have hfi : fw i = false := by
          rw [fwi _ rfl]
          cases hr : wk.run
          · rfl
          · rw [hr] at hb; cases hb
        rw [filter_succ, hfi]
        show Fd H4 (cs ++ (_ ++ []).map Mv.step)
        rw [List.append_nil]
        exact Fex (e3.trans e4) F2
      · have hr : wk.run = true := by
          cases hr : wk.run
          · rw [hr] at hb; cases hb
          · rfl
        have F4 := Fex (e3.trans e4) F2
        obtain ⟨m', dx', hss⟩ := (S1 F4.1).atS
        have hmt : ∃ z ops, M.thr[i]? = some (z, ops) := by
          have hl : i < M.thr.length := by rw [← F1.wl]; exact hi
          exact ⟨(M.thr[i]).1, (M.thr[i]).2, List.getElem?_eq_getElem hl⟩
        obtain ⟨z, ops, hth⟩ := hmt
        have tk24 := tk23.trans (Tk.of_ex e4)
        have stepN : ∀ {H5 : Hp} {En : Ends} (hN : ∀ H6, P1 H1 (i + 1) σ1 H6 → En.nx σ1 H6) (l : List Mv), Fd H5 l → Tk H1 H5 → l = cs ++ ((List.range (i + 1)).filter fw).map Mv.step → tIfS (tTest (tOp (rI0 fun i j => V.bl (decide (i < j))) (tVar 4) (tProp (He.ga K "Machine") (spSet K 7) [] E0 (tVar 0)))) (tDrop (tBM K "list" rAppend (tVar 3) (tCons (tTup (tCons (tC (V.str "stop")) (tCons (tVar 5) tNil))) tNil))) tNext En σ1 H5 := by
          intro H5 En hN l F5 tk5 hl5
          refine s_when (b := false) (et_test (ev_is (ev_lt (a := 0) (b := 0) (ev_var vok.2.2.2.2.2) (ed_set (i := 7) (d := eN 0) (hm.ex (e0b.trans F5.1)) (ev_var vok.2.1) rfl).int) rfl)) (fun h => nomatch h) fun _ H6 e6 => ?_
          refine hN H6 ⟨vok, ?_, tk5.trans (Tk.of_ex e6), hi⟩
          rw [← hl5]
          exact Fex e6 F5
        refine q_when (b := !waiting M D i) (et_not (et_B (fun H5 e5 Q' q => te_meth ((ev_var vok.2.2.2.1) H5 (Ex.refl _) _ fun H6 e6 => ⟨s, dx', _, rfl, (e5.trans e6) _ _ hss, no_Stepper_is_waiting, (ev_var v5) H6 (Ex.refl _) _ fun H7 e7 => ⟨s, M, loc, D, i, wk, ops, z, rfl, S1 (F4.1.trans ((e5.trans e6).trans e7)), F1, hwk, hth, G.pc i wk ops z hwk hth, fun H8 e8 => q H8 ((e6.trans e7).trans e8)⟩⟩)))) (fun hb5 H5 e5 => ?_) fun hb5 H5 e5 => ?_
        · have hw0 : waiting M D i = false := by
            cases hq : waiting M D i
            · rfl
            · rw [hq] at hb5; cases hb5
          refine app (x := .step i) vok.2.2.2.2.1 (ed_tup (el_cons (ed_str ev_c) (el_cons (ed_int (ev_var v5)) el_nil)) ble) (Fex e5 F4) (by have := l1 i q3; omega) fun H6 tk6 F6 => ?_
          refine stepN (fun _ h => h) _ F6 ((tk24.trans (Tk.of_ex e5)).trans tk6) ?_
          rw [filter_succ, fwi false hw0, hr]
          show _ = cs ++ (_ ++ [i]).map Mv.step
          rw [List.map_append, List.append_assoc] <;> rfl
        · have hw0 : waiting M D i = true := by
            cases hq : waiting M D i
            · rw [hq] at hb5; cases hb5
            · rfl
          refine stepN (fun _ h => h) _ (Fex e5 F4) (tk24.trans (Tk.of_ex e5)) ?_
          rw [filter_succ, fwi true hw0, hr]
          show _ = cs ++ (_ ++ []).map Mv.step
          rw [List.append_nil]
    · obtain ⟨q0, q1, q2, q3⟩ := q
      rw [List.length_map] at q1
      dsimp only
      let fs : Nat → Bool := fun z => !(D.arr z).isEmpty && !served M D z
      let c2 := cs ++ ((List.range D.wks.length).filter fw).map Mv.step
      have hc2 : c2.length ≤ 200 := l1 D.wks.length (Nat.le_refl _)
      let P2 : Hp → Nat → L2.St → Hp → Prop := fun H1 i σ' H' => σok σ' ∧ Fd H' (c2 ++ ((List.range i).filter fs).map Mv.sweep) ∧ Tk H1 H' ∧ i ≤ D.arrs.length
      have l2 : ∀ i, i ≤ D.arrs.length → (c2 ++ ((List.range i).filter fs).map Mv.sweep).length ≤ 300 := fun i hi => by
        have h1 : (c2 ++ ((List.range i).filter fs).map Mv.sweep).length = c2.length + (((List.range i).filter fs).map Mv.sweep).length := List.length_append
        have h2 : (((List.range i).filter fs).map Mv.sweep).length = ((List.range i).filter fs).length := List.length_map _
        have := List.length_filter_le fs (List.range i)
        rw [List.length_range] at this
        omega
      have ear : EvD K (tProp (He.ga K "State") (spPart K 3) [] E0 (tVar 1)) σ' H' (.tuple (D.arrs.map eBs)) := ed_part (i := 3) (hsb.ex q1.1) (ev_var q0.2.2.1) rfl
      refine s_forET (E := ⟨_, _, _, _⟩) rfl ear P2 (fun H1 e1 => ⟨q0, (by rw [List.range_zero, List.filter_nil, List.map_nil, List.append_nil]; exact Fex e1 q1), Tk.refl _, Nat.zero_le _⟩) (fun _ _ _ _ _ q => q.2.2.1) (fun H1 i x d' σ' H2 H3 eH hd tx q e3 => ?_) fun H1 σ' H2 eH q => ?_
      · obtain ⟨q0, q1, q2, q3⟩ := q
        rw [List.getElem?_map] at hd
        obtain ⟨ar, har, rfl⟩ := Option.map_eq_some_iff.mp hd
        have hi := (List.getElem?_eq_some_iff.mp har).1
        have vok := σset (σ' := σ') 7 8 (some (.int (i : Nat))) (some x) (by decide) (by decide) q0
        have v5 : ((σ'.set 7 (some (.int (i : Nat)))).set 8 (some x))[7]? = some (some (.int (i : Nat))) := st_1 q0.1 (by decide) (by decide)
        have v6 : ((σ'.set 7 (some (.int (i : Nat)))).set 8 (some x))[8]? = some (some x) := st_2 q0.1 (by decide)
        generalize ((σ'.set 7 (some (.int (i : Nat)))).set 8 (some x)) = σ1 at vok v5 v6 ⊢
        have F3 := Fex e3 q1
        have tk3 := q2.trans (Tk.of_ex e3)
        have hfs : fs i = (!ar.isEmpty && !served M D i) := by
          show (!(D.arr i).isEmpty && _) = _
          rw [arr_of har]
        refine s_when (b := fs i) (et_is (et_and (a := !ar.isEmpty) (b := !served M D i) (et_test (ev_is (ev_neD (ed_var v6 tx) (ed_tup el_nil ble) (sm_bs ar).shp (sm_tup (sml_nil 2)).shp) ?_)) fun _ => et_not (et_B (fun H4 e4 Q' q => te_meth ((ev_var vok.2.1) H4 (Ex.refl _) _ fun H5 e5 => ?_)))) hfs.symm) (fun hb H4 e4 => ?_) fun hb H4 e4 => ?_
        · show V.bl (!PyData.eqv (.tuple (ar.map eB)) (.tuple [])) = _
          rw [eqv_nilT]
          cases ar <;> rfl
        · have e05 := (e0b.trans F3.1).trans (e4.trans e5)
          obtain ⟨dxm, pm, hm1, hm2⟩ := hm
          refine ⟨m, dxm, _, rfl, e05 _ _ hm1, no_Machine_is_served, (ev_var vok.2.2.1) H5 (Ex.refl _) _ fun H6 e6 => (ev_var v5) H6 (Ex.refl _) _ fun H7 e7 => ?_⟩
          have e07 := (e05.trans e6).trans e7
          exact ⟨m, M, st, D, i, rfl, Mac.ex ⟨dxm, pm, hm1, hm2⟩ e07, hst.ex e07, F1.wl, F1.thr, fun H8 e8 => q H8 (((e5.trans e6).trans e7).trans e8)⟩
        · refine app (x := .sweep i) vok.2.2.2.2.1 (ed_tup (el_cons (ed_str ev_c) (el_cons (ed_int (ev_var v5)) el_nil)) ble) (Fex e4 F3) (by have := l2 i q3; omega) fun H6 tk6 F6 => ?_
          refine ⟨vok, ?_, (tk3.trans (Tk.of_ex e4)).trans tk6, hi⟩
          rw [filter_succ, hb]
          show Fd H6 (c2 ++ (_ ++ [i]).map Mv.sweep)
          rw [List.map_append, ← List.append_assoc]
          exact F6
        · refine ⟨vok, ?_, tk3.trans (Tk.of_ex e4), hi⟩
          rw [filter_succ, hb]
          show Fd H4 (c2 ++ (_ ++ []).map Mv.sweep)
          rw [List.append_nil]
          exact Fex e4 F3
      · obtain ⟨q0, q1, q2, q3⟩ := q
        rw [List.length_map] at q1
        obtain ⟨eF, xs, f1, f2⟩ := q1
        dsimp only
        have hmv : c2 ++ ((List.range D.arrs.length).filter fs).map Mv.sweep = moves M D := rfl
        rw [hmv] at f2
        have hxl : xs.length = (moves M D).length := by rw [f2.length, List.length_map]
        have hml : (moves M D).length ≤ 300 := by rw [← hmv]; exact l2 _ (Nat.le_refl _)
        let zs := xs.zip (moves M D)
        have hz1 : zs.map Prod.fst = xs := List.map_fst_zip (by omega)
        have hz2 : zs.map Prod.snd = moves M D := List.map_snd_zip (by omega)
        have hzt := tdl_zip f2
        refine s_retE (te_cb1 ((ev_var q0.2.2.2.2.1) H2 (Ex.refl _) _ fun H3 e3 => ?_))
        refine ⟨p, zs.map (fun z => (z.1, eMv z.2)), rfl, ?_, fun b hb => ?_, fun d hd d' hd' => ?_, fun b hb => ?_, fun b hb => ?_, ?_, fun ys q hys hq => ?_⟩
        · rw [List.map_map]
          show SqL K H3 p (zs.map Prod.fst)
          rw [hz1]
          exact SqL.of (e3 _ _ f1)
        · obtain ⟨z, hz, rfl⟩ := List.mem_map.mp hb
          exact ((hzt z hz).ex e3).dp
        · rw [List.map_map] at hd hd'
          obtain ⟨z, _, rfl⟩ := List.mem_map.mp hd
          obtain ⟨z', _, rfl⟩ := List.mem_map.mp hd'
          exact alike_mv z.2 z'.2
        · obtain ⟨z, _, rfl⟩ := List.mem_map.mp hb
          show ∃ x r, eMv z.2 = _
          cases z.2 <;> exact ⟨_, _, rfl⟩
        · obtain ⟨z, _, rfl⟩ := List.mem_map.mp hb
          exact Nat.le_trans (sm_mv z.2).2 (by decide)
        · rw [List.length_map, show zs.length = xs.length from by rw [← hz1, List.length_map]]
          exact sz_of (by omega)
        · obtain ⟨zs', hp', rfl⟩ := perm_lift hys zs rfl
          rw [List.map_map]
          show Q (.ref q) (upd H3 q (.lst (zs'.map Prod.fst)))
          have en : Ex H3 (upd H3 q (.lst (zs'.map Prod.fst))) := Ex.new hq
          have eHb : Ex H H3 := (e0b.trans eF).trans e3
          refine k q _ _ (zs'.map Prod.snd) (fresh_back eHb hq) (eHb.trans en) upd_same (tdl_of fun z hz => ((hzt z (hp'.mem_iff.mp hz)).ex e3).ex en) ?_
          rw [← hz2]
          exact hp'.map _

end
end Rp
set_option Elab.async false
set_option linter.all false
set_option maxRecDepth 100000
set_option maxHeartbeats 4000000
set_option autoImplicit false
namespace Rp
open PySem PySem.Spec PyProof.Rows L2 Mx Evl Hf
section
variable {P : Program} {w : World} {K : Frg} {mg : Str → Option Value} {base : Heap}
theorem ok_Machine_classes (T : Txt K mg w) (F : FnD K d_Machine_classes)  : Ok P w K mg base 1 (pg K "Machine" "classes") ["self"] (spSet K 1) := by
  have sc : FnScope ["self"] ["self"] (defScope s_Machine_classes) := ⟨rfl, rfl, rfl, by decide +kernel, rfl, by decide +kernel, by decide +kernel⟩
  let nm : List Str := ["self"]
  refine ok_of F rfl rfl sc (fun _ _ _ _ _ _ us hl => match us, hl with | [_], _ => rfl) (fun vs H Q E h => ?_) (fun cdv A outer s H vs Q E hr h => ?_)
  · obtain ⟨m, dx, p, xs, v, rfl, _⟩ := h
    rfl
  · obtain ⟨m, dx, p, xs, v, rfl, hm, hs, hv, q⟩ := h
    refine ⟨_, (pss_one (ps_ret (pe_ix ix_tup (pe_fld (pv 0) rfl) pe_int (fun _ _ => rfl)))), ?_⟩
    exact ⟨_, rfl, m, _, dx, _, _, rfl, hm, T.cls_Machine, T.noat_Machine_settings, lk_Machine_settings, p, xs, (1 : Nat), v, rfl, rfl, hs, atI_nat hv, q⟩

end
end Rp
set_option Elab.async false
set_option linter.all false
set_option maxRecDepth 100000
set_option maxHeartbeats 4000000
set_option autoImplicit false
namespace Rp
open PySem PySem.Spec PyProof.Rows L2 Mx Evl Hf
section
variable {P : Program} {w : World} {K : Frg} {mg : Str → Option Value} {base : Heap}
theorem ok_Machine_pages (T : Txt K mg w) (F : FnD K d_Machine_pages)  : Ok P w K mg base 1 (pg K "Machine" "pages") ["self"] (spSet K 3) := by
  have sc : FnScope ["self"] ["self"] (defScope s_Machine_pages) := ⟨rfl, rfl, rfl, by decide +kernel, rfl, by decide +kernel, by decide +kernel⟩
  let nm : List Str := ["self"]
  refine ok_of F rfl rfl sc (fun _ _ _ _ _ _ us hl => match us, hl with | [_], _ => rfl) (fun vs H Q E h => ?_) (fun cdv A outer s H vs Q E hr h => ?_)
  · obtain ⟨m, dx, p, xs, v, rfl, _⟩ := h
    rfl
  · obtain ⟨m, dx, p, xs, v, rfl, hm, hs, hv, q⟩ := h
    refine ⟨_, (pss_one (ps_ret (pe_ix ix_tup (pe_fld (pv 0) rfl) pe_int (fun _ _ => rfl)))), ?_⟩
    exact ⟨_, rfl, m, _, dx, _, _, rfl, hm, T.cls_Machine, T.noat_Machine_settings, lk_Machine_settings, p, xs, (3 : Nat), v, rfl, rfl, hs, atI_nat hv, q⟩

end
end Rp
set_option Elab.async false
set_option linter.all false
set_option maxRecDepth 100000
set_option maxHeartbeats 4000000
set_option autoImplicit false
namespace Rp
open PySem PySem.Spec PyProof.Rows L2 Mx Evl Hf
section
variable {P : Program} {w : World} {K : Frg} {mg : Str → Option Value} {base : Heap}
theorem ok_Machine_slots (T : Txt K mg w) (F : FnD K d_Machine_slots)  : Ok P w K mg base 1 (pg K "Machine" "slots") ["self"] (spSet K 6) := by
  have sc : FnScope ["self"] ["self"] (defScope s_Machine_slots) := ⟨rfl, rfl, rfl, by decide +kernel, rfl, by decide +kernel, by decide +kernel⟩
  let nm : List Str := ["self"]
  refine ok_of F rfl rfl sc (fun _ _ _ _ _ _ us hl => match us, hl with | [_], _ => rfl) (fun vs H Q E h => ?_) (fun cdv A outer s H vs Q E hr h => ?_)
  · obtain ⟨m, dx, p, xs, v, rfl, _⟩ := h
    rfl
  · obtain ⟨m, dx, p, xs, v, rfl, hm, hs, hv, q⟩ := h
    refine ⟨_, (pss_one (ps_ret (pe_ix ix_tup (pe_fld (pv 0) rfl) pe_int (fun _ _ => rfl)))), ?_⟩
    exact ⟨_, rfl, m, _, dx, _, _, rfl, hm, T.cls_Machine, T.noat_Machine_settings, lk_Machine_settings, p, xs, (6 : Nat), v, rfl, rfl, hs, atI_nat hv, q⟩

end
end Rp
set_option Elab.async false
set_option linter.all false
set_option maxRecDepth 100000
set_option maxHeartbeats 4000000
set_option autoImplicit false
namespace Rp
open PySem PySem.Spec PyProof.Rows L2 Mx Evl Hf
section
variable {P : Program} {w : World} {K : Frg} {mg : Str → Option Value} {base : Heap}
theorem ok_Machine_sockets (T : Txt K mg w) (F : FnD K d_Machine_sockets)  : Ok P w K mg base 1 (pg K "Machine" "sockets") ["self"] (spSet K 0) := by
  have sc : FnScope ["self"] ["self"] (defScope s_Machine_sockets) := ⟨rfl, rfl, rfl, by decide +kernel, rfl, by decide +kernel, by decide +kernel⟩
  let nm : List Str := ["self"]
  refine ok_of F rfl rfl sc (fun _ _ _ _ _ _ us hl => match us, hl with | [_], _ => rfl) (fun vs H Q E h => ?_) (fun cdv A outer s H vs Q E hr h => ?_)
  · obtain ⟨m, dx, p, xs, v, rfl, _⟩ := h
    rfl
  · obtain ⟨m, dx, p, xs, v, rfl, hm, hs, hv, q⟩ := h
    refine ⟨_, (pss_one (ps_ret (pe_ix ix_tup (pe_fld (pv 0) rfl) pe_int (fun _ _ => rfl)))), ?_⟩
    exact ⟨_, rfl, m, _, dx, _, _, rfl, hm, T.cls_Machine, T.noat_Machine_settings, lk_Machine_settings, p, xs, (0 : Nat), v, rfl, rfl, hs, atI_nat hv, q⟩

end
end Rp
set_option Elab.async false
set_option linter.all false
set_option maxRecDepth 100000
set_option maxHeartbeats 4000000
set_option autoImplicit false
namespace Rp
open PySem PySem.Spec PyProof.Rows L2 Mx Evl Hf
section
variable {P : Program} {w : World} {K : Frg} {mg : Str → Option Value} {base : Heap}
theorem ok_State_init (T : Txt K mg w) (F : FnD K d_State_init)  : Ok P w K mg base 1 (He.ma K (He.ga K "State") "__init__") ["self", "pages", "slots", "threads", "arrivals", "flight"] (spStateI K) := by
  have sc : FnScope ["self", "pages", "slots", "threads", "arrivals", "flight"] ["self", "pages", "slots", "threads", "arrivals", "flight"] (defScope s_State_init) := ⟨rfl, rfl, rfl, by decide +kernel, rfl, by decide +kernel, by decide +kernel⟩
  let nm : List Str := ["self", "pages", "slots", "threads", "arrivals", "flight"]
  refine ok_of F rfl rfl sc (fun _ _ _ _ _ _ us hl => match us, hl with | [_, _, _, _, _, _], _ => rfl) (fun vs H Q E h => ?_) (fun cdv A outer s H vs Q E hr h => ?_)
  · obtain ⟨a, dx, p1, p2, p3, p4, p5, rfl, _⟩ := h
    rfl
  · obtain ⟨a, dx, p1, p2, p3, p4, p5, rfl, ha, k⟩ := h
    refine ⟨_, (pss_one (ps_fld (pv 0) (pe_tup (pa_cons (pv 1) (pa_cons (pv 2) (pa_cons (pv 3) (pa_cons (pv 4) (pa_cons (pv 5) pa_nil)))))) rfl)), ?_⟩
    refine eu_tup (ea_cons (ev_var rfl) (ea_cons (ev_var rfl) (ea_cons (ev_var rfl) (ea_cons (ev_var rfl) (ea_cons (ev_var rfl) ea_nil))))) (Nat.le_of_ble_eq_true rfl) H (Ex.refl H) _ fun p H1 hp e1 h1 => (ev_var (v := .ref a) rfl) H1 (Ex.refl _) _ fun H2 e2 => ?_
    refine ⟨a, _, dx, [], rfl, (e1.trans e2) _ _ ha, T.cls_State, T.noat_State_parts, by decide, k _ p (fun x o hx hne => ?_) upd_same ?_⟩
    · rw [upd_ne hne]
      exact (e1.trans e2) _ _ hx
    · have hne : p ≠ a := fun q => by rw [q, ha] at hp; cases hp
      exact st_of (by rw [upd_ne hne]; exact e2 _ _ h1)

end
end Rp
set_option Elab.async false
set_option linter.all false
set_option maxRecDepth 100000
set_option maxHeartbeats 4000000
set_option autoImplicit false
namespace Rp
open PySem PySem.Spec PyProof.Rows L2 Mx Evl Hf
section
variable {P : Program} {w : World} {K : Frg} {mg : Str → Option Value} {base : Heap}
theorem start_wk (M : MC) (th : Nat × List Op) : eWk { run := !th.2.isEmpty, pc := 0, ph := if th.2.isEmpty then .over else .begin, hand := [], cache := [], bats := List.replicate M.ns [] } = .tuple [.str (rnS (!th.2.isEmpty)), .int 0, .str (phS (if th.2.isEmpty then .over else .begin)), .tuple [], .tuple [.tuple []], .tuple (List.replicate M.ns (.tuple [.tuple []]))] := by
  unfold eWk
  rw [List.map_replicate] <;> rfl
theorem ok_Machine_start (T : Txt K mg w) (F : FnD K d_Machine_start) (G_Machine_classes : Ok P w K mg base 1 (pg K "Machine" "classes") ["self"] (spSet K 1)) (G_Machine_pages : Ok P w K mg base 1 (pg K "Machine" "pages") ["self"] (spSet K 3)) (G_Machine_slots : Ok P w K mg base 1 (pg K "Machine" "slots") ["self"] (spSet K 6)) (G_Machine_sockets : Ok P w K mg base 1 (pg K "Machine" "sockets") ["self"] (spSet K 0)) (G_Machine_threads : Ok P w K mg base 1 (pg K "Machine" "threads") ["self"] (spSet K 2)) (G_State_init : Ok P w K mg base 1 (He.ma K (He.ga K "State") "__init__") ["self", "pages", "slots", "threads", "arrivals", "flight"] (spStateI K)) : Ok P w K mg base 3 (pg K "Machine" "start") ["self"] (spStart K) := by
  have sc : FnScope ["self", "no_blocks", "batches", "threads", "arrivals", "socket", "program", "status", "phase", "kind"] ["self"] (defScope s_Machine_start) := ⟨rfl, rfl, rfl, by decide +kernel, rfl, by decide +kernel, by decide +kernel⟩
  let nm : List Str := ["self", "no_blocks", "batches", "threads", "arrivals", "socket", "program", "status", "phase", "kind"]
  refine ok_of F rfl rfl sc (fun _ _ _ _ _ _ us hl => match us, hl with | [_], _ => rfl) (fun vs H Q E h => ?_) (fun cdv A outer s H vs Q E hr h => ?_)
  · obtain ⟨m, M, rfl, _⟩ := h
    rfl
  · obtain ⟨m, M, rfl, hm, F1, hns, hnsl, k⟩ := h
    refine ⟨_, (pss_cons (ps_set (i := 1) sc.nd rfl (by first | exact Or.inl rfl | exact Or.inr rfl) (pe_callTy Ru.cr_tup (by rfl) T.free_tuple (by decide +kernel) (pa_cons (pe_lc (own := [("kind", 9)]) (g := (gName 9)) (by rfl) sc.nd (pi_tup (pe_propO (pv 0) T.cls_Machine T.prop_Machine_classes G_Machine_classes (hr.mono (by decide)) rfl)) (blkOk_by (own := [("kind", 9)]) (N := nm) (sc := defScope s_Machine_start) (by decide +kernel)) (fun _ _ _ _ _ => (pg_name (i := 9) sc.nd rfl (by first | exact Or.inl rfl | exact Or.inr rfl))) (fun _ _ _ _ _ => pts_nil) (fun _ _ _ _ _ => (pe_tup pa_nil))) pa_nil))) (pss_cons (ps_set (i := 2) sc.nd rfl (by first | exact Or.inl rfl | exact Or.inr rfl) (pe_callTy Ru.cr_tup (by rfl) T.free_tuple (by decide +kernel) (pa_cons (pe_lc (own := [("socket", 5)]) (g := (gName 5)) (by rfl) sc.nd (pi_range1 (by rfl) T.free_range (pa_cons (pe_propO (pv 0) T.cls_Machine T.prop_Machine_sockets G_Machine_sockets (hr.mono (by decide)) rfl) pa_nil)) (blkOk_by (own := [("socket", 5)]) (N := nm) (sc := defScope s_Machine_start) (by decide +kernel)) (fun _ _ _ _ _ => (pg_name (i := 5) sc.nd rfl (by first | exact Or.inl rfl | exact Or.inr rfl))) (fun _ _ _ _ _ => pts_nil) (fun _ _ _ _ _ => (pv 1))) pa_nil))) (pss_cons (ps_set (i := 3) sc.nd rfl (by first | exact Or.inl rfl | exact Or.inr rfl) (pe_lst pa_nil)) (pss_cons (ps_for PassesOwn.never rfl (pi_tup (pe_propO (pv 0) T.cls_Machine T.prop_Machine_threads G_Machine_threads (hr.mono (by decide)) rfl)) (pg_tup rfl (pgs_cons (pg_name (i := 5) sc.nd rfl (by first | exact Or.inl rfl | exact Or.inr rfl)) (pgs_cons (pg_name (i := 6) sc.nd rfl (by first | exact Or.inl rfl | exact Or.inr rfl)) pgs_nil))) (pss_cons (ps_asg (pe_ifExp (pt_cmpR (op_neD hr.units) (pv 6) (pe_tup pa_nil) (nomark _)) (pe_tup (pa_cons pe_str (pa_cons pe_str pa_nil))) (pe_tup (pa_cons pe_str (pa_cons pe_str pa_nil)))) (pg_tup rfl (pgs_cons (pg_name (i := 7) sc.nd rfl (by first | exact Or.inl rfl | exact Or.inr rfl)) (pgs_cons (pg_name (i := 8) sc.nd rfl (by first | exact Or.inl rfl | exact Or.inr rfl)) pgs_nil)))) (pss_one (ps_expr (pe_bm PySem.F.plainAttrs_list PySem.F.slot_list_append PySem.F.type_list_append mt_append (pv 3) (pa_cons (pe_tup (pa_cons (pv 7) (pa_cons pe_int (pa_cons (pv 8) (pa_cons (pe_tup pa_nil) (pa_cons (pv 1) (pa_cons (pv 2) pa_nil))))))) pa_nil)))))) (pss_cons (ps_set (i := 4) sc.nd rfl (by first | exact Or.inl rfl | exact Or.inr rfl) (pe_callTy Ru.cr_tup (by rfl) T.free_tuple (by decide +kernel) (pa_cons (pe_lc (own := [("socket", 5)]) (g := (gName 5)) (by rfl) sc.nd (pi_range1 (by rfl) T.free_range (pa_cons (pe_propO (pv 0) T.cls_Machine T.prop_Machine_sockets G_Machine_sockets (hr.mono (by decide)) rfl) pa_nil)) (blkOk_by (own := [("socket", 5)]) (N := nm) (sc := defScope s_Machine_start) (by decide +kernel)) (fun _ _ _ _ _ => (pg_name (i := 5) sc.nd rfl (by first | exact Or.inl rfl | exact Or.inr rfl))) (fun _ _ _ _ _ => pts_nil) (fun _ _ _ _ _ => (pe_tup pa_nil))) pa_nil))) (pss_one (ps_ret (pe_makeO T.mkr_State G_State_init (hr.mono (by decide)) (by rfl) T.glo_State (pa_cons (pe_op op_repT (pe_tup (pa_cons (pe_glob (v := .ref _) (by rfl) T.glo_STORE rfl) pa_nil)) (pe_propO (pv 0) T.cls_Machine T.prop_Machine_pages G_Machine_pages (hr.mono (by decide)) rfl)) (pa_cons (pe_op (Ru.op_rep1.or op_repT) (pe_tup (pa_cons pe_non pa_nil)) (pe_propO (pv 0) T.cls_Machine T.prop_Machine_slots G_Machine_slots (hr.mono (by decide)) rfl)) (pa_cons (pe_callTy Ru.cr_tup (by rfl) T.free_tuple (by decide +kernel) (pa_cons (pv 3) pa_nil)) (pa_cons (pv 4) (pa_cons (pe_tup pa_nil) pa_nil))))))))))))), ?_⟩
    let nm0 : List Str := ["self", "no_blocks", "batches", "threads", "arrivals", "socket", "program", "status", "phase", "kind"]
    refine q_asgD (d := .tuple [.tuple []]) (ed_tupN (eld_lcTD (es := [eN M.size]) (ds := [.tuple []]) (ed_set (i := 1) hm (ev_var rfl) rfl) (fun _ => rfl) (Nat.le_of_ble_eq_true rfl) rfl fun i x d e H1 e1 he tx hd => ?_)) fun v1 H1 e1 t1 => ?_
    · cases i with
      | succ i => cases he
      | zero => cases hd; exact ed_tup el_nil ble
    have ens : ∀ {σ' : L2.St} {H' : Hp}, Ex H H' → σ'[0]? = some (some (.ref m)) → Ev (tProp (He.ga K "Machine") (spSet K 0) [] E0 (tVar 0)) σ' H' (.int (M.ns : Nat)) := fun e h0 => (ed_set (i := 0) (d := eN M.ns) (hm.ex e) (ev_var h0) rfl).int
    refine q_asgD (d := .tuple (List.replicate M.ns (.tuple [.tuple []]))) (ed_tupN (eld_lcR (n := M.ns) (ens e1 rfl) (by intro _; rfl) (by have := F1.ns; omega) (by rw [List.length_replicate]) fun i d H2 e2 hd => ?_)) fun v2 H2 e2 t2 => ?_
    · have := List.getElem?_replicate (a := PyData.tuple [.tuple []]) (n := M.ns) (i := i)
      rw [this] at hd
      split at hd
      · cases hd; exact ed_var rfl (t1.ex e2)
      · cases hd
    have e02 := e1.trans e2
    refine q_asgL (xs := []) (el_lst ea_nil (by decide)) fun p H3 hp e3 h3 => ?_
    have e03 := e02.trans e3
    have eth : EvD K (tProp (He.ga K "Machine") (spSet K 2) [] E0 (tVar 0)) ((((L2.start nm0 [.ref m]).set 1 (some v1)).set 2 (some v2)).set 3 (some (.ref p))) H3 (.tuple (M.thr.map eTh)) := ed_set (i := 2) (hm.ex e03) (ev_var rfl) rfl
    have hp2 : H2 p = none := hp
    have hwl : (start M).wks = M.thr.map fun p => { run := !p.2.isEmpty, pc := 0, ph := if p.2.isEmpty then .over else .begin, hand := [], cache := [], bats := List.replicate M.ns [] } := rfl
    refine q_forTD (ds := M.thr.map eTh) eth (fun H1' i σ' H' => (σ'.length = 10 ∧ σ'[0]? = some (some (.ref m)) ∧ σ'[1]? = some (some v1) ∧ σ'[2]? = some (some v2) ∧ σ'[3]? = some (some (.ref p))) ∧ Ex H2 H' ∧ Tk H1' H' ∧ ∃ ys, H' p = some (.lst ys) ∧ TdL K H' ys (((start M).wks.take i).map eWk)) (fun H4 e4 => ⟨⟨rfl, rfl, rfl, rfl, rfl⟩, e3.trans e4, Tk.refl _, [], e4 _ _ h3, .nil⟩) (fun _ _ _ _ _ q => q.2.2.1) (fun H1' i x d σ' H' eH hd tx q => ?_) fun H1' σ' H' eH q => ?_
    · obtain ⟨⟨q0, q1, q2, q3, q4⟩, q5, q6, ys, q7, q8⟩ := q
      rw [List.getElem?_map] at hd
      obtain ⟨th, hth, rfl⟩ := Option.map_eq_some_iff.mp hd
      have hi : i < M.thr.length := (List.getElem?_eq_some_iff.mp hth).1
      obtain ⟨a, xs, rfl, hs, ts⟩ := tx.tup_inv
      obtain ⟨w1, r1, rfl, t3, u3⟩ := ts.cons_inv
      obtain ⟨w2, r2, rfl, t4, u4⟩ := u3.cons_inv
      obtain rfl := TdL.nil_iff.mp u4
      refine ⟨a, _, rfl, hs, rfl, g2 ?_⟩
      have s1 : ((σ'.set 5 (some w1)).set 6 (some w2))[1]? = some (some v1) := st_keep q2 (by decide) (by decide)
      have s2 : ((σ'.set 5 (some w1)).set 6 (some w2))[2]? = some (some v2) := st_keep q3 (by decide) (by decide)
      have s3 : ((σ'.set 5 (some w1)).set 6 (some w2))[3]? = some (some (.ref p)) := st_keep q4 (by decide) (by decide)
      have s0 : ((σ'.set 5 (some w1)).set 6 (some w2))[0]? = some (some (.ref m)) := st_keep q1 (by decide) (by decide)
      have s6 : ((σ'.set 5 (some w1)).set 6 (some w2))[6]? = some (some w2) := st_2 q0 (by decide)
      have sl : ((σ'.set 5 (some w1)).set 6 (some w2)).length = 10 := st_len q0
      generalize ((σ'.set 5 (some w1)).set 6 (some w2)) = σ1 at s0 s1 s2 s3 s6 sl ⊢
      have hne : Ev (tOp (rNeD K) (tVar 6) (tTup tNil)) σ1 H' (.bl (!th.2.isEmpty)) := ev_is (ev_neD (ed_var s6 t4) (ed_tup el_nil ble) (sm_tup (sml_map (fun o => sm_op o) th.2)).shp (sm_tup (sml_nil 1)).shp) (by rw [eqv_nilT]; cases th.2 <;> rfl)
      refine q_asg2D (d1 := .str (rnS (!th.2.isEmpty))) (d2 := .str (phS (if th.2.isEmpty then .over else .begin))) rfl (ed_if (et_test hne) (fun hb => ?_) fun hb => ?_) fun y1 y2 H4 e4 ty1 ty2 => ?_
      · have he : th.2.isEmpty = false := by cases h : th.2.isEmpty <;> rw [h] at hb <;> first | rfl | cases hb
        rw [he]
        exact ed_tup (el_cons (ed_str ev_c) (el_cons (ed_str ev_c) el_nil)) ble
      · have he : th.2.isEmpty = true := by cases h : th.2.isEmpty <;> rw [h] at hb <;> first | rfl | cases hb
        rw [he]
        exact ed_tup (el_cons (ed_str ev_c) (el_cons (ed_str ev_c) el_nil)) ble
      · have z1 : ((σ1.set 7 (some y1)).set 8 (some y2))[1]? = some (some v1) := st_keep s1 (by decide) (by decide)
        have z2 : ((σ1.set 7 (some y1)).set 8 (some y2))[2]? = some (some v2) := st_keep s2 (by decide) (by decide)
        have z3 : ((σ1.set 7 (some y1)).set 8 (some y2))[3]? = some (some (.ref p)) := st_keep s3 (by decide) (by decide)
        have z0 : ((σ1.set 7 (some y1)).set 8 (some y2))[0]? = some (some (.ref m)) := st_keep s0 (by decide) (by decide)
        have z7 : ((σ1.set 7 (some y1)).set 8 (some y2))[7]? = some (some y1) := st_1 sl (by decide) (by decide)
        have z8 : ((σ1.set 7 (some y1)).set 8 (some y2))[8]? = some (some y2) := st_2 sl (by decide)
        have zl : ((σ1.set 7 (some y1)).set 8 (some y2)).length = 10 := st_len sl
        have t14 := (t1.ex e2).ex (q5.trans e4)
        have t24 := t2.ex (q5.trans e4)
        refine s_appD (K := K) (d := .tuple [.str (rnS (!th.2.isEmpty)), .int 0, .str (phS (if th.2.isEmpty then .over else .begin)), .tuple [], .tuple [.tuple []], .tuple (List.replicate M.ns (.tuple [.tuple []]))]) (ev_var z3) (ed_tup (el_cons (ed_var z7 ty1) (el_cons (ed_int ev_c) (el_cons (ed_var z8 ty2) (el_cons (ed_tup el_nil ble) (el_cons (ed_var z1 t14) (el_cons (ed_var z2 t24) el_nil)))))) ble) (e4 _ _ q7) (by have hql := q8.length; rw [List.length_map, List.length_take] at hql; have := F1.thr; omega) fun v H5 e5 t5 => ?_
        have y5 := (e4.trans e5) _ _ q7
        have tk5 := tk_upd (u := .lst (ys ++ [v])) y5 trivial
        refine ⟨⟨zl, z0, z1, z2, z3⟩, Ex.mut ((q5.trans e4).trans e5) hp2, (q6.trans (Tk.of_ex (e4.trans e5))).trans tk5, ys ++ [v], upd_same, ?_⟩
        have htk : (start M).wks.take (i + 1) = (start M).wks.take i ++ [{ run := !th.2.isEmpty, pc := 0, ph := if th.2.isEmpty then .over else .begin, hand := [], cache := [], bats := List.replicate M.ns [] }] := by
          rw [List.take_add_one, hwl, List.getElem?_map, hth] <;> rfl
        rw [htk, List.map_append]
        refine ((q8.ex (e4.trans e5)).keep tk5).append (.one ?_)
        rw [start_wk]
        exact t5.keep tk5
    · obtain ⟨⟨q0, q1, q2, q3, q4⟩, q5, q6, ys, q7, q8⟩ := q
      rw [List.length_map, List.take_of_length_le (by rw [hwl, List.length_map]; exact Nat.le_refl _)] at q8
      refine q_asgD (d := .tuple (List.replicate M.ns (.tuple []))) (ed_tupN (eld_lcR (n := M.ns) (ens (e02.trans q5) q1) wipe1 (by have := F1.ns; omega) (by rw [List.length_replicate]) fun i d H4 e4 hd => ?_)) fun v4 H4 e4 t4 => ?_
      · have := List.getElem?_replicate (a := PyData.tuple []) (n := M.ns) (i := i)
        rw [this] at hd
        split at hd
        · cases hd; exact ed_tup el_nil ble
        · cases hd
      have r0 : (σ'.set 4 (some v4))[0]? = some (some (.ref m)) := by rw [List.getElem?_set_ne (by decide)]; exact q1
      have r3 : (σ'.set 4 (some v4))[3]? = some (some (.ref p)) := by rw [List.getElem?_set_ne (by decide)]; exact q4
      have r4 : (σ'.set 4 (some v4))[4]? = some (some v4) := List.getElem?_set_self (by omega)
      have e04 := (e02.trans q5).trans e4
      have y4 := e4 _ _ q7
      have em0 : (.tuple ((start M).slots.map eSl) : PyData) = .tuple (List.replicate M.nsl .none) := by
        show PyData.tuple ((List.replicate M.nsl Sl.non).map eSl) = _
        rw [List.map_replicate] <;> rfl
      have em1 : (.tuple ((start M).arrs.map eBs) : PyData) = .tuple (List.replicate M.ns (.tuple [])) := by
        show PyData.tuple ((List.replicate M.ns []).map eBs) = _
        rw [List.map_replicate] <;> rfl
      have hmm := hm.ex e04
      refine s_retE (te_state (D := start M) (el_cons (ed_rep (n := 4) (d := ePg .store) (ed_tup (el_cons (ed_store T) el_nil) ble) (ed_set (i := 3) (d := eN 4) hmm (ev_var r0) rfl).int (by decide) (by decide)) (el_cons (by rw [em0]; exact ed_repOr (ed_tup (el_cons ed_non el_nil) ble) (ed_set (i := 6) (d := eN M.nsl) hmm (ev_var r0) rfl).int hnsl (by have := F1.nsl; omega)) (el_cons (ed_tupL (ev_var r3) y4 (q8.ex e4)) (el_cons (by rw [em1]; exact ed_var r4 t4) (el_cons (ed_tup el_nil ble) el_nil))))) fun st H5 e5 hst => k st H5 (e04.trans e5) hst)

end
end Rp
set_option Elab.async false
set_option linter.all false
set_option maxRecDepth 100000
set_option maxHeartbeats 4000000
set_option autoImplicit false
namespace Rp
open PySem PySem.Spec PyProof.Rows L2 Mx Evl Hf
section
variable {P : Program} {w : World} {K : Frg} {mg : Str → Option Value} {base : Heap}
theorem ok_Worker_entry (T : Txt K mg w) (F : FnD K d_Worker_entry)  : Ok P w K mg base 1 (He.ma K (He.ga K "Worker") "entry") ["self"] (spEntry K) := by
  have sc : FnScope ["self", "caches", "batches", "cache", "row", "batch"] ["self"] (defScope s_Worker_entry) := ⟨rfl, rfl, rfl, by decide +kernel, rfl, by decide +kernel, by decide +kernel⟩
  let nm : List Str := ["self", "caches", "batches", "cache", "row", "batch"]
  refine ok_of F rfl rfl sc (fun _ _ _ _ _ _ us hl => match us, hl with | [_], _ => rfl) (fun vs H Q E h => ?_) (fun cdv A outer s H vs Q E hr h => ?_)
  · obtain ⟨loc, D, t, w', rfl, _⟩ := h
    rfl
  · obtain ⟨loc, D, t, wk, rfl, R, hw, hb, k⟩ := h
    refine ⟨_, (pss_cons (ps_set (i := 1) sc.nd rfl (by first | exact Or.inl rfl | exact Or.inr rfl) (pe_callTy Ru.cr_tup (by rfl) T.free_tuple (by decide +kernel) (pa_cons (pe_lc (own := [("cache", 3)]) (g := (gName 3)) (by rfl) sc.nd (pi_list (pe_fld (pv 0) rfl)) (blkOk_by (own := [("cache", 3)]) (N := nm) (sc := defScope s_Worker_entry) (by decide +kernel)) (fun _ _ _ _ _ => (pg_name (i := 3) sc.nd rfl (by first | exact Or.inl rfl | exact Or.inr rfl))) (fun _ _ _ _ _ => pts_nil) (fun _ _ _ _ _ => (pe_callTy (show CallR _ _ (Ru.rTupS K) from Ru.cr_tup) (by rfl) T.free_tuple (by decide +kernel) (pa_cons (pv 3) pa_nil)))) pa_nil))) (pss_cons (ps_set (i := 2) sc.nd rfl (by first | exact Or.inl rfl | exact Or.inr rfl) (pe_callTy Ru.cr_tup (by rfl) T.free_tuple (by decide +kernel) (pa_cons (pe_lc (own := [("row", 4)]) (g := (gName 4)) (by rfl) sc.nd (pi_list (pe_fld (pv 0) rfl)) (blkOk_by (own := [("row", 4)]) (N := nm) (sc := defScope s_Worker_entry) (by decide +kernel)) (fun _ _ _ _ _ => (pg_name (i := 4) sc.nd rfl (by first | exact Or.inl rfl | exact Or.inr rfl))) (fun _ _ _ _ _ => pts_nil) (fun _ _ _ _ _ => (pe_callTy (show CallR _ _ (Ru.rTupS K) from Ru.cr_tup) (by rfl) T.free_tuple (by decide +kernel) (pa_cons (pe_lc (own := [("batch", 5)]) (g := (gName 5)) (by rfl) sc.nd (show PI _ _ _ (iList K _) from (pi_list (pv 4))) (blkOk_by (own := [("batch", 5)]) (N := nm) (sc := cscope (carg (aval ((defBody s_Worker_entry).getD 1 (.Pass ⟨0, 0, 0, 0⟩))))) (by decide +kernel)) (fun _ _ _ _ _ => (pg_name (i := 5) sc.nd rfl (by first | exact Or.inl rfl | exact Or.inr rfl))) (fun _ _ _ _ _ => pts_nil) (fun _ _ _ _ _ => (pe_callTy (show CallR _ _ (Ru.rTupS K) from Ru.cr_tup) (by rfl) T.free_tuple (by decide +kernel) (pa_cons (pv 5) pa_nil)))) pa_nil)))) pa_nil))) (pss_one (ps_ret (pe_tup (pa_cons (pe_fld (pv 0) rfl) (pa_cons (pe_fld (pv 0) rfl) (pa_cons (pe_fld (pv 0) rfl) (pa_cons (pe_callTy Ru.cr_tup (by rfl) T.free_tuple (by decide +kernel) (pa_cons (pe_fld (pv 0) rfl) pa_nil)) (pa_cons (pv 1) (pa_cons (pv 2) pa_nil))))))))))), ?_⟩
    refine q_asgD (d := .tuple [eBs wk.cache]) (ed_tupN (eld_lcL (ds := [eBs wk.cache]) (ev_caches T R hw (ev_var rfl)) (SqL.of (R.atCaches hw)) (fun _ => rfl) (Nat.le_of_ble_eq_true rfl) rfl fun i x d H1 e hx hd => ?_)) fun v1 H1 e1 t1 => ?_
    · cases i with
      | succ i => cases hx
      | zero =>
        cases hx
        cases hd
        obtain ⟨ys, c1, c2⟩ := R.atCache hw
        exact ed_tupL (ev_var rfl) (e _ _ c1) (c2.ex e)
    have R1 := R.ex e1
    refine q_asgD (d := .tuple (wk.bats.map fun l => .tuple [eBs l])) (ed_tupN (eld_lcL (ds := wk.bats.map fun l => .tuple [eBs l]) (ev_batches T R1 hw (ev_var rfl)) (SqL.of (R1.atBats hw)) (fun _ => rfl) (by rw [List.length_map, List.length_map, List.length_range]; omega) (by rw [List.length_map, List.length_map, List.length_range, List.length_map]) fun i x d H2 e hx hd => ?_)) fun v2 H2 e2 t2 => ?_
    · have hi : i < wk.bats.length := by
        have := (List.getElem?_eq_some_iff.mp hx).1
        rw [List.length_map, List.length_map, List.length_range] at this
        exact this
      rw [List.getElem?_map, range_at hi] at hx
      cases hx
      have hj := List.getElem?_eq_getElem hi
      rw [List.getElem?_map, hj] at hd
      cases hd
      refine ed_tupN (eld_lcL (ds := [eBs wk.bats[i]]) (ev_var rfl) (SqL.of (e _ _ (R1.atRow hw hj))) (fun _ => rfl) (Nat.le_of_ble_eq_true rfl) rfl fun i' x d H3 e3 hx hd => ?_)
      cases i' with
      | succ i => cases hx
      | zero =>
        cases hx
        cases hd
        obtain ⟨zs, z1, z2⟩ := R1.atBat hw hj
        exact ed_tupL (ev_var rfl) ((e.trans e3) _ _ z1) (z2.ex (e.trans e3))
    have R2 := R1.ex e2
    obtain ⟨xs, h1, h2⟩ := R2.atHand hw
    refine s_retD (d := eWk wk) (ed_tup (el_cons (ed_str (ev_status T R2 hw (ev_var rfl))) (el_cons (ed_int (ev_at T R2 hw (ev_var rfl))) (el_cons (ed_str (ev_phase T R2 hw (ev_var rfl))) (el_cons (ed_tupL (ev_hand T R2 hw (ev_var rfl)) h1 h2) (el_cons (ed_var rfl (t1.ex e2)) (el_cons (ed_var rfl t2) el_nil)))))) ble) fun v H3 e3 t3 => k v H3 ((e1.trans e2).trans e3) t3

end
end Rp
set_option Elab.async false
set_option linter.all false
set_option maxRecDepth 100000
set_option maxHeartbeats 4000000
set_option autoImplicit false
namespace Rp
open PySem PySem.Spec PyProof.Rows L2 Mx Evl Hf
section
variable {P : Program} {w : World} {K : Frg} {mg : Str → Option Value} {base : Heap}
theorem ok_Draft_frozen (T : Txt K mg w) (F : FnD K d_Draft_frozen) (G_State_init : Ok P w K mg base 1 (He.ma K (He.ga K "State") "__init__") ["self", "pages", "slots", "threads", "arrivals", "flight"] (spStateI K)) (G_Worker_entry : Ok P w K mg base 1 (He.ma K (He.ga K "Worker") "entry") ["self"] (spEntry K)) : Ok P w K mg base 3 (He.ma K (He.ga K "Draft") "frozen") ["self"] (spFrozen K) := by
  have sc : FnScope ["self", "threads", "arrivals", "worker", "blocks"] ["self"] (defScope s_Draft_frozen) := ⟨rfl, rfl, rfl, by decide +kernel, rfl, by decide +kernel, by decide +kernel⟩
  let nm : List Str := ["self", "threads", "arrivals", "worker", "blocks"]
  refine ok_of F rfl rfl sc (fun _ _ _ _ _ _ us hl => match us, hl with | [_], _ => rfl) (fun vs H Q E h => ?_) (fun cdv A outer s H vs Q E hr h => ?_)
  · obtain ⟨loc, D, M, rfl, _⟩ := h
    rfl
  · obtain ⟨loc, D, M, rfl, R, F', k⟩ := h
    refine ⟨_, (pss_cons (ps_set (i := 1) sc.nd rfl (by first | exact Or.inl rfl | exact Or.inr rfl) (pe_callTy Ru.cr_tup (by rfl) T.free_tuple (by decide +kernel) (pa_cons (pe_lc (own := [("worker", 3)]) (g := (gName 3)) (by rfl) sc.nd (pi_list (pe_fld (pv 0) rfl)) (blkOk_by (own := [("worker", 3)]) (N := nm) (sc := defScope s_Draft_frozen) (by decide +kernel)) (fun _ _ _ _ _ => (pg_name (i := 3) sc.nd rfl (by first | exact Or.inl rfl | exact Or.inr rfl))) (fun _ _ _ _ _ => pts_nil) (fun _ _ _ _ _ => (pe_methO0 (pv 3) T.cls_Worker T.meth_Worker_entry G_Worker_entry (hr.mono (by decide))))) pa_nil))) (pss_cons (ps_set (i := 2) sc.nd rfl (by first | exact Or.inl rfl | exact Or.inr rfl) (pe_callTy Ru.cr_tup (by rfl) T.free_tuple (by decide +kernel) (pa_cons (pe_lc (own := [("blocks", 4)]) (g := (gName 4)) (by rfl) sc.nd (pi_list (pe_fld (pv 0) rfl)) (blkOk_by (own := [("blocks", 4)]) (N := nm) (sc := defScope s_Draft_frozen) (by decide +kernel)) (fun _ _ _ _ _ => (pg_name (i := 4) sc.nd rfl (by first | exact Or.inl rfl | exact Or.inr rfl))) (fun _ _ _ _ _ => pts_nil) (fun _ _ _ _ _ => (pe_callTy (show CallR _ _ (Ru.rTupS K) from Ru.cr_tup) (by rfl) T.free_tuple (by decide +kernel) (pa_cons (pv 4) pa_nil)))) pa_nil))) (pss_one (ps_ret (pe_makeO T.mkr_State G_State_init (hr.mono (by decide)) (by rfl) T.glo_State (pa_cons (pe_callTy Ru.cr_tup (by rfl) T.free_tuple (by decide +kernel) (pa_cons (pe_fld (pv 0) rfl) pa_nil)) (pa_cons (pe_callTy Ru.cr_tup (by rfl) T.free_tuple (by decide +kernel) (pa_cons (pe_fld (pv 0) rfl) pa_nil)) (pa_cons (pv 1) (pa_cons (pv 2) (pa_cons (pe_callTy Ru.cr_tup (by rfl) T.free_tuple (by decide +kernel) (pa_cons (pe_fld (pv 0) rfl) pa_nil)) pa_nil)))))))))), ?_⟩
    obtain ⟨dx, hdr⟩ := R.atDrf
    have hwl : D.wks.length ≤ 100 := by rw [F'.wl]; exact F'.thr
    have hal : D.arrs.length ≤ 100 := by rw [F'.al]; exact F'.ns
    refine q_asgD (d := .tuple (D.wks.map eWk)) (ed_tupN (eld_lcL (ds := D.wks.map eWk) (ev_fld (ev_var rfl) hdr T.cls_Draft T.noat_Draft_workers lk_Draft_workers) (SqL.of R.atWks) (fun _ => rfl) (by rw [List.length_map, List.length_map, List.length_range]; omega) (by rw [List.length_map, List.length_map, List.length_range, List.length_map]) fun i x d H1 e hx hd => ?_)) fun v1 H1 e1 t1 => ?_
    · have hi : i < D.wks.length := by
        have := (List.getElem?_eq_some_iff.mp hx).1
        rw [List.length_map, List.length_map, List.length_range] at this
        exact this
      rw [List.getElem?_map, range_at hi] at hx
      cases hx
      have hj := List.getElem?_eq_getElem hi
      rw [List.getElem?_map, hj] at hd
      cases hd
      obtain ⟨dx2, hk⟩ := R.atWk hj
      intro H2 e2 Q' q
      refine (ev_var (v := .ref (loc (.wk i))) rfl) H2 e2 _ fun H3 e3 => ⟨_, dx2, _, rfl, (e.trans (e2.trans e3)) _ _ hk, no_Worker_entry, loc, D, i, _, rfl, R.ex (e.trans (e2.trans e3)), hj, by rw [(F'.wk i _ hj).2.2.1]; have := F'.ns; omega, fun v H4 e4 t4 => q v H4 (e3.trans e4) t4⟩
    have R1 := R.ex e1
    have hdr1 := e1 _ _ hdr
    refine q_asgD (d := .tuple (D.arrs.map eBs)) (ed_tupN (eld_lcL (ds := D.arrs.map eBs) (ev_fld (ev_var rfl) hdr1 T.cls_Draft T.noat_Draft_own_arrivals lk_Draft_own_arrivals) (SqL.of R1.atArrs) (fun _ => rfl) (by rw [List.length_map, List.length_map, List.length_range]; omega) (by rw [List.length_map, List.length_map, List.length_range, List.length_map]) fun i x d H2 e hx hd => ?_)) fun v2 H2 e2 t2 => ?_
    · have hi : i < D.arrs.length := by
        have := (List.getElem?_eq_some_iff.mp hx).1
        rw [List.length_map, List.length_map, List.length_range] at this
        exact this
      rw [List.getElem?_map, range_at hi] at hx
      cases hx
      have hj := List.getElem?_eq_getElem hi
      rw [List.getElem?_map, hj] at hd
      cases hd
      obtain ⟨zs, z1, z2⟩ := R1.atArr hj
      exact ed_tupL (ev_var rfl) (e _ _ z1) (z2.ex e)
    have R2 := R1.ex e2
    have hdr2 := e2 _ _ hdr1
    obtain ⟨xp, p1, p2⟩ := R2.atPages
    obtain ⟨xq, q1, q2⟩ := R2.atSlots
    obtain ⟨xr, r1, r2⟩ := R2.atFlight
    have key : ∀ (tA : TA) (σ' : L2.St), EvDL K tA σ' H2 (lDS D) → tMake (He.ga K "State") (spStateI K) [] E0 tA σ' H2 Q := by
      intro tA σ' ea
      refine ea H2 (Ex.refl H2) _ fun vs H3 e3 tv => ?_
      obtain ⟨u1, r1', rfl, a1, b1⟩ := tv.cons_inv
      obtain ⟨u2, r2', rfl, a2, b2⟩ := b1.cons_inv
      obtain ⟨u3, r3', rfl, a3, b3⟩ := b2.cons_inv
      obtain ⟨u4, r4', rfl, a4, b4⟩ := b3.cons_inv
      obtain ⟨u5, r5', rfl, a5, b5⟩ := b4.cons_inv
      obtain rfl := TdL.nil_iff.mp b5
      intro x dx' hx hdx hne
      refine ⟨x, _, u1, u2, u3, u4, u5, rfl, upd_same, fun H' p hf hxo hq => ?_⟩
      have e4 := made_ex hx hdx hf
      exact ⟨rfl, k x H' (((e1.trans e2).trans e3).trans e4) ⟨_, p, hxo, .tup hq (tv.ex e4)⟩⟩
    exact key _ _ (el_cons (ed_tupL (ev_fld (ev_var rfl) hdr2 T.cls_Draft T.noat_Draft_own_pages lk_Draft_own_pages) p1 p2) (el_cons (ed_tupL (ev_fld (ev_var rfl) hdr2 T.cls_Draft T.noat_Draft_own_slots lk_Draft_own_slots) q1 q2) (el_cons (ed_var rfl (t1.ex e2)) (el_cons (ed_var rfl t2) (el_cons (ed_tupL (ev_fld (ev_var rfl) hdr2 T.cls_Draft T.noat_Draft_own_flight lk_Draft_own_flight) r1 r2) el_nil)))))

end
end Rp
set_option Elab.async false
set_option linter.all false
set_option maxRecDepth 100000
set_option maxHeartbeats 4000000
set_option autoImplicit false
namespace Rp
open PySem PySem.Spec PyProof.Rows L2 Mx Evl Hf
section
variable {P : Program} {w : World} {K : Frg} {mg : Str → Option Value} {base : Heap}
theorem ok_Stepper_carry (T : Txt K mg w) (F : FnD K d_Stepper_carry)  : Ok P w K mg base 1 (He.ma K (He.ga K "Stepper") "carry") ["self", "message"] (spCarry K) := by
  have sc : FnScope ["self", "message", "socket", "blocks"] ["self", "message"] (defScope s_Stepper_carry) := ⟨rfl, rfl, rfl, by decide +kernel, rfl, by decide +kernel, by decide +kernel⟩
  let nm : List Str := ["self", "message", "socket", "blocks"]
  refine ok_of F rfl rfl sc (fun _ _ _ _ _ _ us hl => match us, hl with | [_, _], _ => rfl) (fun vs H Q E h => ?_) (fun cdv A outer s H vs Q E hr h => ?_)
  · obtain ⟨s, M, loc, D, t, z, x, rfl, _⟩ := h
    rfl
  · obtain ⟨s, M, loc, D, t, z, x, rfl, S, ⟨F1, hm⟩, k⟩ := h
    dsimp only at k
    refine ⟨_, (pss_cons (ps_asg (pe_bm PySem.F.plainAttrs_list PySem.F.slot_list_pop PySem.F.type_list_pop mt_popAt (pe_fld (pe_fld (pv 0) rfl) rfl) (pa_cons (pv 1) pa_nil)) (pg_tup rfl (pgs_cons (pg_name (i := 2) sc.nd rfl (by first | exact Or.inl rfl | exact Or.inr rfl)) (pgs_cons (pg_name (i := 3) sc.nd rfl (by first | exact Or.inl rfl | exact Or.inr rfl)) pgs_nil)))) (pss_cons (ps_expr (pe_bm PySem.F.plainAttrs_list PySem.F.slot_list_extend PySem.F.type_list_extend Ru.mt_extT (pe_ix ix_list (pe_fld (pe_fld (pv 0) rfl) rfl) (pv 2) (fun _ _ => rfl)) (pa_cons (pv 3) pa_nil))) (pss_one (ps_ret (pe_tup (pa_cons pe_str (pa_cons (pv 2) (pa_cons (pe_callB Ru.cr_len (by rfl) T.free_len PySem.boot_len (pa_cons (pv 3) pa_nil)) pa_nil)))))))), ?_⟩
    obtain ⟨xs, h1, h2⟩ := S.rep.atFlight
    have hme := List.getElem?_eq_getElem hm
    generalize hX : D.fl[t] = X at hme
    obtain ⟨sz, bs⟩ := X
    obtain ⟨v, hv, tv⟩ := h2.get (i := t) (d := eMs (sz, bs)) (by rw [List.getElem?_map, hme] <;> rfl)
    have hfb := F1.fb (sz, bs) (List.mem_of_getElem? hme)
    have hbl : bs.length ≤ 100 := hfb.2
    refine q_asgE (te_popAt (j := t) (ev_flight T S (ev_var rfl)) h1 hv (by have := F1.fl; omega) (ev_var rfl) fun H1 e1 => ?_)
    have h1' := e1 _ _ h1
    have x1 : Ext H loc (upd H1 (loc .flight) (.lst (xs.eraseIdx t))) loc := (Ext.of_ex e1).trans (Ext.put h1' trivial)
    have S1 := S.ext x1 ((S.rep.ex e1).popFlight (m := t) h1')
    have tv1 := tv.keep x1.tk
    obtain ⟨a, ys, rfl, hs, ts⟩ := tv1.tup_inv
    obtain ⟨v1, r1, rfl, t1, u1⟩ := ts.cons_inv
    obtain ⟨v2, r2, rfl, t2, u2⟩ := u1.cons_inv
    obtain rfl := TdL.nil_iff.mp u2
    obtain rfl := Td.int_iff.mp t1
    refine ⟨_, _, rfl, hs, rfl, g2 ?_⟩
    have hz : sz < D.arrs.length := by rw [F1.al]; exact hfb.1
    have hzl := List.getElem?_eq_getElem hz
    have hal := F1.ar _ (List.getElem_mem hz)
    obtain ⟨b, zs, rfl, hb, tb⟩ := t2.tup_inv
    obtain ⟨ws, w1, w2⟩ := S1.rep.atArr (j := sz) hzl
    have hwl : ws.length = D.arrs[sz].length := by rw [w2.length, List.length_map]
    have hzs : zs.length = bs.length := by rw [tb.length, List.length_map]
    refine e_drop ((ev_arr (z := sz) T S1 (ev_var rfl) (ev_var rfl) hz) _ (Ex.refl _) _ fun H2 e2 => ⟨Or.inl ⟨rfl, ws, sq_of (e2 _ _ w1)⟩, (ev_var (v := .ref b) rfl) H2 (Ex.refl _) _ fun H3 e3 => ?_⟩)
    have e23 := e2.trans e3
    have w3 := e23 _ _ w1
    refine ⟨_, b, ws, zs, rfl, rfl, w3, ex_t e23 hb, sz_of (by omega), ?_⟩
    have x3 : Ext _ loc (upd H3 (loc (.arr sz)) (.lst (ws ++ zs))) loc := (Ext.of_ex e23).trans (Ext.put w3 trivial)
    have S3 := S1.ext x3 ((S1.rep.ex e23).putArr (z := sz) (l := D.arrs[sz]) (l' := D.arrs[sz] ++ bs) (xs := ws ++ zs) hzl (by rw [List.map_append]; exact (w2.ex e23).append (tb.ex e23)))
    have tb3 := t2.keep x3.tk
    have ea : carry D t = (({ D with fl := D.fl.eraseIdx t } : DS).setArr sz (D.arrs[sz] ++ bs), .carry sz bs.length) := by
      unfold carry
      rw [hme]
      show (_, _) = _
      rw [arr_of hzl]
    have hlen := ev_lenD (K := K) (ta := tVar 3) (ed_var (σ := ((L2.start ["self", "message", "socket", "blocks"] (V.ref s :: (a1 t z x).map V.int)).set 2 (some (.int (sz : Nat)))).set 3 (some (.ref b))) (i := 3) rfl tb3)
    rw [List.length_map] at hlen
    refine s_retD (K := K) (d := eEv (.carry sz bs.length)) (ed_tup (el_cons (ed_str ev_c) (el_cons (ed_int (ev_var rfl)) (el_cons (ed_int hlen) el_nil))) ble) fun v2 H4 e4 t4 => ?_
    exact k v2 H4 loc ((S3.ex e4).is_ (by rw [ea])) ((x1.trans x3).ex e4) (by rw [ea]; exact t4)

end
end Rp
set_option Elab.async false
set_option linter.all false
set_option maxRecDepth 100000
set_option maxHeartbeats 4000000
set_option autoImplicit false
namespace Rp
open PySem PySem.Spec PyProof.Rows L2 Mx Evl Hf
section
variable {P : Program} {w : World} {K : Frg} {mg : Str → Option Value} {base : Heap}
theorem bats_any (w' : Wk) : (((List.range w'.bats.length).map fun j => !(w'.bat j).isEmpty).any id) = !(w'.bats.all List.isEmpty) := by
  have e : w'.bats = (List.range w'.bats.length).map fun j => w'.bat j := by
    apply List.ext_getElem?
    intro i
    by_cases h : i < w'.bats.length
    · rw [range_at h, List.getElem?_eq_getElem h, bat_of (List.getElem?_eq_getElem h)]
    · rw [List.getElem?_eq_none (by omega), List.getElem?_eq_none (by rw [List.length_map, List.length_range]; omega)]
  rw [show w'.bats.all List.isEmpty = ((List.range w'.bats.length).map fun j => w'.bat j).all List.isEmpty from congrArg (fun l => List.all l List.isEmpty) e]
  rw [List.any_map, List.all_map]
  induction List.range w'.bats.length with
  | nil => rfl
  | cons x l ih => simp only [List.any_cons, List.all_cons, Function.comp, id] at ih ⊢; rw [ih, Bool.not_and]
theorem ok_Worker_is_empty (T : Txt K mg w) (F : FnD K d_Worker_is_empty)  : Ok P w K mg base 1 (He.ma K (He.ga K "Worker") "is_empty") ["self"] (spEmpty K) := by
  have sc : FnScope ["self", "row"] ["self"] (defScope s_Worker_is_empty) := ⟨rfl, rfl, rfl, by decide +kernel, rfl, by decide +kernel, by decide +kernel⟩
  let nm : List Str := ["self", "row"]
  refine ok_of F rfl rfl sc (fun _ _ _ _ _ _ us hl => match us, hl with | [_], _ => rfl) (fun vs H Q E h => ?_) (fun cdv A outer s H vs Q E hr h => ?_)
  · obtain ⟨loc, D, t, w', rfl, _⟩ := h
    rfl
  · obtain ⟨loc, D, t, wk, rfl, R, hw, hb, k⟩ := h
    refine ⟨_, (pss_one (ps_ret (pe_and (pe_cmpR (op_eqD hr.units) (pe_fld (pv 0) rfl) (pe_lst pa_nil) (nomark _)) (pe_and (pe_not (pe_callB (Ru.cr_anyL rfl) (by rfl) T.free_any (by decide +kernel) (pa_cons (pe_fld (pv 0) rfl) pa_nil))) (pe_one (pe_not (pe_callB (cr_any rfl) (by rfl) T.free_any (by decide +kernel) (pa_cons (pe_lc (own := [("row", 1)]) (g := (gName 1)) (by rfl) sc.nd (pi_list (pe_fld (pv 0) rfl)) (blkOk_by (own := [("row", 1)]) (N := nm) (sc := defScope s_Worker_is_empty) (by decide +kernel)) (fun _ _ _ _ _ => (pg_name (i := 1) sc.nd rfl (by first | exact Or.inl rfl | exact Or.inr rfl))) (fun _ _ _ _ _ => pts_nil) (fun _ _ _ _ _ => (pe_callB (show CallR _ _ (Ru.rAnyL K) from (Ru.cr_anyL rfl)) (by rfl) T.free_any (by decide +kernel) (pa_cons (pv 1) pa_nil)))) pa_nil)))))))), ?_⟩
    obtain ⟨xs, h1, h2⟩ := R.atHand hw
    obtain ⟨ys, c1, c2⟩ := R.atCache hw
    have eany : Ev (tCB (Ru.rAnyL K) (tCons (tFld K (tVar 0) "caches") tNil)) (L2.start ["self", "row"] [V.ref (loc (.wk t))]) H (.bl (!wk.cache.isEmpty)) := ev_is (ev_anyL (as := [loc (.cache t)]) (ev_caches T R hw (ev_var rfl)) (SqL.of (R.atCaches hw)) [!ys.isEmpty] rfl fun i l hi => by
      cases i with
      | zero => cases hi; exact ⟨ys, SqL.of c1, rfl⟩
      | succ i => cases hi) (by
        have := c2.length
        rw [List.length_map] at this
        cases hc : wk.cache <;> cases ys <;> simp_all)
    have erow : EvL (tLc (iList K (tFld K (tVar 0) "batches")) (gName 1) tYes (tCB (Ru.rAnyL K) (tCons (tVar 1) tNil)) [1]) (L2.start ["self", "row"] [V.ref (loc (.wk t))]) H (((List.range wk.bats.length).map fun j => !(wk.bat j).isEmpty).map V.bl) := fun H1 e1 Q' q => by
      refine el_lcL (fun _ => true) (fun i => .bl (!(wk.bat i).isEmpty)) (ev_batches T R hw (ev_var rfl)) (SqL.of (R.atBats hw)) (by rw [List.length_map, List.length_map, List.length_range]; omega) (fun _ => rfl) (fun _ _ _ _ _ => et_yes) (fun i x H2 e2 hx _ => ?_) H1 e1 Q' ?_
      · have hi : i < wk.bats.length := by
          have := (List.getElem?_eq_some_iff.mp hx).1
          rw [List.length_map, List.length_map, List.length_range] at this
          exact this
        rw [List.getElem?_map, range_at hi] at hx
        cases hx
        have hj := List.getElem?_eq_getElem hi
        obtain ⟨zs, z1, z2⟩ := R.atBat hw hj
        refine ev_is (ev_anyL (as := [loc (.bat t i)]) (ev_var rfl) (SqL.of (e2 _ _ (R.atRow hw hj))) [!zs.isEmpty] rfl fun i' l hi' => by
          cases i' with
          | zero => cases hi'; exact ⟨zs, SqL.of (e2 _ _ z1), rfl⟩
          | succ i => cases hi') ?_
        have := z2.length
        rw [List.length_map] at this
        rw [bat_of hj]
        cases hc : wk.bats[i] <;> cases zs <;> simp_all
      · rw [given_all, List.length_map, List.length_map, List.length_range]
        rw [List.map_map] at q
        exact q
    refine Evl.s_ret (ev_is (ev_andV (ev_lNil (ev_hand T R hw (ev_var rfl)) h1 h2) fun _ => ev_andV (ev_notV eany) fun _ => ev_notV (ev_any erow)) ?_) fun H1 e => k H1 e
    rw [bats_any]
    unfold Wk.empty
    cases wk.hand.isEmpty <;> cases wk.cache.isEmpty <;> cases wk.bats.all List.isEmpty <;> rfl

end
end Rp
set_option Elab.async false
set_option linter.all false
set_option maxRecDepth 100000
set_option maxHeartbeats 4000000
set_option autoImplicit false
namespace Rp
open PySem PySem.Spec PyProof.Rows L2 Mx Evl Hf
section
variable {P : Program} {w : World} {K : Frg} {mg : Str → Option Value} {base : Heap}
theorem ok_Stepper_look_for_end (T : Txt K mg w) (F : FnD K d_Stepper_look_for_end) (G_Machine_threads : Ok P w K mg base 1 (pg K "Machine" "threads") ["self"] (spSet K 2)) (G_Worker_is_empty : Ok P w K mg base 1 (He.ma K (He.ga K "Worker") "is_empty") ["self"] (spEmpty K)) : Ok P w K mg base 3 (He.ma K (He.ga K "Stepper") "look_for_end") ["self", "thread"] (spLookEnd K) := by
  have sc : FnScope ["self", "thread", "worker"] ["self", "thread"] (defScope s_Stepper_look_for_end) := ⟨rfl, rfl, rfl, by decide +kernel, rfl, by decide +kernel, by decide +kernel⟩
  let nm : List Str := ["self", "thread", "worker"]
  refine ok_of F rfl rfl sc (fun _ _ _ _ _ _ us hl => match us, hl with | [_, _], _ => rfl) (fun vs H Q E h => ?_) (fun cdv A outer s H vs Q E hr h => ?_)
  · obtain ⟨s, M, loc, D, t, rfl, _⟩ := h
    rfl
  · obtain ⟨s, M, loc, D, t, rfl, S, ⟨wk, hw, ht, hb⟩, k⟩ := h
    refine ⟨_, (pss_cons (ps_set (i := 2) sc.nd rfl (by first | exact Or.inl rfl | exact Or.inr rfl) (pe_ix ix_list (pe_fld (pe_fld (pv 0) rfl) rfl) (pv 1) (fun _ _ => rfl))) (pss_one (ps_if (pt_cmpR op_eq (pe_fld (pv 2) rfl) (pe_callB Ru.cr_len (by rfl) T.free_len PySem.boot_len (pa_cons (pe_ix ix_tup (pe_ix ix_tup (pe_propO (pe_fld (pv 0) rfl) T.cls_Machine T.prop_Machine_threads G_Machine_threads (hr.mono (by decide)) rfl) (pv 1) (fun _ _ => rfl)) pe_int (fun _ _ => rfl)) pa_nil)) (nomark _)) (pss_cons (ps_fld (pv 2) pe_str rfl) (pss_one (ps_if (pt_val (pe_methO0 (pv 2) T.cls_Worker T.meth_Worker_is_empty G_Worker_is_empty (hr.mono (by decide)))) (pss_one (ps_asg (pe_tup (pa_cons pe_str (pa_cons pe_str pa_nil))) (pg_tup rfl (pgs_cons (Ru.pg_fld (pv 2)) (pgs_cons (Ru.pg_fld (pv 2)) pgs_nil))))) pss_nil))) pss_nil))), ?_⟩
    have hth : M.thr[t]? = some (M.thr[t]) := List.getElem?_eq_getElem ht
    have hpr : (M.prog t).length = (M.thr[t]).2.length := by
      unfold MC.prog
      rw [List.getD_eq_getElem?_getD, hth] <;> rfl
    refine q_asg (ev_worker T S (ev_var rfl) (ev_var rfl) hw) fun H1 e1 => ?_
    have S1 := S.ex e1
    have elen := ev_lenD (K := K) (ed_ixT (tb := tC (.int 1)) (j := 1) (d := .tuple ((M.thr[t]).2.map eOp)) (ed_ixT (tb := tVar 1) (σ := (L2.start ["self", "thread", "worker"] [V.ref s, V.int (t : Nat)]).set 2 (some (V.ref (loc (.wk t))))) (j := t) (d := eTh (M.thr[t])) (ed_owner (i := 2) T S1 (ev_var (i := 0) rfl) rfl) (ev_var rfl) (ixN_of (by rw [List.length_map]; exact ht)) (by rw [List.getElem?_map, hth]; rfl)) ev_c rfl rfl)
    rw [List.length_map] at elen
    have hle : lookEnd M D t = if wk.pc = (M.thr[t]).2.length then (if wk.empty then D.setWk t { wk with run := false, ph := .over } else D.setWk t { wk with ph := .flush }) else D := by
      unfold lookEnd
      rw [wk_of hw, hpr]
    refine s_when (et_test (ev_eqN (ev_at T S1.rep hw (ev_var rfl)) elen)) (fun hb2 H2 e2 => ?_) fun hb2 H2 e2 => ?_
    · have S2 := S1.ex e2
      refine q_phase (p := .flush) T S2 hw (ev_var rfl) ev_c fun H3 S3 x3 => ?_
      have hw3 := setWk_at (w' := { wk with ph := .flush }) hw
      obtain ⟨dx, hk⟩ := S3.rep.atWk hw3
      refine s_when (b := wk.empty) (et_B (fun H4 e4 Q' q => (ev_var (v := .ref (loc (.wk t))) rfl) H4 e4 _ fun H5 e5 => ⟨_, dx, _, rfl, (e4.trans e5) _ _ hk, no_Worker_is_empty, loc, _, t, _, rfl, S3.rep.ex (e4.trans e5), hw3, hb, fun H6 e6 => q H6 (e5.trans e6)⟩)) (fun hb3 H4 e4 => ?_) fun hb3 H4 e4 => ?_
      · have S4 := S3.ex e4
        have et : EvD K (tTup (tCons (tC (.str "ended")) (tCons (tC (.str "over")) tNil))) ((L2.start ["self", "thread", "worker"] [V.ref s, V.int (t : Nat)]).set 2 (some (V.ref (loc (.wk t))))) H4 (.tuple [.str "ended", .str "over"]) := ed_tup (el_cons (ed_str ev_c) (el_cons (ed_str ev_c) el_nil)) ble
        refine s_asgTup et rfl fun xs H5 e5 tx => ?_
        obtain ⟨v1, r1, rfl, t1, u1⟩ := tx.cons_inv
        obtain ⟨v2, r2, rfl, t2, u2⟩ := u1.cons_inv
        obtain rfl := TdL.nil_iff.mp u2
        obtain rfl := Td.str_iff.mp t1
        obtain rfl := Td.str_iff.mp t2
        have S5 := S4.ex e5
        refine ⟨_, _, rfl, g_wk (w' := { wk with run := false, ph := .flush }) T S5 hw3 T.noat_Worker_status (ev_var rfl) rfl rfl rfl (put_status false) fun H6 S6 x6 => ⟨_, _, rfl, g_wk (w' := { wk with run := false, ph := .over }) T S6 (setWk_at hw3) T.noat_Worker_phase (ev_var rfl) rfl rfl rfl (put_phase .over) fun H7 S7 x7 => ⟨rfl, ?_⟩⟩⟩
        refine k H7 loc (S7.is_ ?_) ((((((((Ext.of_ex e1).ex e2).trans x3)).ex e4).ex e5).trans x6).trans x7)
        rw [hle, if_pos (of_decide_eq_true hb2), hb3, if_pos rfl, setWk_setWk, setWk_setWk]
      · refine k H4 loc ((S3.ex e4).is_ ?_) (((((Ext.of_ex e1).ex e2).trans x3)).ex e4)
        rw [hle, if_pos (of_decide_eq_true hb2), hb3]
        rfl
    · refine k H2 loc ((S1.ex e2).is_ ?_) ((Ext.of_ex e1).ex e2)
      rw [hle, if_neg (of_decide_eq_false hb2)]

end
end Rp
set_option Elab.async false
set_option linter.all false
set_option maxRecDepth 100000
set_option maxHeartbeats 4000000
set_option autoImplicit false
namespace Rp
open PySem PySem.Spec PyProof.Rows L2 Mx Evl Hf
section
variable {P : Program} {w : World} {K : Frg} {mg : Str → Option Value} {base : Heap}
theorem ok_Stepper_advance (T : Txt K mg w) (F : FnD K d_Stepper_advance) (G_Stepper_look_for_end : Ok P w K mg base 3 (He.ma K (He.ga K "Stepper") "look_for_end") ["self", "thread"] (spLookEnd K)) : Ok P w K mg base 4 (He.ma K (He.ga K "Stepper") "advance") ["self", "thread"] (spAdvance K) := by
  have sc : FnScope ["self", "thread", "worker"] ["self", "thread"] (defScope s_Stepper_advance) := ⟨rfl, rfl, rfl, by decide +kernel, rfl, by decide +kernel, by decide +kernel⟩
  let nm : List Str := ["self", "thread", "worker"]
  refine ok_of F rfl rfl sc (fun _ _ _ _ _ _ us hl => match us, hl with | [_, _], _ => rfl) (fun vs H Q E h => ?_) (fun cdv A outer s H vs Q E hr h => ?_)
  · obtain ⟨s, M, loc, D, t, rfl, _⟩ := h
    rfl
  · obtain ⟨s, M, loc, D, t, rfl, S, ⟨wk, hw, ht, hb⟩, k⟩ := h
    refine ⟨_, (pss_cons (ps_set (i := 2) sc.nd rfl (by first | exact Or.inl rfl | exact Or.inr rfl) (pe_ix ix_list (pe_fld (pe_fld (pv 0) rfl) rfl) (pv 1) (fun _ _ => rfl))) (pss_cons (ps_fldaug (pv 2) pe_int in_add) (pss_cons (ps_fld (pv 2) pe_str rfl) (pss_one (ps_expr (pe_methO (pv 0) T.cls_Stepper T.meth_Stepper_look_for_end G_Stepper_look_for_end (hr.mono (by decide)) (pa_cons (pv 1) pa_nil))))))), ?_⟩
    refine q_asg (ev_worker T S (ev_var rfl) (ev_var rfl) hw) fun H1 e1 => ?_
    refine q_at1 T (S.ex e1) hw (ev_var rfl) fun H2 S2 e2 => ?_
    refine q_phase (p := .begin) T S2 (setWk_at hw) (ev_var rfl) ev_c fun H3 S3 e3 => ?_
    rw [setWk_setWk] at S3
    refine e_thr S3 (ev_var rfl) (fun _ _ => no_Stepper_look_for_end) (ev_var rfl) ⟨_, setWk_at hw, ht, hb⟩ fun H4 l4 S4 e4 => ?_
    refine k _ l4 ?_ ((((Ext.of_ex e1).trans e2).trans e3).trans e4)
    have e : advance M D t = lookEnd M (D.setWk t { wk with pc := wk.pc + 1, ph := .begin }) t := by
      unfold advance
      rw [wk_of hw]
    rw [e]
    exact S4

end
end Rp
set_option Elab.async false
set_option linter.all false
set_option maxRecDepth 100000
set_option maxHeartbeats 4000000
set_option autoImplicit false
namespace Rp
open PySem PySem.Spec PyProof.Rows L2 Mx Evl Hf
section
variable {P : Program} {w : World} {K : Frg} {mg : Str → Option Value} {base : Heap}
theorem ok_Stepper_is_small (T : Txt K mg w) (F : FnD K d_Stepper_is_small)  : Ok P w K mg base 1 (He.ma K (He.ga K "Stepper") "is_small") ["self", "page"] (spIsSmall K) := by
  have sc : FnScope ["self", "page"] ["self", "page"] (defScope s_Stepper_is_small) := ⟨rfl, rfl, rfl, by decide +kernel, rfl, by decide +kernel, by decide +kernel⟩
  let nm : List Str := ["self", "page"]
  refine ok_of F rfl rfl sc (fun _ _ _ _ _ _ us hl => match us, hl with | [_, _], _ => rfl) (fun vs H Q E h => ?_) (fun cdv A outer s H vs Q E hr h => ?_)
  · obtain ⟨s, M, loc, D, p, h, f, rfl, _⟩ := h
    rfl
  · obtain ⟨s, M, loc, D, p, h, f, rfl, S, hp, k⟩ := h
    refine ⟨_, (pss_one (ps_ret (pe_cmpR op_eq (pe_ix ix_tup (pe_ix ix_list (pe_fld (pe_fld (pv 0) rfl) rfl) (pv 1) (fun _ _ => rfl)) pe_int (fun _ _ => rfl)) pe_str (nomark _)))), ?_⟩
    have e1 : EvD K (tOp (rIxL K) (tFld K (tFld K (tVar 0) "draft") "own_pages") (tVar 1)) [some (.ref s), some (.int (p : Nat))] H (ePg (.small h f)) := ed_page T S (ev_var rfl) (ev_var rfl) hp
    have e2 := (ed_ixT (tb := tC (.int 0)) (j := 0) (d := .str "small") e1 ev_c rfl rfl).str
    exact Evl.s_ret (ev_op e2 ev_c (rv_eq rfl)) fun H1 e => k H1 e

end
end Rp
set_option Elab.async false
set_option linter.all false
set_option maxRecDepth 100000
set_option maxHeartbeats 4000000
set_option autoImplicit false
namespace Rp
open PySem PySem.Spec PyProof.Rows L2 Mx Evl Hf
section
variable {P : Program} {w : World} {K : Frg} {mg : Str → Option Value} {base : Heap}
theorem ok_Stepper_adopt (T : Txt K mg w) (F : FnD K d_Stepper_adopt) (G_Stepper_advance : Ok P w K mg base 4 (He.ma K (He.ga K "Stepper") "advance") ["self", "thread"] (spAdvance K)) (G_Stepper_is_small : Ok P w K mg base 1 (He.ma K (He.ga K "Stepper") "is_small") ["self", "page"] (spIsSmall K)) : Ok P w K mg base 5 (He.ma K (He.ga K "Stepper") "adopt") ["self", "thread", "socket", "slot"] (spAdopt K) := by
  have sc : FnScope ["self", "thread", "socket", "slot", "content", "event", "word", "home", "kind", "free"] ["self", "thread", "socket", "slot"] (defScope s_Stepper_adopt) := ⟨rfl, rfl, rfl, by decide +kernel, rfl, by decide +kernel, by decide +kernel⟩
  let nm : List Str := ["self", "thread", "socket", "slot", "content", "event", "word", "home", "kind", "free"]
  refine ok_of F rfl rfl sc (fun _ _ _ _ _ _ us hl => match us, hl with | [_, _, _, _], _ => rfl) (fun vs H Q E h => ?_) (fun cdv A outer s H vs Q E hr h => ?_)
  · obtain ⟨s, M, loc, D, t, z, x, rfl, _⟩ := h
    rfl
  · obtain ⟨s, M, loc, D, t, z, x, rfl, S, ⟨wk, A1, hx, hsl⟩, k⟩ := h
    dsimp only at k
    refine ⟨_, (pss_cons (ps_set (i := 4) sc.nd rfl (by first | exact Or.inl rfl | exact Or.inr rfl) (pe_ix ix_list (pe_fld (pe_fld (pv 0) rfl) rfl) (pv 3) (fun _ _ => rfl))) (pss_cons (ps_set (i := 5) sc.nd rfl (by first | exact Or.inl rfl | exact Or.inr rfl) (pe_tup (pa_cons pe_str pa_nil))) (pss_cons (ps_if (PW.pt (pw_and (pt_cmpR op_eq (pe_ix ix_tup (pv 4) pe_int (fun _ _ => rfl)) pe_str (nomark _)) (pw_and1 (pt_val (pe_methO (pv 0) T.cls_Stepper T.meth_Stepper_is_small G_Stepper_is_small (hr.mono (by decide)) (pa_cons (pe_ix ix_tup (pv 4) pe_int (fun _ _ => rfl)) pa_nil)))))) (pss_cons (ps_asg (pe_ix ix_list (pe_fld (pe_fld (pv 0) rfl) rfl) (pe_ix ix_tup (pv 4) pe_int (fun _ _ => rfl)) (fun _ _ => rfl)) (pg_tup rfl (pgs_cons (pg_name (i := 6) sc.nd rfl (by first | exact Or.inl rfl | exact Or.inr rfl)) (pgs_cons (pg_name (i := 7) sc.nd rfl (by first | exact Or.inl rfl | exact Or.inr rfl)) (pgs_cons (pg_name (i := 8) sc.nd rfl (by first | exact Or.inl rfl | exact Or.inr rfl)) (pgs_cons (pg_name (i := 9) sc.nd rfl (by first | exact Or.inl rfl | exact Or.inr rfl)) pgs_nil)))))) (pss_cons (ps_asg (pe_tup (pa_cons (pv 6) (pa_cons (pv 2) (pa_cons (pv 8) (pa_cons (pv 9) pa_nil))))) (pg_sub (pe_fld (pe_fld (pv 0) rfl) rfl) (pe_ix ix_tup (pv 4) pe_int (fun _ _ => rfl)) set_list)) (pss_one (ps_set (i := 5) sc.nd rfl (by first | exact Or.inl rfl | exact Or.inr rfl) (pe_tup (pa_cons pe_str (pa_cons (pe_ix ix_tup (pv 4) pe_int (fun _ _ => rfl)) (pa_cons (pv 7) pa_nil)))))))) pss_nil) (pss_cons (ps_expr (pe_methO (pv 0) T.cls_Stepper T.meth_Stepper_advance G_Stepper_advance (hr.mono (by decide)) (pa_cons (pv 1) pa_nil))) (pss_one (ps_ret (pv 5))))))), ?_⟩
    have hw := A1.wk
    have F1 := A1.fit
    have wb := F1.wk t wk hw
    have hxs : x < D.slots.length := by rw [F1.sl]; exact hx
    have hs0 := List.getElem?_eq_getElem hxs
    rw [sl_of hs0] at hsl
    generalize hX : D.slots[x] = X at hs0 hsl
    refine q_asgD (ed_slot T S (ev_var rfl) (ev_var rfl) hs0) fun v H1 e1 t1 => ?_
    have S1 := S.ex e1
    refine q_asgD (K := K) (d := eEv .nothing) (ed_tup (el_cons (ed_str ev_c) el_nil) ble) fun vn H2 e2 tn => ?_
    have S2 := S1.ex e2
    have t2 := t1.ex e2
    cases X with
    | non => exact absurd rfl hsl
    | fail =>
      have ea : adopt M D t z x = (advance M D t, .nothing) := by
        unfold adopt
        rw [sl_of hs0]
      refine q_when (b := false) (et_is (et_and (a := false) (b := false) (et_test (ev_noStr (x := "failure") (ed_ixT (j := 0) (d := .str "failure") (ed_var (i := 4) rfl t2) ev_c rfl rfl).str (by decide +kernel))) (fun h => nomatch h)) rfl) (fun h => nomatch h) fun _ H3 e3 => ?_
      refine e_drop (e_thr (S2.ex e3) (ev_var rfl) (fun _ _ => no_Stepper_advance) (ev_var rfl) (F1.pT (w' := wk) hw A1.thl wb.2.2.1) fun H4 l4 S4 x4 => ?_)
      refine s_retD (ed_var rfl ((tn.ex e3).keep x4.tk)) fun v2 H5 e5 t5 => ?_
      exact k v2 H5 l4 ((S4.ex e5).is_ (by rw [ea])) (((((Ext.of_ex e1).ex e2).ex e3).trans x4).ex e5) (by rw [ea]; exact t5)
    | blk b =>
      obtain ⟨h, f, hp⟩ := F1.sm b (out_slot hs0)
      have hpl := (List.getElem?_eq_some_iff.mp hp).1
      have ea : adopt M D t z x = (advance M (D.setPg b.1 (.small z f)) t, .adopt b.1 h) := by
        unfold adopt
        rw [sl_of hs0]
        show (match D.pg b.1 with | .store => _ | .small h f => _) = _
        rw [pg_of hp]
      have eB : Ev (tOp rEq (tOp (rIxT K) (tVar 4) (tC (.int 0))) (tC (.str "block"))) (((L2.start ["self", "thread", "socket", "slot", "content", "event", "word", "home", "kind", "free"] (V.ref s :: (a3 t z x).map V.int)).set 4 (some v)).set 5 (some vn)) H2 (.bl true) := ev_op (ed_ixT (j := 0) (d := .str "block") (ed_var (i := 4) rfl t2) ev_c rfl rfl).str ev_c (rv_eq rfl)
      refine q_when (b := true) (et_is (et_and (a := true) (b := true) (et_test eB) (fun _ => et_B (ev_small S2 (ev_var rfl) (ed_ixT (j := 1) (d := eN b.1) (ed_var (i := 4) rfl t2) ev_c rfl rfl).int hp))) rfl) (fun _ H3 e3 => ?_) (fun h => nomatch h)
      have S3 := S2.ex e3
      have t3 := t2.ex e3
      refine q_page4 rfl (ed_page T S3 (ev_var rfl) (ed_ixT (j := 1) (d := eN b.1) (ed_var (i := 4) rfl t3) ev_c rfl rfl).int hp) fun fv H4 e4 tf => ?_
      have S4 := S3.ex e4
      have t4 := t3.ex e4
      refine q_setPage (x := .small z f) (p := b.1) T S4 (ed_tup (el_cons (ed_str (ev_var rfl)) (el_cons (ed_int (ev_var rfl)) (el_cons (ed_int (ev_var rfl)) (el_cons (ed_var rfl tf) el_nil)))) ble) (ev_var rfl) (ed_ixT (j := 1) (d := eN b.1) (ed_var (i := 4) rfl t4) ev_c rfl rfl).int hpl fun H5 S5 x5 => ?_
      have t5 := t4.keep x5.tk
      refine s_asgD (K := K) (d := eEv (.adopt b.1 h)) (ed_tup (el_cons (ed_str ev_c) (el_cons (ed_ixT (j := 1) (d := eN b.1) (ed_var (i := 4) rfl t5) ev_c rfl rfl) (el_cons (ed_int (ev_var rfl)) el_nil))) ble) fun v6 H6 e6 t6 => ?_
      dsimp only
      refine e_drop (e_thr (S5.ex e6) (ev_var rfl) (fun _ _ => no_Stepper_advance) (ev_var rfl) (F1.pT (w' := wk) hw A1.thl wb.2.2.1) fun H7 l7 S7 x7 => ?_)
      refine s_retD (ed_var rfl (t6.keep x7.tk)) fun v2 H8 e8 t8 => ?_
      exact k v2 H8 l7 ((S7.ex e8).is_ (by rw [ea])) ((((((((Ext.of_ex e1).ex e2).ex e3).ex e4).trans x5).ex e6).trans x7).ex e8) (by rw [ea]; exact t8)

end
end Rp
set_option Elab.async false
set_option linter.all false
set_option maxRecDepth 100000
set_option maxHeartbeats 4000000
set_option autoImplicit false
namespace Rp
open PySem PySem.Spec PyProof.Rows L2 Mx Evl Hf
section
variable {P : Program} {w : World} {K : Frg} {mg : Str → Option Value} {base : Heap}
theorem ok_Stepper_home_of (T : Txt K mg w) (F : FnD K d_Stepper_home_of)  : Ok P w K mg base 1 (He.ma K (He.ga K "Stepper") "home_of") ["self", "block"] (spHomeOf K) := by
  have sc : FnScope ["self", "block"] ["self", "block"] (defScope s_Stepper_home_of) := ⟨rfl, rfl, rfl, by decide +kernel, rfl, by decide +kernel, by decide +kernel⟩
  let nm : List Str := ["self", "block"]
  refine ok_of F rfl rfl sc (fun _ _ _ _ _ _ us hl => match us, hl with | [_, _], _ => rfl) (fun vs H Q E h => ?_) (fun cdv A outer s H vs Q E hr h => ?_)
  · obtain ⟨s, M, loc, D, bv, b, h, f, rfl, _⟩ := h
    rfl
  · obtain ⟨s, M, loc, D, bv, b, h, f, rfl, S, tb, hp, k⟩ := h
    refine ⟨_, (pss_one (ps_ret (pe_ix ix_tup (pe_ix ix_list (pe_fld (pe_fld (pv 0) rfl) rfl) (pe_ix ix_tup (pv 1) pe_int (fun _ _ => rfl)) (fun _ _ => rfl)) pe_int (fun _ _ => rfl)))), ?_⟩
    have e0 : Ev (tOp (rIxT K) (tVar 1) (tC (.int 0))) [some (.ref s), some bv] H (.int (b.1 : Nat)) := (ed_ixT (j := 0) (d := eN b.1) (ed_var (i := 1) rfl tb) ev_c rfl rfl).int
    have e1 := ed_page (ta := tVar 0) T S (ev_var rfl) e0 hp
    have e2 := (ed_ixT (tb := tC (.int 1)) (j := 1) (d := eN h) e1 ev_c rfl rfl).int
    exact Evl.s_ret e2 fun H1 e => k H1 e

end
end Rp
set_option Elab.async false
set_option linter.all false
set_option maxRecDepth 100000
set_option maxHeartbeats 4000000
set_option autoImplicit false
namespace Rp
open PySem PySem.Spec PyProof.Rows L2 Mx Evl Hf
section
variable {P : Program} {w : World} {K : Frg} {mg : Str → Option Value} {base : Heap}
theorem ok_Machine_spare (T : Txt K mg w) (F : FnD K d_Machine_spare)  : Ok P w K mg base 1 (pg K "Machine" "spare") ["self"] (spSet K 5) := by
  have sc : FnScope ["self"] ["self"] (defScope s_Machine_spare) := ⟨rfl, rfl, rfl, by decide +kernel, rfl, by decide +kernel, by decide +kernel⟩
  let nm : List Str := ["self"]
  refine ok_of F rfl rfl sc (fun _ _ _ _ _ _ us hl => match us, hl with | [_], _ => rfl) (fun vs H Q E h => ?_) (fun cdv A outer s H vs Q E hr h => ?_)
  · obtain ⟨m, dx, p, xs, v, rfl, _⟩ := h
    rfl
  · obtain ⟨m, dx, p, xs, v, rfl, hm, hs, hv, q⟩ := h
    refine ⟨_, (pss_one (ps_ret (pe_ix ix_tup (pe_fld (pv 0) rfl) pe_int (fun _ _ => rfl)))), ?_⟩
    exact ⟨_, rfl, m, _, dx, _, _, rfl, hm, T.cls_Machine, T.noat_Machine_settings, lk_Machine_settings, p, xs, (5 : Nat), v, rfl, rfl, hs, atI_nat hv, q⟩

end
end Rp
set_option Elab.async false
set_option linter.all false
set_option maxRecDepth 100000
set_option maxHeartbeats 4000000
set_option autoImplicit false
namespace Rp
open PySem PySem.Spec PyProof.Rows L2 Mx Evl Hf
section
variable {P : Program} {w : World} {K : Frg} {mg : Str → Option Value} {base : Heap}
theorem all_full (M : MC) (f : List Nat) : (((List.range M.size).map fun i => f.contains i).all id) = fullPg M f := by
  unfold fullPg
  rw [List.all_map]
  rfl
theorem ok_Stepper_put_home (T : Txt K mg w) (F : FnD K d_Stepper_put_home) (G_Machine_classes : Ok P w K mg base 1 (pg K "Machine" "classes") ["self"] (spSet K 1)) (G_Machine_spare : Ok P w K mg base 1 (pg K "Machine" "spare") ["self"] (spSet K 5)) (G_Stepper_spare_pages : Ok P w K mg base 1 (He.ma K (He.ga K "Stepper") "spare_pages") ["self", "socket"] (spSpare K)) : Ok P w K mg base 3 (He.ma K (He.ga K "Stepper") "put_home") ["self", "block"] (spPutHome K) := by
  have sc : FnScope ["self", "block", "free", "page", "number", "word", "home", "kind", "is_spare", "one"] ["self", "block"] (defScope s_Stepper_put_home) := ⟨rfl, rfl, rfl, by decide +kernel, rfl, by decide +kernel, by decide +kernel⟩
  let nm : List Str := ["self", "block", "free", "page", "number", "word", "home", "kind", "is_spare", "one"]
  refine ok_of F rfl rfl sc (fun _ _ _ _ _ _ us hl => match us, hl with | [_, _], _ => rfl) (fun vs H Q E h => ?_) (fun cdv A outer s H vs Q E hr h => ?_)
  · obtain ⟨s, M, loc, D, bv, b, h, f, rfl, _⟩ := h
    rfl
  · obtain ⟨s, M, loc, D, bv, b, h, f, rfl, S, hP, tb, hp, hf, hM, k⟩ := h
    refine ⟨_, (pss_cons (ps_asg (pv 1) (pg_tup rfl (pgs_cons (pg_name (i := 3) sc.nd rfl (by first | exact Or.inl rfl | exact Or.inr rfl)) (pgs_cons (pg_name (i := 4) sc.nd rfl (by first | exact Or.inl rfl | exact Or.inr rfl)) pgs_nil)))) (pss_cons (ps_asg (pe_ix ix_list (pe_fld (pe_fld (pv 0) rfl) rfl) (pv 3) (fun _ _ => rfl)) (pg_tup rfl (pgs_cons (pg_name (i := 5) sc.nd rfl (by first | exact Or.inl rfl | exact Or.inr rfl)) (pgs_cons (pg_name (i := 6) sc.nd rfl (by first | exact Or.inl rfl | exact Or.inr rfl)) (pgs_cons (pg_name (i := 7) sc.nd rfl (by first | exact Or.inl rfl | exact Or.inr rfl)) (pgs_cons (pg_name (i := 2) sc.nd rfl (by first | exact Or.inl rfl | exact Or.inr rfl)) pgs_nil)))))) (pss_cons (ps_set (i := 2) sc.nd rfl (by first | exact Or.inl rfl | exact Or.inr rfl) (pe_op op_catA (pv 2) (pe_tup (pa_cons (pv 4) pa_nil)))) (pss_cons (ps_asg (pe_tup (pa_cons (pv 5) (pa_cons (pv 6) (pa_cons (pv 7) (pa_cons (pv 2) pa_nil))))) (pg_sub (pe_fld (pe_fld (pv 0) rfl) rfl) (pv 3) set_list)) (pss_one (ps_if (pt_val (pe_callB (cr_all rfl) (by rfl) T.free_all (by decide +kernel) (pa_cons (pe_lc (own := [("one", 9)]) (g := (gName 9)) (by rfl) sc.nd (pi_range1 (by rfl) T.free_range (pa_cons (pe_ix ix_tup (pe_propO (pe_fld (pv 0) rfl) T.cls_Machine T.prop_Machine_classes G_Machine_classes (hr.mono (by decide)) rfl) (pv 7) (fun _ _ => rfl)) pa_nil)) (blkOk_by (own := [("one", 9)]) (N := nm) (sc := defScope s_Stepper_put_home) (by decide +kernel)) (fun _ _ _ _ _ => (pg_name (i := 9) sc.nd rfl (by first | exact Or.inl rfl | exact Or.inr rfl))) (fun _ _ _ _ _ => pts_nil) (fun _ _ _ _ _ => (pe_cmpR (show OpR _ _ (rIn K false) from op_in_seq) (pv 9) (pv 2) (by rfl)))) pa_nil))) (pss_cons (ps_set (i := 8) sc.nd rfl (by first | exact Or.inl rfl | exact Or.inr rfl) (pe_cmpR op_lt (pe_callB Ru.cr_len (by rfl) T.free_len PySem.boot_len (pa_cons (pe_methO (pv 0) T.cls_Stepper T.meth_Stepper_spare_pages G_Stepper_spare_pages (hr.mono (by decide)) (pa_cons (pv 6) pa_nil)) pa_nil)) (pe_propO (pe_fld (pv 0) rfl) T.cls_Machine T.prop_Machine_spare G_Machine_spare (hr.mono (by decide)) rfl) (nomark _))) (pss_one (ps_asg (pe_ifExp (pt_val (pv 8)) (pe_tup (pa_cons pe_str (pa_cons (pv 6) pa_nil))) (pe_glob (v := .ref _) (by rfl) T.glo_STORE rfl)) (pg_sub (pe_fld (pe_fld (pv 0) rfl) rfl) (pv 3) set_list)))) pss_nil)))))), ?_⟩
    have hpl := (List.getElem?_eq_some_iff.mp hp).1
    refine q_asg2D rfl (ed_var (i := 1) rfl tb) fun v1 v2 H1 e1 t1 t2 => ?_
    obtain rfl := Td.int_iff.mp t1
    obtain rfl := Td.int_iff.mp t2
    have S1 := S.ex e1
    refine q_page4 rfl (ed_page T S1 (ev_var rfl) (ev_var rfl) hp) fun v H2 e2 t3 => ?_
    have S2 := S1.ex e2
    refine q_asgD (d := .tuple (f.map eN ++ [eN b.2])) (ed_cat (ed_var rfl t3) (ed_tup (el_cons (ed_int (ev_var rfl)) el_nil) ble) (by rw [List.length_map]; show f.length + 1 ≤ 100000; omega)) fun v4 H3 e3 t4 => ?_
    have S3 := S2.ex e3
    have em : f.map eN ++ [eN b.2] = (f ++ [b.2]).map eN := by rw [List.map_append] <;> rfl
    rw [em] at t4
    refine q_setPage (x := .small h (f ++ [b.2])) (p := b.1) T S3 (ed_tup (el_cons (ed_str (ev_var rfl)) (el_cons (ed_int (ev_var rfl)) (el_cons (ed_int (ev_var rfl)) (el_cons (ed_var rfl t4) el_nil)))) ble) (ev_var rfl) (ev_var rfl) hpl fun H4 S4 x4 => ?_
    have t5 := t4.keep x4.tk
    obtain ⟨a, ys, rfl, hs, ts⟩ := t5.tup_inv
    have hy := TdL.nats ts
    subst hy
    have ecl : Ev (tOp (rIxT K) (tProp (He.ga K "Machine") (spSet K 1) [] E0 (tFld K (tVar 0) "owner")) (tVar 7)) (L2.start ["self", "block", "free", "page", "number", "word", "home", "kind", "is_spare", "one"] [V.ref s, bv] |>.set 3 (some (.int b.1)) |>.set 4 (some (.int b.2)) |>.set 5 (some (.str "small")) |>.set 6 (some (.int (h : Nat))) |>.set 7 (some (.int (0 : Nat))) |>.set 2 (some v) |>.set 2 (some (.ref a))) H4 (.int (M.size : Nat)) := (ed_ixT (j := 0) (d := eN M.size) (ed_owner (i := 1) T S4 (ev_var rfl) rfl) (ev_var (i := 7) rfl) rfl rfl).int
    have eall : EvL _ _ H4 (((List.range M.size).map fun i => (f ++ [b.2]).contains i).map V.bl) := fun H5 e5 Q' q => el_lcR1 (j := 9) (vs := [9]) (n := (M.size : Nat)) (te := tOp (rIn K false) (tVar 9) (tVar 2)) (fun _ => true) (fun i => .bl ((f ++ [b.2]).contains i)) (ea_cons ecl ea_nil) ⟨by omega, by omega⟩ (fun _ => rfl) (fun i H6 _ _ => et_yes) (fun i H6 e6 _ _ => ev_is (ev_op (ev_var rfl) (ev_var rfl) (rv_isT (ex_t e6 hs) rfl (flat_nats _))) (by rw [inV_nat])) H5 e5 Q' (by
      rw [given_all]
      show ∀ p H2, H5 p = none → Ex H5 H2 → H2 p = some (.lst ((List.range M.size).map fun i => V.bl ((f ++ [b.2]).contains i))) → Q' (.ref p) H2
      rw [List.map_map] at q
      exact q)
    refine s_if (et_B (ev_all eall)) (fun hb H5 e5 => ?_) fun hb H5 e5 => ?_
    · have S5 := S4.ex e5
      refine q_asg (v := .bl false) (ev_is (ev_op (ev_lenN (el_spare (z := h) S5 (ev_var rfl) (ev_var rfl) (by show (D.pages.set _ _).length ≤ _; rw [List.length_set]; exact hP))) (ed_owner (i := 5) (d := eN 0) T S5 (ev_var rfl) rfl).int rv_I0) rfl) fun H6 e6 => ?_
      have S6 := S5.ex e6
      refine s_setPage (x := .store) (p := b.1) T S6 (ed_if (et_B (ev_var (v := .bl false) rfl)) (fun h => nomatch h) fun _ => ed_store T) (ev_var rfl) (ev_var rfl) (by show _ < (D.pages.set _ _).length; rw [List.length_set]; exact hpl) fun H7 S7 x7 => ?_
      refine k H7 loc (S7.is_ ?_) ((((((Ext.of_ex e1).ex e2).ex e3).trans x4).ex e5).ex e6 |>.trans x7)
      rw [all_full] at hb
      unfold putHome
      rw [pg_of hp]
      show _ = D.setPg b.1 (if fullPg M (f ++ [b.2]) = true then _ else _)
      rw [if_pos hb]
      show ({ D with pages := (D.pages.set _ _).set _ _ } : DS) = { D with pages := D.pages.set _ _ }
      rw [List.set_set]
    · refine k H5 loc ((S4.ex e5).is_ ?_) (((((Ext.of_ex e1).ex e2).ex e3).trans x4).ex e5)
      rw [all_full] at hb
      unfold putHome
      rw [pg_of hp]
      show _ = D.setPg b.1 (if fullPg M (f ++ [b.2]) = true then _ else _)
      rw [if_neg (by rw [hb]; decide)]

end
end Rp
set_option Elab.async false
set_option linter.all false
set_option maxRecDepth 100000
set_option maxHeartbeats 4000000
set_option autoImplicit false
namespace Rp
open PySem PySem.Spec PyProof.Rows L2 Mx Evl Hf
section
variable {P : Program} {w : World} {K : Frg} {mg : Str → Option Value} {base : Heap}
theorem ok_Stepper_bring (T : Txt K mg w) (F : FnD K d_Stepper_bring) (G_Stepper_home_of : Ok P w K mg base 1 (He.ma K (He.ga K "Stepper") "home_of") ["self", "block"] (spHomeOf K)) (G_Stepper_is_small : Ok P w K mg base 1 (He.ma K (He.ga K "Stepper") "is_small") ["self", "page"] (spIsSmall K)) (G_Stepper_put_home : Ok P w K mg base 3 (He.ma K (He.ga K "Stepper") "put_home") ["self", "block"] (spPutHome K)) : Ok P w K mg base 4 (He.ma K (He.ga K "Stepper") "bring") ["self", "block", "socket"] (spBring K) := by
  have sc : FnScope ["self", "block", "socket"] ["self", "block", "socket"] (defScope s_Stepper_bring) := ⟨rfl, rfl, rfl, by decide +kernel, rfl, by decide +kernel, by decide +kernel⟩
  let nm : List Str := ["self", "block", "socket"]
  refine ok_of F rfl rfl sc (fun _ _ _ _ _ _ us hl => match us, hl with | [_, _, _], _ => rfl) (fun vs H Q E h => ?_) (fun cdv A outer s H vs Q E hr h => ?_)
  · obtain ⟨s, M, loc, D, bv, b, z, h, f, rfl, _⟩ := h
    rfl
  · obtain ⟨s, M, loc, D, bv, b, z, h, f, rfl, S, hP, tb, hp, hf, hM, hfl, k⟩ := h
    refine ⟨_, (pss_cons (ps_if (pt_not (pt_val (pe_methO (pv 0) T.cls_Stepper T.meth_Stepper_is_small G_Stepper_is_small (hr.mono (by decide)) (pa_cons (pe_ix ix_tup (pv 1) pe_int (fun _ _ => rfl)) pa_nil)))) (pss_one ps_never) pss_nil) (pss_cons (ps_if (pt_cmpR op_eq (pe_methO (pv 0) T.cls_Stepper T.meth_Stepper_home_of G_Stepper_home_of (hr.mono (by decide)) (pa_cons (pv 1) pa_nil)) (pv 2) (nomark _)) (pss_cons (ps_expr (pe_methO (pv 0) T.cls_Stepper T.meth_Stepper_put_home G_Stepper_put_home (hr.mono (by decide)) (pa_cons (pv 1) pa_nil))) (pss_one (ps_ret (pe_tup (pa_cons pe_str (pa_cons (pv 1) pa_nil)))))) pss_nil) (pss_cons (ps_expr (pe_bm PySem.F.plainAttrs_list PySem.F.slot_list_append PySem.F.type_list_append mt_append (pe_fld (pe_fld (pv 0) rfl) rfl) (pa_cons (pe_tup (pa_cons (pe_methO (pv 0) T.cls_Stepper T.meth_Stepper_home_of G_Stepper_home_of (hr.mono (by decide)) (pa_cons (pv 1) pa_nil)) (pa_cons (pe_tup (pa_cons (pv 1) pa_nil)) pa_nil))) pa_nil))) (pss_one (ps_ret (pe_tup (pa_cons pe_str (pa_cons (pv 1) pa_nil)))))))), ?_⟩
    have eh : homeOf D b = h := by
      unfold homeOf
      rw [pg_of hp]
    refine q_when (et_not (et_B (ev_small S (ev_var rfl) (ed_ixT (j := 0) (d := eN b.1) (ed_var (i := 1) rfl tb) ev_c rfl rfl).int hp))) (fun hb => nomatch hb) fun _ H1 e1 => ?_
    have S1 := S.ex e1
    have tb1 := tb.ex e1
    refine q_when (et_test (ev_eqN (ev_homeOf S1 (ev_var rfl) (ed_var (i := 1) rfl tb1) hp) (ev_var rfl))) (fun hb H2 e2 => ?_) fun hb H2 e2 => ?_
    · have hz := of_decide_eq_true hb
      have S2 := S1.ex e2
      have eb : bring M D b z = (putHome M D b, .home b) := by
        unfold bring
        rw [eh, if_pos hz]
      obtain ⟨m, dx, hs⟩ := S2.atS
      refine e_drop (e_meth (K := K) (ev_var rfl) hs no_Stepper_put_home (el_cons (ed_var (i := 1) rfl (tb1.ex e2)) el_nil) fun vs H3 e3 tv => ?_)
      obtain ⟨v, ws, rfl, t1, t2⟩ := tv.cons_inv
      obtain rfl := TdL.nil_iff.mp t2
      refine ⟨s, M, loc, D, v, b, h, f, rfl, S2.ex e3, hP, t1, hp, hf, hM, fun H4 l4 S4 x4 => ?_⟩
      have tb4 := ((tb1.ex e2).ex e3).keep x4.tk
      refine s_retD (ed_tup (el_cons (ed_str ev_c) (el_cons (ed_var (i := 1) rfl tb4) el_nil)) ble) fun v H5 e5 t5 => ?_
      refine k v H5 l4 ((S4.ex e5).is_ (by rw [eb])) ((((Ext.of_ex e1).ex e2).ex e3).trans x4 |>.ex e5) (by rw [eb]; exact t5)
    · have hz := of_decide_eq_false hb
      have S2 := S1.ex e2
      have tb2 := tb1.ex e2
      have eb : bring M D b z = (D.addFl h [b], .pass b) := by
        unfold bring
        rw [eh, if_neg hz]
      refine q_flight (hm := h) (l := [b]) T S2 (ed_tup (el_cons (ed_int (ev_homeOf S2 (ev_var rfl) (ed_var (i := 1) rfl tb2) hp)) (el_cons (ed_tup (el_cons (ed_var (i := 1) rfl tb2) el_nil) ble) el_nil)) ble) (ev_var rfl) (by omega) fun H3 S3 x3 => ?_
      refine s_retD (ed_tup (el_cons (ed_str ev_c) (el_cons (ed_var (i := 1) rfl (tb2.keep x3.tk)) el_nil)) ble) fun v H5 e5 t5 => ?_
      refine k v H5 loc ((S3.ex e5).is_ (by rw [eb])) ((((Ext.of_ex e1).ex e2).trans x3).ex e5) (by rw [eb]; exact t5)

end
end Rp
set_option Elab.async false
set_option linter.all false
set_option maxRecDepth 100000
set_option maxHeartbeats 4000000
set_option autoImplicit false
namespace Rp
open PySem PySem.Spec PyProof.Rows L2 Mx Evl Hf
section
variable {P : Program} {w : World} {K : Frg} {mg : Str → Option Value} {base : Heap}
theorem ok_Machine_fault (T : Txt K mg w) (F : FnD K d_Machine_fault)  : Ok P w K mg base 1 (pg K "Machine" "fault") ["self"] (spSet K 8) := by
  have sc : FnScope ["self"] ["self"] (defScope s_Machine_fault) := ⟨rfl, rfl, rfl, by decide +kernel, rfl, by decide +kernel, by decide +kernel⟩
  let nm : List Str := ["self"]
  refine ok_of F rfl rfl sc (fun _ _ _ _ _ _ us hl => match us, hl with | [_], _ => rfl) (fun vs H Q E h => ?_) (fun cdv A outer s H vs Q E hr h => ?_)
  · obtain ⟨m, dx, p, xs, v, rfl, _⟩ := h
    rfl
  · obtain ⟨m, dx, p, xs, v, rfl, hm, hs, hv, q⟩ := h
    refine ⟨_, (pss_one (ps_ret (pe_ix ix_tup (pe_fld (pv 0) rfl) pe_int (fun _ _ => rfl)))), ?_⟩
    exact ⟨_, rfl, m, _, dx, _, _, rfl, hm, T.cls_Machine, T.noat_Machine_settings, lk_Machine_settings, p, xs, (8 : Nat), v, rfl, rfl, hs, atI_nat hv, q⟩

end
end Rp
set_option Elab.async false
set_option linter.all false
set_option maxRecDepth 100000
set_option maxHeartbeats 4000000
set_option autoImplicit false
namespace Rp
open PySem PySem.Spec PyProof.Rows L2 Mx Evl Hf
section
variable {P : Program} {w : World} {K : Frg} {mg : Str → Option Value} {base : Heap}
theorem ok_Stepper_fill_from (T : Txt K mg w) (F : FnD K d_Stepper_fill_from) (G_Machine_batch : Ok P w K mg base 1 (pg K "Machine" "batch") ["self"] (spSet K 4)) : Ok P w K mg base 3 (He.ma K (He.ga K "Stepper") "fill_from") ["self", "worker", "page"] (spFillFrom K) := by
  have sc : FnScope ["self", "worker", "page", "batch", "word", "home", "kind", "free", "number"] ["self", "worker", "page"] (defScope s_Stepper_fill_from) := ⟨rfl, rfl, rfl, by decide +kernel, rfl, by decide +kernel, by decide +kernel⟩
  let nm : List Str := ["self", "worker", "page", "batch", "word", "home", "kind", "free", "number"]
  refine ok_of F rfl rfl sc (fun _ _ _ _ _ _ us hl => match us, hl with | [_, _, _], _ => rfl) (fun vs H Q E h => ?_) (fun cdv A outer s H vs Q E hr h => ?_)
  · obtain ⟨s, M, loc, D, t, wk, p, h, f, rfl, _⟩ := h
    rfl
  · obtain ⟨s, M, loc, D, t, wk, p, h, f, rfl, S, hM, hw, hp, hf, k⟩ := h
    refine ⟨_, (pss_cons (ps_asg (pe_ix ix_list (pe_fld (pe_fld (pv 0) rfl) rfl) (pv 2) (fun _ _ => rfl)) (pg_tup rfl (pgs_cons (pg_name (i := 4) sc.nd rfl (by first | exact Or.inl rfl | exact Or.inr rfl)) (pgs_cons (pg_name (i := 5) sc.nd rfl (by first | exact Or.inl rfl | exact Or.inr rfl)) (pgs_cons (pg_name (i := 6) sc.nd rfl (by first | exact Or.inl rfl | exact Or.inr rfl)) (pgs_cons (pg_name (i := 7) sc.nd rfl (by first | exact Or.inl rfl | exact Or.inr rfl)) pgs_nil)))))) (pss_cons (ps_set (i := 3) sc.nd rfl (by first | exact Or.inl rfl | exact Or.inr rfl) (pe_propO (pe_fld (pv 0) rfl) T.cls_Machine T.prop_Machine_batch G_Machine_batch (hr.mono (by decide)) rfl)) (pss_cons (ps_asg (pe_lc (own := [("number", 8)]) (g := (gName 8)) (by rfl) sc.nd (pi_tup (pe_slice sl_tupA (pv 7) po_none (po_some (pv 3)))) (blkOk_by (own := [("number", 8)]) (N := nm) (sc := defScope s_Stepper_fill_from) (by decide +kernel)) (fun _ _ _ _ _ => (pg_name (i := 8) sc.nd rfl (by first | exact Or.inl rfl | exact Or.inr rfl))) (fun _ _ _ _ _ => pts_nil) (fun _ _ _ _ _ => (pe_tup (pa_cons (pv 2) (pa_cons (pv 8) pa_nil))))) (pg_sub (pe_fld (pv 1) rfl) (pv 6) set_list)) (pss_cons (ps_asg (pe_tup (pa_cons (pv 4) (pa_cons (pv 5) (pa_cons (pv 6) (pa_cons (pe_slice sl_tupA (pv 7) (po_some (pv 3)) po_none) pa_nil))))) (pg_sub (pe_fld (pe_fld (pv 0) rfl) rfl) (pv 2) set_list)) (pss_one (ps_fld (pv 1) pe_str rfl)))))), ?_⟩
    have hpl := (List.getElem?_eq_some_iff.mp hp).1
    refine q_page4 rfl (ed_page T S (ev_var rfl) (ev_var rfl) hp) fun v H1 e1 t1 => ?_
    have S1 := S.ex e1
    refine q_asg (ed_owner (i := 4) (d := eN M.batch) T S1 (ev_var rfl) rfl).int fun H2 e2 => ?_
    have S2 := S1.ex e2
    have em : (f.map eN).take M.batch = (f.take M.batch).map eN := by rw [List.map_take]
    refine q_cache (l := (f.take M.batch).map fun n => (p, n)) T S2 hw (eld_lcTD (es := (f.map eN).take M.batch) (ds := ((f.take M.batch).map fun n => (p, n)).map eB) (ed_take (ed_var (i := 7) rfl (t1.ex e2)) (ev_var rfl)) (fun _ => rfl) (by rw [List.length_take, List.length_map]; omega) (by rw [em, List.length_map, List.length_map, List.length_map]) fun i x d e' H3 e3 he tx hd => ?_) (fun _ => ev_var rfl) (fun _ => ev_var rfl) fun H3 l3 S3 x3 => ?_
    · rw [em, List.getElem?_map] at he
      obtain ⟨n, hn, rfl⟩ := Option.map_eq_some_iff.mp he
      rw [List.getElem?_map, List.getElem?_map, hn] at hd
      cases hd
      exact ed_tup (el_cons (ed_int (ev_var rfl)) (el_cons (ed_var rfl tx) el_nil)) ble
    have ed : (f.map eN).drop M.batch = (f.drop M.batch).map eN := by rw [List.map_drop]
    have t3 := (t1.ex e2).keep x3.tk
    have edr := ed_drop (K := K) (n := M.batch) (ed_var (σ := (((((L2.start ["self", "worker", "page", "batch", "word", "home", "kind", "free", "number"] [V.ref s, V.ref (loc (.wk t)), V.int (p : Nat)]).set 4 (some (.str "small"))).set 5 (some (.int (h : Nat)))).set 6 (some (.int (0 : Nat)))).set 7 (some v)).set 3 (some (V.int (M.batch : Nat)))) (i := 7) rfl t3) (ev_var (i := 3) rfl)
    rw [ed] at edr
    refine q_setPage (x := .small h (f.drop M.batch)) (p := p) T S3 (ed_tup (el_cons (ed_str (ev_var rfl)) (el_cons (ed_int (ev_var rfl)) (el_cons (ed_int (ev_var rfl)) (el_cons edr el_nil)))) ble) (ev_var rfl) (ev_var rfl) hpl fun H4 S4 x4 => ?_
    have fx : l3 (.wk t) = loc (.wk t) := x3.fx _ rfl
    refine s_phase (p := .begin) T S4 (wk := { wk with cache := (f.take M.batch).map fun n => (p, n) }) (setWk_at hw) (ev_var (by rw [fx]; rfl)) ev_c fun H5 S5 x5 => ?_
    refine k _ H5 l3 (S5.is_ ?_) (((((Ext.of_ex e1).ex e2).trans x3).trans x4).trans x5)
    unfold fillFrom
    rw [pg_of hp, wk_of hw]
    show ({ D with wks := (D.wks.set t _).set t _, pages := _ } : DS) = { D with wks := D.wks.set t _, pages := _ }
    rw [List.set_set]
    rfl

end
end Rp
set_option Elab.async false
set_option linter.all false
set_option maxRecDepth 100000
set_option maxHeartbeats 4000000
set_option autoImplicit false
namespace Rp
open PySem PySem.Spec PyProof.Rows L2 Mx Evl Hf
section
variable {P : Program} {w : World} {K : Frg} {mg : Str → Option Value} {base : Heap}
theorem ok_Stepper_open_page (T : Txt K mg w) (F : FnD K d_Stepper_open_page) (G_Machine_classes : Ok P w K mg base 1 (pg K "Machine" "classes") ["self"] (spSet K 1)) (G_Stepper_advance : Ok P w K mg base 4 (He.ma K (He.ga K "Stepper") "advance") ["self", "thread"] (spAdvance K)) (G_Stepper_fill_from : Ok P w K mg base 3 (He.ma K (He.ga K "Stepper") "fill_from") ["self", "worker", "page"] (spFillFrom K)) (G_Stepper_page_to_open : Ok P w K mg base 2 (He.ma K (He.ga K "Stepper") "page_to_open") ["self", "socket"] (spToOpen K)) : Ok P w K mg base 5 (He.ma K (He.ga K "Stepper") "open_page") ["self", "thread", "socket", "kind", "slot"] (spOpenPage K) := by
  have sc : FnScope ["self", "thread", "socket", "kind", "slot", "page"] ["self", "thread", "socket", "kind", "slot"] (defScope s_Stepper_open_page) := ⟨rfl, rfl, rfl, by decide +kernel, rfl, by decide +kernel, by decide +kernel⟩
  let nm : List Str := ["self", "thread", "socket", "kind", "slot", "page"]
  refine ok_of F rfl rfl sc (fun _ _ _ _ _ _ us hl => match us, hl with | [_, _, _, _, _], _ => rfl) (fun vs H Q E h => ?_) (fun cdv A outer s H vs Q E hr h => ?_)
  · obtain ⟨s, M, loc, D, t, z, x, rfl, _⟩ := h
    rfl
  · obtain ⟨s, M, loc, D, t, z, x, rfl, S, ⟨wk, A1, hx⟩, k⟩ := h
    dsimp only at k
    refine ⟨_, (pss_cons (ps_set (i := 5) sc.nd rfl (by first | exact Or.inl rfl | exact Or.inr rfl) (pe_methO (pv 0) T.cls_Stepper T.meth_Stepper_page_to_open G_Stepper_page_to_open (hr.mono (by decide)) (pa_cons (pv 2) pa_nil))) (pss_cons (ps_if (pt_cmpR op_isN (pv 5) pe_non (nomark _)) (pss_cons (ps_asg (pe_glob (v := .ref _) (by rfl) T.glo_FAILURE rfl) (pg_sub (pe_fld (pe_fld (pv 0) rfl) rfl) (pv 4) set_list)) (pss_cons (ps_expr (pe_methO (pv 0) T.cls_Stepper T.meth_Stepper_advance G_Stepper_advance (hr.mono (by decide)) (pa_cons (pv 1) pa_nil))) (pss_one (ps_ret (pe_tup (pa_cons pe_str pa_nil)))))) pss_nil) (pss_cons (ps_asg (pe_tup (pa_cons pe_str (pa_cons (pv 2) (pa_cons (pv 3) (pa_cons (pe_tupRg rfl (by rfl) T.free_tuple (prg_1 (by rfl) T.free_range (pe_ix ix_tup (pe_propO (pe_fld (pv 0) rfl) T.cls_Machine T.prop_Machine_classes G_Machine_classes (hr.mono (by decide)) rfl) (pv 3) (fun _ _ => rfl)))) pa_nil))))) (pg_sub (pe_fld (pe_fld (pv 0) rfl) rfl) (pv 5) set_list)) (pss_cons (ps_expr (pe_methO (pv 0) T.cls_Stepper T.meth_Stepper_fill_from G_Stepper_fill_from (hr.mono (by decide)) (pa_cons (pe_ix ix_list (pe_fld (pe_fld (pv 0) rfl) rfl) (pv 1) (fun _ _ => rfl)) (pa_cons (pv 5) pa_nil)))) (pss_one (ps_ret (pe_tup (pa_cons pe_str (pa_cons (pv 5) pa_nil))))))))), ?_⟩
    have hw := A1.wk
    have F1 := A1.fit
    have wb := F1.wk t wk hw
    have hpl : D.pages.length ≤ 1000 := by rw [F1.pg]; decide
    refine q_asg (ev_toOpen (z := z) S (ev_var rfl) (ev_var rfl) hpl) fun H1 e1 => ?_
    have S1 := S.ex e1
    cases ho : pageToOpen D with
    | none =>
      have ea : openPage M D t z x = (advance M (D.setSl x .fail) t, .fail) := by
        unfold openPage
        rw [ho]
      refine q_when (et_test (ev_isNon (x := .non) (ev_var rfl))) (fun _ H2 e2 => ?_) (fun hb => nomatch hb)
      have S2 := S1.ex e2
      refine q_setSlot (x := .fail) (p := x) T S2 (ed_failure T) (ev_var rfl) (ev_var rfl) (by rw [F1.sl]; exact hx) fun H3 S3 x3 => ?_
      refine e_drop (e_thr S3 (ev_var rfl) (fun _ _ => no_Stepper_advance) (ev_var rfl) (F1.pT (w' := wk) hw A1.thl wb.2.2.1) fun H4 l4 S4 x4 => ?_)
      refine s_retD (K := K) (d := eEv .fail) (ed_tup (el_cons (ed_str ev_c) el_nil) ble) fun v2 H5 e5 t5 => ?_
      exact k v2 H5 l4 ((S4.ex e5).is_ (by rw [ea])) (((((Ext.of_ex e1).ex e2).trans x3).trans x4).ex e5) (by rw [ea]; exact t5)
    | some p =>
      have ea : openPage M D t z x = (fillFrom M (D.setPg p (.small z (List.range M.size))) t p, .opn p) := by
        unfold openPage
        rw [ho]
      refine q_when (et_test (ev_isNon (x := .int (p : Nat)) (ev_var rfl))) (fun hb => nomatch hb) fun _ H2 e2 => ?_
      have S2 := S1.ex e2
      have hpp := store_lt ho
      refine q_setPage (x := .small z (List.range M.size)) (p := p) T S2 (ed_tup (el_cons (ed_str ev_c) (el_cons (ed_int (ev_var rfl)) (el_cons (ed_int (ev_var rfl)) (el_cons (ed_tupRange (n := M.size) (ed_ixT (j := 0) (d := eN M.size) (ed_owner (i := 1) T S2 (ev_var rfl) rfl) (ev_var (v := .int 0) rfl) rfl rfl).int (by have := F1.size; omega)) el_nil)))) ble) (ev_var rfl) (ev_var rfl) hpp fun H3 S3 x3 => ?_
      have hpg : (D.setPg p (.small z (List.range M.size))).pages[p]? = some (.small z (List.range M.size)) := by
        show (D.pages.set p _)[p]? = _
        rw [List.getElem?_set_self hpp]
      refine e_drop (e_fillFrom (p := p) (h := z) (f := List.range M.size) (wk := wk) S3 (ev_var rfl) (ev_worker T S3 (ev_var rfl) (ev_var rfl) hw) (ev_var rfl) F1.bat hw hpg (by rw [List.length_range]; exact F1.size) fun v H4 l4 S4 x4 => ?_)
      refine s_retD (K := K) (d := eEv (.opn p)) (ed_tup (el_cons (ed_str ev_c) (el_cons (ed_int (ev_var rfl)) el_nil)) ble) fun v2 H5 e5 t5 => ?_
      exact k v2 H5 l4 ((S4.ex e5).is_ (by rw [ea])) (((((Ext.of_ex e1).ex e2).trans x3).trans x4).ex e5) (by rw [ea]; exact t5)

end
end Rp
set_option Elab.async false
set_option linter.all false
set_option maxRecDepth 100000
set_option maxHeartbeats 4000000
set_option autoImplicit false
namespace Rp
open PySem PySem.Spec PyProof.Rows L2 Mx Evl Hf
section
variable {P : Program} {w : World} {K : Frg} {mg : Str → Option Value} {base : Heap}
theorem ok_Stepper_fill (T : Txt K mg w) (F : FnD K d_Stepper_fill) (G_Machine_fault : Ok P w K mg base 1 (pg K "Machine" "fault") ["self"] (spSet K 8)) (G_Stepper_fill_from : Ok P w K mg base 3 (He.ma K (He.ga K "Stepper") "fill_from") ["self", "worker", "page"] (spFillFrom K)) (G_Stepper_lists_with_blocks : Ok P w K mg base 1 (He.ma K (He.ga K "Stepper") "lists_with_blocks") ["self", "kind", "socket"] (spLists K)) (G_Stepper_open_page : Ok P w K mg base 5 (He.ma K (He.ga K "Stepper") "open_page") ["self", "thread", "socket", "kind", "slot"] (spOpenPage K)) : Ok P w K mg base 6 (He.ma K (He.ga K "Stepper") "fill") ["self", "thread", "socket", "kind", "slot"] (spFill K) := by
  have sc : FnScope ["self", "thread", "socket", "kind", "slot", "worker", "pages", "free", "number"] ["self", "thread", "socket", "kind", "slot"] (defScope s_Stepper_fill) := ⟨rfl, rfl, rfl, by decide +kernel, rfl, by decide +kernel, by decide +kernel⟩
  let nm : List Str := ["self", "thread", "socket", "kind", "slot", "worker", "pages", "free", "number"]
  refine ok_of F rfl rfl sc (fun _ _ _ _ _ _ us hl => match us, hl with | [_, _, _, _, _], _ => rfl) (fun vs H Q E h => ?_) (fun cdv A outer s H vs Q E hr h => ?_)
  · obtain ⟨s, M, loc, D, t, z, x, rfl, _⟩ := h
    rfl
  · obtain ⟨s, M, loc, D, t, z, x, rfl, S, ⟨wk, A1, hx⟩, k⟩ := h
    dsimp only at k
    refine ⟨_, (pss_cons (ps_set (i := 5) sc.nd rfl (by first | exact Or.inl rfl | exact Or.inr rfl) (pe_ix ix_list (pe_fld (pe_fld (pv 0) rfl) rfl) (pv 1) (fun _ _ => rfl))) (pss_cons (ps_set (i := 6) sc.nd rfl (by first | exact Or.inl rfl | exact Or.inr rfl) (pe_methO (pv 0) T.cls_Stepper T.meth_Stepper_lists_with_blocks G_Stepper_lists_with_blocks (hr.mono (by decide)) (pa_cons (pv 3) (pa_cons (pv 2) pa_nil)))) (pss_cons (ps_if (PW.pt (pw_and (pt_cmpR (op_neD hr.units) (pv 6) (pe_lst pa_nil) (nomark _)) (pw_and1 (pt_cmpR op_eq (pe_propO (pe_fld (pv 0) rfl) T.cls_Machine T.prop_Machine_fault G_Machine_fault (hr.mono (by decide)) rfl) pe_str (nomark _))))) (pss_cons ps_never (pss_cons ps_never (pss_cons ps_never (pss_one ps_never)))) pss_nil) (pss_cons (ps_if (pt_cmpR (op_eqD hr.units) (pv 6) (pe_lst pa_nil) (nomark _)) (pss_one (ps_ret (pe_methO (pv 0) T.cls_Stepper T.meth_Stepper_open_page G_Stepper_open_page (hr.mono (by decide)) (pa_cons (pv 1) (pa_cons (pv 2) (pa_cons (pv 3) (pa_cons (pv 4) pa_nil))))))) pss_nil) (pss_cons (ps_expr (pe_methO (pv 0) T.cls_Stepper T.meth_Stepper_fill_from G_Stepper_fill_from (hr.mono (by decide)) (pa_cons (pv 5) (pa_cons (pe_ix ix_list (pv 6) pe_int (fun _ _ => rfl)) pa_nil)))) (pss_one (ps_ret (pe_tup (pa_cons pe_str (pa_cons (pe_ix ix_list (pv 6) pe_int (fun _ _ => rfl)) pa_nil)))))))))), ?_⟩
    have hw := A1.wk
    have F1 := A1.fit
    have hpl : D.pages.length ≤ 1000 := by rw [F1.pg]; decide
    refine q_asg (ev_worker T S (ev_var rfl) (ev_var rfl) hw) fun H1 e1 => ?_
    have S1 := S.ex e1
    refine q_asgL (el_lists (z := z) S1 (ev_var rfl) (ev_var rfl) (ev_var rfl) hpl) fun p H2 hp e2 h2 => ?_
    have S2 := S1.ex e2
    refine q_when (et_and (et_test (ev_nNot (l := listsWith D z) (ev_var rfl) h2)) fun _ => et_test (ev_fault "fill" T S2 (ev_var rfl))) (fun hb => by rw [Bool.and_false] at hb; cases hb) fun _ H3 e3 => ?_
    have S3 := S2.ex e3
    have h3 := e3 _ _ h2
    refine q_when (et_test (ev_nNil (l := listsWith D z) (ev_var rfl) h3)) (fun hb H4 e4 => ?_) fun hb H4 e4 => ?_
    · have hl : listsWith D z = [] := List.isEmpty_iff.mp hb
      have ea : Mx.fill M D t z x = openPage M D t z x := by
        unfold Mx.fill
        rw [hl]
      refine e_ev t z x (S3.ex e4) (ev_var rfl) (fun _ _ => no_Stepper_open_page) (el_cons (ed_int (ev_var rfl)) (el_cons (ed_int (ev_var rfl)) (el_cons (ed_int (ev_var rfl)) (el_cons (ed_int (ev_var rfl)) el_nil)))) ⟨wk, A1, hx⟩ fun v H5 l5 S5 x5 t5 => ?_
      exact k v H5 l5 (S5.is_ (by rw [ea])) (((((Ext.of_ex e1).ex e2).ex e3).ex e4).trans x5) (by rw [ea]; exact t5)
    · obtain ⟨q, r, hl⟩ : ∃ q r, listsWith D z = q :: r := by
        cases hh : listsWith D z with
        | nil => rw [hh] at hb; cases hb
        | cons q r => exact ⟨q, r, rfl⟩
      obtain ⟨h, f, hpg⟩ := lists_small (D := D) (z := z) (p := q) (by rw [hl]; exact List.mem_cons_self)
      rw [hl] at h3
      have h4 := e4 _ _ h3
      have S4 := S3.ex e4
      have ea : Mx.fill M D t z x = (fillFrom M D t q, .fill q) := by
        unfold Mx.fill
        rw [hl]
      refine e_drop (e_fillFrom (p := q) (h := h) (f := f) S4 (ev_var rfl) (ev_var rfl) (ev_ixL (j := 0) (ev_var rfl) (SqL.of h4) ev_c rfl) F1.bat hw hpg (F1.fr q h f hpg).1 fun v H5 l5 S5 x5 => ?_)
      have hpn : ∀ r, loc r ≠ p := fun r z => by
        have hd := S1.rep.dead
        cases hwn : want K D loc r with
        | some y => exact S1.rep.fresh hp r (by rw [hwn]; rfl) z
        | none =>
          obtain ⟨r2, _, l2, e2'⟩ := hd r hwn
          exact S1.rep.fresh hp r2 l2 (e2'.symm.trans z)
      have h5 := x5.fr _ _ h4 hpn
      refine s_retD (K := K) (d := eEv (.fill q)) (ed_tup (el_cons (ed_str ev_c) (el_cons (ed_int (ev_ixL (j := 0) (ev_var rfl) (SqL.of h5) ev_c rfl)) el_nil)) ble) fun v2 H6 e6 t6 => ?_
      exact k v2 H6 l5 ((S5.ex e6).is_ (by rw [ea])) ((((((Ext.of_ex e1).ex e2).ex e3).ex e4).trans x5).ex e6) (by rw [ea]; exact t6)

end
end Rp
set_option Elab.async false
set_option linter.all false
set_option maxRecDepth 100000
set_option maxHeartbeats 4000000
set_option autoImplicit false
namespace Rp
open PySem PySem.Spec PyProof.Rows L2 Mx Evl Hf
section
variable {P : Program} {w : World} {K : Frg} {mg : Str → Option Value} {base : Heap}
theorem ok_Stepper_take (T : Txt K mg w) (F : FnD K d_Stepper_take) (G_Machine_fault : Ok P w K mg base 1 (pg K "Machine" "fault") ["self"] (spSet K 8)) : Ok P w K mg base 3 (He.ma K (He.ga K "Stepper") "take") ["self", "thread", "socket"] (spTake K) := by
  have sc : FnScope ["self", "thread", "socket", "worker"] ["self", "thread", "socket"] (defScope s_Stepper_take) := ⟨rfl, rfl, rfl, by decide +kernel, rfl, by decide +kernel, by decide +kernel⟩
  let nm : List Str := ["self", "thread", "socket", "worker"]
  refine ok_of F rfl rfl sc (fun _ _ _ _ _ _ us hl => match us, hl with | [_, _, _], _ => rfl) (fun vs H Q E h => ?_) (fun cdv A outer s H vs Q E hr h => ?_)
  · obtain ⟨s, M, loc, D, t, z, x, rfl, _⟩ := h
    rfl
  · obtain ⟨s, M, loc, D, t, z, x, rfl, S, ⟨wk, A1⟩, k⟩ := h
    refine ⟨_, (pss_cons (ps_set (i := 3) sc.nd rfl (by first | exact Or.inl rfl | exact Or.inr rfl) (pe_ix ix_list (pe_fld (pe_fld (pv 0) rfl) rfl) (pv 1) (fun _ _ => rfl))) (pss_cons (ps_fld (pv 3) (pe_callTy Ru.cr_list (by rfl) T.free_list (by decide +kernel) (pa_cons (pe_ix ix_list (pe_fld (pe_fld (pv 0) rfl) rfl) (pv 2) (fun _ _ => rfl)) pa_nil)) rfl) (pss_cons (ps_if (pt_cmpR op_eq (pe_propO (pe_fld (pv 0) rfl) T.cls_Machine T.prop_Machine_fault G_Machine_fault (hr.mono (by decide)) rfl) pe_str (nomark _)) (pss_cons ps_never (pss_one ps_never)) pss_nil) (pss_cons (ps_asg (pe_lst pa_nil) (pg_sub (pe_fld (pe_fld (pv 0) rfl) rfl) (pv 2) set_list)) (pss_cons (ps_fld (pv 3) pe_str rfl) (pss_one (ps_ret (pe_tup (pa_cons pe_str (pa_cons (pe_callB Ru.cr_len (by rfl) T.free_len PySem.boot_len (pa_cons (pe_fld (pv 3) rfl) pa_nil)) pa_nil)))))))))), ?_⟩
    have hw := A1.wk
    have hz : z < D.arrs.length := by rw [A1.fit.al]; exact A1.zn
    have hzl := List.getElem?_eq_getElem hz
    refine q_asg (ev_worker T S (ev_var rfl) (ev_var rfl) hw) fun H1 e1 => ?_
    have S1 := S.ex e1
    obtain ⟨xs, h1, h2⟩ := S1.rep.atArr hzl
    refine q_hand (l := D.arrs[z]) T S1 hw (el_list (ev_arr T S1 (ev_var rfl) (ev_var rfl) hz) (SqL.of h1)) h2 (fun _ => ev_var rfl) fun H2 l2 S2 x2 => ?_
    refine q_when (et_test (ev_fault "take" T S2 (ev_var rfl))) (fun hb => nomatch hb) fun _ H3 e3 => ?_
    have S3 := S2.ex e3
    refine q_arr0 (z := z) T S3 (ev_var rfl) (ev_var rfl) hzl fun H4 l4 S4 x4 _ _ => ?_
    have fx : l4 (.wk t) = loc (.wk t) := (x4.fx _ rfl).trans (x2.fx _ rfl)
    have hw4 : ((D.setWk t { wk with hand := D.arrs[z] }).setArr z []).wks[t]? = some { wk with hand := D.arrs[z] } := setWk_at hw
    refine q_phase (p := .hand) T S4 hw4 (ev_var (by rw [fx]; rfl)) ev_c fun H5 S5 x5 => ?_
    obtain ⟨ys, y1, y2⟩ := S5.rep.atHand (setWk_at hw4)
    have hl : (ys.length : Int) = ((D.arr z).length : Nat) := by
      rw [arr_of hzl]
      have := y2.length
      rw [List.length_map] at this
      rw [this]
    refine s_retD (K := K) (d := eEv (.take (D.arr z).length)) (ed_tup (el_cons (ed_str ev_c) (el_cons (ed_int (ev_is (ev_len (ev_hand T S5.rep (setWk_at hw4) (ev_var (by rw [fx]; rfl))) (SqL.of y1)) (congrArg V.int hl))) el_nil)) ble) fun v H6 e6 t6 => ?_
    refine k v H6 l4 ((S5.ex e6).is_ ?_) ((((((Ext.of_ex e1).trans x2).ex e3).trans x4).trans x5).ex e6) t6
    show _ = take D t z
    unfold take
    rw [wk_of hw, arr_of hzl]
    show ({ D with wks := (D.wks.set t _).set t _, arrs := _ } : DS) = { D with wks := D.wks.set t _, arrs := _ }
    rw [List.set_set]
    rfl

end
end Rp
set_option Elab.async false
set_option linter.all false
set_option maxRecDepth 100000
set_option maxHeartbeats 4000000
set_option autoImplicit false
namespace Rp
open PySem PySem.Spec PyProof.Rows L2 Mx Evl Hf
section
variable {P : Program} {w : World} {K : Frg} {mg : Str → Option Value} {base : Heap}
theorem ph_none (q : Ph) : ∀ y : Str, V.str (phS q) = V.str y → phS q = y := fun y h => V.str.inj h
theorem ok_Stepper_allocate (T : Txt K mg w) (F : FnD K d_Stepper_allocate) (G_Stepper_advance : Ok P w K mg base 4 (He.ma K (He.ga K "Stepper") "advance") ["self", "thread"] (spAdvance K)) (G_Stepper_bring : Ok P w K mg base 4 (He.ma K (He.ga K "Stepper") "bring") ["self", "block", "socket"] (spBring K)) (G_Stepper_fill : Ok P w K mg base 6 (He.ma K (He.ga K "Stepper") "fill") ["self", "thread", "socket", "kind", "slot"] (spFill K)) (G_Stepper_take : Ok P w K mg base 3 (He.ma K (He.ga K "Stepper") "take") ["self", "thread", "socket"] (spTake K)) : Ok P w K mg base 7 (He.ma K (He.ga K "Stepper") "allocate") ["self", "thread", "socket", "kind", "slot"] (spAllocate K) := by
  have sc : FnScope ["self", "thread", "socket", "kind", "slot", "worker", "block"] ["self", "thread", "socket", "kind", "slot"] (defScope s_Stepper_allocate) := ⟨rfl, rfl, rfl, by decide +kernel, rfl, by decide +kernel, by decide +kernel⟩
  let nm : List Str := ["self", "thread", "socket", "kind", "slot", "worker", "block"]
  refine ok_of F rfl rfl sc (fun _ _ _ _ _ _ us hl => match us, hl with | [_, _, _, _, _], _ => rfl) (fun vs H Q E h => ?_) (fun cdv A outer s H vs Q E hr h => ?_)
  · obtain ⟨s, M, loc, D, t, z, x, rfl, _⟩ := h
    rfl
  · obtain ⟨s, M, loc, D, t, z, x, rfl, S, ⟨wk, A1, hx⟩, k⟩ := h
    dsimp only at k
    refine ⟨_, (pss_cons (ps_set (i := 5) sc.nd rfl (by first | exact Or.inl rfl | exact Or.inr rfl) (pe_ix ix_list (pe_fld (pe_fld (pv 0) rfl) rfl) (pv 1) (fun _ _ => rfl))) (pss_cons (Ru.ps_match (pe_fld (pv 5) rfl) (Ru.pm_val (pss_cons (ps_if (pt_cmpR (op_eqD hr.units) (pe_ix ix_list (pe_fld (pv 5) rfl) (pv 3) (fun _ _ => rfl)) (pe_lst pa_nil) (nomark _)) (pss_one (ps_ret (pe_methO (pv 0) T.cls_Stepper T.meth_Stepper_take G_Stepper_take (hr.mono (by decide)) (pa_cons (pv 1) (pa_cons (pv 2) pa_nil))))) pss_nil) (pss_cons (ps_set (i := 6) sc.nd rfl (by first | exact Or.inl rfl | exact Or.inr rfl) (pe_bm0 PySem.F.plainAttrs_list PySem.F.slot_list_pop PySem.F.type_list_pop mt_pop (pe_ix ix_list (pe_fld (pv 5) rfl) (pv 3) (fun _ _ => rfl)))) (pss_cons (ps_asg (pe_tup (pa_cons pe_str (pa_cons (pe_ix ix_tup (pv 6) pe_int (fun _ _ => rfl)) (pa_cons (pe_ix ix_tup (pv 6) pe_int (fun _ _ => rfl)) pa_nil)))) (pg_sub (pe_fld (pe_fld (pv 0) rfl) rfl) (pv 4) set_list)) (pss_cons (ps_expr (pe_methO (pv 0) T.cls_Stepper T.meth_Stepper_advance G_Stepper_advance (hr.mono (by decide)) (pa_cons (pv 1) pa_nil))) (pss_one (ps_ret (pe_tup (pa_cons pe_str (pa_cons (pv 6) pa_nil))))))))) (Ru.pm_val (pss_one ps_never) (Ru.pm_val (pss_one ps_never) Ru.pm_nil)))) (pss_cons (ps_if (pt_cmpR (op_neD hr.units) (pe_fld (pv 5) rfl) (pe_lst pa_nil) (nomark _)) (pss_one (ps_ret (pe_methO (pv 0) T.cls_Stepper T.meth_Stepper_bring G_Stepper_bring (hr.mono (by decide)) (pa_cons (pe_bm PySem.F.plainAttrs_list PySem.F.slot_list_pop PySem.F.type_list_pop mt_popAt (pe_fld (pv 5) rfl) (pa_cons pe_int pa_nil)) (pa_cons (pv 2) pa_nil))))) pss_nil) (pss_one (ps_ret (pe_methO (pv 0) T.cls_Stepper T.meth_Stepper_fill G_Stepper_fill (hr.mono (by decide)) (pa_cons (pv 1) (pa_cons (pv 2) (pa_cons (pv 3) (pa_cons (pv 4) pa_nil)))))))))), ?_⟩
    have hw := A1.wk
    have F1 := A1.fit
    have hz : z < D.arrs.length := by rw [A1.fit.al]; exact A1.zn
    have wb := F1.wk t wk hw
    refine q_asg (ev_worker T S (ev_var rfl) (ev_var rfl) hw) fun H1 e1 => ?_
    have S1 := S.ex e1
    refine (ev_phase T S1.rep hw (ev_var rfl)) H1 (Ex.refl _) _ fun H2 e2 => ?_
    have S2 := S1.ex e2
    refine ⟨_, rfl, ?_⟩
    by_cases hpb : wk.ph = .begin
    · rw [if_pos (by rw [hpb]; rfl)]
      obtain ⟨ys, y1, y2⟩ := S2.rep.atCache hw
      refine q_when (et_test (ev_lNil (ev_cache T S2.rep hw (ev_var rfl) (ev_var rfl)) y1 y2)) (fun hb H3 e3 => ?_) fun hb H3 e3 => ?_
      · have hc : wk.cache = [] := List.isEmpty_iff.mp hb
        have ea : allocate M D t z x = (take D t z, .take (D.arr z).length) := by
          unfold allocate
          rw [wk_of hw, if_pos hpb, hc] <;> rfl
        refine e_ev t z 0 (S2.ex e3) (ev_var rfl) (fun _ _ => no_Stepper_take) (el_cons (ed_int (ev_var rfl)) (el_cons (ed_int (ev_var rfl)) el_nil)) ⟨wk, A1⟩ fun v H4 l4 S4 x4 t4 => ?_
        exact k v H4 l4 (S4.is_ (by rw [ea])) ((((Ext.of_ex e1).ex e2).ex e3).trans x4) (by rw [ea]; exact t4)
      · have hc : wk.cache ≠ [] := fun q => by rw [q] at hb; cases hb
        have S3 := S2.ex e3
        obtain ⟨l, b, hlb⟩ : ∃ l b, wk.cache = l ++ [b] := ⟨wk.cache.dropLast, wk.cache.getLast hc, (List.dropLast_concat_getLast hc).symm⟩
        obtain ⟨ys, y1, y2⟩ := S3.rep.atCache hw
        have hyl : ys.length = l.length + 1 := by rw [y2.length, List.length_map, hlb, List.length_append] <;> rfl
        obtain ⟨v, hv, tv⟩ := y2.get (i := l.length) (d := eB b) (by rw [hlb, List.getElem?_map, List.getElem?_append_right (Nat.le_refl _), Nat.sub_self] <;> rfl)
        refine q_asgE (te_pop (ev_cache T S3.rep hw (ev_var rfl) (ev_var rfl)) y1 (by rw [hyl, Nat.add_sub_cancel]; exact hv) fun H4 e4 => ?_)
        have y4 := e4 _ _ y1
        have x4 : Ext H3 loc (upd H4 (loc (.cache t)) (.lst ys.dropLast)) loc := (Ext.of_ex e4).trans (Ext.put y4 trivial)
        have R4 := (S3.rep.ex e4).putCache (w' := { wk with cache := l }) (xs := ys.dropLast) hw rfl rfl rfl (by
          have := (y2.ex e4).dropLast
          rw [← List.map_dropLast, hlb, List.dropLast_concat] at this
          exact this)
        have S4 := S3.ext x4 R4
        have tv4 := tv.keep x4.tk
        have hx' : x < (D.setWk t { wk with cache := l }).slots.length := by show x < D.slots.length; rw [F1.sl]; exact hx
        dsimp only [gName]
        refine q_setSlot (x := .blk b) (p := x) T S4 (ed_tup (el_cons (ed_str ev_c) (el_cons (ed_ixT (j := 0) (d := eN b.1) (ed_var (i := 6) rfl tv4) ev_c rfl rfl) (el_cons (ed_ixT (j := 1) (d := eN b.2) (ed_var (i := 6) rfl tv4) ev_c rfl rfl) el_nil))) ble) (ev_var rfl) (ev_var rfl) hx' fun H5 S5 x5 => ?_
        refine e_drop (e_thr S5 (ev_var rfl) (fun _ _ => no_Stepper_advance) (ev_var rfl) (F1.pT (w' := { wk with cache := l }) (setWk_at hw) A1.thl wb.2.2.1) fun H6 l6 S6 x6 => ?_)
        have ea : allocate M D t z x = (advance M ((D.setWk t { wk with cache := l }).setSl x (.blk b)) t, .hit b) := by
          unfold allocate
          rw [wk_of hw, if_pos hpb, hlb, List.getLast?_concat, List.dropLast_concat]
        refine s_retD (K := K) (d := eEv (.hit b)) (ed_tup (el_cons (ed_str ev_c) (el_cons (ed_var (i := 6) rfl ((tv4.keep x5.tk).keep x6.tk)) el_nil)) ble) fun v2 H7 e7 t7 => ?_
        exact k v2 H7 l6 ((S6.ex e7).is_ (by rw [ea])) (((((((Ext.of_ex e1).ex e2).ex e3).trans x4).trans x5).trans x6).ex e7) (by rw [ea]; exact t7)
    · have hp0 : ¬ (phS wk.ph = ("begin" : Str)) := fun q => by
        have := phS_eq .begin wk.ph
        rw [decide_eq_true (show V.str (phS wk.ph) = V.str (phS .begin) from congrArg V.str q)] at this
        exact hpb (of_decide_eq_true this.symm)
      rw [if_neg hp0]
      refine ⟨_, rfl, ?_⟩
      rw [if_neg (fun q => ph_clear wk.ph (congrArg V.str q))]
      refine ⟨_, rfl, ?_⟩
      rw [if_neg (fun q => ph_get wk.ph (congrArg V.str q))]
      obtain ⟨xs, x1, x2⟩ := S2.rep.atHand hw
      refine q_when (et_test (ev_lNot (ev_hand T S2.rep hw (ev_var rfl)) x1 x2)) (fun hb H3 e3 => ?_) fun hb H3 e3 => ?_
      · have hne : wk.hand ≠ [] := fun q => by rw [q] at hb; cases hb
        have S3 := S2.ex e3
        obtain ⟨b, r, hbr⟩ := List.exists_cons_of_ne_nil hne
        obtain ⟨h, f, hpg⟩ := F1.sm b (out_hand hw (by rw [hbr]; exact List.mem_cons_self))
        obtain ⟨xs, x1, x2⟩ := S3.rep.atHand hw
        rw [hbr] at x2
        have ea : allocate M D t z x = bring M (popHand D t) b z := by
          unfold allocate
          rw [wk_of hw, if_neg hpb, hbr]
        refine e_bringPop (r := .hand t) (z := z) (D' := popHand D t) (h := h) (f := f) S3 (ev_var rfl) (ev_hand T S3.rep hw (ev_var rfl)) x1 x2 (fun _ => ev_var rfl) (fun H4 ws e4 tw => ?_) (by show D.pages.length ≤ _; rw [F1.pg]; decide) hpg (by have := F1.fr b.1 h f hpg; omega) (by have := F1.size; omega) (by have := F1.fl; show D.fl.length ≤ _; omega) fun v H4 l4 S4 x4 t4 => ?_
        · have : popHand D t = D.setWk t { wk with hand := wk.hand.tail } := by
            unfold popHand
            rw [wk_of hw]
          rw [this]
          exact (S3.rep.ex e4).putHand (w' := { wk with hand := wk.hand.tail }) hw rfl rfl rfl (by show TdL K H4 ws (wk.hand.tail.map eB); rw [hbr]; exact tw)
        · exact k v H4 l4 (S4.is_ (by rw [ea])) ((((Ext.of_ex e1).ex e2).ex e3).trans x4) (by rw [ea]; exact t4)
      · have hc : wk.hand = [] := by
          cases hh : wk.hand with
          | nil => rfl
          | cons _ _ => rw [hh] at hb; cases hb
        have ea : allocate M D t z x = fill M D t z x := by
          unfold allocate
          rw [wk_of hw, if_neg hpb, hc]
        refine e_ev t z x (S2.ex e3) (ev_var rfl) (fun _ _ => no_Stepper_fill) (el_cons (ed_int (ev_var rfl)) (el_cons (ed_int (ev_var rfl)) (el_cons (ed_int (ev_var rfl)) (el_cons (ed_int (ev_var rfl)) el_nil)))) ⟨wk, A1, hx⟩ fun v H4 l4 S4 x4 t4 => ?_
        exact k v H4 l4 (S4.is_ (by rw [ea])) ((((Ext.of_ex e1).ex e2).ex e3).trans x4) (by rw [ea]; exact t4)

end
end Rp
set_option Elab.async false
set_option linter.all false
set_option maxRecDepth 100000
set_option maxHeartbeats 4000000
set_option autoImplicit false
namespace Rp
open PySem PySem.Spec PyProof.Rows L2 Mx Evl Hf
section
variable {P : Program} {w : World} {K : Frg} {mg : Str → Option Value} {base : Heap}
theorem ok_Stepper_drain (T : Txt K mg w) (F : FnD K d_Stepper_drain) (G_Stepper_advance : Ok P w K mg base 4 (He.ma K (He.ga K "Stepper") "advance") ["self", "thread"] (spAdvance K)) (G_Stepper_bring : Ok P w K mg base 4 (He.ma K (He.ga K "Stepper") "bring") ["self", "block", "socket"] (spBring K)) (G_Stepper_take : Ok P w K mg base 3 (He.ma K (He.ga K "Stepper") "take") ["self", "thread", "socket"] (spTake K)) : Ok P w K mg base 5 (He.ma K (He.ga K "Stepper") "drain") ["self", "thread", "socket"] (spDrain K) := by
  have sc : FnScope ["self", "thread", "socket", "worker", "event"] ["self", "thread", "socket"] (defScope s_Stepper_drain) := ⟨rfl, rfl, rfl, by decide +kernel, rfl, by decide +kernel, by decide +kernel⟩
  let nm : List Str := ["self", "thread", "socket", "worker", "event"]
  refine ok_of F rfl rfl sc (fun _ _ _ _ _ _ us hl => match us, hl with | [_, _, _], _ => rfl) (fun vs H Q E h => ?_) (fun cdv A outer s H vs Q E hr h => ?_)
  · obtain ⟨s, M, loc, D, t, z, x, rfl, _⟩ := h
    rfl
  · obtain ⟨s, M, loc, D, t, z, x, rfl, S, ⟨wk, A1, hph⟩, k⟩ := h
    dsimp only at k
    refine ⟨_, (pss_cons (ps_set (i := 3) sc.nd rfl (by first | exact Or.inl rfl | exact Or.inr rfl) (pe_ix ix_list (pe_fld (pe_fld (pv 0) rfl) rfl) (pv 1) (fun _ _ => rfl))) (pss_cons (ps_if (pt_cmpR op_eq (pe_fld (pv 3) rfl) pe_str (nomark _)) (pss_one (ps_set (i := 4) sc.nd rfl (by first | exact Or.inl rfl | exact Or.inr rfl) (pe_methO (pv 0) T.cls_Stepper T.meth_Stepper_take G_Stepper_take (hr.mono (by decide)) (pa_cons (pv 1) (pa_cons (pv 2) pa_nil))))) (pss_one (ps_if (pt_cmpR op_eq (pe_fld (pv 3) rfl) pe_str (nomark _)) (pss_one ps_never) (pss_one (ps_set (i := 4) sc.nd rfl (by first | exact Or.inl rfl | exact Or.inr rfl) (pe_methO (pv 0) T.cls_Stepper T.meth_Stepper_bring G_Stepper_bring (hr.mono (by decide)) (pa_cons (pe_bm PySem.F.plainAttrs_list PySem.F.slot_list_pop PySem.F.type_list_pop mt_popAt (pe_fld (pv 3) rfl) (pa_cons pe_int pa_nil)) (pa_cons (pv 2) pa_nil)))))))) (pss_cons (ps_if (PW.pt (pw_and (pt_cmpR op_eq (pe_fld (pv 3) rfl) pe_str (nomark _)) (pw_and1 (pt_cmpR (op_eqD hr.units) (pe_fld (pv 3) rfl) (pe_lst pa_nil) (nomark _))))) (pss_one (ps_expr (pe_methO (pv 0) T.cls_Stepper T.meth_Stepper_advance G_Stepper_advance (hr.mono (by decide)) (pa_cons (pv 1) pa_nil)))) pss_nil) (pss_one (ps_ret (pv 4)))))), ?_⟩
    have hw := A1.wk
    have F1 := A1.fit
    have hz : z < D.arrs.length := by rw [A1.fit.al]; exact A1.zn
    have wb := F1.wk t wk hw
    refine q_asg (ev_worker T S (ev_var rfl) (ev_var rfl) hw) fun H1 e1 => ?_
    have S1 := S.ex e1
    -- the end: an event, a draft
    have fin : ∀ (D' : DS) (w' : Wk) (ev : Mx.Ev) (v : V) (H2 : Hp) (l2 : Lc), Stp K H2 s M l2 D' → Ext H loc H2 l2 → Td K H2 v (eEv ev) → D'.wks[t]? = some w' → w'.bats.length = M.ns → (drain M D t z) = (drainEnd M D' t, ev) →
        tSeq (tIfS (tAnd (tTest (tOp rEq (tFld K (tVar 3) "phase") (tC (V.str "hand")))) (tTest (tOp (rEqD K) (tFld K (tVar 3) "hand") (tLst tNil)))) (tDrop (tMeth (He.ga K "Stepper") "advance" (spAdvance K) [] E0 (tVar 0) (tCons (tVar 1) tNil))) tNext) (tRet (tVar 4)) { nx := fun x H' => Q V.non H', rt := Q } (((L2.start ["self", "thread", "socket", "worker", "event"] (V.ref s :: (a2 t z x).map V.int)).set 3 (some (V.ref (loc (.wk t))))).set 4 (some v)) H2 := by
      intro D' w' ev v H2 l2 S2 x2 t2 hw' hb' hd
      have fx : l2 (.wk t) = loc (.wk t) := x2.fx _ rfl
      obtain ⟨ys, y1, y2⟩ := S2.rep.atHand hw'
      have hde : drainEnd M D' t = if (decide (w'.ph = .hand) && w'.hand.isEmpty) = true then advance M D' t else D' := by
        unfold drainEnd
        rw [wk_of hw']
        have : (w'.ph = .hand ∧ w'.hand = []) ↔ (decide (w'.ph = .hand) && w'.hand.isEmpty) = true := by
          rw [Bool.and_eq_true, decide_eq_true_iff, List.isEmpty_iff]
        by_cases q : w'.ph = .hand ∧ w'.hand = []
        · rw [if_pos q, if_pos (this.mp q)]
        · rw [if_neg q, if_neg (fun z => q (this.mpr z))]
      refine q_when (et_and (et_test (ev_isPh .hand (ev_phase T S2.rep hw' (ev_var (by rw [fx]; rfl))))) fun _ => et_test (ev_lNil (ev_hand T S2.rep hw' (ev_var (by rw [fx]; rfl))) y1 y2)) (fun hb H3 e3 => ?_) fun hb H3 e3 => ?_
      · refine e_thr (S2.ex e3) (ev_var rfl) (fun _ _ => no_Stepper_advance) (ev_var rfl) (F1.pT hw' A1.thl hb') fun H4 l4 S4 x4 => ?_
        refine s_retD (ed_var rfl ((t2.ex e3).keep x4.tk)) fun v2 H5 e5 t5 => k v2 H5 l4 ((S4.ex e5).is_ ?_) (((x2.ex e3).trans x4).ex e5) (by rw [hd]; exact t5)
        rw [hd, hde, if_pos hb]
      · refine s_retD (ed_var rfl (t2.ex e3)) fun v2 H5 e5 t5 => k v2 H5 l2 (((S2.ex e3).ex e5).is_ ?_) ((x2.ex e3).ex e5) (by rw [hd]; exact t5)
        rw [hd, hde, if_neg (by rw [hb]; decide)]
    refine q_if (et_test (ev_isPh .begin (ev_phase T S1.rep hw (ev_var rfl)))) (fun hb H2 e2 => ?_) fun hb H2 e2 => ?_
    · have hpb := of_decide_eq_true hb
      refine e_ev t z 0 (S1.ex e2) (ev_var rfl) (fun _ _ => no_Stepper_take) (el_cons (ed_int (ev_var rfl)) (el_cons (ed_int (ev_var rfl)) el_nil)) ⟨wk, A1⟩ fun v H3 l3 S3 x3 t3 => ?_
      refine fin (take D t z) { wk with hand := D.arr z, ph := .hand } _ v H3 l3 S3 (((Ext.of_ex e1).ex e2).trans x3) t3 ?_ wb.2.2.1 ?_
      · show (take D t z).wks[t]? = _
        unfold take
        rw [wk_of hw]
        exact setWk_at hw
      · unfold drain
        rw [wk_of hw, if_pos hpb]
    · have hpb := of_decide_eq_false hb
      obtain ⟨hp1, hp2⟩ := hph hpb
      have S2 := S1.ex e2
      refine s_if (et_test (ev_noStr (ev_phase T S2.rep hw (ev_var rfl)) (ph_clear _))) (fun hb => nomatch hb) fun _ H3 e3 => ?_
      have S3 := S2.ex e3
      obtain ⟨b, r, hbr⟩ := List.exists_cons_of_ne_nil hp2
      obtain ⟨h, f, hpg⟩ := F1.sm b (out_hand hw (by rw [hbr]; exact List.mem_cons_self))
      obtain ⟨xs, x1, x2⟩ := S3.rep.atHand hw
      rw [hbr] at x2
      refine e_bringPop (r := .hand t) (z := z) (D' := popHand D t) (h := h) (f := f) S3 (ev_var rfl) (ev_hand T S3.rep hw (ev_var rfl)) x1 x2 (fun _ => ev_var rfl) (fun H4 ws e4 tw => ?_) (by show D.pages.length ≤ _; rw [F1.pg]; decide) hpg (by have := F1.fr b.1 h f hpg; omega) (by have := F1.size; omega) (by have := F1.fl; show D.fl.length ≤ _; omega) fun v H4 l4 S4 x4 t4 => ?_
      · have : popHand D t = D.setWk t { wk with hand := wk.hand.tail } := by
          unfold popHand
          rw [wk_of hw]
        rw [this]
        exact (S3.rep.ex e4).putHand (w' := { wk with hand := wk.hand.tail }) hw rfl rfl rfl (by show TdL K H4 ws (wk.hand.tail.map eB); rw [hbr]; exact tw)
      · refine fin (bring M (popHand D t) b z).1 { wk with hand := wk.hand.tail } _ v H4 l4 S4 ((((Ext.of_ex e1).ex e2).ex e3).trans x4) t4 ?_ wb.2.2.1 ?_
        · rw [bring_wks]
          unfold popHand
          rw [wk_of hw]
          exact setWk_at hw
        · unfold drain
          rw [wk_of hw, if_neg hpb, hbr]

end
end Rp
set_option Elab.async false
set_option linter.all false
set_option maxRecDepth 100000
set_option maxHeartbeats 4000000
set_option autoImplicit false
namespace Rp
open PySem PySem.Spec PyProof.Rows L2 Mx Evl Hf
section
variable {P : Program} {w : World} {K : Frg} {mg : Str → Option Value} {base : Heap}
theorem ok_Stepper_flush_batch (T : Txt K mg w) (F : FnD K d_Stepper_flush_batch) (G_Machine_fault : Ok P w K mg base 1 (pg K "Machine" "fault") ["self"] (spSet K 8)) : Ok P w K mg base 3 (He.ma K (He.ga K "Stepper") "flush_batch") ["self", "worker"] (spFlushBat K) := by
  have sc : FnScope ["self", "worker", "home", "row", "kind", "batch"] ["self", "worker"] (defScope s_Stepper_flush_batch) := ⟨rfl, rfl, rfl, by decide +kernel, rfl, by decide +kernel, by decide +kernel⟩
  let nm : List Str := ["self", "worker", "home", "row", "kind", "batch"]
  refine ok_of F rfl rfl sc (fun _ _ _ _ _ _ us hl => match us, hl with | [_, _], _ => rfl) (fun vs H Q E h => ?_) (fun cdv A outer s H vs Q E hr h => ?_)
  · obtain ⟨s, M, loc, D, t, wk, j, rfl, _⟩ := h
    rfl
  · obtain ⟨s, M, loc, D, t, wk, j, rfl, S, F1, hw, hf, k⟩ := h
    refine ⟨_, (pss_cons (ps_for PassesOwn.never rfl (pi_enum (by rfl) T.free_enumerate (pa_cons (pe_callTy Ru.cr_list (by rfl) T.free_list (by decide +kernel) (pa_cons (pe_fld (pv 1) rfl) pa_nil)) pa_nil)) (pg_tup rfl (pgs_cons (pg_name (i := 2) sc.nd rfl (by first | exact Or.inl rfl | exact Or.inr rfl)) (pgs_cons (pg_name (i := 3) sc.nd rfl (by first | exact Or.inl rfl | exact Or.inr rfl)) pgs_nil))) (pss_one (ps_for PassesOwn.never rfl (pi_enum (by rfl) T.free_enumerate (pa_cons (pe_callTy Ru.cr_list (by rfl) T.free_list (by decide +kernel) (pa_cons (pv 3) pa_nil)) pa_nil)) (pg_tup rfl (pgs_cons (pg_name (i := 4) sc.nd rfl (by first | exact Or.inl rfl | exact Or.inr rfl)) (pgs_cons (pg_name (i := 5) sc.nd rfl (by first | exact Or.inl rfl | exact Or.inr rfl)) pgs_nil))) (pss_one (ps_if (pt_cmpR (op_neD hr.units) (pv 5) (pe_lst pa_nil) (nomark _)) (pss_cons (ps_asg (pe_lst pa_nil) (pg_sub (pv 3) (pv 4) set_list)) (pss_cons (ps_if (pt_cmpR op_eq (pe_propO (pe_fld (pv 0) rfl) T.cls_Machine T.prop_Machine_fault G_Machine_fault (hr.mono (by decide)) rfl) pe_str (nomark _)) (pss_one ps_never) pss_nil) (pss_cons (ps_expr (pe_bm PySem.F.plainAttrs_list PySem.F.slot_list_append PySem.F.type_list_append mt_append (pe_fld (pe_fld (pv 0) rfl) rfl) (pa_cons (pe_tup (pa_cons (pv 2) (pa_cons (pe_callTy Ru.cr_tup (by rfl) T.free_tuple (by decide +kernel) (pa_cons (pv 5) pa_nil)) pa_nil))) pa_nil))) (pss_one (ps_ret (pe_tup (pa_cons pe_str (pa_cons (pv 2) (pa_cons (pe_callB Ru.cr_len (by rfl) T.free_len PySem.boot_len (pa_cons (pv 5) pa_nil)) pa_nil))))))))) pss_nil))))) (pss_one (ps_ret pe_non))), ?_⟩
    have wb := F1.wk t wk hw
    obtain ⟨l, hj, hlp, hbefore⟩ := firstBat_at hf
    have hjl := (List.getElem?_eq_some_iff.mp hj).1
    have hrow : ∀ {i : Nat} {v : V}, (((List.range wk.bats.length).map fun j => loc (.row t j)).map V.ref)[i]? = some v → i < wk.bats.length ∧ v = .ref (loc (.row t i)) := fun {i v} h => by
      have hi : i < wk.bats.length := by
        have := (List.getElem?_eq_some_iff.mp h).1
        rw [List.length_map, List.length_map, List.length_range] at this
        exact this
      rw [List.getElem?_map, range_at hi] at h
      cases h
      exact ⟨hi, rfl⟩
    let P : Nat → L2.St → Prop := fun i σ' => i ≤ j ∧ σ'.length = 6 ∧ σ'[0]? = some (some (.ref s)) ∧ σ'[1]? = some (some (.ref (loc (.wk t))))
    refine s_forEx (E := ⟨_, _, _, _⟩) rfl (el_list (ev_batches T S.rep hw (ev_var rfl)) (SqL.of (S.rep.atBats hw))) P ⟨Nat.zero_le _, rfl, rfl, rfl⟩ (fun i x σ' H' e hx q N hN => ?_) fun σ' H' q e => ?_
    · obtain ⟨q1, q2, q3, q4⟩ := q
      obtain ⟨hi, rfl⟩ := hrow hx
      have hbi := List.getElem?_eq_getElem hi
      have v0 : ((σ'.set 2 (some (.int (i : Nat)))).set 3 (some (.ref (loc (.row t i)))))[0]? = some (some (.ref s)) := st_keep q3 (by decide) (by decide)
      have v1 : ((σ'.set 2 (some (.int (i : Nat)))).set 3 (some (.ref (loc (.row t i)))))[1]? = some (some (.ref (loc (.wk t)))) := st_keep q4 (by decide) (by decide)
      have v2 : ((σ'.set 2 (some (.int (i : Nat)))).set 3 (some (.ref (loc (.row t i)))))[2]? = some (some (.int (i : Nat))) := st_1 q2 (by decide) (by decide)
      have v3 : ((σ'.set 2 (some (.int (i : Nat)))).set 3 (some (.ref (loc (.row t i)))))[3]? = some (some (.ref (loc (.row t i)))) := st_2 q2 (by decide)
      have vl : ((σ'.set 2 (some (.int (i : Nat)))).set 3 (some (.ref (loc (.row t i))))).length = 6 := st_len q2
      generalize ((σ'.set 2 (some (.int (i : Nat)))).set 3 (some (.ref (loc (.row t i))))) = σ1 at v0 v1 v2 v3 vl ⊢
      have S1 := S.ex e
      let P2 : Nat → L2.St → Prop := fun i2 σ2 => (0 < i2 → i < j) ∧ σ2.length = 6 ∧ σ2[0]? = some (some (.ref s)) ∧ σ2[1]? = some (some (.ref (loc (.wk t)))) ∧ σ2[2]? = some (some (.int (i : Nat))) ∧ σ2[3]? = some (some (.ref (loc (.row t i))))
      refine s_forEx (E := ⟨_, _, _, _⟩) rfl (el_list (ev_var v3) (SqL.of (S1.rep.atRow hw hbi))) P2 ⟨fun h => absurd h (by decide), vl, v0, v1, v2, v3⟩ (fun i2 x σ2 H2 e2 hx2 q N2 hN2 => ?_) fun σ2 H2 q e2 => ?_
      · obtain ⟨r1, r2, r3, r4, r5, r6⟩ := q
        have h0 : i2 = 0 := by
          have := (List.getElem?_eq_some_iff.mp hx2).1
          simp at this
          exact this
        subst h0
        cases hx2
        have u0 : ((σ2.set 4 (some (.int ((0 : Nat) : Int)))).set 5 (some (.ref (loc (.bat t i)))))[0]? = some (some (.ref s)) := st_keep r3 (by decide) (by decide)
        have u1 : ((σ2.set 4 (some (.int ((0 : Nat) : Int)))).set 5 (some (.ref (loc (.bat t i)))))[1]? = some (some (.ref (loc (.wk t)))) := st_keep r4 (by decide) (by decide)
        have u2 : ((σ2.set 4 (some (.int ((0 : Nat) : Int)))).set 5 (some (.ref (loc (.bat t i)))))[2]? = some (some (.int (i : Nat))) := st_keep r5 (by decide) (by decide)
        have u3 : ((σ2.set 4 (some (.int ((0 : Nat) : Int)))).set 5 (some (.ref (loc (.bat t i)))))[3]? = some (some (.ref (loc (.row t i)))) := st_keep r6 (by decide) (by decide)
        have u4 : ((σ2.set 4 (some (.int ((0 : Nat) : Int)))).set 5 (some (.ref (loc (.bat t i)))))[4]? = some (some (.int ((0 : Nat) : Int))) := st_1 r2 (by decide) (by decide)
        have u5 : ((σ2.set 4 (some (.int ((0 : Nat) : Int)))).set 5 (some (.ref (loc (.bat t i)))))[5]? = some (some (.ref (loc (.bat t i)))) := st_2 r2 (by decide)
        have ul : ((σ2.set 4 (some (.int ((0 : Nat) : Int)))).set 5 (some (.ref (loc (.bat t i))))).length = 6 := st_len r2
        generalize ((σ2.set 4 (some (.int ((0 : Nat) : Int)))).set 5 (some (.ref (loc (.bat t i))))) = σ3 at u0 u1 u2 u3 u4 u5 ul ⊢
        have S2 := S1.ex e2
        obtain ⟨zs, z1, z2⟩ := S2.rep.atBat hw hbi
        refine s_when (et_test (ev_lNot (ev_var u5) z1 z2)) (fun hb H3 e3 => ?_) fun hb H3 e3 => ?_
        · have hij : i = j := by
            by_cases hlt : i < j
            · have := hbefore i _ hlt hbi
              rw [this] at hb
              cases hb
            · omega
          subst hij
          rw [hbi] at hj
          cases hj
          have S3 := S2.ex e3
          have z3 := e3 _ _ z1
          refine q_row0 S3 hw hbi (fun _ => ev_var u3) (fun _ => ev_var u4) fun H4 l4 S4 x4 hold hl4 => ?_
          have z4 := hold _ z3
          have zt4 := (z2.ex e3).keep x4.tk
          refine q_when (et_test (ev_fault "batches" T S4 (ev_var u0))) (fun hb => nomatch hb) fun _ H5 e5 => ?_
          have S5 := S4.ex e5
          have z5 := e5 _ _ z4
          refine q_flight (hm := i) (l := wk.bats[i]) T S5 (ed_tup (el_cons (ed_int (ev_var u2)) (el_cons (ed_tupL (ev_var u5) z5 (zt4.ex e5)) el_nil)) ble) (ev_var u0) (by have := F1.fl; show D.fl.length < _; omega) fun H6 S6 x6 => ?_
          have z6 := x6.fr _ _ z5 hl4
          have hlen : (zs.length : Int) = (wk.bats[i].length : Nat) := by
            have := z2.length
            rw [List.length_map] at this
            rw [this]
          have ea : flushBat D t = ((D.setWk t { wk with bats := wk.bats.set i [] }).addFl i wk.bats[i], .send i wk.bats[i].length) := by
            unfold flushBat sendBat
            rw [wk_of hw, hf]
            show (_, _) = _
            rw [bat_of hbi]
          refine s_retD (K := K) (d := eEv (.send i wk.bats[i].length)) (ed_tup (el_cons (ed_str ev_c) (el_cons (ed_int (ev_var u2)) (el_cons (ed_int (ev_is (ev_len (ev_var u5) (SqL.of z6)) (congrArg V.int hlen))) el_nil))) ble) fun v2 H7 e7 t7 => ?_
          exact k v2 H7 l4 ((S6.ex e7).is_ (by rw [ea])) ((((((((Ext.of_ex e).ex e2).ex e3).trans x4).ex e5).trans x6).ex e7)) (by rw [ea]; exact t7)
        · refine hN2 _ _ ⟨fun _ => ?_, ul, u0, u1, u2, u3⟩ e3
          by_cases hij : i = j
          · subst hij
            rw [hbi] at hj
            cases hj
            rw [hlp] at hb
            cases hb
          · omega
      · obtain ⟨r1, r2, r3, r4, r5, r6⟩ := q
        exact hN _ _ ⟨r1 (by show 0 < 1; decide), r2, r3, r4⟩ e2
    · exfalso
      have := q.1
      rw [List.length_map, List.length_map, List.length_range] at this
      omega

end
end Rp
set_option Elab.async false
set_option linter.all false
set_option maxRecDepth 100000
set_option maxHeartbeats 4000000
set_option autoImplicit false
namespace Rp
open PySem PySem.Spec PyProof.Rows L2 Mx Evl Hf
section
variable {P : Program} {w : World} {K : Frg} {mg : Str → Option Value} {base : Heap}
theorem ok_Stepper_flush (T : Txt K mg w) (F : FnD K d_Stepper_flush) (G_Stepper_bring : Ok P w K mg base 4 (He.ma K (He.ga K "Stepper") "bring") ["self", "block", "socket"] (spBring K)) (G_Stepper_flush_batch : Ok P w K mg base 3 (He.ma K (He.ga K "Stepper") "flush_batch") ["self", "worker"] (spFlushBat K)) (G_Stepper_look_for_end : Ok P w K mg base 3 (He.ma K (He.ga K "Stepper") "look_for_end") ["self", "thread"] (spLookEnd K)) : Ok P w K mg base 5 (He.ma K (He.ga K "Stepper") "flush") ["self", "thread", "socket"] (spFlush K) := by
  have sc : FnScope ["self", "thread", "socket", "worker", "event", "cache"] ["self", "thread", "socket"] (defScope s_Stepper_flush) := ⟨rfl, rfl, rfl, by decide +kernel, rfl, by decide +kernel, by decide +kernel⟩
  let nm : List Str := ["self", "thread", "socket", "worker", "event", "cache"]
  refine ok_of F rfl rfl sc (fun _ _ _ _ _ _ us hl => match us, hl with | [_, _, _], _ => rfl) (fun vs H Q E h => ?_) (fun cdv A outer s H vs Q E hr h => ?_)
  · obtain ⟨s, M, loc, D, t, z, x, rfl, _⟩ := h
    rfl
  · obtain ⟨s, M, loc, D, t, z, x, rfl, S, ⟨wk, A1, hfb⟩, k⟩ := h
    dsimp only at k
    refine ⟨_, (pss_cons (ps_set (i := 3) sc.nd rfl (by first | exact Or.inl rfl | exact Or.inr rfl) (pe_ix ix_list (pe_fld (pe_fld (pv 0) rfl) rfl) (pv 1) (fun _ _ => rfl))) (pss_cons (ps_set (i := 4) sc.nd rfl (by first | exact Or.inl rfl | exact Or.inr rfl) pe_non) (pss_cons (ps_for PassesOwn.never rfl (pi_list (pe_fld (pv 3) rfl)) (pg_name (i := 5) sc.nd rfl (by first | exact Or.inl rfl | exact Or.inr rfl)) (pss_one (ps_if (pt_cmpR (op_neD hr.units) (pv 5) (pe_lst pa_nil) (nomark _)) (pss_cons (ps_set (i := 4) sc.nd rfl (by first | exact Or.inl rfl | exact Or.inr rfl) (pe_methO (pv 0) T.cls_Stepper T.meth_Stepper_bring G_Stepper_bring (hr.mono (by decide)) (pa_cons (pe_bm PySem.F.plainAttrs_list PySem.F.slot_list_pop PySem.F.type_list_pop mt_popAt (pv 5) (pa_cons pe_int pa_nil)) (pa_cons (pv 2) pa_nil)))) (pss_one ps_break)) pss_nil))) (pss_cons (ps_if (pt_cmpR op_isN (pv 4) pe_non (nomark _)) (pss_one (ps_set (i := 4) sc.nd rfl (by first | exact Or.inl rfl | exact Or.inr rfl) (pe_methO (pv 0) T.cls_Stepper T.meth_Stepper_flush_batch G_Stepper_flush_batch (hr.mono (by decide)) (pa_cons (pv 3) pa_nil)))) pss_nil) (pss_cons (ps_expr (pe_methO (pv 0) T.cls_Stepper T.meth_Stepper_look_for_end G_Stepper_look_for_end (hr.mono (by decide)) (pa_cons (pv 1) pa_nil))) (pss_one (ps_ret (pv 4)))))))), ?_⟩
    have hw := A1.wk
    have F1 := A1.fit
    have wb := F1.wk t wk hw
    refine q_asg (ev_worker T S (ev_var rfl) (ev_var rfl) hw) fun H1 e1 => ?_
    refine q_asg ev_c fun H2 e2 => ?_
    have S2 := (S.ex e1).ex e2
    obtain ⟨ys, y1, y2⟩ := S2.rep.atCache hw
    -- behind the choice: look_for_end, the event
    have fin : ∀ (D' : DS) (w' : Wk) (ev : Mx.Ev) (v : V) (σ' : L2.St) (H3 : Hp) (l3 : Lc), Stp K H3 s M l3 D' → Ext H loc H3 l3 → Td K H3 v (eEv ev) → D'.wks[t]? = some w' → w'.bats.length = M.ns → flush M D t z = (lookEnd M D' t, ev) →
        σ'[0]? = some (some (.ref s)) → σ'[1]? = some (some (.int (t : Nat))) → σ'[4]? = some (some v) →
        tSeq (tDrop (tMeth (He.ga K "Stepper") "look_for_end" (spLookEnd K) [] E0 (tVar 0) (tCons (tVar 1) tNil))) (tRet (tVar 4)) { nx := fun x H' => Q V.non H', rt := Q } σ' H3 := by
      intro D' w' ev v σ' H3 l3 S3 x3 t3 hw' hb' hd v0 v1 v4
      refine e_drop (e_thr S3 (ev_var v0) (fun _ _ => no_Stepper_look_for_end) (ev_var v1) (F1.pT hw' A1.thl hb') fun H4 l4 S4 x4 => ?_)
      refine s_retD (ed_var v4 (t3.keep x4.tk)) fun v2 H5 e5 t5 => k v2 H5 l4 ((S4.ex e5).is_ (by rw [hd])) ((x3.trans x4).ex e5) (by rw [hd]; exact t5)
    let Pv : Nat → L2.St → Hp → Prop := fun i σ' H' => (0 < i → wk.cache = []) ∧ Ex H2 H' ∧ σ'.length = 6 ∧ σ'[0]? = some (some (.ref s)) ∧ σ'[1]? = some (some (.int (t : Nat))) ∧ σ'[2]? = some (some (.int (z : Nat))) ∧ σ'[3]? = some (some (.ref (loc (.wk t)))) ∧ σ'[4]? = some (some .non)
    refine q_forLn (ev_caches T S2.rep hw (ev_var rfl)) (SqL.of (S2.rep.atCaches hw)) Pv (fun H3 e3 => ⟨fun h => absurd h (by decide), e3, rfl, rfl, rfl, rfl, rfl, rfl⟩) (fun i σ' H' _ q => ex_l q.2.1 (SqL.of (S2.rep.atCaches hw))) (fun i c σ' H3 hc q => ?_) fun σ' H3 q => ?_
    · obtain ⟨q0, q1, q2, q3, q4, q5, q6, q7⟩ := q
      have h0 : i = 0 := by
        have := (List.getElem?_eq_some_iff.mp hc).1
        simp at this
        exact this
      subst h0
      cases hc
      have S3 := S2.ex q1
      have y3 := q1 _ _ y1
      have v5 : (σ'.set 5 (some (.ref (loc (.cache t)))))[5]? = some (some (.ref (loc (.cache t)))) := List.getElem?_set_self (by omega)
      have v0 : (σ'.set 5 (some (.ref (loc (.cache t)))))[0]? = some (some (.ref s)) := by rw [List.getElem?_set_ne (by decide)]; exact q3
      have v1 : (σ'.set 5 (some (.ref (loc (.cache t)))))[1]? = some (some (.int (t : Nat))) := by rw [List.getElem?_set_ne (by decide)]; exact q4
      have v2 : (σ'.set 5 (some (.ref (loc (.cache t)))))[2]? = some (some (.int (z : Nat))) := by rw [List.getElem?_set_ne (by decide)]; exact q5
      have v3 : (σ'.set 5 (some (.ref (loc (.cache t)))))[3]? = some (some (.ref (loc (.wk t)))) := by rw [List.getElem?_set_ne (by decide)]; exact q6
      have v4 : (σ'.set 5 (some (.ref (loc (.cache t)))))[4]? = some (some .non) := by rw [List.getElem?_set_ne (by decide)]; exact q7
      have vl : (σ'.set 5 (some (.ref (loc (.cache t))))).length = 6 := by rw [List.length_set]; exact q2
      generalize (σ'.set 5 (some (.ref (loc (.cache t))))) = σ1 at v0 v1 v2 v3 v4 v5 vl ⊢
      refine s_when (et_test (ev_lNot (ev_var v5) y3 (y2.ex q1))) (fun hb H4 e4 => ?_) fun hb H4 e4 => ?_
      · have hne : wk.cache ≠ [] := fun q => by rw [q] at hb; cases hb
        have S4 := S3.ex e4
        obtain ⟨b, r, hbr⟩ := List.exists_cons_of_ne_nil hne
        obtain ⟨h, f, hpg⟩ := F1.sm b (out_cache hw (by rw [hbr]; exact List.mem_cons_self))
        have y4 := e4 _ _ y3
        have yt4 := (y2.ex q1).ex e4
        rw [hbr] at yt4
        refine e_asg (e_bringPop (r := .cache t) (z := z) (D' := popCache0 D t) (h := h) (f := f) S4 (ev_var v0) (ev_var v5) y4 yt4 (fun _ => ev_var v2) (fun H5 ws e5 tw => ?_) (by show D.pages.length ≤ _; rw [F1.pg]; decide) hpg (by have := F1.fr b.1 h f hpg; omega) (by have := F1.size; omega) (by have := F1.fl; show D.fl.length ≤ _; omega) fun v H5 l5 S5 x5 t5 => ?_)
        · have : popCache0 D t = D.setWk t { wk with cache := wk.cache.tail } := by
            unfold popCache0
            rw [wk_of hw]
          rw [this]
          exact (S4.rep.ex e5).putCache (w' := { wk with cache := wk.cache.tail }) hw rfl rfl rfl (by show TdL K H5 ws (wk.cache.tail.map eB); rw [hbr]; exact tw)
        · dsimp only [tBreak, gName]
          have x05 := ((((Ext.of_ex (l := loc) e1).ex e2).ex q1).ex e4).trans x5
          have u4 : (σ1.set 4 (some v))[4]? = some (some v) := List.getElem?_set_self (by omega)
          refine q_when (et_test (ev_isNon (ev_var u4))) (fun hb => absurd (of_decide_eq_true hb) (td_ev t5)) fun _ H6 e6 => ?_
          refine fin (bring M (popCache0 D t) b z).1 { wk with cache := wk.cache.tail } _ v _ H6 l5 (S5.ex e6) (x05.ex e6) (t5.ex e6) ?_ wb.2.2.1 ?_ (by rw [List.getElem?_set_ne (by decide)]; exact v0) (by rw [List.getElem?_set_ne (by decide)]; exact v1) u4
          · rw [bring_wks]
            unfold popCache0
            rw [wk_of hw]
            exact setWk_at hw
          · unfold flush
            rw [wk_of hw, hbr]
      · exact ⟨(fun _ => by cases hc : wk.cache with | nil => rfl | cons _ _ => rw [hc] at hb; cases hb), q1.trans e4, vl, v0, v1, v2, v3, v4⟩
    · obtain ⟨q0, q1, q2, q3, q4, q5, q6, q7⟩ := q
      have hc : wk.cache = [] := q0 (by show 0 < 1; decide)
      obtain ⟨j, hj⟩ := hfb hc
      have S3 := S2.ex q1
      refine q_when (et_test (ev_isNon (ev_var q7))) (fun _ H4 e4 => ?_) fun hb => absurd rfl (of_decide_eq_false hb)
      have S4 := S3.ex e4
      refine s_asgE (e_flushBat S4 (ev_var q3) (ev_var q6) F1 hw hj fun v H7 l7 S7 x7 t7 => ?_)
      have hjl := firstBat_len hj
      have u4 : (σ'.set 4 (some v))[4]? = some (some v) := List.getElem?_set_self (by omega)
      refine fin (flushBat D t).1 { wk with bats := wk.bats.set j [] } _ v _ H7 l7 S7 ((((((Ext.of_ex e1).ex e2).ex q1).ex e4).trans x7)) t7 ?_ (by show (wk.bats.set j []).length = _; rw [List.length_set]; exact wb.2.2.1) ?_ (by rw [List.getElem?_set_ne (by decide)]; exact q3) (by rw [List.getElem?_set_ne (by decide)]; exact q4) u4
      · unfold flushBat sendBat
        rw [wk_of hw, hj]
        exact setWk_at hw
      · unfold flush
        rw [wk_of hw, hc]

end
end Rp
set_option Elab.async false
set_option linter.all false
set_option maxRecDepth 100000
set_option maxHeartbeats 4000000
set_option autoImplicit false
namespace Rp
open PySem PySem.Spec PyProof.Rows L2 Mx Evl Hf
section
variable {P : Program} {w : World} {K : Frg} {mg : Str → Option Value} {base : Heap}
theorem ok_Stepper_free_block (T : Txt K mg w) (F : FnD K d_Stepper_free_block) (G_Machine_batch : Ok P w K mg base 1 (pg K "Machine" "batch") ["self"] (spSet K 4)) (G_Stepper_advance : Ok P w K mg base 4 (He.ma K (He.ga K "Stepper") "advance") ["self", "thread"] (spAdvance K)) (G_Stepper_is_small : Ok P w K mg base 1 (He.ma K (He.ga K "Stepper") "is_small") ["self", "page"] (spIsSmall K)) (G_Stepper_put_home : Ok P w K mg base 3 (He.ma K (He.ga K "Stepper") "put_home") ["self", "block"] (spPutHome K)) : Ok P w K mg base 5 (He.ma K (He.ga K "Stepper") "free_block") ["self", "thread", "socket", "block"] (spFreeBlock K) := by
  have sc : FnScope ["self", "thread", "socket", "block", "worker", "word", "home", "kind", "free", "event"] ["self", "thread", "socket", "block"] (defScope s_Stepper_free_block) := ⟨rfl, rfl, rfl, by decide +kernel, rfl, by decide +kernel, by decide +kernel⟩
  let nm : List Str := ["self", "thread", "socket", "block", "worker", "word", "home", "kind", "free", "event"]
  refine ok_of F rfl rfl sc (fun _ _ _ _ _ _ us hl => match us, hl with | [_, _, _, _], _ => rfl) (fun vs H Q E h => ?_) (fun cdv A outer s H vs Q E hr h => ?_)
  · obtain ⟨s, M, loc, D, D0, t, z, bv, b, wk, rfl, _⟩ := h
    rfl
  · obtain ⟨s, M, loc, D, D0, t, z, bv, b, wk, rfl, S, A1, g1, g2, g3, ⟨h, f, hp⟩, tb, k⟩ := h
    refine ⟨_, (pss_cons (ps_set (i := 4) sc.nd rfl (by first | exact Or.inl rfl | exact Or.inr rfl) (pe_ix ix_list (pe_fld (pe_fld (pv 0) rfl) rfl) (pv 1) (fun _ _ => rfl))) (pss_cons (ps_if (pt_not (pt_val (pe_methO (pv 0) T.cls_Stepper T.meth_Stepper_is_small G_Stepper_is_small (hr.mono (by decide)) (pa_cons (pe_ix ix_tup (pv 3) pe_int (fun _ _ => rfl)) pa_nil)))) (pss_cons (ps_expr (pe_methO (pv 0) T.cls_Stepper T.meth_Stepper_advance G_Stepper_advance (hr.mono (by decide)) (pa_cons (pv 1) pa_nil))) (pss_one ps_never)) pss_nil) (pss_cons (ps_asg (pe_ix ix_list (pe_fld (pe_fld (pv 0) rfl) rfl) (pe_ix ix_tup (pv 3) pe_int (fun _ _ => rfl)) (fun _ _ => rfl)) (pg_tup rfl (pgs_cons (pg_name (i := 5) sc.nd rfl (by first | exact Or.inl rfl | exact Or.inr rfl)) (pgs_cons (pg_name (i := 6) sc.nd rfl (by first | exact Or.inl rfl | exact Or.inr rfl)) (pgs_cons (pg_name (i := 7) sc.nd rfl (by first | exact Or.inl rfl | exact Or.inr rfl)) (pgs_cons (pg_name (i := 8) sc.nd rfl (by first | exact Or.inl rfl | exact Or.inr rfl)) pgs_nil)))))) (pss_cons (ps_if (pt_cmpR op_ne (pv 6) (pv 2) (nomark _)) (pss_cons (ps_expr (pe_bm PySem.F.plainAttrs_list PySem.F.slot_list_append PySem.F.type_list_append mt_append (pe_ix ix_list (pe_ix ix_list (pe_fld (pv 4) rfl) (pv 6) (fun _ _ => rfl)) (pv 7) (fun _ _ => rfl)) (pa_cons (pv 3) pa_nil))) (pss_cons (ps_if (pt_cmpR op_ge (pe_callB Ru.cr_len (by rfl) T.free_len PySem.boot_len (pa_cons (pe_ix ix_list (pe_ix ix_list (pe_fld (pv 4) rfl) (pv 6) (fun _ _ => rfl)) (pv 7) (fun _ _ => rfl)) pa_nil)) (pe_propO (pe_fld (pv 0) rfl) T.cls_Machine T.prop_Machine_batch G_Machine_batch (hr.mono (by decide)) rfl) (nomark _)) (pss_one (ps_fld (pv 4) pe_str rfl)) (pss_one (ps_expr (pe_methO (pv 0) T.cls_Stepper T.meth_Stepper_advance G_Stepper_advance (hr.mono (by decide)) (pa_cons (pv 1) pa_nil))))) (pss_one (ps_ret (pe_tup (pa_cons pe_str (pa_cons (pv 3) pa_nil))))))) pss_nil) (pss_cons (ps_if (pt_cmpR op_lt (pe_callB Ru.cr_len (by rfl) T.free_len PySem.boot_len (pa_cons (pe_ix ix_list (pe_fld (pv 4) rfl) (pv 7) (fun _ _ => rfl)) pa_nil)) (pe_propO (pe_fld (pv 0) rfl) T.cls_Machine T.prop_Machine_batch G_Machine_batch (hr.mono (by decide)) rfl) (nomark _)) (pss_cons (ps_expr (pe_bm PySem.F.plainAttrs_list PySem.F.slot_list_append PySem.F.type_list_append mt_append (pe_ix ix_list (pe_fld (pv 4) rfl) (pv 7) (fun _ _ => rfl)) (pa_cons (pv 3) pa_nil))) (pss_one (ps_set (i := 9) sc.nd rfl (by first | exact Or.inl rfl | exact Or.inr rfl) (pe_tup (pa_cons pe_str (pa_cons (pv 3) pa_nil)))))) (pss_cons (ps_expr (pe_methO (pv 0) T.cls_Stepper T.meth_Stepper_put_home G_Stepper_put_home (hr.mono (by decide)) (pa_cons (pv 3) pa_nil))) (pss_one (ps_set (i := 9) sc.nd rfl (by first | exact Or.inl rfl | exact Or.inr rfl) (pe_tup (pa_cons pe_str (pa_cons (pv 3) pa_nil))))))) (pss_cons (ps_expr (pe_methO (pv 0) T.cls_Stepper T.meth_Stepper_advance G_Stepper_advance (hr.mono (by decide)) (pa_cons (pv 1) pa_nil))) (pss_one (ps_ret (pv 9))))))))), ?_⟩
    have hw : D.wks[t]? = some wk := by rw [g2]; exact A1.wk
    have F1 := A1.fit
    have wb := F1.wk t wk A1.wk
    have hP : D.pages.length ≤ 1000 := by rw [g1, F1.pg]; decide
    have hfr := F1.fr b.1 h f (by rw [← g1]; exact hp)
    have eh : homeOf D b = h := by
      unfold homeOf
      rw [pg_of hp]
    refine q_asg (ev_worker T S (ev_var rfl) (ev_var rfl) hw) fun H1 e1 => ?_
    have S1 := S.ex e1
    have t1 := tb.ex e1
    refine q_when (et_not (et_B (ev_small S1 (ev_var rfl) (ed_ixT (j := 0) (d := eN b.1) (ed_var (i := 3) rfl t1) ev_c rfl rfl).int hp))) (fun hb => nomatch hb) fun _ H2 e2 => ?_
    have S2 := S1.ex e2
    have t2 := t1.ex e2
    refine q_page4 rfl (ed_page T S2 (ev_var rfl) (ed_ixT (j := 0) (d := eN b.1) (ed_var (i := 3) rfl t2) ev_c rfl rfl).int hp) fun fv H3 e3 tf => ?_
    have S3 := S2.ex e3
    have t3 := t2.ex e3
    refine q_when (et_test (ev_neN (a := h) (b := z) (ev_var rfl) (ev_var rfl))) (fun hb H4 e4 => ?_) fun hb H4 e4 => ?_
    · have hz : h ≠ z := fun q => by rw [decide_eq_true q] at hb; cases hb
      have S4 := S3.ex e4
      have t4 := t3.ex e4
      have hj : h < wk.bats.length := by rw [wb.2.2.1]; exact hfr.2
      have hbj := List.getElem?_eq_getElem hj
      have hlen : wk.bats[h].length ≤ 100 := wb.2.2.2 _ (List.getElem_mem hj)
      refine q_appBat (b := b) (l := wk.bats[h]) T S4 hw hbj (by omega) (ev_bat T S4.rep hw hbj (ev_var rfl) (ev_var rfl) (ev_var rfl)) (ed_var (i := 3) rfl t4) fun H5 S5 x5 => ?_
      have t5 := t4.keep x5.tk
      have hw5 := setWk_at (w' := { wk with bats := wk.bats.set h (wk.bats[h] ++ [b]) }) hw
      have hbj5 : (wk.bats.set h (wk.bats[h] ++ [b]))[h]? = some (wk.bats[h] ++ [b]) := List.getElem?_set_self hj
      obtain ⟨zs, z1, z2⟩ := S5.rep.atBat hw5 hbj5
      have hzl : zs.length = wk.bats[h].length + 1 := by rw [z2.length, List.length_map, List.length_append] <;> rfl
      have hfb : freeBlock M D t z b = (if M.batch ≤ wk.bats[h].length + 1 then (D.setWk t { wk with bats := wk.bats.set h (wk.bats[h] ++ [b]) }).setWk t { wk with bats := wk.bats.set h (wk.bats[h] ++ [b]), ph := .send } else advance M (D.setWk t { wk with bats := wk.bats.set h (wk.bats[h] ++ [b]) }) t, .batch b) := by
        unfold freeBlock
        rw [eh, if_pos hz, wk_of hw, bat_of hbj]
        simp only [wk_of hw5]
      refine q_if (b := decide (M.batch ≤ wk.bats[h].length + 1)) (et_test (ev_is (ev_op (ev_len (ev_bat T S5.rep hw5 hbj5 (ev_var rfl) (ev_var rfl) (ev_var rfl)) (SqL.of z1)) (ed_owner (i := 4) (d := eN M.batch) T S5 (ev_var rfl) rfl).int rv_I0) (by
        congr 1
        rw [hzl]
        apply Bool.eq_iff_iff.mpr
        rw [decide_eq_true_iff, decide_eq_true_iff]
        omega))) (fun hb5 H6 e6 => ?_) fun hb5 H6 e6 => ?_
      · have S6 := S5.ex e6
        refine s_phase (p := .send) T S6 hw5 (ev_var rfl) ev_c fun H7 S7 x7 => ?_
        dsimp only
        refine s_retD (K := K) (d := eEv (.batch b)) (ed_tup (el_cons (ed_str ev_c) (el_cons (ed_var (i := 3) rfl ((t5.ex e6).keep x7.tk)) el_nil)) ble) fun v2 H8 e8 t8 => ?_
        exact k v2 H8 loc ((S7.ex e8).is_ (by rw [hfb, if_pos (of_decide_eq_true hb5)])) ((((((((Ext.of_ex e1).ex e2).ex e3).ex e4).trans x5).ex e6).trans x7).ex e8) (by rw [hfb]; exact t8)
      · have S6 := S5.ex e6
        refine e_thr S6 (ev_var rfl) (fun _ _ => no_Stepper_advance) (ev_var rfl) (F1.pT hw5 A1.thl (by rw [List.length_set]; exact wb.2.2.1)) fun H7 l7 S7 x7 => ?_
        refine s_retD (K := K) (d := eEv (.batch b)) (ed_tup (el_cons (ed_str ev_c) (el_cons (ed_var (i := 3) rfl ((t5.ex e6).keep x7.tk)) el_nil)) ble) fun v2 H8 e8 t8 => ?_
        exact k v2 H8 l7 ((S7.ex e8).is_ (by rw [hfb, if_neg (of_decide_eq_false hb5)])) ((((((((Ext.of_ex e1).ex e2).ex e3).ex e4).trans x5).ex e6).trans x7).ex e8) (by rw [hfb]; exact t8)
    · have hz : h = z := by
        by_cases q : h = z
        · exact q
        · rw [decide_eq_false q] at hb
          cases hb
      have S4 := S3.ex e4
      have t4 := t3.ex e4
      obtain ⟨ys, y1, y2⟩ := S4.rep.atCache hw
      have hyl : ys.length = wk.cache.length := by rw [y2.length, List.length_map]
      have x04 := (((Ext.of_ex (l := loc) e1).ex e2).ex e3).ex e4
      refine q_if (b := decide (wk.cache.length < M.batch)) (et_test (ev_is (ev_op (ev_len (ev_cache T S4.rep hw (ev_var rfl) (ev_var rfl)) (SqL.of y1)) (ed_owner (i := 4) (d := eN M.batch) T S4 (ev_var rfl) rfl).int rv_I0) (by
        congr 1
        rw [hyl]
        apply Bool.eq_iff_iff.mpr
        rw [decide_eq_true_iff, decide_eq_true_iff]
        omega))) (fun hb5 H5 e5 => ?_) fun hb5 H5 e5 => ?_
      · have S5 := S4.ex e5
        have hfb : freeBlock M D t z b = (advance M (D.setWk t { wk with cache := wk.cache ++ [b] }) t, .keep b) := by
          unfold freeBlock
          rw [eh, if_neg (fun q => q hz), wk_of hw, if_pos (of_decide_eq_true hb5)]
        refine q_appCache (b := b) T S5 hw (by have := wb.2.1; omega) (ev_cache T S5.rep hw (ev_var rfl) (ev_var rfl)) (ed_var (i := 3) rfl (t4.ex e5)) fun H6 S6 x6 => ?_
        have t6 := (t4.ex e5).keep x6.tk
        refine s_asgD (K := K) (d := eEv (.keep b)) (ed_tup (el_cons (ed_str ev_c) (el_cons (ed_var (i := 3) rfl t6) el_nil)) ble) fun v7 H7 e7 t7 => ?_
        dsimp only
        refine e_drop (e_thr (S6.ex e7) (ev_var rfl) (fun _ _ => no_Stepper_advance) (ev_var rfl) (F1.pT (w' := { wk with cache := wk.cache ++ [b] }) (setWk_at hw) A1.thl wb.2.2.1) fun H8 l8 S8 x8 => ?_)
        refine s_retD (ed_var rfl (t7.keep x8.tk)) fun v2 H9 e9 t9 => ?_
        exact k v2 H9 l8 ((S8.ex e9).is_ (by rw [hfb])) (((((x04.ex e5).trans x6).ex e7).trans x8).ex e9) (by rw [hfb]; exact t9)
      · have S5 := S4.ex e5
        have hfb : freeBlock M D t z b = (advance M (putHome M D b) t, .home b) := by
          unfold freeBlock
          rw [eh, if_neg (fun q => q hz), wk_of hw, if_neg (of_decide_eq_false hb5)]
        refine e_drop (e_putHome (b := b) (h := h) (f := f) S5 (ev_var rfl) (ed_var (i := 3) rfl (t4.ex e5)) hP hp (by omega) (by have := F1.size; omega) fun H6 l6 S6 x6 => ?_)
        have t6 := (t4.ex e5).keep x6.tk
        refine s_asgD (K := K) (d := eEv (.home b)) (ed_tup (el_cons (ed_str ev_c) (el_cons (ed_var (i := 3) rfl t6) el_nil)) ble) fun v7 H7 e7 t7 => ?_
        dsimp only
        refine e_drop (e_thr (S6.ex e7) (ev_var rfl) (fun _ _ => no_Stepper_advance) (ev_var rfl) (F1.pT (w' := wk) (by rw [putHome_wks]; exact hw) A1.thl wb.2.2.1) fun H8 l8 S8 x8 => ?_)
        refine s_retD (ed_var rfl (t7.keep x8.tk)) fun v2 H9 e9 t9 => ?_
        exact k v2 H9 l8 ((S8.ex e9).is_ (by rw [hfb])) (((((x04.ex e5).trans x6).ex e7).trans x8).ex e9) (by rw [hfb]; exact t9)

end
end Rp
set_option Elab.async false
set_option linter.all false
set_option maxRecDepth 100000
set_option maxHeartbeats 4000000
set_option autoImplicit false
namespace Rp
open PySem PySem.Spec PyProof.Rows L2 Mx Evl Hf
section
variable {P : Program} {w : World} {K : Frg} {mg : Str → Option Value} {base : Heap}
theorem ok_Stepper_send (T : Txt K mg w) (F : FnD K d_Stepper_send) (G_Machine_batch : Ok P w K mg base 1 (pg K "Machine" "batch") ["self"] (spSet K 4)) (G_Stepper_advance : Ok P w K mg base 4 (He.ma K (He.ga K "Stepper") "advance") ["self", "thread"] (spAdvance K)) : Ok P w K mg base 5 (He.ma K (He.ga K "Stepper") "send") ["self", "thread"] (spSend K) := by
  have sc : FnScope ["self", "thread", "worker", "home", "row", "kind", "batch"] ["self", "thread"] (defScope s_Stepper_send) := ⟨rfl, rfl, rfl, by decide +kernel, rfl, by decide +kernel, by decide +kernel⟩
  let nm : List Str := ["self", "thread", "worker", "home", "row", "kind", "batch"]
  refine ok_of F rfl rfl sc (fun _ _ _ _ _ _ us hl => match us, hl with | [_, _], _ => rfl) (fun vs H Q E h => ?_) (fun cdv A outer s H vs Q E hr h => ?_)
  · obtain ⟨s, M, loc, D, t, z, x, rfl, _⟩ := h
    rfl
  · obtain ⟨s, M, loc, D, t, z, x, rfl, S0, ⟨wk, A1, j, hf⟩, k⟩ := h
    dsimp only at k
    refine ⟨_, (pss_cons (ps_set (i := 2) sc.nd rfl (by first | exact Or.inl rfl | exact Or.inr rfl) (pe_ix ix_list (pe_fld (pe_fld (pv 0) rfl) rfl) (pv 1) (fun _ _ => rfl))) (pss_cons (ps_for PassesOwn.never rfl (pi_enum (by rfl) T.free_enumerate (pa_cons (pe_callTy Ru.cr_list (by rfl) T.free_list (by decide +kernel) (pa_cons (pe_fld (pv 2) rfl) pa_nil)) pa_nil)) (pg_tup rfl (pgs_cons (pg_name (i := 3) sc.nd rfl (by first | exact Or.inl rfl | exact Or.inr rfl)) (pgs_cons (pg_name (i := 4) sc.nd rfl (by first | exact Or.inl rfl | exact Or.inr rfl)) pgs_nil))) (pss_one (ps_for PassesOwn.never rfl (pi_enum (by rfl) T.free_enumerate (pa_cons (pe_callTy Ru.cr_list (by rfl) T.free_list (by decide +kernel) (pa_cons (pv 4) pa_nil)) pa_nil)) (pg_tup rfl (pgs_cons (pg_name (i := 5) sc.nd rfl (by first | exact Or.inl rfl | exact Or.inr rfl)) (pgs_cons (pg_name (i := 6) sc.nd rfl (by first | exact Or.inl rfl | exact Or.inr rfl)) pgs_nil))) (pss_one (ps_if (pt_cmpR op_ge (pe_callB Ru.cr_len (by rfl) T.free_len PySem.boot_len (pa_cons (pv 6) pa_nil)) (pe_propO (pe_fld (pv 0) rfl) T.cls_Machine T.prop_Machine_batch G_Machine_batch (hr.mono (by decide)) rfl) (nomark _)) (pss_cons (ps_asg (pe_lst pa_nil) (pg_sub (pv 4) (pv 5) set_list)) (pss_cons (ps_expr (pe_bm PySem.F.plainAttrs_list PySem.F.slot_list_append PySem.F.type_list_append mt_append (pe_fld (pe_fld (pv 0) rfl) rfl) (pa_cons (pe_tup (pa_cons (pv 3) (pa_cons (pe_callTy Ru.cr_tup (by rfl) T.free_tuple (by decide +kernel) (pa_cons (pv 6) pa_nil)) pa_nil))) pa_nil))) (pss_cons (ps_expr (pe_methO (pv 0) T.cls_Stepper T.meth_Stepper_advance G_Stepper_advance (hr.mono (by decide)) (pa_cons (pv 1) pa_nil))) (pss_one (ps_ret (pe_tup (pa_cons pe_str (pa_cons (pv 3) (pa_cons (pe_callB Ru.cr_len (by rfl) T.free_len PySem.boot_len (pa_cons (pv 6) pa_nil)) pa_nil))))))))) pss_nil))))) (pss_one (ps_ret pe_non)))), ?_⟩
    have hw := A1.wk
    have F1 := A1.fit
    refine q_asg (ev_worker T S0 (ev_var rfl) (ev_var rfl) hw) fun H0 e0 => ?_
    have S := S0.ex e0
    have wb := F1.wk t wk hw
    obtain ⟨l, hj, hlp, hbefore⟩ := firstBat_at hf
    have hjl := (List.getElem?_eq_some_iff.mp hj).1
    have hrow : ∀ {i : Nat} {v : V}, (((List.range wk.bats.length).map fun j => loc (.row t j)).map V.ref)[i]? = some v → i < wk.bats.length ∧ v = .ref (loc (.row t i)) := fun {i v} h => by
      have hi : i < wk.bats.length := by
        have := (List.getElem?_eq_some_iff.mp h).1
        rw [List.length_map, List.length_map, List.length_range] at this
        exact this
      rw [List.getElem?_map, range_at hi] at h
      cases h
      exact ⟨hi, rfl⟩
    let P : Nat → L2.St → Prop := fun i σ' => i ≤ j ∧ σ'.length = 7 ∧ σ'[0]? = some (some (.ref s)) ∧ σ'[1]? = some (some (.int (t : Nat)))
    refine s_forEx (E := ⟨_, _, _, _⟩) rfl (el_list (ev_batches T S.rep hw (ev_var rfl)) (SqL.of (S.rep.atBats hw))) P ⟨Nat.zero_le _, rfl, rfl, rfl⟩ (fun i x σ' H' e hx q N hN => ?_) fun σ' H' q e => ?_
    · obtain ⟨q1, q2, q3, q4⟩ := q
      obtain ⟨hi, rfl⟩ := hrow hx
      have hbi := List.getElem?_eq_getElem hi
      have v0 : ((σ'.set 3 (some (.int (i : Nat)))).set 4 (some (.ref (loc (.row t i)))))[0]? = some (some (.ref s)) := st_keep q3 (by decide) (by decide)
      have v1 : ((σ'.set 3 (some (.int (i : Nat)))).set 4 (some (.ref (loc (.row t i)))))[1]? = some (some (.int (t : Nat))) := st_keep q4 (by decide) (by decide)
      have v2 : ((σ'.set 3 (some (.int (i : Nat)))).set 4 (some (.ref (loc (.row t i)))))[3]? = some (some (.int (i : Nat))) := st_1 q2 (by decide) (by decide)
      have v3 : ((σ'.set 3 (some (.int (i : Nat)))).set 4 (some (.ref (loc (.row t i)))))[4]? = some (some (.ref (loc (.row t i)))) := st_2 q2 (by decide)
      have vl : ((σ'.set 3 (some (.int (i : Nat)))).set 4 (some (.ref (loc (.row t i))))).length = 7 := st_len q2
      generalize ((σ'.set 3 (some (.int (i : Nat)))).set 4 (some (.ref (loc (.row t i))))) = σ1 at v0 v1 v2 v3 vl ⊢
      have S1 := S.ex e
      let P2 : Nat → L2.St → Prop := fun i2 σ2 => (0 < i2 → i < j) ∧ σ2.length = 7 ∧ σ2[0]? = some (some (.ref s)) ∧ σ2[1]? = some (some (.int (t : Nat))) ∧ σ2[3]? = some (some (.int (i : Nat))) ∧ σ2[4]? = some (some (.ref (loc (.row t i))))
      refine s_forEx (E := ⟨_, _, _, _⟩) rfl (el_list (ev_var v3) (SqL.of (S1.rep.atRow hw hbi))) P2 ⟨fun h => absurd h (by decide), vl, v0, v1, v2, v3⟩ (fun i2 x σ2 H2 e2 hx2 q N2 hN2 => ?_) fun σ2 H2 q e2 => ?_
      · obtain ⟨r1, r2, r3, r4, r5, r6⟩ := q
        have h0 : i2 = 0 := by
          have := (List.getElem?_eq_some_iff.mp hx2).1
          simp at this
          exact this
        subst h0
        cases hx2
        have u0 : ((σ2.set 5 (some (.int ((0 : Nat) : Int)))).set 6 (some (.ref (loc (.bat t i)))))[0]? = some (some (.ref s)) := st_keep r3 (by decide) (by decide)
        have u1 : ((σ2.set 5 (some (.int ((0 : Nat) : Int)))).set 6 (some (.ref (loc (.bat t i)))))[1]? = some (some (.int (t : Nat))) := st_keep r4 (by decide) (by decide)
        have u2 : ((σ2.set 5 (some (.int ((0 : Nat) : Int)))).set 6 (some (.ref (loc (.bat t i)))))[3]? = some (some (.int (i : Nat))) := st_keep r5 (by decide) (by decide)
        have u3 : ((σ2.set 5 (some (.int ((0 : Nat) : Int)))).set 6 (some (.ref (loc (.bat t i)))))[4]? = some (some (.ref (loc (.row t i)))) := st_keep r6 (by decide) (by decide)
        have u4 : ((σ2.set 5 (some (.int ((0 : Nat) : Int)))).set 6 (some (.ref (loc (.bat t i)))))[5]? = some (some (.int ((0 : Nat) : Int))) := st_1 r2 (by decide) (by decide)
        have u5 : ((σ2.set 5 (some (.int ((0 : Nat) : Int)))).set 6 (some (.ref (loc (.bat t i)))))[6]? = some (some (.ref (loc (.bat t i)))) := st_2 r2 (by decide)
        have ul : ((σ2.set 5 (some (.int ((0 : Nat) : Int)))).set 6 (some (.ref (loc (.bat t i))))).length = 7 := st_len r2
        generalize ((σ2.set 5 (some (.int ((0 : Nat) : Int)))).set 6 (some (.ref (loc (.bat t i))))) = σ3 at u0 u1 u2 u3 u4 u5 ul ⊢
        have S2 := S1.ex e2
        obtain ⟨zs, z1, z2⟩ := S2.rep.atBat hw hbi
        have hzl : zs.length = wk.bats[i].length := by rw [z2.length, List.length_map]
        refine s_when (b := decide (M.batch ≤ wk.bats[i].length)) (et_test (ev_is (ev_op (ev_len (ev_var u5) (SqL.of z1)) (ed_owner (i := 4) (d := eN M.batch) T S2 (ev_var u0) rfl).int rv_I0) (by
          congr 1
          rw [hzl]
          apply Bool.eq_iff_iff.mpr
          rw [decide_eq_true_iff, decide_eq_true_iff]
          omega))) (fun hb H3 e3 => ?_) fun hb H3 e3 => ?_
        · have hij : i = j := by
            by_cases hlt : i < j
            · have := hbefore i _ hlt hbi
              rw [this] at hb
              cases hb
            · omega
          subst hij
          rw [hbi] at hj
          cases hj
          have S3 := S2.ex e3
          have z3 := e3 _ _ z1
          refine q_row0 S3 hw hbi (fun _ => ev_var u3) (fun _ => ev_var u4) fun H4 l4 S4 x4 hold hl4 => ?_
          have z4 := hold _ z3
          have zt4 := (z2.ex e3).keep x4.tk
          have S5 := S4
          have z5 := z4
          refine q_flight (hm := i) (l := wk.bats[i]) T S5 (ed_tup (el_cons (ed_int (ev_var u2)) (el_cons (ed_tupL (ev_var u5) z5 zt4) el_nil)) ble) (ev_var u0) (by have := F1.fl; show D.fl.length < _; omega) fun H6 S6 x6 => ?_
          have z6 := x6.fr _ _ z5 hl4
          have hlen : (zs.length : Int) = (wk.bats[i].length : Nat) := by
            have := z2.length
            rw [List.length_map] at this
            rw [this]
          have hw6 : ((D.setWk t { wk with bats := wk.bats.set i [] }).addFl i wk.bats[i]).wks[t]? = some { wk with bats := wk.bats.set i [] } := setWk_at hw
          refine e_drop (e_thr S6 (ev_var u0) (fun _ _ => no_Stepper_advance) (ev_var u1) (F1.pT hw6 A1.thl (by rw [List.length_set]; exact wb.2.2.1)) fun H7 l7 S7 x7 => ?_)
          have hl6 : ∀ r, l4 r ≠ loc (.bat t i) := hl4
          have z7 := x7.fr _ _ z6 hl6
          have ea : sendFull M D t = (advance M ((D.setWk t { wk with bats := wk.bats.set i [] }).addFl i wk.bats[i]) t, .send i wk.bats[i].length) := by
            unfold sendFull sendBat
            rw [wk_of hw, hf]
            show (_, _) = _
            rw [bat_of hbi]
          refine s_retD (K := K) (d := eEv (.send i wk.bats[i].length)) (ed_tup (el_cons (ed_str ev_c) (el_cons (ed_int (ev_var u2)) (el_cons (ed_int (ev_is (ev_len (ev_var u5) (SqL.of z7)) (congrArg V.int hlen))) el_nil))) ble) fun v2 H8 e8 t8 => ?_
          exact k v2 H8 l7 ((S7.ex e8).is_ (by rw [ea])) (((((((((Ext.of_ex e0).ex e).ex e2).ex e3).trans x4).trans x6).trans x7).ex e8)) (by rw [ea]; exact t8)
        · refine hN2 _ _ ⟨fun _ => ?_, ul, u0, u1, u2, u3⟩ e3
          by_cases hij : i = j
          · subst hij
            rw [hbi] at hj
            cases hj
            rw [hlp] at hb
            cases hb
          · omega
      · obtain ⟨r1, r2, r3, r4, r5, r6⟩ := q
        exact hN _ _ ⟨r1 (by show 0 < 1; decide), r2, r3, r4⟩ e2
    · exfalso
      have := q.1
      rw [List.length_map, List.length_map, List.length_range] at this
      omega

end
end Rp
set_option Elab.async false
set_option linter.all false
set_option maxRecDepth 100000
set_option maxHeartbeats 4000000
set_option autoImplicit false
namespace Rp
open PySem PySem.Spec PyProof.Rows L2 Mx Evl Hf
section
variable {P : Program} {w : World} {K : Frg} {mg : Str → Option Value} {base : Heap}
theorem ok_Stepper_free (T : Txt K mg w) (F : FnD K d_Stepper_free) (G_Stepper_advance : Ok P w K mg base 4 (He.ma K (He.ga K "Stepper") "advance") ["self", "thread"] (spAdvance K)) (G_Stepper_free_block : Ok P w K mg base 5 (He.ma K (He.ga K "Stepper") "free_block") ["self", "thread", "socket", "block"] (spFreeBlock K)) (G_Stepper_send : Ok P w K mg base 5 (He.ma K (He.ga K "Stepper") "send") ["self", "thread"] (spSend K)) : Ok P w K mg base 6 (He.ma K (He.ga K "Stepper") "free") ["self", "thread", "socket", "slot"] (spFree K) := by
  have sc : FnScope ["self", "thread", "socket", "slot", "worker", "content", "page"] ["self", "thread", "socket", "slot"] (defScope s_Stepper_free) := ⟨rfl, rfl, rfl, by decide +kernel, rfl, by decide +kernel, by decide +kernel⟩
  let nm : List Str := ["self", "thread", "socket", "slot", "worker", "content", "page"]
  refine ok_of F rfl rfl sc (fun _ _ _ _ _ _ us hl => match us, hl with | [_, _, _, _], _ => rfl) (fun vs H Q E h => ?_) (fun cdv A outer s H vs Q E hr h => ?_)
  · obtain ⟨s, M, loc, D, t, z, x, rfl, _⟩ := h
    rfl
  · obtain ⟨s, M, loc, D, t, z, x, rfl, S, ⟨wk, A1, hx, hsd, hsl⟩, k⟩ := h
    dsimp only at k
    refine ⟨_, (pss_cons (ps_set (i := 4) sc.nd rfl (by first | exact Or.inl rfl | exact Or.inr rfl) (pe_ix ix_list (pe_fld (pe_fld (pv 0) rfl) rfl) (pv 1) (fun _ _ => rfl))) (pss_cons (ps_if (pt_cmpR op_eq (pe_fld (pv 4) rfl) pe_str (nomark _)) (pss_one (ps_ret (pe_methO (pv 0) T.cls_Stepper T.meth_Stepper_send G_Stepper_send (hr.mono (by decide)) (pa_cons (pv 1) pa_nil)))) pss_nil) (pss_cons (ps_set (i := 5) sc.nd rfl (by first | exact Or.inl rfl | exact Or.inr rfl) (pe_ix ix_list (pe_fld (pe_fld (pv 0) rfl) rfl) (pv 3) (fun _ _ => rfl))) (pss_cons (ps_asg pe_non (pg_sub (pe_fld (pe_fld (pv 0) rfl) rfl) (pv 3) set_list)) (pss_cons (ps_if (pt_cmpR (op_eqD hr.units) (pv 5) (pe_glob (v := .ref _) (by rfl) T.glo_FAILURE rfl) (nomark _)) (pss_cons (ps_expr (pe_methO (pv 0) T.cls_Stepper T.meth_Stepper_advance G_Stepper_advance (hr.mono (by decide)) (pa_cons (pv 1) pa_nil))) (pss_one (ps_ret (pe_tup (pa_cons pe_str pa_nil))))) pss_nil) (pss_cons (ps_if (pt_cmpR op_eq (pe_ix ix_tup (pv 5) pe_int (fun _ _ => rfl)) pe_str (nomark _)) (pss_cons ps_never (pss_cons (ps_expr (pe_methO (pv 0) T.cls_Stepper T.meth_Stepper_advance G_Stepper_advance (hr.mono (by decide)) (pa_cons (pv 1) pa_nil))) (pss_one ps_never))) pss_nil) (pss_one (ps_ret (pe_methO (pv 0) T.cls_Stepper T.meth_Stepper_free_block G_Stepper_free_block (hr.mono (by decide)) (pa_cons (pv 1) (pa_cons (pv 2) (pa_cons (pe_tup (pa_cons (pe_ix ix_tup (pv 5) pe_int (fun _ _ => rfl)) (pa_cons (pe_ix ix_tup (pv 5) pe_int (fun _ _ => rfl)) pa_nil))) pa_nil)))))))))))), ?_⟩
    have hw := A1.wk
    have F1 := A1.fit
    have wb := F1.wk t wk hw
    refine q_asg (ev_worker T S (ev_var rfl) (ev_var rfl) hw) fun H1 e1 => ?_
    have S1 := S.ex e1
    refine q_when (et_test (ev_isPh .send (ev_phase T S1.rep hw (ev_var rfl)))) (fun hb H2 e2 => ?_) fun hb H2 e2 => ?_
    · have hp := of_decide_eq_true hb
      have ea : freeOp M D t z x = sendFull M D t := by
        unfold freeOp
        rw [wk_of hw, if_pos hp]
      refine e_ev t z 0 (S1.ex e2) (ev_var rfl) (fun _ _ => no_Stepper_send) (el_cons (ed_int (ev_var rfl)) el_nil) ⟨wk, A1, hsd hp⟩ fun v H4 l4 S4 x4 t4 => ?_
      exact k v H4 l4 (S4.is_ (by rw [ea])) (((Ext.of_ex e1).ex e2).trans x4) (by rw [ea]; exact t4)
    · have hp := of_decide_eq_false hb
      have S2 := S1.ex e2
      have hxs : x < D.slots.length := by rw [F1.sl]; exact hx
      have hs0 := List.getElem?_eq_getElem hxs
      have hnn := hsl hp
      rw [sl_of hs0] at hnn
      generalize hX : D.slots[x] = X at hs0 hnn
      refine q_asgD (ed_slot T S2 (ev_var rfl) (ev_var rfl) hs0) fun v H3 e3 t3 => ?_
      have S3 := S2.ex e3
      refine q_setSlot (x := .non) (p := x) T S3 ed_non (ev_var rfl) (ev_var rfl) hxs fun H4 S4 x4 => ?_
      have t4 := t3.keep x4.tk
      refine q_when (et_test (ev_eqD (ed_var (i := 5) rfl t4) (ed_failure T) (sm_sl X).shp (sm_sl .fail).shp)) (fun hb H5 e5 => ?_) fun hb H5 e5 => ?_
      · rw [eqv_fail X hnn] at hb
        have hX2 := of_decide_eq_true hb
        have ea : freeOp M D t z x = (advance M (D.setSl x .non) t, .nothing) := by
          unfold freeOp
          rw [wk_of hw, if_neg hp, sl_of hs0, hX2]
        refine e_drop (e_thr (S4.ex e5) (ev_var rfl) (fun _ _ => no_Stepper_advance) (ev_var rfl) (F1.pT (w' := wk) hw A1.thl wb.2.2.1) fun H6 l6 S6 x6 => ?_)
        refine s_retD (K := K) (d := eEv .nothing) (ed_tup (el_cons (ed_str ev_c) el_nil) ble) fun v2 H7 e7 t7 => ?_
        exact k v2 H7 l6 ((S6.ex e7).is_ (by rw [ea])) (((((((Ext.of_ex e1).ex e2).ex e3).trans x4).ex e5).trans x6).ex e7) (by rw [ea]; exact t7)
      · rw [eqv_fail X hnn] at hb
        have hX2 := of_decide_eq_false hb
        cases X with
        | non => exact absurd rfl hnn
        | fail => exact absurd rfl hX2
        | blk b =>
          have S5 := S4.ex e5
          have t5 := t4.ex e5
          refine q_when (et_test (ev_noStr (x := "block") (ed_ixT (j := 0) (d := .str "block") (ed_var (i := 5) rfl t5) ev_c rfl rfl).str (by decide +kernel))) (fun hb => nomatch hb) fun _ H6 e6 => ?_
          have S6 := S5.ex e6
          have t6 := t5.ex e6
          have ea : freeOp M D t z x = freeBlock M (D.setSl x .non) t z b := by
            unfold freeOp
            rw [wk_of hw, if_neg hp, sl_of hs0]
          refine e_freeBlock (D0 := D) (b := b) (z := z) (wk := wk) S6 (ev_var rfl) (ev_var rfl) (ev_var rfl) (ed_tup (el_cons (ed_ixT (j := 1) (d := eN b.1) (ed_var (i := 5) rfl t6) ev_c rfl rfl) (el_cons (ed_ixT (j := 2) (d := eN b.2) (ed_var (i := 5) rfl t6) ev_c rfl rfl) el_nil)) ble) A1 rfl rfl rfl (F1.sm b (out_slot hs0)) fun v2 H7 l7 S7 x7 t7 => ?_
          exact k v2 H7 l7 (S7.is_ (by rw [ea])) (((((((Ext.of_ex e1).ex e2).ex e3).trans x4).ex e5).ex e6).trans x7) (by rw [ea]; exact t7)

end
end Rp
set_option Elab.async false
set_option linter.all false
set_option maxRecDepth 100000
set_option maxHeartbeats 4000000
set_option autoImplicit false
namespace Rp
open PySem PySem.Spec PyProof.Rows L2 Mx Evl Hf
section
variable {P : Program} {w : World} {K : Frg} {mg : Str → Option Value} {base : Heap}
theorem ok_Stepper_step (T : Txt K mg w) (F : FnD K d_Stepper_step) (G_Machine_threads : Ok P w K mg base 1 (pg K "Machine" "threads") ["self"] (spSet K 2)) (G_Stepper_adopt : Ok P w K mg base 5 (He.ma K (He.ga K "Stepper") "adopt") ["self", "thread", "socket", "slot"] (spAdopt K)) (G_Stepper_allocate : Ok P w K mg base 7 (He.ma K (He.ga K "Stepper") "allocate") ["self", "thread", "socket", "kind", "slot"] (spAllocate K)) (G_Stepper_drain : Ok P w K mg base 5 (He.ma K (He.ga K "Stepper") "drain") ["self", "thread", "socket"] (spDrain K)) (G_Stepper_flush : Ok P w K mg base 5 (He.ma K (He.ga K "Stepper") "flush") ["self", "thread", "socket"] (spFlush K)) (G_Stepper_free : Ok P w K mg base 6 (He.ma K (He.ga K "Stepper") "free") ["self", "thread", "socket", "slot"] (spFree K)) : Ok P w K mg base 8 (He.ma K (He.ga K "Stepper") "step") ["self", "thread"] (spStep K) := by
  have sc : FnScope ["self", "thread", "worker", "socket", "program", "word", "numbers"] ["self", "thread"] (defScope s_Stepper_step) := ⟨rfl, rfl, rfl, by decide +kernel, rfl, by decide +kernel, by decide +kernel⟩
  let nm : List Str := ["self", "thread", "worker", "socket", "program", "word", "numbers"]
  refine ok_of F rfl rfl sc (fun _ _ _ _ _ _ us hl => match us, hl with | [_, _], _ => rfl) (fun vs H Q E h => ?_) (fun cdv A outer s H vs Q E hr h => ?_)
  · obtain ⟨s, M, loc, D, t, z, x, rfl, _⟩ := h
    rfl
  · obtain ⟨s, M, loc, D, t, z', x, rfl, S, ⟨F1, wk, ops, z, hw, hth, hpc, c1, c2, c3, c4, c5⟩, k⟩ := h
    dsimp only at k
    refine ⟨_, (pss_cons (ps_set (i := 2) sc.nd rfl (by first | exact Or.inl rfl | exact Or.inr rfl) (pe_ix ix_list (pe_fld (pe_fld (pv 0) rfl) rfl) (pv 1) (fun _ _ => rfl))) (pss_cons (ps_asg (pe_ix ix_tup (pe_propO (pe_fld (pv 0) rfl) T.cls_Machine T.prop_Machine_threads G_Machine_threads (hr.mono (by decide)) rfl) (pv 1) (fun _ _ => rfl)) (pg_tup rfl (pgs_cons (pg_name (i := 3) sc.nd rfl (by first | exact Or.inl rfl | exact Or.inr rfl)) (pgs_cons (pg_name (i := 4) sc.nd rfl (by first | exact Or.inl rfl | exact Or.inr rfl)) pgs_nil)))) (pss_cons (ps_if (pt_cmpR op_eq (pe_fld (pv 2) rfl) (pe_callB Ru.cr_len (by rfl) T.free_len PySem.boot_len (pa_cons (pv 4) pa_nil)) (nomark _)) (pss_one (ps_ret (pe_methO (pv 0) T.cls_Stepper T.meth_Stepper_flush G_Stepper_flush (hr.mono (by decide)) (pa_cons (pv 1) (pa_cons (pv 3) pa_nil))))) pss_nil) (pss_cons (ps_asg (pe_ix ix_tup (pv 4) (pe_fld (pv 2) rfl) (fun _ _ => rfl)) (Ru.pg_star (i := 5) (j := 6) rfl sc.nd rfl rfl (by first | exact Or.inl rfl | exact Or.inr rfl) (by first | exact Or.inl rfl | exact Or.inr rfl))) (pss_cons (Ru.ps_match (pv 5) (Ru.pm_val (pss_one (ps_ret (pe_methO (pv 0) T.cls_Stepper T.meth_Stepper_allocate G_Stepper_allocate (hr.mono (by decide)) (pa_cons (pv 1) (pa_cons (pv 3) (pa_cons (pe_ix ix_list (pv 6) pe_int (fun _ _ => rfl)) (pa_cons (pe_ix ix_list (pv 6) pe_int (fun _ _ => rfl)) pa_nil))))))) (Ru.pm_val (pss_one (ps_ret (pe_methO (pv 0) T.cls_Stepper T.meth_Stepper_free G_Stepper_free (hr.mono (by decide)) (pa_cons (pv 1) (pa_cons (pv 3) (pa_cons (pe_ix ix_list (pv 6) pe_int (fun _ _ => rfl)) pa_nil)))))) (Ru.pm_val (pss_one (ps_ret (pe_methO (pv 0) T.cls_Stepper T.meth_Stepper_adopt G_Stepper_adopt (hr.mono (by decide)) (pa_cons (pv 1) (pa_cons (pv 3) (pa_cons (pe_ix ix_list (pv 6) pe_int (fun _ _ => rfl)) pa_nil)))))) (Ru.pm_val (pss_one ps_never) (Ru.pm_val (pss_one ps_never) Ru.pm_nil)))))) (pss_one (ps_ret (pe_methO (pv 0) T.cls_Stepper T.meth_Stepper_drain G_Stepper_drain (hr.mono (by decide)) (pa_cons (pv 1) (pa_cons (pv 3) pa_nil)))))))))), ?_⟩
    have A1 : At M D t z wk := ⟨F1, hw, ops, hth⟩
    have hst : stepT M D t = match ops[wk.pc]? with
        | none => flush M D t z
        | some (.alloc s) => allocate M D t z s
        | some (.free s) => freeOp M D t z s
        | some (.adopt s) => adopt M D t z s
        | some .drain => drain M D t z := by
      unfold stepT
      rw [prog_of hth, sock_of hth, wk_of hw] <;> rfl
    refine q_asg (ev_worker T S (ev_var rfl) (ev_var rfl) hw) fun H1 e1 => ?_
    have S1 := S.ex e1
    refine q_asg2D rfl (ed_thread T S1 (ev_var rfl) (ev_var rfl) hth) fun v1 v2 H2 e2 t1 t2 => ?_
    obtain rfl := Td.int_iff.mp t1
    have S2 := S1.ex e2
    have elen := ev_lenD (K := K) (ed_var (σ := (((L2.start ["self", "thread", "worker", "socket", "program", "word", "numbers"] (V.ref s :: (a1 t z' x).map V.int)).set 2 (some (.ref (loc (.wk t))))).set 3 (some (.int (z : Nat)))).set 4 (some v2)) (i := 4) rfl t2)
    rw [List.length_map] at elen
    refine q_when (et_test (ev_eqN (ev_at T S2.rep hw (ev_var rfl)) elen)) (fun hb H3 e3 => ?_) fun hb H3 e3 => ?_
    · have hb2 := of_decide_eq_true hb
      have ho : ops[wk.pc]? = none := List.getElem?_eq_none (by omega)
      rw [ho] at hst
      refine e_ev t z 0 (S2.ex e3) (ev_var rfl) (fun _ _ => no_Stepper_flush) (el_cons (ed_int (ev_var rfl)) (el_cons (ed_int (ev_var rfl)) el_nil)) ⟨wk, A1, c1 hb2⟩ fun v H4 l4 S4 x4 t4 => ?_
      exact k v H4 l4 (S4.is_ (by rw [hst])) ((((Ext.of_ex e1).ex e2).ex e3).trans x4) (by rw [hst]; exact t4)
    · have hb2 := of_decide_eq_false hb
      have hlt : wk.pc < ops.length := by omega
      have ho := List.getElem?_eq_getElem hlt
      have hsl := (F1.prg t _ hth).2.2 _ (List.getElem_mem hlt)
      generalize ops[wk.pc] = o at ho hsl
      have S3 := S2.ex e3
      rw [ho] at hst
      refine q_star (o := o) (ed_ixT (j := wk.pc) (d := eOp o) (ed_var (i := 4) rfl (t2.ex e3)) (ev_at T S3.rep hw (ev_var rfl)) (ixN_of (by rw [List.length_map]; exact hlt)) (by rw [List.getElem?_map, ho] <;> rfl)) fun p H4 hp e4 h4 => ?_
      have S4 := S3.ex e4
      have x04 := (((Ext.of_ex (l := loc) e1).ex e2).ex e3).ex e4
      refine (ev_var (v := .str (opW o)) rfl) H4 (Ex.refl _) _ fun H5 e5 => ?_
      have S5 := S4.ex e5
      have h5 := e5 _ _ h4
      cases o with
      | alloc q =>
        refine ⟨_, rfl, ?_⟩
        rw [if_pos (show opW (.alloc q) = ("alloc" : Str) from rfl)]
        refine e_ev t z q S5 (ev_var rfl) (fun _ _ => no_Stepper_allocate) (el_cons (ed_int (ev_var rfl)) (el_cons (ed_int (ev_var rfl)) (el_cons (ed_int (ev_ixL (j := 0) (v := .int 0) (ev_var rfl) (SqL.of h5) ev_c rfl)) (el_cons (ed_int (ev_ixL (j := 1) (v := .int (q : Nat)) (ev_var rfl) (SqL.of h5) ev_c rfl)) el_nil)))) ⟨wk, A1, hsl q (List.mem_singleton.mpr rfl)⟩ fun v H6 l6 S6 x6 t6 => ?_
        exact k v H6 l6 (S6.is_ (by rw [hst])) ((x04.ex e5).trans x6) (by rw [hst]; exact t6)
      | free q =>
        refine ⟨_, rfl, ?_⟩
        rw [if_neg (show ¬ (opW (.free q) = ("alloc" : Str)) from sne ("free" : Str) "alloc" (by decide +kernel))]
        refine ⟨_, rfl, ?_⟩
        rw [if_pos (show opW (.free q) = ("free" : Str) from rfl)]
        refine e_ev t z q S5 (ev_var rfl) (fun _ _ => no_Stepper_free) (el_cons (ed_int (ev_var rfl)) (el_cons (ed_int (ev_var rfl)) (el_cons (ed_int (ev_ixL (j := 0) (v := .int (q : Nat)) (ev_var rfl) (SqL.of h5) ev_c rfl)) el_nil))) ⟨wk, A1, hsl q (List.mem_singleton.mpr rfl), c3 q ho, c4 q ho⟩ fun v H6 l6 S6 x6 t6 => ?_
        exact k v H6 l6 (S6.is_ (by rw [hst])) ((x04.ex e5).trans x6) (by rw [hst]; exact t6)
      | adopt q =>
        refine ⟨_, rfl, ?_⟩
        rw [if_neg (show ¬ (opW (.adopt q) = ("alloc" : Str)) from sne ("adopt" : Str) "alloc" (by decide +kernel))]
        refine ⟨_, rfl, ?_⟩
        rw [if_neg (show ¬ (opW (.adopt q) = ("free" : Str)) from sne ("adopt" : Str) "free" (by decide +kernel))]
        refine ⟨_, rfl, ?_⟩
        rw [if_pos (show opW (.adopt q) = ("adopt" : Str) from rfl)]
        refine e_ev t z q S5 (ev_var rfl) (fun _ _ => no_Stepper_adopt) (el_cons (ed_int (ev_var rfl)) (el_cons (ed_int (ev_var rfl)) (el_cons (ed_int (ev_ixL (j := 0) (v := .int (q : Nat)) (ev_var rfl) (SqL.of h5) ev_c rfl)) el_nil))) ⟨wk, A1, hsl q (List.mem_singleton.mpr rfl), c5 q ho⟩ fun v H6 l6 S6 x6 t6 => ?_
        exact k v H6 l6 (S6.is_ (by rw [hst])) ((x04.ex e5).trans x6) (by rw [hst]; exact t6)
      | drain =>
        refine ⟨_, rfl, ?_⟩
        rw [if_neg (show ¬ (opW .drain = ("alloc" : Str)) from sne ("drain" : Str) "alloc" (by decide +kernel))]
        refine ⟨_, rfl, ?_⟩
        rw [if_neg (show ¬ (opW .drain = ("free" : Str)) from sne ("drain" : Str) "free" (by decide +kernel))]
        refine ⟨_, rfl, ?_⟩
        rw [if_neg (show ¬ (opW .drain = ("adopt" : Str)) from sne ("drain" : Str) "adopt" (by decide +kernel))]
        refine ⟨_, rfl, ?_⟩
        rw [if_neg (show ¬ (opW .drain = ("large" : Str)) from sne ("drain" : Str) "large" (by decide +kernel))]
        refine ⟨_, rfl, ?_⟩
        rw [if_neg (show ¬ (opW .drain = ("grow" : Str)) from sne ("drain" : Str) "grow" (by decide +kernel))]
        refine e_ev t z 0 S5 (ev_var rfl) (fun _ _ => no_Stepper_drain) (el_cons (ed_int (ev_var rfl)) (el_cons (ed_int (ev_var rfl)) el_nil)) ⟨wk, A1, c2 ho⟩ fun v H6 l6 S6 x6 t6 => ?_
        exact k v H6 l6 (S6.is_ (by rw [hst])) ((x04.ex e5).trans x6) (by rw [hst]; exact t6)

end
end Rp
set_option Elab.async false
set_option linter.all false
set_option maxRecDepth 100000
set_option maxHeartbeats 4000000
set_option autoImplicit false
namespace Rp
open PySem PySem.Spec PyProof.Rows L2 Mx Evl Hf
section
variable {P : Program} {w : World} {K : Frg} {mg : Str → Option Value} {base : Heap}
def swp (M : MC) (D : DS) (z : Nat) (l : List Blk) : DS := l.foldl (fun D b => (bring M D b z).1) D
theorem swp_take (M : MC) (D : DS) (z : Nat) (l : List Blk) (i : Nat) (b : Blk) (h : l[i]? = some b) : swp M D z (l.take (i + 1)) = (bring M (swp M D z (l.take i)) b z).1 := by
  unfold swp
  rw [List.take_add_one, h, List.foldl_append] <;> rfl
theorem bring_small {M : MC} {D : DS} {b : Blk} {z : Nat} {p : Nat} (n : Nat) (hn : ∀ h f, D.pages[p]? = some (.small h f) → f.length ≤ n) : ∀ h f, (bring M D b z).1.pages[p]? = some (.small h f) → f.length ≤ n + 1 := by
  intro h f hp
  unfold bring at hp
  split at hp
  · unfold putHome at hp
    cases hb : D.pg b.1 with
    | store => rw [hb] at hp; have := hn h f hp; omega
    | small h' f' =>
      rw [hb] at hp
      by_cases e : b.1 = p
      · by_cases hl : p < D.pages.length
        · have e1 : (D.pages.set b.1 (if fullPg M (f' ++ [b.2]) = true then .store else .small h' (f' ++ [b.2])))[p]? = some (.small h f) := hp
          rw [e, List.getElem?_set_self hl] at e1
          have hd : D.pages[p]? = some (.small h' f') := by
            rw [← hb, ← e]
            unfold DS.pg
            rw [List.getD_eq_getElem?_getD, List.getElem?_eq_getElem (by rw [e]; exact hl)] <;> rfl
          have := hn h' f' hd
          by_cases hf : fullPg M (f' ++ [b.2]) = true
          · rw [if_pos hf] at e1; cases e1
          · rw [if_neg hf] at e1
            cases e1
            rw [List.length_append]
            show f'.length + 1 ≤ n + 1
            omega
        · have e1 : (D.pages.set b.1 (if fullPg M (f' ++ [b.2]) = true then .store else .small h' (f' ++ [b.2])))[p]? = some (.small h f) := hp
          rw [List.getElem?_eq_none (by rw [List.length_set]; omega)] at e1
          cases e1
      · have e1 : (D.pages.set b.1 (if fullPg M (f' ++ [b.2]) = true then .store else .small h' (f' ++ [b.2])))[p]? = some (.small h f) := hp
        rw [List.getElem?_set_ne e] at e1
        have := hn h f e1
        omega
  · have := hn h f hp
    omega
theorem ok_Stepper_sweep (T : Txt K mg w) (F : FnD K d_Stepper_sweep) (G_Stepper_bring : Ok P w K mg base 4 (He.ma K (He.ga K "Stepper") "bring") ["self", "block", "socket"] (spBring K)) : Ok P w K mg base 5 (He.ma K (He.ga K "Stepper") "sweep") ["self", "socket"] (spSweep K) := by
  have sc : FnScope ["self", "socket", "blocks", "block"] ["self", "socket"] (defScope s_Stepper_sweep) := ⟨rfl, rfl, rfl, by decide +kernel, rfl, by decide +kernel, by decide +kernel⟩
  let nm : List Str := ["self", "socket", "blocks", "block"]
  refine ok_of F rfl rfl sc (fun _ _ _ _ _ _ us hl => match us, hl with | [_, _], _ => rfl) (fun vs H Q E h => ?_) (fun cdv A outer s H vs Q E hr h => ?_)
  · obtain ⟨s, M, loc, D, t, z, x, rfl, _⟩ := h
    rfl
  · obtain ⟨s, M, loc, D, t, z, x, rfl, S, ⟨F1, hz', hsm⟩, k⟩ := h
    dsimp only at k
    refine ⟨_, (pss_cons (ps_set (i := 2) sc.nd rfl (by first | exact Or.inl rfl | exact Or.inr rfl) (pe_ix ix_list (pe_fld (pe_fld (pv 0) rfl) rfl) (pv 1) (fun _ _ => rfl))) (pss_cons (ps_asg (pe_lst pa_nil) (pg_sub (pe_fld (pe_fld (pv 0) rfl) rfl) (pv 1) set_list)) (pss_cons (ps_for PassesOwn.never rfl (pi_list (pv 2)) (pg_name (i := 3) sc.nd rfl (by first | exact Or.inl rfl | exact Or.inr rfl)) (pss_one (ps_expr (pe_methO (pv 0) T.cls_Stepper T.meth_Stepper_bring G_Stepper_bring (hr.mono (by decide)) (pa_cons (pv 3) (pa_cons (pv 1) pa_nil)))))) (pss_one (ps_ret (pe_tup (pa_cons pe_str (pa_cons (pe_callB Ru.cr_len (by rfl) T.free_len PySem.boot_len (pa_cons (pv 2) pa_nil)) pa_nil)))))))), ?_⟩
    have hz : t < D.arrs.length := by rw [F1.al]; exact hz'
    have hzl := List.getElem?_eq_getElem hz
    have hal := F1.ar _ (List.getElem_mem hz)
    refine q_asg (ev_arr (z := t) T S (ev_var rfl) (ev_var rfl) hz) fun H1 e1 => ?_
    have S1 := S.ex e1
    rw [arr_of hzl] at hsm
    obtain ⟨xs, w1, w2⟩ := S1.rep.atArr hzl
    have hxl : xs.length = D.arrs[t].length := by rw [w2.length, List.length_map]
    refine q_arr0 (z := t) T S1 (ev_var rfl) (ev_var rfl) hzl fun H2 l2 S2 x2 hold hl2 => ?_
    have o2 := hold _ w1
    have t2 := w2.keep x2.tk
    let Pv : Nat → L2.St → Hp → Prop := fun i σ' H' => ∃ l', Stp K H' s M l' (swp M (D.setArr t []) t (D.arrs[t].take i)) ∧ Ext H2 l2 H' l' ∧ σ'.length = 4 ∧ σ'[0]? = some (some (.ref s)) ∧ σ'[1]? = some (some (.int (t : Nat))) ∧ σ'[2]? = some (some (.ref (loc (.arr t))))
    have len_ : ∀ i, (swp M (D.setArr t []) t (D.arrs[t].take i)).pages.length = 4 ∧ (swp M (D.setArr t []) t (D.arrs[t].take i)).fl.length ≤ D.fl.length + i ∧ ∀ (p h : Nat) (f : List Nat), (swp M (D.setArr t []) t (D.arrs[t].take i)).pages[p]? = some (.small h f) → f.length ≤ 100 + i := by
      intro i
      induction i with
      | zero => exact ⟨F1.pg, Nat.le_refl _, fun p h f hp => (F1.fr p h f hp).1⟩
      | succ i ih =>
        cases hb : D.arrs[t][i]? with
        | none =>
          have : D.arrs[t].take (i + 1) = D.arrs[t].take i := by
            rw [List.take_add_one, hb]
            exact List.append_nil _
          rw [this]
          exact ⟨ih.1, by omega, fun p h f hp => by have := ih.2.2 p h f hp; omega⟩
        | some b =>
          rw [swp_take M _ t _ i b hb]
          exact ⟨(bring_len M _ b t).trans ih.1, by have := bring_fl M (swp M (D.setArr t []) t (D.arrs[t].take i)) b t; omega, fun p => bring_small _ (ih.2.2 p)⟩
    have o2' := o2
    refine q_forLn (ev_var rfl) (SqL.of o2) Pv (fun H3 e3 => ⟨l2, S2.ex e3, Ext.of_ex e3, rfl, rfl, rfl, rfl⟩) (fun i σ' H' _ q => ?_) (fun i v σ' H3 hv q => ?_) fun σ' H3 q => ?_
    · obtain ⟨l', q1, q2, _⟩ := q
      exact SqL.of (q2.fr _ _ o2 hl2)
    · obtain ⟨l', q1, q2, q3, q4, q5, q6⟩ := q
      obtain ⟨d, hd, td⟩ := t2.get' hv
      rw [List.getElem?_map] at hd
      obtain ⟨b, hb, rfl⟩ := Option.map_eq_some_iff.mp hd
      have hi : i < 100 := by have := (List.getElem?_eq_some_iff.mp hb).1; omega
      have li := len_ i
      obtain ⟨h, f, hp⟩ := hsm i b hb
      have v0 : (σ'.set 3 (some v))[0]? = some (some (.ref s)) := by rw [List.getElem?_set_ne (by decide)]; exact q4
      have v1 : (σ'.set 3 (some v))[1]? = some (some (.int (t : Nat))) := by rw [List.getElem?_set_ne (by decide)]; exact q5
      have v2 : (σ'.set 3 (some v))[2]? = some (some (.ref (loc (.arr t)))) := by rw [List.getElem?_set_ne (by decide)]; exact q6
      have v3 : (σ'.set 3 (some v))[3]? = some (some v) := List.getElem?_set_self (by omega)
      have vl : (σ'.set 3 (some v)).length = 4 := by rw [List.length_set]; exact q3
      refine s_dropM (e_bring (b := b) (z := t) (h := h) (f := f) q1 (ev_var v0) (ed_var v3 (td.keep q2.tk)) (ev_var v1) (by rw [li.1]; decide) hp (by have := li.2.2 _ _ _ hp; omega) (by have := F1.size; omega) (by have := F1.fl; omega) fun v4 H4 l4 S4 x4 t4 => ?_)
      refine ⟨l4, S4.is_ (swp_take M _ t _ i b hb).symm, q2.trans x4, vl, v0, v1, v2⟩
    · obtain ⟨l', q1, q2, q3, q4, q5, q6⟩ := q
      have o3 := q2.fr _ _ o2 hl2
      have ea : sweep M D t = (swp M (D.setArr t []) t D.arrs[t], .sweep D.arrs[t].length) := by
        unfold sweep
        rw [arr_of hzl] <;> rfl
      refine s_retD (K := K) (d := eEv (.sweep D.arrs[t].length)) (ed_tup (el_cons (ed_str ev_c) (el_cons (ed_int (ev_is (ev_len (ev_var q6) (SqL.of o3)) (by rw [hxl]))) el_nil)) ble) fun v2 H4 e4 t4 => ?_
      rw [hxl, List.take_of_length_le (Nat.le_refl _)] at q1
      exact k v2 H4 l' ((q1.ex e4).is_ (by rw [ea])) ((((Ext.of_ex e1).trans x2).trans q2).ex e4) (by rw [ea]; exact t4)

end
end Rp
set_option Elab.async false
set_option linter.all false
set_option maxRecDepth 100000
set_option maxHeartbeats 4000000
set_option autoImplicit false
namespace Rp
open PySem PySem.Spec PyProof.Rows L2 Mx Evl Hf
section
variable {P : Program} {w : World} {K : Frg} {mg : Str → Option Value} {base : Heap}
theorem ok_is_move (T : Txt K mg w) (F : FnD K d_is_move) (G_is_integer : Ok P w K mg base 1 (He.ga K "is_integer") ["value"] (spIsInt)) : Ok P w K mg base 2 (He.ga K "is_move") ["value"] (spIsMove K) := by
  have sc : FnScope ["value"] ["value"] (defScope s_is_move) := ⟨rfl, rfl, rfl, by decide +kernel, rfl, by decide +kernel, by decide +kernel⟩
  let nm : List Str := ["value"]
  refine ok_of F rfl rfl sc (fun _ _ _ _ _ _ us hl => match us, hl with | [_], _ => rfl) (fun vs H Q E h => ?_) (fun cdv A outer s H vs Q E hr h => ?_)
  · obtain ⟨v, x, rfl, _⟩ := h
    rfl
  · obtain ⟨v, x, rfl, t, k⟩ := h
    refine ⟨_, (pss_cons (ps_if (PW.pt (pw_or (pt_not (pt_val (pe_callB call_isi (by rfl) T.free_isinstance (by decide +kernel) (pa_cons (pv 0) (pa_cons (pe_bltn (v := .ty "tuple") (by rfl) T.free_tuple (by decide +kernel) rfl) pa_nil))))) (pw_or (pt_cmpR op_ne (pe_callB Ru.cr_len (by rfl) T.free_len PySem.boot_len (pa_cons (pv 0) pa_nil)) pe_int (nomark _)) (pw_or1 (pt_not (pt_val (pe_callB call_isi (by rfl) T.free_isinstance (by decide +kernel) (pa_cons (pe_ix ix_tup (pv 0) pe_int (fun _ _ => rfl)) (pa_cons (pe_bltn (v := .ty "str") (by rfl) T.free_str (by decide +kernel) rfl) pa_nil))))))))) (pss_one (ps_ret pe_bl)) pss_nil) (pss_one (ps_ret (pe_callO G_is_integer (hr.mono (by decide)) (by rfl) T.glo_is_integer (pa_cons (pe_ix ix_tup (pv 0) pe_int (fun _ _ => rfl)) pa_nil))))), ?_⟩
    obtain ⟨wd, n, hx⟩ : ∃ (wd : Str) (n : Nat), eMv x = .tuple [.str wd, eN n] := by cases x <;> exact ⟨_, _, rfl⟩
    rw [hx] at t
    have ev := ed_var (σ := L2.start ["value"] [v]) (i := 0) rfl t
    refine q_when (b := false) (et_is (et_or (et_not (et_B (ev_isiTupD ev))) fun _ => et_or (et_test (ev_eqN' (ev_lenD ev) ev_c rfl)) fun _ => et_not (et_B (ev_isiStr (ed_ixT (j := 0) (d := .str wd) ev ev_c rfl rfl).str))) rfl) (fun h => nomatch h) fun _ H1 e1 => ?_
    refine Evl.s_ret (v := .bl true) (fun H2 e2 Q' q => (ed_ixT (j := 1) (d := eN n) (ed_var (i := 0) rfl t) ev_c rfl rfl).int H2 (e1.trans e2) _ fun H3 e3 => ⟨_, rfl, fun H4 e4 => q H4 (e3.trans e4)⟩) fun H2 e2 => k H2 (e1.trans e2)

end
end Rp
set_option Elab.async false
set_option linter.all false
set_option maxRecDepth 100000
set_option maxHeartbeats 4000000
set_option autoImplicit false
namespace Rp
open PySem PySem.Spec PyProof.Rows L2 Mx Evl Hf
section
variable {P : Program} {w : World} {K : Frg} {mg : Str → Option Value} {base : Heap}
theorem ok_Machine_step (T : Txt K mg w) (F : FnD K d_Machine_step) (G_Draft_init : Ok P w K mg base 3 (He.ma K (He.ga K "Draft") "__init__") ["self", "state"] (spDraftI K)) (G_Draft_frozen : Ok P w K mg base 3 (He.ma K (He.ga K "Draft") "frozen") ["self"] (spFrozen K)) (G_Machine_moves : Ok P w K mg base 5 (He.ma K (He.ga K "Machine") "moves") ["self", "state"] (spMoves K)) (G_Stepper_init : Ok P w K mg base 1 (He.ma K (He.ga K "Stepper") "__init__") ["self", "machine", "draft"] (spStepperI K)) (G_Stepper_carry : Ok P w K mg base 1 (He.ma K (He.ga K "Stepper") "carry") ["self", "message"] (spCarry K)) (G_Stepper_step : Ok P w K mg base 8 (He.ma K (He.ga K "Stepper") "step") ["self", "thread"] (spStep K)) (G_Stepper_sweep : Ok P w K mg base 5 (He.ma K (He.ga K "Stepper") "sweep") ["self", "socket"] (spSweep K)) (G_is_move : Ok P w K mg base 2 (He.ga K "is_move") ["value"] (spIsMove K)) : Ok P w K mg base 9 (He.ma K (He.ga K "Machine") "step") ["self", "state", "move"] (spMStep K) := by
  have sc : FnScope ["self", "state", "move", "draft", "stepper", "event"] ["self", "state", "move"] (defScope s_Machine_step) := ⟨rfl, rfl, rfl, by decide +kernel, rfl, by decide +kernel, by decide +kernel⟩
  let nm : List Str := ["self", "state", "move", "draft", "stepper", "event"]
  refine ok_of F rfl rfl sc (fun _ _ _ _ _ _ us hl => match us, hl with | [_, _, _], _ => rfl) (fun vs H Q E h => ?_) (fun cdv A outer s H vs Q E hr h => ?_)
  · obtain ⟨m, M, st, D, mv, x, rfl, _⟩ := h
    rfl
  · obtain ⟨m, M, st, D, mv, x, rfl, hm, hst, G, tx, hx, k⟩ := h
    refine ⟨_, (pss_cons (ps_if (PW.pt (pw_or (pt_not (pt_val (pe_callO G_is_move (hr.mono (by decide)) (by rfl) T.glo_is_move (pa_cons (pv 2) pa_nil)))) (pw_or1 (pt_cmpR (op_notInD (hu65 hr)) (pv 2) (pe_methO (pv 0) T.cls_Machine T.meth_Machine_moves G_Machine_moves (hr.mono (by decide)) (pa_cons (pv 1) pa_nil)) (by rfl))))) (pss_one ps_never) pss_nil) (pss_cons (ps_set (i := 3) sc.nd rfl (by first | exact Or.inl rfl | exact Or.inr rfl) (pe_makeO T.mkr_Draft G_Draft_init (hr.mono (by decide)) (by rfl) T.glo_Draft (pa_cons (pv 1) pa_nil))) (pss_cons (ps_set (i := 4) sc.nd rfl (by first | exact Or.inl rfl | exact Or.inr rfl) (pe_makeO T.mkr_Stepper G_Stepper_init (hr.mono (by decide)) (by rfl) T.glo_Stepper (pa_cons (pv 0) (pa_cons (pv 3) pa_nil)))) (pss_cons (Ru.ps_match (pe_ix ix_tup (pv 2) pe_int (fun _ _ => rfl)) (Ru.pm_val (pss_one (ps_set (i := 5) sc.nd rfl (by first | exact Or.inl rfl | exact Or.inr rfl) (pe_methO (pv 4) T.cls_Stepper T.meth_Stepper_step G_Stepper_step (hr.mono (by decide)) (pa_cons (pe_ix ix_tup (pv 2) pe_int (fun _ _ => rfl)) pa_nil)))) (Ru.pm_val (pss_one (ps_set (i := 5) sc.nd rfl (by first | exact Or.inl rfl | exact Or.inr rfl) (pe_methO (pv 4) T.cls_Stepper T.meth_Stepper_carry G_Stepper_carry (hr.mono (by decide)) (pa_cons (pe_ix ix_tup (pv 2) pe_int (fun _ _ => rfl)) pa_nil)))) (Ru.pm_val (pss_one ps_never) (Ru.pm_val (pss_one ps_never) (Ru.pm_def (pss_one (ps_set (i := 5) sc.nd rfl (by first | exact Or.inl rfl | exact Or.inr rfl) (pe_methO (pv 4) T.cls_Stepper T.meth_Stepper_sweep G_Stepper_sweep (hr.mono (by decide)) (pa_cons (pe_ix ix_tup (pv 2) pe_int (fun _ _ => rfl)) pa_nil)))))))))) (pss_one (ps_ret (pe_tup (pa_cons (pe_methO0 (pv 3) T.cls_Draft T.meth_Draft_frozen G_Draft_frozen (hr.mono (by decide))) (pa_cons (pv 5) pa_nil))))))))), ?_⟩
    have F1 := G.fit
    refine q_when (b := false) (et_is (et_or (a := false) (b := false) (et_is (et_not (et_B (b := true) (ev_call (ea_cons (ev_var (v := mv) rfl) ea_nil) fun H1 e1 Q' q E' => ⟨mv, x, rfl, tx.ex e1, fun H2 e2 => q H2 e2⟩))) rfl) fun _ => et_test (fun H1 e1 Q' q => ?_)) rfl) (fun h => nomatch h) fun _ H1 e1 => ?_
    · refine (ev_var (v := mv) rfl) H1 e1 _ fun H2 e2 => (ev_var (v := .ref m) rfl) H2 (e1.trans e2) _ fun H3 e3 => ?_
      have e03 := (e1.trans e2).trans e3
      obtain ⟨dx, p, hmm, hmt⟩ := hm
      refine ⟨m, dx, _, rfl, e03 _ _ hmm, no_Machine_moves, (ev_var (v := .ref st) rfl) H3 (Ex.refl _) _ fun H4 e4 => ?_⟩
      have e04 := e03.trans e4
      refine ⟨m, M, st, D, rfl, Mac.ex ⟨dx, p, hmm, hmt⟩ e04, hst.ex e04, G, fun l H5 xs ms hl e5 hls tms hpm => ?_⟩
      have e05 := e04.trans e5
      refine ⟨eMv x, ms.map eMv, (tx.ex e05).dp, .lst (SqL.of hls) tms.dp, (sm_mv x).shp, (sm_lst (sml_map sm_mv ms)).shp, ?_⟩
      have hany : ((ms.map eMv).any fun z => PyData.eqv z (eMv x)) = true := List.any_eq_true.mpr ⟨eMv x, List.mem_map.mpr ⟨x, hpm.mem_iff.mpr hx, rfl⟩, eqv_mv x⟩
      rw [hany]
      exact q H5 (((e2.trans e3).trans e4).trans e5)
    · have hst1 := hst.ex e1
      have hm1 := hm.ex e1
      refine q_asgE (te_draft (D := D) (M := M) (ev_var rfl) hst1 F1 fun d H2 loc hd e2 R hdr hfr => ?_)
      have hfr0 : ∀ r, H (loc r) = none := fun r => fresh_back e1 (hfr r)
      dsimp only [gName]
      refine q_asgE (te_stepper (m := m) (d := d) (ev_var rfl) (fun H3 e3 Q' q => (ev_var (v := .ref d) rfl) H3 (Ex.refl _) _ fun H4 e4 => q H4 e4) fun s dx H3 hs e3 h3 => ?_)
      dsimp only [gName]
      have S3 : Stp K H3 s M loc D := stp_of hm1 hfr R hdr hs e2 e3 h3
      have e03 := (e1.trans e2).trans e3
      have tx3 := tx.ex e03
      have fin : ∀ (v : V) (H4 : Hp) (l4 : Lc), Stp K H4 s M l4 (stepM M D x).1 → Ext H3 loc H4 l4 → Td K H4 v (eEv (stepM M D x).2) → tRet (tTup (tCons (tMeth (He.ga K "Draft") "frozen" (spFrozen K) [] E0 (tVar 3) tNil) (tCons (tVar 5) tNil))) { nx := fun x H' => Q V.non H', rt := Q } ((((L2.start ["self", "state", "move", "draft", "stepper", "event"] [.ref m, .ref st, mv]).set 3 (some (.ref d))).set 4 (some (.ref s))).set 5 (some v)) H4 := by
        intro v H4 l4 S4 x4 t4
        have fx : l4 .drf = d := (x4.fx _ rfl).trans hdr
        obtain ⟨dxd, hdf⟩ := S4.rep.atDrf
        refine s_retE (te_tup2' (te_meth ((ev_var (v := .ref d) rfl) H4 (Ex.refl _) _ fun H5 e5 => ⟨d, dxd, _, rfl, by rw [← fx]; exact e5 _ _ hdf, no_Draft_frozen, ?_⟩)))
        refine ⟨l4, (stepM M D x).1, M, by rw [fx] <;> rfl, S4.rep.ex e5, G.nxt x hx, fun st2 H6 e6 hst6 => ?_⟩
        refine (ev_var (v := v) rfl) H6 (Ex.refl _) _ fun H7 e7 => ⟨by show 2 ≤ sizeLine; decide, fun q hq => ?_⟩
        have e47 := (e5.trans e6).trans e7
        have eb : Ex H H4 := x4.back e03 hfr0
        have en : Ex H7 (upd H7 q (.tup [.ref st2, v])) := Ex.new hq
        exact k (.ref q) _ ((eb.trans e47).trans en) ⟨q, st2, v, rfl, st_of upd_same, (hst6.ex e7).ex en, (t4.ex e47).ex en⟩
      obtain ⟨wd, n, hxe⟩ : ∃ (wd : Str) (n : Nat), eMv x = .tuple [.str wd, eN n] := by cases x <;> exact ⟨_, _, rfl⟩
      have sw : ∀ (a b : Str), (a == b) = false → ¬ (a = b) := sne
      cases x with
      | step t =>
        refine (ed_ixT (j := 0) (d := .str "step") (ed_var (i := 2) rfl tx3) ev_c rfl rfl).str H3 (Ex.refl _) _ fun H4 e4 => ⟨_, rfl, ?_⟩
        rw [if_pos rfl]
        have hmem : t < D.wks.length ∧ (D.wk t).run = true ∧ waiting M D t = false := by
          unfold moves at hx
          rcases List.mem_append.mp hx with hx | hx
          · rcases List.mem_append.mp hx with hx | hx
            · obtain ⟨_, _, h⟩ := List.mem_map.mp hx; cases h
            · obtain ⟨t', ht', h⟩ := List.mem_map.mp hx
              cases h
              obtain ⟨h1, h2⟩ := List.mem_filter.mp ht'
              rw [Bool.and_eq_true, Bool.not_eq_true'] at h2
              exact ⟨List.mem_range.mp h1, h2.1, h2.2⟩
          · obtain ⟨_, _, h⟩ := List.mem_map.mp hx; cases h
        have hw := List.getElem?_eq_getElem hmem.1
        have hc := G.can t _ hw (by rw [← wk_of hw]; exact hmem.2.1) hmem.2.2
        refine s_asgE (e_ev t 0 0 (S3.ex e4) (ev_var rfl) (fun _ _ => no_Stepper_step) (el_cons (ed_int (ed_ixT (j := 1) (d := eN t) (ed_var (i := 2) rfl (tx3.ex e4)) ev_c rfl rfl).int) el_nil) hc fun v H5 l5 S5 x5 t5 => ?_)
        exact fin v H5 l5 S5 ((Ext.of_ex e4).trans x5) t5
      | carry t =>
        refine (ed_ixT (j := 0) (d := .str "carry") (ed_var (i := 2) rfl tx3) ev_c rfl rfl).str H3 (Ex.refl _) _ fun H4 e4 => ⟨_, rfl, ?_⟩
        rw [if_neg (sw "carry" "step" (by decide +kernel))]
        refine ⟨_, rfl, ?_⟩
        rw [if_pos rfl]
        have hmem : t < D.fl.length := by
          unfold moves at hx
          rcases List.mem_append.mp hx with hx | hx
          · rcases List.mem_append.mp hx with hx | hx
            · obtain ⟨t', ht', h⟩ := List.mem_map.mp hx
              cases h
              exact List.mem_range.mp ht'
            · obtain ⟨_, _, h⟩ := List.mem_map.mp hx; cases h
          · obtain ⟨_, _, h⟩ := List.mem_map.mp hx; cases h
        refine s_asgE (e_ev t 0 0 (S3.ex e4) (ev_var rfl) (fun _ _ => no_Stepper_carry) (el_cons (ed_int (ed_ixT (j := 1) (d := eN t) (ed_var (i := 2) rfl (tx3.ex e4)) ev_c rfl rfl).int) el_nil) ⟨F1, hmem⟩ fun v H5 l5 S5 x5 t5 => ?_)
        exact fin v H5 l5 S5 ((Ext.of_ex e4).trans x5) t5
      | sweep t =>
        refine (ed_ixT (j := 0) (d := .str "sweep") (ed_var (i := 2) rfl tx3) ev_c rfl rfl).str H3 (Ex.refl _) _ fun H4 e4 => ⟨_, rfl, ?_⟩
        rw [if_neg (sw "sweep" "step" (by decide +kernel))]
        refine ⟨_, rfl, ?_⟩
        rw [if_neg (sw "sweep" "carry" (by decide +kernel))]
        refine ⟨_, rfl, ?_⟩
        rw [if_neg (sw "sweep" "stop" (by decide +kernel))]
        refine ⟨_, rfl, ?_⟩
        rw [if_neg (sw "sweep" "recover" (by decide +kernel))]
        have hmem : t < D.arrs.length := by
          unfold moves at hx
          rcases List.mem_append.mp hx with hx | hx
          · rcases List.mem_append.mp hx with hx | hx
            · obtain ⟨_, _, h⟩ := List.mem_map.mp hx; cases h
            · obtain ⟨_, _, h⟩ := List.mem_map.mp hx; cases h
          · obtain ⟨t', ht', h⟩ := List.mem_map.mp hx
            cases h
            exact List.mem_range.mp (List.mem_filter.mp ht').1
        rw [F1.al] at hmem
        refine s_asgE (e_ev t 0 0 (S3.ex e4) (ev_var rfl) (fun _ _ => no_Stepper_sweep) (el_cons (ed_int (ed_ixT (j := 1) (d := eN t) (ed_var (i := 2) rfl (tx3.ex e4)) ev_c rfl rfl).int) el_nil) ⟨F1, hmem, fun i b hb => G.swe t i b hmem hb⟩ fun v H5 l5 S5 x5 t5 => ?_)
        exact fin v H5 l5 S5 ((Ext.of_ex e4).trans x5) t5

end
end Rp
set_option Elab.async false
set_option linter.all false
set_option maxRecDepth 100000
set_option maxHeartbeats 4000000
set_option autoImplicit false
namespace Rp
open PySem PySem.Spec PyProof.Rows L2 Mx Evl Hf
section
variable {P : Program} {w : World} {K : Frg} {mg : Str → Option Value} {base : Heap}
theorem run_good {M : MC} : ∀ {l : List Mv} {D : DS}, RunOk M D l → Good M (endM M D l)
  | [], _, h => h
  | x :: l, _, ⟨_, _, h⟩ => run_good (l := l) h
theorem runM_snoc (M : MC) : ∀ (l : List Mv) (D : DS) (x : Mv), runM M D (l ++ [x]) = runM M D l ++ [stepM M (endM M D l) x]
  | [], _, _ => rfl
  | y :: l, D, x => congrArg (stepM M D y :: ·) (runM_snoc M l _ x)
theorem ok_law_run (T : Txt K mg w) (F : FnD K d_law_run) (G_Machine_moves : Ok P w K mg base 5 (He.ma K (He.ga K "Machine") "moves") ["self", "state"] (spMoves K)) (G_Machine_start : Ok P w K mg base 3 (pg K "Machine" "start") ["self"] (spStart K)) (G_Machine_step : Ok P w K mg base 9 (He.ma K (He.ga K "Machine") "step") ["self", "state", "move"] (spMStep K)) (G_law_take : Ok P w K mg base 1 (He.ga K "_law_take") ["_law_pool_here", "_law_many"] (spTakeL K)) : Ok P w K mg base 10 (He.ga K "_law_run") ["_law_pool_here", "_law_machine_here", "_law_most"] (spRunL K) := by
  have sc : FnScope ["_law_pool_here", "_law_machine_here", "_law_most", "_law_ready", "_law_rows", "_law_state", "_law_move", "_law_event"] ["_law_pool_here", "_law_machine_here", "_law_most"] (defScope s_law_run) := ⟨rfl, rfl, rfl, by decide +kernel, rfl, by decide +kernel, by decide +kernel⟩
  let nm : List Str := ["_law_pool_here", "_law_machine_here", "_law_most", "_law_ready", "_law_rows", "_law_state", "_law_move", "_law_event"]
  refine ok_of F rfl rfl sc (fun _ _ _ _ _ _ us hl => match us, hl with | [_, _, _], _ => rfl) (fun vs H Q E h => ?_) (fun cdv A outer s H vs Q E hr h => ?_)
  · obtain ⟨p, m, M, rfl, _⟩ := h
    rfl
  · obtain ⟨p, m, M, rfl, hP, hm, ok, hF, hne, hext, hok0, k⟩ := h
    refine ⟨_, (pss_cons (ps_par (i := 4) (j := 5) (by rfl) sc.nd rfl rfl (by decide) rfl rfl (pa_cons (pe_lst pa_nil) (pa_cons (pe_propO (pv 1) T.cls_Machine T.prop_Machine_start G_Machine_start (hr.mono (by decide)) rfl) pa_nil)) (by rfl)) (pss_cons (ps_set (i := 3) sc.nd rfl (by first | exact Or.inl rfl | exact Or.inr rfl) (pe_methO (pv 1) T.cls_Machine T.meth_Machine_moves G_Machine_moves (hr.mono (by decide)) (pa_cons (pv 5) pa_nil))) (pss_cons (ps_while PassesOwn.never (PW.pt (pw_and (pt_cmpR (op_neD hr.units) (pv 3) (pe_lst pa_nil) (nomark _)) (pw_and1 (pt_cmpR op_lt (pe_callB Ru.cr_len (by rfl) T.free_len PySem.boot_len (pa_cons (pv 4) pa_nil)) (pv 2) (nomark _))))) (pss_cons (ps_set (i := 6) sc.nd rfl (by first | exact Or.inl rfl | exact Or.inr rfl) (pe_ix ix_list (pv 3) (pe_callO G_law_take (hr.mono (by decide)) (by rfl) T.glo_law_take (pa_cons (pv 0) (pa_cons (pe_callB Ru.cr_len (by rfl) T.free_len PySem.boot_len (pa_cons (pv 3) pa_nil)) pa_nil))) (fun _ _ => rfl))) (pss_cons (ps_asg (pe_methO (pv 1) T.cls_Machine T.meth_Machine_step G_Machine_step (hr.mono (by decide)) (pa_cons (pv 5) (pa_cons (pv 6) pa_nil))) (pg_tup rfl (pgs_cons (pg_name (i := 5) sc.nd rfl (by first | exact Or.inl rfl | exact Or.inr rfl)) (pgs_cons (pg_name (i := 7) sc.nd rfl (by first | exact Or.inl rfl | exact Or.inr rfl)) pgs_nil)))) (pss_cons (ps_expr (pe_bm PySem.F.plainAttrs_list PySem.F.slot_list_append PySem.F.type_list_append mt_append (pv 4) (pa_cons (pe_tup (pa_cons (pv 6) (pa_cons (pv 7) (pa_cons (pv 5) pa_nil)))) pa_nil))) (pss_one (ps_set (i := 3) sc.nd rfl (by first | exact Or.inl rfl | exact Or.inr rfl) (pe_methO (pv 1) T.cls_Machine T.meth_Machine_moves G_Machine_moves (hr.mono (by decide)) (pa_cons (pv 5) pa_nil)))))))) (pss_one (ps_ret (pv 4)))))), ?_⟩
    obtain ⟨dxm, pm, hm1, hm2⟩ := hm
    have hm : Mac K H m M := ⟨dxm, pm, hm1, hm2⟩
    have h1 := ok.ns
    have h4 := ok.nsl
    have hpm : p ≠ m := fun z => by
      obtain ⟨a, b, hp, _⟩ := hP
      rw [z, hm1] at hp
      cases hp
    have hMac : ∀ {H' : Hp}, Only p H H' → Mac K H' m M := fun {H'} o => ⟨dxm, pm, o.fr _ _ hm1 hpm.symm, hm2.keep o.tk⟩
    refine q_par ?_
    refine (el_lst (σ := L2.start ["_law_pool_here", "_law_machine_here", "_law_most", "_law_ready", "_law_rows", "_law_state", "_law_move", "_law_event"] [.ref p, .ref m, .int 60]) ea_nil (by decide)) H (Ex.refl H) _ fun q H1 hq e1 hq1 => ?_
    refine ev_start (C := True) (hm.ex e1) hF (by omega) (by omega) (ev_var rfl) H1 (Ex.refl _) _ fun st0 H2 e2 hst0 => ⟨_, _, rfl, ?_⟩
    have e02 := e1.trans e2
    have hqp : q ≠ p := fun z => by
      obtain ⟨a, b, hp, _⟩ := hP
      rw [z, hp] at hq
      cases hq
    have emv : ∀ {σ' : L2.St} {H' : Hp} {D' : DS} {st : Addr} {Q' : VK}, σ'[1]? = some (some (.ref m)) → σ'[5]? = some (some (.ref st)) → Mac K H' m M → StA K H' st D' → Good M D' → (∀ r H'' xs ms, H' r = none → Ex H' H'' → H'' r = some (.lst xs) → TdL K H'' xs (ms.map eMv) → List.Perm ms (moves M D') → Q' (.ref r) H'') → tMeth (He.ga K "Machine") "moves" (spMoves K) [] E0 (tVar 1) (tCons (tVar 5) tNil) σ' H' Q' := by
      intro σ' H' D' st Q' s1 s5 hmm hss hg kk
      obtain ⟨dx2, p2, g1, g2'⟩ := hmm
      refine te_meth ((ev_var s1) H' (Ex.refl _) _ fun H3 e3 => ⟨m, dx2, _, rfl, e3 _ _ g1, no_Machine_moves, (ev_var s5) H3 (Ex.refl _) _ fun H4 e4 => ?_⟩)
      have e34 := e3.trans e4
      exact ⟨m, M, st, D', rfl, Mac.ex ⟨dx2, p2, g1, g2'⟩ e34, hss.ex e34, hg, fun r H'' xs ms hr e h t pm => kk r H'' xs ms (fresh_back e34 hr) (e34.trans e) h t pm⟩
    refine q_asgE (emv rfl rfl (hm.ex e02) hst0 (run_good hok0) fun r H3 xs ms hr e3 hr3 t3 pm3 => ?_)
    dsimp only [gName]
    -- the loop: a run l so far
    let Inv0 : List Mv → L2.St → Hp → Prop := fun l σ' H' => l.length ≤ 60 ∧ RunOk M (start M) l ∧ Only p H H' ∧ PoolAt H' p ∧ (σ'.length = 8 ∧ σ'[0]? = some (some (.ref p)) ∧ σ'[1]? = some (some (.ref m)) ∧ σ'[2]? = some (some (.int 60)) ∧ σ'[4]? = some (some (.ref q))) ∧ (∃ st, σ'[5]? = some (some (.ref st)) ∧ StA K H' st (endM M (start M) l)) ∧ (∃ r xs ms, σ'[3]? = some (some (.ref r)) ∧ r ≠ p ∧ r ≠ q ∧ H' r = some (.lst xs) ∧ TdL K H' xs (ms.map eMv) ∧ List.Perm ms (moves M (endM M (start M) l))) ∧
      ∃ ys, H' q = some (.lst ys) ∧ ys.length = l.length ∧ ∀ (i : Nat) v x r, ys[i]? = some v → l[i]? = some x → (runM M (start M) l)[i]? = some r → LRow K H' v x r
    have gmv : ∀ l, RunOk M (start M) l → (moves M (endM M (start M) l)).length ≤ 300 := fun l hl => by
      have F1 := (run_good hl).fit
      unfold moves
      rw [List.length_append, List.length_append, List.length_map, List.length_range, List.length_map, List.length_map]
      have a1 := List.length_filter_le (fun t => ((endM M (start M) l).wk t).run && !waiting M (endM M (start M) l) t) (List.range (endM M (start M) l).wks.length)
      have a2 := List.length_filter_le (fun z => !((endM M (start M) l).arr z).isEmpty && !served M (endM M (start M) l) z) (List.range (endM M (start M) l).arrs.length)
      rw [List.length_range] at a1 a2
      have b1 := F1.fl
      have b2 : (endM M (start M) l).wks.length ≤ 100 := by rw [F1.wl]; exact F1.thr
      have b3 : (endM M (start M) l).arrs.length ≤ 100 := by rw [F1.al]; exact F1.ns
      omega
    have rows_upd : ∀ {H' : Hp} {v : V} {x : Mv} {r : DS × Mx.Ev} {o : HO} {a : Addr} {zs : List V}, H' a = some (.lst zs) → LRow K H' v x r → LRow K (upd H' a o) v x r := by
      rintro H' v x r o a zs ha ⟨b, mv, ve, st, rfl, g1, g2', g3, g4'⟩
      have tk : Tk H' (upd H' a o) := tk_upd ha trivial
      exact ⟨b, mv, ve, st, rfl, tk.sq g1, g2'.keep tk, g3.keep tk, g4'.upd ha⟩
    have rows_ex : ∀ {H' H'' : Hp} {v : V} {x : Mv} {r : DS × Mx.Ev}, Ex H' H'' → LRow K H' v x r → LRow K H'' v x r := by
      rintro H' H'' v x r e ⟨b, mv, ve, st, rfl, g1, g2', g3, g4'⟩
      exact ⟨b, mv, ve, st, rfl, ex_t e g1, g2'.ex e, g3.ex e, g4'.ex e⟩
    have st_only : ∀ {H' H'' : Hp} {st : Addr} {D' : DS}, PoolAt H' p → Only p H' H'' → StA K H' st D' → StA K H'' st D' := by
      rintro H' H'' st D' ⟨a, b, hp, _⟩ o ⟨dx, u, g1, g2'⟩
      exact ⟨dx, u, o.fr _ _ g1 (fun z => by rw [z, hp] at g1; cases g1), g2'.keep o.tk⟩
    have rows_only : ∀ {H' H'' : Hp} {v : V} {x : Mv} {r : DS × Mx.Ev}, PoolAt H' p → Only p H' H'' → LRow K H' v x r → LRow K H'' v x r := by
      rintro H' H'' v x r hp o ⟨b, mv, ve, st, rfl, g1, g2', g3, g4'⟩
      exact ⟨b, mv, ve, st, rfl, o.tk.sq g1, g2'.keep o.tk, g3.keep o.tk, st_only hp o g4'⟩
    have hrp : r ≠ p := fun z => by
      obtain ⟨a, b, hp, _⟩ := hP
      rw [z, e02 _ _ hp] at hr
      cases hr
    have hrq : r ≠ q := fun z => by
      rw [z, e2 _ _ hq1] at hr
      cases hr
    refine Evl.q_while (fun n σ' H' => ∃ l, n = 60 - l.length ∧ Inv0 l σ' H') 60 ⟨[], rfl, Nat.zero_le _, hok0, .of_ex (e02.trans e3), hP.ex (e02.trans e3), ⟨rfl, rfl, rfl, rfl, rfl⟩, ⟨st0, rfl, hst0.ex e3⟩, ⟨r, xs, ms, rfl, hrp, hrq, hr3, t3, pm3⟩, [], (e2.trans e3) _ _ hq1, rfl, fun i v x r h => by simp at h⟩ ?_
    rintro n σ' H' ⟨l, rfl, i1, i2, i3, i4, ⟨s0, s1, s2, s3, s4⟩, ⟨st, s5, i5⟩, ⟨r, xs, ms, s6, r1, r2, r3, r4, r5⟩, ys, y1, y2, y3⟩
    have hxl : xs.length = ms.length := by rw [r4.length, List.length_map]
    have hml : ms.length = (moves M (endM M (start M) l)).length := r5.length_eq
    have hie : xs.isEmpty = ms.isEmpty := by
      clear r4 r5 r3 hml
      cases xs <;> cases ms <;> first | rfl | exact absurd hxl (by simp)
    refine ⟨!ms.isEmpty && decide (l.length < 60), et_and (et_test (ev_is (ev_notNil (ev_var s6) (SqL.of r3) r4 (sml_map (fun x => (sm_mv x).mono (by decide)) ms)) (by rw [hie]))) fun _ => et_test (ev_is (ev_lt (a := ys.length) (b := 60) (ev_len (ev_var s4) (SqL.of y1)) (ev_var s3)) (by rw [y2])), fun hb H4 e4 => ?_, fun hb H4 e4 => ?_⟩
    · rw [Bool.and_eq_true, decide_eq_true_iff] at hb
      obtain ⟨hb1, hb2⟩ := hb
      have hms : 0 < ms.length := by cases ms <;> first | exact Nat.succ_pos _ | cases hb1
      refine ⟨fun σ2 H2 => ∃ x, Inv0 (l ++ [x]) σ2 H2, fun σ2 H2 ⟨x, hI⟩ => ⟨60 - (l ++ [x]).length, by rw [List.length_append]; show 60 - (l.length + 1) < _; omega, l ++ [x], rfl, hI⟩, ?_⟩
      have r34 := e4 _ _ r3
      refine q_asgE ?_
      refine (ev_var (v := .ref r) s6) H4 (Ex.refl _) _ fun H5 e5 => ?_
      have e45 := e4.trans e5
      have r35 := e45 _ _ r3
      show tCall (spTakeL K) [] E0 (tCons (tVar 0) (tCons (tCB (rLenS K) (tCons (tVar 3) tNil)) tNil)) σ' H5 _
      refine e_take (p := p) (n := xs.length) (ev_var s1) (ev_len (ev_var s6) (SqL.of r35)) (i4.ex e45) (by omega) (by have := gmv l i2; omega) fun j H6 hj o6 P6 => ?_
      have hjm : j < ms.length := by omega
      have r36 := o6.fr _ _ r35 r1
      have t6 : TdL K H6 xs (ms.map eMv) := (r4.ex e45).keep o6.tk
      obtain ⟨v, hv, tv⟩ := t6.get (i := j) (d := eMv ms[j]) (by rw [List.getElem?_map, List.getElem?_eq_getElem hjm] <;> rfl)
      refine ⟨r, xs, (j : Int), v, rfl, rfl, SqL.of r36, atI_nat hv, ?_⟩
      dsimp only [gName]
      have hmem : ms[j] ∈ moves M (endM M (start M) l) := r5.mem_iff.mp (List.getElem_mem hjm)
      generalize ms[j] = x at tv hmem
      have o06 := (i3.trans (.of_ex e45)).trans o6
      have mac6 := hMac o06
      have st6 := st_only (i4.ex e45) o6 (i5.ex e45)
      have G6 := run_good i2
      have y6 := o6.fr _ _ (e45 _ _ y1) hqp
      have y36 : ∀ (i : Nat) v x r, ys[i]? = some v → l[i]? = some x → (runM M (start M) l)[i]? = some r → LRow K H6 v x r := fun i v x r h1 h2 h3 => rows_only (i4.ex e45) o6 (rows_ex e45 (y3 i v x r h1 h2 h3))
      have u6 : (σ'.set 6 (some v))[6]? = some (some v) := List.getElem?_set_self (by omega)
      have k6 : ∀ {j : Nat} {o : Option (Option V)}, σ'[j]? = o → j ≠ 6 → (σ'.set 6 (some v))[j]? = o := fun {j o} h hj => by rw [List.getElem?_set_ne (Ne.symm hj)]; exact h
      have u0 := k6 s1 (by decide)
      have u1 := k6 s2 (by decide)
      have u2 := k6 s3 (by decide)
      have u4 := k6 s4 (by decide)
      have u5 := k6 s5 (by decide)
      have ul : (σ'.set 6 (some v)).length = 8 := by rw [List.length_set]; exact s0
      generalize σ'.set 6 (some v) = σ1 at u0 u1 u2 u4 u5 u6 ul ⊢
      obtain ⟨dx6, pm6, m61, m62⟩ := mac6
      refine q_asgE (te_meth ((ev_var u1) H6 (Ex.refl _) _ fun H7 e7 => ⟨m, dx6, _, rfl, e7 _ _ m61, no_Machine_step, (ev_var u5) H7 (Ex.refl _) _ fun H8 e8 => (ev_var u6) H8 (Ex.refl _) _ fun H9 e9 => ?_⟩))
      have e69 := (e7.trans e8).trans e9
      refine ⟨m, M, st, endM M (start M) l, v, x, rfl, Mac.ex ⟨dx6, pm6, m61, m62⟩ e69, st6.ex e69, G6, tv.ex e69, hmem, fun v2 H10 e10 hpair => ?_⟩
      obtain ⟨a, st2, ve, rfl, hsq, hst2, tve⟩ := hpair
      refine ⟨a, _, rfl, hsq, rfl, g2 ?_⟩
      have e610 := e69.trans e10
      have w5 : ((σ1.set 5 (some (.ref st2))).set 7 (some ve))[5]? = some (some (.ref st2)) := st_1 ul (by decide) (by decide)
      have w7 : ((σ1.set 5 (some (.ref st2))).set 7 (some ve))[7]? = some (some ve) := st_2 ul (by decide)
      have w0 : ((σ1.set 5 (some (.ref st2))).set 7 (some ve))[0]? = some (some (.ref p)) := st_keep u0 (by decide) (by decide)
      have w1 : ((σ1.set 5 (some (.ref st2))).set 7 (some ve))[1]? = some (some (.ref m)) := st_keep u1 (by decide) (by decide)
      have w2 : ((σ1.set 5 (some (.ref st2))).set 7 (some ve))[2]? = some (some (.int 60)) := st_keep u2 (by decide) (by decide)
      have w4 : ((σ1.set 5 (some (.ref st2))).set 7 (some ve))[4]? = some (some (.ref q)) := st_keep u4 (by decide) (by decide)
      have w6 : ((σ1.set 5 (some (.ref st2))).set 7 (some ve))[6]? = some (some v) := st_keep u6 (by decide) (by decide)
      have wl : ((σ1.set 5 (some (.ref st2))).set 7 (some ve)).length = 8 := st_len ul
      generalize ((σ1.set 5 (some (.ref st2))).set 7 (some ve)) = σ2 at w0 w1 w2 w4 w5 w6 w7 wl ⊢
      have y10 := e610 _ _ y6
      refine Evl.q_appU (l := q) y10 (ev_var w4) (eu_tup (ea_cons (ev_var w6) (ea_cons (ev_var w7) (ea_cons (ev_var w5) ea_nil))) (Nat.le_of_ble_eq_true rfl)) (by omega) fun rw H11 hrw e11 hrw11 => ?_
      have y11 := e11 _ _ y10
      have hqH : H q = none := hq
      have o0q : Only p H (upd H11 q (.lst (ys ++ [.ref rw]))) := only_mut (o06.trans (.of_ex (e610.trans e11))) hqH
      have Pq : PoolAt (upd H11 q (.lst (ys ++ [.ref rw]))) p := by
        obtain ⟨a', b', hp', hh'⟩ := P6.ex (e610.trans e11)
        exact ⟨a', b', by rw [upd_ne hqp.symm]; exact hp', hh'⟩
      have hok' := hext l i2 x hmem
      have hend : endM M (start M) (l ++ [x]) = (stepM M (endM M (start M) l) x).1 := endM_snoc M l _ x
      have stq : StA K (upd H11 q (.lst (ys ++ [.ref rw]))) st2 (endM M (start M) (l ++ [x])) := by
        rw [hend]
        exact (hst2.ex e11).upd y11
      have rowq : ∀ (i : Nat) v x' r, (ys ++ [V.ref rw])[i]? = some v → (l ++ [x])[i]? = some x' → (runM M (start M) (l ++ [x]))[i]? = some r → LRow K (upd H11 q (.lst (ys ++ [.ref rw]))) v x' r := by
        intro i v' x' r' g1 g2' g3
        rw [runM_snoc] at g3
        have hrl : (runM M (start M) l).length = l.length := runM_len l _
        by_cases hi : i < ys.length
        · rw [List.getElem?_append_left hi] at g1
          rw [List.getElem?_append_left (by omega)] at g2' g3
          exact rows_upd y11 (rows_ex (e610.trans e11) (y36 i v' x' r' g1 g2' g3))
        · rw [List.getElem?_append_right (by omega)] at g1 g2' g3
          have h0 : i - ys.length = 0 := by
            have := (List.getElem?_eq_some_iff.mp g1).1
            simp at this
            omega
          rw [h0] at g1
          rw [show i - l.length = 0 by omega] at g2'
          rw [show i - (runM M (start M) l).length = 0 by omega] at g3
          cases g1
          cases g2'
          cases g3
          have tkq : Tk H11 (upd H11 q (.lst (ys ++ [.ref rw]))) := tk_upd y11 trivial
          exact ⟨rw, v, ve, st2, rfl, tkq.sq (st_of hrw11), (tv.ex (e610.trans e11)).keep tkq, (tve.ex e11).keep tkq, (hst2.ex e11).upd y11⟩
      have hqs : upd H11 q (.lst (ys ++ [.ref rw])) q = some (.lst (ys ++ [.ref rw])) := upd_same
      generalize upd H11 q (.lst (ys ++ [.ref rw])) = Hq at o0q Pq stq rowq hqs ⊢
      refine s_asgE (emv w1 w5 (hMac o0q) stq (run_good hok') fun r' H12 xs' ms' hr' e12 h12 t12 pm12 => ?_)
      have k3 : ∀ {j : Nat} {o : Option (Option V)}, σ2[j]? = o → j ≠ 3 → (σ2.set 3 (some (.ref r')))[j]? = o := fun {j o} h hj => by rw [List.getElem?_set_ne (Ne.symm hj)]; exact h
      refine ⟨x, by rw [List.length_append]; show l.length + 1 ≤ 60; omega, hok', o0q.trans (.of_ex e12), Pq.ex e12, ⟨by rw [List.length_set]; exact wl, k3 w0 (by decide), k3 w1 (by decide), k3 w2 (by decide), k3 w4 (by decide)⟩, ⟨st2, k3 w5 (by decide), stq.ex e12⟩, ⟨r', xs', ms', List.getElem?_set_self (by omega), fun z => ?_, fun z => ?_, h12, t12, pm12⟩, ys ++ [.ref rw], e12 _ _ hqs, by rw [List.length_append, List.length_append, y2] <;> rfl, fun i v' x' rr g1 g2' g3 => rows_ex e12 (rowq i v' x' rr g1 g2' g3)⟩
      · obtain ⟨a', b', hp', _⟩ := Pq
        rw [z, hp'] at hr'
        cases hr'
      · rw [z, hqs] at hr'
        cases hr'
    · have hl0 : 0 < l.length := by
        cases l with
        | cons _ _ => exact Nat.succ_pos _
        | nil =>
          have hml0 : ms.length = (moves M (start M)).length := hml
          have : 0 < (moves M (start M)).length := List.length_pos_iff.mpr hne
          cases ms with
          | nil => rw [← hml0] at this; cases this
          | cons _ _ => cases hb
      refine Evl.s_ret (ev_var s4) fun H5 e5 => k q H5 ys l hq (i3.trans (.of_ex (e4.trans e5))) (i4.ex (e4.trans e5)) ((e4.trans e5) _ _ y1) y2 hl0 i1 i2 fun i v x r g1 g2' g3 => rows_ex (e4.trans e5) (y3 i v x r g1 g2' g3)

end
end Rp
set_option Elab.async false
set_option linter.all false
set_option maxRecDepth 100000
set_option maxHeartbeats 4000000
set_option autoImplicit false
namespace Rp
open PySem PySem.Spec PyProof.Rows L2 Mx Evl Hf
section
variable {P : Program} {w : World} {K : Frg} {mg : Str → Option Value} {base : Heap}
theorem ok_Machine_run (T : Txt K mg w) (F : FnD K d_Machine_run) (G_Machine_start : Ok P w K mg base 3 (pg K "Machine" "start") ["self"] (spStart K)) (G_Machine_step : Ok P w K mg base 9 (He.ma K (He.ga K "Machine") "step") ["self", "state", "move"] (spMStep K)) (G_is_row : Ok P w K mg base 1 (He.ga K "is_row") ["value"] (spIsRow K)) : Ok P w K mg base 10 (He.ma K (He.ga K "Machine") "run") ["self", "moves"] (spMRun K) := by
  have sc : FnScope ["self", "moves", "found", "state", "index", "move", "event"] ["self", "moves"] (defScope s_Machine_run) := ⟨rfl, rfl, rfl, by decide +kernel, rfl, by decide +kernel, by decide +kernel⟩
  let nm : List Str := ["self", "moves", "found", "state", "index", "move", "event"]
  refine ok_of F rfl rfl sc (fun _ _ _ _ _ _ us hl => match us, hl with | [_, _], _ => rfl) (fun vs H Q E h => ?_) (fun cdv A outer s H vs Q E hr h => ?_)
  · obtain ⟨m, M, p, xs, ms, rfl, _⟩ := h
    rfl
  · obtain ⟨m, M, p, xs, ms, rfl, hm, hp, tms, hml, hok, hF, hns, hnsl, k⟩ := h
    refine ⟨_, (pss_cons (ps_if (pt_not (pt_val (pe_callO G_is_row (hr.mono (by decide)) (by rfl) T.glo_is_row (pa_cons (pv 1) pa_nil)))) (pss_one ps_never) pss_nil) (pss_cons (ps_set (i := 2) sc.nd rfl (by first | exact Or.inl rfl | exact Or.inr rfl) (pe_lst pa_nil)) (pss_cons (ps_set (i := 3) sc.nd rfl (by first | exact Or.inl rfl | exact Or.inr rfl) (pe_propO (pv 0) T.cls_Machine T.prop_Machine_start G_Machine_start (hr.mono (by decide)) rfl)) (pss_cons (ps_for PassesOwn.never rfl (pi_enum (by rfl) T.free_enumerate (pa_cons (pv 1) pa_nil)) (pg_tup rfl (pgs_cons (pg_name (i := 4) sc.nd rfl (by first | exact Or.inl rfl | exact Or.inr rfl)) (pgs_cons (pg_name (i := 5) sc.nd rfl (by first | exact Or.inl rfl | exact Or.inr rfl)) pgs_nil))) (pss_cons (Ru.ps_tryN (pss_one (ps_asg (pe_methO (pv 0) T.cls_Machine T.meth_Machine_step G_Machine_step (hr.mono (by decide)) (pa_cons (pv 3) (pa_cons (pv 5) pa_nil))) (pg_tup rfl (pgs_cons (pg_name (i := 3) sc.nd rfl (by first | exact Or.inl rfl | exact Or.inr rfl)) (pgs_cons (pg_name (i := 6) sc.nd rfl (by first | exact Or.inl rfl | exact Or.inr rfl)) pgs_nil)))))) (pss_one (ps_expr (pe_bm PySem.F.plainAttrs_list PySem.F.slot_list_append PySem.F.type_list_append mt_append (pv 2) (pa_cons (pe_tup (pa_cons (pv 3) (pa_cons (pv 6) pa_nil))) pa_nil)))))) (pss_one (ps_ret (pv 2))))))), ?_⟩
    refine q_when (b := false) (et_is (et_not (et_B (ev_isRow (.inr hp) (ev_var rfl)))) rfl) (fun h => nomatch h) fun _ H1 e1 => ?_
    refine q_asgL (xs := []) (el_lst ea_nil (by decide)) fun f H2 hf e2 hf2 => ?_
    have e02 := e1.trans e2
    refine q_asgE (ev_start (C := True) (hm.ex e02) hF hns hnsl (ev_var rfl) H2 (Ex.refl _) _ fun st H3 e3 hst => ?_)
    dsimp only [gName]
    have e03 := e02.trans e3
    have hf0 : H f = none := fresh_back e1 hf
    have hxl : xs.length = ms.length := by rw [tms.length, List.length_map]
    let rs := runM M (start M) ms
    let StOk : Nat → DS → Prop := fun i D' => (i = 0 → D' = start M) ∧ ∀ r, 0 < i → rs[i - 1]? = some r → r.1 = D'
    let P : Nat → L2.St → Hp → Prop := fun i σ' H' => i ≤ ms.length ∧ Ex H H' ∧ (σ'.length = 7 ∧ σ'[0]? = some (some (.ref m)) ∧ σ'[1]? = some (some (.ref p)) ∧ σ'[2]? = some (some (.ref f))) ∧ (∃ st, σ'[3]? = some (some (.ref st)) ∧ ∀ D', StOk i D' → StA K H' st D') ∧ ∃ ys, H' f = some (.lst ys) ∧ ys.length = i ∧ ∀ (j : Nat) v r, ys[j]? = some v → rs[j]? = some r → PairAt K H' v r
    refine s_forEH (E := ⟨_, _, _, _⟩) rfl (ev_var rfl) (SqL.of (e03 _ _ hp)) P (fun H4 e4 => ⟨Nat.zero_le _, e03.trans e4, ⟨rfl, rfl, rfl, rfl⟩, ⟨st, rfl, fun D' h => by rw [h.1 rfl]; exact hst.ex e4⟩, [], (e3.trans e4) _ _ hf2, rfl, fun j v r h => by simp at h⟩) (fun i σ' H' q => SqL.of (q.2.1 _ _ hp)) (fun i x σ' H' H4 hx q e4 => ?_) fun σ' H' q => ?_
    · obtain ⟨q0, q1, ⟨q2, q3, q4, q5⟩, ⟨st, q6, q7⟩, ys, q8, q9, q10⟩ := q
      obtain ⟨d, hd, td⟩ := tms.get' hx
      rw [List.getElem?_map] at hd
      obtain ⟨mv, hmv, rfl⟩ := Option.map_eq_some_iff.mp hd
      obtain ⟨D', g1, g2', g3, g4', g5⟩ := run_ok hok hmv
      have hstd : StA K H' st D' := q7 D' ⟨g4', g5⟩
      have v0 : ((σ'.set 4 (some (.int (i : Nat)))).set 5 (some x))[0]? = some (some (.ref m)) := st_keep q3 (by decide) (by decide)
      have v1 : ((σ'.set 4 (some (.int (i : Nat)))).set 5 (some x))[1]? = some (some (.ref p)) := st_keep q4 (by decide) (by decide)
      have v2 : ((σ'.set 4 (some (.int (i : Nat)))).set 5 (some x))[2]? = some (some (.ref f)) := st_keep q5 (by decide) (by decide)
      have v3 : ((σ'.set 4 (some (.int (i : Nat)))).set 5 (some x))[3]? = some (some (.ref st)) := st_keep q6 (by decide) (by decide)
      have v5 : ((σ'.set 4 (some (.int (i : Nat)))).set 5 (some x))[5]? = some (some x) := st_2 q2 (by decide)
      have vl : ((σ'.set 4 (some (.int (i : Nat)))).set 5 (some x)).length = 7 := st_len q2
      generalize ((σ'.set 4 (some (.int (i : Nat)))).set 5 (some x)) = σ1 at v0 v1 v2 v3 v5 vl ⊢
      have e14 := q1.trans e4
      obtain ⟨dxm, pm, hm1, hm2⟩ := hm
      refine q_asgE (te_meth ((ev_var v0) H4 (Ex.refl _) _ fun H5 e5 => ⟨m, dxm, _, rfl, (e14.trans e5) _ _ hm1, no_Machine_step, (ev_var v3) H5 (Ex.refl _) _ fun H6 e6 => (ev_var v5) H6 (Ex.refl _) _ fun H7 e7 => ?_⟩))
      have e47 := (e5.trans e6).trans e7
      have e07 := e14.trans e47
      refine ⟨m, M, st, D', x, mv, rfl, Mac.ex ⟨dxm, pm, hm1, hm2⟩ e07, hstd.ex (e4.trans e47), g1, td.ex e07, g2', fun v H8 e8 hpair => ?_⟩
      obtain ⟨a, st2, ve, rfl, hsq, hst2, tve⟩ := hpair
      refine ⟨a, _, rfl, hsq, rfl, g2 ?_⟩
      have u2 : ((σ1.set 3 (some (.ref st2))).set 6 (some ve))[2]? = some (some (.ref f)) := st_keep v2 (by decide) (by decide)
      have u3 : ((σ1.set 3 (some (.ref st2))).set 6 (some ve))[3]? = some (some (.ref st2)) := st_1 vl (by decide) (by decide)
      have u6 : ((σ1.set 3 (some (.ref st2))).set 6 (some ve))[6]? = some (some ve) := st_2 vl (by decide)
      have u0 : ((σ1.set 3 (some (.ref st2))).set 6 (some ve))[0]? = some (some (.ref m)) := st_keep v0 (by decide) (by decide)
      have u1 : ((σ1.set 3 (some (.ref st2))).set 6 (some ve))[1]? = some (some (.ref p)) := st_keep v1 (by decide) (by decide)
      have ul : ((σ1.set 3 (some (.ref st2))).set 6 (some ve)).length = 7 := st_len vl
      have eH8 : Ex H' H8 := (e4.trans e47).trans e8
      have y8 := eH8 _ _ q8
      refine Evl.s_appU (l := f) y8 (ev_var u2) (eu_tup (ea_cons (ev_var u3) (ea_cons (ev_var u6) ea_nil)) (Nat.le_of_ble_eq_true rfl)) (by omega) fun pp H9 hpp e9 h9 => ?_
      have y9 := e9 _ _ y8
      refine ⟨(List.getElem?_eq_some_iff.mp hmv).1, Ex.mut ((q1.trans eH8).trans e9) hf0, ⟨ul, u0, u1, u2⟩, ⟨st2, u3, fun D'' h => ?_⟩, ys ++ [.ref pp], upd_same, by rw [List.length_append, q9] <;> rfl, fun j v r hv hr => ?_⟩
      · have := h.2 _ (Nat.succ_pos i) g3
        rw [← this]
        exact (hst2.ex e9).upd y9
      · by_cases hj : j < ys.length
        · rw [List.getElem?_append_left hj] at hv
          exact ((q10 j v r hv hr).ex (eH8.trans e9)).upd y9
        · rw [List.getElem?_append_right (by omega)] at hv
          have h0 : j - ys.length = 0 := by
            have := (List.getElem?_eq_some_iff.mp hv).1
            simp at this
            omega
          rw [h0] at hv
          cases hv
          have hji : j = i := by omega
          rw [hji, g3] at hr
          cases hr
          exact PairAt.upd ⟨pp, st2, ve, rfl, st_of h9, hst2.ex e9, tve.ex e9⟩ y9
    · obtain ⟨q0, q1, ⟨q2, q3, q4, q5⟩, ⟨st, q6, q7⟩, ys, q8, q9, q10⟩ := q
      dsimp only
      refine Evl.s_ret (ev_var q5) fun H4 e4 => k f H4 ys hf0 (q1.trans e4) (e4 _ _ q8) ⟨by rw [q9, hxl, runM_len], fun j v r hv hr => (q10 j v r hv hr).ex e4⟩

end
end Rp
set_option Elab.async false
set_option linter.all false
set_option maxRecDepth 100000
set_option maxHeartbeats 4000000
set_option autoImplicit false
namespace Rp
open PySem PySem.Spec PyProof.Rows L2 Mx Evl Hf
section
variable {P : Program} {w : World} {K : Frg} {mg : Str → Option Value} {base : Heap}
theorem ok_sent_messages (T : Txt K mg w) (F : FnD K d_sent_messages) (G_State_flight : Ok P w K mg base 1 (pg K "State" "flight") ["self"] (spPart K 4)) : Ok P w K mg base 3 (He.ga K "sent_messages") ["before", "state", "move"] (spSent K) := by
  have sc : FnScope ["before", "state", "move"] ["before", "state", "move"] (defScope s_sent_messages) := ⟨rfl, rfl, rfl, by decide +kernel, rfl, by decide +kernel, by decide +kernel⟩
  let nm : List Str := ["before", "state", "move"]
  refine ok_of F rfl rfl sc (fun _ _ _ _ _ _ us hl => match us, hl with | [_, _, _], _ => rfl) (fun vs H Q E h => ?_) (fun cdv A outer s H vs Q E hr h => ?_)
  · obtain ⟨s1, D1, s2, D2, mv, x, rfl, _⟩ := h
    rfl
  · obtain ⟨s1, D1, s2, D2, mv, x, rfl, h1, h2, t, k⟩ := h
    refine ⟨_, (pss_one (ps_ret (pe_op op_add (pe_op op_sub (pe_callB Ru.cr_len (by rfl) T.free_len PySem.boot_len (pa_cons (pe_propO (pv 1) T.cls_State T.prop_State_flight G_State_flight (hr.mono (by decide)) rfl) pa_nil)) (pe_callB Ru.cr_len (by rfl) T.free_len PySem.boot_len (pa_cons (pe_propO (pv 0) T.cls_State T.prop_State_flight G_State_flight (hr.mono (by decide)) rfl) pa_nil))) (pe_callTy call_int1 (by rfl) T.free_int (by decide +kernel) (pa_cons (pe_cmpR op_eq (pe_ix ix_tup (pv 2) pe_int (fun _ _ => rfl)) pe_str (nomark _)) pa_nil))))), ?_⟩
    have l2 := ev_lenD (ed_part (i := 4) (ta := tVar 1) (σ := L2.start ["before", "state", "move"] [.ref s1, .ref s2, mv]) h2 (ev_var rfl) rfl)
    have l1 := ev_lenD (ed_part (i := 4) (ta := tVar 0) (σ := L2.start ["before", "state", "move"] [.ref s1, .ref s2, mv]) h1 (ev_var rfl) rfl)
    rw [List.length_map] at l1 l2
    obtain ⟨wd, n, hx, hc⟩ : ∃ (wd : Str) (n : Nat), eMv x = .tuple [.str wd, eN n] ∧ decide (V.str wd = V.str "carry") = isCar x := by
      cases x with
      | step j => exact ⟨"step", j, rfl, decide_eq_false (wne _ _ (by decide +kernel))⟩
      | carry j => exact ⟨"carry", j, rfl, decide_eq_true rfl⟩
      | sweep j => exact ⟨"sweep", j, rfl, decide_eq_false (wne _ _ (by decide +kernel))⟩
    rw [hx] at t
    have ec : Ev (tOp rEq (tOp (rIxT K) (tVar 2) (tC (V.int 0))) (tC (V.str "carry"))) (L2.start ["before", "state", "move"] [.ref s1, .ref s2, mv]) H (.bl (isCar x)) := ev_is (ev_op (ed_ixT (j := 0) (d := .str wd) (ed_var (i := 2) rfl t) ev_c rfl rfl).str ev_c (rv_eq rfl)) (by rw [hc])
    exact Evl.s_ret (ev_op (ev_op l2 l1 rv_I0) (ev_toIntB ec) rv_I0) fun H1 e => k H1 e

end
end Rp
set_option Elab.async false
set_option linter.all false
set_option maxRecDepth 100000
set_option maxHeartbeats 4000000
set_option autoImplicit false
namespace Rp
open PySem PySem.Spec PyProof.Rows L2 Mx Evl Hf
section
variable {P : Program} {w : World} {K : Frg} {mg : Str → Option Value} {base : Heap}
theorem mv_word (x : Mv) : ∃ (wd : Str) (n : Nat), eMv x = .tuple [.str wd, eN n] ∧ decide (V.str wd = V.str "step") = isStp x := by
  cases x with
  | step j => exact ⟨"step", j, rfl, decide_eq_true rfl⟩
  | carry j => exact ⟨"carry", j, rfl, decide_eq_false (wne _ _ (by decide +kernel))⟩
  | sweep j => exact ⟨"sweep", j, rfl, decide_eq_false (wne _ _ (by decide +kernel))⟩
def fStp : PyData → Bool
  | .tuple [.str x, _] => decide (V.str x = V.str "step")
  | _ => false
theorem fStp_eq (x : Mv) : fStp (eMv x) = isStp x := by
  obtain ⟨wd, n, h1, h2⟩ := mv_word x
  rw [h1, ← h2] <;> rfl
theorem ok_costs (T : Txt K mg w) (F : FnD K d_costs) (G_Machine_run : Ok P w K mg base 10 (He.ma K (He.ga K "Machine") "run") ["self", "moves"] (spMRun K)) (G_Machine_start : Ok P w K mg base 3 (pg K "Machine" "start") ["self"] (spStart K)) (G_sent_messages : Ok P w K mg base 3 (He.ga K "sent_messages") ["before", "state", "move"] (spSent K)) : Ok P w K mg base 11 (He.ga K "costs") ["machine", "moves"] (spCosts K) := by
  have sc : FnScope ["machine", "moves", "rows", "words", "before", "steps", "messages", "passed", "move", "sent", "state", "event"] ["machine", "moves"] (defScope s_costs) := ⟨rfl, rfl, rfl, by decide +kernel, rfl, by decide +kernel, by decide +kernel⟩
  let nm : List Str := ["machine", "moves", "rows", "words", "before", "steps", "messages", "passed", "move", "sent", "state", "event"]
  refine ok_of F rfl rfl sc (fun _ _ _ _ _ _ us hl => match us, hl with | [_, _], _ => rfl) (fun vs H Q E h => ?_) (fun cdv A outer s H vs Q E hr h => ?_)
  · obtain ⟨m, M, p, xs, ms, rfl, _⟩ := h
    rfl
  · obtain ⟨m, M, p, xs, ms, rfl, hm, hp, tms, hml, hok, hF, hns, hnsl, k⟩ := h
    refine ⟨_, (pss_cons (ps_set (i := 2) sc.nd rfl (by first | exact Or.inl rfl | exact Or.inr rfl) (pe_methO (pv 0) T.cls_Machine T.meth_Machine_run G_Machine_run (hr.mono (by decide)) (pa_cons (pv 1) pa_nil))) (pss_cons (ps_setLc (i := 3) (own := [("state", 10), ("event", 11)]) (g := (gTup K 2 (gCons (gName 10) (gCons (gName 11) gNil)))) (by rfl) sc.nd rfl rfl (sw_true rfl rfl rfl (by decide +kernel)) (pi_list (pv 2)) (blkOk_by (own := [("state", 10), ("event", 11)]) (N := nm) (sc := defScope s_costs) (by decide +kernel)) (fun _ _ _ _ _ => (pg_tup rfl (pgs_cons (pg_name (i := 10) sc.nd rfl (by first | exact Or.inl rfl | exact Or.inr rfl)) (pgs_cons (pg_name (i := 11) sc.nd rfl (by first | exact Or.inl rfl | exact Or.inr rfl)) pgs_nil)))) (fun _ _ _ _ _ => pts_nil) (fun _ _ _ _ _ => (pe_ix (show IxR _ (rIxT K) from ix_tup) (pv 11) pe_int (fun _ _ => rfl)))) (pss_cons (ps_asg (pe_tup (pa_cons pe_int (pa_cons pe_int pa_nil))) (pg_tup rfl (pgs_cons (pg_name (i := 6) sc.nd rfl (by first | exact Or.inl rfl | exact Or.inr rfl)) (pgs_cons (pg_name (i := 7) sc.nd rfl (by first | exact Or.inl rfl | exact Or.inr rfl)) pgs_nil)))) (pss_cons (ps_set (i := 4) sc.nd rfl (by first | exact Or.inl rfl | exact Or.inr rfl) (pe_propO (pv 0) T.cls_Machine T.prop_Machine_start G_Machine_start (hr.mono (by decide)) rfl)) (pss_cons (ps_for PassesOwn.never rfl (RZ.pi_zipA (by rfl) T.free_zip (pa_cons (pv 1) (pa_cons (pv 2) pa_nil))) (pg_tup rfl (pgs_cons (pg_name (i := 8) sc.nd rfl (by first | exact Or.inl rfl | exact Or.inr rfl)) (pgs_cons (pg_tup rfl (pgs_cons (pg_name (i := 10) sc.nd rfl (by first | exact Or.inl rfl | exact Or.inr rfl)) (pgs_cons (pg_name (i := 11) sc.nd rfl (by first | exact Or.inl rfl | exact Or.inr rfl)) pgs_nil))) pgs_nil))) (pss_cons (ps_set (i := 9) sc.nd rfl (by first | exact Or.inl rfl | exact Or.inr rfl) (pe_callO G_sent_messages (hr.mono (by decide)) (by rfl) T.glo_sent_messages (pa_cons (pv 4) (pa_cons (pv 10) (pa_cons (pv 8) pa_nil))))) (pss_cons (ps_aug (i := 6) sc.nd rfl (by first | exact Or.inl rfl | exact Or.inr rfl) (pv 9) ip_add) (pss_cons (ps_aug (i := 7) sc.nd rfl (by first | exact Or.inl rfl | exact Or.inr rfl) (pe_ifExp (pt_cmpR op_in_seq (pe_ix ix_tup (pv 11) pe_int (fun _ _ => rfl)) (pe_tup (pa_cons pe_str (pa_cons pe_str pa_nil))) (by rfl)) (pv 9) pe_int) ip_add) (pss_one (ps_set (i := 4) sc.nd rfl (by first | exact Or.inl rfl | exact Or.inr rfl) (pv 10))))))) (pss_cons (ps_set (i := 5) sc.nd rfl (by first | exact Or.inl rfl | exact Or.inr rfl) (pe_callB Ru.cr_len (by rfl) T.free_len PySem.boot_len (pa_cons (pe_lc (own := [("move", 8)]) (g := (gName 8)) (by rfl) sc.nd (pi_list (pv 1)) (blkOk_by (own := [("move", 8)]) (N := nm) (sc := defScope s_costs) (by decide +kernel)) (fun _ _ _ _ _ => (pg_name (i := 8) sc.nd rfl (by first | exact Or.inl rfl | exact Or.inr rfl))) (fun _ _ _ _ _ => pts_one (pt_cmpR op_eq (pe_ix (show IxR _ (rIxT K) from ix_tup) (pv 8) pe_int (fun _ _ => rfl)) pe_str (nomark _))) (fun _ _ _ _ _ => (pv 8))) pa_nil))) (pss_one (ps_ret (pe_tup (pa_cons (pv 5) (pa_cons (pe_bm PySem.F.plainAttrs_list PySem.F.slot_list_count PySem.F.type_list_count Ru.mt_scount (pv 3) (pa_cons pe_str pa_nil)) (pa_cons (pe_bm PySem.F.plainAttrs_list PySem.F.slot_list_count PySem.F.type_list_count Ru.mt_scount (pv 3) (pa_cons pe_str pa_nil)) (pa_cons (pe_bm PySem.F.plainAttrs_list PySem.F.slot_list_count PySem.F.type_list_count Ru.mt_scount (pv 3) (pa_cons pe_str pa_nil)) (pa_cons (pv 6) (pa_cons (pv 7) pa_nil))))))))))))))), ?_⟩
    obtain ⟨dxm, pm, hm1, hm2⟩ := hm
    have hm : Mac K H m M := ⟨dxm, pm, hm1, hm2⟩
    have hxl : xs.length = ms.length := by rw [tms.length, List.length_map]
    refine q_asgE (te_meth ((ev_var (v := .ref m) rfl) H (Ex.refl _) _ fun H1 e1 => ⟨m, dxm, _, rfl, e1 _ _ hm1, no_Machine_run, (ev_var (v := .ref p) rfl) H1 (Ex.refl _) _ fun H2 e2 => ?_⟩))
    have e02 := e1.trans e2
    refine ⟨m, M, p, xs, ms, rfl, hm.ex e02, e02 _ _ hp, tms.ex e02, hml, hok, hF, hns, hnsl, fun rp H3 ys hrp e3 h3 hrows => ?_⟩
    dsimp only [gName]
    have e03 := e02.trans e3
    let rs := runM M (start M) ms
    have hrl : rs.length = ms.length := runM_len ms _
    have hyl : ys.length = ms.length := by rw [hrows.1, hrl]
    let wd : Nat → Str := fun i => (rs[i]?.map fun r => evW r.2).getD "hit"
    refine q_asgL (xs := (rs.map fun r => evW r.2).map V.str) (fun H4 e4 Q' q => el_lcLg (fun i => .str (wd i)) (ev_var rfl) (SqL.of h3) (by omega) (fun i x H5 e5 hx Q2 q2 => ?_) H4 e4 Q' ?_) fun wp H4 hwp e4 h4 => ?_
    · have hi : i < rs.length := by rw [hrl, ← hyl]; exact (List.getElem?_eq_some_iff.mp hx).1
      obtain ⟨a, st, ve, rfl, hs, hst, tve⟩ := hrows.2 i x rs[i] hx (List.getElem?_eq_getElem hi)
      refine ⟨a, _, rfl, ex_t e5 hs, rfl, g2 (q2 _ rfl ?_)⟩
      obtain ⟨ds, hds⟩ := ev_word rs[i].2
      have tve5 := tve.ex e5
      rw [hds] at tve5
      have hw : wd i = evW rs[i].2 := by
        show (rs[i]?.map _).getD _ = _
        rw [List.getElem?_eq_getElem hi] <;> rfl
      rw [hw]
      exact (ed_ixT (j := 0) (d := .str (evW rs[i].2)) (ed_var (i := 11) rfl tve5) ev_c (Evl.ixN_nat (j := 0) (Nat.succ_pos _)) rfl).str
    · have : given ys.length (fun _ => true) (fun i => V.str (wd i)) = (rs.map fun r => evW r.2).map V.str := by
        rw [given_all]
        apply List.ext_getElem?
        intro i
        rw [List.getElem?_map, List.getElem?_map, List.getElem?_map]
        by_cases hi : i < rs.length
        · rw [List.getElem?_eq_getElem hi, List.getElem?_range (by omega)]
          show some (V.str (wd i)) = _
          show some (V.str ((rs[i]?.map _).getD _)) = _
          rw [List.getElem?_eq_getElem hi] <;> rfl
        · rw [List.getElem?_eq_none (by rw [List.length_range]; omega), List.getElem?_eq_none (by show rs.length ≤ i; omega)] <;> rfl
      rw [this]
      exact q
    have e04 := e03.trans e4
    refine q_asg2D (K := K) (d1 := .int 0) (d2 := .int 0) rfl (ed_tup (el_cons (ed_int ev_c) (el_cons (ed_int ev_c) el_nil)) ble) fun z1 z2 H5 e5 tz1 tz2 => ?_
    obtain rfl := Td.int_iff.mp tz1
    obtain rfl := Td.int_iff.mp tz2
    have e05 := e04.trans e5
    refine q_asgE (ev_start (C := True) (hm.ex e05) hF hns hnsl (ev_var rfl) H5 (Ex.refl _) _ fun st0 H6 e6 hst0 => ?_)
    dsimp only [gName]
    have e06 := e05.trans e6
    have hp6 := e06 _ _ hp
    have y6 := ((e4.trans e5).trans e6) _ _ h3
    have w6 := (e5.trans e6) _ _ h4
    let P : Nat → L2.St → Hp → Prop := fun i σ' H' => i ≤ ms.length ∧ Ex H6 H' ∧ (σ'.length = 12 ∧ σ'[0]? = some (some (.ref m)) ∧ σ'[1]? = some (some (.ref p)) ∧ σ'[2]? = some (some (.ref rp)) ∧ σ'[3]? = some (some (.ref wp))) ∧ (∃ st, σ'[4]? = some (some (.ref st)) ∧ StA K H' st (endM M (start M) (ms.take i))) ∧ σ'[6]? = some (some (.int (mesM M (start M) (ms.take i)))) ∧ σ'[7]? = some (some (.int (pasM M (start M) (ms.take i))))
    refine q_forZL (K := K) (ev_var rfl) (ev_var rfl) (SqL.of hp6) (SqL.of y6) (by omega) P (fun H8 e68 => ⟨Nat.zero_le _, e68, ⟨rfl, rfl, rfl, rfl, rfl⟩, ⟨st0, rfl, hst0.ex e68⟩, rfl, rfl⟩) (fun i σ' H' q => ⟨SqL.of (q.2.1 _ _ hp6), SqL.of (q.2.1 _ _ y6)⟩) (fun i x y Tu σ' H' hx hy q hT => ?_) fun σ' H' q => ?_
    · obtain ⟨q0, q1, ⟨q2, q3, q4, q5, q6⟩, ⟨st, q7, q8⟩, q9, q10⟩ := q
      obtain ⟨d, hd, td⟩ := tms.get' hx
      rw [List.getElem?_map] at hd
      obtain ⟨mv, hmv, rfl⟩ := Option.map_eq_some_iff.mp hd
      have hri := run_at (M := M) (D := start M) hmv
      obtain ⟨a, st2, ve, rfl, hs, hst2, tve⟩ := hrows.2 i y _ hy hri
      have eT : Ex H' (upd H' Tu (.tup [x, .ref a])) := Ex.new hT
      have e3T : Ex H3 (upd H' Tu (.tup [x, .ref a])) := (((e4.trans e5).trans e6).trans q1).trans eT
      refine ⟨Tu, [x, .ref a], rfl, .inl (.inl upd_same), rfl, _, _, rfl, _, _, rfl, ⟨a, _, rfl, ex_t e3T hs, rfl, g2 ⟨rfl, ?_⟩⟩⟩
      have k3 : ∀ {j : Nat} {o : Option (Option V)}, σ'[j]? = o → j ≠ 8 → j ≠ 10 → j ≠ 11 → (((σ'.set 8 (some x)).set 10 (some (.ref st2))).set 11 (some ve))[j]? = o := fun {j o} h h1 h2 h3 => by rw [List.getElem?_set_ne (Ne.symm h3), List.getElem?_set_ne (Ne.symm h2), List.getElem?_set_ne (Ne.symm h1)]; exact h
      have v0 := k3 q3 (by decide) (by decide) (by decide)
      have v1 := k3 q4 (by decide) (by decide) (by decide)
      have v2 := k3 q5 (by decide) (by decide) (by decide)
      have v3 := k3 q6 (by decide) (by decide) (by decide)
      have v4 := k3 q7 (by decide) (by decide) (by decide)
      have v6 := k3 q9 (by decide) (by decide) (by decide)
      have v7 := k3 q10 (by decide) (by decide) (by decide)
      have v8 : (((σ'.set 8 (some x)).set 10 (some (.ref st2))).set 11 (some ve))[8]? = some (some x) := by rw [List.getElem?_set_ne (by decide), List.getElem?_set_ne (by decide), List.getElem?_set_self (by omega)]
      have v10 : (((σ'.set 8 (some x)).set 10 (some (.ref st2))).set 11 (some ve))[10]? = some (some (.ref st2)) := by rw [List.getElem?_set_ne (by decide), List.getElem?_set_self (by rw [List.length_set]; omega)]
      have v11 : (((σ'.set 8 (some x)).set 10 (some (.ref st2))).set 11 (some ve))[11]? = some (some ve) := List.getElem?_set_self (by rw [List.length_set, List.length_set]; omega)
      have vl : (((σ'.set 8 (some x)).set 10 (some (.ref st2))).set 11 (some ve)).length = 12 := by rw [List.length_set, List.length_set, List.length_set]; exact q2
      generalize (((σ'.set 8 (some x)).set 10 (some (.ref st2))).set 11 (some ve)) = σ1 at v0 v1 v2 v3 v4 v6 v7 v8 v10 v11 vl ⊢
      generalize hHT : upd H' Tu (.tup [x, .ref a]) = HT at eT e3T ⊢
      have e6T := q1.trans eT
      have e0T : Ex H HT := e06.trans e6T
      let D' := endM M (start M) (ms.take i)
      have tk1 : ms.take (i + 1) = ms.take i ++ [mv] := by rw [List.take_add_one, hmv] <;> rfl
      refine q_asg (v := .int (sentM D' (stepM M D' mv).1 mv)) (ev_call (ea_cons (ev_var v4) (ea_cons (ev_var v10) (ea_cons (ev_var v8) ea_nil))) fun H9 e9 Q' q E' => ⟨st, D', st2, _, x, mv, rfl, (q8.ex eT).ex e9, (hst2.ex e3T).ex e9, (td.ex e0T).ex e9, fun H10 e10 => q H10 e10⟩) fun H9 e9 => ?_
      have u9 : (σ1.set 9 (some (.int (sentM D' (stepM M D' mv).1 mv))))[9]? = some (some (.int (sentM D' (stepM M D' mv).1 mv))) := List.getElem?_set_self (by omega)
      have k9 : ∀ {j : Nat} {o : Option (Option V)}, σ1[j]? = o → j ≠ 9 → (σ1.set 9 (some (.int (sentM D' (stepM M D' mv).1 mv))))[j]? = o := fun {j o} h h1 => by rw [List.getElem?_set_ne (Ne.symm h1)]; exact h
      have u0 := k9 v0 (by decide)
      have u1 := k9 v1 (by decide)
      have u2 := k9 v2 (by decide)
      have u3 := k9 v3 (by decide)
      have u6 := k9 v6 (by decide)
      have u7 := k9 v7 (by decide)
      have u10 := k9 v10 (by decide)
      have u11 := k9 v11 (by decide)
      have ul : (σ1.set 9 (some (.int (sentM D' (stepM M D' mv).1 mv)))).length = 12 := by rw [List.length_set]; exact vl
      generalize (σ1.set 9 (some (.int (sentM D' (stepM M D' mv).1 mv)))) = σ2 at u0 u1 u2 u3 u6 u7 u9 u10 u11 ul ⊢
      refine Evl.q_aug u6 (ev_var u9) fun H10 e10 => ?_
      have k6 : ∀ {j : Nat} {o : Option (Option V)}, σ2[j]? = o → j ≠ 6 → (σ2.set 6 (some (.int (mesM M (start M) (ms.take i) + sentM D' (stepM M D' mv).1 mv))))[j]? = o := fun {j o} h h1 => by rw [List.getElem?_set_ne (Ne.symm h1)]; exact h
      have w6' : (σ2.set 6 (some (.int (mesM M (start M) (ms.take i) + sentM D' (stepM M D' mv).1 mv))))[6]? = some (some (.int (mesM M (start M) (ms.take i) + sentM D' (stepM M D' mv).1 mv))) := List.getElem?_set_self (by omega)
      have w0 := k6 u0 (by decide)
      have w1 := k6 u1 (by decide)
      have w2 := k6 u2 (by decide)
      have w3 := k6 u3 (by decide)
      have w7 := k6 u7 (by decide)
      have w9 := k6 u9 (by decide)
      have w10 := k6 u10 (by decide)
      have w11 := k6 u11 (by decide)
      have wl : (σ2.set 6 (some (.int (mesM M (start M) (ms.take i) + sentM D' (stepM M D' mv).1 mv)))).length = 12 := by rw [List.length_set]; exact ul
      generalize (σ2.set 6 (some (.int (mesM M (start M) (ms.take i) + sentM D' (stepM M D' mv).1 mv)))) = σ3 at w0 w1 w2 w3 w6' w7 w9 w10 w11 wl ⊢
      obtain ⟨ds, hds⟩ := ev_word (stepM M D' mv).2
      have eT10 := e9.trans e10
      have tve10 := (tve.ex e3T).ex eT10
      rw [show eEv (stepM M (endM M (start M) (ms.take i)) mv).2 = _ from hds] at tve10
      refine Evl.q_aug (b := if isPS (stepM M D' mv).2 then sentM D' (stepM M D' mv).1 mv else 0) w7 (ev_if (b := isPS (stepM M D' mv).2) (et_test (ev_is (ev_inU (ed_ixT (j := 0) (d := .str (evW (stepM M D' mv).2)) (ed_var w11 tve10) ev_c (Evl.ixN_nat (j := 0) (Nat.succ_pos _)) rfl).str (eu_tup (ea_cons ev_c (ea_cons ev_c ea_nil)) (by show 2 ≤ _; decide)) rfl rfl) (congrArg V.bl (ev_ps _)))) (fun hb => by rw [if_pos hb]; exact ev_var w9) fun hb => by rw [if_neg (by rw [hb]; decide)]; exact ev_c) fun H11 e11 => ?_
      have eT11 := eT10.trans e11
      refine s_asg (v := .ref st2) (ev_var (by rw [List.getElem?_set_ne (by decide)]; exact w10)) fun H12 e12 => ?_
      have eT12 := eT11.trans e12
      have kf : ∀ {j : Nat} {o : Option (Option V)} (u v : Option V), σ3[j]? = o → j ≠ 7 → j ≠ 4 → ((σ3.set 7 u).set 4 v)[j]? = o := fun {j o} u v h h1 h2 => by rw [List.getElem?_set_ne (Ne.symm h2), List.getElem?_set_ne (Ne.symm h1)]; exact h
      refine ⟨(List.getElem?_eq_some_iff.mp hmv).1, e6T.trans eT12, ⟨by rw [List.length_set, List.length_set]; exact wl, kf _ _ w0 (by decide) (by decide), kf _ _ w1 (by decide) (by decide), kf _ _ w2 (by decide) (by decide), kf _ _ w3 (by decide) (by decide)⟩, ⟨st2, List.getElem?_set_self (by rw [List.length_set]; omega), ?_⟩, ?_, ?_⟩
      · rw [tk1, endM_snoc]
        exact (hst2.ex e3T).ex eT12
      · rw [tk1, mesM_snoc]
        exact kf _ _ w6' (by decide) (by decide)
      · rw [tk1, pasM_snoc, List.getElem?_set_ne (by decide), List.getElem?_set_self (by omega)]
    · obtain ⟨q0, q1, ⟨q2, q3, q4, q5, q6⟩, ⟨st, q7, q8⟩, q9, q10⟩ := q
      rw [hxl, List.take_of_length_le (Nat.le_refl _)] at q9 q10
      have e0f := e06.trans q1
      refine q_asg (v := .int (ms.countP isStp : Nat)) (ev_is (ev_cntL (K := K) fStp (ev_var q4) (SqL.of (q1 _ _ hp6)) (tms.ex e0f) wipe1 (fun x => ?_) (by rw [List.length_map]; omega) fun i x d H9 e9 hd tx => ?_) ?_) fun H9 e9 => ?_
      · exact List.getElem?_set_self (by show 8 < (σ'.set 8 none).length; rw [List.length_set]; omega)
      · rw [List.getElem?_map] at hd
        obtain ⟨mv, hmv, rfl⟩ := Option.map_eq_some_iff.mp hd
        obtain ⟨wd2, n, h1, h2⟩ := mv_word mv
        rw [fStp_eq, ← h2]
        rw [h1] at tx
        exact et_test (ev_op (ed_ixT (j := 0) (d := .str wd2) (ed_var (List.getElem?_set_self (by show 8 < (σ'.set 8 none).length; rw [List.length_set]; omega)) tx) ev_c rfl rfl).str ev_c (rv_eq rfl))
      · rw [List.countP_map, show (fStp ∘ eMv) = isStp from funext fStp_eq]
      · have x5 : (σ'.set 5 (some (.int (ms.countP isStp : Nat))))[5]? = some (some (.int (ms.countP isStp : Nat))) := List.getElem?_set_self (by omega)
        have x3 : (σ'.set 5 (some (.int (ms.countP isStp : Nat))))[3]? = some (some (.ref wp)) := by rw [List.getElem?_set_ne (by decide)]; exact q6
        have x6 : (σ'.set 5 (some (.int (ms.countP isStp : Nat))))[6]? = some (some (.int (mesM M (start M) ms))) := by rw [List.getElem?_set_ne (by decide)]; exact q9
        have x7 : (σ'.set 5 (some (.int (ms.countP isStp : Nat))))[7]? = some (some (.int (pasM M (start M) ms))) := by rw [List.getElem?_set_ne (by decide)]; exact q10
        generalize (σ'.set 5 (some (.int (ms.countP isStp : Nat)))) = σ1 at x3 x5 x6 x7 ⊢
        have w9 := e9 _ _ (q1 _ _ w6)
        have ecnt : ∀ wd0 : Str, Ev (tBM K "list" (Ru.rCntS K) (tVar 3) (tCons (tC (V.str wd0)) tNil)) σ1 H9 (.int (cntM M wd0 (start M) ms : Nat)) := fun wd0 H10 e10 Q' q => (ev_var x3) H10 e10 _ fun H11 e11 => ⟨Or.inl ⟨rfl, _, sq_of ((e10.trans e11) _ _ w9)⟩, ⟨wp, _, wd0, rfl, rfl, SqL.of ((e10.trans e11) _ _ w9), q H11 e11⟩⟩
        refine s_retD (K := K) (d := .tuple ((costM M ms).map .int)) (ed_tup (el_cons (ed_int (ev_var x5)) (el_cons (ed_int (ecnt "hit")) (el_cons (ed_int (ecnt "open")) (el_cons (ed_int (ecnt "batch")) (el_cons (ed_int (ev_var x6)) (el_cons (ed_int (ev_var x7)) el_nil)))))) ble) fun v H10 e10 t10 => k v H10 ((e0f.trans e9).trans e10) t10

end
end Rp
set_option Elab.async false
set_option linter.all false
set_option maxRecDepth 100000
set_option maxHeartbeats 4000000
set_option autoImplicit false
/-! The law's own def keeps its promise with its very function object. -/
namespace Hf
open PySem PySem.Spec PyProof.Rows L2
theorem ok_ofF {P : Program} {w : World} {K : Fr} {mg : Str → Option Value} {base : Heap} {d : DX} {fd : FuncData} {N ps : List Str} {k : Nat} {sp : Sp} (F : FunD K d.name d.qual (defArgs d.st) (defBody d.st) (defScope d.st) (d.dvs K) (d.kws K) (d.adr K) fd) (hdf : d.dfl = []) (hkw : d.kwd = []) (S : FnScope N ps (defScope d.st))
    (hb : ∀ (kV doc pm : Value) (an : Option Addr) (cdv ct : Value) (us : List Value), us.length = ps.length → bindArgs (PySem.W.fnOf d.name d.qual (defArgs d.st) (defBody d.st) (defScope d.st) .none kV doc pm an cdv ct) ⟨us, []⟩ = pure (ps.zip us))
    (len : ∀ vs H Q E, sp vs H Q E → vs.length = ps.length)
    (hbody : ∀ (cdv : Value) (A : Around) (outer : List Env) (s : Shared) (H : Hp) (vs : List V) (Q : VK) (E : XK), Room k (A.deeper (envOfC d.qual (defScope d.st) s.heap.objs.size (d.adr K) cdv)) → sp vs H Q E →
      ∃ t, PSs (cxOf CX0 P w K mg base N d.qual (defScope d.st) (d.adr K) cdv A outer s H E).nox (defBody d.st) t ∧ t { nx := fun _ H' => Q .non H', rt := Q } (start N vs) H) : FnOk P w K mg base CX0 (k + 1) (d.adr K) fd ps sp := by
  have e1 : d.dvs K = [] := by
    show d.dfl.map _ = []
    rw [hdf] <;> rfl
  have e2 : d.kws K = [] := by
    show d.kwd.map _ = []
    rw [hkw] <;> rfl
  rw [e1, e2] at F
  exact F.ok S len fun cdv A outer s H vs Q E hr h => by
    obtain ⟨t, h1, h2⟩ := hbody cdv A outer s H vs Q E hr h
    exact ⟨t, h1.nox, h2⟩
end Hf
set_option Elab.async false
set_option linter.all false
set_option maxRecDepth 100000
set_option maxHeartbeats 4000000
set_option autoImplicit false
namespace Rp
open PySem PySem.Spec PyProof.Rows L2 Mx Evl Hf
section
variable {P : Program} {w : World} {K : Frg} {mg : Str → Option Value} {base : Heap}
theorem ok_law (MM : ∀ M, OkM M → MathM M) (T : Txt K mg w) {fd : FuncData} (F : FunD K d_law.name d_law.qual (defArgs d_law.st) (defBody d_law.st) (defScope d_law.st) (d_law.dvs K) (d_law.kws K) (d_law.adr K) fd) (G_Machine_batch : Ok P w K mg base 1 (pg K "Machine" "batch") ["self"] (spSet K 4)) (G_law_machine : Ok P w K mg base 8 (He.ga K "_law_machine") ["_law_m", "_law_wrong"] (spMachL K)) (G_law_open : Ok P w K mg base 3 (He.ga K "_law_open") ["_law_state"] (spOpenL K)) (G_law_pair : Ok P w K mg base 2 (He.ga K "_law_pair") ["_law_pool_here", "_law_sockets", "_law_kinds", "_law_cells", "_law_most"] (spPairL K)) (G_law_pool : Ok P w K mg base 1 (He.ga K "_law_pool") ["_law_script", "_law_k"] (spPoolL K)) (G_law_run : Ok P w K mg base 10 (He.ga K "_law_run") ["_law_pool_here", "_law_machine_here", "_law_most"] (spRunL K)) (G_law_take : Ok P w K mg base 1 (He.ga K "_law_take") ["_law_pool_here", "_law_many"] (spTakeL K)) (G_costs : Ok P w K mg base 11 (He.ga K "costs") ["machine", "moves"] (spCosts K)) : FnOk P w K mg base CX0 12 (He.ga K "law") fd ["_law_script"] (spLaw K) := by
  have sc : FnScope ["_law_script", "_law_k", "_law_pool_here", "_law_threads", "_law_m", "_law_machine_here", "_law_rows", "_law_many", "_law_sockets", "_law_cells", "_law_given", "_law_before", "_law_told", "_law_state", "_law_row", "_law_index"] ["_law_script"] (defScope s_law) := ⟨rfl, rfl, rfl, by decide +kernel, rfl, by decide +kernel, by decide +kernel⟩
  let nm : List Str := ["_law_script", "_law_k", "_law_pool_here", "_law_threads", "_law_m", "_law_machine_here", "_law_rows", "_law_many", "_law_sockets", "_law_cells", "_law_given", "_law_before", "_law_told", "_law_state", "_law_row", "_law_index"]
  refine ok_ofF F rfl rfl sc (fun _ _ _ _ _ _ us hl => match us, hl with | [_], _ => rfl) (fun vs H Q E h => ?_) (fun cdv A outer s H vs Q E hr h => ?_)
  · obtain ⟨p, xs, rfl, _⟩ := h
    rfl
  · obtain ⟨p, xs, rfl, hp, hxl, k⟩ := h
    refine ⟨_, (pss_cons (ps_for PassesOwn.never rfl (pi_range1 (by rfl) T.free_range (pa_cons (pe_callB (call_max2 rfl) (by rfl) T.free_max (by decide +kernel) (pa_cons pe_int (pa_cons (pe_callB (call_min2 rfl) (by rfl) T.free_min (by decide +kernel) (pa_cons (pe_callB Ru.cr_len (by rfl) T.free_len PySem.boot_len (pa_cons (pv 0) pa_nil)) (pa_cons pe_int pa_nil))) pa_nil))) pa_nil)) (pg_name (i := 1) sc.nd rfl (by first | exact Or.inl rfl | exact Or.inr rfl)) (pss_cons (ps_set (i := 2) sc.nd rfl (by first | exact Or.inl rfl | exact Or.inr rfl) (pe_callO G_law_pool (hr.mono (by decide)) (by rfl) T.glo_law_pool (pa_cons (pv 0) (pa_cons (pv 1) pa_nil)))) (pss_cons (ps_par (i := 8) (j := 9) (by rfl) sc.nd rfl rfl (by decide) rfl rfl (pa_cons (pe_op op_add pe_int (pe_callO G_law_take (hr.mono (by decide)) (by rfl) T.glo_law_take (pa_cons (pv 2) (pa_cons pe_int pa_nil)))) (pa_cons (pe_op op_add pe_int (pe_callO G_law_take (hr.mono (by decide)) (by rfl) T.glo_law_take (pa_cons (pv 2) (pa_cons pe_int pa_nil)))) pa_nil)) (by rfl)) (pss_cons (ps_set (i := 3) sc.nd rfl (by first | exact Or.inl rfl | exact Or.inr rfl) (pe_op op_cat (pe_callO G_law_pair (hr.mono (by decide)) (by rfl) T.glo_law_pair (pa_cons (pv 2) (pa_cons (pv 8) (pa_cons pe_int (pa_cons (pv 9) (pa_cons pe_int pa_nil)))))) (pe_revL (pe_callO G_law_pair (hr.mono (by decide)) (by rfl) T.glo_law_pair (pa_cons (pv 2) (pa_cons (pv 8) (pa_cons pe_int (pa_cons (pv 9) (pa_cons pe_int pa_nil))))))))) (pss_cons (ps_set (i := 4) sc.nd rfl (by first | exact Or.inl rfl | exact Or.inr rfl) (pe_tup (pa_cons (pv 8) (pa_cons (pe_tup (pa_cons (pe_op op_add pe_int (pe_callO G_law_take (hr.mono (by decide)) (by rfl) T.glo_law_take (pa_cons (pv 2) (pa_cons pe_int pa_nil)))) pa_nil)) (pa_cons (pe_callTy Ru.cr_tup (by rfl) T.free_tuple (by decide +kernel) (pa_cons (pv 3) pa_nil)) (pa_cons pe_int (pa_cons (pe_op op_add pe_int (pe_callO G_law_take (hr.mono (by decide)) (by rfl) T.glo_law_take (pa_cons (pv 2) (pa_cons pe_int pa_nil)))) (pa_cons pe_int (pa_cons (pv 9) (pa_cons pe_int pa_nil)))))))))) (pss_cons (ps_set (i := 5) sc.nd rfl (by first | exact Or.inl rfl | exact Or.inr rfl) (pe_callO G_law_machine (hr.mono (by decide)) (by rfl) T.glo_law_machine (pa_cons (pv 4) (pa_cons pe_non pa_nil)))) (pss_cons (ps_set (i := 6) sc.nd rfl (by first | exact Or.inl rfl | exact Or.inr rfl) (pe_callO G_law_run (hr.mono (by decide)) (by rfl) T.glo_law_run (pa_cons (pv 2) (pa_cons (pv 5) (pa_cons pe_int pa_nil))))) (pss_cons (ps_asg (pe_tup (pa_cons (pe_lc (own := [("_law_row", 14)]) (g := (gName 14)) (by rfl) sc.nd (pi_list (pv 6)) (blkOk_by (own := [("_law_row", 14)]) (N := nm) (sc := defScope s_law) (by decide +kernel)) (fun _ _ _ _ _ => (pg_name (i := 14) sc.nd rfl (by first | exact Or.inl rfl | exact Or.inr rfl))) (fun _ _ _ _ _ => pts_nil) (fun _ _ _ _ _ => (pe_ix (show IxR _ (rIxT K) from ix_tup) (pv 14) pe_int (fun _ _ => rfl)))) (pa_cons (pe_tup (pa_cons pe_int (pa_cons pe_int (pa_cons pe_int (pa_cons pe_int (pa_cons pe_int (pa_cons pe_int pa_nil))))))) pa_nil))) (pg_tup rfl (pgs_cons (pg_name (i := 10) sc.nd rfl (by first | exact Or.inl rfl | exact Or.inr rfl)) (pgs_cons (pg_name (i := 11) sc.nd rfl (by first | exact Or.inl rfl | exact Or.inr rfl)) pgs_nil)))) (pss_one (ps_for PassesOwn.never rfl (pi_list (pe_callB cr_sorted (by rfl) T.free_sorted (by decide +kernel) (pa_cons (pe_lst (pa_cons (pe_op op_add (pe_callO G_law_take (hr.mono (by decide)) (by rfl) T.glo_law_take (pa_cons (pv 2) (pa_cons (pe_callB Ru.cr_len (by rfl) T.free_len PySem.boot_len (pa_cons (pv 6) pa_nil)) pa_nil))) pe_int) (pa_cons (pe_op op_add (pe_op op_fdiv (pe_callB Ru.cr_len (by rfl) T.free_len PySem.boot_len (pa_cons (pv 6) pa_nil)) pe_int) pe_int) (pa_cons (pe_callB Ru.cr_len (by rfl) T.free_len PySem.boot_len (pa_cons (pv 6) pa_nil)) pa_nil)))) pa_nil))) (pg_name (i := 7) sc.nd rfl (by first | exact Or.inl rfl | exact Or.inr rfl)) (pss_cons (ps_asg (pe_tup (pa_cons (pe_callO G_costs (hr.mono (by decide)) (by rfl) T.glo_costs (pa_cons (pv 5) (pa_cons (pe_slice sl_list (pv 10) po_none (po_some (pv 7))) pa_nil))) (pa_cons (pe_ix ix_tup (pe_ix ix_list (pv 6) (pe_op op_sub (pv 7) pe_int) (fun _ _ => rfl)) pe_int (fun _ _ => rfl)) pa_nil))) (pg_tup rfl (pgs_cons (pg_name (i := 12) sc.nd rfl (by first | exact Or.inl rfl | exact Or.inr rfl)) (pgs_cons (pg_name (i := 13) sc.nd rfl (by first | exact Or.inl rfl | exact Or.inr rfl)) pgs_nil)))) (pss_cons (ps_if (pt_cmpR op_gt (pe_op op_add (pe_op op_fdiv (pe_ix ix_tup (pv 12) pe_int (fun _ _ => rfl)) (pe_propO (pv 5) T.cls_Machine T.prop_Machine_batch G_Machine_batch (hr.mono (by decide)) rfl)) (pe_ix ix_tup (pv 12) pe_int (fun _ _ => rfl))) (pe_op op_add (pe_ix ix_tup (pv 12) pe_int (fun _ _ => rfl)) (pe_callO G_law_open (hr.mono (by decide)) (by rfl) T.glo_law_open (pa_cons (pv 13) pa_nil))) (nomark _)) (pss_one ps_never) pss_nil) (pss_cons (ps_if (pt_cmpR (op_neD hr.units) (pe_lc (own := [("_law_index", 15)]) (g := (gName 15)) (by rfl) sc.nd (pi_range1 (by rfl) T.free_range (pa_cons pe_int pa_nil)) (blkOk_by (own := [("_law_index", 15)]) (N := nm) (sc := defScope s_law) (by decide +kernel)) (fun _ _ _ _ _ => (pg_name (i := 15) sc.nd rfl (by first | exact Or.inl rfl | exact Or.inr rfl))) (fun _ _ _ _ _ => pts_one (pt_cmpR op_lt (pe_ix (show IxR _ (rIxT K) from ix_tup) (pv 12) (pv 15) (fun _ _ => rfl)) (pe_ix (show IxR _ (rIxT K) from ix_tup) (pv 11) (pv 15) (fun _ _ => rfl)) (nomark _))) (fun _ _ _ _ _ => (pv 15))) (pe_lst pa_nil) (nomark _)) (pss_one ps_never) pss_nil) (pss_cons (ps_if (PW.pt (pw_and (pt_cmpR op_notIn_seq pe_str (pe_lc (own := [("_law_row", 14)]) (g := (gName 14)) (by rfl) sc.nd (pi_list (pe_slice sl_list (pv 6) po_none (po_some (pv 7)))) (blkOk_by (own := [("_law_row", 14)]) (N := nm) (sc := defScope s_law) (by decide +kernel)) (fun _ _ _ _ _ => (pg_name (i := 14) sc.nd rfl (by first | exact Or.inl rfl | exact Or.inr rfl))) (fun _ _ _ _ _ => pts_nil) (fun _ _ _ _ _ => (pe_ix (show IxR _ (rIxT K) from ix_tup) (pe_ix (show IxR _ (rIxT K) from ix_tup) (pv 14) pe_int (fun _ _ => rfl)) pe_int (fun _ _ => rfl)))) (by rfl)) (pw_and1 (pt_cmpR op_ne (pe_ix ix_tup (pv 12) pe_int (fun _ _ => rfl)) pe_int (nomark _))))) (pss_one ps_never) pss_nil) (pss_one (ps_set (i := 11) sc.nd rfl (by first | exact Or.inl rfl | exact Or.inr rfl) (pv 12))))))))))))))))) (pss_one (ps_ret pe_bl))), ?_⟩
    let n0 : Nat := max 1 (min xs.length 3)
    have hn0 : 1 ≤ n0 ∧ n0 ≤ 3 := by omega
    let Pv : Nat → L2.St → Hp → Prop := fun i σ' H' => σ'.length = 16 ∧ σ'[0]? = some (some (.ref p)) ∧ Ex H H'
    have elen : Ev (tCB (rLenS K) (tCons (tVar 0) tNil)) (L2.start ["_law_script", "_law_k", "_law_pool_here", "_law_threads", "_law_m", "_law_machine_here", "_law_rows", "_law_many", "_law_sockets", "_law_cells", "_law_given", "_law_before", "_law_told", "_law_state", "_law_row", "_law_index"] [.ref p]) H (.int (xs.length : Nat)) := ev_is (ev_len (ev_var rfl) hp) (by rw [List.length_map])
    have emin : Ev (tCB (fun xs H Q => ∃ i j, xs = [V.int i, V.int j] ∧ Q (V.int (if j < i then j else i)) H) (tCons (tCB (rLenS K) (tCons (tVar 0) tNil)) (tCons (tC (V.int 3)) tNil))) (L2.start ["_law_script", "_law_k", "_law_pool_here", "_law_threads", "_law_m", "_law_machine_here", "_law_rows", "_law_many", "_law_sockets", "_law_cells", "_law_given", "_law_before", "_law_told", "_law_state", "_law_row", "_law_index"] [.ref p]) H (.int (min xs.length 3 : Nat)) := ev_is (ev_cb (ea_cons elen (ea_cons ev_c ea_nil)) fun H1 _ Q' q => ⟨_, _, rfl, q H1 (Ex.refl H1)⟩) (by congr 1; split <;> omega)
    have emax : Ev (tCB (fun xs H Q => ∃ i j, xs = [V.int i, V.int j] ∧ Q (V.int (if j > i then j else i)) H) (tCons (tC (V.int 1)) (tCons (tCB (fun xs H Q => ∃ i j, xs = [V.int i, V.int j] ∧ Q (V.int (if j < i then j else i)) H) (tCons (tCB (rLenS K) (tCons (tVar 0) tNil)) (tCons (tC (V.int 3)) tNil))) tNil))) (L2.start ["_law_script", "_law_k", "_law_pool_here", "_law_threads", "_law_m", "_law_machine_here", "_law_rows", "_law_many", "_law_sockets", "_law_cells", "_law_given", "_law_before", "_law_told", "_law_state", "_law_row", "_law_index"] [.ref p]) H (.int (n0 : Nat)) := ev_is (ev_cb (ea_cons (ev_c (v := .int 1)) (ea_cons emin ea_nil)) fun H1 _ Q' q => ⟨_, _, rfl, q H1 (Ex.refl H1)⟩) (by congr 1; split <;> omega)
    refine Evl.q_forR1 (n := (n0 : Int)) (ea_cons emax ea_nil) ⟨by omega, by omega⟩ Pv (fun H1 e1 => ⟨rfl, rfl, e1⟩) (fun i σ' Hk hi q => ?_) fun σ' H' q => Evl.s_ret ev_c fun H2 e2 => k H2
    obtain ⟨q0, q1, q2⟩ := q
    have hi3 : i < 3 := by omega
    have a0 : (σ'.set 1 (some (.int (i : Int))))[0]? = some (some (.ref p)) := by rw [List.getElem?_set_ne (by decide)]; exact q1
    have a1 : (σ'.set 1 (some (.int (i : Int))))[1]? = some (some (.int (i : Int))) := List.getElem?_set_self (by omega)
    have al : (σ'.set 1 (some (.int (i : Int)))).length = 16 := by rw [List.length_set]; exact q0
    generalize σ'.set 1 (some (.int (i : Int))) = σ1 at a0 a1 al ⊢
    -- pool
    refine q_asgE (te_callE ((ea_cons (ev_var a0) (ea_cons (ev_var a1) ea_nil)) Hk (Ex.refl _) _ fun H2 ek2 => ?_))
    refine ⟨p, xs, i, rfl, ex_l (q2.trans ek2) hp, by omega, fun po H3 hpo e3 P3 => ?_⟩
    dsimp only [gName]
    have ek3 := ek2.trans e3
    have hpok : Hk po = none := fresh_back ek2 hpo
    have b2 : (σ1.set 2 (some (.ref po)))[2]? = some (some (.ref po)) := List.getElem?_set_self (by omega)
    have b0 : (σ1.set 2 (some (.ref po)))[0]? = some (some (.ref p)) := by rw [List.getElem?_set_ne (by decide)]; exact a0
    have bl : (σ1.set 2 (some (.ref po))).length = 16 := by rw [List.length_set]; exact al
    generalize σ1.set 2 (some (.ref po)) = σ2 at b0 b2 bl ⊢
    -- sockets, cells
    refine q_par ?_
    show tCall (spTakeL K) [] E0 (tCons (tVar 2) (tCons (tC (V.int 2)) tNil)) σ2 H3 _
    refine e_take (p := po) (n := 2) (ev_var b2) ev_c P3 (by decide) (by decide) fun r1 H4 hr1 o4 P4 => ⟨2, r1, rfl, rfl, ?_⟩
    show tCall (spTakeL K) [] E0 (tCons (tVar 2) (tCons (tC (V.int 3)) tNil)) σ2 H4 _
    refine e_take (p := po) (n := 3) (ev_var b2) ev_c P4 (by decide) (by decide) fun r2 H5 hr2 o5 P5 => ⟨1, r2, rfl, rfl, ?_⟩
    have o35 := o4.trans o5
    obtain ⟨ns, hns0⟩ : ∃ n : Nat, n = 2 + r1 := ⟨_, rfl⟩
    obtain ⟨cl, hcl0⟩ : ∃ n : Nat, n = 1 + r2 := ⟨_, rfl⟩
    have hns : (2 : Int) + (r1 : Int) = (ns : Int) := by omega
    have hcl : (1 : Int) + (r2 : Int) = (cl : Int) := by omega
    have hns2 : 2 ≤ ns ∧ ns ≤ 3 := by omega
    have hcl2 : 1 ≤ cl ∧ cl ≤ 3 := by omega
    refine ⟨.int (ns : Nat), .int (cl : Nat), by show [V.int ((2 : Int) + (r1 : Int)), V.int ((1 : Int) + (r2 : Int))] = _; rw [hns, hcl], ?_⟩
    have c8 : ((σ2.set 8 (some (.int (ns : Nat)))).set 9 (some (.int (cl : Nat))))[8]? = some (some (.int (ns : Nat))) := st_1 bl (by decide) (by decide)
    have c9 : ((σ2.set 8 (some (.int (ns : Nat)))).set 9 (some (.int (cl : Nat))))[9]? = some (some (.int (cl : Nat))) := st_2 bl (by decide)
    have c2 : ((σ2.set 8 (some (.int (ns : Nat)))).set 9 (some (.int (cl : Nat))))[2]? = some (some (.ref po)) := st_keep b2 (by decide) (by decide)
    have c0 : ((σ2.set 8 (some (.int (ns : Nat)))).set 9 (some (.int (cl : Nat))))[0]? = some (some (.ref p)) := st_keep b0 (by decide) (by decide)
    have cL : ((σ2.set 8 (some (.int (ns : Nat)))).set 9 (some (.int (cl : Nat)))).length = 16 := st_len bl
    generalize ((σ2.set 8 (some (.int (ns : Nat)))).set 9 (some (.int (cl : Nat)))) = σ3 at c0 c2 c8 c9 cL ⊢
    have epair : ∀ {H' : Hp} {Q' : VK}, PoolAt H' po → (∀ q H2 ys x, H' q = none → Only po H' H2 → PoolAt H2 po → H2 q = some (.lst ys) → TdL K H2 ys (x.map eTh) → PairL (ns - 1) cl x → Q' (.ref q) H2) → tCall (spPairL K) [] E0 (tCons (tVar 2) (tCons (tVar 8) (tCons (tC (V.int 1)) (tCons (tVar 9) (tCons (tC (V.int 6)) tNil))))) σ3 H' Q' := by
      intro H' Q' P' kk
      refine te_callE ((ea_cons (ev_var c2) (ea_cons (ev_var c8) (ea_cons ev_c (ea_cons (ev_var c9) (ea_cons ev_c ea_nil))))) H' (Ex.refl _) _ fun H2 e2 => ?_)
      exact ⟨po, ns, cl, rfl, P'.ex e2, hns2.1, by omega, hcl2.2, fun q H3 ys x hq o P h t pl => kk q H3 ys x (fresh_back e2 hq) ((Only.of_ex e2).trans o) P h t pl⟩
    refine q_asgE ?_
    show tCall (spPairL K) [] E0 _ σ3 H5 _
    refine epair P5 fun qa H6 ya x hqa o6 P6 ha ta pla => ?_
    show tCall (spPairL K) [] E0 _ σ3 H6 _
    refine epair P6 fun qb H7 yb y hqb o7 P7 hb tb plb => ?_
    refine ⟨qb, yb, rfl, SqL.of hb, fun qc hqc => ?_⟩
    have hqap : qa ≠ po := fun z => by
      obtain ⟨a', b', hp', _⟩ := P5
      rw [z, hp'] at hqa
      cases hqa
    have ha7 := o7.fr _ _ ha hqap
    have ta7 := ta.keep o7.tk
    have ec : Ex H7 (upd H7 qc (.lst yb.reverse)) := Ex.new hqc
    have hlx : ya.length = 2 := by rw [ta.length, List.length_map]; exact (pla.ok (ns := ns) (by omega) hcl2.2).1
    have hly : yb.length = 2 := by rw [tb.length, List.length_map]; exact (plb.ok (ns := ns) (by omega) hcl2.2).1
    refine ⟨qa, qc, ya, yb.reverse, rfl, rfl, ec _ _ ha7, upd_same, sz_of (by rw [List.length_reverse]; omega), fun qd hqd => ?_⟩
    dsimp only [gName]
    have ed : Ex (upd H7 qc (.lst yb.reverse)) (upd (upd H7 qc (.lst yb.reverse)) qd (.lst (ya ++ yb.reverse))) := Ex.new hqd
    have ecd := ec.trans ed
    have hd8 : upd (upd H7 qc (.lst yb.reverse)) qd (.lst (ya ++ yb.reverse)) qd = some (.lst (ya ++ yb.reverse)) := upd_same
    generalize upd (upd H7 qc (.lst yb.reverse)) qd (.lst (ya ++ yb.reverse)) = H8 at ecd hd8 ⊢
    have td8 : TdL K H8 (ya ++ yb.reverse) ((x ++ y.reverse).map eTh) := by
      rw [List.map_append, List.map_reverse]
      refine (ta7.ex ecd).append ?_
      have hy2 := (plb.ok (ns := ns) (by omega) hcl2.2).1
      match y, yb, tb, hy2 with
      | [y1, y2], _, tb, _ =>
        obtain ⟨w1, r1', rfl, g1, s1⟩ := tb.cons_inv
        obtain ⟨w2, r2', rfl, g2', s2⟩ := s1.cons_inv
        obtain rfl := TdL.nil_iff.mp s2
        exact .cons (g2'.ex ecd) (.cons (g1.ex ecd) .nil)
    have o38 := ((o35.trans o6).trans o7).trans (.of_ex ecd)
    have P8 := P7.ex ecd
    have d3 : (σ3.set 3 (some (.ref qd)))[3]? = some (some (.ref qd)) := List.getElem?_set_self (by omega)
    have k3 : ∀ {j : Nat} {o : Option (Option V)}, σ3[j]? = o → j ≠ 3 → (σ3.set 3 (some (.ref qd)))[j]? = o := fun {j o} h hj => by rw [List.getElem?_set_ne (Ne.symm hj)]; exact h
    have d0 := k3 c0 (by decide)
    have d2 := k3 c2 (by decide)
    have d8 := k3 c8 (by decide)
    have d9 := k3 c9 (by decide)
    have dL : (σ3.set 3 (some (.ref qd))).length = 16 := by rw [List.length_set]; exact cL
    generalize σ3.set 3 (some (.ref qd)) = σ4 at d0 d2 d3 d8 d9 dL ⊢
    have hqdp : qd ≠ po := fun z => by
      obtain ⟨a', b', hp', _⟩ := P7
      rw [z, ec _ _ hp'] at hqd
      cases hqd
    refine q_asgE (te_tupE (ta_consE ?_))
    refine (ev_var d8) H8 (Ex.refl _) _ fun H9 e9 => ?_
    refine ta_consE (te_tupE (ta_consE (te_opE (te_cE ?_))))
    refine e_take (p := po) (n := 4) (ev_var d2) ev_c (P8.ex e9) (by decide) (by decide) fun r3 H10 hr3 o10 P10 => ⟨1, r3, rfl, rfl, by show 1 ≤ sizeLine; decide, fun u hu => ?_⟩
    have e11 : Ex H10 (upd H10 u (.tup [.int ((1 : Int) + (r3 : Int))])) := Ex.new hu
    have hu11 : upd H10 u (.tup [.int ((1 : Int) + (r3 : Int))]) u = some (.tup [.int ((1 : Int) + (r3 : Int))]) := upd_same
    generalize upd H10 u (.tup [.int ((1 : Int) + (r3 : Int))]) = H11 at e11 hu11 ⊢
    have q11 := e11 _ _ (o10.fr _ _ (e9 _ _ hd8) hqdp)
    refine ta_consE (te_cb1 ?_)
    refine (ev_var d3) H11 (Ex.refl _) _ fun H12 e12 => ⟨qd, ya ++ yb.reverse, rfl, Or.inl ⟨SqL.of (e12 _ _ q11), fun u2 hu2 => ?_⟩⟩
    have e13 : Ex H12 (upd H12 u2 (.tup (ya ++ yb.reverse))) := Ex.new hu2
    have hu13 : upd H12 u2 (.tup (ya ++ yb.reverse)) u2 = some (.tup (ya ++ yb.reverse)) := upd_same
    generalize upd H12 u2 (.tup (ya ++ yb.reverse)) = H13 at e13 hu13 ⊢
    refine ta_consE (te_cE (ta_consE (te_opE (te_cE ?_))))
    have e113 := e12.trans e13
    refine e_take (p := po) (n := 3) (ev_var d2) ev_c ((P10.ex e11).ex e113) (by decide) (by decide) fun r4 H14 hr4 o14 P14 => ⟨1, r4, rfl, rfl, ?_⟩
    refine ta_consE (te_cE (ta_consE ?_))
    refine (ev_var d9) H14 (Ex.refl _) _ fun H15 e15 => ⟨by show 8 ≤ sizeLine; decide, fun u3 hu3 => ?_⟩
    let M : MC := { ns := ns, size := 1 + r3, thr := x ++ y.reverse, batch := 1 + r4, nsl := cl }
    have okM : OkM M := ⟨hns2, by show 1 ≤ 1 + r3 ∧ 1 + r3 ≤ 4; omega, by show 1 ≤ 1 + r4 ∧ 1 + r4 ≤ 3; omega, hcl2, x, y, pla, plb, rfl⟩
    have mm := MM M okM
    have td13 : TdL K H13 (ya ++ yb.reverse) (M.thr.map eTh) := (((td8.ex e9).keep o10.tk).ex e11).ex e113
    have t15 : TdL K H15 [V.int (ns : Nat), .ref u, .ref u2, .int 4, .int ((1 : Int) + (r4 : Int)), .int 0, .int (cl : Nat), .int 0] (dM M) := by
      have s1 : ((1 : Int) + (r3 : Int)) = ((1 + r3 : Nat) : Int) := by omega
      have s2 : ((1 : Int) + (r4 : Int)) = ((1 + r4 : Nat) : Int) := by omega
      rw [s2]
      rw [s1] at hu11
      refine .cons (.int _) (.cons ?_ (.cons ?_ (.cons (.int _) (.cons (.int _) (.cons (.int _) (.cons (.int _) (.cons (.int _) .nil)))))))
      · exact (((Td.tup (st_of hu11) (.cons (.int _) .nil) : Td K H11 (.ref u) (.tuple [eN (1 + r3)])).ex e113).keep o14.tk).ex e15
      · exact ((Td.tup (st_of hu13) td13 : Td K H13 (.ref u2) (.tuple (M.thr.map eTh))).keep o14.tk).ex e15
    have e16 : Ex H15 (upd H15 u3 (.tup [V.int (ns : Nat), .ref u, .ref u2, .int 4, .int ((1 : Int) + (r4 : Int)), .int 0, .int (cl : Nat), .int 0])) := Ex.new hu3
    have hu16 : upd H15 u3 (.tup [V.int (ns : Nat), .ref u, .ref u2, .int 4, .int ((1 : Int) + (r4 : Int)), .int 0, .int (cl : Nat), .int 0]) u3 = some (.tup [V.int (ns : Nat), .ref u, .ref u2, .int 4, .int ((1 : Int) + (r4 : Int)), .int 0, .int (cl : Nat), .int 0]) := upd_same
    dsimp only [gName]
    generalize upd H15 u3 (.tup [V.int (ns : Nat), .ref u, .ref u2, .int 4, .int ((1 : Int) + (r4 : Int)), .int 0, .int (cl : Nat), .int 0]) = H16 at e16 hu16 ⊢
    have t16 : Td K H16 (.ref u3) (.tuple (dM M)) := .tup (st_of hu16) (t15.ex e16)
    have P16 := (P14.ex e15).ex e16
    have o316 := ((((o38.trans (.of_ex e9)).trans o10).trans (.of_ex (e11.trans e113))).trans o14).trans (.of_ex (e15.trans e16))
    clear t15 td13 hu16 hu13 hu11 td8 ta7 tb ta
    have k4 : ∀ {j : Nat} {o : Option (Option V)}, σ4[j]? = o → j ≠ 4 → (σ4.set 4 (some (.ref u3)))[j]? = o := fun {j o} h hj => by rw [List.getElem?_set_ne (Ne.symm hj)]; exact h
    have f4 : (σ4.set 4 (some (.ref u3)))[4]? = some (some (.ref u3)) := List.getElem?_set_self (by omega)
    have f0 := k4 d0 (by decide)
    have f2 := k4 d2 (by decide)
    have fL : (σ4.set 4 (some (.ref u3))).length = 16 := by rw [List.length_set]; exact dL
    generalize σ4.set 4 (some (.ref u3)) = σ5 at f0 f2 f4 fL ⊢
    -- the machine
    refine q_asgE (te_callE ((ea_cons (ev_var f4) (ea_cons ev_c ea_nil)) H16 (Ex.refl _) _ fun H17 e17 => ⟨.ref u3, M, rfl, t16.ex e17, okM, fun mc H18 e18 hmc => ?_⟩))
    dsimp only [gName]
    have g5 : (σ5.set 5 (some (.ref mc)))[5]? = some (some (.ref mc)) := List.getElem?_set_self (by omega)
    have k5 : ∀ {j : Nat} {o : Option (Option V)}, σ5[j]? = o → j ≠ 5 → (σ5.set 5 (some (.ref mc)))[j]? = o := fun {j o} h hj => by rw [List.getElem?_set_ne (Ne.symm hj)]; exact h
    have g0 := k5 f0 (by decide)
    have g2 := k5 f2 (by decide)
    have gL : (σ5.set 5 (some (.ref mc))).length = 16 := by rw [List.length_set]; exact fL
    generalize σ5.set 5 (some (.ref mc)) = σ6 at g0 g2 g5 gL ⊢
    have o318 := o316.trans (.of_ex (e17.trans e18))
    have P18 := (P16.ex e17).ex e18
    have hpm : po ≠ mc := fun z => by
      obtain ⟨a', b', hp', _⟩ := P18
      obtain ⟨dx', pp, hm', _⟩ := hmc
      rw [← z, hp'] at hm'
      cases hm'
    -- the run
    refine q_asgE (te_callE ((ea_cons (ev_var g2) (ea_cons (ev_var g5) (ea_cons ev_c ea_nil))) H18 (Ex.refl _) _ fun H19 e19 => ⟨po, mc, M, rfl, P18.ex e19, hmc.ex e19, okM, mm.fit, mm.mv, mm.ext, mm.ok0, fun rq H20 rx ms hrq o20 P20 hr20 hrl hms0 hms60 hrok hrows => ?_⟩))
    dsimp only [gName]
    have o320 := (o318.trans (.of_ex e19)).trans o20
    have hmc20 : Mac K H20 mc M := by
      obtain ⟨dx', pp, hm1, hm2⟩ := hmc.ex e19
      exact ⟨dx', pp, o20.fr _ _ hm1 hpm.symm, hm2.keep o20.tk⟩
    have l6 : (σ6.set 6 (some (.ref rq)))[6]? = some (some (.ref rq)) := List.getElem?_set_self (by omega)
    have k6 : ∀ {j : Nat} {o : Option (Option V)}, σ6[j]? = o → j ≠ 6 → (σ6.set 6 (some (.ref rq)))[j]? = o := fun {j o} h hj => by rw [List.getElem?_set_ne (Ne.symm hj)]; exact h
    have l0 := k6 g0 (by decide)
    have l2 := k6 g2 (by decide)
    have l5 := k6 g5 (by decide)
    have lL : (σ6.set 6 (some (.ref rq))).length = 16 := by rw [List.length_set]; exact gL
    generalize σ6.set 6 (some (.ref rq)) = σ7 at l0 l2 l5 l6 lL ⊢
    have ek20 : Ex Hk H20 := only_ex o320 ek3 hpok
    have hex20 : Ex H H20 := q2.trans ek20
    clear o320 o318 o316 o38 o35 o4 o5 o6 o7 o10 o14
    have rowAt : ∀ {H' : Hp} (j : Nat) v, Ex H20 H' → rx[j]? = some v → ∃ mv r, ms[j]? = some mv ∧ (runM M (start M) ms)[j]? = some r ∧ LRow K H' v mv r := fun {H'} j v e hj => by
      have hjl : j < ms.length := by rw [← hrl]; exact (List.getElem?_eq_some_iff.mp hj).1
      have h1 := List.getElem?_eq_getElem hjl
      have h2 := run_at (M := M) (D := start M) h1
      obtain ⟨b, mv, ve, st, g1, g2', g3, g4', g5'⟩ := hrows j v _ _ hj h1 h2
      exact ⟨_, _, h1, h2, b, mv, ve, st, g1, ex_t e g2', g3.ex e, g4'.ex e, g5'.ex e⟩
    refine q_asgE (te_tupE (ta_consE ?_))
    refine (eld_lcL (K := K) (ds := ms.map eMv) (ev_var l6) (SqL.of hr20) wipe1 (by omega) (by rw [List.length_map, hrl]) fun j x' d H' e' hx' hd => ?_) H20 (Ex.refl _) _ fun gq gx H21 hgq e21 hg21 tg21 => ?_
    · obtain ⟨mv, r, h1, h2, b, mvv, ve, st, rfl, g2', g3, g4', g5'⟩ := rowAt j x' e' hx'
      rw [List.getElem?_map, h1] at hd
      cases hd
      exact EvD.of (ev_op (ev_var (List.getElem?_set_self (by show 14 < (σ7.set 14 none).length; rw [List.length_set]; omega))) ev_c (rv_ixT g2' (atI_nat (j := 0) rfl))) g3
    refine ta_consE ?_
    refine (ed_tup (K := K) (ds := (costM M (ms.take 0)).map .int) (el_cons (ed_int ev_c) (el_cons (ed_int ev_c) (el_cons (ed_int ev_c) (el_cons (ed_int ev_c) (el_cons (ed_int ev_c) (el_cons (ed_int ev_c) el_nil)))))) ble) H21 (Ex.refl _) _ fun vb H22 e22 tb22 => ⟨by show 2 ≤ sizeLine; decide, fun u hu => ⟨u, _, rfl, (.inl (.inl upd_same)), rfl, Rp.g2 ?_⟩⟩
    have e23 : Ex H22 (upd H22 u (.tup [.ref gq, vb])) := Ex.new hu
    generalize upd H22 u (.tup [.ref gq, vb]) = H23 at e23 ⊢
    have e203 := (e21.trans e22).trans e23
    have tb23 := tb22.ex e23
    have hg23 := (e22.trans e23) _ _ hg21
    have tg23 := tg21.ex (e22.trans e23)
    have m10 : ((σ7.set 10 (some (.ref gq))).set 11 (some vb))[10]? = some (some (.ref gq)) := st_1 lL (by decide) (by decide)
    have m11 : ((σ7.set 10 (some (.ref gq))).set 11 (some vb))[11]? = some (some vb) := st_2 lL (by decide)
    have m0 : ((σ7.set 10 (some (.ref gq))).set 11 (some vb))[0]? = some (some (.ref p)) := st_keep l0 (by decide) (by decide)
    have m2 : ((σ7.set 10 (some (.ref gq))).set 11 (some vb))[2]? = some (some (.ref po)) := st_keep l2 (by decide) (by decide)
    have m5 : ((σ7.set 10 (some (.ref gq))).set 11 (some vb))[5]? = some (some (.ref mc)) := st_keep l5 (by decide) (by decide)
    have m6 : ((σ7.set 10 (some (.ref gq))).set 11 (some vb))[6]? = some (some (.ref rq)) := st_keep l6 (by decide) (by decide)
    have mL : ((σ7.set 10 (some (.ref gq))).set 11 (some vb)).length = 16 := st_len lL
    generalize ((σ7.set 10 (some (.ref gq))).set 11 (some vb)) = σ8 at m0 m2 m5 m6 m10 m11 mL ⊢
    have hr23 := e203 _ _ hr20
    refine s_forLE (te_cb1 (te_lstE (ta_consE (te_opE ?_))))
    refine e_take (p := po) (n := rx.length) (ev_var m2) (ev_len (ev_var m6) (SqL.of hr23)) (P20.ex e203) (by omega) (by omega) fun r5 H24 hr5 o24 P24 => ?_
    have hrqp : rq ≠ po := fun z => by
      obtain ⟨a', b', hp', _⟩ := P18.ex e19
      rw [z, hp'] at hrq
      cases hrq
    have hgqp : gq ≠ po := fun z => by
      obtain ⟨a', b', hp', _⟩ := P20
      rw [z, hp'] at hgq
      cases hgq
    have P23 := P20.ex e203
    have hr24 := o24.fr _ _ hr23 hrqp
    have hg24 := o24.fr _ _ hg23 hgqp
    have tg24 := tg23.keep o24.tk
    have tb24 := tb23.keep o24.tk
    have mac24 := (hmc20.ex e203).only P23 o24
    have row24 : ∀ {H' : Hp} (j : Nat) v, Ex H24 H' → rx[j]? = some v → ∃ mv r, ms[j]? = some mv ∧ (runM M (start M) ms)[j]? = some r ∧ LRow K H' v mv r := fun {H'} j v e hj => by
      obtain ⟨mv, r, h1, h2, h3⟩ := rowAt j v e203 hj
      exact ⟨mv, r, h1, h2, (h3.only P23 o24).ex e⟩
    have ek24 : Ex Hk H24 := only_ex o24 (ek20.trans e203) hpok
    have hex24 : Ex H H24 := q2.trans ek24
    refine ⟨(r5 : Int), 1, rfl, rfl, ?_⟩
    refine (ea_cons (ev_op (ev_op (ev_len (ev_var m6) (SqL.of hr24)) ev_c (rv_I ⟨by decide, by decide⟩)) ev_c rv_I0) (ea_cons (ev_len (ev_var m6) (SqL.of hr24)) ea_nil)) H24 (Ex.refl _) _ fun H25 e25 => ⟨by show 3 ≤ sizeLine; decide, fun lq hlq => ?_⟩
    have e26 : Ex H25 (upd H25 lq (.lst [V.int ((r5 : Int) + 1), V.int ((rx.length : Int) / 2 + 1), V.int (rx.length : Int)])) := Ex.new hlq
    have hl26 : upd H25 lq (.lst [V.int ((r5 : Int) + 1), V.int ((rx.length : Int) / 2 + 1), V.int (rx.length : Int)]) lq = some (.lst [V.int ((r5 : Int) + 1), V.int ((rx.length : Int) / 2 + 1), V.int (rx.length : Int)]) := upd_same
    refine ⟨lq, [(r5 : Int) + 1, (rx.length : Int) / 2 + 1, (rx.length : Int)], rfl, SqL.of hl26, by show 3 < 64; decide, fun ns' sq hperm hsorted hsq => ?_⟩
    have e27 : Ex (upd H25 lq (.lst [V.int ((r5 : Int) + 1), V.int ((rx.length : Int) / 2 + 1), V.int (rx.length : Int)])) (upd (upd H25 lq (.lst [V.int ((r5 : Int) + 1), V.int ((rx.length : Int) / 2 + 1), V.int (rx.length : Int)])) sq (.lst (ns'.map V.int))) := Ex.new hsq
    have e2427 := e25.trans (e26.trans e27)
    have hs27 : upd (upd H25 lq (.lst [V.int ((r5 : Int) + 1), V.int ((rx.length : Int) / 2 + 1), V.int (rx.length : Int)])) sq (.lst (ns'.map V.int)) sq = some (.lst (ns'.map V.int)) := upd_same
    generalize upd (upd H25 lq (.lst [V.int ((r5 : Int) + 1), V.int ((rx.length : Int) / 2 + 1), V.int (rx.length : Int)])) sq (.lst (ns'.map V.int)) = H27 at e2427 hs27 ⊢
    have hbound : ∀ v ∈ ns', 1 ≤ v ∧ v ≤ (ms.length : Int) := fun v hv => by
      have := hperm.mem_iff.mp hv
      rcases List.mem_cons.mp this with rfl | h
      · omega
      · rcases List.mem_cons.mp h with rfl | h
        · omega
        · rw [List.mem_singleton.mp h]; omega
    let P : Nat → L2.St → Hp → Prop := fun i σ' H' => Ex H27 H' ∧ (σ'.length = 16 ∧ σ'[0]? = some (some (.ref p)) ∧ σ'[5]? = some (some (.ref mc)) ∧ σ'[6]? = some (some (.ref rq)) ∧ σ'[10]? = some (some (.ref gq))) ∧ ∃ (vb : V) (n0 : Nat), σ'[11]? = some (some vb) ∧ Td K H' vb (.tuple ((costM M (ms.take n0)).map .int)) ∧ (i = 0 → n0 = 0) ∧ ∀ v : Int, 0 < i → ns'[i - 1]? = some v → (n0 : Int) = v
    refine ⟨sq, rfl, ⟨_, SqL.of hs27⟩, for_it (walk_list (K := K) (xs := ns'.map V.int)) P ⟨Ex.refl _, ⟨mL, m0, m5, m6, m10⟩, vb, 0, m11, tb24.ex e2427, fun _ => rfl, fun _ h => absurd h (by decide)⟩ (fun i σ' H' _ q => SqL.of (q.1 _ _ hs27)) (fun i v σ' H' H'' hi q y => ?_) (fun σ' H' q => ⟨q.2.1.1, q.2.1.2.1, hex24.trans (e2427.trans q.1)⟩)⟩
    obtain ⟨rfl, hv⟩ := y
    obtain ⟨j1, ⟨jL, j0, j5, j6, j10⟩, vb', nb, j11, tvb, jz, jn⟩ := q
    rw [List.getElem?_map] at hv
    obtain ⟨v, hvi, rfl⟩ := Option.map_eq_some_iff.mp hv
    obtain ⟨hv1, hv2⟩ := hbound v (List.mem_of_getElem? hvi)
    obtain ⟨n, rfl⟩ : ∃ n : Nat, v = (n : Int) := ⟨v.toNat, by omega⟩
    have hn1 : 1 ≤ n := by omega
    have hn2 : n ≤ ms.length := by omega
    have hnb : nb ≤ n := by
      cases i with
      | zero => rw [jz rfl]; exact Nat.zero_le _
      | succ i =>
        have hlt : i < ns'.length := by have := (List.getElem?_eq_some_iff.mp hvi).1; omega
        have h1 := jn ns'[i] (Nat.succ_pos _) (List.getElem?_eq_getElem hlt)
        obtain ⟨hlt2, h2⟩ := List.getElem?_eq_some_iff.mp hvi
        have h3 := List.pairwise_iff_getElem.mp hsorted i (i + 1) hlt hlt2 (Nat.lt_succ_self i)
        omega
    have x7 : (σ'.set 7 (some (.int (n : Int))))[7]? = some (some (.int (n : Int))) := List.getElem?_set_self (by omega)
    have k7 : ∀ {j : Nat} {o : Option (Option V)}, σ'[j]? = o → j ≠ 7 → (σ'.set 7 (some (.int (n : Int))))[j]? = o := fun {j o} h hj => by rw [List.getElem?_set_ne (Ne.symm hj)]; exact h
    have x0 := k7 j0 (by decide)
    have x5 := k7 j5 (by decide)
    have x6 := k7 j6 (by decide)
    have x10 := k7 j10 (by decide)
    have x11 := k7 j11 (by decide)
    have xL : (σ'.set 7 (some (.int (n : Int)))).length = 16 := by rw [List.length_set]; exact jL
    dsimp only [gName]
    generalize σ'.set 7 (some (.int (n : Int))) = σ9 at x0 x5 x6 x7 x10 x11 xL ⊢
    have e24x := e2427.trans j1
    have hg := e24x _ _ hg24
    have hrx := e24x _ _ hr24
    have hok := mm.pre ms n hrok
    -- costs, state
    refine q_asgE (te_tupE (ta_consE (te_callE ?_)))
    refine (ev_var x5) H'' (Ex.refl _) _ fun H28 e28 => ?_
    refine ta_consE ?_
    refine (el_sl (xs := gx) (lo := none) (hi := some (n : Int)) (ev_var x10) eo_none (eo_some (ev_var x7)) (SqL.of (e28 _ _ hg))) H28 (Ex.refl _) _ fun gs H29 hgs e29 hg29 => ?_
    have e2829 := e28.trans e29
    rw [cut_hi] at hg29
    have tms29 : TdL K H29 (gx.take n) ((ms.take n).map eMv) := by
      rw [List.map_take]
      exact ((tg24.ex e24x).ex e2829).take n
    refine ⟨mc, M, gs, gx.take n, ms.take n, rfl, mac24.ex (e24x.trans e2829), hg29, tms29, by rw [List.length_take]; omega, hok, mm.fit, hns2.1, hcl2.1, fun tv H30 e30 ttv => ?_⟩
    have e2830 := e2829.trans e30
    have hn1' : n - 1 < rx.length := by omega
    obtain ⟨mvl, rl, hml1, hrl1, bl', mvv, vel, stl, hbl, hsql, tml, tvel, stal⟩ := row24 (n - 1) rx[n - 1] (e24x.trans e2830) (List.getElem?_eq_getElem hn1')
    have hend : rl.1 = endM M (start M) (ms.take n) := by
      have h2 := run_at (M := M) (D := start M) hml1
      rw [hrl1] at h2
      have h3 : ms.take n = ms.take (n - 1) ++ [mvl] := by
        have : n = (n - 1) + 1 := by omega
        rw [this, List.take_add_one, ← this, hml1] <;> rfl
      rw [h3, endM_snoc]
      rw [Option.some.inj h2]
    refine ta_consE ?_
    refine (ev_op (z := .ref stl) (ev_op (z := .ref bl') (ev_var x6) (ev_op (ev_var x7) ev_c rv_I0) (rv_ixL (SqL.of ((e24x.trans e2830) _ _ hr24 : H30 rq = some (.lst rx))) (by
      rw [show ((n : Int) - 1) = ((n - 1 : Nat) : Int) by omega]
      exact (atI_nat (List.getElem?_eq_getElem hn1')).trans (congrArg some hbl)))) ev_c (rv_ixT hsql (atI_nat (j := 2) rfl))) H30 (Ex.refl _) _ fun H31 e31 => ⟨by show 2 ≤ sizeLine; decide, fun u hu => ⟨u, _, rfl, (.inl (.inl upd_same)), rfl, Rp.g2 ?_⟩⟩
    have e32 : Ex H31 (upd H31 u (.tup [tv, .ref stl])) := Ex.new hu
    generalize upd H31 u (.tup [tv, .ref stl]) = H32 at e32 ⊢
    have e3032 := e31.trans e32
    have tt32 := ttv.ex e3032
    have st32 := stal.ex e3032
    rw [hend] at st32
    have y12 : ((σ9.set 12 (some tv)).set 13 (some (.ref stl)))[12]? = some (some tv) := st_1 xL (by decide) (by decide)
    have y13 : ((σ9.set 12 (some tv)).set 13 (some (.ref stl)))[13]? = some (some (.ref stl)) := st_2 xL (by decide)
    have y0 : ((σ9.set 12 (some tv)).set 13 (some (.ref stl)))[0]? = some (some (.ref p)) := st_keep x0 (by decide) (by decide)
    have y5 : ((σ9.set 12 (some tv)).set 13 (some (.ref stl)))[5]? = some (some (.ref mc)) := st_keep x5 (by decide) (by decide)
    have y6 : ((σ9.set 12 (some tv)).set 13 (some (.ref stl)))[6]? = some (some (.ref rq)) := st_keep x6 (by decide) (by decide)
    have y7 : ((σ9.set 12 (some tv)).set 13 (some (.ref stl)))[7]? = some (some (.int (n : Int))) := st_keep x7 (by decide) (by decide)
    have y10 : ((σ9.set 12 (some tv)).set 13 (some (.ref stl)))[10]? = some (some (.ref gq)) := st_keep x10 (by decide) (by decide)
    have y11 : ((σ9.set 12 (some tv)).set 13 (some (.ref stl)))[11]? = some (some vb') := st_keep x11 (by decide) (by decide)
    have yL : ((σ9.set 12 (some tv)).set 13 (some (.ref stl))).length = 16 := st_len xL
    generalize ((σ9.set 12 (some tv)).set 13 (some (.ref stl))) = σa at y0 y5 y6 y7 y10 y11 y12 y13 yL ⊢
    have told : ∀ {H' : Hp} {te : TE} (j : Nat) (c : Int), Ex H32 H' → (costM M (ms.take n))[j]? = some c → Ev te σa H' (.int (j : Nat)) → Ev (tOp (rIxT K) (tVar 12) te) σa H' (.int c) := fun {H' te} j c e hc hj => (ed_ixT (j := j) (d := .int c) (ed_var y12 (tt32.ex e)) hj (ixN_of (by rw [List.length_map]; exact (List.getElem?_eq_some_iff.mp hc).1)) (by rw [List.getElem?_map, hc] <;> rfl)).int
    have Gn := run_good' hok
    have hbat := okM.bat
    have mac32 := mac24.ex (e24x.trans (e2830.trans e3032))
    have eb : Ev (tProp (He.ga K "Machine") (spSet K 4) [] E0 (tVar 5)) σa H32 (.int (M.batch : Nat)) := (ed_set (i := 4) (d := eN M.batch) mac32 (ev_var y5) rfl).int
    refine q_when (b := false) (et_test (ev_is (ev_op (ev_op (ev_op (told 3 _ (Ex.refl _) rfl ev_c) eb (rv_I ⟨by omega, by omega⟩)) (told 5 _ (Ex.refl _) rfl ev_c) rv_I0) (ev_op (told 4 _ (Ex.refl _) rfl ev_c) (ev_call (z := .int (openM (endM M (start M) (ms.take n)) : Nat)) (ea_cons (ev_var y13) ea_nil) fun H33 e33 Q' q E' => ⟨stl, _, rfl, st32.ex e33, by rw [Gn.fit.wl]; exact Gn.fit.thr, fun w hw => ?_, fun H34 e34 => q H34 e34⟩) rv_I0) rv_I0) ?_)) (fun h => nomatch h) fun _ H33 e33 => ?_
    · obtain ⟨i', hi', rfl⟩ := List.getElem_of_mem hw
      obtain ⟨_, _, c, d⟩ := Gn.fit.wk i' _ (List.getElem?_eq_getElem hi')
      exact ⟨by rw [c]; exact Gn.fit.ns, d⟩
    · have hl := mm.law (ms.take n) hok
      congr 1
      rw [decide_eq_false_iff_not]
      omega
    have w15 : ∀ (x' : Option V), (wipe σa [15]).set 15 x' = σa.set 15 x' := fun x' => by show (σa.set 15 none).set 15 x' = _; rw [List.set_set]
    refine q_when (b := false) (et_test (ev_nNotN (l := []) (fun H34 e34 Q' q => el_lcR1 (n := ((6 : Nat) : Int)) (fun _ => false) (fun i => .int (i : Nat)) (ea_cons ev_c ea_nil) ⟨by decide, by decide⟩ wipe1 (fun j H35 e35 hj => ?_) (fun _ _ _ _ h => nomatch h) H34 e34 Q' (by rw [given_none]; exact q)))) (fun h => nomatch h) fun _ H34 e34 => ?_
    · have hj6 : j < 6 := by omega
      rw [w15]
      have z15 : (σa.set 15 (some (.int (j : Int))))[15]? = some (some (.int (j : Int))) := List.getElem?_set_self (by omega)
      have z12 : (σa.set 15 (some (.int (j : Int))))[12]? = some (some tv) := by rw [List.getElem?_set_ne (by decide)]; exact y12
      have z11 : (σa.set 15 (some (.int (j : Int))))[11]? = some (some vb') := by rw [List.getElem?_set_ne (by decide)]; exact y11
      obtain ⟨c, hc⟩ : ∃ c, (costM M (ms.take n))[j]? = some c := ⟨(costM M (ms.take n))[j]'(by show j < 6; omega), List.getElem?_eq_getElem _⟩
      obtain ⟨c0', hc0'⟩ : ∃ c, (costM M (ms.take nb))[j]? = some c := ⟨(costM M (ms.take nb))[j]'(by show j < 6; omega), List.getElem?_eq_getElem _⟩
      have hle := mm.up ms nb n hrok hnb j c0' c hc0' hc
      have e3235 := e33.trans e35
      have ev1 := (ed_ixT (j := j) (d := .int c) (ed_var z12 (tt32.ex e3235)) (ev_var z15) (ixN_of (by rw [List.length_map]; exact (List.getElem?_eq_some_iff.mp hc).1)) (by rw [List.getElem?_map, hc] <;> rfl)).int
      have ev2 := (ed_ixT (j := j) (d := .int c0') (ed_var z11 (tvb.ex ((e2830.trans e3032).trans e3235))) (ev_var z15) (ixN_of (by rw [List.length_map]; exact (List.getElem?_eq_some_iff.mp hc0').1)) (by rw [List.getElem?_map, hc0'] <;> rfl)).int
      refine et_test (ev_is (ev_op ev1 ev2 rv_I0) ?_)
      congr 1
      rw [decide_eq_false_iff_not]
      omega
    have e3234 := e33.trans e34
    have w14 : ∀ (x' : Option V), (wipe σa [14]).set 14 x' = σa.set 14 x' := fun x' => by show (σa.set 14 none).set 14 x' = _; rw [List.set_set]
    have e24w := (e24x.trans (e2830.trans e3032)).trans e3234
    have hr34 := e24w _ _ hr24
    let wd : Nat → Str := fun j => ((runM M (start M) ms)[j]?.map fun r => evW r.2).getD "hit"
    have htl : (rx.take n).length = n := by rw [List.length_take]; omega
    have ewords : EvL (tLc (iList K (tSl (rSlL K) (tVar 6) tNoPart (tPart (tVar 7)))) (gName 14) tYes (tOp (rIxT K) (tOp (rIxT K) (tVar 14) (tC (V.int 1))) (tC (V.int 0))) [14]) σa H34 (given n (fun _ => true) fun j => .str (wd j)) := by
      have := el_lcNL (K := K) (tl := tSl (rSlL K) (tVar 6) tNoPart (tPart (tVar 7))) (te := tOp (rIxT K) (tOp (rIxT K) (tVar 14) (tC (V.int 1))) (tC (V.int 0))) (t := tYes) (j := 14) (vs := [14]) (xs := rx.take n) (fun _ => true) (fun j => .str (wd j)) (fun H35 e35 Q' q => (el_sl (xs := rx) (lo := none) (hi := some (n : Int)) (ev_var y6) eo_none (eo_some (ev_var y7)) (SqL.of hr34)) H35 e35 Q' (by rw [cut_hi]; exact q)) (by omega) wipe1 (fun _ _ _ _ _ => et_yes) (fun j x' H35 e35 hx' _ => ?_)
      · rw [htl] at this
        exact this
      · rw [w14]
        have hj : j < n := by have := (List.getElem?_eq_some_iff.mp hx').1; omega
        rw [List.getElem?_take_of_lt hj] at hx'
        obtain ⟨mv, r, h1, h2, b', mvv', ve', st', rfl, hsq', tm', tve', sta'⟩ := row24 j x' (e24w.trans e35) hx'
        have hw : wd j = evW r.2 := by
          show ((runM M (start M) ms)[j]?.map _).getD _ = _
          rw [h2] <;> rfl
        rw [hw]
        obtain ⟨ds, hds⟩ := ev_word r.2
        rw [hds] at tve'
        exact (ed_ixT (j := 0) (d := .str (evW r.2)) (EvD.of (ev_op (ev_var (List.getElem?_set_self (by omega))) ev_c (rv_ixT hsq' (atI_nat (j := 1) rfl))) tve') ev_c (Evl.ixN_nat (j := 0) (Nat.succ_pos _)) rfl).str
    have hflat : (given n (fun _ => true) fun j => V.str (wd j)).all flatV = true := by
      rw [given_all, List.all_map]
      exact List.all_eq_true.mpr fun _ _ => rfl
    have eni : Ev (tOp (rIn K true) (tC (V.str "adopt")) (tLc (iList K (tSl (rSlL K) (tVar 6) tNoPart (tPart (tVar 7)))) (gName 14) tYes (tOp (rIxT K) (tOp (rIxT K) (tVar 14) (tC (V.int 1))) (tC (V.int 0))) [14])) σa H34 (.bl (!inV (.str "adopt") (given n (fun _ => true) fun j => V.str (wd j)))) := ev_opL ev_c ewords fun q H35 hq35 e35 => rv_niL (SqL.of hq35) rfl hflat
    have hno : (!inV (.str "adopt") (given n (fun _ => true) fun j => V.str (wd j))) = true → pasM M (start M) (ms.take n) = 0 := fun hb => by
      refine mm.no _ hok fun r hr hw => ?_
      obtain ⟨j, hj, hrj⟩ := List.getElem_of_mem hr
      have hjn : j < n := by rw [runM_len, List.length_take] at hj; omega
      have hms' := List.getElem?_eq_getElem (show j < ms.length by omega)
      have h1 := run_at (M := M) (D := start M) hms'
      have h2 := run_at (M := M) (D := start M) (show (ms.take n)[j]? = some ms[j] by rw [List.getElem?_take_of_lt hjn]; exact hms')
      rw [List.take_take, Nat.min_eq_left (by omega)] at h2
      rw [List.getElem?_eq_getElem hj, hrj] at h2
      have hwd : wd j = "adopt" := by
        show ((runM M (start M) ms)[j]?.map _).getD _ = _
        rw [h1]
        show evW _ = _
        rw [← Option.some.inj h2]
        exact hw
      have hin : inV (.str "adopt") (given n (fun _ => true) fun j => V.str (wd j)) = true := by
        unfold inV
        rw [given_all, List.any_map]
        refine List.any_eq_true.mpr ⟨j, List.mem_range.mpr hjn, ?_⟩
        show eqV (.str (wd j)) (.str "adopt") = true
        rw [hwd]
        decide +kernel
      rw [hin] at hb
      cases hb
    refine q_when (b := false) (et_is (et_and (a := !inV (.str "adopt") (given n (fun _ => true) fun j => V.str (wd j))) (b := false) (et_test eni) fun hb => et_test (ev_eqN' (told 5 _ e3234 rfl ev_c) ev_c (hno hb))) (Bool.and_false _)) (fun h => nomatch h) fun _ H35 e35 => ?_
    refine s_asg (ev_var y12) fun H36 e36 => ?_
    have e3236 := (e3234.trans e35).trans e36
    have k11 : ∀ {j : Nat} {o : Option (Option V)}, σa[j]? = o → j ≠ 11 → (σa.set 11 (some tv))[j]? = o := fun {j o} h hj => by rw [List.getElem?_set_ne (Ne.symm hj)]; exact h
    refine ⟨j1.trans ((e2830.trans e3032).trans e3236), ⟨by rw [List.length_set]; exact yL, k11 y0 (by decide), k11 y5 (by decide), k11 y6 (by decide), k11 y10 (by decide)⟩, tv, n, List.getElem?_set_self (by omega), tt32.ex e3236, fun h => absurd h (Nat.succ_ne_zero i), fun v _ hv => ?_⟩
    rw [Nat.add_sub_cancel, hvi] at hv
    exact Option.some.inj hv

end
end Rp
set_option Elab.async false
set_option linter.all false
set_option maxRecDepth 100000
set_option maxHeartbeats 4000000
set_option autoImplicit false
/-! Every def keeps its promise; the law. -/
namespace Rp
open PySem PySem.Spec PyProof.Rows L2 Mx Evl Hf
theorem law_all {P : Program} {w : World} {K : Frg} {mg : Str → Option Value} {base : Heap} {fd : FuncData} (T : Txt K mg w) (c : SaysX fa fn tb w K) (F : FunD K d_law.name d_law.qual (defArgs d_law.st) (defBody d_law.st) (defScope d_law.st) (d_law.dvs K) (d_law.kws K) (d_law.adr K) fd) : FnOk P w K mg base CX0 12 (He.ga K "law") fd ["_law_script"] (spLaw K) := by
  have g_Machine_batch := ok_Machine_batch (P := P) (base := base) T (c.def_ 52 (d := d_Machine_batch) rfl)
  have g_is_integer := ok_is_integer (P := P) (base := base) T (c.def_ 2 (d := d_is_integer) rfl)
  have g_is_between := ok_is_between (P := P) (base := base) T (c.def_ 3 (d := d_is_between) rfl) g_is_integer
  have g_is_row := ok_is_row (P := P) (base := base) T (c.def_ 4 (d := d_is_row) rfl)
  have g_is_classes := ok_is_classes (P := P) (base := base) T (c.def_ 43 (d := d_is_classes) rfl) g_is_between g_is_row
  have g_is_operation := ok_is_operation (P := P) (base := base) T (c.def_ 5 (d := d_is_operation) rfl) g_is_between
  have g_fits := ok_fits (P := P) (base := base) T (c.def_ 44 (d := d_fits) rfl) g_is_operation
  have g_is_thread := ok_is_thread (P := P) (base := base) T (c.def_ 45 (d := d_is_thread) rfl) g_fits g_is_between g_is_row
  have g_Machine_init := ok_Machine_init (P := P) (base := base) T (c.def_ 47 (d := d_Machine_init) rfl) g_is_between g_is_classes g_is_row g_is_thread
  have g_law_machine := ok_law_machine (P := P) (base := base) T (c.def_ 65 (d := d_law_machine) rfl) g_Machine_init
  have g_State_threads := ok_State_threads (P := P) (base := base) T (c.def_ 9 (d := d_State_threads) rfl)
  have g_law_open := ok_law_open (P := P) (base := base) T (c.def_ 67 (d := d_law_open) rfl) g_State_threads
  have g_law_take := ok_law_take (P := P) (base := base) T (c.def_ 63 (d := d_law_take) rfl)
  have g_law_pair := ok_law_pair (P := P) (base := base) T (c.def_ 64 (d := d_law_pair) rfl) g_law_take
  have g_law_pool := ok_law_pool (P := P) (base := base) T (c.def_ 62 (d := d_law_pool) rfl)
  have g_State_arrivals := ok_State_arrivals (P := P) (base := base) T (c.def_ 10 (d := d_State_arrivals) rfl)
  have g_State_flight := ok_State_flight (P := P) (base := base) T (c.def_ 11 (d := d_State_flight) rfl)
  have g_State_pages := ok_State_pages (P := P) (base := base) T (c.def_ 7 (d := d_State_pages) rfl)
  have g_State_slots := ok_State_slots (P := P) (base := base) T (c.def_ 8 (d := d_State_slots) rfl)
  have g_Worker_init := ok_Worker_init (P := P) (base := base) T (c.def_ 12 (d := d_Worker_init) rfl)
  have g_Draft_init := ok_Draft_init (P := P) (base := base) T (c.def_ 15 (d := d_Draft_init) rfl) g_State_arrivals g_State_flight g_State_pages g_State_slots g_State_threads g_Worker_init
  have g_Machine_threads := ok_Machine_threads (P := P) (base := base) T (c.def_ 50 (d := d_Machine_threads) rfl)
  have g_Machine_is_served := ok_Machine_is_served (P := P) (base := base) T (c.def_ 59 (d := d_Machine_is_served) rfl) g_Machine_threads g_State_threads
  have g_Machine_stops := ok_Machine_stops (P := P) (base := base) T (c.def_ 55 (d := d_Machine_stops) rfl)
  have g_Stepper_init := ok_Stepper_init (P := P) (base := base) T (c.def_ 17 (d := d_Stepper_init) rfl)
  have g_Stepper_lists_with_blocks := ok_Stepper_lists_with_blocks (P := P) (base := base) T (c.def_ 23 (d := d_Stepper_lists_with_blocks) rfl)
  have g_Stepper_spare_pages := ok_Stepper_spare_pages (P := P) (base := base) T (c.def_ 20 (d := d_Stepper_spare_pages) rfl)
  have g_Stepper_page_to_open := ok_Stepper_page_to_open (P := P) (base := base) T (c.def_ 24 (d := d_Stepper_page_to_open) rfl) g_Stepper_spare_pages
  have g_Stepper_is_waiting := ok_Stepper_is_waiting (P := P) (base := base) T (c.def_ 27 (d := d_Stepper_is_waiting) rfl) g_Machine_threads g_Stepper_lists_with_blocks g_Stepper_page_to_open
  have g_Machine_moves := ok_Machine_moves (P := P) (base := base) T (c.def_ 58 (d := d_Machine_moves) rfl) g_Draft_init g_Machine_is_served g_Machine_stops g_State_arrivals g_State_flight g_State_threads g_Stepper_init g_Stepper_is_waiting
  have g_Machine_classes := ok_Machine_classes (P := P) (base := base) T (c.def_ 49 (d := d_Machine_classes) rfl)
  have g_Machine_pages := ok_Machine_pages (P := P) (base := base) T (c.def_ 51 (d := d_Machine_pages) rfl)
  have g_Machine_slots := ok_Machine_slots (P := P) (base := base) T (c.def_ 54 (d := d_Machine_slots) rfl)
  have g_Machine_sockets := ok_Machine_sockets (P := P) (base := base) T (c.def_ 48 (d := d_Machine_sockets) rfl)
  have g_State_init := ok_State_init (P := P) (base := base) T (c.def_ 6 (d := d_State_init) rfl)
  have g_Machine_start := ok_Machine_start (P := P) (base := base) T (c.def_ 57 (d := d_Machine_start) rfl) g_Machine_classes g_Machine_pages g_Machine_slots g_Machine_sockets g_Machine_threads g_State_init
  have g_Worker_entry := ok_Worker_entry (P := P) (base := base) T (c.def_ 13 (d := d_Worker_entry) rfl)
  have g_Draft_frozen := ok_Draft_frozen (P := P) (base := base) T (c.def_ 16 (d := d_Draft_frozen) rfl) g_State_init g_Worker_entry
  have g_Stepper_carry := ok_Stepper_carry (P := P) (base := base) T (c.def_ 41 (d := d_Stepper_carry) rfl)
  have g_Worker_is_empty := ok_Worker_is_empty (P := P) (base := base) T (c.def_ 14 (d := d_Worker_is_empty) rfl)
  have g_Stepper_look_for_end := ok_Stepper_look_for_end (P := P) (base := base) T (c.def_ 26 (d := d_Stepper_look_for_end) rfl) g_Machine_threads g_Worker_is_empty
  have g_Stepper_advance := ok_Stepper_advance (P := P) (base := base) T (c.def_ 25 (d := d_Stepper_advance) rfl) g_Stepper_look_for_end
  have g_Stepper_is_small := ok_Stepper_is_small (P := P) (base := base) T (c.def_ 18 (d := d_Stepper_is_small) rfl)
  have g_Stepper_adopt := ok_Stepper_adopt (P := P) (base := base) T (c.def_ 40 (d := d_Stepper_adopt) rfl) g_Stepper_advance g_Stepper_is_small
  have g_Stepper_home_of := ok_Stepper_home_of (P := P) (base := base) T (c.def_ 19 (d := d_Stepper_home_of) rfl)
  have g_Machine_spare := ok_Machine_spare (P := P) (base := base) T (c.def_ 53 (d := d_Machine_spare) rfl)
  have g_Stepper_put_home := ok_Stepper_put_home (P := P) (base := base) T (c.def_ 21 (d := d_Stepper_put_home) rfl) g_Machine_classes g_Machine_spare g_Stepper_spare_pages
  have g_Stepper_bring := ok_Stepper_bring (P := P) (base := base) T (c.def_ 22 (d := d_Stepper_bring) rfl) g_Stepper_home_of g_Stepper_is_small g_Stepper_put_home
  have g_Machine_fault := ok_Machine_fault (P := P) (base := base) T (c.def_ 56 (d := d_Machine_fault) rfl)
  have g_Stepper_fill_from := ok_Stepper_fill_from (P := P) (base := base) T (c.def_ 36 (d := d_Stepper_fill_from) rfl) g_Machine_batch
  have g_Stepper_open_page := ok_Stepper_open_page (P := P) (base := base) T (c.def_ 35 (d := d_Stepper_open_page) rfl) g_Machine_classes g_Stepper_advance g_Stepper_fill_from g_Stepper_page_to_open
  have g_Stepper_fill := ok_Stepper_fill (P := P) (base := base) T (c.def_ 34 (d := d_Stepper_fill) rfl) g_Machine_fault g_Stepper_fill_from g_Stepper_lists_with_blocks g_Stepper_open_page
  have g_Stepper_take := ok_Stepper_take (P := P) (base := base) T (c.def_ 31 (d := d_Stepper_take) rfl) g_Machine_fault
  have g_Stepper_allocate := ok_Stepper_allocate (P := P) (base := base) T (c.def_ 33 (d := d_Stepper_allocate) rfl) g_Stepper_advance g_Stepper_bring g_Stepper_fill g_Stepper_take
  have g_Stepper_drain := ok_Stepper_drain (P := P) (base := base) T (c.def_ 32 (d := d_Stepper_drain) rfl) g_Stepper_advance g_Stepper_bring g_Stepper_take
  have g_Stepper_flush_batch := ok_Stepper_flush_batch (P := P) (base := base) T (c.def_ 30 (d := d_Stepper_flush_batch) rfl) g_Machine_fault
  have g_Stepper_flush := ok_Stepper_flush (P := P) (base := base) T (c.def_ 29 (d := d_Stepper_flush) rfl) g_Stepper_bring g_Stepper_flush_batch g_Stepper_look_for_end
  have g_Stepper_free_block := ok_Stepper_free_block (P := P) (base := base) T (c.def_ 38 (d := d_Stepper_free_block) rfl) g_Machine_batch g_Stepper_advance g_Stepper_is_small g_Stepper_put_home
  have g_Stepper_send := ok_Stepper_send (P := P) (base := base) T (c.def_ 39 (d := d_Stepper_send) rfl) g_Machine_batch g_Stepper_advance
  have g_Stepper_free := ok_Stepper_free (P := P) (base := base) T (c.def_ 37 (d := d_Stepper_free) rfl) g_Stepper_advance g_Stepper_free_block g_Stepper_send
  have g_Stepper_step := ok_Stepper_step (P := P) (base := base) T (c.def_ 28 (d := d_Stepper_step) rfl) g_Machine_threads g_Stepper_adopt g_Stepper_allocate g_Stepper_drain g_Stepper_flush g_Stepper_free
  have g_Stepper_sweep := ok_Stepper_sweep (P := P) (base := base) T (c.def_ 42 (d := d_Stepper_sweep) rfl) g_Stepper_bring
  have g_is_move := ok_is_move (P := P) (base := base) T (c.def_ 46 (d := d_is_move) rfl) g_is_integer
  have g_Machine_step := ok_Machine_step (P := P) (base := base) T (c.def_ 60 (d := d_Machine_step) rfl) g_Draft_init g_Draft_frozen g_Machine_moves g_Stepper_init g_Stepper_carry g_Stepper_step g_Stepper_sweep g_is_move
  have g_law_run := ok_law_run (P := P) (base := base) T (c.def_ 66 (d := d_law_run) rfl) g_Machine_moves g_Machine_start g_Machine_step g_law_take
  have g_Machine_run := ok_Machine_run (P := P) (base := base) T (c.def_ 61 (d := d_Machine_run) rfl) g_Machine_start g_Machine_step g_is_row
  have g_sent_messages := ok_sent_messages (P := P) (base := base) T (c.def_ 0 (d := d_sent_messages) rfl) g_State_flight
  have g_costs := ok_costs (P := P) (base := base) T (c.def_ 1 (d := d_costs) rfl) g_Machine_run g_Machine_start g_sent_messages
  exact ok_law (fun M O => Mp.mathM O) T F g_Machine_batch g_law_machine g_law_open g_law_pair g_law_pool g_law_run g_law_take g_costs
theorem law_facts {P : Program} {w : World} {K : Frg} {h : Heap} {mg : Str → Option Value} {f : Addr} (X : K.In h) (G : h.Ns mainGlobals mg) (hfa : mg ("law" : Str) = some (.ref f)) (c : SaysX fa fn tb w K) :
    ∃ fd : FuncData, (∀ (s : Shared) (v : Value), BindsTo s fd ⟨[v], []⟩ [("_law_script", v)]) ∧ ∀ base : Heap, K.In base → base.Ns mainGlobals mg → FnOk P w K mg base CX0 12 f fd ["_law_script"] (spLaw K) := by
  have T := txt_mk X G c
  obtain ⟨fd, F⟩ := c.def_ 68 (d := d_law) rfl
  have e := hfa.symm.trans T.glo_law
  cases e
  have e1 : d_law.dvs K = [] := rfl
  have F' := F
  rw [e1] at F'
  have b := FunD.bindsA (ps := ["_law_script"]) F' fun _ _ _ _ _ _ us hl => match us, hl with | [_], _ => rfl
  exact ⟨fd, fun s v => b s [v] rfl, fun base _ _ => law_all T c F⟩
end Rp
set_option Elab.async false
set_option linter.all false
set_option maxRecDepth 100000
set_option maxHeartbeats 0
open PySem PySem.W PySem.Calls PyProof.Rows
theorem PySem.Challenge.cw_homefrees_k52_whole_messages_are_few_holds : PySem.Challenge.rw_homefrees_k52_whole_messages_are_few.Holds := by
  w_on; o_law
  refine HandSHeadRun.head_any (r := OpenLaw.row PySem.Challenge.rw_homefrees_k52_whole_messages_are_few) (q := view (OpenLaw.row PySem.Challenge.rw_homefrees_k52_whole_messages_are_few).prog [51]) (H := Hf.hk) (ob := Hf.ob) (M := 6500) (loose := Hf.names) (d := HandSHeadRun.topDef (OpenLaw.row PySem.Challenge.rw_homefrees_k52_whole_messages_are_few).prog 51) (kwd := []) Hf.ob_eq
    (by kernel_rfl) (fun s => by kernel_rfl) Hf.run (by kernel_rfl) (by kernel_rfl) (by kernel_rfl) (by rfl) (by first | assumption | decide +kernel) (by decide +kernel) ⟨rfl, rfl, rfl, rfl, rfl, by decide +kernel⟩ ?hw ?hc
  case hw => w_witness2
  case hc =>
    refine L2.walk_ofE (l := PySem.Challenge.rw_homefrees_k52_whole_messages_are_few) (n := 63) (k := 12) (x := "_law_script") (CX := L2.CX0) rfl (by decide) (by kernel_rfl) ⟨rfl, by decide, by decide⟩ ?F (fun _ _ _ _ z => z)
    intro w mg fa h Y G hmg0
    obtain ⟨K, KX, c⟩ := Y
    have hmg : mg ("law" : PySem.Str) = some (.ref fa) := by
      have e : (HandSHeadRun.topDef (OpenLaw.row PySem.Challenge.rw_homefrees_k52_whole_messages_are_few).prog 51).name = ("law" : PySem.Str) := by kernel_rfl
      rw [← e]
      exact hmg0
    obtain ⟨fd, hb, hF⟩ := Rp.law_facts (P := (PySem.Challenge.rw_homefrees_k52_whole_messages_are_few).prog) (w := w) KX G hmg c
    exact ⟨K, fd, Rp.spLaw K, KX, hb, fun H a ns hl _ hS => ⟨a, ns, rfl, hS, hl, fun _ => rfl⟩, hF⟩
