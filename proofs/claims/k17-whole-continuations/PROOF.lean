import PyProof.Rows.All
import Wide.All
import OpenK.AllK
import Wide.FinOn
import KE.KStateDown
import HandS.Base
import HandS.Call
import HandS.Ends
import HandS.More
import HandS.Words
import HandS.Codes
import HandS.Defaults
import HandS.Property
import HandS.Head0
import HandS.Head1
import HandS.Head2
import HandS.HeadEnd
import HandS.HeadHook1
import HandS.HeadHook2
import HandS.HeadHook3
import HandS.ForMost
import HandS.Zip
import HandS.Rev
import HandS.Conv
import HandS.TupAny
import HandS.TupMul
import HandS.IsInst
import HandS.MakeKw
import HandS.Wide
import HandS.WideBits
import KE.GoesMore
import KE.GoesEnum
import HandS.OwnEq
import PyProof.InstNe
import KE.KDictKeyed
import KE.KeyNested
import HandS.Exc
import HandS.Iter
import KE.SortData
import HandS.RevTup
import HandS.MakeKwOnly
import PySem.Challenge.RW_wallwalks_k17_whole_continuations_bracke
set_option Elab.async false
set_option linter.all false
set_option maxRecDepth 100000
set_option maxHeartbeats 4000000
namespace Wk
open PySem PySem.W PySem.Spec PyProof.Rows L2 He
def top (i : Nat) : Stmt := PySem.Challenge.pw_wallwalks_k17_whole_continuations_bracke.main.body.getD i (.Pass ⟨0, 0, 0, 0⟩)
/-! ### what the top has left, by checks -/
/-- where a def stands: a global, a class's method, a property's getter -/
inductive Pl where
  | g (x : Str)
  | m (C x : Str)
  | p (C x : Str)
/-- the property of a class -/
def prA (K : Frag) (C x : Str) : Addr := match findIn K (.ref (ga K C)) x with
  | some (some (.ref p)) => p
  | _ => 0
def gtA (K : Frag) (C x : Str) : Addr := match recIn K (prA K C x) "property" with
  | some (.ref g :: _) => g
  | _ => 0
def Pl.a (K : Frag) : Pl → Addr
  | .g x => ga K x
  | .m C x => ma K (ga K C) x
  | .p C x => gtA K C x
structure Dd where
  pl : Pl
  name : Str
  qual : Str
  st : Stmt
  dfl : List V := []
def fnA (K : Frag) (a : Addr) : FnW := match K.lookup a with
  | some ⟨_, _, .func fd, _⟩ => some (fd.name, fd.qualname, fd.params, fd.body, fd.scope, fd.globals, fd.closure, fd.builtins)
  | _ => none
def Dd.val (d : Dd) : FnW := some (d.name, d.qual, defArgs d.st, .stmts (defBody d.st), defScope d.st, mainGlobals, [], builtinsNs)
def Dd.ok (K : Frag) (d : Dd) : Bool := match K.lookup (d.pl.a K) with
  | some ⟨_, _, .func fd, _⟩ => keepIn K (.ref (d.pl.a K)) && (codeIn K fd.code d.qual && dflB K fd.defaults d.dfl)
  | _ => false
theorem Dd.fun_ {K : Frag} {d : Dd} (e : fnA K (d.pl.a K) = d.val) (c : d.ok K = true) : ∃ fd, FunD K d.name d.qual (defArgs d.st) (defBody d.st) (defScope d.st) d.dfl [] (d.pl.a K) fd := by
  unfold Dd.ok at c
  unfold fnA at e
  cases q : K.lookup (d.pl.a K) with
  | none => rw [q] at c; cases c
  | some o =>
    obtain ⟨oc, od, dt, osl⟩ := o
    rw [q] at c e
    cases dt with
    | func fd =>
      cases fd
      injection e with e
      simp only [Prod.mk.injEq] at e
      obtain ⟨h1, h2, h3, h4, h5, h6, h7, h8⟩ := e
      subst h1 h2 h3 h4 h5 h6 h7 h8
      have c : (_ && (_ && _)) = true := c
      simp only [Bool.and_eq_true] at c
      obtain ⟨k0, k1, k2⟩ := c
      exact ⟨_, ⟨_, _, _, _, _, _, _, _, _, _, rfl, q, k1, dflB_ok k2, .inl rfl⟩, k0⟩
    | _ => cases c
/-- a class for isinstance -/
def insB (K : Frag) (C : Addr) : Bool := eqO (findIn K (.ref C) "__class__") (some (some (.builtin "object.__class__"))) && (eqO (specialIn K (.builtin "object.__class__") "__get__") (some (some (.builtin "getset_descriptor.__get__"))) && (decide (takesIn K (.builtin "object.__class__") = some true) && (decide (mroIn K C (.type "object") = some true) && decide (kitOne K (.ref C) (.ref C) = some true))))
theorem insB_ok {K : Frag} {C : Addr} (cl : Cls K C) (h : insB K C = true) : C8.InsC K C := by
  unfold insB at h
  simp only [Bool.and_eq_true, decide_eq_true_eq] at h
  exact ⟨cl, eqO_ok h.1, eqO_ok h.2.1, h.2.2.1, h.2.2.2.1, h.2.2.2.2⟩
def eqB' (K : Frag) (C : Addr) : Bool := eqO (findIn K (.ref C) "__ne__") (some (some (.builtin "object.__ne__"))) && decide (mroIn K C (.type "object") = some true)
def prB (K : Frag) (C x : Str) : Bool := eqO (findIn K (.ref (ga K C)) x) (some (some (.ref (prA K C x)))) && (eqO (specialIn K (.ref (prA K C x)) "__get__") (some (some (.builtin "property.__get__"))) && (decide (takesIn K (.ref (prA K C x)) = some true) && (match recIn K (prA K C x) "property" with
  | some (.ref g :: _) => true
  | _ => false)))
theorem prB_ok {K : Frag} {C x : Str} (h : prB K C x = true) : PropOf K (ga K C) x (prA K C x) (gtA K C x) := by
  unfold prB at h
  simp only [Bool.and_eq_true, decide_eq_true_eq] at h
  obtain ⟨h1, h2, h3, h4⟩ := h
  refine ⟨eqO_ok h1, eqO_ok h2, h3, ?_⟩
  unfold gtA
  split at h4
  · rename_i g r e
    rw [e]
    exact ⟨r, rfl⟩
  · cases h4
/-- a tuple at an address -/
def tupA (K : Frag) (p : Addr) (vs : List V) : Bool := match K.lookup p with
  | some ⟨.type c, _, .seq its _, _⟩ => decide (c = "tuple") && (decide (its.size ≤ sizeLine) && relAll vs its.toList)
  | _ => false
theorem tupA_ok {K : Frag} {p : Addr} {vs : List V} (h : tupA K p vs = true) (H : Hp) : SqT K H p vs := by
  unfold tupA at h
  split at h
  · rename_i c d its n sl e
    simp only [Bool.and_eq_true, decide_eq_true_eq] at h
    obtain ⟨h1, h2, h3⟩ := h
    subst h1
    exact .inr ⟨_, its, n, e, rfl, rfl, h2, relAll_ok h3⟩
  · cases h
def kInts (l : List DictEntry) : Bool := l.all fun e => match e.key with
  | .int k _ => decide (e.hash = hashInt k)
  | _ => false
/-- a dict with int keys holds a pair of ints at i -/
def pairB (K : Frag) (a : Addr) (i x y : Int) : Bool := match K.lookup a with
  | some ⟨.type c, none, .dict es _, sl⟩ => decide (c = "dict") && (sl.isEmpty && (kInts es.toList && (match findBy Value.isInt es i with
    | some (.ref p) => tupA K p [.int x, .int y]
    | _ => false)))
  | _ => false
theorem pairB_ok {K : Frag} {a : Addr} {i x y : Int} (h : pairB K a i x y = true) : ∃ p, (∃ es n u, K.lookup a = some ⟨.type "dict", none, .dict es n, #[]⟩ ∧ kInts es.toList = true ∧ findBy Value.isInt es i = some u ∧ RelV (.ref p) u) ∧ ∀ H, SqT K H p [.int x, .int y] := by
  unfold pairB at h
  split at h
  · rename_i c es n sl e
    simp only [Bool.and_eq_true, decide_eq_true_eq] at h
    obtain ⟨h1, h2, h3, h4⟩ := h
    subst h1
    have h2 : sl = #[] := Array.isEmpty_iff.mp h2
    subst h2
    split at h4
    · rename_i p e2
      exact ⟨p, ⟨es, n, _, e, h3, e2, rfl⟩, tupA_ok h4⟩
    · cases h4
  · cases h
/-- the keys of a dict with text keys stand in this order -/
theorem keys_of {K : Frag} {P : Params} {a : Addr} {ks : List Str} (h : dicW K a = some (keysIn P ks)) : ∃ ep es, K.lookup a = some ⟨.type "dict", none, .dict es ep, #[]⟩ ∧ (a == sysModules) = false ∧ es.size = ks.length ∧ ∀ (i : Nat) (x : Str), ks[i]? = some x → ∃ (en : DictEntry) (t : Tok), es[i]? = some en ∧ en.key = .str x t := by
  unfold dicW at h
  split at h
  · rename_i c es n sl e
    split at h
    · rename_i q
      simp only [Bool.and_eq_true, decide_eq_true_eq, Bool.not_eq_true'] at q
      obtain ⟨q1, q2, q3⟩ := q
      subst q1
      have q2 : sl = #[] := Array.isEmpty_iff.mp q2
      subst q2
      injection h with h
      have hl : es.size = ks.length := by
        have := congrArg List.length h
        unfold keysIn at this
        simpa using this
      refine ⟨n, es, e, q3, hl, fun i x hx => ?_⟩
      have hi : i < es.size := by rw [hl]; exact (List.getElem?_eq_some_iff.mp hx).1
      have := congrArg (fun l => l[i]?) h
      unfold keysIn at this
      simp only [List.getElem?_map, hx] at this
      have he : es.toList[i]? = some es[i] := by simp [hi]
      rw [he] at this
      simp only [Option.map_some, Option.some.injEq] at this
      unfold keyOf at this
      split at this
      · rename_i y t ek
        simp only [Option.some.injEq, Prod.mk.injEq] at this
        exact ⟨es[i], t, by simp [hi], by rw [ek, this.1]⟩
      · cases this
    · cases h
  · cases h
/-! ### the Hook -/
/-- what an object leads to: a dict's values, a def's code and defaults, a class's own names, a property's parts -/
def leads (o : Obj) : List Addr := match o.data with
  | .dict es _ => es.toList.flatMap fun e => refV e.val
  | .func fd => refV fd.code ++ refV fd.defaults
  | .cls cd => cd.ns :: cd.mro.flatMap refV
  | .fields vs => (match o.cls with
    | .type c => (match decide (c = "property") with
      | true => vs.toList.flatMap refV
      | false => [])
    | _ => [])
  | _ => []
/-- what is reached in n steps -/
def reach (g : Addr → Option Obj) : Nat → List Addr → List Addr
  | 0, f => f
  | n + 1, f => f ++ reach g n (f.flatMap fun a => match g a with
    | some o => leads o
    | none => [])
structure Asks where
  fa : List Fa
  d1 : List Dd
  d2 : List Dd
  ts : List Tab
  ex : Frag → Bool
def Asks.ds (q : Asks) : List Dd := q.d1 ++ q.d2
abbrev Al3 : Type := Bool × List (Option (List (Option (Str × Int))))
abbrev AlW : Type := Bool × (Bool × Bool) × List FnW × Al3
def ob1 (q : Asks) (K : Frag) : Bool := q.fa.all fun f => f.ok K
def okA (l : List Dd) (K : Frag) : Bool := l.all fun d => d.ok K
def ob2 (q : Asks) (K : Frag) : Bool × Bool := (okA q.d1 K, okA q.d2 K)
def ob3 (q : Asks) (K : Frag) : List FnW := q.ds.map fun d => fnA K (d.pl.a K)
def ob4 (q : Asks) (K : Frag) : Al3 := (q.ex K, q.ts.map fun t => dicW K (t.1 K))
def obsW (q : Asks) (K : Frag) : AlW := (ob1 q K, ob2 q K, ob3 q K, ob4 q K)
def val3 (q : Asks) : List FnW := q.ds.map Dd.val
def val4 (q : Asks) (w : World) : Al3 := (true, q.ts.map fun t => some (keysIn w.params t.2))
def valW (q : Asks) (w : World) : AlW := (true, (true, true), val3 q, val4 q w)
def SaysW (q : Asks) (w : World) (K : Frag) : Prop := obsW q K = valW q w
def frR (n : Nat) (g : Addr → Option Obj) : Frag := frG g (reach g n [mainGlobals])
def obsWG (n : Nat) (q : Asks) (g : Addr → Option Obj) : AlW := obsW q (frR n g)
def hookW (n : Nat) (q : Asks) : Hook where
  α := AlW
  obs := fun s => obsWG n q s.heap.get?
  val := fun w => valW q w
  says := fun w h => ∃ K : Frag, K.In h ∧ SaysW q w K
  of := fun _ _ e => ⟨_, frG_in, e⟩
  keeps := fun _ _ _ ⟨K, hK, c⟩ k => ⟨K, Frag.In.keeps hK k, c⟩
theorem obsWG_eq {n : Nat} {q : Asks} {g : Addr → Option Obj} {s : Shared} (h : ∀ a, g a = s.heap.get? a) : obsWG n q g = (hookW n q).obs s := by
  have e : g = s.heap.get? := funext h
  rw [e] <;> rfl
section
variable {q : Asks} {w : World} {K : Frag}
theorem SaysW.bs (c : SaysW q w K) : (∀ f ∈ q.fa, f.ok K = true) ∧ (∀ d ∈ q.ds, d.ok K = true) ∧ q.ex K = true :=
  ⟨List.all_eq_true.mp (congrArg (fun z : AlW => z.1) c), fun d hd => by
    rcases List.mem_append.mp hd with e | e
    · exact List.all_eq_true.mp (congrArg (fun z : AlW => z.2.1.1) c) d e
    · exact List.all_eq_true.mp (congrArg (fun z : AlW => z.2.1.2) c) d e, congrArg (fun z : AlW => z.2.2.2.1) c⟩
theorem SaysW.fact (c : SaysW q w K) (i : Nat) {f : Fa} (h : q.fa[i]? = some f) : f.ok K = true := c.bs.1 f (List.mem_of_getElem? h)
theorem SaysW.def_ (c : SaysW q w K) (i : Nat) {d : Dd} (h : q.ds[i]? = some d) : ∃ fd, FunD K d.name d.qual (defArgs d.st) (defBody d.st) (defScope d.st) d.dfl [] (d.pl.a K) fd := by
  have e : q.ds.map (fun d => fnA K (d.pl.a K)) = q.ds.map Dd.val := congrArg (fun z : AlW => z.2.2.1) c
  have e2 := congrArg (fun l => l[i]?) e
  simp only [List.getElem?_map, h, Option.map_some, Option.some.injEq] at e2
  exact Dd.fun_ e2 (c.bs.2.1 d (List.mem_of_getElem? h))
theorem SaysW.tab (c : SaysW q w K) (i : Nat) {t : Tab} (h : q.ts[i]? = some t) : dicW K (t.1 K) = some (keysIn w.params t.2) := by
  have e : q.ts.map (fun t => dicW K (t.1 K)) = q.ts.map fun t => some (keysIn w.params t.2) := congrArg (fun z : AlW => z.2.2.2.2) c
  have e2 := congrArg (fun l => l[i]?) e
  simpa only [List.getElem?_map, h, Option.map_some, Option.some.injEq] using e2
end
end Wk
namespace Wk
open PySem L2
def qFa0 : List He.Fa := [.free "len", .free "tuple", .free "range", .free "zip", .free "enumerate", .free "reversed", .free "isinstance", .free "int", .free "bool", .free "str", .free "abs", .free "max", .free "min", .free "sorted", .free "divmod", .glo "is_whole", .glo "is_between", .glo "pair_sign", .glo "axis_of", .glo "all_axes"]
def qFa1 : List He.Fa := [.glo "level_at", .glo "turned", .glo "vector_less", .glo "pressed_behind", .glo "pressed_front", .glo "images_of", .glo "is_down", .glo "down_buttons", .glo "word_by", .glo "led_by", .glo "is_button", .glo "is_right_row", .glo "first_wrong_row", .glo "weight_pairs", .glo "piece_from", .glo "pieces_of", .glo "check_table", .glo "wrong_in_room", .glo "wrong_in_word", .glo "check_word"]
def qFa2 : List He.Fa := [.glo "check_room", .glo "check_number", .glo "part_ties", .glo "change_made", .glo "check_change", .glo "check_same_table", .glo "check_both", .glo "inverse_of", .glo "product_of", .glo "led_front", .glo "plain", .glo "by_turns", .glo "does_begin", .glo "begins", .glo "top_images", .glo "top_of", .glo "joined_button", .glo "joined_word", .glo "least_continuation", .glo "chain_pairs"]
def qFa3 : List He.Fa := [.glo "finite_pairs", .glo "tied_rows", .glo "named_ties", .glo "names_with", .glo "fits_line", .glo "likeness_of", .glo "name_of", .glo "kind_of", .glo "part_names", .glo "is_finite_part", .glo "check_finite", .glo "room_top", .glo "front_of_both", .glo "common_front", .glo "_law_plus", .glo "_law_less", .glo "_law_times", .glo "_law_sign", .glo "_law_weight", .glo "_law_level"]
def qFa4 : List He.Fa := [.glo "_law_bent", .glo "_law_led", .glo "_law_axis", .glo "_law_images", .glo "_law_is_down", .glo "_law_pressed", .glo "_law_key", .glo "_law_backs", .glo "_law_taken", .glo "_law_undone", .glo "_law_first", .glo "_law_left", .glo "_law_is_least_one", .glo "_law_pot", .glo "_law_take", .glo "_law_pick", .glo "_law_rounds", .glo "_law_word", .glo "_law_ties", .glo "_law_continued"]
def qFa5 : List He.Fa := [.glo "_law_bracketed", .glo "_law_is_none", .glo "_law_right", .glo "law", .glo "fork_pairs", .glo "flat_pairs", .glo "Table", .glo "Change", .glo "TIES", .glo "LOW", .glo "HIGH", .glo "NOUGHT", .glo "LEAST", .glo "MOST", .glo "FLAT_LEAST", .glo "FLAT_MOST", .int "MOST_WORD" 60, .int "MOST_BUTTONS" 6, .cls "Table", .cls "Change"]
def qFa6 : List He.Fa := [.mkr "Table", .mkr "Change", .meth "Table" "__eq__", .meth "Change" "__eq__", .noat "Table" "ties", .noat "Table" "size", .noat "Table" "pairs", .noat "Table" "pieces", .noat "Change" "table", .noat "Change" "_ahead", .noat "Change" "_back"]
def qFa : List He.Fa := qFa0 ++ qFa1 ++ qFa2 ++ qFa3 ++ qFa4 ++ qFa5 ++ qFa6
def qDa0 : List Dd := [⟨.g "is_whole", "is_whole", "is_whole", top 19, []⟩, ⟨.g "is_between", "is_between", "is_between", top 20, []⟩, ⟨.g "pair_sign", "pair_sign", "pair_sign", top 22, []⟩, ⟨.g "axis_of", "axis_of", "axis_of", top 23, []⟩, ⟨.g "all_axes", "all_axes", "all_axes", top 24, []⟩, ⟨.g "level_at", "level_at", "level_at", top 26, []⟩, ⟨.g "turned", "turned", "turned", top 27, []⟩, ⟨.g "vector_less", "vector_less", "vector_less", top 28, []⟩, ⟨.g "pressed_behind", "pressed_behind", "pressed_behind", top 30, []⟩, ⟨.g "pressed_front", "pressed_front", "pressed_front", top 31, []⟩, ⟨.g "images_of", "images_of", "images_of", top 32, []⟩, ⟨.g "is_down", "is_down", "is_down", top 25, []⟩, ⟨.g "down_buttons", "down_buttons", "down_buttons", top 33, []⟩, ⟨.g "word_by", "word_by", "word_by", top 34, []⟩, ⟨.g "led_by", "led_by", "led_by", top 29, []⟩, ⟨.g "is_button", "is_button", "is_button", top 59, []⟩, ⟨.g "is_right_row", "is_right_row", "is_right_row", top 60, []⟩, ⟨.g "first_wrong_row", "first_wrong_row", "first_wrong_row", top 61, []⟩, ⟨.g "weight_pairs", "weight_pairs", "weight_pairs", top 62, []⟩, ⟨.g "piece_from", "piece_from", "piece_from", top 63, []⟩]
def qDa1 : List Dd := [⟨.g "pieces_of", "pieces_of", "pieces_of", top 64, []⟩, ⟨.g "check_table", "check_table", "check_table", top 66, []⟩, ⟨.g "wrong_in_room", "wrong_in_room", "wrong_in_room", top 67, []⟩, ⟨.g "wrong_in_word", "wrong_in_word", "wrong_in_word", top 72, []⟩, ⟨.g "check_word", "check_word", "check_word", top 73, []⟩, ⟨.g "check_room", "check_room", "check_room", top 74, []⟩, ⟨.g "check_number", "check_number", "check_number", top 75, []⟩, ⟨.g "part_ties", "part_ties", "part_ties", top 68, []⟩, ⟨.m "Table" "__init__", "__init__", "Table.__init__", inClass (top 58) 0, []⟩, ⟨.m "Change" "__init__", "__init__", "Change.__init__", inClass (top 78) 0, [.non]⟩, ⟨.g "change_made", "change_made", "change_made", top 79, []⟩, ⟨.g "check_change", "check_change", "check_change", top 80, []⟩, ⟨.g "check_same_table", "check_same_table", "check_same_table", top 76, []⟩, ⟨.g "check_both", "check_both", "check_both", top 100, []⟩, ⟨.g "inverse_of", "inverse_of", "inverse_of", top 81, []⟩, ⟨.g "product_of", "product_of", "product_of", top 82, []⟩, ⟨.g "led_front", "led_front", "led_front", top 84, []⟩, ⟨.g "plain", "plain", "plain", top 87, []⟩, ⟨.p "Change" "word", "word", "Change.word", inClass (top 78) 2, []⟩, ⟨.p "Change" "length", "length", "Change.length", inClass (top 78) 3, []⟩]
def qDa2 : List Dd := [⟨.p "Change" "fronts", "fronts", "Change.fronts", inClass (top 78) 5, []⟩, ⟨.m "Table" "__eq__", "__eq__", "Table.__eq__", inClass (top 58) 5, []⟩, ⟨.m "Change" "__eq__", "__eq__", "Change.__eq__", inClass (top 78) 9, []⟩, ⟨.g "by_turns", "by_turns", "by_turns", top 98, []⟩, ⟨.g "does_begin", "does_begin", "does_begin", top 102, []⟩, ⟨.g "begins", "begins", "begins", top 101, []⟩, ⟨.g "top_images", "top_images", "top_images", top 93, []⟩, ⟨.g "top_of", "top_of", "top_of", top 94, []⟩, ⟨.g "joined_button", "joined_button", "joined_button", top 105, []⟩]
def qDa : List Dd := qDa0 ++ qDa1 ++ qDa2
def qDb0 : List Dd := [⟨.g "joined_word", "joined_word", "joined_word", top 106, []⟩, ⟨.g "least_continuation", "least_continuation", "least_continuation", top 107, []⟩, ⟨.g "chain_pairs", "chain_pairs", "chain_pairs", top 48, []⟩, ⟨.g "finite_pairs", "finite_pairs", "finite_pairs", top 50, []⟩, ⟨.g "tied_rows", "tied_rows", "tied_rows", top 47, []⟩, ⟨.g "named_ties", "named_ties", "named_ties", top 52, []⟩, ⟨.g "names_with", "names_with", "names_with", top 53, []⟩, ⟨.g "fits_line", "fits_line", "fits_line", top 70, []⟩, ⟨.g "likeness_of", "likeness_of", "likeness_of", top 69, []⟩, ⟨.g "name_of", "name_of", "name_of", top 89, []⟩, ⟨.g "kind_of", "kind_of", "kind_of", top 90, []⟩, ⟨.g "part_names", "part_names", "part_names", top 91, []⟩, ⟨.g "is_finite_part", "is_finite_part", "is_finite_part", top 92, []⟩, ⟨.g "check_finite", "check_finite", "check_finite", top 95, []⟩, ⟨.g "room_top", "room_top", "room_top", top 96, []⟩, ⟨.g "front_of_both", "front_of_both", "front_of_both", top 103, []⟩, ⟨.g "common_front", "common_front", "common_front", top 104, []⟩, ⟨.g "_law_plus", "_law_plus", "_law_plus", top 113, []⟩, ⟨.g "_law_less", "_law_less", "_law_less", top 114, []⟩, ⟨.g "_law_times", "_law_times", "_law_times", top 115, []⟩]
def qDb1 : List Dd := [⟨.g "_law_sign", "_law_sign", "_law_sign", top 116, []⟩, ⟨.g "_law_weight", "_law_weight", "_law_weight", top 118, []⟩, ⟨.g "_law_level", "_law_level", "_law_level", top 119, []⟩, ⟨.g "_law_bent", "_law_bent", "_law_bent", top 120, []⟩, ⟨.g "_law_led", "_law_led", "_law_led", top 121, []⟩, ⟨.g "_law_axis", "_law_axis", "_law_axis", top 122, []⟩, ⟨.g "_law_images", "_law_images", "_law_images", top 123, []⟩, ⟨.g "_law_is_down", "_law_is_down", "_law_is_down", top 124, []⟩, ⟨.g "_law_pressed", "_law_pressed", "_law_pressed", top 126, []⟩, ⟨.g "_law_key", "_law_key", "_law_key", top 127, []⟩, ⟨.g "_law_backs", "_law_backs", "_law_backs", top 128, []⟩, ⟨.g "_law_taken", "_law_taken", "_law_taken", top 129, []⟩, ⟨.g "_law_undone", "_law_undone", "_law_undone", top 131, []⟩, ⟨.g "_law_first", "_law_first", "_law_first", top 130, []⟩, ⟨.g "_law_left", "_law_left", "_law_left", top 132, []⟩, ⟨.g "_law_is_least_one", "_law_is_least_one", "_law_is_least_one", top 133, []⟩, ⟨.g "_law_pot", "_law_pot", "_law_pot", top 109, []⟩, ⟨.g "_law_take", "_law_take", "_law_take", top 110, []⟩, ⟨.g "_law_pick", "_law_pick", "_law_pick", top 111, []⟩, ⟨.g "_law_rounds", "_law_rounds", "_law_rounds", top 112, []⟩]
def qDb2 : List Dd := [⟨.g "_law_word", "_law_word", "_law_word", top 125, []⟩, ⟨.g "_law_ties", "_law_ties", "_law_ties", top 117, []⟩, ⟨.g "_law_continued", "_law_continued", "_law_continued", top 135, []⟩, ⟨.g "_law_bracketed", "_law_bracketed", "_law_bracketed", top 136, []⟩, ⟨.g "_law_is_none", "_law_is_none", "_law_is_none", top 134, []⟩, ⟨.g "_law_right", "_law_right", "_law_right", top 137, []⟩, ⟨.g "law", "law", "law", top 138, []⟩, ⟨.g "fork_pairs", "fork_pairs", "fork_pairs", top 49, []⟩, ⟨.g "flat_pairs", "flat_pairs", "flat_pairs", top 51, []⟩]
def qDb : List Dd := qDb0 ++ qDb1 ++ qDb2
def qTs : List He.Tab := [(fun K => He.ga K "LEAST", ["A", "B", "D", "E", "F", "G", "H"]), (fun K => He.ga K "MOST", ["A", "B", "D", "E", "F", "G", "H"]), (fun K => He.ga K "FLAT_LEAST", ["A", "B", "C", "D", "F", "G"]), (fun K => He.ga K "FLAT_MOST", ["A", "B", "C", "D", "F", "G"])]
def qEx (K : PySem.W.Frag) : List Bool := [insB K (He.ga K "Table"), insB K (He.ga K "Change"), eqB' K (He.ga K "Table"), eqB' K (He.ga K "Change"), prB K "Change" "word", prB K "Change" "length", prB K "Change" "fronts", tupA K (He.ga K "TIES") [.int 0, .int 2, .int 3, .int 4, .int 5, .int 6], tupA K (He.ga K "NOUGHT") [.int 0, .int 0], pairB K (He.ga K "LOW") 0 (-2) 0, pairB K (He.ga K "LOW") 2 0 0, pairB K (He.ga K "LOW") 3 (-1) 0, pairB K (He.ga K "LOW") 4 (-1) 0, pairB K (He.ga K "LOW") 5 0 (-1), pairB K (He.ga K "HIGH") 0 (-2) 0, pairB K (He.ga K "HIGH") 2 0 0, pairB K (He.ga K "HIGH") 3 (-1) 0, pairB K (He.ga K "HIGH") 4 (-2) 0, pairB K (He.ga K "HIGH") 5 0 (-1), He.valsB K (He.ga K "LEAST") [("A", .int 1), ("B", .int 2), ("D", .int 4), ("E", .int 6), ("F", .int 4), ("G", .int 2), ("H", .int 2)], He.valsB K (He.ga K "MOST") [("A", .int 6), ("B", .int 6), ("D", .int 6), ("E", .int 6), ("F", .int 4), ("G", .int 2), ("H", .int 4)], He.valsB K (He.ga K "FLAT_LEAST") [("A", .int 1), ("B", .int 3), ("C", .int 2), ("D", .int 4), ("F", .int 4), ("G", .int 2)], He.valsB K (He.ga K "FLAT_MOST") [("A", .int 5), ("B", .int 5), ("C", .int 5), ("D", .int 5), ("F", .int 4), ("G", .int 2)]]
def asks : Asks := ⟨qFa, qDa, qDb, qTs, fun K => (qEx K).all id⟩
end Wk
namespace WkRun
open PySem PySem.W PySem.Calls PyProof.Rows L2 Wk
abbrev R : OpenRow := OpenLaw.row PySem.Challenge.rw_wallwalks_k17_whole_continuations_bracke
abbrev qv : Program := view R.prog [138]
def nms1 : List PySem.Str := ["_wall", "WrongValue", "NoAnswer", "InvalidNumber", "InvalidText", "InvalidButton", "NotATable", "NotAChange", "InvalidTies", "InvalidWord", "InvalidRoom", "OtherTable", "NotFinite", "MOST_BUTTONS", "MOST_WORD", "MOST_POWER", "NOUGHT", "is_whole", "is_between", "pair_product", "pair_sign", "axis_of", "all_axes", "is_down", "level_at"]
def nms2 : List PySem.Str := ["turned", "vector_less", "led_by", "pressed_behind", "pressed_front", "images_of", "down_buttons", "word_by", "DIGITS", "Golden", "goldens_of", "text_of", "whole_in", "golden_in", "LEAST", "MOST", "FLAT_LEAST", "FLAT_MOST", "tied_rows", "chain_pairs", "fork_pairs", "finite_pairs", "flat_pairs", "named_ties", "names_with"]
def nms3 : List PySem.Str := ["TIES", "LOW", "HIGH", "Table", "is_button", "is_right_row", "first_wrong_row", "weight_pairs", "piece_from", "pieces_of", "ties_in", "check_table", "wrong_in_room", "part_ties", "likeness_of", "fits_line", "wrong_in_word", "check_word", "check_room", "check_number", "check_same_table", "Change", "change_made", "check_change", "inverse_of"]
def nms4 : List PySem.Str := ["product_of", "power_of", "led_front", "text_of_word", "word_in", "plain", "name_of", "kind_of", "part_names", "is_finite_part", "top_images", "top_of", "check_finite", "room_top", "by_turns", "check_both", "begins", "does_begin", "front_of_both", "common_front", "joined_button", "joined_word", "least_continuation", "_law_pot", "_law_take"]
def nms5 : List PySem.Str := ["_law_pick", "_law_rounds", "_law_plus", "_law_less", "_law_times", "_law_sign", "_law_ties", "_law_weight", "_law_level", "_law_bent", "_law_led", "_law_axis", "_law_images", "_law_is_down", "_law_word", "_law_pressed", "_law_key", "_law_backs", "_law_taken", "_law_first", "_law_undone", "_law_left", "_law_is_least_one", "_law_is_none", "_law_continued"]
def nms6 : List PySem.Str := ["_law_bracketed", "_law_right"]
def nms : List PySem.Str := nms1 ++ (nms2 ++ (nms3 ++ (nms4 ++ (nms5 ++ nms6))))
abbrev hk : Hook := hookW 5 asks
abbrev frS (s : SharedT) : Frag := frR 5 (HandSHeadRun.getT s)
def ob (s : SharedT) : AlW := obsWG 5 asks (HandSHeadRun.getT s)
theorem ob_eq (s : SharedT) : ob s = hk.obs s.abs := obsWG_eq (HandSHeadRun.getT_eq s)
theorem mapAll {α A B C D E F G : Type} {o : Option α} {a : α → A} {b : α → B} {c : α → C} {d : α → D} {e : α → E} {f : α → F} {g : α → G} {va : A} {vb : B} {vc : C} {vd : D} {ve : E} {vf : F} {vg : G} (h0 : o.map (fun s => (a s, g s)) = some (va, vg)) (h1 : o.map b = some vb) (h2 : o.map c = some vc) (h3 : o.map d = some vd) (h4 : o.map e = some ve) (h5 : o.map f = some vf) :
    o.map (fun s => (a s, b s, c s, (d s, e s), f s, g s)) = some (va, vb, vc, (vd, ve), vf, vg) := by
  cases o with
  | none => cases h1
  | some s =>
    simp only [Option.map_some, Option.some.injEq, Prod.mk.injEq] at h0 h1 h2 h3 h4 h5 ⊢
    exact ⟨h0.1, h1, h2, ⟨h3, h4⟩, h5, h0.2⟩
noncomputable abbrev endOf (w : World) (os : OsState) : Option SharedT := HandSHeadRun.endF (HandSHeadRun.stepQ (HandSHeadRun.denQ HandSHeadRun.tabQ) R.prog w) 15000 R.prog w os
noncomputable def lkF (w : World) (s : SharedT) : Bool := HandSHeadRun.looksF R.prog (boot_heap w.params) s.abs
noncomputable def snF (s : SharedT) := HandSHeadRun.seenQ qv nms (importedModules R.prog.main.body) (fun s => xlAt qv [] s && recOk R.toRowW.records s) s.abs
abbrev EqF (w : World) (os : OsState) : Prop := (endOf w os).map (fun s => (lkF w s, snF s, ob1 asks (frS s), (okA asks.d1 (frS s), okA asks.d2 (frS s)), ob3 asks (frS s), ob4 asks (frS s))) = some (true, openGood qv nms, true, (true, true), val3 asks, val4 asks w)
theorem run_of {w : World} (h : ∀ os, EqF w os) : HandSHeadRun.RunEq R qv hk ob 15000 nms w := h
section
set_option maxHeartbeats 0
theorem runF0 (w : World) (os : OsState) : (endOf (w.withFollow "special-get-raises" false) os).map (fun s => (lkF (w.withFollow "special-get-raises" false) s, ob4 asks (frS s))) = some (true, val4 asks (w.withFollow "special-get-raises" false)) := by
  kernel_rfl
theorem runF1 (w : World) (os : OsState) : (endOf (w.withFollow "special-get-raises" false) os).map (snF) = some (openGood qv nms) := by
  kernel_rfl
theorem runF2 (w : World) (os : OsState) : (endOf (w.withFollow "special-get-raises" false) os).map (fun s => ob1 asks (frS s)) = some true := by
  kernel_rfl
theorem runF3 (w : World) (os : OsState) : (endOf (w.withFollow "special-get-raises" false) os).map (fun s => okA asks.d1 (frS s)) = some true := by
  kernel_rfl
theorem runF4 (w : World) (os : OsState) : (endOf (w.withFollow "special-get-raises" false) os).map (fun s => okA asks.d2 (frS s)) = some true := by
  kernel_rfl
theorem runF5 (w : World) (os : OsState) : (endOf (w.withFollow "special-get-raises" false) os).map (fun s => ob3 asks (frS s)) = some (val3 asks) := by
  kernel_rfl
theorem runT0 (w : World) (os : OsState) : (endOf (w.withFollow "special-get-raises" true) os).map (fun s => (lkF (w.withFollow "special-get-raises" true) s, ob4 asks (frS s))) = some (true, val4 asks (w.withFollow "special-get-raises" true)) := by
  kernel_rfl
theorem runT1 (w : World) (os : OsState) : (endOf (w.withFollow "special-get-raises" true) os).map (snF) = some (openGood qv nms) := by
  kernel_rfl
theorem runT2 (w : World) (os : OsState) : (endOf (w.withFollow "special-get-raises" true) os).map (fun s => ob1 asks (frS s)) = some true := by
  kernel_rfl
theorem runT3 (w : World) (os : OsState) : (endOf (w.withFollow "special-get-raises" true) os).map (fun s => okA asks.d1 (frS s)) = some true := by
  kernel_rfl
theorem runT4 (w : World) (os : OsState) : (endOf (w.withFollow "special-get-raises" true) os).map (fun s => okA asks.d2 (frS s)) = some true := by
  kernel_rfl
theorem runT5 (w : World) (os : OsState) : (endOf (w.withFollow "special-get-raises" true) os).map (fun s => ob3 asks (frS s)) = some (val3 asks) := by
  kernel_rfl
end
theorem run (w : World) : HandSHeadRun.RunEq R qv hk ob 15000 nms w :=
  PySem.W.byRow2 "special-get-raises" (P := fun w => HandSHeadRun.RunEq R qv hk ob 15000 nms w)
    (fun w => run_of fun os => mapAll (runF0 w os) (runF1 w os) (runF2 w os) (runF3 w os) (runF4 w os) (runF5 w os))
    (fun w => run_of fun os => mapAll (runT0 w os) (runT1 w os) (runT2 w os) (runT3 w os) (runT4 w os) (runT5 w os)) w
end WkRun
namespace Wk
structure G where
  a : Int
  b : Int
deriving DecidableEq
namespace G
@[ext] theorem ext' {x y : G} (h1 : x.a = y.a) (h2 : x.b = y.b) : x = y := by
  cases x; cases y; cases h1; cases h2; rfl
instance : Add G := ⟨fun x y => ⟨x.a + y.a, x.b + y.b⟩⟩
instance : Sub G := ⟨fun x y => ⟨x.a - y.a, x.b - y.b⟩⟩
instance : Neg G := ⟨fun x => ⟨-x.a, -x.b⟩⟩
instance : Mul G := ⟨fun x y => ⟨x.a * y.a + x.b * y.b, x.a * y.b + x.b * y.a + x.b * y.b⟩⟩
instance : NatCast G := ⟨fun n => ⟨n, 0⟩⟩
instance : IntCast G := ⟨fun n => ⟨n, 0⟩⟩
instance (n : Nat) : OfNat G n := ⟨⟨n, 0⟩⟩
instance : SMul Nat G := ⟨fun n x => ⟨n * x.a, n * x.b⟩⟩
instance : SMul Int G := ⟨fun n x => ⟨n * x.a, n * x.b⟩⟩
def npow (x : G) : Nat → G
  | 0 => 1
  | n + 1 => npow x n * x
instance : HPow G Nat G := ⟨npow⟩
@[simp] theorem add_a (x y : G) : (x + y).a = x.a + y.a := rfl
@[simp] theorem add_b (x y : G) : (x + y).b = x.b + y.b := rfl
@[simp] theorem sub_a (x y : G) : (x - y).a = x.a - y.a := rfl
@[simp] theorem sub_b (x y : G) : (x - y).b = x.b - y.b := rfl
@[simp] theorem neg_a (x : G) : (-x).a = -x.a := rfl
@[simp] theorem neg_b (x : G) : (-x).b = -x.b := rfl
@[simp] theorem mul_a (x y : G) : (x * y).a = x.a * y.a + x.b * y.b := rfl
@[simp] theorem mul_b (x y : G) : (x * y).b = x.a * y.b + x.b * y.a + x.b * y.b := rfl
@[simp] theorem ofNat_a (n : Nat) : (OfNat.ofNat n : G).a = n := rfl
@[simp] theorem ofNat_b (n : Nat) : (OfNat.ofNat n : G).b = 0 := rfl
@[simp] theorem zero_a : (0 : G).a = 0 := rfl
@[simp] theorem zero_b : (0 : G).b = 0 := rfl
@[simp] theorem one_a : (1 : G).a = 1 := rfl
@[simp] theorem one_b : (1 : G).b = 0 := rfl
@[simp] theorem natCast_a (n : Nat) : ((n : Nat) : G).a = n := rfl
@[simp] theorem natCast_b (n : Nat) : ((n : Nat) : G).b = 0 := rfl
@[simp] theorem intCast_a (n : Int) : ((n : Int) : G).a = n := rfl
@[simp] theorem intCast_b (n : Int) : ((n : Int) : G).b = 0 := rfl
@[simp] theorem nsmul_a (n : Nat) (x : G) : (n • x).a = n * x.a := rfl
@[simp] theorem nsmul_b (n : Nat) (x : G) : (n • x).b = n * x.b := rfl
@[simp] theorem zsmul_a (n : Int) (x : G) : (n • x).a = n * x.a := rfl
@[simp] theorem zsmul_b (n : Int) (x : G) : (n • x).b = n * x.b := rfl

instance : Lean.Grind.CommRing G where
  add_zero x := by ext <;> simp
  add_comm x y := by ext <;> simp <;> omega
  add_assoc x y z := by ext <;> simp <;> omega
  mul_assoc x y z := by ext <;> simp <;> grind
  mul_one x := by ext <;> simp
  one_mul x := by ext <;> simp
  left_distrib x y z := by ext <;> simp <;> grind
  right_distrib x y z := by ext <;> simp <;> grind
  zero_mul x := by ext <;> simp
  mul_zero x := by ext <;> simp
  pow_zero x := rfl
  pow_succ x n := rfl
  ofNat_succ n := by ext <;> simp
  ofNat_eq_natCast n := rfl
  nsmul_eq_natCast_mul n x := by ext <;> simp
  neg_add_cancel x := by ext <;> simp <;> omega
  sub_eq_add_neg x y := by ext <;> simp <;> omega
  neg_zsmul n x := by ext <;> simp <;> grind
  zsmul_natCast_eq_nsmul n x := by ext <;> simp
  intCast_ofNat n := rfl
  intCast_neg n := by ext <;> simp
  mul_comm x y := by ext <;> simp <;> grind
end G

/-! ### vectors -/
abbrev Vec (n : Nat) := Fin n → G
def sm : (n : Nat) → (Fin n → G) → G
  | 0, _ => 0
  | n + 1, f => sm n (fun i => f i.castSucc) + f (Fin.last n)
theorem sm_less : ∀ (n : Nat) (f g : Fin n → G) (c : G), sm n (fun t => f t - c * g t) = sm n f - c * sm n g
  | 0, f, g, c => by simp only [sm]; grind
  | n + 1, f, g, c => by simp only [sm]; rw [sm_less n]; grind
theorem sm_zero : ∀ (n : Nat), sm n (fun _ => 0) = 0
  | 0 => rfl
  | n + 1 => by simp only [sm]; rw [sm_zero n]; grind
def axis {n : Nat} (s : Fin n) : Vec n := fun t => if t = s then 1 else 0
theorem axis_same {n : Nat} (s : Fin n) : axis s s = 1 := if_pos rfl
theorem axis_ne {n : Nat} {s t : Fin n} (h : t ≠ s) : axis s t = 0 := if_neg h
theorem sm_axis : ∀ (n : Nat) (f : Fin n → G) (s : Fin n), sm n (fun t => f t * axis s t) = f s
  | 0, _, s => s.elim0
  | n + 1, f, s => by
    simp only [sm]
    by_cases h : s = Fin.last n
    · subst h
      have e : (fun i : Fin n => f i.castSucc * axis (Fin.last n) i.castSucc) = fun _ => 0 := by
        funext i
        have : i.castSucc ≠ Fin.last n := by
          intro q
          have := congrArg Fin.val q
          simp at this
          omega
        rw [axis_ne this]; grind
      rw [e, sm_zero, axis_same]; grind
    · have hs : s.val < n := by
        have h1 := s.isLt
        have h2 : s.val ≠ n := fun q => h (Fin.ext (by simpa using q))
        omega
      have es : s = (⟨s.val, hs⟩ : Fin n).castSucc := Fin.ext rfl
      have e : (fun i : Fin n => f i.castSucc * axis s i.castSucc) = fun i => (fun j : Fin n => f j.castSucc) i * axis (⟨s.val, hs⟩ : Fin n) i := by
        funext i
        unfold axis
        have : (i.castSucc = s) ↔ (i = ⟨s.val, hs⟩) := by
          constructor
          · intro q; apply Fin.ext; have := congrArg Fin.val q; simpa using this
          · intro q; apply Fin.ext; have := congrArg Fin.val q; simpa using this
        by_cases q : i = ⟨s.val, hs⟩
        · rw [if_pos q, if_pos (this.mpr q)]
        · rw [if_neg q, if_neg (fun z => q (this.mp z))]
      rw [e, sm_axis n, axis_ne (fun q => h q.symm)]
      rw [← es]; grind

/-- a vector less a multiple of another one -/
def less {n : Nat} (x : Vec n) (c : G) (y : Vec n) : Vec n := fun p => x p - c * y p
def lev {n : Nat} (A : Fin n → Fin n → G) (s : Fin n) (x : Vec n) : G := sm n fun t => A s t * x t
def rf {n : Nat} (A : Fin n → Fin n → G) (s : Fin n) (x : Vec n) : Vec n := fun p => if p = s then x p - lev A s x else x p
section
variable {n : Nat} {A : Fin n → Fin n → G}
theorem lev_less (s : Fin n) (x y : Vec n) (c : G) : lev A s (less x c y) = lev A s x - c * lev A s y := by
  unfold lev less
  rw [← sm_less]
  congr 1; funext t; grind
theorem lev_axis (s t : Fin n) : lev A s (axis t) = A s t := sm_axis n (A s) t
theorem rf_eq (s : Fin n) (x : Vec n) : rf A s x = less x (lev A s x) (axis s) := by
  funext p
  unfold rf less axis
  by_cases h : p = s
  · rw [if_pos h, if_pos h]; grind
  · rw [if_neg h, if_neg h]; grind
theorem less_less (x y z : Vec n) (c d : G) : less (less x c y) d z = fun p => x p - c * y p - d * z p := rfl
theorem rf_less (s : Fin n) (x y : Vec n) (c : G) : rf A s (less x c y) = less (rf A s x) c (rf A s y) := by
  rw [rf_eq, rf_eq, rf_eq, lev_less]
  funext p
  unfold less
  grind
theorem rf_axis (s t : Fin n) : rf A s (axis t) = less (axis t) (A s t) (axis s) := by rw [rf_eq, lev_axis]
theorem rf_rf {s : Fin n} (h : A s s = 2) (x : Vec n) : rf A s (rf A s x) = x := by
  rw [rf_eq, rf_eq, lev_less, lev_axis, h]
  funext p
  unfold less
  grind
/-- x less multiples of two axes -/
def comb (s t : Fin n) (x : Vec n) (c d : G) : Vec n := fun p => x p - c * axis s p - d * axis t p
theorem comb_zero (s t : Fin n) (x : Vec n) : comb s t x 0 0 = x := by
  funext p; unfold comb; grind
theorem comb_lev (r s t : Fin n) (x : Vec n) (c d : G) : lev A r (comb s t x c d) = lev A r x - c * A r s - d * A r t := by
  have : comb s t x c d = less (less x c (axis s)) d (axis t) := rfl
  rw [this, lev_less, lev_less, lev_axis, lev_axis]
theorem rf_comb1 {s t : Fin n} (h : A s s = 2) (x : Vec n) (c d : G) : rf A s (comb s t x c d) = comb s t x (lev A s x - c - A s t * d) d := by
  rw [rf_eq, comb_lev, h]
  funext p; unfold comb less; grind
theorem rf_comb2 {s t : Fin n} (h : A t t = 2) (x : Vec n) (c d : G) : rf A t (comb s t x c d) = comb s t x c (lev A t x - d - A t s * c) := by
  rw [rf_eq, comb_lev, h]
  funext p; unfold comb less; grind
end
/-- so many letters by turns, the first one ahead -/
def alt {α : Type} (s t : α) : Nat → List α
  | 0 => []
  | k + 1 => s :: alt t s k
theorem alt_len {α : Type} : ∀ (k : Nat) (s t : α), (alt s t k).length = k
  | 0, _, _ => rfl
  | k + 1, s, t => by rw [alt, List.length_cons, alt_len k]
def actW {n : Nat} (A : Fin n → Fin n → G) : List (Fin n) → Vec n → Vec n
  | [], x => x
  | s :: w, x => rf A s (actW A w x)
theorem actW_append {n : Nat} {A : Fin n → Fin n → G} : ∀ (u v : List (Fin n)) (x : Vec n), actW A (u ++ v) x = actW A u (actW A v x)
  | [], _, _ => rfl
  | s :: u, v, x => by show rf A s (actW A (u ++ v) x) = rf A s _; rw [actW_append u v x]

/-- the tie and the weights of two unlike buttons -/
def Rel2 (m : Nat) (p q : G) : Prop :=
  (m = 2 ∧ p = 0 ∧ q = 0) ∨ (m = 3 ∧ p = ⟨-1, 0⟩ ∧ q = ⟨-1, 0⟩) ∨ (m = 4 ∧ p = ⟨-1, 0⟩ ∧ q = ⟨-2, 0⟩) ∨ (m = 4 ∧ p = ⟨-2, 0⟩ ∧ q = ⟨-1, 0⟩) ∨ (m = 5 ∧ p = ⟨0, -1⟩ ∧ q = ⟨0, -1⟩) ∨ (m = 0 ∧ p = ⟨-2, 0⟩ ∧ q = ⟨-2, 0⟩)
structure Sys (n : Nat) where
  m : Fin n → Fin n → Nat
  A : Fin n → Fin n → G
  sym : ∀ s t, m s t = m t s
  diag : ∀ s, A s s = 2
  rel : ∀ s t, s ≠ t → Rel2 (m s t) (A s t) (A t s)
section
variable {n : Nat} (S : Sys n)
theorem braid (s t : Fin n) (h : s ≠ t) (hm : S.m s t ≠ 0) (x : Vec n) : actW S.A (alt s t (S.m s t)) x = actW S.A (alt t s (S.m s t)) x := by
  have key : ∀ k, S.m s t = k → actW S.A (alt s t k) (comb s t x 0 0) = actW S.A (alt t s k) (comb s t x 0 0) := by
    intro k hk
    have d1 := S.diag s
    have d2 := S.diag t
    have r := S.rel s t h
    rw [hk] at r hm
    generalize hP : lev S.A s x = P
    generalize hQ : lev S.A t x = Q
    rcases r with ⟨rfl, e1, e2⟩ | ⟨rfl, e1, e2⟩ | ⟨rfl, e1, e2⟩ | ⟨rfl, e1, e2⟩ | ⟨rfl, e1, e2⟩ | ⟨rfl, e1, e2⟩
    all_goals try exact absurd rfl hm
    all_goals
      simp only [alt, actW, rf_comb1 d1, rf_comb2 d2, hP, hQ, e1, e2]
      congr 1 <;> (ext <;> simp <;> omega)
  have := key _ rfl
  rwa [comb_zero] at this
end
end Wk
namespace Wk
/-! ### words up to drops and swaps -/
section
variable {n : Nat} (S : Sys n)
inductive Step : List (Fin n) → List (Fin n) → Prop
  | drop (u : List (Fin n)) (s : Fin n) (v : List (Fin n)) : Step (u ++ (s :: s :: v)) (u ++ v)
  | swap (u : List (Fin n)) (s t : Fin n) (v : List (Fin n)) (h : s ≠ t) (hm : S.m s t ≠ 0) : Step (u ++ (alt s t (S.m s t) ++ v)) (u ++ (alt t s (S.m s t) ++ v))
def W := Quot (Step S)
end
section
variable {n : Nat} {S : Sys n}
namespace W
def mk (w : List (Fin n)) : W S := Quot.mk _ w
theorem ind {P : W S → Prop} (h : ∀ w, P (mk w)) (g : W S) : P g := Quot.ind h g
theorem step_front {u v : List (Fin n)} (x : List (Fin n)) (h : Step S u v) : Step S (x ++ u) (x ++ v) := by
  cases h with
  | drop u s v => rw [← List.append_assoc, ← List.append_assoc]; exact .drop _ _ _
  | swap u s t v h hm =>
    have e : ∀ z : List (Fin n), x ++ (u ++ z) = (x ++ u) ++ z := fun z => (List.append_assoc _ _ _).symm
    rw [e, e]; exact .swap _ _ _ _ h hm
theorem step_back {u v : List (Fin n)} (x : List (Fin n)) (h : Step S u v) : Step S (u ++ x) (v ++ x) := by
  cases h with
  | drop u s v =>
    have e : u ++ (s :: s :: v) ++ x = u ++ (s :: s :: (v ++ x)) := by simp
    rw [e, List.append_assoc]; exact .drop _ _ _
  | swap u s t v h hm =>
    simp only [List.append_assoc]; exact .swap _ _ _ _ h hm
def mul : W S → W S → W S := Quot.lift (fun u => Quot.lift (fun v => mk (u ++ v)) fun _ _ h => Quot.sound (step_front u h)) fun a b h => by
  funext g
  induction g using Quot.ind with
  | _ v => exact Quot.sound (step_back v h)
instance : Mul (W S) := ⟨mul⟩
instance : One (W S) := ⟨mk []⟩
theorem mk_append (u v : List (Fin n)) : (mk (u ++ v) : W S) = mk u * mk v := rfl
theorem mk_nil : (mk [] : W S) = 1 := rfl
def gen (s : Fin n) : W S := mk [s]
theorem mk_cons (s : Fin n) (w : List (Fin n)) : (mk (s :: w) : W S) = gen s * mk w := rfl
theorem mul_assoc (a b c : W S) : a * b * c = a * (b * c) := by
  induction a using ind with | _ u =>
  induction b using ind with | _ v =>
  induction c using ind with | _ w =>
  show mk (u ++ v ++ w) = mk (u ++ (v ++ w))
  rw [List.append_assoc]
theorem one_mul (a : W S) : 1 * a = a := by
  induction a using ind with | _ u => rfl
theorem mul_one (a : W S) : a * 1 = a := by
  induction a using ind with | _ u =>
  show mk (u ++ []) = mk u
  rw [List.append_nil]
theorem alt_snoc {α : Type} : ∀ (k : Nat) (s t : α), alt s t (k + 1) = alt s t k ++ [if k % 2 = 0 then s else t]
  | 0, _, _ => rfl
  | k + 1, s, t => by
    show s :: alt t s (k + 1) = s :: alt t s k ++ _
    rw [alt_snoc k t s, List.cons_append]
    congr 2
    by_cases h : k % 2 = 0
    · rw [if_pos h, if_neg (by omega)]
    · rw [if_neg h, if_pos (by omega)]
theorem alt_reverse {α : Type} : ∀ (k : Nat) (s t : α), (alt s t k).reverse = if k % 2 = 0 then alt t s k else alt s t k
  | 0, _, _ => rfl
  | k + 1, s, t => by
    have e : (alt s t (k + 1)).reverse = (if k % 2 = 0 then s else t) :: (alt s t k).reverse := by
      rw [alt_snoc, List.reverse_append]; rfl
    rw [e, alt_reverse k]
    by_cases h : k % 2 = 0
    · rw [if_pos h, if_pos h, if_neg (by omega)]; rfl
    · rw [if_neg h, if_neg h, if_pos (by omega)]; rfl
theorem step_rev {u v : List (Fin n)} (h : Step S u v) : Step S u.reverse v.reverse ∨ Step S v.reverse u.reverse := by
  cases h with
  | drop u s v => 
    have : (u ++ s :: s :: v).reverse = v.reverse ++ (s :: s :: u.reverse) := by simp
    rw [this, List.reverse_append]; exact .inl (.drop _ _ _)
  | swap u s t v h hm =>
    simp only [List.reverse_append, alt_reverse, List.append_assoc]
    by_cases e : S.m s t % 2 = 0
    · rw [if_pos e, if_pos e]; exact .inr (.swap _ _ _ _ h hm)
    · rw [if_neg e, if_neg e]; exact .inl (.swap _ _ _ _ h hm)
def inv : W S → W S := Quot.lift (fun u => mk u.reverse) fun a b h => by
  rcases step_rev h with q | q
  · exact Quot.sound q
  · exact (Quot.sound q).symm
instance : Inv (W S) := ⟨inv⟩
theorem mk_reverse (u : List (Fin n)) : (mk u.reverse : W S) = (mk u)⁻¹ := rfl
theorem gen_gen (s : Fin n) : (gen s * gen s : W S) = 1 := Quot.sound (Step.drop [] s [])
theorem inv_mul (a : W S) : a⁻¹ * a = 1 := by
  induction a using ind with | _ u =>
  show mk (u.reverse ++ u) = (mk [] : W S)
  induction u with
  | nil => rfl
  | cons s u ih =>
    have : (s :: u).reverse ++ (s :: u) = u.reverse ++ (s :: s :: u) := by simp
    rw [this, ← ih]
    exact Quot.sound (.drop _ _ _)
theorem inv_inv (a : W S) : a⁻¹⁻¹ = a := by
  induction a using ind with | _ u =>
  show mk u.reverse.reverse = mk u
  rw [List.reverse_reverse]
theorem mul_inv (a : W S) : a * a⁻¹ = 1 := by
  have := inv_mul a⁻¹
  rwa [inv_inv] at this
theorem mul_inv_rev (a b : W S) : (a * b)⁻¹ = b⁻¹ * a⁻¹ := by
  induction a using ind with | _ u =>
  induction b using ind with | _ v =>
  show mk (u ++ v).reverse = mk (v.reverse ++ u.reverse)
  rw [List.reverse_append]
theorem inv_one : (1 : W S)⁻¹ = 1 := rfl
theorem gen_inv (s : Fin n) : (gen s : W S)⁻¹ = gen s := rfl
theorem inv_mul_left (a b : W S) : a⁻¹ * (a * b) = b := by rw [← mul_assoc, inv_mul, one_mul]
theorem mul_inv_left (a b : W S) : a * (a⁻¹ * b) = b := by rw [← mul_assoc, mul_inv, one_mul]
theorem gen_gen_left (s : Fin n) (b : W S) : gen s * (gen s * b) = b := by rw [← mul_assoc, gen_gen, one_mul]
theorem mul_left_cancel {a b c : W S} (h : a * b = a * c) : b = c := by
  rw [← inv_mul_left a b, h, inv_mul_left]
theorem braid_alt (s t : Fin n) (h : s ≠ t) (hm : S.m s t ≠ 0) : (mk (alt s t (S.m s t)) : W S) = mk (alt t s (S.m s t)) := by
  have := Quot.sound (Step.swap (S := S) [] s t [] h hm)
  rw [List.append_nil, List.append_nil] at this
  exact this

/-! ### the action -/
theorem act_step {u v : List (Fin n)} (h : Step S u v) : actW S.A u = actW S.A v := by
  funext x
  cases h with
  | drop u s v =>
    rw [actW_append, actW_append]
    show actW S.A u (rf S.A s (rf S.A s _)) = _
    rw [rf_rf (S.diag s)]
  | swap u s t v h hm =>
    rw [actW_append, actW_append, actW_append, actW_append, braid S s t h hm]
def act : W S → Vec n → Vec n := Quot.lift (actW S.A) fun _ _ h => act_step h
theorem act_mk (w : List (Fin n)) (x : Vec n) : act (mk w : W S) x = actW S.A w x := rfl
theorem act_mul (a b : W S) (x : Vec n) : act (a * b) x = act a (act b x) := by
  induction a using ind with | _ u =>
  induction b using ind with | _ v =>
  exact actW_append u v x
theorem act_one (x : Vec n) : act (1 : W S) x = x := rfl
theorem act_gen (s : Fin n) (x : Vec n) : act (gen s : W S) x = rf S.A s x := rfl
theorem act_less (a : W S) (x y : Vec n) (c : G) : act a (less x c y) = less (act a x) c (act a y) := by
  induction a using ind with | _ u =>
  show actW S.A u _ = less (actW S.A u x) c (actW S.A u y)
  induction u with
  | nil => rfl
  | cons s u ih => show rf S.A s _ = _; rw [ih, rf_less]; rfl
theorem less_self (x : Vec n) : less x 1 x = fun _ => 0 := by funext p; unfold less; grind
theorem act_zero (a : W S) : act a (fun _ => 0) = fun _ => 0 := by
  have h := act_less a (fun _ => 0) (fun _ => 0) 1
  rw [less_self, less_self] at h; exact h
theorem act_inj (a : W S) {x y : Vec n} (h : act a x = act a y) : x = y := by
  have : act a⁻¹ (act a x) = act a⁻¹ (act a y) := by rw [h]
  rwa [← act_mul, ← act_mul, inv_mul, act_one, act_one] at this
/-- two multiples together -/
def two (c : G) (x : Vec n) (d : G) (y : Vec n) : Vec n := fun p => c * x p + d * y p
theorem act_two (a : W S) (c d : G) (x y : Vec n) : act a (two c x d y) = two c (act a x) d (act a y) := by
  have e : ∀ x y : Vec n, two c x d y = less (less (fun _ => 0) (-c) x) (-d) y := fun x y => by
    funext p; unfold two less; grind
  rw [e, act_less, act_less, act_zero, ← e]
theorem act_neg (a : W S) (x : Vec n) : act a (fun p => - x p) = fun p => - act a x p := by
  have e : ∀ x : Vec n, (fun p => - x p) = less (fun _ => 0) 1 x := fun x => by
    funext p; unfold less; grind
  rw [e, act_less, act_zero, ← e]

/-! ### parity -/
def par (w : List (Fin n)) : Bool := w.length % 2 == 1
theorem par_step {u v : List (Fin n)} (h : Step S u v) : par u = par v := by
  unfold par
  cases h with
  | drop u s v => simp only [List.length_append, List.length_cons]; congr 1; omega
  | swap u s t v h hm => simp only [List.length_append, alt_len]
def sgn : W S → Bool := Quot.lift par fun _ _ h => par_step h

/-! ### lengths -/
theorem least {P : Nat → Prop} (h : ∃ k, P k) : ∃ k, P k ∧ ∀ j, P j → k ≤ j := by
  obtain ⟨k, hk⟩ := h
  induction k using Nat.strongRecOn with
  | ind k ih =>
    by_cases q : ∃ j, j < k ∧ P j
    · obtain ⟨j, h1, h2⟩ := q; exact ih j h1 h2
    · exact ⟨k, hk, fun j hj => Nat.le_of_not_lt fun z => q ⟨j, z, hj⟩⟩
theorem len_ex (g : W S) : ∃ k, (∃ w : List (Fin n), mk w = g ∧ w.length = k) ∧ ∀ j, (∃ w : List (Fin n), mk w = g ∧ w.length = j) → k ≤ j := by
  induction g using ind with | _ u => exact least ⟨u.length, u, rfl, rfl⟩
noncomputable def len (g : W S) : Nat := Classical.choose (len_ex g)
theorem len_word (g : W S) : ∃ w : List (Fin n), mk w = g ∧ w.length = len g := (Classical.choose_spec (len_ex g)).1
theorem len_le (w : List (Fin n)) : len (mk w : W S) ≤ w.length := (Classical.choose_spec (len_ex (mk w : W S))).2 _ ⟨w, rfl, rfl⟩
theorem len_one : len (1 : W S) = 0 := Nat.le_zero.mp (len_le (S := S) [])
theorem len_zero {g : W S} (h : len g = 0) : g = 1 := by
  obtain ⟨w, e, hl⟩ := len_word g
  rw [h] at hl
  rw [← e, List.length_eq_zero_iff.mp hl]; rfl
theorem len_mul (a b : W S) : len (a * b) ≤ len a + len b := by
  obtain ⟨u, e, hl⟩ := len_word a
  obtain ⟨v, f, hm⟩ := len_word b
  rw [← hl, ← hm, ← List.length_append, ← e, ← f]
  exact len_le (u ++ v)
theorem len_inv_le (a : W S) : len a⁻¹ ≤ len a := by
  obtain ⟨u, e, hl⟩ := len_word a
  rw [← hl, ← e, ← List.length_reverse]
  exact len_le u.reverse
theorem len_inv (a : W S) : len a⁻¹ = len a := by
  have h1 := len_inv_le a
  have h2 := len_inv_le a⁻¹
  rw [inv_inv] at h2
  omega
theorem len_gen_le (s : Fin n) : len (gen s : W S) ≤ 1 := len_le [s]
theorem sgn_len (g : W S) : sgn g = (len g % 2 == 1) := by
  obtain ⟨w, e, hl⟩ := len_word g
  rw [← hl, ← e]; rfl
theorem sgn_gen_right (g : W S) (s : Fin n) : sgn (g * gen s) = !sgn g := by
  induction g using ind with | _ u =>
  show par (u ++ [s]) = !par u
  unfold par
  simp only [List.length_append, List.length_cons, List.length_nil]
  rcases Nat.mod_two_eq_zero_or_one u.length with h | h
  · rw [show (u.length + (0 + 1)) % 2 = 1 by omega, h]; rfl
  · rw [show (u.length + (0 + 1)) % 2 = 0 by omega, h]; rfl
/-- one press behind: longer by one, or shorter by one -/
theorem len_right (g : W S) (s : Fin n) : len (g * gen s) = len g + 1 ∨ len (g * gen s) + 1 = len g := by
  have h1 := len_mul g (gen s)
  have h2 := len_gen_le (S := S) s
  have h3 := len_mul (g * gen s) (gen s)
  rw [mul_assoc, gen_gen, mul_one] at h3
  have h4 := sgn_gen_right g s
  rw [sgn_len, sgn_len] at h4
  have h5 : len (g * gen s) % 2 ≠ len g % 2 := fun q => by
    rw [q] at h4
    cases h : (len g % 2 == 1) <;> rw [h] at h4 <;> cases h4
  omega
theorem len_left (g : W S) (s : Fin n) : len (gen s * g) = len g + 1 ∨ len (gen s * g) + 1 = len g := by
  have h := len_right g⁻¹ s
  rw [← len_inv (g⁻¹ * gen s), mul_inv_rev, inv_inv, gen_inv, len_inv g] at h
  exact h
/-- a back button, if there is more than nothing -/
theorem has_back {g : W S} (h : len g ≠ 0) : ∃ s, len (g * gen s) + 1 = len g := by
  obtain ⟨w, e, hl⟩ := len_word g
  rcases List.eq_nil_or_concat w with q | ⟨u, s, q⟩
  · rw [q] at hl; exact absurd hl.symm h
  · refine ⟨s, ?_⟩
    have q2 : w = u ++ [s] := by simpa using q
    have e2 : g * gen s = mk u := by
      rw [← e, q2, mk_append]
      show mk u * gen s * gen s = mk u
      rw [mul_assoc, gen_gen, mul_one]
    have h1 := len_le (S := S) u
    rw [← e2] at h1
    have h2 : u.length + 1 = len g := by rw [← hl, q2]; simp
    rcases len_right g s with z | z <;> omega
theorem has_front {g : W S} (h : len g ≠ 0) : ∃ s, len (gen s * g) + 1 = len g := by
  obtain ⟨s, q⟩ := has_back (g := g⁻¹) (by rwa [len_inv])
  refine ⟨s, ?_⟩
  rw [← len_inv (g⁻¹ * gen s), mul_inv_rev, inv_inv, gen_inv, len_inv g] at q
  exact q
end W
end
end Wk
namespace Wk
/-! ### golden numbers with both parts from 0 on -/
def NG (c : G) : Prop := 0 ≤ c.a ∧ 0 ≤ c.b
instance (c : G) : Decidable (NG c) := inferInstanceAs (Decidable (_ ∧ _))
def NN {n : Nat} (x : Vec n) : Prop := ∀ p, NG (x p)
theorem NG.mul {c d : G} (h : NG c) (k : NG d) : NG (c * d) := by
  refine ⟨?_, ?_⟩
  · rw [G.mul_a]
    exact Int.add_nonneg (Int.mul_nonneg h.1 k.1) (Int.mul_nonneg h.2 k.2)
  · rw [G.mul_b]
    exact Int.add_nonneg (Int.add_nonneg (Int.mul_nonneg h.1 k.2) (Int.mul_nonneg h.2 k.1)) (Int.mul_nonneg h.2 k.2)
theorem NG.add {c d : G} (h : NG c) (k : NG d) : NG (c + d) := ⟨Int.add_nonneg h.1 k.1, Int.add_nonneg h.2 k.2⟩
theorem NG.zero {c : G} (h : NG c) (k : NG (-c)) : c = 0 := by
  obtain ⟨h1, h2⟩ := h
  obtain ⟨k1, k2⟩ := k
  simp at k1 k2
  ext <;> simp <;> omega
theorem NN.two {n : Nat} {c d : G} {x y : Vec n} (hc : NG c) (hx : NN x) (hd : NG d) (hy : NN y) : NN (W.two c x d y) := fun p => (hc.mul (hx p)).add (hd.mul (hy p))
theorem NN.axis {n : Nat} (s : Fin n) : NN (axis s) := fun p => by
  unfold Wk.axis
  by_cases h : p = s
  · rw [if_pos h]; decide
  · rw [if_neg h]; decide

/-! ### two buttons -/
def r2 (p q : G) : Nat → G → G → G × G
  | 0, c, d => (c, d)
  | k + 1, c, d => ((r2 q p k (-d - q * c) c).2, (r2 q p k (-d - q * c) c).1)
theorem r2_far (k : Nat) : ∀ j : Nat, NG (r2 ⟨-2, 0⟩ ⟨-2, 0⟩ k ((j : G) + 1) (j : G)).1 ∧ NG (r2 ⟨-2, 0⟩ ⟨-2, 0⟩ k ((j : G) + 1) (j : G)).2 := by
  induction k with
  | zero =>
    intro j
    refine ⟨⟨?_, ?_⟩, ⟨?_, ?_⟩⟩ <;> simp [r2] <;> omega
  | succ k ih =>
    intro j
    have h := ih (j + 1)
    have e : -(j : G) - ⟨-2, 0⟩ * ((j : G) + 1) = ((j + 1 : Nat) : G) + 1 := by ext <;> simp <;> omega
    have e2 : (j : G) + 1 = ((j + 1 : Nat) : G) := by ext <;> simp
    unfold r2
    rw [e]
    rw [e2]
    exact ⟨h.2, h.1⟩
theorem r2_pos {m : Nat} {p q : G} (h : Rel2 m p q) (k : Nat) (hk : k < m ∨ m = 0) : NG (r2 p q k 1 0).1 ∧ NG (r2 p q k 1 0).2 := by
  rcases h with ⟨rfl, rfl, rfl⟩ | ⟨rfl, rfl, rfl⟩ | ⟨rfl, rfl, rfl⟩ | ⟨rfl, rfl, rfl⟩ | ⟨rfl, rfl, rfl⟩ | ⟨rfl, rfl, rfl⟩
  · match k, hk with
    | 0, _ => decide
    | 1, _ => decide
    | k + 2, h => omega
  · match k, hk with
    | 0, _ => decide
    | 1, _ => decide
    | 2, _ => decide
    | k + 3, h => omega
  · match k, hk with
    | 0, _ => decide
    | 1, _ => decide
    | 2, _ => decide
    | 3, _ => decide
    | k + 4, h => omega
  · match k, hk with
    | 0, _ => decide
    | 1, _ => decide
    | 2, _ => decide
    | 3, _ => decide
    | k + 4, h => omega
  · match k, hk with
    | 0, _ => decide
    | 1, _ => decide
    | 2, _ => decide
    | 3, _ => decide
    | 4, _ => decide
    | k + 5, h => omega
  · have := r2_far k 0
    have e : (((0 : Nat) : G) + 1) = 1 := by decide
    have e2 : ((0 : Nat) : G) = 0 := by decide
    rwa [e, e2] at this
section
variable {n : Nat} {S : Sys n}
namespace W
theorem two_comm (c d : G) (x y : Vec n) : two c x d y = two d y c x := by funext p; unfold two; grind
theorem rf_two {s t : Fin n} (c d : G) : rf S.A t (two c (axis s) d (axis t)) = two c (axis s) (-d - S.A t s * c) (axis t) := by
  have e : two c (axis s) d (axis t) = less (less (fun _ => 0) (-c) (axis s)) (-d) (axis t) := by
    funext p; unfold two less; grind
  have z : lev S.A t (fun _ => 0) = 0 := by
    unfold lev
    have : (fun u => S.A t u * (0 : G)) = fun _ => 0 := by funext u; grind
    rw [this, sm_zero]
  rw [rf_eq, e, lev_less, lev_less, lev_axis, lev_axis, z, S.diag]
  funext p; unfold two less; grind
theorem act_alt : ∀ (k : Nat) (s t : Fin n) (c d : G), actW S.A (alt t s k).reverse (two c (axis s) d (axis t)) = two (r2 (S.A s t) (S.A t s) k c d).1 (axis s) (r2 (S.A s t) (S.A t s) k c d).2 (axis t)
  | 0, _, _, _, _ => rfl
  | k + 1, s, t, c, d => by
    have e : (alt t s (k + 1)).reverse = (alt s t k).reverse ++ [t] := by
      show (t :: alt s t k).reverse = _
      rw [List.reverse_cons]
    rw [e, actW_append]
    show actW S.A (alt s t k).reverse (rf S.A t (two c (axis s) d (axis t))) = _
    rw [rf_two, two_comm, act_alt k t s, two_comm]
    rfl
theorem two_axis (s t : Fin n) : two 1 (axis s) 0 (axis t) = axis s := by funext p; unfold two; grind

/-! ### parting a change by two buttons -/
/-- by turns, so many, the last one t -/
def altE (s t : Fin n) (k : Nat) : W S := mk (alt t s k).reverse
theorem altE_zero (s t : Fin n) : (altE s t 0 : W S) = 1 := rfl
theorem altE_succ (s t : Fin n) (k : Nat) : (altE s t (k + 1) : W S) = altE t s k * gen t := by
  show mk (t :: alt s t k).reverse = _
  rw [List.reverse_cons]; rfl
theorem altE_len (s t : Fin n) (k : Nat) : len (altE s t k : W S) ≤ k := by
  have h := len_le (S := S) (alt t s k).reverse
  rw [List.length_reverse, alt_len] at h
  exact h
theorem altE_braid (s t : Fin n) (h : s ≠ t) (hm : S.m s t ≠ 0) : (altE s t (S.m s t) : W S) = altE t s (S.m s t) := by
  unfold altE
  rw [mk_reverse, mk_reverse, braid_alt s t h hm]
theorem altE_over (s t : Fin n) (h : s ≠ t) (hm : S.m s t ≠ 0) : ∃ x : W S, altE s t (S.m s t + 1) = x ∧ len x ≤ S.m s t - 1 := by
  refine ⟨_, rfl, ?_⟩
  rw [altE_succ]
  have e := altE_braid (S := S) t s (Ne.symm h) (by rwa [S.sym])
  rw [S.sym t s] at e
  rw [e]
  cases q : S.m s t with
  | zero => exact absurd q hm
  | succ j =>
    rw [altE_succ, mul_assoc, gen_gen, mul_one]
    exact altE_len t s j
theorem altE_add (s t : Fin n) (i : Nat) : ∀ j, ∃ x : W S, len x ≤ j ∧ (altE s t (i + j) : W S) = x * altE s t i := by
  induction i generalizing s t with
  | zero => exact fun j => ⟨altE s t j, altE_len s t j, by rw [Nat.zero_add, altE_zero, mul_one]⟩
  | succ i ih =>
    intro j
    obtain ⟨x, hx, e⟩ := ih t s j
    refine ⟨x, hx, ?_⟩
    rw [show i + 1 + j = (i + j) + 1 by omega, altE_succ, altE_succ, e, mul_assoc]
theorem decomp1 {s t : Fin n} {g v : W S} {k : Nat} (hb : len (g * gen s) + 1 = len g) (e : g * gen s = v * altE s t k ∨ g * gen s = v * altE t s k) (hl : len (g * gen s) = len v + k) :
    ∃ k, (g = v * altE s t k ∨ g = v * altE t s k) ∧ len g = len v + k := by
  have eg : g = g * gen s * gen s := by rw [mul_assoc, gen_gen, mul_one]
  rcases e with e | e
  · refine ⟨k + 1, .inr ?_, by omega⟩
    rw [altE_succ, ← mul_assoc, ← e]; exact eg
  · cases k with
    | zero =>
      rw [altE_zero, mul_one] at e
      refine ⟨1, .inr ?_, by omega⟩
      rw [altE_succ, altE_zero, one_mul, ← e]; exact eg
    | succ j =>
      exfalso
      rw [altE_succ] at e
      have e2 : g = v * altE s t j := by
        rw [eg, e, mul_assoc, mul_assoc, gen_gen, mul_one]
      have h1 := len_mul v (altE s t j)
      have h2 := altE_len (S := S) s t j
      rw [← e2] at h1
      omega
theorem decomp (s t : Fin n) : ∀ (N : Nat) (g : W S), len g ≤ N → ∃ v k, (g = v * altE s t k ∨ g = v * altE t s k) ∧ len g = len v + k ∧ len (v * gen s) = len v + 1 ∧ len (v * gen t) = len v + 1
  | N, g, hN => by
    rcases len_right g s with hs | hs
    · rcases len_right g t with ht | ht
      · exact ⟨g, 0, .inl (by rw [altE_zero, mul_one]), rfl, hs, ht⟩
      · cases N with
        | zero => omega
        | succ N =>
          obtain ⟨v, k, e, hl, h1, h2⟩ := decomp s t N (g * gen t) (by omega)
          obtain ⟨k', e', hl'⟩ := decomp1 (s := t) (t := s) ht e.symm hl
          exact ⟨v, k', e'.symm, hl', h1, h2⟩
    · cases N with
      | zero => omega
      | succ N =>
        obtain ⟨v, k, e, hl, h1, h2⟩ := decomp s t N (g * gen s) (by omega)
        obtain ⟨k', e', hl'⟩ := decomp1 (s := s) (t := t) hs e hl
        exact ⟨v, k', e', hl', h1, h2⟩
theorem alt_most {s t : Fin n} (h : s ≠ t) (hm : S.m s t ≠ 0) {g v : W S} {k : Nat} (e : g = v * altE s t k) (hl : len g = len v + k) : k ≤ S.m s t := by
  by_cases q : k ≤ S.m s t
  · exact q
  · exfalso
    obtain ⟨x, hx, ex⟩ := altE_add (S := S) s t (S.m s t + 1) (k - (S.m s t + 1))
    rw [show S.m s t + 1 + (k - (S.m s t + 1)) = k by omega] at ex
    obtain ⟨y, hy, hy2⟩ := altE_over (S := S) s t h hm
    rw [ex, hy] at e
    have h1 := len_mul v (x * y)
    have h2 := len_mul x y
    rw [← e] at h1
    omega
theorem alt_most' {s t : Fin n} (h : s ≠ t) (hm : S.m s t ≠ 0) {g v : W S} {k : Nat} (e : g = v * altE t s k) (hl : len g = len v + k) : k ≤ S.m s t := by
  have := alt_most (s := t) (t := s) (Ne.symm h) (by rwa [S.sym]) e hl
  rwa [S.sym] at this
/-- behind v, by turns with t the last one: the axis of s comes out up -/
theorem alt_up {s t : Fin n} (h : s ≠ t) {v : W S} {k : Nat} (hk : k < S.m s t ∨ S.m s t = 0) (hs : NN (act v (axis s))) (ht : NN (act v (axis t))) : NN (act (v * altE s t k) (axis s)) := by
  have r := r2_pos (S.rel s t h) k hk
  have e : act (v * altE s t k) (axis s) = two (r2 (S.A s t) (S.A t s) k 1 0).1 (act v (axis s)) (r2 (S.A s t) (S.A t s) k 1 0).2 (act v (axis t)) := by
    rw [act_mul, ← act_two]
    congr 1
    have := act_alt (S := S) k s t 1 0
    rw [two_axis] at this
    exact this
  rw [e]
  exact .two r.1 hs r.2 ht
theorem root_up : ∀ (N : Nat) (g : W S), len g ≤ N → ∀ s, len (g * gen s) = len g + 1 → NN (act g (axis s))
  | 0, g, hN, s, _ => by
    rw [len_zero (Nat.le_zero.mp hN)]
    exact NN.axis s
  | N + 1, g, hN, s, hs => by
    by_cases hz : len g = 0
    · rw [len_zero hz]; exact NN.axis s
    · obtain ⟨t, ht⟩ := has_back hz
      have st : s ≠ t := fun q => by rw [q] at hs; omega
      obtain ⟨v, k, e, hl, h1, h2⟩ := decomp s t (len g) g (Nat.le_refl _)
      have k0 : k ≠ 0 := fun q => by
        subst q
        have : g = v := by rcases e with e | e <;> rw [e, altE_zero, mul_one]
        rw [this] at ht; omega
      have i1 := root_up N v (by omega) s h1
      have i2 := root_up N v (by omega) t h2
      have noS : ¬ g = v * altE t s k := fun e => by
        obtain ⟨j, rfl⟩ : ∃ j, k = j + 1 := ⟨k - 1, by omega⟩
        rw [altE_succ] at e
        have e2 : g * gen s = v * altE s t j := by rw [e, mul_assoc, mul_assoc, gen_gen, mul_one]
        have q1 := len_mul v (altE s t j)
        have q2 := altE_len (S := S) s t j
        rw [← e2] at q1
        omega
      rcases e with e | e
      · have hk : k < S.m s t ∨ S.m s t = 0 := by
          by_cases hm : S.m s t = 0
          · exact .inr hm
          · have q := alt_most st hm e hl
            rcases Nat.lt_or_eq_of_le q with z | z
            · exact .inl z
            · refine absurd ?_ noS
              rw [e, z, altE_braid s t st hm]
        rw [e]
        exact alt_up st hk i1 i2
      · exact absurd e noS
theorem act_own (g : W S) (s : Fin n) : act (g * gen s) (axis s) = fun p => - act g (axis s) p := by
  rw [act_mul, act_gen]
  have e : rf S.A s (axis s) = fun p => - axis s p := by
    rw [rf_axis, S.diag]
    funext p; unfold less; grind
  rw [e, act_neg]
theorem act_own' (g : W S) (s : Fin n) : act g (axis s) = fun p => - act (g * gen s) (axis s) p := by
  rw [act_own]
  funext p; grind
theorem up {g : W S} {s : Fin n} (h : len (g * gen s) = len g + 1) : NN (act g (axis s)) := root_up _ g (Nat.le_refl _) s h
theorem down {g : W S} {s : Fin n} (h : len (g * gen s) + 1 = len g) : NN (fun p => - act g (axis s) p) := by
  rw [← act_own]
  refine up ?_
  rw [mul_assoc, gen_gen, mul_one]; omega
theorem act_ne (g : W S) (s : Fin n) : ∃ p, act g (axis s) p ≠ 0 := by
  apply Classical.byContradiction
  intro h
  have z : act g (axis s) = act g (fun _ => 0) := by
    rw [act_zero]
    funext p
    apply Classical.byContradiction
    exact fun q => h ⟨p, q⟩
  have := congrFun (act_inj g z) s
  rw [axis_same] at this
  exact absurd this (by decide)
theorem not_both {g : W S} {s : Fin n} (h1 : NN (act g (axis s))) (h2 : NN (fun p => - act g (axis s) p)) : False := by
  obtain ⟨p, hp⟩ := act_ne g s
  exact hp ((h1 p).zero (h2 p))
theorem up_iff {g : W S} {s : Fin n} : len (g * gen s) = len g + 1 ↔ NN (act g (axis s)) := by
  refine ⟨up, fun h => ?_⟩
  rcases len_right g s with q | q
  · exact q
  · exact (not_both h (down q)).elim
theorem down_iff {g : W S} {s : Fin n} : len (g * gen s) + 1 = len g ↔ NN (fun p => - act g (axis s) p) := by
  refine ⟨down, fun h => ?_⟩
  rcases len_right g s with q | q
  · exact (not_both (up q) h).elim
  · exact q
/-- what turns all axes to themselves is plain -/
theorem faithful {g h : W S} (e : ∀ s, act g (axis s) = act h (axis s)) : g = h := by
  have e2 : ∀ s, act (h⁻¹ * g) (axis s) = axis s := fun s => by rw [act_mul, e s, ← act_mul, inv_mul, act_one]
  have z : len (h⁻¹ * g) = 0 := by
    apply Classical.byContradiction
    intro q
    obtain ⟨s, hs⟩ := has_back q
    have d := down hs
    rw [e2 s] at d
    have : NG (- axis s s) := d s
    rw [axis_same] at this
    exact absurd this (by decide)
  have := len_zero z
  have q : h * (h⁻¹ * g) = h * 1 := by rw [this]
  rwa [mul_inv_left, mul_one] at q
end W
end
end Wk
namespace Wk
namespace W
section
variable {n : Nat} {S : Sys n}
/-! ### front buttons, what begins what -/
def fr (g : W S) (s : Fin n) : Prop := len (gen s * g) + 1 = len g
def beg (u w : W S) : Prop := len w = len u + len (u⁻¹ * w)
theorem not_fr {g : W S} {s : Fin n} : ¬ fr g s ↔ len (gen s * g) = len g + 1 := by
  unfold fr
  rcases len_left g s with q | q <;> omega
theorem fr_inv {g : W S} {s : Fin n} : fr g s ↔ len (g⁻¹ * gen s) + 1 = len g⁻¹ := by
  unfold fr
  rw [← len_inv (gen s * g), mul_inv_rev, gen_inv, len_inv g]
theorem not_fr_inv {g : W S} {s : Fin n} : ¬ fr g s ↔ len (g⁻¹ * gen s) = len g⁻¹ + 1 := by
  rw [not_fr, ← len_inv (gen s * g), mul_inv_rev, gen_inv, len_inv g]
theorem not_fr_up {g : W S} {s : Fin n} : ¬ fr g s ↔ NN (act g⁻¹ (axis s)) := by rw [not_fr_inv, up_iff]
theorem fr_down {g : W S} {s : Fin n} : fr g s ↔ NN (fun p => - act g⁻¹ (axis s) p) := by rw [fr_inv, down_iff]
theorem len_gen (s : Fin n) : len (gen s : W S) = 1 := by
  have h := len_right (1 : W S) s
  rw [one_mul, len_one] at h
  omega
theorem one_le {g : W S} {s : Fin n} (h : fr g s) : 1 ≤ len g := by unfold fr at h; omega
theorem fr_flip {g : W S} {s : Fin n} : fr (gen s * g) s ↔ ¬ fr g s := by
  rw [not_fr]
  unfold fr
  rw [gen_gen_left]
  omega
theorem not_fr_flip {g : W S} {s : Fin n} : ¬ fr (gen s * g) s ↔ fr g s := by
  constructor
  · intro h
    exact Classical.byContradiction fun q => h (fr_flip.mpr q)
  · exact fun h q => fr_flip.mp q h
theorem beg_le {u w : W S} (h : beg u w) : len u ≤ len w := by unfold beg at h; omega
theorem beg_refl (w : W S) : beg w w := by unfold beg; rw [inv_mul, len_one]; rfl
theorem beg_one (w : W S) : beg 1 w := by unfold beg; rw [inv_one, one_mul, len_one]; omega
theorem beg_trans {u v w : W S} (h : beg u v) (k : beg v w) : beg u w := by
  unfold beg at *
  have e : u⁻¹ * w = (u⁻¹ * v) * (v⁻¹ * w) := by rw [mul_assoc, mul_inv_left]
  have h1 := len_mul (u⁻¹ * v) (v⁻¹ * w)
  rw [← e] at h1
  have h2 := len_mul u (u⁻¹ * w)
  rw [mul_inv_left] at h2
  omega
theorem beg_eq {u w : W S} (h : beg u w) (k : len w ≤ len u) : u = w := by
  unfold beg at h
  have z : len (u⁻¹ * w) = 0 := by omega
  have e := len_zero z
  have q : u * (u⁻¹ * w) = u * 1 := by rw [e]
  rw [mul_inv_left, mul_one] at q
  exact q.symm
theorem beg_antisymm {u w : W S} (h : beg u w) (k : beg w u) : u = w := beg_eq h (beg_le k)
theorem beg_gen {w : W S} {s : Fin n} : beg (gen s) w ↔ fr w s := by
  unfold beg fr
  rw [len_gen, gen_inv]
  omega
theorem fr_of_beg {u w : W S} {s : Fin n} (h : beg u w) (k : fr u s) : fr w s := beg_gen.mp (beg_trans (beg_gen.mpr k) h)
theorem not_fr_of_beg {u w : W S} {s : Fin n} (h : beg u w) (k : ¬ fr w s) : ¬ fr u s := fun q => k (fr_of_beg h q)
theorem cancel_e (s : Fin n) (u w : W S) : (gen s * u)⁻¹ * (gen s * w) = u⁻¹ * w := by
  rw [mul_inv_rev, gen_inv, mul_assoc, gen_gen_left]
/-- a shared front button taken away, put back -/
theorem beg_less {u w : W S} {s : Fin n} (hu : fr u s) (hw : fr w s) : beg (gen s * u) (gen s * w) ↔ beg u w := by
  unfold beg
  rw [cancel_e]
  unfold fr at hu hw
  omega
theorem beg_more {u w : W S} {s : Fin n} (hu : ¬ fr u s) (hw : ¬ fr w s) : beg (gen s * u) (gen s * w) ↔ beg u w := by
  unfold beg
  rw [cancel_e]
  rw [not_fr] at hu hw
  omega
/-- a product with lengths added, parted further on -/
theorem beg_mul {a b : W S} (h : len (a * b) = len a + len b) : beg a (a * b) := by
  unfold beg
  rw [inv_mul_left, h]
theorem len_part {a b c : W S} (h : len (a * b) = len a + len b) (k : beg c b) : len (a * c) = len a + len c ∧ beg (a * c) (a * b) := by
  unfold beg at *
  have e : (a * c)⁻¹ * (a * b) = c⁻¹ * b := by rw [mul_inv_rev, mul_assoc, inv_mul_left]
  have e2 : (a * c) * (c⁻¹ * b) = a * b := by rw [mul_assoc, mul_inv_left]
  have h1 := len_mul (a * c) (c⁻¹ * b)
  rw [e2] at h1
  have h2 := len_mul a c
  rw [e]
  omega
theorem beg_len {u w : W S} (h : beg u w) : len (u * (u⁻¹ * w)) = len u + len (u⁻¹ * w) := by
  rw [mul_inv_left]; exact h
/-- from u on, further -/
theorem beg_step {u w : W S} {s : Fin n} (h : beg u w) (k : fr (u⁻¹ * w) s) : len (u * gen s) = len u + 1 ∧ beg (u * gen s) w := by
  have q := len_part (beg_len h) (beg_gen.mpr k)
  rw [mul_inv_left, len_gen] at q
  exact q
theorem fr_of_step {u w : W S} {s : Fin n} (h : len (u * gen s) = len u + 1) (k : beg (u * gen s) w) : fr (u⁻¹ * w) s := by
  unfold beg at k
  unfold fr
  have e : (u * gen s)⁻¹ * w = gen s * (u⁻¹ * w) := by rw [mul_inv_rev, gen_inv, mul_assoc]
  rw [e] at k
  have h2 := len_mul u (u⁻¹ * w)
  rw [mul_inv_left] at h2
  rcases len_left (u⁻¹ * w) s with q | q <;> omega

/-! ### two front buttons -/
theorem alt_not_fr {s t : Fin n} (h : s ≠ t) {k : Nat} (hk : k < S.m s t ∨ S.m s t = 0) : ¬ fr (mk (alt t s k) : W S) s := by
  rw [not_fr_up]
  have q := alt_up (v := (1 : W S)) h hk (NN.axis s) (NN.axis t)
  rw [one_mul] at q
  exact q
theorem alt_red {s t : Fin n} (h : s ≠ t) : ∀ {k : Nat}, (k ≤ S.m s t ∨ S.m s t = 0) → len (mk (alt s t k) : W S) = k
  | 0, _ => len_one
  | k + 1, hk => by
    have i := alt_red (s := t) (t := s) (Ne.symm h) (k := k) (by rw [S.sym]; omega)
    have q := alt_not_fr (S := S) h (k := k) (by omega)
    rw [not_fr, i] at q
    exact q
theorem two_fronts {z : W S} {s t : Fin n} (h : s ≠ t) (hs : fr z s) (ht : fr z t) : S.m s t ≠ 0 ∧ beg (mk (alt s t (S.m s t))) z := by
  rw [fr_inv] at hs ht
  obtain ⟨v, k, e, hl, h1, h2⟩ := decomp s t (len z⁻¹) z⁻¹ (Nat.le_refl _)
  have v1 := up h1
  have v2 := up h2
  have key : ¬ (k < S.m s t ∨ S.m s t = 0) := fun hk => by
    rcases e with e | e
    · refine not_both (g := z⁻¹) (s := s) ?_ (down hs)
      rw [e]; exact alt_up h hk v1 v2
    · refine not_both (g := z⁻¹) (s := t) ?_ (down ht)
      rw [e]; exact alt_up (Ne.symm h) (by rwa [S.sym]) v2 v1
  have hm : S.m s t ≠ 0 := fun q => key (.inr q)
  refine ⟨hm, ?_⟩
  have e2 : z⁻¹ = v * altE s t (S.m s t) ∧ len z⁻¹ = len v + S.m s t := by
    rcases e with e | e
    · have q := alt_most h hm e hl
      have : k = S.m s t := by omega
      subst this
      exact ⟨e, hl⟩
    · have q := alt_most' h hm e hl
      have : k = S.m s t := by omega
      subst this
      exact ⟨by rw [e, altE_braid s t h hm], hl⟩
  obtain ⟨e3, hl3⟩ := e2
  have e4 : z = mk (alt s t (S.m s t)) * v⁻¹ := by
    rw [← inv_inv z, e3, mul_inv_rev]
    unfold altE
    rw [mk_reverse, inv_inv, braid_alt s t h hm]
  have lz : len z = S.m s t + len v⁻¹ := by rw [len_inv] at hl3 ⊢; omega
  have la := alt_red (S := S) h (k := S.m s t) (.inl (Nat.le_refl _))
  rw [e4]
  apply beg_mul
  rw [← e4, la, lz]

/-! ### the front button that a least continuation has not, if neither has it -/
theorem NG_mul_zero {c d : G} (hc : NG c) (hd : NG d) (h : c ≠ 0) (e : c * d = 0) : d = 0 := by
  obtain ⟨c1, c2⟩ := hc
  obtain ⟨d1, d2⟩ := hd
  have ea : c.a * d.a + c.b * d.b = 0 := congrArg G.a e
  have eb : c.a * d.b + c.b * d.a + c.b * d.b = 0 := congrArg G.b e
  have p1 := Int.mul_nonneg c1 d1
  have p2 := Int.mul_nonneg c2 d2
  have p3 := Int.mul_nonneg c1 d2
  have p4 := Int.mul_nonneg c2 d1
  have z1 : c.a * d.a = 0 := by omega
  have z2 : c.b * d.b = 0 := by omega
  have z3 : c.a * d.b = 0 := by omega
  have z4 : c.b * d.a = 0 := by omega
  have hh : c.a ≠ 0 ∨ c.b ≠ 0 := by
    by_cases q : c.a = 0
    · right
      intro r
      exact h (G.ext' q r)
    · exact .inl q
  rcases hh with q | q
  · exact G.ext' ((Int.mul_eq_zero.mp z1).resolve_left q) ((Int.mul_eq_zero.mp z3).resolve_left q)
  · exact G.ext' ((Int.mul_eq_zero.mp z4).resolve_left q) ((Int.mul_eq_zero.mp z2).resolve_left q)
theorem NG_add_zero {c d : G} (hc : NG c) (hd : NG d) (e : c + d = 0) : c = 0 ∧ d = 0 := by
  obtain ⟨c1, c2⟩ := hc
  obtain ⟨d1, d2⟩ := hd
  have ea : c.a + d.a = 0 := congrArg G.a e
  have eb : c.b + d.b = 0 := congrArg G.b e
  refine ⟨G.ext' ?_ ?_, G.ext' ?_ ?_⟩ <;> simp <;> omega
theorem actW_off {s t p : Fin n} (hs : p ≠ s) (ht : p ≠ t) : ∀ (k : Nat) (s' t' : Fin n), (s' = s ∧ t' = t ∨ s' = t ∧ t' = s) → ∀ x : Vec n, actW S.A (alt s' t' k) x p = x p
  | 0, _, _, _, _ => rfl
  | k + 1, s', t', h, x => by
    show rf S.A s' (actW S.A (alt t' s' k) x) p = x p
    have : p ≠ s' := by rcases h with h | h <;> rw [h.1] <;> assumption
    unfold rf
    rw [if_neg this]
    exact actW_off hs ht k t' s' (by omega) x
theorem off_inv {s t p : Fin n} (hs : p ≠ s) (ht : p ≠ t) (k : Nat) (x : Vec n) : act (mk (alt s t k) : W S)⁻¹ x p = x p := by
  rw [← mk_reverse, alt_reverse]
  by_cases q : k % 2 = 0
  · rw [if_pos q]; exact actW_off hs ht k t s (.inr ⟨rfl, rfl⟩) x
  · rw [if_neg q]; exact actW_off hs ht k s t (.inl ⟨rfl, rfl⟩) x
theorem join_two {v : W S} {s t r : Fin n} (h : s ≠ t) (h1 : len (v * gen s) = len v + 1) (h2 : len (v * gen t) = len v + 1) (n1 : ¬ fr (v * gen s) r) (n2 : ¬ fr (v * gen t) r) (k : Nat) : ¬ fr (v * mk (alt s t k)) r := by
  intro hf
  have b1 : beg v (v * gen s) := beg_mul (by rw [len_gen]; exact h1)
  have nv := not_fr_of_beg b1 n1
  rw [not_fr_up] at nv n1 n2
  rw [fr_down] at hf
  rw [mul_inv_rev, act_mul] at hf n1 n2
  generalize hg : act v⁻¹ (axis r) = γ at *
  have off : ∀ p, p ≠ s → p ≠ t → γ p = 0 := fun p ps pt => by
    have q : NG (- act (mk (alt s t k) : W S)⁻¹ γ p) := hf p
    rw [off_inv ps pt] at q
    exact (nv p).zero q
  have e : γ = two (γ s) (axis s) (γ t) (axis t) := by
    funext p
    unfold two
    by_cases ps : p = s
    · subst ps; rw [axis_same, axis_ne h]; grind
    · by_cases pt : p = t
      · subst pt; rw [axis_same, axis_ne (Ne.symm h)]; grind
      · rw [off p ps pt, axis_ne ps, axis_ne pt]; grind
  have γne : ∃ p, γ p ≠ 0 := by rw [← hg]; exact act_ne v⁻¹ r
  have one0 : ∀ s : Fin n, (∀ p, p ≠ s → γ p = 0) → NN (act (gen s : W S)⁻¹ γ) → False := fun s hz hn => by
    have e1 : γ = less (fun _ => 0) (-(γ s)) (axis s) := by
      funext p
      unfold less
      by_cases ps : p = s
      · subst ps; rw [axis_same]; grind
      · rw [hz p ps, axis_ne ps]; grind
    have e2 : act (gen s : W S)⁻¹ γ = fun p => - γ p := by
      rw [gen_inv, act_gen, rf_eq]
      have l : lev S.A s γ = γ s * 2 := by
        have z : lev S.A s (fun _ => 0) = 0 := by
          unfold lev
          have : (fun u => S.A s u * (0 : G)) = fun _ => 0 := by funext u; grind
          rw [this, sm_zero]
        rw [e1, lev_less, lev_axis, S.diag, z]
        unfold less
        rw [axis_same]
        grind
      rw [l]
      funext p
      unfold less
      by_cases ps : p = s
      · subst ps; rw [axis_same]; grind
      · rw [hz p ps, axis_ne ps]; grind
    rw [e2] at hn
    obtain ⟨p, hp⟩ := γne
    exact hp ((nv p).zero (hn p))
  by_cases zt : γ t = 0
  · refine one0 s (fun p ps => ?_) n1
    by_cases pt : p = t
    · rw [pt]; exact zt
    · exact off p ps pt
  · by_cases zs : γ s = 0
    · refine one0 t (fun p pt => ?_) n2
      by_cases ps : p = s
      · rw [ps]; exact zs
      · exact off p ps pt
    · have x1 := up h1
      have x2 := up h2
      have er : axis r = two (γ s) (act v (axis s)) (γ t) (act v (axis t)) := by
        rw [← act_two, ← e, ← hg, ← act_mul, mul_inv, act_one]
      have both : ∀ p, p ≠ r → act v (axis s) p = 0 ∧ act v (axis t) p = 0 := fun p pr => by
        have q := congrFun er p
        rw [axis_ne pr] at q
        have q2 := NG_add_zero ((nv s).mul (x1 p)) ((nv t).mul (x2 p)) q.symm
        exact ⟨NG_mul_zero (nv s) (x1 p) zs q2.1, NG_mul_zero (nv t) (x2 p) zt q2.2⟩
      have e3 : act v (two (act v (axis t) r) (axis s) (-(act v (axis s) r)) (axis t)) = act v (fun _ => 0) := by
        rw [act_two, act_zero]
        funext p
        unfold two
        by_cases pr : p = r
        · subst pr; grind
        · rw [(both p pr).1, (both p pr).2]; grind
      have e4 := congrFun (act_inj v e3) t
      unfold two at e4
      rw [axis_same, axis_ne (Ne.symm h)] at e4
      have z : act v (axis s) r = 0 := by grind
      obtain ⟨p, hp⟩ := act_ne v s
      apply hp
      by_cases pr : p = r
      · rw [pr]; exact z
      · exact (both p pr).1
end
end W
end Wk
namespace Wk
namespace W
section
variable {n : Nat} {S : Sys n}
theorem alt_add {α : Type} : ∀ (i j : Nat) (s t : α), ∃ s' t', alt s t (i + j) = alt s t i ++ alt s' t' j
  | 0, j, s, t => ⟨s, t, by rw [Nat.zero_add]; rfl⟩
  | i + 1, j, s, t => by
    obtain ⟨s', t', e⟩ := alt_add i j t s
    refine ⟨s', t', ?_⟩
    rw [show i + 1 + j = (i + j) + 1 by omega]
    show s :: alt t s (i + j) = s :: alt t s i ++ _
    rw [e]; rfl
/-- the beginnings of a stretch by turns -/
theorem alt_beg {s t : Fin n} (h : s ≠ t) (hm : S.m s t ≠ 0) {j : Nat} (hj : j ≤ S.m s t) : beg (mk (alt s t j) : W S) (mk (alt s t (S.m s t))) := by
  obtain ⟨s', t', e⟩ := alt_add j (S.m s t - j) s t
  rw [show j + (S.m s t - j) = S.m s t by omega] at e
  unfold beg
  have l1 := alt_red (S := S) h (k := S.m s t) (.inl (Nat.le_refl _))
  have l2 := alt_red (S := S) h (k := j) (.inl hj)
  have l3 := len_le (S := S) (alt s' t' (S.m s t - j))
  rw [alt_len] at l3
  have e2 : (mk (alt s t j) : W S)⁻¹ * mk (alt s t (S.m s t)) = mk (alt s' t' (S.m s t - j)) := by
    rw [e, mk_append, inv_mul_left]
  have l4 := len_mul (mk (alt s t j) : W S) (mk (alt s' t' (S.m s t - j)))
  rw [← mk_append, ← e] at l4
  rw [e2]
  omega
theorem alt_step {v z : W S} {s t : Fin n} (h : s ≠ t) (hs : fr (v⁻¹ * z) s) (ht : fr (v⁻¹ * z) t) (hz : beg v z) :
    S.m s t ≠ 0 ∧ beg (v * mk (alt s t (S.m s t))) z ∧ len (v * mk (alt s t (S.m s t))) = len v + S.m s t := by
  obtain ⟨hm, hb⟩ := two_fronts h hs ht
  have q := len_part (beg_len hz) hb
  rw [mul_inv_left, alt_red (S := S) h (.inl (Nat.le_refl _))] at q
  exact ⟨hm, q.2, q.1⟩
theorem first_out {P : Nat → Prop} : ∀ {m : Nat}, P 1 → ¬ P m → 1 ≤ m → ∃ j, 1 ≤ j ∧ j < m ∧ P j ∧ ¬ P (j + 1)
  | 0, _, _, h => by omega
  | m + 1, h1, hm, _ => by
    by_cases z : m = 0
    · subst z; exact absurd h1 hm
    · by_cases q : P m
      · exact ⟨m, by omega, by omega, q, hm⟩
      · obtain ⟨j, a, b, c, d⟩ := first_out h1 q (by omega)
        exact ⟨j, a, by omega, c, d⟩
theorem alt_getlast {α : Type} (s t : α) (j : Nat) : ∃ a, alt s t (j + 1) = alt s t j ++ [a] := by
  obtain ⟨s', t', e⟩ := alt_add j 1 s t
  exact ⟨s', e⟩
/-- from v, which begins w, a press that leaves w: so a press behind w, within z, without r in front -/
theorem climb {w z : W S} {r : Fin n} (hwz : beg w z) (hr : ¬ fr w r) : ∀ (N : Nat) (v : W S) (s : Fin n), len w - len v ≤ N → beg v w → len (v * gen s) = len v + 1 → beg (v * gen s) z → ¬ beg (v * gen s) w → ¬ fr (v * gen s) r →
    ∃ s', len (w * gen s') = len w + 1 ∧ beg (w * gen s') z ∧ ¬ fr (w * gen s') r
  | N, v, s, hN, hv, hl, hz, hw, hf => by
    by_cases q : len w ≤ len v
    · have e := beg_eq hv q
      subst e
      exact ⟨s, hl, hz, hf⟩
    · cases N with
      | zero => omega
      | succ N =>
        have ne : len (v⁻¹ * w) ≠ 0 := by
          have h := hv
          unfold beg at h
          omega
        obtain ⟨t, ht⟩ := has_front ne
        have ht' : fr (v⁻¹ * w) t := ht
        obtain ⟨lt, bt⟩ := beg_step hv ht'
        have st : s ≠ t := fun e => hw (by rw [e]; exact bt)
        have btz := beg_trans bt hwz
        have f1 := fr_of_step hl hz
        have f2 := fr_of_step lt btz
        have hvz := beg_trans hv hwz
        obtain ⟨hm, bd, ld⟩ := alt_step st f1 f2 hvz
        have ft : ¬ fr (v * gen t) r := not_fr_of_beg bt hr
        have fd := join_two st hl lt hf ft (S.m s t)
        have m1 : 1 ≤ S.m s t := by omega
        have l0 := alt_red (S := S) st (k := S.m s t) (.inl (Nat.le_refl _))
        have addd : len (v * mk (alt s t (S.m s t))) = len v + len (mk (alt s t (S.m s t)) : W S) := by rw [ld, l0]
        have ebr := braid_alt s t st hm
        have partT : ∀ j, j ≤ S.m s t → len (v * mk (alt t s j)) = len v + j ∧ beg (v * mk (alt t s j)) (v * mk (alt s t (S.m s t))) := fun j hj => by
          have b := alt_beg (S := S) (Ne.symm st) (by rwa [S.sym]) (j := j) (by rwa [S.sym])
          rw [S.sym t s, ← ebr] at b
          have p := len_part addd b
          rw [alt_red (S := S) (Ne.symm st) (k := j) (.inl (by rwa [S.sym]))] at p
          exact p
        have bsd : beg (v * gen s) (v * mk (alt s t (S.m s t))) := by
          have b := alt_beg (S := S) st hm (j := 1) m1
          exact (len_part addd b).2
        have dw : ¬ beg (v * mk (alt t s (S.m s t))) w := fun e => hw (by
          refine beg_trans bsd ?_
          rw [ebr]; exact e)
        obtain ⟨j, j1, jm, hj, hj'⟩ := first_out (P := fun j => beg (v * mk (alt t s j)) w) bt dw m1
        obtain ⟨a, ea⟩ := alt_getlast t s j
        obtain ⟨p1, p2⟩ := partT j (by omega)
        obtain ⟨p3, p4⟩ := partT (j + 1) (by omega)
        have e1 : v * mk (alt t s (j + 1)) = v * mk (alt t s j) * gen a := by rw [ea, mk_append, mul_assoc]; rfl
        rw [e1] at p3 p4 hj'
        exact climb hwz hr N (v * mk (alt t s j)) a (by omega) hj (by omega) (beg_trans p4 bd) hj' (not_fr_of_beg p4 fd)
/-- of all with a property, below a bound, one with greatest length -/
theorem greatest {P : W S → Prop} (B : Nat) (hB : ∀ g, P g → len g ≤ B) {g : W S} (hg : P g) : ∃ g, P g ∧ ∀ h, P h → len h ≤ len g := by
  obtain ⟨k, ⟨g', h1, h2⟩, h3⟩ := least (P := fun k => ∃ g, P g ∧ k + len g = B) ⟨B - len g, g, hg, by have := hB g hg; omega⟩
  refine ⟨g', h1, fun h hh => ?_⟩
  have q := h3 (B - len h) ⟨h, hh, by have := hB h hh; omega⟩
  have := hB h hh
  omega
/-- two that begin z, without r in front: both begin one without r in front, that begins z -/
theorem avoid {u y z : W S} {r : Fin n} (hu : beg u z) (hy : beg y z) (nu : ¬ fr u r) (ny : ¬ fr y r) : ∃ w, beg u w ∧ beg y w ∧ beg w z ∧ ¬ fr w r := by
  obtain ⟨w, ⟨w1, w2, w3⟩, wmax⟩ := greatest (P := fun w => beg u w ∧ beg w z ∧ ¬ fr w r) (len z) (fun g h => beg_le h.2.1) ⟨beg_refl u, hu, nu⟩
  refine ⟨w, w1, ?_, w2, w3⟩
  apply Classical.byContradiction
  intro hyw
  obtain ⟨v, ⟨v1, v2⟩, vmax⟩ := greatest (P := fun v => beg v y ∧ beg v w) (len w) (fun g h => beg_le h.2) ⟨beg_one y, beg_one w⟩
  have vy : len (v⁻¹ * y) ≠ 0 := fun q => by
    have : len y ≤ len v := by have h := v1; unfold beg at h; omega
    have e := beg_eq v1 this
    rw [e] at v2
    exact hyw v2
  obtain ⟨s, hs⟩ := has_front vy
  have hs' : fr (v⁻¹ * y) s := hs
  obtain ⟨l1, b1⟩ := beg_step v1 hs'
  have nb : ¬ beg (v * gen s) w := fun q => by
    have := vmax _ ⟨b1, q⟩
    omega
  obtain ⟨s', l2, b2, f2⟩ := climb w2 w3 (len w - len v) v s (Nat.le_refl _) v2 l1 (beg_trans b1 hy) nb (not_fr_of_beg b1 ny)
  have := wmax _ ⟨beg_trans w1 (beg_mul (by rw [len_gen]; exact l2)), b2, f2⟩
  omega

/-! ### least continuations -/
structure Lub (u y z : W S) : Prop where
  one : beg u z
  other : beg y z
  least : ∀ x, beg u x → beg y x → beg z x
theorem Lub.unique {u y z z' : W S} (h : Lub u y z) (k : Lub u y z') : z = z' := beg_antisymm (h.least _ k.one k.other) (k.least _ h.one h.other)
theorem Lub.symm {u y z : W S} (h : Lub u y z) : Lub y u z := ⟨h.other, h.one, fun x a b => h.least x b a⟩
theorem Lub.not_fr {u y z : W S} {r : Fin n} (h : Lub u y z) (nu : ¬ fr u r) (ny : ¬ fr y r) : ¬ fr z r := by
  obtain ⟨w, a, b, c, d⟩ := avoid h.one h.other nu ny
  have e := beg_antisymm c (h.least w a b)
  rwa [e] at d
/-- what is told of two changes and a bound -/
def Told (u y : W S) (most : Int) : Option (W S) → Prop
  | some z => Lub u y z ∧ (len z : Int) ≤ most
  | none => ∀ x, beg u x → beg y x → most < (len x : Int)
/-- what is kept of a change and a button: found whatever its length -/
def Kept (u y : W S) (bound : Int) : Option (W S) → Prop
  | some z => Lub u y z
  | none => ∀ x, beg u x → beg y x → bound < (len x : Int)
theorem Told.kept {u y : W S} {most : Int} {r : Option (W S)} (h : Told u y most r) : Kept u y most r := by
  cases r with
  | none => exact h
  | some z => exact h.1
theorem Lub.told {u y z : W S} (h : Lub u y z) (most : Int) : Told u y most (if (len z : Int) ≤ most then some z else none) := by
  by_cases q : (len z : Int) ≤ most
  · rw [if_pos q]; exact ⟨h, q⟩
  · rw [if_neg q]
    exact fun x a b => by have := beg_le (h.least x a b); omega
theorem lub_of_beg {u y : W S} (h : beg y u) : Lub u y u := ⟨beg_refl u, h, fun _ a _ => a⟩
/-- a front button -/
theorem told_front {w : W S} {s : Fin n} (h : fr w s) (most : Int) : Told w (gen s) most (if (len w : Int) ≤ most then some w else none) := (lub_of_beg (beg_gen.mpr h)).told most
theorem told_long {w : W S} {s : Fin n} (h : ¬ fr w s) {most : Int} (hl : most ≤ (len w : Int)) : Told w (gen s) most none := fun x a b => by
  have q := beg_le a
  have : len w ≠ len x := fun e => h (by rw [beg_eq a (by omega)]; exact beg_gen.mp b)
  omega
theorem told_plain {w : W S} (s : Fin n) (h : len w = 0) {most : Int} (hm : 1 ≤ most) : Told w (gen s) most (some (gen s)) := by
  rw [len_zero h]
  exact ⟨⟨beg_one _, beg_refl _, fun _ _ b => b⟩, by rw [len_gen]; exact hm⟩
theorem told_far {w : W S} {f s : Fin n} (hf : fr w f) (ne : f ≠ s) (hm : S.m f s = 0) (most : Int) : Told w (gen s) most none := fun _ a b =>
  absurd hm (two_fronts ne (fr_of_beg a hf) (beg_gen.mp b)).1
/-- a front button f of w, the tie of f and s not endless: what is left of both when f is taken away -/
theorem told_tied {w : W S} {f s : Fin n} (hf : fr w f) (ne : f ≠ s) (hm : S.m f s ≠ 0) {most : Int} {r : Option (W S)} (h : Told (gen f * w) (mk (alt s f (S.m f s - 1))) (most - 1) r) : Told w (gen s) most (r.map fun z => gen f * z) := by
  have m2 : ∃ k, S.m f s = k + 1 := ⟨S.m f s - 1, by omega⟩
  obtain ⟨k, hk⟩ := m2
  rw [hk, Nat.add_sub_cancel] at h
  have na : ¬ fr (mk (alt s f k) : W S) f := alt_not_fr ne (.inl (by omega))
  have ea : (mk (alt f s (k + 1)) : W S) = gen f * mk (alt s f k) := rfl
  have fa : fr (mk (alt f s (k + 1)) : W S) f := by rw [ea]; exact fr_flip.mpr na
  have ebr := braid_alt (S := S) f s ne hm
  rw [hk] at ebr
  have fs : fr (mk (alt f s (k + 1)) : W S) s := by
    rw [ebr]
    show fr (gen s * mk (alt f s k)) s
    exact fr_flip.mpr (alt_not_fr (Ne.symm ne) (.inl (by rw [S.sym]; omega)))
  have both : ∀ x, fr x f → fr x s → beg (mk (alt s f k)) (gen f * x) := fun x h1 h2 => by
    have q := (two_fronts ne h1 h2).2
    rw [hk] at q
    have q2 := (beg_less fa h1).mpr q
    rwa [ea, gen_gen_left] at q2
  cases r with
  | none =>
    intro x a b
    have h1 := fr_of_beg a hf
    have q := h (gen f * x) ((beg_less hf h1).mpr a) (both x h1 (beg_gen.mp b))
    unfold fr at h1
    omega
  | some z =>
    obtain ⟨L, hl⟩ := h
    have nz := L.not_fr (not_fr_flip.mpr hf) na
    have fz : fr (gen f * z) f := fr_flip.mpr nz
    refine ⟨⟨?_, ?_, fun x a b => ?_⟩, ?_⟩
    · have q := (beg_more (not_fr_flip.mpr hf) nz).mpr L.one
      rwa [gen_gen_left] at q
    · have q := (beg_more na nz).mpr L.other
      rw [← ea] at q
      exact beg_gen.mpr (fr_of_beg q fs)
    · have h1 := fr_of_beg a hf
      have q := L.least _ ((beg_less hf h1).mpr a) (both x h1 (beg_gen.mp b))
      have q2 := (beg_more nz (not_fr_flip.mpr h1)).mpr q
      rwa [gen_gen_left] at q2
    · rw [not_fr] at nz
      show ((len (gen f * z) : Nat) : Int) ≤ most
      rw [nz]
      omega
theorem told_nil (w : W S) (most : Int) : Told w (mk []) most (if (len w : Int) ≤ most then some w else none) := (lub_of_beg (beg_one w)).told most
theorem told_no {w : W S} {a : Fin n} {y : W S} {most : Int} (ha : fr y a) (h : Told w (gen a) most none) : Told w y most none := fun x h1 h2 => h x h1 (beg_gen.mpr (fr_of_beg h2 ha))
theorem told_go {w f y : W S} {a : Fin n} {most : Int} (ha : fr y a) (h : Told w (gen a) most (some f)) {r : Option (W S)} (k : Told (gen a * f) (gen a * y) (most - 1) r) : Told w y most (r.map fun z => gen a * z) := by
  obtain ⟨L, _⟩ := h
  have fa : fr f a := beg_gen.mp L.other
  have both : ∀ x, beg w x → beg y x → fr x a ∧ beg (gen a * f) (gen a * x) ∧ beg (gen a * y) (gen a * x) := fun x h1 h2 => by
    have hx := fr_of_beg h2 ha
    have b := L.least x h1 (beg_gen.mpr hx)
    exact ⟨hx, (beg_less fa hx).mpr b, (beg_less ha hx).mpr h2⟩
  cases r with
  | none =>
    intro x h1 h2
    obtain ⟨hx, b1, b2⟩ := both x h1 h2
    have q := k _ b1 b2
    unfold fr at hx
    omega
  | some z =>
    obtain ⟨M, hl⟩ := k
    have nz := M.not_fr (not_fr_flip.mpr fa) (not_fr_flip.mpr ha)
    have b1 := (beg_more (not_fr_flip.mpr fa) nz).mpr M.one
    have b2 := (beg_more (not_fr_flip.mpr ha) nz).mpr M.other
    rw [gen_gen_left] at b1 b2
    refine ⟨⟨beg_trans L.one b1, b2, fun x h1 h2 => ?_⟩, ?_⟩
    · obtain ⟨hx, c1, c2⟩ := both x h1 h2
      have q := M.least _ c1 c2
      have q2 := (beg_more nz (not_fr_flip.mpr hx)).mpr q
      rwa [gen_gen_left] at q2
    · rw [not_fr] at nz
      show ((len (gen a * z) : Nat) : Int) ≤ most
      rw [nz]
      omega
/-- what is kept, asked again -/
theorem kept_some {u y z : W S} {b most : Int} (h : Kept u y b (some z)) : Told u y most (if (len z : Int) ≤ most then some z else none) := Lub.told h most
theorem kept_none {u y : W S} {b most : Int} (h : Kept u y b none) (hb : most ≤ b) : Told u y most none := fun x a c => by have := h x a c; omega
end
end W
end Wk
namespace Wk
open PySem L2
/-! ### what is known of a value, of an owned object -/
def Ex (H H' : Hp) : Prop := ∀ a o, H a = some o → H' a = some o
theorem Ex.refl (H : Hp) : Ex H H := fun _ _ h => h
theorem Ex.trans {H H1 H2 : Hp} (a : Ex H H1) (b : Ex H1 H2) : Ex H H2 := fun x o h => b x o (a x o h)
theorem Ex.new {H : Hp} {p : Addr} {o : HO} (h : H p = none) : Ex H (upd H p o) := fun a u e => by
  rw [upd_ne (ne_of_none e h)]
  exact e
theorem Ex.none {H H' : Hp} {p : Addr} (e : Ex H H') (h : H' p = none) : H p = none := by
  cases h1 : H p with
  | none => rfl
  | some o => rw [e p o h1] at h; cases h
theorem ex_rd {H H' : Hp} {a : Addr} {u : HO} (e : Ex H H') (h : Rd H a u) : Rd H' a u := by
  rcases h with h | ⟨o, h⟩
  · exact Or.inl (e a _ h)
  · exact Or.inr ⟨o, e a _ h⟩
theorem ex_l {K : PySem.W.Frag} {H H' : Hp} {a : Addr} {xs : List V} (e : Ex H H') (h : SqL K H a xs) : SqL K H' a xs := by
  rcases h with h | h
  · exact Or.inl (ex_rd e h)
  · exact Or.inr h
theorem ex_t {K : PySem.W.Frag} {H H' : Hp} {a : Addr} {xs : List V} (e : Ex H H') (h : SqT K H a xs) : SqT K H' a xs := by
  rcases h with h | h
  · exact Or.inl (ex_rd e h)
  · exact Or.inr h
mutual
theorem dp_mono {K : PySem.W.Frag} {H H' : Hp} (e : Ex H H') : ∀ (d : PyData) (v : V), Dp K H v d → Dp K H' v d
  | .none, _, h => by cases h; exact .non
  | .bool _, _, h => by cases h; exact .bl _
  | .int _, _, h => by cases h; exact .int _
  | .str _, _, h => by cases h; exact .str _
  | .list ds, _, h => by
    cases h with
    | lst hs ha => exact .lst (ex_l e hs) (dpAll_mono e ds _ ha)
  | .tuple ds, _, h => by
    cases h with
    | tup hs ha => exact .tup (ex_t e hs) (dpAll_mono e ds _ ha)
  | .dict _, _, h => by cases h
theorem dpAll_mono {K : PySem.W.Frag} {H H' : Hp} (e : Ex H H') : ∀ (ds : List PyData) (vs : List V), DpAll K H vs ds → DpAll K H' vs ds
  | [], _, h => by cases h; exact .nil
  | d :: ds, _, h => by
    cases h with
    | cons h1 h2 => exact .cons (dp_mono e d _ h1) (dpAll_mono e ds _ h2)
end
structure Kn where
  p : Hp → V → Prop
  mo : ∀ N N' v, Ex N N' → p N v → p N' v
/-- plain data -/
def kd (K : PySem.W.Frag) (d : PyData) : Kn := ⟨fun N v => Dp K N v d, fun _ _ _ e h => dp_mono e d _ h⟩
/-- whatever -/
def kAny : Kn := ⟨fun _ _ => True, fun _ _ _ _ _ => trivial⟩
structure Oc where
  p : Hp → HO → Prop
  mo : ∀ N N' u, Ex N N' → p N u → p N' u
/-- an owned list of plain data -/
def oL (K : PySem.W.Frag) (ds : List PyData) : Oc := ⟨fun N u => ∃ vs, u = .lst vs ∧ DpAll K N vs ds, fun _ _ _ e ⟨vs, h1, h2⟩ => ⟨vs, h1, dpAll_mono e ds vs h2⟩⟩
/-- what is known of a slot: nothing; a value; an object that this def alone holds (fresh since its entry: own; held since before: hel) -/
inductive Slot where
  | un
  | kn (R : Kn)
  | own (O : Oc)
  | hel (O : Oc)
/-- the addresses of the owned objects -/
def Slot.holds : Slot → Bool
  | .own _ => true
  | .hel _ => true
  | _ => false
def SlotOk (F : Hp) (B : Addr → Prop) (N H : Hp) : Slot → Option V → Prop
  | .un, _ => True
  | .kn R, o => ∃ v, o = some v ∧ R.p N v
  | .own O, o => ∃ p u, o = some (.ref p) ∧ F p = none ∧ N p = none ∧ ¬ B p ∧ H p = some u ∧ O.p N u
  | .hel O, o => ∃ p u, o = some (.ref p) ∧ F p = none ∧ N p = none ∧ B p ∧ H p = some u ∧ O.p N u
/-- the state: N, the part of the heap that stays as it is, of which facts are known; F, what else must stay; B, what may not come into N -/
structure Stt (F : Hp) (B : Addr → Prop) (Γ : List Slot) (σ : St) (N H : Hp) : Prop where
  sub : Ex N H
  fr : Ex F H
  bl : ∀ a, B a → N a = none
  bh : ∀ a, B a → H a ≠ none
  len : Γ.length = σ.length
  ok : ∀ (i : Nat) (γ : Slot) (o : Option V), Γ[i]? = some γ → σ[i]? = some o → SlotOk F B N H γ o
  ap : ∀ (i j : Nat) (γ δ : Slot) (p : Addr), i ≠ j → Γ[i]? = some γ → Γ[j]? = some δ → γ.holds = true → δ.holds = true → σ[i]? = some (some (.ref p)) → σ[j]? = some (some (.ref p)) → False
section
variable {F : Hp} {B : Addr → Prop} {Γ : List Slot} {σ : St} {N H : Hp}
theorem Stt.kn (S : Stt F B Γ σ N H) {i : Nat} {R : Kn} (h : Γ[i]? = some (.kn R)) : ∃ v, σ[i]? = some (some v) ∧ R.p N v := by
  have hi : i < σ.length := by rw [← S.len]; exact (List.getElem?_eq_some_iff.mp h).1
  obtain ⟨v, e, r⟩ := S.ok i _ _ h (List.getElem?_eq_getElem hi)
  exact ⟨v, by rw [List.getElem?_eq_getElem hi, e], r⟩
theorem Stt.own (S : Stt F B Γ σ N H) {i : Nat} {O : Oc} (h : Γ[i]? = some (.own O)) : ∃ p u, σ[i]? = some (some (.ref p)) ∧ F p = none ∧ N p = none ∧ ¬ B p ∧ H p = some u ∧ O.p N u := by
  have hi : i < σ.length := by rw [← S.len]; exact (List.getElem?_eq_some_iff.mp h).1
  obtain ⟨p, u, e, r⟩ := S.ok i _ _ h (List.getElem?_eq_getElem hi)
  exact ⟨p, u, by rw [List.getElem?_eq_getElem hi, e], r⟩
theorem Stt.helS (S : Stt F B Γ σ N H) {i : Nat} {O : Oc} (h : Γ[i]? = some (.hel O)) : ∃ p u, σ[i]? = some (some (.ref p)) ∧ F p = none ∧ N p = none ∧ B p ∧ H p = some u ∧ O.p N u := by
  have hi : i < σ.length := by rw [← S.len]; exact (List.getElem?_eq_some_iff.mp h).1
  obtain ⟨p, u, e, r⟩ := S.ok i _ _ h (List.getElem?_eq_getElem hi)
  exact ⟨p, u, by rw [List.getElem?_eq_getElem hi, e], r⟩
/-- an owned object, of either kind -/
theorem Stt.held (S : Stt F B Γ σ N H) {i : Nat} {γ : Slot} (h : Γ[i]? = some γ) (hh : γ.holds = true) : ∃ p u O, σ[i]? = some (some (.ref p)) ∧ (γ = .own O ∨ γ = .hel O) ∧ F p = none ∧ N p = none ∧ H p = some u ∧ O.p N u := by
  cases γ with
  | un => cases hh
  | kn R => cases hh
  | own O => obtain ⟨p, u, a, b, c, _, d, e⟩ := S.own h; exact ⟨p, u, O, a, .inl rfl, b, c, d, e⟩
  | hel O => obtain ⟨p, u, a, b, c, _, d, e⟩ := S.helS h; exact ⟨p, u, O, a, .inr rfl, b, c, d, e⟩
/-- the heap grows, the known part too, by new objects -/
theorem Stt.grow (S : Stt F B Γ σ N H) {N' H' : Hp} (n : Ex N N') (h : Ex H H') (s : Ex N' H') (f : ∀ a, H a ≠ none → N a = none → N' a = none) : Stt F B Γ σ N' H' where
  sub := s
  fr := S.fr.trans h
  bl := fun a b => f a (S.bh a b) (S.bl a b)
  bh := fun a b q => S.bh a b (h.none q)
  len := S.len
  ok := fun i γ o hg ho => by
    have q := S.ok i γ o hg ho
    cases γ with
    | un => trivial
    | kn R => obtain ⟨v, e, r⟩ := q; exact ⟨v, e, R.mo _ _ _ n r⟩
    | own O =>
      obtain ⟨p, u, e, a, b, c, d, r⟩ := q
      exact ⟨p, u, e, a, f p (by rw [d]; exact Option.some_ne_none _) b, c, h _ _ d, O.mo _ _ _ n r⟩
    | hel O =>
      obtain ⟨p, u, e, a, b, c, d, r⟩ := q
      exact ⟨p, u, e, a, f p (by rw [d]; exact Option.some_ne_none _) b, c, h _ _ d, O.mo _ _ _ n r⟩
  ap := S.ap
/-- a new object, known from now on -/
theorem Stt.new (S : Stt F B Γ σ N H) {p : Addr} {o : HO} (h : H p = none) : Stt F B Γ σ (upd N p o) (upd H p o) := by
  refine S.grow (Ex.new (S.sub.none h)) (Ex.new h) (fun a u e => ?_) fun a h1 h2 => ?_
  · by_cases q : a = p
    · subst q; rw [upd_same] at e; rw [upd_same, e]
    · rw [upd_ne q] at e ⊢; exact S.sub a u e
  · rw [upd_ne]
    · exact h2
    · rintro rfl; exact h1 h
/-- a new object, not known -/
theorem Stt.hid (S : Stt F B Γ σ N H) {p : Addr} {o : HO} (h : H p = none) : Stt F B Γ σ N (upd H p o) :=
  S.grow (Ex.refl N) (Ex.new h) (S.sub.trans (Ex.new h)) fun _ _ z => z
/-- a slot gets a value -/
theorem Stt.set (S : Stt F B Γ σ N H) (i : Nat) {v : V} {R : Kn} (r : R.p N v) : Stt F B (Γ.set i (.kn R)) (σ.set i (some v)) N H where
  sub := S.sub
  fr := S.fr
  bl := S.bl
  bh := S.bh
  len := by rw [List.length_set, List.length_set, S.len]
  ok := fun j γ o hg ho => by
    by_cases q : i = j
    · subst q
      rw [List.getElem?_set_self (by have := (List.getElem?_eq_some_iff.mp hg).1; simpa using this)] at hg
      rw [List.getElem?_set_self (by have := (List.getElem?_eq_some_iff.mp ho).1; simpa using this)] at ho
      cases hg; cases ho
      exact ⟨v, rfl, r⟩
    · rw [List.getElem?_set_ne q] at hg ho
      exact S.ok j γ o hg ho
  ap := fun a b γ δ p hab ha hb h1 h2 h3 h4 => by
    by_cases qa : i = a
    · subst qa
      rw [List.getElem?_set_self (by have := (List.getElem?_eq_some_iff.mp ha).1; simpa using this)] at ha
      cases ha; cases h1
    · by_cases qb : i = b
      · subst qb
        rw [List.getElem?_set_self (by have := (List.getElem?_eq_some_iff.mp hb).1; simpa using this)] at hb
        cases hb; cases h2
      · rw [List.getElem?_set_ne qa] at ha h3
        rw [List.getElem?_set_ne qb] at hb h4
        exact S.ap a b γ δ p hab ha hb h1 h2 h3 h4
/-- a slot gets a new object that is owned -/
theorem Stt.setOwn (S : Stt F B Γ σ N H) (i : Nat) {p : Addr} {u : HO} {O : Oc} (f : F p = none) (n : N p = none) (b : ¬ B p) (h : H p = some u) (r : O.p N u)
    (d : ∀ (j : Nat) (γ : Slot) (q : Addr), Γ[j]? = some γ → γ.holds = true → σ[j]? = some (some (.ref q)) → q ≠ p) : Stt F B (Γ.set i (.own O)) (σ.set i (some (.ref p))) N H where
  sub := S.sub
  fr := S.fr
  bl := S.bl
  bh := S.bh
  len := by rw [List.length_set, List.length_set, S.len]
  ok := fun j γ o hg ho => by
    by_cases q : i = j
    · subst q
      rw [List.getElem?_set_self (by have := (List.getElem?_eq_some_iff.mp hg).1; simpa using this)] at hg
      rw [List.getElem?_set_self (by have := (List.getElem?_eq_some_iff.mp ho).1; simpa using this)] at ho
      cases hg; cases ho
      exact ⟨p, u, rfl, f, n, b, h, r⟩
    · rw [List.getElem?_set_ne q] at hg ho
      exact S.ok j γ o hg ho
  ap := fun x y γ δ q hxy hx hy h1 h2 h3 h4 => by
    by_cases qa : i = x
    · subst qa
      rw [List.getElem?_set_self (by have := (List.getElem?_eq_some_iff.mp h3).1; simpa using this)] at h3
      rw [List.getElem?_set_ne hxy] at hy h4
      have e : p = q := V.ref.inj (Option.some.inj (Option.some.inj h3))
      exact d y δ q hy h2 h4 e.symm
    · by_cases qb : i = y
      · subst qb
        rw [List.getElem?_set_self (by have := (List.getElem?_eq_some_iff.mp h4).1; simpa using this)] at h4
        rw [List.getElem?_set_ne qa] at hx h3
        have e : p = q := V.ref.inj (Option.some.inj (Option.some.inj h4))
        exact d x γ q hx h1 h3 e.symm
      · rw [List.getElem?_set_ne qa] at hx h3
        rw [List.getElem?_set_ne qb] at hy h4
        exact S.ap x y γ δ q hxy hx hy h1 h2 h3 h4
end
end Wk
namespace Wk
open PySem L2
def All2 (N : Hp) : List Kn → List V → Prop
  | [], [] => True
  | R :: Rs, v :: vs => R.p N v ∧ All2 N Rs vs
  | _, _ => False
theorem All2.mono {N N' : Hp} (e : Ex N N') : ∀ {Rs : List Kn} {vs : List V}, All2 N Rs vs → All2 N' Rs vs
  | [], [], _ => trivial
  | R :: Rs, v :: vs, h => ⟨R.mo _ _ _ e h.1, All2.mono e h.2⟩
  | [], _ :: _, h => h.elim
  | _ :: _, [], h => h.elim
theorem All2.len {N : Hp} : ∀ {Rs : List Kn} {vs : List V}, All2 N Rs vs → vs.length = Rs.length
  | [], [], _ => rfl
  | R :: Rs, v :: vs, h => congrArg Nat.succ (All2.len h.2)
  | [], _ :: _, h => h.elim
  | _ :: _, [], h => h.elim
/-- what follows a value -/
abbrev Cont (F : Hp) (B : Addr → Prop) (Γ : List Slot) (σ : St) (N : Hp) (R : Kn) (Q : VK) : Prop := ∀ v N' H', Stt F B Γ σ N' H' → Ex N N' → R.p N' v → Q v H'
def EX (te : TE) (Γ : List Slot) (R : Kn) : Prop := ∀ F B σ N H Q, Stt F B Γ σ N H → Cont F B Γ σ N R Q → te σ H Q
def EXL (K : PySem.W.Frag) (te : TE) (Γ : List Slot) (ds : List PyData) : Prop := ∀ F B σ N H Q, Stt F B Γ σ N H → (∀ p N' H' vs, Stt F B Γ σ N' H' → Ex N N' → H' p = some (.lst vs) → DpAll K N' vs ds → N' p = none → F p = none → ¬ B p →
  (∀ (j : Nat) (γ : Slot) (q : Addr), Γ[j]? = some γ → γ.holds = true → σ[j]? = some (some (.ref q)) → q ≠ p) → Q (.ref p) H') → te σ H Q
def ET (tt : TT) (Γ : List Slot) (b : Bool) : Prop := ∀ F B σ N H (Q : Bool → Hp → Prop), Stt F B Γ σ N H → (∀ N' H', Stt F B Γ σ N' H' → Ex N N' → Q b H') → tt σ H Q
def EA (ta : TA) (Γ : List Slot) (Rs : List Kn) : Prop := ∀ F B σ N H (Q : List V → Hp → Prop), Stt F B Γ σ N H → (∀ vs N' H', Stt F B Γ σ N' H' → Ex N N' → All2 N' Rs vs → Q vs H') → ta σ H Q
def EAd (K : PySem.W.Frag) (ta : TA) (Γ : List Slot) (ds : List PyData) : Prop := ∀ F B σ N H (Q : List V → Hp → Prop), Stt F B Γ σ N H → (∀ vs N' H', Stt F B Γ σ N' H' → Ex N N' → DpAll K N' vs ds → Q vs H') → ta σ H Q
/-- an operation on two values; a call of a built-in -/
def OPR (r : R2) (Ra Rb R : Kn) : Prop := ∀ F B Γ σ N H x y Q, Stt F B Γ σ N H → Ra.p N x → Rb.p N y → Cont F B Γ σ N R Q → r x y H Q
def CAR (r : List V → Hp → VK → Prop) (Rs : List Kn) (R : Kn) : Prop := ∀ F B Γ σ N H vs Q, Stt F B Γ σ N H → All2 N Rs vs → Cont F B Γ σ N R Q → r vs H Q
theorem dpAll_len {K : PySem.W.Frag} {H : Hp} : ∀ {ds : List PyData} {vs : List V}, DpAll K H vs ds → vs.length = ds.length
  | [], _, h => by cases h; rfl
  | d :: ds, _, h => by cases h with | cons h1 h2 => exact congrArg Nat.succ (dpAll_len h2)
theorem dpAll_get {K : PySem.W.Frag} {H : Hp} : ∀ {ds : List PyData} {vs : List V} {i : Nat} {d : PyData}, DpAll K H vs ds → ds[i]? = some d → ∃ v, vs[i]? = some v ∧ Dp K H v d
  | [], _, i, d, h, e => by simp at e
  | d0 :: ds, _, 0, d, h, e => by
    cases h with
    | cons h1 h2 => simp at e; subst e; exact ⟨_, rfl, h1⟩
  | d0 :: ds, _, i + 1, d, h, e => by
    cases h with
    | cons h1 h2 =>
      obtain ⟨v, e1, h3⟩ := dpAll_get (i := i) h2 (by simpa using e)
      exact ⟨v, by simpa using e1, h3⟩
theorem dpAll_get' {K : PySem.W.Frag} {H : Hp} {ds : List PyData} {vs : List V} {i : Nat} {v : V} (h : DpAll K H vs ds) (e : vs[i]? = some v) : ∃ d, ds[i]? = some d ∧ Dp K H v d := by
  have hi : i < ds.length := by rw [← dpAll_len h]; exact (List.getElem?_eq_some_iff.mp e).1
  obtain ⟨u, e1, h1⟩ := dpAll_get h (List.getElem?_eq_getElem hi)
  rw [e] at e1; cases e1
  exact ⟨_, List.getElem?_eq_getElem hi, h1⟩
theorem dpAll_snoc {K : PySem.W.Frag} {H : Hp} : ∀ {ds : List PyData} {vs : List V} {d : PyData} {v : V}, DpAll K H vs ds → Dp K H v d → DpAll K H (vs ++ [v]) (ds ++ [d])
  | [], _, d, v, h, k => by cases h; exact .cons k .nil
  | d0 :: ds, _, d, v, h, k => by cases h with | cons h1 h2 => exact .cons h1 (dpAll_snoc h2 k)
theorem dpAll_append {K : PySem.W.Frag} {H : Hp} : ∀ {ds es : List PyData} {vs us : List V}, DpAll K H vs ds → DpAll K H us es → DpAll K H (vs ++ us) (ds ++ es)
  | [], _, _, _, h, k => by cases h; exact k
  | d0 :: ds, _, _, _, h, k => by cases h with | cons h1 h2 => exact .cons h1 (dpAll_append h2 k)
theorem dpAll_take {K : PySem.W.Frag} {H : Hp} : ∀ (n : Nat) {ds : List PyData} {vs : List V}, DpAll K H vs ds → DpAll K H (vs.take n) (ds.take n)
  | 0, _, _, _ => by rw [List.take_zero, List.take_zero]; exact .nil
  | n + 1, [], _, h => by cases h; exact .nil
  | n + 1, d :: ds, _, h => by cases h with | cons h1 h2 => exact .cons h1 (dpAll_take n h2)
theorem dpAll_drop {K : PySem.W.Frag} {H : Hp} : ∀ (n : Nat) {ds : List PyData} {vs : List V}, DpAll K H vs ds → DpAll K H (vs.drop n) (ds.drop n)
  | 0, _, _, h => h
  | n + 1, [], _, h => by cases h; exact .nil
  | n + 1, d :: ds, _, h => by cases h with | cons h1 h2 => exact dpAll_drop n h2
section
variable {K : PySem.W.Frag} {Γ : List Slot} {R Ra Rb Rc : Kn} {ta tb te tc : TE} {tt tu : TT} {targ : TA}
theorem ex_is {R' : Kn} (h : EX te Γ R) (e : R = R') : EX te Γ R' := by rw [← e]; exact h
theorem ex_weak {R' : Kn} (h : EX te Γ R) (e : ∀ N v, R.p N v → R'.p N v) : EX te Γ R' := fun F B σ N H Q S k => h F B σ N H Q S fun v N' H' S' x r => k v N' H' S' x (e _ _ r)
theorem ex_var {i : Nat} (h : Γ[i]? = some (.kn R)) : EX (tVar i) Γ R := fun F B σ N H Q S k => by
  obtain ⟨v, e, r⟩ := S.kn h
  exact ⟨v, e, k v N H S (Ex.refl N) r⟩
theorem ex_c {v : V} (h : ∀ N, R.p N v) : EX (tC v) Γ R := fun F B σ N H Q S k => k v N H S (Ex.refl N) (h N)
theorem ex_int {i : Int} : EX (tC (.int i)) Γ (kd K (.int i)) := ex_c fun _ => .int i
theorem ex_bl {b : Bool} : EX (tC (.bl b)) Γ (kd K (.bool b)) := ex_c fun _ => .bl b
theorem ex_str {x : Str} : EX (tC (.str x)) Γ (kd K (.str x)) := ex_c fun _ => .str x
theorem ex_non : EX (tC .non) Γ (kd K .none) := ex_c fun _ => .non
theorem ex_op {r : R2} (ha : EX ta Γ Ra) (hb : EX tb Γ Rb) (ho : OPR r Ra Rb R) : EX (tOp r ta tb) Γ R := fun F B σ N H Q S k =>
  ha F B σ N H _ S fun x N1 H1 S1 e1 r1 => hb F B σ N1 H1 _ S1 fun y N2 H2 S2 e2 r2 => ho F B Γ σ N2 H2 x y Q S2 (Ra.mo _ _ _ e2 r1) r2 fun v N3 H3 S3 e3 r3 => k v N3 H3 S3 ((e1.trans e2).trans e3) r3
theorem opr_I0 {g : Int → Int → V} {a b : Int} {d : PyData} (h : ∀ N, Dp K N (g a b) d) : OPR (rI0 g) (kd K (.int a)) (kd K (.int b)) (kd K d) := fun F B Γ σ N H x y Q S hx hy k => by
  cases hx; cases hy
  exact ⟨a, b, rfl, rfl, k _ N H S (Ex.refl N) (h N)⟩
theorem opr_I {C : Int → Int → Prop} {g : Int → Int → V} {a b : Int} {d : PyData} (hc : C a b) (h : ∀ N, Dp K N (g a b) d) : OPR (rI C g) (kd K (.int a)) (kd K (.int b)) (kd K d) := fun F B Γ σ N H x y Q S hx hy k => by
  cases hx; cases hy
  exact ⟨a, b, rfl, rfl, hc, k _ N H S (Ex.refl N) (h N)⟩
theorem ex_add {a b : Int} (ha : EX ta Γ (kd K (.int a))) (hb : EX tb Γ (kd K (.int b))) : EX (tOp (rI0 fun i j => .int (i + j)) ta tb) Γ (kd K (.int (a + b))) := ex_op ha hb (opr_I0 fun _ => .int _)
theorem ex_sub {a b : Int} (ha : EX ta Γ (kd K (.int a))) (hb : EX tb Γ (kd K (.int b))) : EX (tOp (rI0 fun i j => .int (i - j)) ta tb) Γ (kd K (.int (a - b))) := ex_op ha hb (opr_I0 fun _ => .int _)
theorem ex_mul {C : Int → Int → Prop} {a b : Int} (ha : EX ta Γ (kd K (.int a))) (hb : EX tb Γ (kd K (.int b))) (hc : C a b) : EX (tOp (rI C fun i j => .int (i * j)) ta tb) Γ (kd K (.int (a * b))) := ex_op ha hb (opr_I hc fun _ => .int _)
theorem ex_mod {a b : Int} (ha : EX ta Γ (kd K (.int a))) (hb : EX tb Γ (kd K (.int b))) (hc : 0 < b) : EX (tOp (rI (fun _ j => 0 < j) fun i j => .int (i % j)) ta tb) Γ (kd K (.int (a % b))) := ex_op ha hb (opr_I hc fun _ => .int _)
theorem ex_fdiv {C : Int → Int → Prop} {a b : Int} (ha : EX ta Γ (kd K (.int a))) (hb : EX tb Γ (kd K (.int b))) (hc : C a b) : EX (tOp (rI C fun i j => .int (i / j)) ta tb) Γ (kd K (.int (a / b))) := ex_op ha hb (opr_I hc fun _ => .int _)
theorem ex_lt {a b : Int} (ha : EX ta Γ (kd K (.int a))) (hb : EX tb Γ (kd K (.int b))) : EX (tOp (rI0 fun i j => .bl (decide (i < j))) ta tb) Γ (kd K (.bool (decide (a < b)))) := ex_op ha hb (opr_I0 fun _ => .bl _)
theorem ex_le {a b : Int} (ha : EX ta Γ (kd K (.int a))) (hb : EX tb Γ (kd K (.int b))) : EX (tOp (rI0 fun i j => .bl (decide (i ≤ j))) ta tb) Γ (kd K (.bool (decide (a ≤ b)))) := ex_op ha hb (opr_I0 fun _ => .bl _)
theorem ex_gt {a b : Int} (ha : EX ta Γ (kd K (.int a))) (hb : EX tb Γ (kd K (.int b))) : EX (tOp (rI0 fun i j => .bl (decide (j < i))) ta tb) Γ (kd K (.bool (decide (b < a)))) := ex_op ha hb (opr_I0 fun _ => .bl _)
theorem ex_ge {a b : Int} (ha : EX ta Γ (kd K (.int a))) (hb : EX tb Γ (kd K (.int b))) : EX (tOp (rI0 fun i j => .bl (decide (j ≤ i))) ta tb) Γ (kd K (.bool (decide (b ≤ a)))) := ex_op ha hb (opr_I0 fun _ => .bl _)
/-- == and != of flat things: int, bool, text, None -/
def flatD : PyData → Option V
  | .none => some .non
  | .bool b => some (.bl b)
  | .int i => some (.int i)
  | .str x => some (.str x)
  | _ => none
theorem flatD_eq {d : PyData} {v u : V} {N : Hp} (h : flatD d = some v) (k : Dp K N u d) : u = v := by
  cases k <;> cases h <;> rfl
theorem ex_eqF {d e : PyData} {x y : V} (hd : flatD d = some x) (he : flatD e = some y) (hs : scal x y = true) (ha : EX ta Γ (kd K d)) (hb : EX tb Γ (kd K e)) : EX (tOp rEq ta tb) Γ (kd K (.bool (decide (x = y)))) :=
  ex_op ha hb fun F B Γ σ N H u v Q S hu hv k => by
    rw [flatD_eq hd hu, flatD_eq he hv]
    exact ⟨hs, k _ N H S (Ex.refl N) (.bl _)⟩
theorem ex_neF {d e : PyData} {x y : V} (hd : flatD d = some x) (he : flatD e = some y) (hs : scal x y = true) (ha : EX ta Γ (kd K d)) (hb : EX tb Γ (kd K e)) : EX (tOp rNe ta tb) Γ (kd K (.bool (!decide (x = y)))) :=
  ex_op ha hb fun F B Γ σ N H u v Q S hu hv k => by
    rw [flatD_eq hd hu, flatD_eq he hv]
    exact ⟨hs, k _ N H S (Ex.refl N) (.bl _)⟩
theorem dec_int {a b : Int} : decide (V.int a = V.int b) = decide (a = b) := by
  by_cases h : a = b
  · rw [decide_eq_true h, h]; exact decide_eq_true rfl
  · rw [decide_eq_false h]; exact decide_eq_false fun q => h (V.int.inj q)
theorem dec_str {a b : Str} : decide (V.str a = V.str b) = decide (a = b) := by
  by_cases h : a = b
  · rw [decide_eq_true h, h]; exact decide_eq_true rfl
  · rw [decide_eq_false h]; exact decide_eq_false fun q => h (V.str.inj q)
theorem ex_eqI {a b : Int} (ha : EX ta Γ (kd K (.int a))) (hb : EX tb Γ (kd K (.int b))) : EX (tOp rEq ta tb) Γ (kd K (.bool (decide (a = b)))) := by
  rw [← dec_int]; exact ex_eqF rfl rfl rfl ha hb
theorem ex_neI {a b : Int} (ha : EX ta Γ (kd K (.int a))) (hb : EX tb Γ (kd K (.int b))) : EX (tOp rNe ta tb) Γ (kd K (.bool (!decide (a = b)))) := by
  rw [← dec_int]; exact ex_neF rfl rfl rfl ha hb
theorem ex_eqS {a b : Str} (ha : EX ta Γ (kd K (.str a))) (hb : EX tb Γ (kd K (.str b))) : EX (tOp rEq ta tb) Γ (kd K (.bool (decide (a = b)))) := by
  rw [← dec_str]; exact ex_eqF rfl rfl rfl ha hb
theorem ex_neS {a b : Str} (ha : EX ta Γ (kd K (.str a))) (hb : EX tb Γ (kd K (.str b))) : EX (tOp rNe ta tb) Γ (kd K (.bool (!decide (a = b)))) := by
  rw [← dec_str]; exact ex_neF rfl rfl rfl ha hb
/-- == and != of nested data -/
theorem ex_eqD {d e : PyData} (hd : SeqAt.shaped d = true) (he : SeqAt.shaped e = true) (ha : EX ta Γ (kd K d)) (hb : EX tb Γ (kd K e)) : EX (tOp (rEqD K) ta tb) Γ (kd K (.bool (PyData.eqv d e))) :=
  ex_op ha hb fun F B Γ σ N H u v Q S hu hv k => ⟨d, e, dp_mono S.sub _ _ hu, dp_mono S.sub _ _ hv, hd, he, k _ N H S (Ex.refl N) (.bl _)⟩
theorem ex_neD {d e : PyData} (hd : SeqAt.shaped d = true) (he : SeqAt.shaped e = true) (ha : EX ta Γ (kd K d)) (hb : EX tb Γ (kd K e)) : EX (tOp (rNeD K) ta tb) Γ (kd K (.bool (!PyData.eqv d e))) :=
  ex_op ha hb fun F B Γ σ N H u v Q S hu hv k => ⟨d, e, dp_mono S.sub _ _ hu, dp_mono S.sub _ _ hv, hd, he, k _ N H S (Ex.refl N) (.bl _)⟩
/-- x is None, x is not None -/
theorem ex_isN {d : PyData} (b : Bool) (h : ∀ N v, Dp K N v d → decide (v = V.non) = b) (ha : EX ta Γ (kd K d)) : EX (tIsN ta) Γ (kd K (.bool b)) := fun F B σ N H Q S k =>
  ha F B σ N H _ S fun x N1 H1 S1 e1 r1 => by rw [h N1 x r1]; exact k _ N1 H1 S1 e1 (.bl _)
theorem ex_notN {d : PyData} (b : Bool) (h : ∀ N v, Dp K N v d → decide (v = V.non) = b) (ha : EX ta Γ (kd K d)) : EX (tNotN ta) Γ (kd K (.bool (!b))) := fun F B σ N H Q S k =>
  ha F B σ N H _ S fun x N1 H1 S1 e1 r1 => by rw [h N1 x r1]; exact k _ N1 H1 S1 e1 (.bl _)
/-! ### items -/
theorem atI_dp {N : Hp} {vs : List V} {ds : List PyData} {i : Int} {d : PyData} (h : DpAll K N vs ds) (e : atI ds i = some d) : ∃ v, atI vs i = some v ∧ Dp K N v d := by
  unfold atI at e ⊢
  rw [dpAll_len h]
  cases q : ixN ds.length i with
  | none => rw [q] at e; cases e
  | some j =>
    rw [q] at e
    exact dpAll_get h e
theorem ex_ixT {ds : List PyData} {i : Int} {d : PyData} (ha : EX ta Γ (kd K (.tuple ds))) (hb : EX tb Γ (kd K (.int i))) (h : atI ds i = some d) : EX (tOp (rIxT K) ta tb) Γ (kd K d) :=
  ex_op ha hb fun F B Γ σ N H u v Q S hu hv k => by
    cases hv
    cases hu with
    | tup hs hall =>
      obtain ⟨w, e, r⟩ := atI_dp hall h
      exact ⟨_, _, i, w, rfl, rfl, ex_t S.sub hs, e, k w N H S (Ex.refl N) r⟩
theorem ex_ixL {ds : List PyData} {i : Int} {d : PyData} (ha : EX ta Γ (kd K (.list ds))) (hb : EX tb Γ (kd K (.int i))) (h : atI ds i = some d) : EX (tOp (rIxL K) ta tb) Γ (kd K d) :=
  ex_op ha hb fun F B Γ σ N H u v Q S hu hv k => by
    cases hv
    cases hu with
    | lst hs hall =>
      obtain ⟨w, e, r⟩ := atI_dp hall h
      exact ⟨_, _, i, w, rfl, rfl, ex_l S.sub hs, e, k w N H S (Ex.refl N) r⟩
/-- an item of an owned list -/
theorem ex_ixO {j : Nat} {ds : List PyData} {i : Int} {d : PyData} (ho : Γ[j]? = some (.own (oL K ds))) (hb : EX tb Γ (kd K (.int i))) (h : atI ds i = some d) : EX (tOp (rIxL K) (tVar j) tb) Γ (kd K d) := fun F B σ N H Q S k => by
  obtain ⟨p, u, e, _⟩ := S.own ho
  refine ⟨_, e, hb F B σ N H _ S fun y N2 H2 S2 e2 r2 => ?_⟩
  obtain ⟨p', u', e', _, _, _, hp, vs, rfl, hall⟩ := S2.own ho
  rw [e] at e'; cases e'
  cases r2
  obtain ⟨w, e3, r⟩ := atI_dp hall h
  exact ⟨_, _, i, w, rfl, rfl, SqL.of hp, e3, k w N2 H2 S2 e2 r⟩
/-! ### displays, arguments -/
theorem ea_nil : EA tNil Γ [] := fun F B σ N H Q S k => k [] N H S (Ex.refl N) trivial
theorem ea_cons {Rs : List Kn} (h : EX te Γ R) (hr : EA targ Γ Rs) : EA (tCons te targ) Γ (R :: Rs) := fun F B σ N H Q S k =>
  h F B σ N H _ S fun x N1 H1 S1 e1 r1 => hr F B σ N1 H1 _ S1 fun vs N2 H2 S2 e2 r2 => k (x :: vs) N2 H2 S2 (e1.trans e2) ⟨R.mo _ _ _ e2 r1, r2⟩
theorem ead_nil : EAd K tNil Γ [] := fun F B σ N H Q S k => k [] N H S (Ex.refl N) .nil
theorem ead_cons {d : PyData} {ds : List PyData} (h : EX te Γ (kd K d)) (hr : EAd K targ Γ ds) : EAd K (tCons te targ) Γ (d :: ds) := fun F B σ N H Q S k =>
  h F B σ N H _ S fun x N1 H1 S1 e1 r1 => hr F B σ N1 H1 _ S1 fun vs N2 H2 S2 e2 r2 => k (x :: vs) N2 H2 S2 (e1.trans e2) (.cons (dp_mono e2 _ _ r1) r2)
theorem small {n : Nat} (h : n ≤ 1000) : n ≤ sizeLine := Nat.le_trans h (by decide)
theorem dp_newT {N : Hp} {p : Addr} {vs : List V} {ds : List PyData} (h : DpAll K N vs ds) (hp : N p = none) : Dp K (upd N p (.tup vs)) (.ref p) (.tuple ds) := .tup (SqT.of upd_same) (dpAll_mono (Ex.new hp) _ _ h)
theorem ex_tup {ds : List PyData} (h : EAd K targ Γ ds) (hl : ds.length ≤ 1000 := by first | exact Nat.le_of_ble_eq_true rfl | decide) : EX (tTup targ) Γ (kd K (.tuple ds)) := fun F B σ N H Q S k =>
  h F B σ N H _ S fun vs N1 H1 S1 e1 r1 => ⟨small (by rw [dpAll_len r1]; exact hl), fun p hp => k _ _ _ (S1.new hp) (e1.trans (Ex.new (S1.sub.none hp))) (dp_newT r1 (S1.sub.none hp))⟩
theorem Stt.apart {F : Hp} {B : Addr → Prop} {σ : St} {N H : Hp} (S : Stt F B Γ σ N H) {p : Addr} (hp : H p = none) : ∀ (j : Nat) (γ : Slot) (q : Addr), Γ[j]? = some γ → γ.holds = true → σ[j]? = some (some (.ref q)) → q ≠ p := fun j γ q h1 h2 h3 e => by
  obtain ⟨p', u, O, e1, _, _, _, hu, _⟩ := S.held h1 h2
  rw [h3] at e1
  have : q = p' := V.ref.inj (Option.some.inj (Option.some.inj e1))
  rw [← this, e, hp] at hu; cases hu
theorem exl_lst {ds : List PyData} (h : EAd K targ Γ ds) (hl : ds.length ≤ 1000 := by first | exact Nat.le_of_ble_eq_true rfl | decide) : EXL K (tLst targ) Γ ds := fun F B σ N H Q S k =>
  h F B σ N H _ S fun vs N1 H1 S1 e1 r1 => ⟨small (by rw [dpAll_len r1]; exact hl), fun p hp => k p N1 _ vs (S1.hid hp) e1 upd_same r1 (S1.sub.none hp) (S1.fr.none hp) (fun b => S1.bh p b hp) (S1.apart hp)⟩
/-- a new list that nothing changes any more -/
theorem Stt.freeze {F : Hp} {B : Addr → Prop} {σ : St} {N H : Hp} (S : Stt F B Γ σ N H) {p : Addr} {u : HO} (hp : H p = some u) (n : N p = none) (b : ¬ B p) (d : ∀ (j : Nat) (γ : Slot) (q : Addr), Γ[j]? = some γ → γ.holds = true → σ[j]? = some (some (.ref q)) → q ≠ p) :
    Stt F B Γ σ (upd N p u) H where
  sub := fun a o e => by
    by_cases q : a = p
    · subst q; rw [upd_same] at e; rw [hp, e]
    · rw [upd_ne q] at e; exact S.sub a o e
  fr := S.fr
  bl := fun a ba => by
    rw [upd_ne]
    · exact S.bl a ba
    · rintro rfl; exact b ba
  bh := S.bh
  len := S.len
  ok := fun i γ o hg ho => by
    have q := S.ok i γ o hg ho
    cases γ with
    | un => trivial
    | kn R => obtain ⟨v, e, r⟩ := q; exact ⟨v, e, R.mo _ _ _ (Ex.new n) r⟩
    | own O =>
      obtain ⟨p', u', e, a, b', c, hd, r⟩ := q
      subst e
      exact ⟨p', u', rfl, a, by rw [upd_ne (d i _ p' hg rfl ho)]; exact b', c, hd, O.mo _ _ _ (Ex.new n) r⟩
    | hel O =>
      obtain ⟨p', u', e, a, b', c, hd, r⟩ := q
      subst e
      exact ⟨p', u', rfl, a, by rw [upd_ne (d i _ p' hg rfl ho)]; exact b', c, hd, O.mo _ _ _ (Ex.new n) r⟩
  ap := S.ap
theorem ex_ofL {ds : List PyData} (h : EXL K te Γ ds) : EX te Γ (kd K (.list ds)) := fun F B σ N H Q S k =>
  h F B σ N H _ S fun p N1 H1 vs S1 e1 hp r1 n1 f1 b1 d1 => k _ _ _ (S1.freeze hp n1 b1 d1) (e1.trans (Ex.new n1)) (.lst (SqL.of upd_same) (dpAll_mono (Ex.new n1) _ _ r1))
/-! ### conditions -/
theorem ex_if {b : Bool} (h : ET tt Γ b) (h1 : b = true → EX ta Γ R) (h2 : b = false → EX tb Γ R) : EX (tIf tt ta tb) Γ R := fun F B σ N H Q S k =>
  h F B σ N H _ S fun N1 H1 S1 e1 => by
    cases b with
    | true => exact h1 rfl F B σ N1 H1 Q S1 fun v N2 H2 S2 e2 r2 => k v N2 H2 S2 (e1.trans e2) r2
    | false => exact h2 rfl F B σ N1 H1 Q S1 fun v N2 H2 S2 e2 r2 => k v N2 H2 S2 (e1.trans e2) r2
theorem et_test {b : Bool} (h : EX te Γ (kd K (.bool b))) : ET (tTest te) Γ b := fun F B σ N H Q S k => h F B σ N H _ S fun v N1 H1 S1 e1 r1 => by
  cases r1; exact ⟨b, rfl, k N1 H1 S1 e1⟩
theorem et_B {b : Bool} (h : EX te Γ (kd K (.bool b))) : ET (tB te) Γ b := fun F B σ N H Q S k => h F B σ N H _ S fun v N1 H1 S1 e1 r1 => by
  cases r1; exact ⟨b, rfl, k N1 H1 S1 e1⟩
theorem et_and {a b : Bool} (h1 : ET tt Γ a) (h2 : a = true → ET tu Γ b) : ET (tAnd tt tu) Γ (a && b) := fun F B σ N H Q S k => h1 F B σ N H _ S fun N1 H1 S1 e1 => by
  cases a with
  | true => exact h2 rfl F B σ N1 H1 Q S1 fun N2 H2 S2 e2 => k N2 H2 S2 (e1.trans e2)
  | false => exact k N1 H1 S1 e1
theorem et_or {a b : Bool} (h1 : ET tt Γ a) (h2 : a = false → ET tu Γ b) : ET (tOr tt tu) Γ (a || b) := fun F B σ N H Q S k => h1 F B σ N H _ S fun N1 H1 S1 e1 => by
  cases a with
  | true => exact k N1 H1 S1 e1
  | false => exact h2 rfl F B σ N1 H1 Q S1 fun N2 H2 S2 e2 => k N2 H2 S2 (e1.trans e2)
theorem et_not {a : Bool} (h : ET tt Γ a) : ET (tNot tt) Γ (!a) := fun F B σ N H Q S k => h F B σ N H _ S fun N1 H1 S1 e1 => k N1 H1 S1 e1
theorem et_is {a b : Bool} (h : ET tt Γ a) (e : a = b) : ET tt Γ b := by rw [← e]; exact h
theorem et_yes : ET tYes Γ true := fun F B σ N H Q S k => k N H S (Ex.refl N)
theorem ex_andV {a b : Bool} (h1 : EX ta Γ (kd K (.bool a))) (h2 : a = true → EX tb Γ (kd K (.bool b))) : EX (tAndV ta tb) Γ (kd K (.bool (a && b))) := fun F B σ N H Q S k => h1 F B σ N H _ S fun v N1 H1 S1 e1 r1 => by
  cases r1
  refine ⟨a, rfl, ?_⟩
  cases a with
  | true => exact h2 rfl F B σ N1 H1 Q S1 fun v N2 H2 S2 e2 r2 => k v N2 H2 S2 (e1.trans e2) r2
  | false => exact k _ N1 H1 S1 e1 (.bl _)
theorem ex_orV {a b : Bool} (h1 : EX ta Γ (kd K (.bool a))) (h2 : a = false → EX tb Γ (kd K (.bool b))) : EX (tOrV ta tb) Γ (kd K (.bool (a || b))) := fun F B σ N H Q S k => h1 F B σ N H _ S fun v N1 H1 S1 e1 r1 => by
  cases r1
  refine ⟨a, rfl, ?_⟩
  cases a with
  | true => exact k _ N1 H1 S1 e1 (.bl _)
  | false => exact h2 rfl F B σ N1 H1 Q S1 fun v N2 H2 S2 e2 r2 => k v N2 H2 S2 (e1.trans e2) r2
theorem ex_notV {a : Bool} (h1 : EX ta Γ (kd K (.bool a))) : EX (tNotV ta) Γ (kd K (.bool (!a))) := fun F B σ N H Q S k => h1 F B σ N H _ S fun v N1 H1 S1 e1 r1 => by
  cases r1
  exact ⟨a, rfl, k _ N1 H1 S1 e1 (.bl _)⟩
theorem ex_chain {r r' : R2} {a b : Bool} (ha : EX ta Γ Ra) (hb : EX tb Γ Rb) (h1 : OPR r Ra Rb (kd K (.bool a))) (hc : EX tc Γ Rc) (h2 : a = true → OPR r' Rb Rc (kd K (.bool b))) : EX (tChain r r' ta tb tc) Γ (kd K (.bool (a && b))) := fun F B σ N H Q S k =>
  ha F B σ N H _ S fun x N1 H1 S1 e1 r1 => hb F B σ N1 H1 _ S1 fun y N2 H2 S2 e2 r2 => h1 F B Γ σ N2 H2 x y _ S2 (Ra.mo _ _ _ e2 r1) r2 fun z N3 H3 S3 e3 r3 => by
    cases r3
    refine ⟨a, rfl, ?_⟩
    cases a with
    | true =>
      refine hc F B σ N3 H3 _ S3 fun w N4 H4 S4 e4 r4 => h2 rfl F B Γ σ N4 H4 y w Q S4 (Rb.mo _ _ _ (e3.trans e4) r2) r4 fun v N5 H5 S5 e5 r5 => k v N5 H5 S5 ((((e1.trans e2).trans e3).trans e4).trans e5) r5
    | false => exact k _ N3 H3 S3 ((e1.trans e2).trans e3) (.bl _)
theorem opr_lt {a b : Int} : OPR (rI0 fun i j => .bl (decide (i < j))) (kd K (.int a)) (kd K (.int b)) (kd K (.bool (decide (a < b)))) := opr_I0 fun _ => .bl _
theorem opr_le {a b : Int} : OPR (rI0 fun i j => .bl (decide (i ≤ j))) (kd K (.int a)) (kd K (.int b)) (kd K (.bool (decide (a ≤ b)))) := opr_I0 fun _ => .bl _
theorem ex_neg {a : Int} (h : EX te Γ (kd K (.int a))) : EX (tUn (rU fun i => .int (-i)) te) Γ (kd K (.int (-a))) := fun F B σ N H Q S k => h F B σ N H _ S fun v N1 H1 S1 e1 r1 => by
  cases r1; exact ⟨a, rfl, k _ N1 H1 S1 e1 (.int _)⟩
/-! ### calls of defs that change nothing that stands -/
/-- the promise: with arguments known as args i (pre i), it hands back a value known as res i; new objects, nothing else -/
def spF {ι : Type} (pre : ι → Prop) (args : ι → List Kn) (res : ι → Kn) : Sp := fun vs H Q _ => ∃ (i : ι) (N : Hp), Ex N H ∧ pre i ∧ All2 N (args i) vs ∧
  ∀ v N' H', Ex H H' → Ex N N' → Ex N' H' → (∀ a, H a ≠ none → N a = none → N' a = none) → (res i).p N' v → Q v H'
theorem ex_call {ι : Type} {pre : ι → Prop} {args : ι → List Kn} {res : ι → Kn} {E : XK} (i : ι) (ha : EA targ Γ (args i)) (hp : pre i) : EX (tCall (spF pre args res) [] E targ) Γ (res i) := fun F B σ N H Q S k =>
  ha F B σ N H _ S fun vs N1 H1 S1 e1 r1 => ⟨i, N1, S1.sub, hp, by rw [List.append_nil]; exact r1, fun v N2 H2 a1 a2 a3 a4 r2 => k v N2 H2 (S1.grow a2 a1 a3 a4) (e1.trans a2) r2⟩
/-! ### built-ins -/
theorem ex_cb {r : List V → Hp → VK → Prop} {Rs : List Kn} (ha : EA targ Γ Rs) (h : CAR r Rs R) : EX (tCB r targ) Γ R := fun F B σ N H Q S k =>
  ha F B σ N H _ S fun vs N1 H1 S1 e1 r1 => h F B Γ σ N1 H1 vs Q S1 r1 fun v N2 H2 S2 e2 r2 => k v N2 H2 S2 (e1.trans e2) r2
abbrev rTupOf (K : PySem.W.Frag) : List V → Hp → VK → Prop := fun xs H Q => ∃ p ys, xs = [.ref p] ∧ ((SqL K H p ys ∧ ∀ l, H l = none → Q (.ref l) (upd H l (.tup ys))) ∨ (SqT K H p ys ∧ Q (.ref p) H))
abbrev rLenSeq (K : PySem.W.Frag) : List V → Hp → VK → Prop := fun xs H Q => ∃ p ys, xs = [.ref p] ∧ (SqL K H p ys ∨ SqT K H p ys) ∧ Q (.int ys.length) H
/-- tuple(a new list) -/
theorem ex_tupL {ds : List PyData} (h : EXL K te Γ ds) : EX (tCB (rTupOf K) (tCons te tNil)) Γ (kd K (.tuple ds)) := fun F B σ N H Q S k =>
  h F B σ N H _ S fun p N1 H1 vs S1 e1 hp r1 n1 f1 b1 d1 => ⟨p, vs, rfl, .inl ⟨SqL.of hp, fun l hl => k _ _ _ (S1.new hl) (e1.trans (Ex.new (S1.sub.none hl))) (dp_newT r1 (S1.sub.none hl))⟩⟩
/-- tuple(a list that is known) -/
theorem ex_tupK {ds : List PyData} (h : EX te Γ (kd K (.list ds))) : EX (tCB (rTupOf K) (tCons te tNil)) Γ (kd K (.tuple ds)) := fun F B σ N H Q S k =>
  h F B σ N H _ S fun v N1 H1 S1 e1 r1 => by
    cases r1 with
    | lst hs ha => exact ⟨_, _, rfl, .inl ⟨ex_l S1.sub hs, fun l hl => k _ _ _ (S1.new hl) (e1.trans (Ex.new (S1.sub.none hl))) (dp_newT ha (S1.sub.none hl))⟩⟩
/-- tuple(an owned list) -/
theorem ex_tupO {j : Nat} {ds : List PyData} (h : Γ[j]? = some (.own (oL K ds))) : EX (tCB (rTupOf K) (tCons (tVar j) tNil)) Γ (kd K (.tuple ds)) := fun F B σ N H Q S k => by
  obtain ⟨p, u, e, _, _, _, hp, vs, rfl, r⟩ := S.own h
  exact ⟨_, e, p, vs, rfl, .inl ⟨SqL.of hp, fun l hl => k _ _ _ (S.new hl) (Ex.new (S.sub.none hl)) (dp_newT r (S.sub.none hl))⟩⟩
theorem ex_lenT {ds : List PyData} (h : EX te Γ (kd K (.tuple ds))) : EX (tCB (rLenSeq K) (tCons te tNil)) Γ (kd K (.int (ds.length : Int))) := fun F B σ N H Q S k =>
  h F B σ N H _ S fun v N1 H1 S1 e1 r1 => by
    cases r1 with
    | tup hs ha =>
      refine ⟨_, _, rfl, .inr (ex_t S1.sub hs), k _ N1 H1 S1 e1 ?_⟩
      rw [dpAll_len ha]; exact .int _
theorem ex_lenK {ds : List PyData} (h : EX te Γ (kd K (.list ds))) : EX (tCB (rLenSeq K) (tCons te tNil)) Γ (kd K (.int (ds.length : Int))) := fun F B σ N H Q S k =>
  h F B σ N H _ S fun v N1 H1 S1 e1 r1 => by
    cases r1 with
    | lst hs ha =>
      refine ⟨_, _, rfl, .inl (ex_l S1.sub hs), k _ N1 H1 S1 e1 ?_⟩
      rw [dpAll_len ha]; exact .int _
theorem ex_lenO {j : Nat} {ds : List PyData} (h : Γ[j]? = some (.own (oL K ds))) : EX (tCB (rLenSeq K) (tCons (tVar j) tNil)) Γ (kd K (.int (ds.length : Int))) := fun F B σ N H Q S k => by
  obtain ⟨p, u, e, _, _, _, hp, vs, rfl, r⟩ := S.own h
  refine ⟨_, e, p, vs, rfl, .inl (SqL.of hp), k _ N H S (Ex.refl N) ?_⟩
  rw [dpAll_len r]; exact .int _
end
end Wk
namespace Wk
open PySem L2
/-! ### targets -/
def GX (g : TG) (R : Kn) (Γ Γ' : List Slot) (js : List Nat) : Prop := ∀ F B σ N H v (Q : St → Hp → Prop), Stt F B Γ σ N H → R.p N v → (∀ σ', Stt F B Γ' σ' N H → (∀ vs : List Nat, (∀ j ∈ js, j ∈ vs) → wipe σ' vs = wipe σ vs) → Q σ' H) → g v σ H Q
def GXs (K : PySem.W.Frag) (g : TGs) (ds : List PyData) (Γ Γ' : List Slot) (js : List Nat) : Prop := ∀ F B σ N H vs (Q : St → Hp → Prop), Stt F B Γ σ N H → DpAll K N vs ds → (∀ σ', Stt F B Γ' σ' N H → (∀ vs : List Nat, (∀ j ∈ js, j ∈ vs) → wipe σ' vs = wipe σ vs) → Q σ' H) → g vs σ H Q
theorem wipe_get {σ : St} {i : Nat} : ∀ {vs : List Nat}, i ∉ vs → (wipe σ vs)[i]? = σ[i]?
  | [], _ => rfl
  | v :: vs, h => by
    unfold wipe
    rw [List.getElem?_set_ne (fun e => h (by rw [e]; exact List.mem_cons_self)), wipe_get (fun q => h (List.mem_cons_of_mem _ q))]
theorem wipe_in {σ : St} {i : Nat} : ∀ {vs : List Nat}, i ∈ vs → i < σ.length → (wipe σ vs)[i]? = some none
  | v :: vs, h, hl => by
    unfold wipe
    by_cases e : v = i
    · subst e
      rw [List.getElem?_set_self (by rw [wipe_length]; exact hl)]
    · rw [List.getElem?_set_ne e]
      exact wipe_in ((List.mem_cons.mp h).resolve_left fun q => e q.symm) hl
theorem wipe_eq {σ τ : St} {vs : List Nat} (hl : σ.length = τ.length) (h : ∀ i, i ∉ vs → σ[i]? = τ[i]?) : wipe σ vs = wipe τ vs := by
  apply List.ext_getElem?
  intro i
  by_cases q : i ∈ vs
  · by_cases z : i < σ.length
    · rw [wipe_in q z, wipe_in q (by rw [← hl]; exact z)]
    · rw [List.getElem?_eq_none (by rw [wipe_length]; omega), List.getElem?_eq_none (by rw [wipe_length]; omega)]
  · rw [wipe_get q, wipe_get q, h i q]
theorem wipe_set {σ : St} {j : Nat} {x : Option V} {vs : List Nat} (h : j ∈ vs) : wipe (σ.set j x) vs = wipe σ vs :=
  wipe_eq (by rw [List.length_set]) fun i hi => List.getElem?_set_ne fun e => hi (by rw [← e]; exact h)
theorem wipe_wipe {σ : St} {vs : List Nat} : wipe (wipe σ vs) vs = wipe σ vs := wipe_eq (by rw [wipe_length]) fun i hi => wipe_get hi
section
variable {K : PySem.W.Frag} {Γ Γ' Γ'' : List Slot} {R : Kn} {g : TG} {gs : TGs} {js ks : List Nat}
theorem gx_name {i : Nat} : GX (gName i) R Γ (Γ.set i (.kn R)) [i] := fun F B σ N H v Q S r k => k _ (S.set i r) fun vs h => wipe_set (h i List.mem_cons_self)
theorem gxs_nil : GXs K gNil [] Γ Γ [] := fun F B σ N H vs Q S r k => by
  cases r; exact ⟨rfl, k σ S fun _ _ => rfl⟩
theorem gxs_cons {d : PyData} {ds : List PyData} (h : GX g (kd K d) Γ Γ' js) (hs : GXs K gs ds Γ' Γ'' ks) : GXs K (gCons g gs) (d :: ds) Γ Γ'' (js ++ ks) := fun F B σ N H vs Q S r k => by
  cases r with
  | cons r1 r2 =>
    refine ⟨_, _, rfl, h F B σ N H _ _ S r1 fun σ1 S1 w1 => hs F B σ1 N H _ Q S1 r2 fun σ2 S2 w2 => k σ2 S2 fun vs hv => ?_⟩
    rw [w2 vs fun j hj => hv j (List.mem_append_right _ hj), w1 vs fun j hj => hv j (List.mem_append_left _ hj)]
theorem gx_tup {n : Nat} {ds : List PyData} (h : GXs K gs ds Γ Γ' js) (hn : ds.length = n := by rfl) : GX (gTup K n gs) (kd K (.tuple ds)) Γ Γ' js := fun F B σ N H v Q S r k => by
  cases r with
  | tup hs ha => exact ⟨_, _, rfl, ex_t S.sub hs, by rw [dpAll_len ha]; exact hn, h F B σ N H _ Q S ha k⟩
end
/-! ### sources: n turns, the i-th gives a value known as R i -/
structure Src (J : It) (n : Nat) (N : Hp) (R : Nat → Kn) : Prop where
  go : ∀ i H, i < n → Ex N H → J.go i H
  stop : ∀ H, Ex N H → J.stop n H
  yl : ∀ i H x H', i < n → J.yld i H x H' → ∀ F B Γ σ N1, Ex N N1 → Stt F B Γ σ N1 H → ∃ N2, Stt F B Γ σ N2 H' ∧ Ex N1 N2 ∧ (R i).p N2 x
def IX (wi : TI) (Γ : List Slot) (n : Nat) (R : Nat → Kn) : Prop := ∀ F B σ N H (Q : It → Hp → Prop), Stt F B Γ σ N H → (∀ J N' H', Stt F B Γ σ N' H' → Ex N N' → Src J n N' R → Q J H') → wi σ H Q
section
variable {K : PySem.W.Frag} {Γ : List Slot} {te tf : TE} {targ : TA}
def kdAt (K : PySem.W.Frag) (ds : List PyData) (i : Nat) : Kn := match ds[i]? with
  | some d => kd K d
  | none => kAny
theorem kdAt_of {ds : List PyData} {i : Nat} {d : PyData} (h : ds[i]? = some d) : kdAt K ds i = kd K d := by unfold kdAt; rw [h]
theorem kdAt_in {N : Hp} {vs : List V} {ds : List PyData} {i : Nat} {x : V} (h : DpAll K N vs ds) (e : vs[i]? = some x) : (kdAt K ds i).p N x := by
  obtain ⟨d, e1, h1⟩ := dpAll_get' h e
  rw [kdAt_of e1]; exact h1
theorem iw_tup {ds : List PyData} (h : EX te Γ (kd K (.tuple ds))) : IX (iTup K te) Γ ds.length (kdAt K ds) := fun F B σ N H Q S k =>
  h F B σ N H _ S fun v N1 H1 S1 e1 r1 => by
    cases r1 with
    | @tup a xs _ hs ha =>
      refine ⟨_, rfl, ⟨_, ex_t S1.sub hs⟩, k _ N1 H1 S1 e1 ⟨fun i H2 hi e => ?_, fun H2 e => ⟨_, ex_t e hs, by rw [dpAll_len ha]; exact Nat.le_refl _⟩, fun i H2 x H3 hi y F B Γ σ N2 e2 S2 => ?_⟩⟩
      · have hl : i < xs.length := by rw [dpAll_len ha]; exact hi
        exact ⟨_, _, ex_t e hs, List.getElem?_eq_getElem hl⟩
      · obtain ⟨rfl, y⟩ := y
        exact ⟨N2, S2, Ex.refl _, kdAt_in (dpAll_mono e2 _ _ ha) (y xs (ex_t (e2.trans S2.sub) hs))⟩
theorem iw_listK {ds : List PyData} (h : EX te Γ (kd K (.list ds))) : IX (iList K te) Γ ds.length (kdAt K ds) := fun F B σ N H Q S k =>
  h F B σ N H _ S fun v N1 H1 S1 e1 r1 => by
    cases r1 with
    | @lst a xs _ hs ha =>
      refine ⟨_, rfl, ⟨_, ex_l S1.sub hs⟩, k _ N1 H1 S1 e1 ⟨fun i H2 hi e => ?_, fun H2 e => ⟨_, ex_l e hs, by rw [dpAll_len ha]; exact Nat.le_refl _⟩, fun i H2 x H3 hi y F B Γ σ N2 e2 S2 => ?_⟩⟩
      · have hl : i < xs.length := by rw [dpAll_len ha]; exact hi
        exact ⟨_, _, ex_l e hs, List.getElem?_eq_getElem hl⟩
      · obtain ⟨rfl, y⟩ := y
        exact ⟨N2, S2, Ex.refl _, kdAt_in (dpAll_mono e2 _ _ ha) (y xs (ex_l (e2.trans S2.sub) hs))⟩
theorem iw_list {ds : List PyData} (h : EXL K te Γ ds) : IX (iList K te) Γ ds.length (kdAt K ds) := iw_listK (ex_ofL h)
theorem iw_range {n : Nat} (h : EA targ Γ [kd K (.int (n : Int))]) (hn : n ≤ 1000) : IX (iRng1 targ) Γ n (fun i => kd K (.int (i : Int))) := fun F B σ N H Q S k =>
  h F B σ N H _ S fun vs N1 H1 S1 e1 r1 => by
    match vs, r1 with
    | [v], r1 =>
      have r2 : Dp K N1 v (.int (n : Int)) := r1.1
      cases r2
      refine ⟨(n : Int), rfl, by omega, by omega, k _ N1 H1 S1 e1 ⟨fun i H2 hi e => by show i < (n : Int).toNat; omega, fun H2 e => by show (n : Int).toNat ≤ n; omega, fun i H2 x H3 hi y F B Γ σ N2 e2 S2 => ?_⟩⟩
      obtain ⟨rfl, rfl⟩ := y
      exact ⟨N2, S2, Ex.refl _, by rw [Int.zero_add]; exact .int _⟩
theorem iw_range2 {a b : Int} {n : Nat} (h : EA targ Γ [kd K (.int a), kd K (.int b)]) (hn : (b - a).toNat = n) (ha : -1000 ≤ a ∧ a ≤ 1000 ∧ -1000 ≤ b ∧ b ≤ 1000) : IX (iRng2 targ) Γ n (fun i => kd K (.int (a + (i : Int)))) := fun F B σ N H Q S k =>
  h F B σ N H _ S fun vs N1 H1 S1 e1 r1 => by
    match vs, r1 with
    | [v, u], r1 =>
      have r2 : Dp K N1 v (.int a) := r1.1
      have r3 : Dp K N1 u (.int b) := r1.2.1
      cases r2
      cases r3
      refine ⟨a, b, rfl, by omega, k _ N1 H1 S1 e1 ⟨fun i H2 hi e => by show i < (b - a).toNat; omega, fun H2 e => by show (b - a).toNat ≤ n; omega, fun i H2 x H3 hi y F B Γ σ N2 e2 S2 => ?_⟩⟩
      obtain ⟨rfl, rfl⟩ := y
      exact ⟨N2, S2, Ex.refl _, .int _⟩
/-- zip of two tuples of one length -/
theorem iw_zipT {ds es : List PyData} (h : EAd K targ Γ [.tuple ds, .tuple es]) (hl : ds.length = es.length) : IX (RZ.iZipA K targ) Γ ds.length (fun i => kdAt K ((ds.zip es).map fun p => .tuple [p.1, p.2]) i) := fun F B σ N H Q S k =>
  h F B σ N H _ S fun vs N1 H1 S1 e1 r1 => by
    cases r1 with
    | cons r1 r2 =>
      cases r2 with
      | cons r2 r3 =>
        cases r3
        cases r1 with
        | @tup a xs _ hs ha =>
          cases r2 with
          | @tup b ys _ hs2 ha2 =>
            refine ⟨a, b, xs, ys, rfl, .inr ⟨ex_t S1.sub hs, ex_t S1.sub hs2, k _ N1 H1 S1 e1 ⟨fun i H2 hi e => ?_, fun H2 e => ⟨xs, ys, ex_t e hs, ex_t e hs2, .inl (by rw [dpAll_len ha]; exact Nat.le_refl _)⟩, fun i H2 x H3 hi y F B Γ σ N2 e2 S2 => ?_⟩⟩⟩
            · have l1 : i < xs.length := by rw [dpAll_len ha]; exact hi
              have l2 : i < ys.length := by rw [dpAll_len ha2, ← hl]; exact hi
              exact ⟨xs, ys, _, _, ex_t e hs, ex_t e hs2, List.getElem?_eq_getElem l1, List.getElem?_eq_getElem l2⟩
            · obtain ⟨T, x1, y1, rfl, hT, rfl, h1, h2⟩ := y
              have g1 := h1 xs (ex_t (e2.trans S2.sub) hs)
              have g2 := h2 ys (ex_t (e2.trans S2.sub) hs2)
              obtain ⟨d1, q1, p1⟩ := dpAll_get' (dpAll_mono e2 _ _ ha) g1
              obtain ⟨d2, q2, p2⟩ := dpAll_get' (dpAll_mono e2 _ _ ha2) g2
              have hz : ((ds.zip es).map fun p => PyData.tuple [p.1, p.2])[i]? = some (.tuple [d1, d2]) := by
                rw [List.getElem?_map, List.getElem?_zip_eq_some (z := (d1, d2)) |>.mpr ⟨q1, q2⟩]; rfl
              refine ⟨upd N2 T (.tup [x1, y1]), S2.new hT, Ex.new (S2.sub.none hT), ?_⟩
              rw [kdAt_of hz]
              exact dp_newT (.cons p1 (.cons p2 .nil)) (S2.sub.none hT)
/-- reversed(a tuple) -/
theorem iw_revT {ds : List PyData} (h : EX te Γ (kd K (.tuple ds))) : IX (RT.iRevA K te) Γ ds.length (fun i => kdAt K ds.reverse i) := fun F B σ N H Q S k =>
  h F B σ N H _ S fun v N1 H1 S1 e1 r1 => by
    cases r1 with
    | @tup a xs _ hs ha =>
      refine ⟨a, xs, rfl, .inr ⟨ex_t S1.sub hs, k _ N1 H1 S1 e1 ⟨fun i H2 hi e => ?_, fun H2 e => by show xs.length ≤ ds.length; rw [dpAll_len ha]; exact Nat.le_refl _, fun i H2 x H3 hi y F B Γ σ N2 e2 S2 => ?_⟩⟩⟩
      · have l1 : i < xs.length := by rw [dpAll_len ha]; exact hi
        have l2 : xs.length - 1 - i < xs.length := by omega
        exact ⟨l1, xs, _, ex_t e hs, List.getElem?_eq_getElem l2⟩
      · obtain ⟨rfl, y⟩ := y
        have g := y xs (ex_t (e2.trans S2.sub) hs)
        obtain ⟨d, q, p⟩ := dpAll_get' (dpAll_mono e2 _ _ ha) g
        refine ⟨N2, S2, Ex.refl _, ?_⟩
        have hr : ds.reverse[i]? = some d := by
          rw [List.getElem?_reverse hi, ← q, dpAll_len ha]
        rw [kdAt_of hr]; exact p
end
/-! ### list comprehensions -/
def wipeΓ (Γ : List Slot) : List Nat → List Slot
  | [] => Γ
  | v :: vs => (wipeΓ Γ vs).set v .un
theorem wipeΓ_len {Γ : List Slot} : ∀ {vs : List Nat}, (wipeΓ Γ vs).length = Γ.length
  | [] => rfl
  | v :: vs => by unfold wipeΓ; rw [List.length_set, wipeΓ_len]
theorem wipeΓ_get {Γ : List Slot} {i : Nat} : ∀ {vs : List Nat}, i ∉ vs → (wipeΓ Γ vs)[i]? = Γ[i]?
  | [], _ => rfl
  | v :: vs, h => by
    unfold wipeΓ
    rw [List.getElem?_set_ne (fun e => h (by rw [e]; exact List.mem_cons_self)), wipeΓ_get (fun q => h (List.mem_cons_of_mem _ q))]
theorem wipeΓ_in {Γ : List Slot} {i : Nat} : ∀ {vs : List Nat}, i ∈ vs → i < Γ.length → (wipeΓ Γ vs)[i]? = some .un
  | v :: vs, h, hl => by
    unfold wipeΓ
    by_cases e : v = i
    · subst e
      rw [List.getElem?_set_self (by rw [wipeΓ_len]; exact hl)]
    · rw [List.getElem?_set_ne e]
      exact wipeΓ_in ((List.mem_cons.mp h).resolve_left fun q => e q.symm) hl
section
variable {F : Hp} {B : Addr → Prop} {Γ : List Slot} {σ : St} {N H : Hp}
theorem Stt.wipe (S : Stt F B Γ σ N H) (vs : List Nat) : Stt F B (wipeΓ Γ vs) (L2.wipe σ vs) N H where
  sub := S.sub
  fr := S.fr
  bl := S.bl
  bh := S.bh
  len := by rw [wipeΓ_len, wipe_length]; exact S.len
  ok := fun i γ o hg ho => by
    by_cases q : i ∈ vs
    · rw [wipeΓ_in q (by have := (List.getElem?_eq_some_iff.mp hg).1; rwa [wipeΓ_len] at this)] at hg
      cases hg; trivial
    · rw [wipeΓ_get q] at hg
      rw [wipe_get q] at ho
      exact S.ok i γ o hg ho
  ap := fun i j γ δ p hij hi hj h1 h2 h3 h4 => by
    by_cases qi : i ∈ vs
    · rw [wipeΓ_in qi (by have := (List.getElem?_eq_some_iff.mp hi).1; rwa [wipeΓ_len] at this)] at hi
      cases hi; cases h1
    · by_cases qj : j ∈ vs
      · rw [wipeΓ_in qj (by have := (List.getElem?_eq_some_iff.mp hj).1; rwa [wipeΓ_len] at this)] at hj
        cases hj; cases h2
      · rw [wipeΓ_get qi] at hi
        rw [wipeΓ_get qj] at hj
        rw [wipe_get qi] at h3
        rw [wipe_get qj] at h4
        exact S.ap i j γ δ p hij hi hj h1 h2 h3 h4
/-- an object that is in nobody's slot, known to the frame alone, is written -/
theorem Stt.put {D : Addr} {u u' : HO} (S : Stt (upd F D u) B Γ σ N H) (hB : B D) : Stt (upd F D u') B Γ σ N (upd H D u') where
  sub := fun a o e => by
    rw [upd_ne]
    · exact S.sub a o e
    · rintro rfl; rw [S.bl _ hB] at e; cases e
  fr := fun a o e => by
    by_cases q : a = D
    · subst q; rw [upd_same] at e ⊢; exact e
    · rw [upd_ne q] at e ⊢; exact S.fr a o (by rw [upd_ne q]; exact e)
  bl := S.bl
  bh := fun a ba => by
    by_cases q : a = D
    · subst q; rw [upd_same]; exact Option.some_ne_none _
    · rw [upd_ne q]; exact S.bh a ba
  len := S.len
  ok := fun i γ o hg ho => by
    have q := S.ok i γ o hg ho
    have ne : ∀ p, upd F D u p = none → p ≠ D := fun p e z => by rw [z, upd_same] at e; cases e
    cases γ with
    | un => trivial
    | kn R => exact q
    | own O =>
      obtain ⟨p, w, e, a, b, c, d, r⟩ := q
      have n := ne p a
      rw [upd_ne n] at a
      exact ⟨p, w, e, by rw [upd_ne n]; exact a, b, c, by rw [upd_ne n]; exact d, r⟩
    | hel O =>
      obtain ⟨p, w, e, a, b, c, d, r⟩ := q
      have n := ne p a
      rw [upd_ne n] at a
      exact ⟨p, w, e, by rw [upd_ne n]; exact a, b, c, by rw [upd_ne n]; exact d, r⟩
  ap := S.ap
/-- a new object goes to the frame -/
theorem Stt.take {D : Addr} {u : HO} (S : Stt F B Γ σ N H) (hD : H D = none) : Stt (upd F D u) (fun a => B a ∨ a = D) Γ σ N (upd H D u) where
  sub := S.sub.trans (Ex.new hD)
  fr := fun a o e => by
    by_cases q : a = D
    · subst q; rw [upd_same] at e ⊢; exact e
    · rw [upd_ne q] at e ⊢; exact S.fr a o e
  bl := fun a ba => by
    rcases ba with b | b
    · exact S.bl a b
    · rw [b]; exact S.sub.none hD
  bh := fun a ba => by
    rcases ba with b | b
    · rw [upd_ne]
      · exact S.bh a b
      · rintro rfl; exact S.bh _ b hD
    · rw [b, upd_same]; exact Option.some_ne_none _
  len := S.len
  ok := fun i γ o hg ho => by
    have q := S.ok i γ o hg ho
    have ne : ∀ p w, H p = some w → p ≠ D := fun p w e z => by rw [z, hD] at e; cases e
    cases γ with
    | un => trivial
    | kn R => exact q
    | own O =>
      obtain ⟨p, w, e, a, b, c, d, r⟩ := q
      exact ⟨p, w, e, by rw [upd_ne (ne p w d)]; exact a, b, fun z => z.elim c (ne p w d), by rw [upd_ne (ne p w d)]; exact d, r⟩
    | hel O =>
      obtain ⟨p, w, e, a, b, c, d, r⟩ := q
      exact ⟨p, w, e, by rw [upd_ne (ne p w d)]; exact a, b, .inl c, by rw [upd_ne (ne p w d)]; exact d, r⟩
  ap := S.ap
/-- behind a comprehension: the slots as they were -/
theorem Stt.unwipe {D : Addr} {u : HO} {vs : List Nat} {N' H' : Hp} (S0 : Stt F B Γ σ N H) (hD : H D = none) (e : Ex N N') (S : Stt (upd F D u) (fun a => B a ∨ a = D) (wipeΓ Γ vs) (L2.wipe σ vs) N' H')
    (hv : ∀ i ∈ vs, ∀ γ, Γ[i]? = some γ → γ.holds = false) : Stt F B Γ σ N' H' := by
  have ne : ∀ p, upd F D u p = none → p ≠ D := fun p e z => by rw [z, upd_same] at e; cases e
  refine ⟨S.sub, (Ex.new (S0.fr.none hD)).trans S.fr, fun a b => S.bl a (.inl b), fun a b => S.bh a (.inl b), S0.len, fun i γ o hg ho => ?_, S0.ap⟩
  by_cases q : i ∈ vs
  · have z := S0.ok i γ o hg ho
    have hh := hv i q γ hg
    cases γ with
    | un => trivial
    | kn R => obtain ⟨v, a, r⟩ := z; exact ⟨v, a, R.mo _ _ _ e r⟩
    | own O => cases hh
    | hel O => cases hh
  · have z := S.ok i γ o (by rw [wipeΓ_get q]; exact hg) (by rw [wipe_get q]; exact ho)
    cases γ with
    | un => trivial
    | kn R => exact z
    | own O =>
      obtain ⟨p, w, e, a, b, c, d, r⟩ := z
      exact ⟨p, w, e, by rw [upd_ne (ne p a)] at a; exact a, b, fun y => c (.inl y), d, r⟩
    | hel O =>
      obtain ⟨p, w, e, a, b, c, d, r⟩ := z
      exact ⟨p, w, e, by rw [upd_ne (ne p a)] at a; exact a, b, c.resolve_right (ne p a), d, r⟩
end
/-- what the turns below i give -/
def outs (p : Nat → Bool) (f : Nat → PyData) (i : Nat) : List PyData := ((List.range i).filter p).map f
theorem outs_yes {p : Nat → Bool} {f : Nat → PyData} {i : Nat} (h : p i = true) : outs p f (i + 1) = outs p f i ++ [f i] := by
  unfold outs
  rw [List.range_succ, List.filter_append, List.map_append, List.filter_cons, if_pos h]; rfl
theorem outs_no {p : Nat → Bool} {f : Nat → PyData} {i : Nat} (h : p i = false) : outs p f (i + 1) = outs p f i := by
  unfold outs
  rw [List.range_succ, List.filter_append, List.map_append, List.filter_cons, if_neg (by rw [h]; decide)]
  show _ ++ [] = _
  rw [List.append_nil]
theorem outs_len (p : Nat → Bool) (f : Nat → PyData) (i : Nat) : (outs p f i).length ≤ i := by
  unfold outs
  rw [List.length_map]
  have h := List.length_filter_le p (List.range i)
  rw [List.length_range] at h
  exact h
theorem exl_lc {K : PySem.W.Frag} {Γ : List Slot} {wi : TI} {g : TG} {tt : TT} {te : TE} {vs js : List Nat} {n : Nat} {R : Nat → Kn} (p : Nat → Bool) (f : Nat → PyData) (Γi : Nat → List Slot) (h : IX wi Γ n R) (hn : n ≤ 1000) (hv : ∀ i ∈ vs, ∀ γ, Γ[i]? = some γ → γ.holds = false)
    (hj : ∀ j ∈ js, j ∈ vs) (hw : ∀ i, i < n → wipeΓ (Γi i) vs = wipeΓ Γ vs) (hg : ∀ i, i < n → GX g (R i) (wipeΓ Γ vs) (Γi i) js) (ht : ∀ i, i < n → ET tt (Γi i) (p i)) (he : ∀ i, i < n → p i = true → EX te (Γi i) (kd K (f i))) :
    EXL K (tLc wi g tt te vs) Γ (outs p f n) := fun F B σ N H Q S k =>
  h F B σ N H _ S fun J N1 H1 S1 e1 src D hD => by
    refine ⟨fun i m H => m = n - i ∧ i ≤ n ∧ ∃ N' acc, Ex N1 N' ∧ Stt (upd F D (.lst acc)) (fun a => B a ∨ a = D) (wipeΓ Γ vs) (wipe σ vs) N' H ∧ DpAll K N' acc (outs p f i), ⟨n, by omega, Nat.zero_le _, N1, [], Ex.refl _, (S1.take hD).wipe vs, .nil⟩, ?_⟩
    rintro i m H2 ⟨rfl, hi, N2, acc, e2, S2, r2⟩
    by_cases hlt : i < n
    · refine .inr ⟨src.go i H2 hlt (e2.trans S2.sub), fun H => ∃ N' acc, Ex N1 N' ∧ Stt (upd F D (.lst acc)) (fun a => B a ∨ a = D) (wipeΓ Γ vs) (wipe σ vs) N' H ∧ DpAll K N' acc (outs p f (i + 1)), fun H' q => ⟨n - (i + 1), by omega, rfl, hlt, q⟩, fun x H3 y => ?_⟩
      obtain ⟨N3, S3, e3, r3⟩ := src.yl i H2 x H3 hlt y _ _ _ _ N2 e2 S2
      refine hg i hlt _ _ (wipe σ vs) N3 H3 x _ S3 r3 fun σ4 S4 w4 => ?_
      have w5 : wipe σ4 vs = wipe σ vs := by rw [w4 vs hj, wipe_wipe]
      refine ⟨w5, ht i hlt _ _ σ4 N3 H3 _ S4 fun N5 H5 S5 e5 => ?_⟩
      cases hp : p i with
      | true =>
        refine he i hlt hp _ _ σ4 N5 H5 _ S5 fun v N6 H6 S6 e6 r6 => ?_
        have hacc : H6 D = some (.lst acc) := S6.fr D _ upd_same
        have S7 := (S6.put (u' := .lst (acc ++ [v])) (.inr rfl)).wipe vs
        rw [w5, hw i hlt] at S7
        refine ⟨acc, hacc, ?_, N6, acc ++ [v], ((e2.trans e3).trans e5).trans e6, S7, ?_⟩
        · have l1 := dpAll_len r2
          have l2 := outs_len p f i
          exact Nat.lt_of_lt_of_le (by omega : acc.length < 1001) (by decide)
        · rw [outs_yes hp]
          exact dpAll_snoc (dpAll_mono ((e3.trans e5).trans e6) _ _ r2) r6
      | false =>
        have S7 := S5.wipe vs
        rw [w5, hw i hlt] at S7
        refine ⟨N5, acc, (e2.trans e3).trans e5, S7, ?_⟩
        rw [outs_no hp]
        exact dpAll_mono (e3.trans e5) _ _ r2
    · have e : i = n := by omega
      subst e
      have S3 := S1.unwipe hD e2 S2 hv
      refine .inl ⟨src.stop H2 (e2.trans S2.sub), k D N2 H2 acc S3 (e1.trans e2) (S2.fr D _ upd_same) r2 (S2.bl D (.inr rfl)) (S1.fr.none hD) (fun b => S1.bh D b hD) fun j γ q h1 h2 h3 z => ?_⟩
      exact S1.apart hD j γ q h1 h2 h3 z
end Wk
namespace Wk
open PySem L2
/-! ### joining two known parts -/
def cup (N M : Hp) : Hp := fun a => match N a with
  | some o => some o
  | none => M a
theorem cup_l {N M : Hp} : Ex N (cup N M) := fun a o e => by unfold cup; rw [e]
theorem cup_r {N M H : Hp} (h : Ex N H) (k : Ex M H) : Ex M (cup N M) := fun a o e => by
  unfold cup
  cases q : N a with
  | none => exact e
  | some u =>
    have h1 := h a u q
    rw [k a o e] at h1
    exact h1.symm
theorem cup_sub {N M H : Hp} (h : Ex N H) (k : Ex M H) : Ex (cup N M) H := fun a o e => by
  unfold cup at e
  cases q : N a with
  | none => rw [q] at e; exact k a o e
  | some u => rw [q] at e; rw [h a u q]; exact e
theorem cup_none {N M : Hp} {a : Addr} (h : N a = none) (k : M a = none) : cup N M a = none := by unfold cup; rw [h]; exact k
theorem cup_none' {N M : Hp} {a : Addr} (h : cup N M a = none) : N a = none ∧ M a = none := by
  unfold cup at h
  cases q : N a with
  | none => rw [q] at h; exact ⟨rfl, h⟩
  | some u => rw [q] at h; cases h
section
variable {F F' : Hp} {B : Addr → Prop} {Γ : List Slot} {σ : St} {N M H : Hp}
/-- less is asked to stay -/
theorem Stt.weak (S : Stt F' B Γ σ N H) (e : Ex F F') : Stt F B Γ σ N H where
  sub := S.sub
  fr := e.trans S.fr
  bl := S.bl
  bh := S.bh
  len := S.len
  ok := fun i γ o hg ho => by
    have q := S.ok i γ o hg ho
    cases γ with
    | un => trivial
    | kn R => exact q
    | own O => obtain ⟨p, w, e1, a, r⟩ := q; exact ⟨p, w, e1, e.none a, r⟩
    | hel O => obtain ⟨p, w, e1, a, r⟩ := q; exact ⟨p, w, e1, e.none a, r⟩
  ap := S.ap
/-- what is asked to stay is known -/
theorem Stt.join (S : Stt F B Γ σ N H) (e : Ex M F) (b : ∀ a, B a → M a = none) : Stt F B Γ σ (cup N M) H where
  sub := cup_sub S.sub (e.trans S.fr)
  fr := S.fr
  bl := fun a ba => cup_none (S.bl a ba) (b a ba)
  bh := S.bh
  len := S.len
  ok := fun i γ o hg ho => by
    have q := S.ok i γ o hg ho
    cases γ with
    | un => trivial
    | kn R => obtain ⟨v, a, r⟩ := q; exact ⟨v, a, R.mo _ _ _ cup_l r⟩
    | own O => obtain ⟨p, w, e1, a, n, c, d, r⟩ := q; exact ⟨p, w, e1, a, cup_none n (e.none a), c, d, O.mo _ _ _ cup_l r⟩
    | hel O => obtain ⟨p, w, e1, a, n, c, d, r⟩ := q; exact ⟨p, w, e1, a, cup_none n (e.none a), c, d, O.mo _ _ _ cup_l r⟩
  ap := S.ap
/-- the known part is asked to stay -/
theorem Stt.keep (S : Stt F B Γ σ N H) : Stt (cup F N) B Γ σ N H where
  sub := S.sub
  fr := cup_sub S.fr S.sub
  bl := S.bl
  bh := S.bh
  len := S.len
  ok := fun i γ o hg ho => by
    have q := S.ok i γ o hg ho
    cases γ with
    | un => trivial
    | kn R => exact q
    | own O => obtain ⟨p, w, e1, a, n, r⟩ := q; exact ⟨p, w, e1, cup_none a n, n, r⟩
    | hel O => obtain ⟨p, w, e1, a, n, r⟩ := q; exact ⟨p, w, e1, cup_none a n, n, r⟩
  ap := S.ap
end
/-! ### statements -/
structure Post where
  nx : List Slot → Prop := fun _ => False
  rt : List Slot → Kn
  bk : List Slot → Prop := fun _ => False
  ct : List Slot → Prop := fun _ => False
structure Fits (F : Hp) (B : Addr → Prop) (P : Post) (D : Ends) : Prop where
  nx : ∀ Γ σ N H, P.nx Γ → Stt F B Γ σ N H → D.nx σ H
  rt : ∀ Γ σ N H v, Stt F B Γ σ N H → (P.rt Γ).p N v → D.rt v H
  bk : ∀ Γ σ N H, P.bk Γ → Stt F B Γ σ N H → D.bk σ H
  ct : ∀ Γ σ N H, P.ct Γ → Stt F B Γ σ N H → D.ct σ H
theorem Fits.weak {F F' : Hp} {B : Addr → Prop} {P : Post} {D : Ends} (f : Fits F B P D) (e : Ex F F') : Fits F' B P D :=
  ⟨fun Γ σ N H h S => f.nx Γ σ N H h (S.weak e), fun Γ σ N H v S r => f.rt Γ σ N H v (S.weak e) r, fun Γ σ N H h S => f.bk Γ σ N H h (S.weak e), fun Γ σ N H h S => f.ct Γ σ N H h (S.weak e)⟩
def SX (t : TS) (Γ : List Slot) (P : Post) : Prop := ∀ F B σ N H D, Stt F B Γ σ N H → Fits F B P D → t D σ H
section
variable {K : PySem.W.Frag} {Γ Γ' : List Slot} {P : Post} {t u w : TS} {te ta : TE} {tt : TT} {targ : TA} {R R1 R2 : Kn} {g : TG} {js : List Nat}
theorem sx_seq (M : List Slot → Prop) (h : SX t Γ { P with nx := M }) (k : ∀ Γ', M Γ' → SX u Γ' P) : SX (tSeq t u) Γ P := fun F B σ N H D S f =>
  h F B σ N H { D with nx := u D } S ⟨fun Γ' σ' N' H' m S' => k Γ' m F B σ' N' H' D S' f, f.rt, f.bk, f.ct⟩
theorem sx_nil (h : P.nx Γ) : SX tNext Γ P := fun F B σ N H D S f => f.nx Γ σ N H h S
theorem sx_pass (h : SX u Γ P) : SX (tSeq tNext u) Γ P := h
theorem sx_brk (h : P.bk Γ) : SX tBreak Γ P := fun F B σ N H D S f => f.bk Γ σ N H h S
theorem sx_cnt (h : P.ct Γ) : SX tCont Γ P := fun F B σ N H D S f => f.ct Γ σ N H h S
theorem sx_ret (h : EX te Γ (P.rt Γ)) : SX (tRet te) Γ P := fun F B σ N H D S f => h F B σ N H _ S fun v N1 H1 S1 _ r => f.rt Γ σ N1 H1 v S1 r
theorem sx_retS (h : SX (tRet te) Γ P) : SX (tSeq (tRet te) u) Γ P := fun F B σ N H D S f => h F B σ N H D S f
theorem q_ret (h : EX te Γ (P.rt Γ)) : SX (tSeq (tRet te) u) Γ P := sx_retS (sx_ret h)
theorem sx_retN (h : ∀ N, (P.rt Γ).p N .non) : SX tRetN Γ P := fun F B σ N H D S f => f.rt Γ σ N H _ S (h N)
theorem q_retN (h : ∀ N, (P.rt Γ).p N .non) : SX (tSeq tRetN u) Γ P := fun F B σ N H D S f => f.rt Γ σ N H _ S (h N)
/-- an owned list is handed back -/
theorem sx_retO {j : Nat} {ds : List PyData} (h : Γ[j]? = some (.own (oL K ds))) (e : P.rt (Γ.set j (.kn (kd K (.list ds)))) = kd K (.list ds)) : SX (tRet (tVar j)) Γ P := fun F B σ N H D S f => by
  obtain ⟨p, u, e1, a, b, c, d, vs, rfl, r⟩ := S.own h
  refine ⟨_, e1, ?_⟩
  have hj : j < σ.length := (List.getElem?_eq_some_iff.mp e1).1
  have S1 : Stt F B (Γ.set j (.kn (kd K (.list ds)))) σ (upd N p (.lst vs)) H := by
    have S0 : Stt F B (Γ.set j .un) σ N H := ⟨S.sub, S.fr, S.bl, S.bh, by rw [List.length_set]; exact S.len, fun i γ o hg ho => by
      by_cases q : j = i
      · subst q
        rw [List.getElem?_set_self (by rw [S.len]; exact hj)] at hg
        cases hg; trivial
      · rw [List.getElem?_set_ne q] at hg
        exact S.ok i γ o hg ho, fun x y γ δ p' hxy hx hy h1 h2 h3 h4 => by
      by_cases q : j = x
      · subst q
        rw [List.getElem?_set_self (by rw [S.len]; exact hj)] at hx
        cases hx; cases h1
      · by_cases q2 : j = y
        · subst q2
          rw [List.getElem?_set_self (by rw [S.len]; exact hj)] at hy
          cases hy; cases h2
        · rw [List.getElem?_set_ne q] at hx
          rw [List.getElem?_set_ne q2] at hy
          exact S.ap x y γ δ p' hxy hx hy h1 h2 h3 h4⟩
    have S2 := S0.freeze (u := .lst vs) d b c fun i γ q hg hh ho z => by
      by_cases q2 : j = i
      · subst q2
        rw [List.getElem?_set_self (by rw [S.len]; exact hj)] at hg
        cases hg; cases hh
      · rw [List.getElem?_set_ne q2] at hg
        subst z
        exact S.ap i j γ _ q (fun z => q2 z.symm) hg h hh rfl ho e1
    have S3 := S2.set j (v := .ref p) (R := kd K (.list ds)) (.lst (SqL.of upd_same) (dpAll_mono (Ex.new b) _ _ r))
    rw [List.set_set] at S3
    have eσ : σ.set j (some (.ref p)) = σ := List.ext_getElem? fun i => by
      by_cases q : j = i
      · subst q; rw [List.getElem?_set_self hj, e1]
      · rw [List.getElem?_set_ne q]
    rwa [eσ] at S3
  refine f.rt _ σ _ H _ S1 ?_
  rw [e]
  exact .lst (SqL.of upd_same) (dpAll_mono (Ex.new b) _ _ r)
theorem q_asg (h : EX te Γ R) (hg : GX g R Γ Γ' js) (k : SX u Γ' P) : SX (tSeq (tAsg te g) u) Γ P := fun F B σ N H D S f =>
  h F B σ N H _ S fun v N1 H1 S1 _ r => hg F B σ N1 H1 v _ S1 r fun σ' S2 _ => k F B σ' N1 H1 D S2 f
theorem s_asg (h : EX te Γ R) (hg : GX g R Γ Γ' js) (k : P.nx Γ') : SX (tAsg te g) Γ P := fun F B σ N H D S f =>
  h F B σ N H _ S fun v N1 H1 S1 _ r => hg F B σ N1 H1 v _ S1 r fun σ' S2 _ => f.nx _ σ' N1 H1 k S2
theorem q_set {i : Nat} (h : EX te Γ R) (k : SX u (Γ.set i (.kn R)) P) : SX (tSeq (tAsg te (gName i)) u) Γ P := q_asg h gx_name k
theorem s_set {i : Nat} (h : EX te Γ R) (k : P.nx (Γ.set i (.kn R))) : SX (tAsg te (gName i)) Γ P := s_asg h gx_name k
theorem q_setL {i : Nat} {ds : List PyData} (h : EXL K te Γ ds) (k : SX u (Γ.set i (.own (oL K ds))) P) : SX (tSeq (tAsg te (gName i)) u) Γ P := fun F B σ N H D S f =>
  h F B σ N H _ S fun p N1 H1 vs S1 _ hp r n1 f1 b1 d1 => k F B _ N1 H1 D (S1.setOwn i f1 n1 b1 hp ⟨vs, rfl, r⟩ d1) f
theorem s_setL {i : Nat} {ds : List PyData} (h : EXL K te Γ ds) (k : P.nx (Γ.set i (.own (oL K ds)))) : SX (tAsg te (gName i)) Γ P := fun F B σ N H D S f =>
  h F B σ N H _ S fun p N1 H1 vs S1 _ hp r n1 f1 b1 d1 => f.nx _ _ N1 H1 k (S1.setOwn i f1 n1 b1 hp ⟨vs, rfl, r⟩ d1)
theorem q_par {i j : Nat} (h : EA targ Γ [R1, R2]) (k : SX u ((Γ.set i (.kn R1)).set j (.kn R2)) P) : SX (tSeq (tPar i j targ) u) Γ P := fun F B σ N H D S f =>
  h F B σ N H _ S fun vs N1 H1 S1 _ r => by
    match vs, r with
    | [v, v'], r => exact ⟨v, v', rfl, k F B _ N1 H1 D ((S1.set i r.1).set j r.2.1) f⟩
theorem q_drop (h : EX te Γ R) (k : SX u Γ P) : SX (tSeq (tDrop te) u) Γ P := fun F B σ N H D S f => h F B σ N H _ S fun v N1 H1 S1 _ r => k F B σ N1 H1 D S1 f
theorem s_drop (h : EX te Γ R) (k : P.nx Γ) : SX (tDrop te) Γ P := fun F B σ N H D S f => h F B σ N H _ S fun v N1 H1 S1 _ r => f.nx Γ σ N1 H1 k S1
theorem s_if {b : Bool} (h : ET tt Γ b) (h1 : b = true → SX t Γ P) (h2 : b = false → SX u Γ P) : SX (tIfS tt t u) Γ P := fun F B σ N H D S f =>
  h F B σ N H _ S fun N1 H1 S1 _ => by
    cases b with
    | true => exact h1 rfl F B σ N1 H1 D S1 f
    | false => exact h2 rfl F B σ N1 H1 D S1 f
theorem q_if {b : Bool} (h : ET tt Γ b) (h1 : b = true → SX (tSeq t w) Γ P) (h2 : b = false → SX (tSeq u w) Γ P) : SX (tSeq (tIfS tt t u) w) Γ P := fun F B σ N H D S f =>
  h F B σ N H _ S fun N1 H1 S1 _ => by
    cases b with
    | true => exact h1 rfl F B σ N1 H1 D S1 f
    | false => exact h2 rfl F B σ N1 H1 D S1 f
theorem q_assoc (h : SX (tSeq t (tSeq u w)) Γ P) : SX (tSeq (tSeq t u) w) Γ P := h
/-- an owned object is written -/
theorem Stt.write {F : Hp} {B : Addr → Prop} {σ : St} {N H : Hp} (S : Stt F B Γ σ N H) {j : Nat} {O O' : Oc} {p : Addr} {u : HO} (h : Γ[j]? = some (.own O)) (hp : σ[j]? = some (some (.ref p))) (r : O'.p N u) : Stt F B (Γ.set j (.own O')) σ N (upd H p u) := by
  obtain ⟨p', u', e1, a, b, c, d, _⟩ := S.own h
  rw [hp] at e1; cases e1
  have hj : j < σ.length := (List.getElem?_eq_some_iff.mp hp).1
  have ne : ∀ i γ q, i ≠ j → Γ[i]? = some γ → γ.holds = true → σ[i]? = some (some (.ref q)) → q ≠ p := fun i γ q hij hg hh ho z => by
    subst z; exact S.ap i j γ _ q hij hg h hh rfl ho hp
  refine ⟨fun x o e => ?_, fun x o e => ?_, S.bl, fun x bx => ?_, by rw [List.length_set]; exact S.len, fun i γ o hg ho => ?_, fun x y γ δ q hxy hx hy h1 h2 h3 h4 => ?_⟩
  · rw [upd_ne (ne_of_none e b)]; exact S.sub x o e
  · rw [upd_ne (ne_of_none e a)]; exact S.fr x o e
  · by_cases q : x = p
    · subst q; rw [upd_same]; exact Option.some_ne_none _
    · rw [upd_ne q]; exact S.bh x bx
  · by_cases q : j = i
    · subst q
      rw [List.getElem?_set_self (by rw [S.len]; exact hj)] at hg
      cases hg
      rw [hp] at ho; cases ho
      exact ⟨p, u, rfl, a, b, c, upd_same, r⟩
    · rw [List.getElem?_set_ne q] at hg
      have z := S.ok i γ o hg ho
      cases γ with
      | un => trivial
      | kn R => exact z
      | own O2 =>
        obtain ⟨p2, u2, e2, a2, b2, c2, d2, r2⟩ := z
        subst e2
        exact ⟨p2, u2, rfl, a2, b2, c2, by rw [upd_ne (ne i _ p2 (fun z => q z.symm) hg rfl ho)]; exact d2, r2⟩
      | hel O2 =>
        obtain ⟨p2, u2, e2, a2, b2, c2, d2, r2⟩ := z
        subst e2
        exact ⟨p2, u2, rfl, a2, b2, c2, by rw [upd_ne (ne i _ p2 (fun z => q z.symm) hg rfl ho)]; exact d2, r2⟩
  · by_cases qx : j = x
    · subst qx
      rw [List.getElem?_set_self (by rw [S.len]; exact hj)] at hx
      rw [List.getElem?_set_ne hxy] at hy
      exact S.ap j y _ δ q hxy h hy rfl h2 h3 h4
    · rw [List.getElem?_set_ne qx] at hx
      by_cases qy : j = y
      · subst qy
        exact S.ap x j γ _ q hxy hx h h1 rfl h3 h4
      · rw [List.getElem?_set_ne qy] at hy
        exact S.ap x y γ δ q hxy hx hy h1 h2 h3 h4
abbrev tApp (K : PySem.W.Frag) (j : Nat) (te : TE) : TS := tDrop (tBM K "list" rAppend (tVar j) (tCons te tNil))
theorem x_app {j : Nat} {ds : List PyData} {d : PyData} (hj : Γ[j]? = some (.own (oL K ds))) (h : EX te Γ (kd K d)) (hl : ds.length ≤ 1000) {F : Hp} {B : Addr → Prop} {σ : St} {N H : Hp} {D : Ends} (S : Stt F B Γ σ N H)
    (k : ∀ N' H', Stt F B (Γ.set j (.own (oL K (ds ++ [d])))) σ N' H' → D.nx σ H') : tApp K j te D σ H := by
  obtain ⟨p, u, e1, _, _, _, hp, vs, rfl, _⟩ := S.own hj
  refine ⟨_, e1, .inl ⟨rfl, _, SqL.of hp⟩, h F B σ N H _ S fun v N1 H1 S1 _ r1 => ?_⟩
  obtain ⟨p', u, e2, _, _, _, hp1, vs1, rfl, r2⟩ := S1.own hj
  rw [e1] at e2; cases e2
  refine ⟨p, vs1, v, rfl, rfl, hp1, ?_, k N1 _ (S1.write hj e1 ⟨_, rfl, dpAll_snoc r2 r1⟩)⟩
  rw [dpAll_len r2]
  exact Nat.lt_of_le_of_lt hl (by decide)
theorem q_app {j : Nat} {ds : List PyData} {d : PyData} (hj : Γ[j]? = some (.own (oL K ds))) (h : EX te Γ (kd K d)) (hl : ds.length ≤ 1000) (k : SX u (Γ.set j (.own (oL K (ds ++ [d])))) P) : SX (tSeq (tApp K j te) u) Γ P := fun F B σ N H D S f =>
  x_app (D := { D with nx := u D }) hj h hl S fun N' H' S' => k F B σ N' H' D S' f
theorem s_app {j : Nat} {ds : List PyData} {d : PyData} (hj : Γ[j]? = some (.own (oL K ds))) (h : EX te Γ (kd K d)) (hl : ds.length ≤ 1000) (k : P.nx (Γ.set j (.own (oL K (ds ++ [d]))))) : SX (tApp K j te) Γ P := fun F B σ N H D S f =>
  x_app hj h hl S fun N' H' S' => f.nx _ σ N' H' k S'
/-! ### loops -/
theorem x_for {wi : TI} {n : Nat} {Rs : Nat → Kn} (I : Nat → List Slot → Prop) (h : IX wi Γ n Rs) (h0 : I 0 Γ) (hs : ∀ i Γi, i < n → I i Γi → ∃ Γ' js, GX g (Rs i) Γi Γ' js ∧ SX t Γ' { P with nx := I (i + 1), ct := I (i + 1), bk := P.nx })
    (hd : ∀ Γn, I n Γn → P.nx Γn) : SX (tFor wi g t) Γ P := fun F B σ N H D S f =>
  h F B σ N H _ S fun J N1 H1 S1 e1 src => by
    have S2 := S1.keep
    have f2 : Fits (cup F N1) B P D := f.weak cup_l
    have eN : Ex N1 (cup F N1) := cup_r S1.fr S1.sub
    refine ⟨fun i m σ H => m = n - i ∧ i ≤ n ∧ ∃ Γi N', I i Γi ∧ Stt (cup F N1) B Γi σ N' H, ⟨n, by omega, Nat.zero_le _, Γ, N1, h0, S2⟩, ?_⟩
    rintro i m σ H ⟨rfl, hi, Γi, N', hI, S3⟩
    by_cases hlt : i < n
    · refine .inr ⟨src.go i H hlt (eN.trans S3.fr), fun σ' H' => ∃ Γi N', I (i + 1) Γi ∧ Stt (cup F N1) B Γi σ' N' H', fun σ' H' q => ⟨n - (i + 1), by omega, rfl, hlt, q⟩, fun x H3 y => ?_⟩
      have S4 := S3.join eN S1.bl
      obtain ⟨N5, S5, e5, r5⟩ := src.yl i H x H3 hlt y _ _ _ _ _ (cup_r S3.sub (eN.trans S3.fr)) S4
      obtain ⟨Γ', js, hg, hb⟩ := hs i Γi hlt hI
      refine hg _ _ σ N5 H3 x _ S5 r5 fun σ6 S6 _ => hb _ _ σ6 N5 H3 _ S6 ⟨fun Γ σ N H h S => ⟨Γ, N, h, S⟩, f2.rt, fun Γ σ N H h S => f2.nx Γ σ N H h S, fun Γ σ N H h S => ⟨Γ, N, h, S⟩⟩
    · have e : i = n := by omega
      subst e
      exact .inl ⟨src.stop H (eN.trans S3.fr), f2.nx Γi σ N' H (hd Γi hI) S3⟩
theorem q_for {wi : TI} {n : Nat} {Rs : Nat → Kn} (I : Nat → List Slot → Prop) (h : IX wi Γ n Rs) (h0 : I 0 Γ) (hs : ∀ i Γi, i < n → I i Γi → ∃ Γ' js, GX g (Rs i) Γi Γ' js ∧ SX t Γ' { P with nx := I (i + 1), ct := I (i + 1), bk := I n })
    (hd : ∀ Γn, I n Γn → SX u Γn P) : SX (tSeq (tFor wi g t) u) Γ P := sx_seq (I n) (x_for I h h0 hs fun _ z => z) hd
theorem s_while (I : Nat → List Slot → Prop) (m : Nat) (h0 : I m Γ) (hs : ∀ m Γi, I m Γi → ∃ b, ET tt Γi b ∧ (b = true → SX t Γi { P with nx := fun Γ' => ∃ m', m' < m ∧ I m' Γ', ct := fun Γ' => ∃ m', m' < m ∧ I m' Γ', bk := P.nx }) ∧ (b = false → P.nx Γi)) : SX (tWhile tt t) Γ P := fun F B σ N H D S f => by
  refine ⟨fun m σ H => ∃ Γi N', I m Γi ∧ Stt F B Γi σ N' H, ⟨m, Γ, N, h0, S⟩, ?_⟩
  rintro m σ H ⟨Γi, N', hI, S1⟩
  obtain ⟨b, hb, h1, h2⟩ := hs m Γi hI
  refine hb F B σ N' H _ S1 fun N2 H2 S2 _ => ?_
  cases b with
  | true =>
    show ∃ N : St → Hp → Prop, _
    refine ⟨fun σ' H' => ∃ m', m' < m ∧ ∃ Γi N', I m' Γi ∧ Stt F B Γi σ' N' H', fun σ' H' q => q, ?_⟩
    exact h1 rfl F B σ N2 H2 _ S2 ⟨fun Γ σ N H ⟨m', l, h⟩ S => ⟨m', l, Γ, N, h, S⟩, f.rt, fun Γ σ N H h S => f.nx Γ σ N H h S, fun Γ σ N H ⟨m', l, h⟩ S => ⟨m', l, Γ, N, h, S⟩⟩
  | false => exact f.nx Γi σ N2 H2 (h2 rfl) S2
theorem q_while (I : Nat → List Slot → Prop) (m : Nat) (h0 : I m Γ) (hs : ∀ m Γi, I m Γi → ∃ b, ET tt Γi b ∧ (b = true → SX t Γi { P with nx := fun Γ' => ∃ m', m' < m ∧ I m' Γ', ct := fun Γ' => ∃ m', m' < m ∧ I m' Γ', bk := fun Γ' => SX u Γ' P }) ∧ (b = false → SX u Γi P)) : SX (tSeq (tWhile tt t) u) Γ P :=
  sx_seq (fun Γ' => SX u Γ' P) (s_while I m h0 hs) fun _ z => z
end
/-! ### a def that changes nothing that stands -/
theorem All2.get {N : Hp} : ∀ {Rs : List Kn} {vs : List V} {i : Nat} {R : Kn}, All2 N Rs vs → Rs[i]? = some R → ∃ v, vs[i]? = some v ∧ R.p N v
  | R :: Rs, v :: vs, 0, R', h, e => by simp at e; subst e; exact ⟨v, rfl, h.1⟩
  | R :: Rs, v :: vs, i + 1, R', h, e => by
    obtain ⟨u, e1, r⟩ := All2.get (i := i) h.2 (by simpa using e)
    exact ⟨u, by simpa using e1, r⟩
  | [], _, i, _, _, e => by simp at e
  | _ :: _, [], _, _, h, _ => h.elim
/-- the slots at the entry -/
def startΓ (N : List Str) (Rs : List Kn) : List Slot := Rs.map .kn ++ List.replicate (N.length - Rs.length) .un
theorem stt_start {names : List Str} {Rs : List Kn} {vs : List V} {N H : Hp} (e : Ex N H) (h : All2 N Rs vs) : Stt H (fun a => H a ≠ none ∧ N a = none) (startΓ names Rs) (L2.start names vs) N H where
  sub := e
  fr := Ex.refl H
  bl := fun a b => b.2
  bh := fun a b => b.1
  len := by unfold startΓ L2.start; simp [h.len]
  ok := fun i γ o hg ho => by
    unfold startΓ at hg
    by_cases hi : i < Rs.length
    · rw [List.getElem?_append_left (by simpa using hi), List.getElem?_map, List.getElem?_eq_getElem hi] at hg
      obtain ⟨v, e1, r⟩ := h.get (List.getElem?_eq_getElem hi)
      unfold L2.start at ho
      rw [List.getElem?_append_left (by rw [List.length_map, h.len]; exact hi), List.getElem?_map, e1] at ho
      cases hg
      cases ho
      exact ⟨v, rfl, r⟩
    · rw [List.getElem?_append_right (by simpa using hi)] at hg
      have z := List.getElem?_eq_some_iff.mp hg
      obtain ⟨_, z⟩ := z
      rw [List.getElem_replicate] at z
      subst z; trivial
  ap := fun i j γ δ p hij hi hj h1 h2 h3 h4 => by
    unfold startΓ at hi
    by_cases q : i < Rs.length
    · rw [List.getElem?_append_left (by simpa using q), List.getElem?_map, List.getElem?_eq_getElem q] at hi
      cases hi; cases h1
    · rw [List.getElem?_append_right (by simpa using q)] at hi
      obtain ⟨_, z⟩ := List.getElem?_eq_some_iff.mp hi
      rw [List.getElem_replicate] at z
      subst z; cases h1
theorem body_F {ι : Type} {pre : ι → Prop} {args : ι → List Kn} {res : ι → Kn} {names : List Str} {t : TS} (h : ∀ i, pre i → SX t (startΓ names (args i)) { rt := fun _ => res i, nx := fun _ => ∀ N, (res i).p N .non }) (vs : List V) (H : Hp) (Q : VK) (E : XK) (hs : spF pre args res vs H Q E) :
    t { nx := fun _ H' => Q .non H', rt := Q } (L2.start names vs) H := by
  obtain ⟨i, N, e, hp, ha, k⟩ := hs
  have fin : ∀ Γ σ N' H' v, Stt H (fun a => H a ≠ none ∧ N a = none) Γ σ N' H' → (res i).p N' v → Q v H' := fun Γ σ N' H' v S r =>
    k v (cup N' N) H' S.fr (cup_r S.sub (e.trans S.fr)) (cup_sub S.sub (e.trans S.fr)) (fun a h1 h2 => cup_none (S.bl a ⟨h1, h2⟩) h2) ((res i).mo _ _ _ cup_l r)
  exact h i hp _ _ _ N H _ (stt_start e ha) ⟨fun Γ σ N' H' z S => fin Γ σ N' H' _ S (z N'), fun Γ σ N' H' v S r => fin Γ σ N' H' v S r, fun _ _ _ _ z _ => z.elim, fun _ _ _ _ z _ => z.elim⟩
theorem spF_len {ι : Type} {pre : ι → Prop} {args : ι → List Kn} {res : ι → Kn} {n : Nat} (h : ∀ i, (args i).length = n) (vs : List V) (H : Hp) (Q : VK) (E : XK) (hs : spF pre args res vs H Q E) : vs.length = n := by
  obtain ⟨i, N, e, hp, ha, k⟩ := hs
  rw [ha.len, h i]
end Wk
namespace Wk
open PySem L2
/-! ### the forms of data -/
def encG (x : G) : PyData := .tuple [.int x.a, .int x.b]
def fins {n : Nat} {α : Type} (f : Fin n → α) : List α := (List.finRange n).map f
def encV {n : Nat} (x : Vec n) : PyData := .tuple (fins fun p => encG (x p))
def encM {n : Nat} (M : Fin n → Vec n) : PyData := .tuple (fins fun s => encV (M s))
def encF {n : Nat} (s : Fin n) : PyData := .int (s.val : Int)
def encW {n : Nat} (w : List (Fin n)) : PyData := .tuple (w.map encF)
theorem fins_len {n : Nat} {α : Type} (f : Fin n → α) : (fins f).length = n := by unfold fins; rw [List.length_map, List.length_finRange]
theorem fins_get {n : Nat} {α : Type} (f : Fin n → α) (i : Fin n) : (fins f)[i.val]? = some (f i) := by
  unfold fins
  rw [List.getElem?_map, List.getElem?_eq_getElem (by rw [List.length_finRange]; exact i.isLt), List.getElem_finRange]
  rfl
theorem fins_eq {n : Nat} {α : Type} (f : Fin n → α) (g : Nat → α) (h : ∀ i : Fin n, g i.val = f i) : (List.range n).map g = fins f := by
  apply List.ext_getElem?
  intro i
  by_cases q : i < n
  · rw [fins_get f ⟨i, q⟩, List.getElem?_map, List.getElem?_range q]
    exact congrArg some (h ⟨i, q⟩)
  · rw [List.getElem?_eq_none (by simpa using q), List.getElem?_eq_none (by rw [fins_len]; omega)]
theorem atI_fin {n : Nat} (f : Fin n → PyData) (i : Fin n) : atI (fins f) (i.val : Int) = some (f i) := atI_nat (fins_get f i)
theorem kdAt_fin {K : PySem.W.Frag} {n : Nat} (f : Fin n → PyData) (i : Fin n) : kdAt K (fins f) i.val = kd K (f i) := kdAt_of (fins_get f i)
section
variable {K : PySem.W.Frag} {Γ : List Slot} {R : Kn} {ta tb te tc : TE} {tt : TT} {targ : TA}
theorem ex_ifD {b : Bool} {d1 d2 : PyData} (h : ET tt Γ b) (h1 : b = true → EX ta Γ (kd K d1)) (h2 : b = false → EX tb Γ (kd K d2)) : EX (tIf tt ta tb) Γ (kd K (bif b then d1 else d2)) :=
  ex_if h (fun e => by rw [e]; exact h1 e) (fun e => by rw [e]; exact h2 e)
theorem ex_ixT0 {d : PyData} {ds : List PyData} (ha : EX ta Γ (kd K (.tuple (d :: ds)))) : EX (tOp (rIxT K) ta (tC (.int 0))) Γ (kd K d) := ex_ixT ha ex_int (atI_nat (j := 0) rfl)
theorem ex_ixT1 {d0 d : PyData} {ds : List PyData} (ha : EX ta Γ (kd K (.tuple (d0 :: d :: ds)))) : EX (tOp (rIxT K) ta (tC (.int 1))) Γ (kd K d) := ex_ixT ha ex_int (atI_nat (j := 1) rfl)
theorem ex_ixT2 {d0 d1 d : PyData} {ds : List PyData} (ha : EX ta Γ (kd K (.tuple (d0 :: d1 :: d :: ds)))) : EX (tOp (rIxT K) ta (tC (.int 2))) Γ (kd K d) := ex_ixT ha ex_int (atI_nat (j := 2) rfl)
theorem ex_ixF {n : Nat} {f : Fin n → PyData} {i : Fin n} (ha : EX ta Γ (kd K (.tuple (fins f)))) (hb : EX tb Γ (kd K (.int (i.val : Int)))) : EX (tOp (rIxT K) ta tb) Γ (kd K (f i)) := ex_ixT ha hb (atI_fin f i)
theorem ex_ixFL {n : Nat} {f : Fin n → PyData} {i : Fin n} (ha : EX ta Γ (kd K (.list (fins f)))) (hb : EX tb Γ (kd K (.int (i.val : Int)))) : EX (tOp (rIxL K) ta tb) Γ (kd K (f i)) := ex_ixL ha hb (atI_fin f i)
/-- a pair's parts -/
theorem ex_fst {x : G} (ha : EX ta Γ (kd K (encG x))) : EX (tOp (rIxT K) ta (tC (.int 0))) Γ (kd K (.int x.a)) := ex_ixT0 ha
theorem ex_snd {x : G} (ha : EX ta Γ (kd K (encG x))) : EX (tOp (rIxT K) ta (tC (.int 1))) Γ (kd K (.int x.b)) := ex_ixT1 ha
/-! ### tuples put together, cut, repeated -/
theorem ex_cat {ds es : List PyData} (ha : EX ta Γ (kd K (.tuple ds))) (hb : EX tb Γ (kd K (.tuple es))) (hl : ds.length + es.length ≤ 1000) : EX (tOp (rCatA K) ta tb) Γ (kd K (.tuple (ds ++ es))) :=
  ex_op ha hb fun F B Γ σ N H x y Q S hx hy k => by
    cases hx with
    | @tup a xs _ h1 a1 =>
      cases hy with
      | @tup b ys _ h2 a2 =>
        have l1 := dpAll_len a1
        have l2 := dpAll_len a2
        refine ⟨a, b, xs, ys, rfl, rfl, ex_t S.sub h1, ex_t S.sub h2, small (by omega), fun e => ?_, fun _ e => ?_, fun _ _ p hp => ?_⟩
        · subst e
          have : ds = [] := List.length_eq_zero_iff.mp l1.symm
          subst this
          exact k _ N H S (Ex.refl N) (.tup h2 a2)
        · subst e
          have : es = [] := List.length_eq_zero_iff.mp l2.symm
          subst this
          rw [List.append_nil] at *
          exact k _ N H S (Ex.refl N) (.tup h1 a1)
        · exact k _ _ _ (S.new hp) (Ex.new (S.sub.none hp)) (dp_newT (dpAll_append a1 a2) (S.sub.none hp))
def EO (to : TO) (Γ : List Slot) (o : Option Int) : Prop := ∀ F B σ N H (Q : Option Int → Hp → Prop), Stt F B Γ σ N H → (∀ N' H', Stt F B Γ σ N' H' → Ex N N' → Q o H') → to σ H Q
theorem eo_none : EO tNoPart Γ none := fun F B σ N H Q S k => k N H S (Ex.refl N)
theorem eo_some {i : Int} (h : EX te Γ (kd K (.int i))) : EO (tPart te) Γ (some i) := fun F B σ N H Q S k => h F B σ N H _ S fun v N1 H1 S1 e1 r => by
  cases r; exact ⟨i, rfl, k N1 H1 S1 e1⟩
def cutD (ds : List PyData) (lo hi : Option Int) : List PyData := (ds.drop (HT.sIx ds.length 0 lo)).take (HT.sIx ds.length ds.length hi - HT.sIx ds.length 0 lo)
theorem ex_slT {ds : List PyData} {tl th : TO} {lo hi : Option Int} (ha : EX ta Γ (kd K (.tuple ds))) (hl : EO tl Γ lo) (hh : EO th Γ hi) : EX (tSl (rSlA K) ta tl th) Γ (kd K (.tuple (cutD ds lo hi))) := fun F B σ N H Q S k =>
  ha F B σ N H _ S fun x N1 H1 S1 e1 r1 => hl F B σ N1 H1 _ S1 fun N2 H2 S2 e2 => hh F B σ N2 H2 _ S2 fun N3 H3 S3 e3 => by
    cases r1 with
    | @tup a xs _ h1 a1 =>
      have l1 := dpAll_len a1
      have a3 := dpAll_mono (e2.trans e3) _ _ a1
      refine ⟨a, xs, rfl, ex_t ((e2.trans e3).trans S3.sub) h1, fun e => ?_, fun e p hp => ?_⟩
      · have : cutD ds lo hi = ds := by
          unfold cutD
          rw [l1] at e
          rw [e.1, e.2, List.drop_zero, Nat.sub_zero, List.take_length]
        rw [this]at k
        exact k _ N3 H3 S3 ((e1.trans e2).trans e3) (.tup (ex_t (e2.trans e3) h1) a3)
      · have hc : DpAll K N3 (cutV xs lo hi) (cutD ds lo hi) := by
          unfold cutV cutD
          rw [l1]
          exact dpAll_take _ (dpAll_drop _ a3)
        exact k _ _ _ (S3.new hp) (((e1.trans e2).trans e3).trans (Ex.new (S3.sub.none hp))) (dp_newT hc (S3.sub.none hp))
theorem exl_slL {ds : List PyData} {tl th : TO} {lo hi : Option Int} (ha : EX ta Γ (kd K (.list ds))) (hl : EO tl Γ lo) (hh : EO th Γ hi) : EXL K (tSl (rSlL K) ta tl th) Γ (cutD ds lo hi) := fun F B σ N H Q S k =>
  ha F B σ N H _ S fun x N1 H1 S1 e1 r1 => hl F B σ N1 H1 _ S1 fun N2 H2 S2 e2 => hh F B σ N2 H2 _ S2 fun N3 H3 S3 e3 => by
    cases r1 with
    | @lst a xs _ h1 a1 =>
      have l1 := dpAll_len a1
      have a3 := dpAll_mono (e2.trans e3) _ _ a1
      refine ⟨a, xs, rfl, ex_l ((e2.trans e3).trans S3.sub) h1, fun p hp => ?_⟩
      have hc : DpAll K N3 (cutV xs lo hi) (cutD ds lo hi) := by
        unfold cutV cutD
        rw [l1]
        exact dpAll_take _ (dpAll_drop _ a3)
      exact k p N3 _ _ (S3.hid hp) ((e1.trans e2).trans e3) upd_same hc (S3.sub.none hp) (S3.fr.none hp) (fun b => S3.bh p b hp) (S3.apart hp)
theorem cutD_to {ds : List PyData} {k : Nat} : cutD ds none (some (k : Int)) = ds.take k := by
  unfold cutD
  rw [HT.sIx_none, HT.sIx_nat, List.drop_zero, Nat.sub_zero]
  by_cases h : k ≤ ds.length
  · rw [Nat.min_eq_left h]
  · rw [Nat.min_eq_right (by omega), List.take_length, List.take_of_length_le (by omega)]
theorem cutD_from {ds : List PyData} {k : Nat} : cutD ds (some (k : Int)) none = ds.drop k := by
  unfold cutD
  rw [HT.sIx_none, HT.sIx_nat]
  by_cases h : k ≤ ds.length
  · rw [Nat.min_eq_left h, List.take_of_length_le (by rw [List.length_drop]; omega)]
  · rw [Nat.min_eq_right (by omega), List.drop_length, List.drop_eq_nil_of_le (by omega)]; simp
/-- one thing in a tuple, k times -/
theorem ex_rep {d : PyData} {k : Nat} (ha : EX ta Γ (kd K (.tuple [d]))) (hb : EX tb Γ (kd K (.int (k : Int)))) (h2 : 2 ≤ k) (hk : k ≤ 1000) : EX (tOp (rRepT K) ta tb) Γ (kd K (.tuple (List.replicate k d))) :=
  ex_op ha hb fun F B Γ σ N H x y Q S hx hy c => by
    cases hy
    cases hx with
    | @tup a xs _ h1 a1 =>
      cases a1 with
      | @cons v _ _ _ q1 q2 =>
        cases q2
        refine ⟨a, (k : Int), [v], rfl, rfl, ex_t S.sub h1, by simp, by omega, by omega, by simp, fun p hp => ?_⟩
        have e : (List.replicate (k : Int).toNat [v]).flatten = List.replicate k v := by
          rw [Int.toNat_natCast]
          clear h2 hk hb c
          induction k with
          | zero => rfl
          | succ k ih => rw [List.replicate_succ, List.flatten_cons, ih, List.replicate_succ]; rfl
        rw [e]
        have : DpAll K N (List.replicate k v) (List.replicate k d) := by
          clear h2 hk hb e c
          induction k with
          | zero => exact .nil
          | succ k ih => rw [List.replicate_succ, List.replicate_succ]; exact .cons q1 ih
        exact c _ _ _ (S.new hp) (Ex.new (S.sub.none hp)) (dp_newT this (S.sub.none hp))
/-! ### ints in a row -/
theorem inV_ints {N : Hp} {i : Int} : ∀ {ns : List Int} {vs : List V}, DpAll K N vs (ns.map .int) → inV (.int i) vs = decide (i ∈ ns) ∧ vs.all flatV = true
  | [], _, h => by cases h; exact ⟨by simp [inV], rfl⟩
  | n :: ns, _, h => by
    cases h with
    | cons h1 h2 =>
      cases h1
      obtain ⟨e1, e2⟩ := inV_ints (i := i) h2
      refine ⟨?_, ?_⟩
      · show (eqV (.int n) (.int i) || inV (.int i) _) = _
        rw [e1]
        have : eqV (.int n) (.int i) = decide (n = i) := by unfold eqV; first | rfl | (simp; done)
        rw [this]
        by_cases q : n = i
        · subst q; simp
        · have q2 : ¬ i = n := fun z => q z.symm
          simp [q, q2]
      · show (flatV (.int n) && _) = true
        rw [e2]; rfl
theorem ex_inT {i : Int} {ns : List Int} (ha : EX ta Γ (kd K (.int i))) (hb : EX tb Γ (kd K (.tuple (ns.map .int)))) : EX (tOp (rIn K false) ta tb) Γ (kd K (.bool (decide (i ∈ ns)))) :=
  ex_op ha hb fun F B Γ σ N H x y Q S hx hy c => by
    cases hx
    cases hy with
    | @tup a xs _ h1 a1 =>
      obtain ⟨e1, e2⟩ := inV_ints (i := i) a1
      refine ⟨a, xs, rfl, .inr (ex_t S.sub h1), rfl, e2, ?_⟩
      show Q (.bl (inV (.int i) xs)) H
      rw [e1]; exact c _ N H S (Ex.refl N) (.bl _)
theorem ex_notInT {i : Int} {ns : List Int} (ha : EX ta Γ (kd K (.int i))) (hb : EX tb Γ (kd K (.tuple (ns.map .int)))) : EX (tOp (rIn K true) ta tb) Γ (kd K (.bool (!decide (i ∈ ns)))) :=
  ex_op ha hb fun F B Γ σ N H x y Q S hx hy c => by
    cases hx
    cases hy with
    | @tup a xs _ h1 a1 =>
      obtain ⟨e1, e2⟩ := inV_ints (i := i) a1
      refine ⟨a, xs, rfl, .inr (ex_t S.sub h1), rfl, e2, ?_⟩
      show Q (.bl (!inV (.int i) xs)) H
      rw [e1]; exact c _ N H S (Ex.refl N) (.bl _)
theorem ex_inL {i : Int} {ns : List Int} (ha : EX ta Γ (kd K (.int i))) (hb : EX tb Γ (kd K (.list (ns.map .int)))) : EX (tOp (rIn K false) ta tb) Γ (kd K (.bool (decide (i ∈ ns)))) :=
  ex_op ha hb fun F B Γ σ N H x y Q S hx hy c => by
    cases hx
    cases hy with
    | @lst a xs _ h1 a1 =>
      obtain ⟨e1, e2⟩ := inV_ints (i := i) a1
      refine ⟨a, xs, rfl, .inl (ex_l S.sub h1), rfl, e2, ?_⟩
      show Q (.bl (inV (.int i) xs)) H
      rw [e1]; exact c _ N H S (Ex.refl N) (.bl _)
/-! ### == of data that is ints in tuples, lists -/
mutual
/-- ints, in tuples and lists, so deep at most -/
def iD : Nat → PyData → Bool
  | _, .int _ => true
  | _, .none => true
  | k + 1, .tuple xs => iDs k xs
  | k + 1, .list xs => iDs k xs
  | _, _ => false
def iDs : Nat → List PyData → Bool
  | _, [] => true
  | k, x :: xs => iD k x && iDs k xs
end
mutual
theorem iD_lay : ∀ (k : Nat) (d : PyData), iD k d = true → d.canLay0 = true
  | _, .int _, _ => by simp only [PyData.canLay0]
  | _, .none, _ => by simp only [PyData.canLay0]
  | 0, .tuple _, h => by simp [iD] at h
  | 0, .list _, h => by simp [iD] at h
  | k + 1, .tuple xs, h => by simp only [PyData.canLay0]; exact iDs_lay k xs (by simpa [iD] using h)
  | k + 1, .list xs, h => by simp only [PyData.canLay0]; exact iDs_lay k xs (by simpa [iD] using h)
  | k, .bool _, h => by cases k <;> simp [iD] at h
  | k, .str _, h => by cases k <;> simp [iD] at h
  | k, .dict _, h => by cases k <;> simp [iD] at h
theorem iDs_lay : ∀ (k : Nat) (ds : List PyData), iDs k ds = true → PyData.canLayAll0 ds = true
  | _, [], _ => by simp only [PyData.canLayAll0]
  | k, d :: ds, h => by
    simp only [iDs, Bool.and_eq_true] at h
    simp only [PyData.canLayAll0, Bool.and_eq_true]
    exact ⟨iD_lay k d h.1, iDs_lay k ds h.2⟩
end
mutual
theorem iD_depth : ∀ (k : Nat) (d : PyData), iD k d = true → d.depth ≤ k + 1
  | _, .int _, _ => by simp [PyData.depth]
  | _, .none, _ => by simp [PyData.depth]
  | 0, .tuple _, h => by simp [iD] at h
  | 0, .list _, h => by simp [iD] at h
  | k + 1, .tuple xs, h => by
    have := iDs_depth k xs (by simpa [iD] using h)
    simp [PyData.depth]; omega
  | k + 1, .list xs, h => by
    have := iDs_depth k xs (by simpa [iD] using h)
    simp [PyData.depth]; omega
  | k, .bool _, h => by cases k <;> simp [iD] at h
  | k, .str _, h => by cases k <;> simp [iD] at h
  | k, .dict _, h => by cases k <;> simp [iD] at h
theorem iDs_depth : ∀ (k : Nat) (ds : List PyData), iDs k ds = true → PyData.depthAll ds ≤ k + 1
  | _, [], _ => by simp [PyData.depthAll]
  | k, d :: ds, h => by
    simp only [iDs, Bool.and_eq_true] at h
    have h1 := iD_depth k d h.1
    have h2 := iDs_depth k ds h.2
    simp [PyData.depthAll]; omega
end
theorem shaped_of {k : Nat} {d : PyData} (h : iD k d = true) (hk : k ≤ 60) : SeqAt.shaped d = true := by
  unfold SeqAt.shaped
  rw [iD_lay k d h, decide_eq_true (by have := iD_depth k d h; omega)]
  rfl
mutual
theorem iD_eqv : ∀ (k : Nat) (d e : PyData), iD k d = true → iD k e = true → (PyData.eqv d e = true ↔ d = e)
  | k, .int a, .int b, _, _ => by simp [PyData.eqv]
  | k, .none, .none, _, _ => by simp [PyData.eqv]
  | k, .int a, .none, _, _ => by simp [PyData.eqv]
  | k, .none, .int a, _, _ => by simp [PyData.eqv]
  | k, .int a, .tuple _, _, _ => by simp [PyData.eqv]
  | k, .int a, .list _, _, _ => by simp [PyData.eqv]
  | k, .none, .tuple _, _, _ => by simp [PyData.eqv]
  | k, .none, .list _, _, _ => by simp [PyData.eqv]
  | k, .tuple _, .int _, _, _ => by simp [PyData.eqv]
  | k, .list _, .int _, _, _ => by simp [PyData.eqv]
  | k, .tuple _, .none, _, _ => by simp [PyData.eqv]
  | k, .list _, .none, _, _ => by simp [PyData.eqv]
  | k, .tuple _, .list _, _, _ => by simp [PyData.eqv]
  | k, .list _, .tuple _, _, _ => by simp [PyData.eqv]
  | 0, .tuple _, .tuple _, h, _ => by simp [iD] at h
  | 0, .list _, .list _, h, _ => by simp [iD] at h
  | k + 1, .tuple xs, .tuple ys, h, h' => by
    have := iDs_eqv k xs ys (by simpa [iD] using h) (by simpa [iD] using h')
    simpa [PyData.eqv] using this
  | k + 1, .list xs, .list ys, h, h' => by
    have := iDs_eqv k xs ys (by simpa [iD] using h) (by simpa [iD] using h')
    simpa [PyData.eqv] using this
  | k, .bool _, _, h, _ => by cases k <;> simp [iD] at h
  | k, .str _, _, h, _ => by cases k <;> simp [iD] at h
  | k, .dict _, _, h, _ => by cases k <;> simp [iD] at h
  | k, _, .bool _, _, h => by cases k <;> simp [iD] at h
  | k, _, .str _, _, h => by cases k <;> simp [iD] at h
  | k, _, .dict _, _, h => by cases k <;> simp [iD] at h
theorem iDs_eqv : ∀ (k : Nat) (ds es : List PyData), iDs k ds = true → iDs k es = true → (PyData.eqvAll ds es = true ↔ ds = es)
  | _, [], [], _, _ => by simp [PyData.eqvAll]
  | _, [], _ :: _, _, _ => by simp [PyData.eqvAll]
  | _, _ :: _, [], _, _ => by simp [PyData.eqvAll]
  | k, d :: ds, e :: es, h, h' => by
    simp only [iDs, Bool.and_eq_true] at h h'
    have h1 := iD_eqv k d e h.1 h'.1
    have h2 := iDs_eqv k ds es h.2 h'.2
    simp only [PyData.eqvAll, Bool.and_eq_true, List.cons.injEq]
    rw [h1, h2]
end
theorem iDs_map {α : Type} {k : Nat} {f : α → PyData} (h : ∀ a, iD k (f a) = true) : ∀ l : List α, iDs k (l.map f) = true
  | [] => by simp [iDs]
  | a :: l => by rw [List.map_cons]; simp only [iDs, Bool.and_eq_true]; exact ⟨h a, iDs_map h l⟩
theorem iD_G (k : Nat) (x : G) : iD (k + 1) (encG x) = true := by simp [encG, iD, iDs]
theorem iD_V (k : Nat) {n : Nat} (x : Vec n) : iD (k + 2) (encV x) = true := by
  show iD (k + 2) (.tuple _) = true
  simp only [iD]
  exact iDs_map (fun p => iD_G k _) _
theorem iD_M (k : Nat) {n : Nat} (M : Fin n → Vec n) : iD (k + 3) (encM M) = true := by
  show iD (k + 3) (.tuple _) = true
  simp only [iD]
  exact iDs_map (fun p => iD_V k _) _
theorem iD_W (k : Nat) {n : Nat} (w : List (Fin n)) : iD (k + 1) (encW w) = true := by
  show iD (k + 1) (.tuple _) = true
  simp only [iD]
  exact iDs_map (fun p => by show iD k (.int _) = true; cases k <;> simp [iD]) _
theorem encG_inj {x y : G} (h : encG x = encG y) : x = y := by
  unfold encG at h
  simp only [PyData.tuple.injEq, List.cons.injEq, PyData.int.injEq, and_true] at h
  exact G.ext' h.1 h.2
theorem fins_inj {n : Nat} {α : Type} {f g : Fin n → α} (h : fins f = fins g) : f = g := by
  funext i
  have h1 := fins_get f i
  rw [h, fins_get g i] at h1
  exact (Option.some.inj h1).symm
theorem encV_inj {n : Nat} {x y : Vec n} (h : encV x = encV y) : x = y := by
  funext p
  exact encG_inj (congrFun (fins_inj (PyData.tuple.inj h)) p)
theorem encM_inj {n : Nat} {x y : Fin n → Vec n} (h : encM x = encM y) : x = y := by
  funext p
  exact encV_inj (congrFun (fins_inj (PyData.tuple.inj h)) p)
theorem eqv_G {x y : G} : PyData.eqv (encG x) (encG y) = decide (x = y) := by
  have h := iD_eqv 1 (encG x) (encG y) (iD_G 0 x) (iD_G 0 y)
  cases q : PyData.eqv (encG x) (encG y) with
  | true => exact (decide_eq_true (encG_inj (h.mp q))).symm
  | false => exact (decide_eq_false fun e => by rw [h.mpr (by rw [e])] at q; cases q).symm
end
end Wk
namespace Wk
open PySem L2
theorem zip_fins {n : Nat} (f g : Fin n → PyData) : ((fins f).zip (fins g)).map (fun p => PyData.tuple [p.1, p.2]) = fins fun i => .tuple [f i, g i] := by
  unfold fins
  rw [List.zip_map', List.map_map]; rfl
theorem filter_all {n : Nat} {α : Type} (f : Fin n → α) : ((List.finRange n).filter fun _ => true).map f = fins f := by
  rw [List.filter_eq_self.mpr (fun _ _ => rfl)]; rfl
theorem outs_fin {n : Nat} (p : Fin n → Bool) (f : Fin n → PyData) (p' : Nat → Bool) (f' : Nat → PyData) (hp : ∀ i : Fin n, p' i.val = p i) (hf : ∀ i : Fin n, f' i.val = f i) : outs p' f' n = ((List.finRange n).filter p).map f := by
  unfold outs
  have e : List.range n = (List.finRange n).map Fin.val := by
    apply List.ext_getElem?
    intro i
    by_cases q : i < n
    · rw [List.getElem?_range q, List.getElem?_map, List.getElem?_eq_getElem (by rw [List.length_finRange]; exact q), List.getElem_finRange]; rfl
    · rw [List.getElem?_eq_none (by simpa using q), List.getElem?_eq_none (by simpa using q)]
  rw [e, List.filter_map, List.map_map]
  have e1 : (p' ∘ Fin.val : Fin n → Bool) = p := funext hp
  have e2 : (f' ∘ Fin.val : Fin n → PyData) = f := funext hf
  rw [e1, e2]
section
variable {K : PySem.W.Frag} {Γ : List Slot}
theorem exl_lcF {n : Nat} {R : Nat → Kn} {wi : TI} {g : TG} {tt : TT} {te : TE} {vs js : List Nat} {src : Fin n → Kn} {p : Fin n → Bool} {f : Fin n → PyData} {Γi : Fin n → List Slot} (h : IX wi Γ n R) (hR : ∀ i : Fin n, R i.val = src i) (hg : ∀ i, GX g (src i) (wipeΓ Γ vs) (Γi i) js)
    (ht : ∀ i, ET tt (Γi i) (p i)) (he : ∀ i, p i = true → EX te (Γi i) (kd K (f i))) (hn : n ≤ 1000) (hv : ∀ i ∈ vs, ∀ γ, Γ[i]? = some γ → γ.holds = false) (hj : ∀ j ∈ js, j ∈ vs) (hw : ∀ i, wipeΓ (Γi i) vs = wipeΓ Γ vs) :
    EXL K (tLc wi g tt te vs) Γ (((List.finRange n).filter p).map f) := by
  rw [← outs_fin p f (fun i => if h : i < n then p ⟨i, h⟩ else false) (fun i => if h : i < n then f ⟨i, h⟩ else .none) (fun i => by simp [i.isLt]) (fun i => by simp [i.isLt])]
  refine exl_lc _ _ (fun i => if h : i < n then Γi ⟨i, h⟩ else Γ) h hn hv hj (fun i hi => ?_) (fun i hi => ?_) (fun i hi => ?_) (fun i hi hp => ?_)
  · rw [dif_pos hi]; exact hw _
  · rw [dif_pos hi, show R i = src ⟨i, hi⟩ from hR ⟨i, hi⟩]; exact hg _
  · rw [dif_pos hi, dif_pos hi]; exact ht _
  · rw [dif_pos hi] at hp ⊢
    rw [dif_pos hi]; exact he _ hp
/-- without a test -/
theorem exl_lcA {n : Nat} {R : Nat → Kn} {wi : TI} {g : TG} {te : TE} {vs js : List Nat} {src : Fin n → Kn} {f : Fin n → PyData} {Γi : Fin n → List Slot} (h : IX wi Γ n R) (hR : ∀ i : Fin n, R i.val = src i) (hg : ∀ i, GX g (src i) (wipeΓ Γ vs) (Γi i) js)
    (he : ∀ i, EX te (Γi i) (kd K (f i))) (hn : n ≤ 1000) (hv : ∀ i ∈ vs, ∀ γ, Γ[i]? = some γ → γ.holds = false) (hj : ∀ j ∈ js, j ∈ vs) (hw : ∀ i, wipeΓ (Γi i) vs = wipeΓ Γ vs) :
    EXL K (tLc wi g tYes te vs) Γ (fins f) := by
  rw [← filter_all]
  exact exl_lcF h hR hg (fun _ => et_yes) (fun i _ => he i) hn hv hj hw
theorem ex_ifI {tt : TT} {ta tb : TE} {b : Bool} {i j : Int} (h : ET tt Γ b) (h1 : b = true → EX ta Γ (kd K (.int i))) (h2 : b = false → EX tb Γ (kd K (.int j))) : EX (tIf tt ta tb) Γ (kd K (.int (bif b then i else j))) :=
  ex_if h (fun e => by rw [e]; exact h1 e) (fun e => by rw [e]; exact h2 e)
theorem ex_mulA {ta tb : TE} {a b : Int} (ha : EX ta Γ (kd K (.int a))) (hb : EX tb Γ (kd K (.int b))) (hc : CMul a b := by first | assumption | exact Or.inl ⟨by omega, by omega⟩ | exact Or.inr ⟨by omega, by omega⟩) : EX (tOp (rI CMul fun i j => .int (i * j)) ta tb) Γ (kd K (.int (a * b))) := ex_mul ha hb hc
theorem kd_V {n : Nat} {f : Fin n → PyData} {x : Vec n} (h : ∀ i, f i = encG (x i)) : kd K (.tuple (fins f)) = kd K (encV x) := congrArg (fun f => kd K (.tuple (fins f))) (funext h)
theorem kd_M {n : Nat} {f : Fin n → PyData} {x : Fin n → Vec n} (h : ∀ i, f i = encV (x i)) : kd K (.tuple (fins f)) = kd K (encM x) := congrArg (fun f => kd K (.tuple (fins f))) (funext h)
theorem G_of {a b : Int} {x : G} (h1 : a = x.a) (h2 : b = x.b) : PyData.tuple [.int a, .int b] = encG x := by rw [h1, h2]; rfl
end
/-- lists without owned objects -/
theorem no_holds {Γ : List Slot} {vs : List Nat} (h : (vs.all fun i => match Γ[i]? with | some γ => !γ.holds | none => true) = true) : ∀ i ∈ vs, ∀ γ, Γ[i]? = some γ → γ.holds = false := fun i hi γ e => by
  have := List.all_eq_true.mp h i hi
  rw [e] at this
  simpa using this
section
variable {K : PySem.W.Frag} {Γ : List Slot} {te ta tb : TE} {targ : TA}
theorem iw_tupF {n : Nat} {f : Fin n → PyData} (h : EX te Γ (kd K (.tuple (fins f)))) : IX (iTup K te) Γ n (kdAt K (fins f)) := by
  have := iw_tup h
  rwa [fins_len] at this
theorem iw_listF {n : Nat} {f : Fin n → PyData} (h : EX te Γ (kd K (.list (fins f)))) : IX (iList K te) Γ n (kdAt K (fins f)) := by
  have := iw_listK h
  rwa [fins_len] at this
theorem IX.imp {wi : TI} {n : Nat} {R R' : Nat → Kn} (h : IX wi Γ n R) (e : ∀ i, i < n → R i = R' i) : IX wi Γ n R' := fun F B σ N H Q S k =>
  h F B σ N H Q S fun J N1 H1 S1 e1 src => k J N1 H1 S1 e1 ⟨src.go, src.stop, fun i H2 x H3 hi y F B Γ σ N2 e2 S2 => by
    rw [← e i hi]; exact src.yl i H2 x H3 hi y F B Γ σ N2 e2 S2⟩
theorem iw_rangeF {n : Nat} (h : EA targ Γ [kd K (.int (n : Int))]) (hn : n ≤ 1000 := by omega) : IX (iRng1 targ) Γ n (kdAt K (fins fun i : Fin n => encF i)) :=
  (iw_range h hn).imp fun i hi => (kdAt_fin (fun i : Fin n => encF i) ⟨i, hi⟩).symm
theorem iw_zipF {n : Nat} {f g : Fin n → PyData} (ha : EX ta Γ (kd K (.tuple (fins f)))) (hb : EX tb Γ (kd K (.tuple (fins g)))) : IX (RZ.iZipA K (tCons ta (tCons tb tNil))) Γ n (kdAt K (fins fun i => .tuple [f i, g i])) := by
  have := iw_zipT (ead_cons ha (ead_cons hb ead_nil)) (by rw [fins_len, fins_len])
  rw [fins_len] at this
  refine this.imp fun i _ => ?_
  rw [zip_fins]
/-- a comprehension over what stands by buttons -/
theorem exl_lcB {n : Nat} {wi : TI} {g : TG} {te : TE} {vs js : List Nat} {src f : Fin n → PyData} {Γi : Fin n → List Slot} (h : IX wi Γ n (kdAt K (fins src))) (hg : ∀ i, GX g (kd K (src i)) (wipeΓ Γ vs) (Γi i) js)
    (he : ∀ i, EX te (Γi i) (kd K (f i))) (hn : n ≤ 1000 := by omega) (hv : ∀ i ∈ vs, ∀ γ, Γ[i]? = some γ → γ.holds = false := by exact no_holds (by kernel_rfl)) (hj : ∀ j ∈ js, j ∈ vs := by decide) (hw : ∀ i, wipeΓ (Γi i) vs = wipeΓ Γ vs := by intro _; kernel_rfl) :
    EXL K (tLc wi g tYes te vs) Γ (fins f) := exl_lcA h (kdAt_fin _) hg he hn hv hj hw
theorem exl_lcT {n : Nat} {wi : TI} {g : TG} {tt : TT} {te : TE} {vs js : List Nat} {src f : Fin n → PyData} {p : Fin n → Bool} {Γi : Fin n → List Slot} (h : IX wi Γ n (kdAt K (fins src))) (hg : ∀ i, GX g (kd K (src i)) (wipeΓ Γ vs) (Γi i) js)
    (ht : ∀ i, ET tt (Γi i) (p i)) (he : ∀ i, p i = true → EX te (Γi i) (kd K (f i))) (hn : n ≤ 1000 := by omega) (hv : ∀ i ∈ vs, ∀ γ, Γ[i]? = some γ → γ.holds = false := by exact no_holds (by kernel_rfl)) (hj : ∀ j ∈ js, j ∈ vs := by decide) (hw : ∀ i, wipeΓ (Γi i) vs = wipeΓ Γ vs := by intro _; kernel_rfl) :
    EXL K (tLc wi g tt te vs) Γ (((List.finRange n).filter p).map f) := exl_lcF h (kdAt_fin _) hg ht he hn hv hj hw
end
/-- a promise: with arguments known as args i (pre i) it hands back what is known as res i; nothing that stands changes -/
structure Pm where
  ι : Type
  pre : ι → Prop
  args : ι → List Kn
  res : ι → Kn
def Pm.sp (p : Pm) : Sp := spF p.pre p.args p.res
def Pm.body (p : Pm) (names : List Str) (t : TS) : Prop := ∀ i, p.pre i → SX t (startΓ names (p.args i)) { rt := fun _ => p.res i, nx := fun _ => ∀ N, (p.res i).p N .non }
theorem Pm.go {p : Pm} {names : List Str} {t : TS} (h : p.body names t) (vs : List V) (H : Hp) (Q : VK) (E : XK) (hs : p.sp vs H Q E) : t { nx := fun _ H' => Q .non H', rt := Q } (L2.start names vs) H := body_F h vs H Q E hs
theorem Pm.len {p : Pm} {n : Nat} (h : ∀ i, (p.args i).length = n) (vs : List V) (H : Hp) (Q : VK) (E : XK) (hs : p.sp vs H Q E) : vs.length = n := spF_len h vs H Q E hs
theorem ex_pm {Γ : List Slot} {targ : TA} {E : XK} (p : Pm) (i : p.ι) (ha : EA targ Γ (p.args i)) (hp : p.pre i) : EX (tCall p.sp [] E targ) Γ (p.res i) := ex_call i ha hp
end Wk
namespace Wk
open PySem L2
/-- a def of the text -/
abbrev FnP (K : PySem.W.Frag) (x qual : Str) (st : Stmt) (f : Addr) (fd : FuncData) : Prop := FunD K x qual (defArgs st) (defBody st) (defScope st) [] [] f fd
def vNOUGHT (K : PySem.W.Frag) : V := .ref (He.ga K "NOUGHT")
def vTIES (K : PySem.W.Frag) : V := .ref (He.ga K "TIES")
def vLOW (K : PySem.W.Frag) : V := .ref (He.ga K "LOW")
def vHIGH (K : PySem.W.Frag) : V := .ref (He.ga K "HIGH")
def vMOST_WORD (K : PySem.W.Frag) : V := .int 60
def vMOST_BUTTONS (K : PySem.W.Frag) : V := .int 6
/-- the weight of a tie, below and above -/
def lowG : Nat → G
  | 0 => ⟨-2, 0⟩
  | 2 => 0
  | 5 => ⟨0, -1⟩
  | _ => ⟨-1, 0⟩
def highG : Nat → G
  | 0 => ⟨-2, 0⟩
  | 2 => 0
  | 3 => ⟨-1, 0⟩
  | 4 => ⟨-2, 0⟩
  | 5 => ⟨0, -1⟩
  | _ => ⟨-3, 0⟩
/-! ### a dict of the module, int keys -/
def keysInt (l : List DictEntry) : Bool := l.all fun e => match e.key with
  | .int k _ => decide (e.hash = hashInt k)
  | _ => false
def KDctI (K : PySem.W.Frag) (a : Addr) (i : Int) (v : V) : Prop :=
  ∃ es n u, K.lookup a = some ⟨.type "dict", none, .dict es n, #[]⟩ ∧ keysInt es.toList = true ∧ findBy Value.isInt es i = some u ∧ RelV v u
def rIxDI (K : PySem.W.Frag) : R2 := fun x y H Q => ∃ p i v, x = .ref p ∧ y = .int i ∧ KDctI K p i v ∧ Q v H
theorem ix_kdictI {X : Cx} : IxR X (rIxDI X.K) := by
  intro value slice pins s σ H x y v u Q I rx ry h hs
  obtain ⟨p, i, r, rfl, rfl, ⟨es, n, u0, hl, hk, e, ru⟩, q⟩ := h
  obtain rfl : v = Value.ref p := rx
  obtain ⟨t, rfl⟩ := ry
  have hko : KeysOf (intKind X.prog X.w) es := fun e he => by
    have := List.all_eq_true.mp hk e (Array.mem_toList_iff.mpr he)
    cases q : e.key with
    | int k t =>
      rw [q] at this
      exact ⟨k, by show (k == k) = true; simp, of_decide_eq_true this⟩
    | _ => rw [q] at this; cases this
  have hm : s.heap.MapOf (intKind X.prog X.w) p (fun k => findBy Value.isInt es k) := ⟨_, es, n, I.kIn _ _ hl, ⟨rfl, rfl, rfl⟩, rfl, hko, fun _ => rfl⟩
  exact PyProof.Rows.tail_any hm.typeIs slot_dict_getitem.lookup (wpAny_getItem_of (show (intKind X.prog X.w).is i (.int i t) = true by show (i == i) = true; simp) hm e ⟨r, H, I.tok _, ru, q⟩) hs
/-- .. whose values are pairs -/
def KPair (K : PySem.W.Frag) (a : Addr) (m : Nat) (x : G) : Prop := ∃ p, KDctI K a (m : Int) (.ref p) ∧ ∀ H, SqT K H p [.int x.a, .int x.b]
/-- what the top has left -/
structure Tx (K : PySem.W.Frag) (mg : Str → Option Value) : Prop where
  len_ : mg "len" = none
  tuple_ : mg "tuple" = none
  range_ : mg "range" = none
  zip_ : mg "zip" = none
  enumerate_ : mg "enumerate" = none
  reversed_ : mg "reversed" = none
  isinstance_ : mg "isinstance" = none
  int_ : mg "int" = none
  bool_ : mg "bool" = none
  str_ : mg "str" = none
  abs_ : mg "abs" = none
  max_ : mg "max" = none
  min_ : mg "min" = none
  sorted_ : mg "sorted" = none
  divmod_ : mg "divmod" = none
  cTable : ∃ u, mg "Table" = some u ∧ RelV (.ref (He.ga K "Table")) u
  isTable : C8.InsC K (He.ga K "Table")
  t_ties : NoAttr K (He.ga K "Table") "ties"
  t_size : NoAttr K (He.ga K "Table") "size"
  t_pairs : NoAttr K (He.ga K "Table") "pairs"
  t_pieces : NoAttr K (He.ga K "Table") "pieces"
  cChange : ∃ u, mg "Change" = some u ∧ RelV (.ref (He.ga K "Change")) u
  isChange : C8.InsC K (He.ga K "Change")
  t_table : NoAttr K (He.ga K "Change") "table"
  t_ahead : NoAttr K (He.ga K "Change") "_ahead"
  t_back : NoAttr K (He.ga K "Change") "_back"
  cTIES : ∃ u, mg "TIES" = some u ∧ RelV (vTIES K) u
  ties : ∀ H, SqT K H (He.ga K "TIES") [.int 0, .int 2, .int 3, .int 4, .int 5, .int 6]
  cMOST_WORD : ∃ u, mg "MOST_WORD" = some u ∧ RelV (vMOST_WORD K) u
  cMOST_BUTTONS : ∃ u, mg "MOST_BUTTONS" = some u ∧ RelV (vMOST_BUTTONS K) u
  cLOW : ∃ u, mg "LOW" = some u ∧ RelV (vLOW K) u
  cHIGH : ∃ u, mg "HIGH" = some u ∧ RelV (vHIGH K) u
  low : ∀ m, m = 0 ∨ m = 2 ∨ m = 3 ∨ m = 4 ∨ m = 5 → KPair K (He.ga K "LOW") m (lowG m)
  high : ∀ m, m = 0 ∨ m = 2 ∨ m = 3 ∨ m = 4 ∨ m = 5 → KPair K (He.ga K "HIGH") m (highG m)
  cNOUGHT : ∃ u, mg "NOUGHT" = some u ∧ RelV (vNOUGHT K) u
  nought : ∀ H, SqT K H (He.ga K "NOUGHT") [.int 0, .int 0]
section
variable {K : PySem.W.Frag} {mg : Str → Option Value} {Γ : List Slot}
theorem ex_NOUGHT (T : Tx K mg) : EX (tC (vNOUGHT K)) Γ (kd K (encG 0)) := ex_c fun N => .tup (T.nought N) (.cons (.int 0) (.cons (.int 0) .nil))
end
section
variable {K : PySem.W.Frag} {mg : Str → Option Value} {Γ : List Slot} {tb : TE}
theorem ex_LOW (T : Tx K mg) {m : Nat} (hm : m = 0 ∨ m = 2 ∨ m = 3 ∨ m = 4 ∨ m = 5) (h : EX tb Γ (kd K (.int (m : Int)))) : EX (tOp (rIxDI K) (tC (vLOW K)) tb) Γ (kd K (encG (lowG m))) := fun F B σ N H Q S k =>
  h F B σ N H _ S fun v N1 H1 S1 e1 r1 => by
    cases r1
    obtain ⟨p, h1, h2⟩ := T.low m hm
    exact ⟨_, _, _, rfl, rfl, h1, k _ N1 H1 S1 e1 (.tup (h2 N1) (.cons (.int _) (.cons (.int _) .nil)))⟩
theorem ex_HIGH (T : Tx K mg) {m : Nat} (hm : m = 0 ∨ m = 2 ∨ m = 3 ∨ m = 4 ∨ m = 5) (h : EX tb Γ (kd K (.int (m : Int)))) : EX (tOp (rIxDI K) (tC (vHIGH K)) tb) Γ (kd K (encG (highG m))) := fun F B σ N H Q S k =>
  h F B σ N H _ S fun v N1 H1 S1 e1 r1 => by
    cases r1
    obtain ⟨p, h1, h2⟩ := T.high m hm
    exact ⟨_, _, _, rfl, rfl, h1, k _ N1 H1 S1 e1 (.tup (h2 N1) (.cons (.int _) (.cons (.int _) .nil)))⟩
theorem ex_TIES (T : Tx K mg) : EX (tC (vTIES K)) Γ (kd K (.tuple (([0, 2, 3, 4, 5, 6] : List Int).map .int))) := ex_c fun N => .tup (T.ties N) (.cons (.int _) (.cons (.int _) (.cons (.int _) (.cons (.int _) (.cons (.int _) (.cons (.int _) .nil))))))
theorem ex_MOST_WORD (T : Tx K mg) : EX (tC (vMOST_WORD K)) Γ (kd K (.int 60)) := ex_int
theorem ex_MOST_BUTTONS (T : Tx K mg) : EX (tC (vMOST_BUTTONS K)) Γ (kd K (.int 6)) := ex_int
end
/-- n buttons (two or three) with their ties -/
structure Sn where
  n : Nat
  S : Sys n
  h2 : 2 ≤ n
  h3 : n ≤ 3
def encA (S : Sn) : PyData := encM S.S.A
theorem A_small (S : Sn) (s t : Fin S.n) : -3 < (S.S.A s t).a ∧ (S.S.A s t).a < 3 ∧ -3 < (S.S.A s t).b ∧ (S.S.A s t).b < 3 := by
  by_cases h : s = t
  · subst h; rw [S.S.diag]; decide
  · rcases S.S.rel s t h with ⟨_, e, _⟩ | ⟨_, e, _⟩ | ⟨_, e, _⟩ | ⟨_, e, _⟩ | ⟨_, e, _⟩ | ⟨_, e, _⟩ <;> rw [e] <;> decide
/-- a pair that may be squared -/
def Bd (x : G) : Prop := -(2 ^ 60) < x.a ∧ x.a < 2 ^ 60 ∧ -(2 ^ 60) < x.b ∧ x.b < 2 ^ 60
/-! ### promises -/
abbrev pm_is_whole (K : PySem.W.Frag) : Pm := ⟨Int, fun _ => True, fun i => [kd K (.int i)], fun _ => kd K (.bool true)⟩
abbrev pm_is_between (K : PySem.W.Frag) : Pm := ⟨Int × Int × Int, fun _ => True, fun i => [kd K (.int i.1), kd K (.int i.2.1), kd K (.int i.2.2)], fun i => kd K (.bool (decide (i.2.1 ≤ i.1) && decide (i.1 ≤ i.2.2)))⟩
def leadG (x : G) : Int := bif (decide (x.b = 0) || decide (5 * x.b * x.b ≤ (2 * x.a + x.b) * (2 * x.a + x.b))) then 2 * x.a + x.b else x.b
def sgnG (x : G) : Int := bif decide (0 < leadG x) then 1 else bif decide (leadG x < 0) then -1 else 0
abbrev pm_pair_sign (K : PySem.W.Frag) : Pm := ⟨G, Bd, fun x => [kd K (encG x)], fun x => kd K (.int (sgnG x))⟩
abbrev pm_axis_of (K : PySem.W.Frag) : Pm := ⟨(n : Nat) × Fin n, fun i => i.1 ≤ 3, fun i => [kd K (.int (i.1 : Int)), kd K (encF i.2)], fun i => kd K (encV (axis i.2))⟩
abbrev pm_all_axes (K : PySem.W.Frag) : Pm := ⟨Nat, fun n => n ≤ 3, fun n => [kd K (.int (n : Int))], fun n => kd K (encM (fun s : Fin n => axis s))⟩
abbrev pm_level_at (K : PySem.W.Frag) : Pm := ⟨(S : Sn) × (Vec S.n × Fin S.n), fun _ => True, fun i => [kd K (encA i.1), kd K (encV i.2.1), kd K (encF i.2.2)], fun i => kd K (encG (lev i.1.S.A i.2.2 i.2.1))⟩
abbrev pm_turned (K : PySem.W.Frag) : Pm := ⟨(S : Sn) × (Vec S.n × Fin S.n), fun _ => True, fun i => [kd K (encA i.1), kd K (encV i.2.1), kd K (encF i.2.2)], fun i => kd K (encV (rf i.1.S.A i.2.2 i.2.1))⟩
abbrev pm_vector_less (K : PySem.W.Frag) : Pm := ⟨(n : Nat) × (Vec n × G × Vec n), fun i => i.1 ≤ 3 ∧ (Bd i.2.2.1 ∨ ∀ p, Bd (i.2.2.2 p)), fun i => [kd K (encV i.2.1), kd K (encG i.2.2.1), kd K (encV i.2.2.2)], fun i => kd K (encV (less i.2.1 i.2.2.1 i.2.2.2))⟩
abbrev pm_pressed_behind (K : PySem.W.Frag) : Pm := ⟨(S : Sn) × ((Fin S.n → Vec S.n) × Fin S.n), fun _ => True, fun i => [kd K (encA i.1), kd K (encM i.2.1), kd K (encF i.2.2)],
  fun i => kd K (encM (fun t => less (i.2.1 t) (i.1.S.A i.2.2 t) (i.2.1 i.2.2)))⟩
abbrev pm_pressed_front (K : PySem.W.Frag) : Pm := ⟨(S : Sn) × ((Fin S.n → Vec S.n) × Fin S.n), fun _ => True, fun i => [kd K (encA i.1), kd K (encM i.2.1), kd K (encF i.2.2)], fun i => kd K (encM (fun t => rf i.1.S.A i.2.2 (i.2.1 t)))⟩
end Wk
namespace Wk
open PySem L2
section
variable {K : PySem.W.Frag} {Γ : List Slot} {te ta tb : TE} {targ : TA}
/-! ### isinstance of plain data -/
theorem ex_isi {d : PyData} {T n : String} {b : Bool} (h : EX te Γ (kd K d)) (ht : ∀ N H v, Ex N H → Dp K N v d → TyX K H v (.type T)) (hb : kitB T n = some b) : EX (tCB (rIsi K) (tCons te (tCons (tC (.ty n)) tNil))) Γ (kd K (.bool b)) := fun F B σ N H Q S k =>
  h F B σ N H _ S fun v N1 H1 S1 e1 r1 => ⟨v, .ty n, .type T, .type n, b, rfl, .ty n, ht N1 H1 v S1.sub r1, kit_ty hb, k _ N1 H1 S1 e1 (.bl _)⟩
theorem ty_int {i : Int} (N H : Hp) (v : V) (e : Ex N H) (h : Dp K N v (.int i)) : TyX K H v (.type "int") := by cases h; exact .base (.int _)
theorem ty_tup {ds : List PyData} (N H : Hp) (v : V) (e : Ex N H) (h : Dp K N v (.tuple ds)) : TyX K H v (.type "tuple") := by
  cases h with
  | tup hs _ =>
    rcases hs with (hs | ⟨o, hs⟩) | ⟨o, its, n, h1, h2, _⟩
    · exact .base (.tup (e _ _ hs))
    · exact .fTuple (e _ _ hs)
    · exact .kTuple h1 h2
theorem ex_isInt {i : Int} (h : EX te Γ (kd K (.int i))) : EX (tCB (rIsi K) (tCons te (tCons (tC (.ty "int")) tNil))) Γ (kd K (.bool true)) := ex_isi h ty_int (by decide +kernel)
theorem ex_isBool {i : Int} (h : EX te Γ (kd K (.int i))) : EX (tCB (rIsi K) (tCons te (tCons (tC (.ty "bool")) tNil))) Γ (kd K (.bool false)) := ex_isi h ty_int (by decide +kernel)
theorem ex_isTup {ds : List PyData} (h : EX te Γ (kd K (.tuple ds))) : EX (tCB (rIsi K) (tCons te (tCons (tC (.ty "tuple")) tNil))) Γ (kd K (.bool true)) := ex_isi h ty_tup (by decide +kernel)
end
end Wk
/-! ### enumerate of a tuple -/
namespace Wk
open PySem
set_option maxHeartbeats 4000000 in
theorem meets_enumerate_new1 {v : Value} {o : Obj} {H : Heap → Prop} (B : Begins v o H) :
    Meets (Builtin.«enumerate.__new__» ⟨[.type "enumerate", v], []⟩) (fun _ R s => H s.heap ∧
      R (.ok (.ret (.ref (s.heap.push o).objs.size))) { s with heap := (s.heap.push o).push { cls := .type "enumerate", data := .fields #[.none, .bool false, .ref s.heap.objs.size, rawInt 0, .none, .none] } }) :=
  .of_wp fun prog w A R s h => by
    obtain ⟨hp, g, d, tk, os⟩ := s; obtain ⟨h1, h⟩ := h
    have hsub := sub_enumerate
    have q1 : ∀ {A' : Around} {E : Value → Shared → Prop} {Q : Value → Shared → Prop}, Q (.ref hp.objs.size) ⟨hp.push o, g, d, tk, os⟩ → wpAny (model prog w) A' (pyIter v) Q E ⟨hp, g, d, tk, os⟩ :=
      fun q => B.iter prog w _ _ ⟨hp, g, d, tk, os⟩ _ h1 q
    wp_walk using q1
    refine wpAny_stack_any fun st => wpAny_pure ?_
    split
    · rename_i c _ _ _ _ _
      cases (c == Value.type "enumerate")
      · wp_walk using q1
        exact ⟨_, rfl, h⟩
      · wp_walk using q1
        exact ⟨_, rfl, h⟩
    · wp_walk using q1
      exact ⟨_, rfl, h⟩
section
variable {prog : Program} {w : World} {A : Around} {E : Value → Shared → Prop} {s : Shared}
theorem enum_begins1 {v : Value} {o : Obj} {H : Heap → Prop} {Q : Value → Shared → Prop} (B : Begins v o H) (h1 : H s.heap)
    (h : ∀ h', IsEnum h' (s.heap.objs.size + 1) s.heap.objs.size 0 .none → h'.get? s.heap.objs.size = some o → h'.objs.size = s.heap.objs.size + 2 →
      (∀ b o, s.heap.get? b = some o → h'.get? b = some o) → Q (.ref (s.heap.objs.size + 1)) { s with heap := h' }) :
    wpAny (model prog w) A (call (.type "enumerate") [v]) Q E s := by
  refine callType_new F.called_enumerate (by decide) (F.typeCall_enumerate_1 _) (F.newCall_enumerate_1 _) (fun obj => F.args_object_init_2 obj _) F.entry_enumerate_new
    (meets_enumerate_new1 B) ⟨h1, ?_⟩
  have hz : (s.heap.push o).objs.size = s.heap.objs.size + 1 := Heap.size_push ..
  show _ ∧ _
  rw [hz]
  have he : IsEnum ((s.heap.push o).push { cls := .type "enumerate", data := .fields #[.none, .bool false, .ref s.heap.objs.size, rawInt 0, .none, .none] }) (s.heap.objs.size + 1) s.heap.objs.size 0 .none := by
    have := Heap.get?_push_size (s.heap.push o) (o := { cls := .type "enumerate", data := .fields #[.none, .bool false, .ref s.heap.objs.size, rawInt 0, .none, .none] }) rfl
    rw [hz] at this; exact this
  refine ⟨⟨_, he, rfl⟩, h _ he (Heap.get?_push_of_some _ (Heap.get?_push_size _ B.free)) (by rw [Heap.size_push, hz]) fun b o x => Heap.get?_push_of_some _ (Heap.get?_push_of_some _ x)⟩
end
open PySem.Spec PyProof.Rows L2
/-- the tuple at a as it stands at each turn, each item in a new pair -/
def ItET (K : PySem.W.Frag) (a : Addr) : It :=
  ⟨fun i H => ∃ (xs : List V) (x : V), SqT K H a xs ∧ xs[i]? = some x, fun i H v H' => ∃ T x, v = .ref T ∧ H T = none ∧ H' = upd H T (.tup [.int (i : Nat), x]) ∧ ∀ xs, SqT K H a xs → xs[i]? = some x, fun i H => ∃ xs : List V, SqT K H a xs ∧ xs.length ≤ i⟩
theorem turn_enumT {P : Program} {w : World} {K : PySem.W.Frag} {elts : List Expr} {kk : Nat} {tpos : Pos} (a e it : Addr) :
    Turn P w K (.Tuple elts kk tpos) (ItET K a) [e, it] e (fun i h => (∃ old, IsEnum h e it ((i : Nat) : Int) old) ∧ h.IsTupleIter it a i ∧ e ≠ it ∧ a ≠ e ∧ a ≠ it) where
  mem := by simp
  obj := fun i h st b hb => by
    obtain ⟨⟨old, he⟩, ⟨o, ho, hc, hd⟩, _⟩ := st
    have e' : b = e ∨ b = it := by simpa using hb
    rcases e' with z | z
    · rw [z]; exact ⟨_, he, fun v q => nomatch q⟩
    · rw [z]; exact ⟨o, ho, fun v q => by rw [hd] at q; cases q⟩
  keep := fun i h h' st k => let ⟨⟨old, he⟩, hi, hne⟩ := st; ⟨⟨old, k e (by simp) _ he⟩, hi.at fun o q => k it (by simp) o q, hne⟩
  item := by
    intro X hP hw hK hc i pins s σ H E I hf st hg
    subst hP hw hK
    obtain ⟨⟨old, he⟩, hit, hne, hae, hai⟩ := st
    obtain ⟨xs, x, hq, hx⟩ := hg
    obtain ⟨its, rv, p, hz⟩ := I.tuple hq
    obtain ⟨u, hu, ru⟩ := rv.get hx
    have hel : e < s.heap.objs.size := Heap.lt_size he
    have hil : it < s.heap.objs.size := by obtain ⟨_, q, _⟩ := hit; exact Heap.lt_size q
    have hu' : its.toArray[i]? = some u := by simpa using hu
    have hlt : i < its.toArray.size := by
      rcases Nat.lt_or_ge i its.toArray.size with q | q
      · exact q
      · rw [Array.getElem?_eq_none q] at hu'; cases hu'
    refine wpAny_pyNext_enum_itemD (Draws.tuple (A := X.A.in1) (show X.A.in1.handled = none from I.ok.hd hc) it a hai its.toArray) he ⟨hit, (show s.heap.IsTuple a its.toArray from p)⟩ hlt hne (by simp only [List.mem_cons, List.not_mem_nil, or_false, not_or]; exact ⟨hne, fun q => hae q.symm⟩) fun x' h' tk hP ho hst hT hsz hk => ?_
    have ex : x' = u := by rw [hu'] at hP; exact (Option.some.inj hP).symm
    subst ex
    refine ⟨_, rfl, wpAny_letOwnedTupleGo_enum (s := { s with heap := h', toks := tk + 1 }) ho fun h'' he' sb => ?_⟩
    have hT2 : h''.get? s.heap.objs.size = some { cls := .type "tuple", data := .seq #[.int i tk, x'] } := (sb.2 _ (Nat.ne_of_gt hel)).trans hT
    have new : ObjOk X.prog X.w (upd H s.heap.objs.size (.tup [.int (i : Nat), x])) h'' s.heap.objs.size (.tup [.int (i : Nat), x]) :=
      ⟨by show 2 ≤ sizeLine; decide, [.int i tk, x'], .cons ⟨_, rfl⟩ (.cons ru .nil), ⟨_, hT2, rfl, _, rfl⟩⟩
    have I1 : Inv X pins σ (upd H s.heap.objs.size (.tup [.int (i : Nat), x])) { s with heap := h'', toks := tk + 1 } :=
      I.turnedNew (ch := [e, it]) (fun b ob hb q => (sb.2 b (fun z => hb (by simp [z]))).trans (hk b ob (fun z => hb (by simp [z])) (fun z => hb (by simp [z])) q)) hf (Nat.le_refl _) new
    refine ⟨.ref s.heap.objs.size, _, I1, rfl, ⟨_, x, rfl, I.hok.fresh (Nat.le_refl _), rfl, fun ys hy => by rw [I.tuple_inj hy hq]; exact hx⟩, ⟨⟨x', ?_⟩, hst.1.at fun o q => (sb.2 it (Ne.symm hne)).trans q, hne, hae, hai⟩, fun b hb => ?_⟩
    · have e1 : ((i + 1 : Nat) : Int) = (i : Int) + 1 := by omega
      rw [e1]; exact he'
    · have hb' : b < s.heap.objs.size := by
        have e' : b = e ∨ b = it := by simpa using hb
        rcases e' with z | z
        · rw [z]; exact hel
        · rw [z]; exact hil
      rw [upd_ne (Nat.ne_of_lt hb')]
      exact (hf b hb).1
  done := by
    intro X hP hw hK hc i pins s σ H E I hf st hg
    subst hP hw hK
    obtain ⟨⟨old, he⟩, hit, hne, hae, hai⟩ := st
    obtain ⟨xs, hq, hx⟩ := hg
    obtain ⟨its, rv, p, hz⟩ := I.tuple hq
    obtain ⟨f0, f1, f2, f3, f4, f5⟩ := hf it (by simp)
    have hl := rv.length
    have hT : s.TypeIs (.ref e) "enumerate" := ⟨_, he, rfl⟩
    unfold pyNext
    refine wpAny_bind (wpAny_attempt (wpAny_callSpecial?_slot (name := Str.ofString "__next__") hT F.slot_enumerate_next
      (wpAny_call_entry F.slot_enumerate_next hT F.entry_enumerate_next ?_ (F.args_enumerate_next_1 _))))
    show wpAny _ _ (field (.ref e) 2 >>= _) _ _ _
    refine wpAny_bind (wpAny_field he rfl (x := .ref it) rfl ?_)
    refine wpAny_bind (wpAny_nextOf_tuple_end (I.ok.hd hc) hit (show s.heap.IsTuple a its.toArray from p) (by simp; omega) fun h' x he' hx' => ?_)
    obtain ⟨o, ho, hc'⟩ := hx'
    refine wpAny_bind (wpAny_isInstance (T := "StopIteration") (b := true) ⟨o, ho, hc'⟩ isSubtype_stop ?_)
    exact wpAny_pure ⟨rfl, I.turned (t' := s.toks) (fun b o hb q => he' b o hb q) f0 f1 f3 f4 f5⟩
  self := fun A i s Q E st h => let ⟨⟨_, he⟩, _⟩ := st; wpAny_pyIter_enum he h
def iEnumT (K : PySem.W.Frag) (ta : TA) : TI := fun σ H R => ta σ H fun vs H1 => ∃ a xs, vs = [.ref a] ∧ SqT K H1 a xs ∧ R (ItET K a) H1
theorem pi_enumT {X : Cx} {e : Expr} {ta : TA} {p pos tpos : Pos} {elts : List Expr} {kk : Nat} (hg : Gl X "enumerate") (hm : X.mg "enumerate" = none) (ha : PA X [e] ta) (hs : starEach [e] X.env = [(false, eval e X.env)] := by rfl) :
    PI X (.Tuple elts kk tpos) (.Call (.Name "enumerate" p) [e] [] pos) (iEnumT X.K ta) := by
  refine ⟨fun pins s σ H R I h => ?_⟩
  refine Call_ (ld_blt I hg hm boot_enumerate (PyProof.Rows.callWith_type1 (thn (ha.run pos pins s σ H _ I h) fun us s1 ⟨vs, H1, I1, r1, q1⟩ => ?_) hs rfl))
  obtain ⟨a, xs, ex, hq, q⟩ := q1
  subst ex
  cases r1 with
  | cons r rr =>
    cases rr
    cases r
    obtain ⟨its, rv, p', hz⟩ := I1.tuple hq
    obtain ⟨o1, ho1, _⟩ := id p'
    have hal : a < s1.heap.objs.size := Heap.lt_size ho1
    refine enum_begins1 (begins_tuple a its.toArray) (show s1.heap.IsTuple a its.toArray from p') fun h' he hit hsz hk => wpAny_pyIter_enum he ?_
    have I2 : Inv X pins σ H1 { s1 with heap := h' } := I1.kept (t' := s1.toks) hk
    refine ⟨s1.heap.objs.size + 1, [s1.heap.objs.size + 1, s1.heap.objs.size], _, _, H1, rfl, I2, turn_enumT a (s1.heap.objs.size + 1) s1.heap.objs.size, ⟨⟨.none, he⟩, ⟨_, hit, rfl, rfl⟩, Nat.succ_ne_self _, Nat.ne_of_lt (Nat.lt_succ_of_lt hal), Nat.ne_of_lt hal⟩, fun b hb => ?_, q⟩
    have e' : b = s1.heap.objs.size + 1 ∨ b = s1.heap.objs.size := by simpa using hb
    have hle : s1.heap.objs.size ≤ b := by
      rcases e' with z | z
      · rw [z]; exact Nat.le_add_right _ _
      · rw [z]; exact Nat.le_refl _
    exact I1.fpOk hle (I1.hok.fresh hle)
/-! ### .. as a source -/
section
variable {K : PySem.W.Frag} {Γ : List Slot} {te : TE}
theorem iw_enumT {ds : List PyData} (h : EX te Γ (kd K (.tuple ds))) : IX (iEnumT K (tCons te tNil)) Γ ds.length (fun i => kdAt K ((List.range ds.length).zip ds |>.map fun p => .tuple [.int (p.1 : Int), p.2]) i) := fun F B σ N H Q S k =>
  h F B σ N H _ S fun v N1 H1 S1 e1 r1 => by
    cases r1 with
    | @tup a xs _ hs ha =>
      refine ⟨a, xs, rfl, ex_t S1.sub hs, k _ N1 H1 S1 e1 ⟨fun i H2 hi e => ?_, fun H2 e => ⟨xs, ex_t e hs, by rw [dpAll_len ha]; exact Nat.le_refl _⟩, fun i H2 x H3 hi y F B Γ σ N2 e2 S2 => ?_⟩⟩
      · have l1 : i < xs.length := by rw [dpAll_len ha]; exact hi
        exact ⟨xs, _, ex_t e hs, List.getElem?_eq_getElem l1⟩
      · obtain ⟨T, x1, rfl, hT, rfl, h1⟩ := y
        have g1 := h1 xs (ex_t (e2.trans S2.sub) hs)
        obtain ⟨d1, q1, p1⟩ := dpAll_get' (dpAll_mono e2 _ _ ha) g1
        have hz : (((List.range ds.length).zip ds).map fun p => PyData.tuple [.int (p.1 : Int), p.2])[i]? = some (.tuple [.int (i : Int), d1]) := by
          rw [List.getElem?_map, List.getElem?_zip_eq_some (z := (i, d1)) |>.mpr ⟨List.getElem?_range hi, q1⟩]; rfl
        refine ⟨upd N2 T (.tup [.int (i : Nat), x1]), S2.new hT, Ex.new (S2.sub.none hT), ?_⟩
        rw [kdAt_of hz]
        exact dp_newT (.cons (.int _) (.cons p1 .nil)) (S2.sub.none hT)
theorem iw_enumF {n : Nat} {f : Fin n → PyData} (h : EX te Γ (kd K (.tuple (fins f)))) : IX (iEnumT K (tCons te tNil)) Γ n (kdAt K (fins fun i => .tuple [encF i, f i])) := by
  have := iw_enumT h
  rw [fins_len] at this
  refine this.imp fun i hi => ?_
  rw [kdAt_fin (fun i : Fin n => PyData.tuple [encF i, f i]) ⟨i, hi⟩]
  refine kdAt_of ?_
  rw [List.getElem?_map, List.getElem?_zip_eq_some (z := (i, f ⟨i, hi⟩)) |>.mpr ⟨List.getElem?_range hi, fins_get f ⟨i, hi⟩⟩]; rfl
end
end Wk
namespace Wk
open PySem L2
/-! ### sums by turns -/
def psum {n : Nat} (f : Fin n → G) : Nat → G
  | 0 => 0
  | k + 1 => psum f k + (if h : k < n then f ⟨k, h⟩ else 0)
theorem psum_succ {n : Nat} (f : Fin n → G) (i : Fin n) : psum f (i.val + 1) = psum f i.val + f i := by
  show psum f i.val + (if h : i.val < n then f ⟨i.val, h⟩ else 0) = _
  rw [dif_pos i.isLt]
theorem psum_all : ∀ {n : Nat} (f : Fin n → G), psum f n = sm n f := by
  have key : ∀ (n m : Nat) (hm : m ≤ n) (f : Fin n → G), psum f m = sm m (fun i => f (i.castLE hm)) := by
    intro n m
    induction m with
    | zero => intro _ _; rfl
    | succ m ih =>
      intro hm f
      show psum f m + (if h : m < n then f ⟨m, h⟩ else 0) = sm m _ + _
      rw [ih (by omega) f, dif_pos (by omega)]
      rfl
  intro n f
  rw [key n n (Nat.le_refl _) f]
  rfl
/-! ### images -/
namespace W
section
variable {n : Nat} {S : Sys n}
def img (g : W S) : Fin n → Vec n := fun s => act g (axis s)
theorem img_one : img (1 : W S) = fun s => axis s := rfl
theorem img_gen (g : W S) (s : Fin n) : img (g * gen s) = fun t => less (img g t) (S.A s t) (img g s) := by
  funext t
  unfold img
  rw [act_mul, act_gen, rf_axis, act_less]
theorem img_front (g : W S) (s : Fin n) : img (gen s * g) = fun t => rf S.A s (img g t) := by
  funext t
  unfold img
  rw [act_mul, act_gen]
theorem img_inj {g h : W S} (e : img g = img h) : g = h := faithful fun s => congrFun e s
/-- what a change turns a vector to, by its images -/
theorem act_sum (g : W S) (x : Vec n) : act g x = fun p => sm n fun t => x t * img g t p := by
  have key : ∀ (m : Nat) (hm : m ≤ n), act g (fun p => if p.val < m then x p else 0) = fun p => sm m fun t : Fin m => x (t.castLE hm) * img g (t.castLE hm) p := by
    intro m
    induction m with
    | zero =>
      intro hm
      have e : (fun p : Fin n => if p.val < 0 then x p else 0) = fun _ => 0 := by
        funext p; rw [if_neg (by omega)]
      rw [e, act_zero]; rfl
    | succ m ih =>
      intro hm
      have e : (fun p : Fin n => if p.val < m + 1 then x p else 0) = less (fun p : Fin n => if p.val < m then x p else 0) (-(x ⟨m, hm⟩)) (axis ⟨m, hm⟩) := by
        funext p
        unfold less axis
        show (if p.val < m + 1 then x p else 0) = (if p.val < m then x p else 0) - -(x ⟨m, hm⟩) * (if p = ⟨m, hm⟩ then 1 else 0)
        by_cases h : p = ⟨m, hm⟩
        · have hv : p.val = m := by rw [h]
          rw [if_pos (show p.val < m + 1 by omega), if_neg (show ¬ p.val < m by omega), if_pos h, h]; grind
        · have hv : p.val ≠ m := fun q => h (Fin.ext q)
          by_cases q : p.val < m
          · rw [if_pos (by omega), if_pos q, if_neg h]; grind
          · rw [if_neg (by omega), if_neg q, if_neg h]; grind
      rw [e, act_less, ih (by omega)]
      funext p
      show (sm m fun t : Fin m => x (t.castLE (Nat.le_of_succ_le hm)) * img g (t.castLE (Nat.le_of_succ_le hm)) p) - -(x ⟨m, hm⟩) * act g (axis ⟨m, hm⟩) p = (sm m fun t : Fin m => x (t.castLE (Nat.le_of_succ_le hm)) * img g (t.castLE (Nat.le_of_succ_le hm)) p) + x ⟨m, hm⟩ * act g (axis ⟨m, hm⟩) p
      grind
  have := key n (Nat.le_refl _)
  have e : (fun p : Fin n => if p.val < n then x p else 0) = x := by funext p; rw [if_pos p.isLt]
  rw [e] at this
  exact this
/-- how great an entry may be -/
def Sz (k : Nat) (x : G) : Prop := x.a.natAbs ≤ 3 ^ k ∧ x.b.natAbs ≤ 3 ^ k
theorem sz_step {S : Sn} {k : Nat} {x y : G} (s t : Fin S.n) (hx : Sz k x) (hy : Sz k y) (h : s ≠ t) : Sz (k + 1) (x - S.S.A s t * y) := by
  obtain ⟨a1, a2⟩ := hx
  obtain ⟨b1, b2⟩ := hy
  have p3 : 3 ^ (k + 1) = 3 * 3 ^ k := by rw [Nat.pow_succ, Nat.mul_comm]
  unfold Sz
  rw [p3]
  generalize 3 ^ k = M at *
  rcases S.S.rel s t h with ⟨_, e, _⟩ | ⟨_, e, _⟩ | ⟨_, e, _⟩ | ⟨_, e, _⟩ | ⟨_, e, _⟩ | ⟨_, e, _⟩ <;> rw [e] <;> simp <;> omega
theorem img_word (S : Sn) : ∀ (w : List (Fin S.n)) (s p : Fin S.n), Sz w.length (img (mk w : W S.S) s p) := by
  intro w
  generalize hr : w.reverse = r
  induction r generalizing w with
  | nil =>
    have : w = [] := by simpa using hr
    subst this
    intro s p
    show Sz 0 (axis s p)
    unfold axis Sz
    by_cases h : p = s
    · rw [if_pos h]; decide
    · rw [if_neg h]; decide
  | cons t r ih =>
    have hw : w = r.reverse ++ [t] := by
      have := congrArg List.reverse hr
      simpa using this
    subst hw
    intro s p
    have e : (mk (r.reverse ++ [t]) : W S.S) = mk r.reverse * gen t := rfl
    rw [e, img_gen]
    have l : (r.reverse ++ [t]).length = r.reverse.length + 1 := by simp
    rw [l]
    have i1 := ih r.reverse (by simp)
    show Sz _ (img (mk r.reverse : W S.S) s p - S.S.A t s * img (mk r.reverse) t p)
    by_cases h : t = s
    · subst h
      rw [S.S.diag]
      have z := i1 t p
      obtain ⟨z1, z2⟩ := z
      have p3 : 3 ^ (r.reverse.length + 1) = 3 * 3 ^ r.reverse.length := by rw [Nat.pow_succ, Nat.mul_comm]
      unfold Sz
      rw [p3]
      generalize 3 ^ r.reverse.length = M at *
      generalize img (mk r.reverse : W S.S) t p = y at *
      have e2 : y - 2 * y = -y := by grind
      rw [e2]
      simp
      omega
    · exact sz_step t s (i1 s p) (i1 t p) h
theorem img_sz (S : Sn) (g : W S.S) (s p : Fin S.n) : Sz (len g) (img g s p) := by
  obtain ⟨w, e, l⟩ := len_word g
  rw [← l, ← e]; exact img_word S w s p
theorem img_bd (S : Sn) (g : W S.S) (h : len g ≤ 36) (s p : Fin S.n) : Bd (img g s p) := by
  obtain ⟨h1, h2⟩ := img_sz S g s p
  have h3 : 3 ^ len g ≤ 3 ^ 36 := Nat.pow_le_pow_right (by decide) h
  have h4 : (3 : Nat) ^ 36 < 2 ^ 60 := by decide
  unfold Bd
  generalize 3 ^ len g = M at *
  generalize (3 : Nat) ^ 36 = M2 at *
  omega
/-! ### signs -/
theorem lead_pos {x : G} (h : NG x) (ne : x ≠ 0) : 0 < leadG x := by
  obtain ⟨h1, h2⟩ := h
  have : x.a ≠ 0 ∨ x.b ≠ 0 := by
    by_cases q : x.a = 0
    · right; intro r; exact ne (G.ext' q r)
    · exact .inl q
  unfold leadG
  by_cases hb : x.b = 0
  · rw [decide_eq_true hb, Bool.true_or]
    show 0 < 2 * x.a + x.b
    omega
  · cases q : (decide (x.b = 0) || decide (5 * x.b * x.b ≤ (2 * x.a + x.b) * (2 * x.a + x.b))) with
    | true => show 0 < 2 * x.a + x.b; omega
    | false => show 0 < x.b; omega
theorem lead_neg {x : G} (h : NG (-x)) (ne : x ≠ 0) : leadG x < 0 := by
  obtain ⟨h1, h2⟩ := h
  simp at h1 h2
  have : x.a ≠ 0 ∨ x.b ≠ 0 := by
    by_cases q : x.a = 0
    · right; intro r; exact ne (G.ext' q r)
    · exact .inl q
  unfold leadG
  by_cases hb : x.b = 0
  · rw [decide_eq_true hb, Bool.true_or]
    show 2 * x.a + x.b < 0
    omega
  · cases q : (decide (x.b = 0) || decide (5 * x.b * x.b ≤ (2 * x.a + x.b) * (2 * x.a + x.b))) with
    | true => show 2 * x.a + x.b < 0; omega
    | false => show x.b < 0; omega
theorem sgn_pos {x : G} (h : NG x) (ne : x ≠ 0) : sgnG x = 1 := by
  unfold sgnG; rw [decide_eq_true (lead_pos h ne)]; rfl
theorem sgn_neg {x : G} (h : NG (-x)) (ne : x ≠ 0) : sgnG x = -1 := by
  have := lead_neg h ne
  unfold sgnG; rw [decide_eq_false (by omega), decide_eq_true this]; rfl
/-- whether a button is a back button, a front button -/
noncomputable def isBack (g : W S) (s : Fin n) : Bool := decide (len (g * gen s) < len g)
noncomputable def isFront (g : W S) (s : Fin n) : Bool := decide (len (gen s * g) < len g)
theorem isBack_iff {g : W S} {s : Fin n} : isBack g s = true ↔ len (g * gen s) + 1 = len g := by
  unfold isBack
  rw [decide_eq_true_iff]
  rcases len_right g s with q | q <;> omega
theorem isBack_no {g : W S} {s : Fin n} : isBack g s = false ↔ len (g * gen s) = len g + 1 := by
  unfold isBack
  rw [decide_eq_false_iff_not]
  rcases len_right g s with q | q <;> omega
theorem isFront_iff {g : W S} {s : Fin n} : isFront g s = true ↔ fr g s := by
  unfold isFront fr
  rw [decide_eq_true_iff]
  rcases len_left g s with q | q <;> omega
theorem isBack_inv (g : W S) (s : Fin n) : isBack g⁻¹ s = isFront g s := by
  unfold isBack isFront
  rw [← len_inv (g⁻¹ * gen s), mul_inv_rev, inv_inv, gen_inv, len_inv g]
/-- the first entry that is not nought tells whether an image is down -/
theorem down_entry {g : W S} {s p : Fin n} (h : img g s p ≠ 0) : decide (sgnG (img g s p) < 0) = isBack g s := by
  cases q : isBack g s with
  | true =>
    have d := down (isBack_iff.mp q)
    have : sgnG (img g s p) = -1 := sgn_neg (d p) h
    rw [this]; rfl
  | false =>
    have u := up (isBack_no.mp q)
    have : sgnG (img g s p) = 1 := sgn_pos (u p) h
    rw [this]; rfl
theorem not_all_zero (g : W S) (s : Fin n) : ¬ ∀ p, img g s p = 0 := fun h => by
  obtain ⟨p, hp⟩ := act_ne g s
  exact hp (h p)
/-! ### first words -/
noncomputable def backs (g : W S) : List (Fin n) := (List.finRange n).filter (isBack g)
noncomputable def takenN : Nat → W S → List (Fin n)
  | 0, _ => []
  | k + 1, g => match backs g with
    | [] => []
    | s :: _ => s :: takenN k (g * gen s)
noncomputable def taken (g : W S) : List (Fin n) := takenN (len g) g
theorem backs_mem {g : W S} {s : Fin n} : s ∈ backs g ↔ isBack g s = true := by
  unfold backs; rw [List.mem_filter]; exact ⟨fun h => h.2, fun h => ⟨List.mem_finRange s, h⟩⟩
theorem backs_nil {g : W S} (h : backs g = []) : len g = 0 := by
  apply Classical.byContradiction
  intro q
  obtain ⟨s, hs⟩ := has_back q
  have := backs_mem.mpr (isBack_iff.mpr hs)
  rw [h] at this; cases this
theorem backs_one : backs (1 : W S) = [] := by
  apply List.eq_nil_iff_forall_not_mem.mpr
  intro s hs
  have := isBack_iff.mp (backs_mem.mp hs)
  rw [len_one] at this; omega
theorem backs_head {g : W S} {s : Fin n} {r : List (Fin n)} (h : backs g = s :: r) : len (g * gen s) + 1 = len g := isBack_iff.mp (backs_mem.mp (by rw [h]; exact List.mem_cons_self))
theorem taken_nil {g : W S} (h : backs g = []) : taken g = [] := by unfold taken; rw [backs_nil h]; rfl
theorem taken_cons {g : W S} {s : Fin n} {r : List (Fin n)} (h : backs g = s :: r) : taken g = s :: taken (g * gen s) := by
  have e := backs_head h
  unfold taken
  rw [← e]
  have : takenN (len (g * gen s) + 1) g = s :: takenN (len (g * gen s)) (g * gen s) := by
    show (match backs g with | [] => [] | u :: _ => u :: takenN (len (g * gen s)) (g * gen u)) = _
    rw [h]
  exact this
theorem taken_len : ∀ (k : Nat) (g : W S), len g = k → (taken g).length = k
  | 0, g, h => by unfold taken; rw [h]; rfl
  | k + 1, g, h => by
    cases q : backs g with
    | nil => rw [backs_nil q] at h; cases h
    | cons s r =>
      rw [taken_cons q, List.length_cons, taken_len k _ (by have := backs_head q; omega)]
theorem taken_mk : ∀ (k : Nat) (g : W S), len g = k → g * mk (taken g) = 1
  | 0, g, h => by
    unfold taken; rw [h]
    show g * mk [] = 1
    rw [mk_nil, mul_one, len_zero h]
  | k + 1, g, h => by
    cases q : backs g with
    | nil => rw [backs_nil q] at h; cases h
    | cons s r =>
      rw [taken_cons q, mk_cons, ← mul_assoc, taken_mk k _ (by have := backs_head q; omega)]
/-- the first word of a change -/
noncomputable def first (g : W S) : List (Fin n) := taken g⁻¹
theorem first_len (g : W S) : (first g).length = len g := by unfold first; rw [taken_len _ g⁻¹ rfl, len_inv]
theorem first_mk (g : W S) : (mk (first g) : W S) = g := by
  have := taken_mk _ g⁻¹ rfl
  have e : g * (g⁻¹ * mk (taken g⁻¹)) = g * 1 := by rw [this]
  rw [mul_inv_left, mul_one] at e
  exact e
end
end W
end Wk
namespace Wk
open PySem L2
abbrev pm_led_by (K : PySem.W.Frag) : Pm := ⟨(S : Sn) × ((Fin S.n → Vec S.n) × Vec S.n), fun i => ∀ t p, Bd (i.2.1 t p), fun i => [kd K (encM i.2.1), kd K (encV i.2.2)], fun i => kd K (encV fun p => sm i.1.n fun t => i.2.2 t * i.2.1 t p)⟩
abbrev pm_images_of (K : PySem.W.Frag) : Pm := ⟨(S : Sn) × List (Fin S.n), fun i => i.2.length ≤ 1000, fun i => [kd K (encA i.1), kd K (encW i.2)], fun i => kd K (encM (W.img (W.mk i.2 : W i.1.S)))⟩
noncomputable abbrev pm_is_down (K : PySem.W.Frag) : Pm := ⟨(S : Sn) × (W S.S × Fin S.n), fun i => W.len i.2.1 ≤ 36, fun i => [kd K (encV (W.img i.2.1 i.2.2))], fun i => kd K (.bool (W.isBack i.2.1 i.2.2))⟩
noncomputable abbrev pm_down_buttons (K : PySem.W.Frag) : Pm := ⟨(S : Sn) × W S.S, fun i => W.len i.2 ≤ 36, fun i => [kd K (encM (W.img i.2))], fun i => kd K (encW (W.backs i.2))⟩
noncomputable abbrev pm_word_by (K : PySem.W.Frag) : Pm := ⟨(S : Sn) × W S.S, fun i => W.len i.2 ≤ 36, fun i => [kd K (encA i.1), kd K (encM (W.img i.2))], fun i => kd K (encW (W.taken i.2))⟩
theorem ex_row {K : PySem.W.Frag} {Γ : List Slot} {ta tb : TE} {n : Nat} {M : Fin n → Vec n} {i : Fin n} (ha : EX ta Γ (kd K (encM M))) (hb : EX tb Γ (kd K (encF i))) : EX (tOp (rIxT K) ta tb) Γ (kd K (encV (M i))) := ex_ixT ha hb (atI_fin (fun s => encV (M s)) i)
theorem ex_ent {K : PySem.W.Frag} {Γ : List Slot} {ta tb : TE} {n : Nat} {x : Vec n} {i : Fin n} (ha : EX ta Γ (kd K (encV x))) (hb : EX tb Γ (kd K (encF i))) : EX (tOp (rIxT K) ta tb) Γ (kd K (encG (x i))) := ex_ixT ha hb (atI_fin (fun s => encG (x s)) i)
theorem G_mul_a (x y : G) (h : x.b = 0) : (x * y).a = x.a * y.a := by simp [h]
theorem G_mul_b (x y : G) (h : x.b = 0) : (x * y).b = x.a * y.b := by simp [h]
theorem encV_iD {n : Nat} (x : Vec n) : iD 2 (encV x) = true := by
  unfold encV fins
  simp only [iD]
  generalize List.finRange n = l
  induction l with
  | nil => rfl
  | cons a l ih => simp only [List.map_cons, iDs, Bool.and_eq_true]; exact ⟨rfl, ih⟩
theorem encM_iD {n : Nat} (x : Fin n → Vec n) : iD 3 (encM x) = true := by
  unfold encM fins
  simp only [iD]
  generalize List.finRange n = l
  induction l with
  | nil => rfl
  | cons a l ih => simp only [List.map_cons, iDs, Bool.and_eq_true]; exact ⟨encV_iD _, ih⟩
theorem encW_iD {n : Nat} (x : List (Fin n)) : iD 1 (encW x) = true := by
  unfold encW
  simp only [iD]
  induction x with
  | nil => rfl
  | cons a l ih => simp only [List.map_cons, iDs, Bool.and_eq_true]; exact ⟨rfl, ih⟩
theorem encG_iD (x : G) : iD 1 (encG x) = true := rfl
theorem eqv_V0 (x : G) : PyData.eqv (encG x) (encG 0) = decide (x = 0) := by
  by_cases h : x = 0
  · rw [h, decide_eq_true rfl]; rfl
  · rw [decide_eq_false h]
    cases q : PyData.eqv (encG x) (encG 0) with
    | false => rfl
    | true =>
      exfalso
      have := (iD_eqv 1 _ _ (encG_iD x) (encG_iD 0)).mp q
      apply h
      unfold encG at this
      injection this with this
      injection this with h1 this
      injection this with h2 _
      injection h1 with h1
      injection h2 with h2
      exact G.ext' h1 h2

section
variable {K : PySem.W.Frag} {Γ : List Slot} {te ta tb : TE} {targ : TA}
theorem ex_lenF {n : Nat} {f : Fin n → PyData} (h : EX te Γ (kd K (.tuple (fins f)))) : EX (tCB (rLenSeq K) (tCons te tNil)) Γ (kd K (.int (n : Int))) := by
  have := ex_lenT h
  rwa [fins_len] at this
theorem ex_lenW {n : Nat} {w : List (Fin n)} (h : EX te Γ (kd K (encW w))) : EX (tCB (rLenSeq K) (tCons te tNil)) Γ (kd K (.int (w.length : Int))) := by
  have := ex_lenT h
  rwa [List.length_map] at this
theorem iw_word {n : Nat} {w : List (Fin n)} (h : EX te Γ (kd K (encW w))) : IX (iTup K te) Γ w.length (kdAt K (w.map encF)) := by
  have := iw_tup h
  rwa [List.length_map] at this
theorem kdAt_word {n : Nat} {w : List (Fin n)} {i : Nat} (h : i < w.length) : kdAt K (w.map encF) i = kd K (encF w[i]) := kdAt_of (by rw [List.getElem?_map, List.getElem?_eq_getElem h]; rfl)
end
theorem fins_put {n : Nat} (f : Fin n → PyData) (s : Fin n) (d : PyData) : (fins f).take s.val ++ [d] ++ (fins f).drop (s.val + 1) = fins fun i => if i = s then d else f i := by
  have h : s.val < (fins f).length := by rw [fins_len]; exact s.isLt
  have e : (fins f).take s.val ++ [d] ++ (fins f).drop (s.val + 1) = (fins f).set s.val d := by
    rw [List.set_eq_take_append_cons_drop, if_pos h, List.append_assoc]; rfl
  rw [e]
  apply List.ext_getElem?
  intro i
  by_cases q : i < n
  · rw [fins_get _ ⟨i, q⟩, List.getElem?_set]
    by_cases z : s.val = i
    · subst z; rw [if_pos rfl, if_pos h, if_pos (Fin.ext rfl)]
    · rw [if_neg z, if_neg (fun q => z (by rw [← q])), fins_get f ⟨i, q⟩]
  · rw [List.getElem?_eq_none (by rw [List.length_set, fins_len]; omega), List.getElem?_eq_none (by rw [fins_len]; omega)]
theorem eqv_nil (ds : List PyData) : PyData.eqv (.tuple ds) (.tuple []) = ds.isEmpty := by
  cases ds <;> simp [PyData.eqv, PyData.eqvAll]
theorem Bd_of_small {x : G} (h : -3 < x.a ∧ x.a < 3 ∧ -3 < x.b ∧ x.b < 3) : Bd x := by
  obtain ⟨h1, h2, h3, h4⟩ := h
  exact ⟨by omega, by omega, by omega, by omega⟩
end Wk
namespace Wk
open PySem L2
section
variable {P : Program} {w : World} {K : PySem.W.Frag} {mg : Str → Option Value} {base : Heap}
abbrev s_is_whole : Stmt := top 19
abbrev Ns_is_whole : List Str := ["value"]
theorem sc_is_whole : FnScope Ns_is_whole ["value"] (defScope s_is_whole) := ⟨rfl, rfl, rfl, by decide +kernel, rfl, by decide +kernel, by decide +kernel⟩
def t_is_whole (K : PySem.W.Frag) : TS := (tRet (tAndV (tCB (rIsi K) (tCons (tVar 0) (tCons (tC (.ty "int")) tNil))) (tNotV (tCB (rIsi K) (tCons (tVar 0) (tCons (tC (.ty "bool")) tNil))))))
theorem sx_is_whole (T : Tx K mg) : (pm_is_whole K).body Ns_is_whole (t_is_whole K) := by
  intro i _
  dsimp only [pm_is_whole]
  show SX _ [_] _
  exact sx_ret (ex_is (ex_andV (ex_isInt (ex_var rfl)) fun _ => ex_notV (ex_isBool (ex_var rfl))) rfl)
theorem ok_is_whole (T : Tx K mg) {f : Addr} {fd : FuncData} (F : FnP K "is_whole" "is_whole" s_is_whole f fd) : FnOk P w K mg base CX0 1 f fd ["value"] (pm_is_whole K).sp := by
  have sc := sc_is_whole
  refine F.ok sc (fun vs H Q E h => Pm.len (fun _ => rfl) vs H Q E h) (fun cdv A outer s H vs Q E hr h => ⟨t_is_whole K, PSs.nox ?_, Pm.go (sx_is_whole T) vs H Q E h⟩)
  exact (pss_one (ps_ret (pe_and (pe_callB call_isi rfl T.isinstance_ PyProof.Rows.boot_isinstance (pa_cons (pv 0) (pa_cons (pe_bltn (v := .ty "int") (u := .type "int") rfl T.int_ (by decide +kernel) rfl) pa_nil))) (pe_one (pe_not (pe_callB call_isi rfl T.isinstance_ PyProof.Rows.boot_isinstance (pa_cons (pv 0) (pa_cons (pe_bltn (v := .ty "bool") (u := .type "bool") rfl T.bool_ (by decide +kernel) rfl) pa_nil))))))))
abbrev s_is_between : Stmt := top 20
abbrev Ns_is_between : List Str := ["value", "low", "high"]
theorem sc_is_between : FnScope Ns_is_between ["value", "low", "high"] (defScope s_is_between) := ⟨rfl, rfl, rfl, by decide +kernel, rfl, by decide +kernel, by decide +kernel⟩
def t_is_between (K : PySem.W.Frag) : TS := (tRet (tAndV (tCall (pm_is_whole K).sp [] E0 (tCons (tVar 0) tNil)) (tChain (rI0 fun i j => .bl (decide (i ≤ j))) (rI0 fun i j => .bl (decide (i ≤ j))) (tVar 1) (tVar 0) (tVar 2))))
theorem sx_is_between (T : Tx K mg) : (pm_is_between K).body Ns_is_between (t_is_between K) := by
  rintro ⟨v, lo, hi⟩ _
  dsimp only [pm_is_between]
  show SX _ [_, _, _] _
  refine sx_ret (ex_is (ex_andV (ex_pm (pm_is_whole K) v (ea_cons (ex_var rfl) ea_nil) trivial) fun _ => ex_chain (ex_var rfl) (ex_var rfl) opr_le (ex_var rfl) fun _ => opr_le) ?_)
  rw [Bool.true_and]
theorem ok_is_between (T : Tx K mg) (c_is_whole : C8.Cal P w K mg base 1 "is_whole" (pm_is_whole K).sp []) {f : Addr} {fd : FuncData} (F : FnP K "is_between" "is_between" s_is_between f fd) : FnOk P w K mg base CX0 2 f fd ["value", "low", "high"] (pm_is_between K).sp := by
  have sc := sc_is_between
  refine F.ok sc (fun vs H Q E h => Pm.len (fun _ => rfl) vs H Q E h) (fun cdv A outer s H vs Q E hr h => ⟨t_is_between K, PSs.nox ?_, Pm.go (sx_is_between T) vs H Q E h⟩)
  exact (pss_one (ps_ret (pe_and (C8.pe_c c_is_whole hr (by decide) rfl (pa_cons (pv 0) pa_nil)) (pe_one (pe_chain op_le op_le (pv 1) (pv 0) (pv 2))))))
abbrev s_pair_sign : Stmt := top 22
abbrev Ns_pair_sign : List Str := ["pair", "twice", "lead"]
theorem sc_pair_sign : FnScope Ns_pair_sign ["pair"] (defScope s_pair_sign) := ⟨rfl, rfl, rfl, by decide +kernel, rfl, by decide +kernel, by decide +kernel⟩
def t_pair_sign (K : PySem.W.Frag) : TS := (tSeq (tAsg (tOp (rI0 fun i j => .int (i + j)) (tOp (rI CMul fun i j => .int (i * j)) (tC (.int 2)) (tOp (rIxT K) (tVar 0) (tC (.int 0)))) (tOp (rIxT K) (tVar 0) (tC (.int 1)))) (gName 1))
    (tSeq (tAsg (tIf (tOr (tTest (tOp rEq (tOp (rIxT K) (tVar 0) (tC (.int 1))) (tC (.int 0)))) (tTest (tOp (rI0 fun i j => .bl (decide (j ≤ i))) (tOp (rI CMul fun i j => .int (i * j)) (tVar 1) (tVar 1)) (tOp (rI CMul fun i j => .int (i * j)) (tOp (rI CMul fun i j => .int (i * j)) (tC (.int 5)) (tOp (rIxT K) (tVar 0) (tC (.int 1)))) (tOp (rIxT K) (tVar 0) (tC (.int 1))))))) (tVar 1) (tOp (rIxT K) (tVar 0) (tC (.int 1)))) (gName 2))
    (tRet (tIf (tTest (tOp (rI0 fun i j => .bl (decide (j < i))) (tVar 2) (tC (.int 0)))) (tC (.int 1)) (tIf (tTest (tOp (rI0 fun i j => .bl (decide (i < j))) (tVar 2) (tC (.int 0)))) (tUn (rU fun i => .int (-i)) (tC (.int 1))) (tC (.int 0)))))))
theorem sx_pair_sign (T : Tx K mg) : (pm_pair_sign K).body Ns_pair_sign (t_pair_sign K) := by
  intro x hx
  dsimp only [pm_pair_sign]
  show SX _ [_, _, _] _
  obtain ⟨h1, h2, h3, h4⟩ := hx
  refine q_set (ex_add (ex_mulA (ex_int (K := K)) (ex_ixT0 (ex_var rfl))) (ex_ixT1 (ex_var rfl))) ?_
  refine q_set (ex_ifI (et_or (et_test (ex_eqI (ex_ixT1 (ex_var rfl)) (ex_int (K := K)))) fun _ => (et_test (ex_ge (ex_mulA (ex_var rfl) (ex_var rfl)) (ex_mulA (ex_mulA (ex_int (K := K)) (ex_ixT1 (ex_var rfl))) (ex_ixT1 (ex_var rfl)))))) (fun _ => (ex_var rfl)) fun _ => (ex_ixT1 (ex_var rfl))) ?_
  exact sx_ret (ex_ifI (et_test (ex_gt (ex_var rfl) (ex_int (K := K)))) (fun _ => (ex_int (K := K))) fun _ => (ex_ifI (et_test (ex_lt (ex_var rfl) (ex_int (K := K)))) (fun _ => (ex_neg (ex_int (K := K)))) fun _ => (ex_int (K := K))))
theorem ok_pair_sign (T : Tx K mg) {f : Addr} {fd : FuncData} (F : FnP K "pair_sign" "pair_sign" s_pair_sign f fd) : FnOk P w K mg base CX0 1 f fd ["pair"] (pm_pair_sign K).sp := by
  have sc := sc_pair_sign
  refine F.ok sc (fun vs H Q E h => Pm.len (fun _ => rfl) vs H Q E h) (fun cdv A outer s H vs Q E hr h => ⟨t_pair_sign K, PSs.nox ?_, Pm.go (sx_pair_sign T) vs H Q E h⟩)
  exact (pss_cons (ps_set (i := 1) sc.nd rfl (by first | exact Or.inl rfl | exact Or.inr rfl) (pe_op op_add (pe_op op_mul pe_int (pe_ix ix_tup (pv 0) pe_int (fun _ _ => rfl))) (pe_ix ix_tup (pv 0) pe_int (fun _ _ => rfl))))
      (pss_cons (ps_set (i := 2) sc.nd rfl (by first | exact Or.inl rfl | exact Or.inr rfl) (pe_ifExp (PW.pt (pw_or (pt_cmpR op_eq (pe_ix ix_tup (pv 0) pe_int (fun _ _ => rfl)) pe_int (nomark _)) (pw_or1 (pt_cmpR op_ge (pe_op op_mul (pv 1) (pv 1)) (pe_op op_mul (pe_op op_mul pe_int (pe_ix ix_tup (pv 0) pe_int (fun _ _ => rfl))) (pe_ix ix_tup (pv 0) pe_int (fun _ _ => rfl))) (nomark _))))) (pv 1) (pe_ix ix_tup (pv 0) pe_int (fun _ _ => rfl))))
      (pss_one (ps_ret (pe_ifExp (pt_cmpR op_gt (pv 2) pe_int (nomark _)) pe_int (pe_ifExp (pt_cmpR op_lt (pv 2) pe_int (nomark _)) (pe_un un_neg pe_int) pe_int))))))
abbrev s_axis_of : Stmt := top 23
abbrev Ns_axis_of : List Str := ["size", "button", "place"]
theorem sc_axis_of : FnScope Ns_axis_of ["size", "button"] (defScope s_axis_of) := ⟨rfl, rfl, rfl, by decide +kernel, rfl, by decide +kernel, by decide +kernel⟩
def t_axis_of (K : PySem.W.Frag) : TS := (tRet (tCB (rTupOf K) (tCons (tLc (iRng1 (tCons (tVar 0) tNil)) (gName 2) tYes (tIf (tTest (tOp rEq (tVar 2) (tVar 1))) (tTup (tCons (tC (.int 1)) (tCons (tC (.int 0)) tNil))) (tC (vNOUGHT K))) [2]) tNil)))
theorem sx_axis_of (T : Tx K mg) : (pm_axis_of K).body Ns_axis_of (t_axis_of K) := by
  rintro ⟨n, s⟩ hn
  dsimp only [pm_axis_of]
  show SX _ [_, _, _] _
  have hn : n ≤ 3 := hn
  refine sx_ret (ex_is (ex_tupL (exl_lcB (iw_rangeF (ea_cons (ex_var rfl) ea_nil)) (fun i => gx_name) fun i => (ex_ifD (et_test (ex_eqI (ex_var rfl) (ex_var rfl))) (fun _ => (ex_tup (ead_cons (ex_int (K := K)) (ead_cons (ex_int (K := K)) ead_nil)))) fun _ => (ex_NOUGHT T)))) (kd_V fun i => ?_))
  show (bif decide ((i.val : Int) = (s.val : Int)) then PyData.tuple [.int 1, .int 0] else encG 0) = encG (axis s i)
  unfold axis
  by_cases h : i = s
  · rw [h, if_pos rfl, decide_eq_true rfl]; rfl
  · rw [if_neg h, decide_eq_false (fun q => h (Fin.ext (by omega)))]; rfl
theorem ok_axis_of (T : Tx K mg) {f : Addr} {fd : FuncData} (F : FnP K "axis_of" "axis_of" s_axis_of f fd) : FnOk P w K mg base CX0 1 f fd ["size", "button"] (pm_axis_of K).sp := by
  have sc := sc_axis_of
  refine F.ok sc (fun vs H Q E h => Pm.len (fun _ => rfl) vs H Q E h) (fun cdv A outer s H vs Q E hr h => ⟨t_axis_of K, PSs.nox ?_, Pm.go (sx_axis_of T) vs H Q E h⟩)
  exact (pss_one (ps_ret (pe_callTy call_tuple_of rfl T.tuple_ (by decide +kernel) (pa_cons (pe_lc (own := [("place", 2)]) (g := (gName 2)) (tt := tYes) (te := (tIf (tTest (tOp rEq (tVar 2) (tVar 1))) (tTup (tCons (tC (.int 1)) (tCons (tC (.int 0)) tNil))) (tC (vNOUGHT K)))) rfl sc.nd (pi_range1 rfl T.range_ (pa_cons (pv 0) pa_nil)) (blkOk_by (own := [("place", 2)]) (N := Ns_axis_of) (sc := defScope s_axis_of) (by decide +kernel)) (fun _ _ _ _ _ => (pg_name (i := 2) sc.nd rfl (by first | exact Or.inl rfl | exact Or.inr rfl))) (fun _ _ _ _ _ => pts_nil) (fun _ _ _ _ _ => (pe_ifExp (pt_cmpR op_eq (pv 2) (pv 1) (nomark _)) (pe_tup (pa_cons pe_int (pa_cons pe_int pa_nil))) (C8.pe_gc rfl T.cNOUGHT)))) pa_nil))))
abbrev s_all_axes : Stmt := top 24
abbrev Ns_all_axes : List Str := ["size", "button"]
theorem sc_all_axes : FnScope Ns_all_axes ["size"] (defScope s_all_axes) := ⟨rfl, rfl, rfl, by decide +kernel, rfl, by decide +kernel, by decide +kernel⟩
def t_all_axes (K : PySem.W.Frag) : TS := (tRet (tCB (rTupOf K) (tCons (tLc (iRng1 (tCons (tVar 0) tNil)) (gName 1) tYes (tCall (pm_axis_of K).sp [] E0 (tCons (tVar 0) (tCons (tVar 1) tNil))) [1]) tNil)))
theorem sx_all_axes (T : Tx K mg) : (pm_all_axes K).body Ns_all_axes (t_all_axes K) := by
  intro n hn
  dsimp only [pm_all_axes]
  show SX _ [_, _] _
  have hn : n ≤ 3 := hn
  refine sx_ret (ex_is (ex_tupL (exl_lcB (iw_rangeF (ea_cons (ex_var rfl) ea_nil)) (fun i => gx_name) fun i => (ex_pm (pm_axis_of K) ⟨n, i⟩ (ea_cons (ex_var rfl) (ea_cons (ex_var rfl) ea_nil)) hn))) (kd_M fun i => rfl))
theorem ok_all_axes (T : Tx K mg) (c_axis_of : C8.Cal P w K mg base 1 "axis_of" (pm_axis_of K).sp []) {f : Addr} {fd : FuncData} (F : FnP K "all_axes" "all_axes" s_all_axes f fd) : FnOk P w K mg base CX0 2 f fd ["size"] (pm_all_axes K).sp := by
  have sc := sc_all_axes
  refine F.ok sc (fun vs H Q E h => Pm.len (fun _ => rfl) vs H Q E h) (fun cdv A outer s H vs Q E hr h => ⟨t_all_axes K, PSs.nox ?_, Pm.go (sx_all_axes T) vs H Q E h⟩)
  exact (pss_one (ps_ret (pe_callTy call_tuple_of rfl T.tuple_ (by decide +kernel) (pa_cons (pe_lc (own := [("button", 1)]) (g := (gName 1)) (tt := tYes) (te := (tCall (pm_axis_of K).sp [] E0 (tCons (tVar 0) (tCons (tVar 1) tNil)))) rfl sc.nd (pi_range1 rfl T.range_ (pa_cons (pv 0) pa_nil)) (blkOk_by (own := [("button", 1)]) (N := Ns_all_axes) (sc := defScope s_all_axes) (by decide +kernel)) (fun _ _ _ _ _ => (pg_name (i := 1) sc.nd rfl (by first | exact Or.inl rfl | exact Or.inr rfl))) (fun _ _ _ _ _ => pts_nil) (fun _ _ _ _ _ => (C8.pe_c c_axis_of hr (by decide) rfl (pa_cons (pv 0) (pa_cons (pv 1) pa_nil))))) pa_nil))))
end
end Wk
namespace Wk
open PySem L2
section
variable {P : Program} {w : World} {K : PySem.W.Frag} {mg : Str → Option Value} {base : Heap}
abbrev s_level_at : Stmt := top 26
abbrev Ns_level_at : List Str := ["weights", "vector", "button", "whole", "gold", "one", "two", "first", "second"]
theorem sc_level_at : FnScope Ns_level_at ["weights", "vector", "button"] (defScope s_level_at) := ⟨rfl, rfl, rfl, by decide +kernel, rfl, by decide +kernel, by decide +kernel⟩
def t_level_at (K : PySem.W.Frag) : TS := (tSeq (tAsg (tC (.int 0)) (gName 3))
    (tSeq (tAsg (tC (.int 0)) (gName 4))
    (tSeq (tFor (RZ.iZipA K (tCons (tOp (rIxT K) (tVar 0) (tVar 2)) (tCons (tVar 1) tNil))) (gTup K 2 (gCons (gTup K 2 (gCons (gName 5) (gCons (gName 6) gNil))) (gCons (gTup K 2 (gCons (gName 7) (gCons (gName 8) gNil))) gNil))) (tIfS (tTest (tOp rEq (tVar 6) (tC (.int 0)))) (tSeq (tAsg (tOp (rI0 fun i j => .int (i + j)) (tVar 3) (tOp (rI CMul fun i j => .int (i * j)) (tVar 5) (tVar 7))) (gName 3))
    (tAsg (tOp (rI0 fun i j => .int (i + j)) (tVar 4) (tOp (rI CMul fun i j => .int (i * j)) (tVar 5) (tVar 8))) (gName 4))) (tSeq (tAsg (tOp (rI0 fun i j => .int (i + j)) (tOp (rI0 fun i j => .int (i + j)) (tVar 3) (tOp (rI CMul fun i j => .int (i * j)) (tVar 5) (tVar 7))) (tOp (rI CMul fun i j => .int (i * j)) (tVar 6) (tVar 8))) (gName 3))
    (tAsg (tOp (rI0 fun i j => .int (i + j)) (tOp (rI0 fun i j => .int (i + j)) (tOp (rI0 fun i j => .int (i + j)) (tVar 4) (tOp (rI CMul fun i j => .int (i * j)) (tVar 5) (tVar 8))) (tOp (rI CMul fun i j => .int (i * j)) (tVar 6) (tVar 7))) (tOp (rI CMul fun i j => .int (i * j)) (tVar 6) (tVar 8))) (gName 4)))))
    (tRet (tTup (tCons (tVar 3) (tCons (tVar 4) tNil)))))))
theorem sx_level_at (T : Tx K mg) : (pm_level_at K).body Ns_level_at (t_level_at K) := by
  rintro ⟨S, x, s⟩ _
  dsimp only [pm_level_at]
  show SX _ [_, _, _, _, _, _, _, _, _] _
  have sz := S.h3
  refine q_set (ex_int (K := K)) ?_
  refine q_set (ex_int (K := K)) ?_
  refine q_for (fun i Γ => ∃ a b c d, Γ = [.kn (kd K (encA S)), .kn (kd K (encV x)), .kn (kd K (encF s)), .kn (kd K (.int (psum (fun t => S.S.A s t * x t) i).a)), .kn (kd K (.int (psum (fun t => S.S.A s t * x t) i).b)), a, b, c, d]) (iw_zipF (ex_row (ex_var rfl) (ex_var rfl)) (ex_var rfl)) ⟨_, _, _, _, rfl⟩ ?_ ?_
  · rintro i Γ hi ⟨a, b, c, d, rfl⟩
    have eb := A_small S s ⟨i, hi⟩
    have ps := psum_succ (fun t => S.S.A s t * x t) ⟨i, hi⟩
    refine ⟨_, _, by rw [kdAt_fin (fun t => PyData.tuple [encG (S.S.A s t), encG (x t)]) ⟨i, hi⟩]; exact (gx_tup (gxs_cons (gx_tup (gxs_cons gx_name (gxs_cons gx_name gxs_nil))) (gxs_cons (gx_tup (gxs_cons gx_name (gxs_cons gx_name gxs_nil))) gxs_nil))), ?_⟩
    refine s_if (et_test (ex_eqI (ex_var rfl) (ex_int (K := K)))) (fun e => ?_) (fun e => ?_)
    · have e : (S.S.A s ⟨i, hi⟩).b = 0 := of_decide_eq_true e
      refine q_set (ex_add (ex_var rfl) (ex_mulA (ex_var rfl) (ex_var rfl))) ?_
      refine s_set (ex_add (ex_var rfl) (ex_mulA (ex_var rfl) (ex_var rfl))) ?_
      have ea : (psum (fun t => S.S.A s t * x t) (i + 1)).a = (psum (fun t => S.S.A s t * x t) i).a + (S.S.A s ⟨i, hi⟩).a * (x ⟨i, hi⟩).a := by
        rw [show i + 1 = (⟨i, hi⟩ : Fin S.n).val + 1 from rfl, ps]; simp [e]
      have eb : (psum (fun t => S.S.A s t * x t) (i + 1)).b = (psum (fun t => S.S.A s t * x t) i).b + (S.S.A s ⟨i, hi⟩).a * (x ⟨i, hi⟩).b := by
        rw [show i + 1 = (⟨i, hi⟩ : Fin S.n).val + 1 from rfl, ps]; simp [e]
      dsimp only
      rw [ea, eb]
      exact ⟨_, _, _, _, rfl⟩
    · refine q_set (ex_add (ex_add (ex_var rfl) (ex_mulA (ex_var rfl) (ex_var rfl))) (ex_mulA (ex_var rfl) (ex_var rfl))) ?_
      refine s_set (ex_add (ex_add (ex_add (ex_var rfl) (ex_mulA (ex_var rfl) (ex_var rfl))) (ex_mulA (ex_var rfl) (ex_var rfl))) (ex_mulA (ex_var rfl) (ex_var rfl))) ?_
      have ea : (psum (fun t => S.S.A s t * x t) (i + 1)).a = (psum (fun t => S.S.A s t * x t) i).a + (S.S.A s ⟨i, hi⟩).a * (x ⟨i, hi⟩).a + (S.S.A s ⟨i, hi⟩).b * (x ⟨i, hi⟩).b := by
        rw [show i + 1 = (⟨i, hi⟩ : Fin S.n).val + 1 from rfl, ps]; simp; ac_rfl
      have eb : (psum (fun t => S.S.A s t * x t) (i + 1)).b = (psum (fun t => S.S.A s t * x t) i).b + (S.S.A s ⟨i, hi⟩).a * (x ⟨i, hi⟩).b + (S.S.A s ⟨i, hi⟩).b * (x ⟨i, hi⟩).a + (S.S.A s ⟨i, hi⟩).b * (x ⟨i, hi⟩).b := by
        rw [show i + 1 = (⟨i, hi⟩ : Fin S.n).val + 1 from rfl, ps]; simp; ac_rfl
      dsimp only
      rw [ea, eb]
      exact ⟨_, _, _, _, rfl⟩
  · rintro Γ ⟨a, b, c, d, rfl⟩
    refine sx_ret (ex_is (ex_tup (ead_cons (ex_var rfl) (ead_cons (ex_var rfl) ead_nil))) ?_)
    rw [psum_all]; rfl
theorem ok_level_at (T : Tx K mg) {f : Addr} {fd : FuncData} (F : FnP K "level_at" "level_at" s_level_at f fd) : FnOk P w K mg base CX0 1 f fd ["weights", "vector", "button"] (pm_level_at K).sp := by
  have sc := sc_level_at
  refine F.ok sc (fun vs H Q E h => Pm.len (fun _ => rfl) vs H Q E h) (fun cdv A outer s H vs Q E hr h => ⟨t_level_at K, PSs.nox ?_, Pm.go (sx_level_at T) vs H Q E h⟩)
  exact (pss_cons (ps_set (i := 3) sc.nd rfl (by first | exact Or.inl rfl | exact Or.inr rfl) pe_int)
      (pss_cons (ps_set (i := 4) sc.nd rfl (by first | exact Or.inl rfl | exact Or.inr rfl) pe_int)
      (pss_cons (ps_for PassesOwn.never rfl (RZ.pi_zipA (by rfl) T.zip_ (pa_cons (pe_ix ix_tup (pv 0) (pv 2) (fun _ _ => rfl)) (pa_cons (pv 1) pa_nil))) (pg_tup rfl (pgs_cons (pg_tup rfl (pgs_cons (pg_name (i := 5) sc.nd rfl (by first | exact Or.inl rfl | exact Or.inr rfl)) (pgs_cons (pg_name (i := 6) sc.nd rfl (by first | exact Or.inl rfl | exact Or.inr rfl)) pgs_nil))) (pgs_cons (pg_tup rfl (pgs_cons (pg_name (i := 7) sc.nd rfl (by first | exact Or.inl rfl | exact Or.inr rfl)) (pgs_cons (pg_name (i := 8) sc.nd rfl (by first | exact Or.inl rfl | exact Or.inr rfl)) pgs_nil))) pgs_nil))) (pss_one (ps_if (pt_cmpR op_eq (pv 6) pe_int (nomark _)) (pss_cons (ps_set (i := 3) sc.nd rfl (by first | exact Or.inl rfl | exact Or.inr rfl) (pe_op op_add (pv 3) (pe_op op_mul (pv 5) (pv 7))))
      (pss_one (ps_set (i := 4) sc.nd rfl (by first | exact Or.inl rfl | exact Or.inr rfl) (pe_op op_add (pv 4) (pe_op op_mul (pv 5) (pv 8)))))) (pss_cons (ps_set (i := 3) sc.nd rfl (by first | exact Or.inl rfl | exact Or.inr rfl) (pe_op op_add (pe_op op_add (pv 3) (pe_op op_mul (pv 5) (pv 7))) (pe_op op_mul (pv 6) (pv 8))))
      (pss_one (ps_set (i := 4) sc.nd rfl (by first | exact Or.inl rfl | exact Or.inr rfl) (pe_op op_add (pe_op op_add (pe_op op_add (pv 4) (pe_op op_mul (pv 5) (pv 8))) (pe_op op_mul (pv 6) (pv 7))) (pe_op op_mul (pv 6) (pv 8)))))))))
      (pss_one (ps_ret (pe_tup (pa_cons (pv 3) (pa_cons (pv 4) pa_nil))))))))
abbrev s_turned : Stmt := top 27
abbrev Ns_turned : List Str := ["weights", "vector", "button", "whole", "gold", "first", "second"]
theorem sc_turned : FnScope Ns_turned ["weights", "vector", "button"] (defScope s_turned) := ⟨rfl, rfl, rfl, by decide +kernel, rfl, by decide +kernel, by decide +kernel⟩
def t_turned (K : PySem.W.Frag) : TS := (tSeq (tAsg (tCall (pm_level_at K).sp [] E0 (tCons (tVar 0) (tCons (tVar 1) (tCons (tVar 2) tNil)))) (gTup K 2 (gCons (gName 3) (gCons (gName 4) gNil))))
    (tSeq (tIfS (tAnd (tTest (tOp rEq (tVar 3) (tC (.int 0)))) (tTest (tOp rEq (tVar 4) (tC (.int 0))))) (tRet (tVar 1)) tNext)
    (tSeq (tAsg (tOp (rIxT K) (tVar 1) (tVar 2)) (gTup K 2 (gCons (gName 5) (gCons (gName 6) gNil))))
    (tRet (tOp (rCatA K) (tOp (rCatA K) (tSl (rSlA K) (tVar 1) tNoPart (tPart (tVar 2))) (tTup (tCons (tTup (tCons (tOp (rI0 fun i j => .int (i - j)) (tVar 5) (tVar 3)) (tCons (tOp (rI0 fun i j => .int (i - j)) (tVar 6) (tVar 4)) tNil))) tNil))) (tSl (rSlA K) (tVar 1) (tPart (tOp (rI0 fun i j => .int (i + j)) (tVar 2) (tC (.int 1)))) tNoPart))))))
theorem sx_turned (T : Tx K mg) : (pm_turned K).body Ns_turned (t_turned K) := by
  rintro ⟨S, x, s⟩ _
  dsimp only [pm_turned]
  show SX _ [_, _, _, _, _, _, _] _
  have sz := S.h3
  refine q_asg (ex_pm (pm_level_at K) ⟨S, x, s⟩ (ea_cons (ex_var rfl) (ea_cons (ex_var rfl) (ea_cons (ex_var rfl) ea_nil))) trivial) (gx_tup (gxs_cons gx_name (gxs_cons gx_name gxs_nil))) ?_
  refine q_if (et_and (et_test (ex_eqI (ex_var rfl) (ex_int (K := K)))) fun _ => (et_test (ex_eqI (ex_var rfl) (ex_int (K := K))))) (fun e => ?_) (fun e => ?_)
  · rw [Bool.and_eq_true, decide_eq_true_iff, decide_eq_true_iff] at e
    have e0 : lev S.S.A s x = 0 := G.ext' e.1 e.2
    refine q_ret (ex_is (ex_var rfl) ?_)
    show kd K (encV x) = kd K (encV (rf S.S.A s x))
    have : rf S.S.A s x = x := by
      funext p
      unfold rf
      rw [e0]
      by_cases h : p = s
      · rw [if_pos h]; grind
      · rw [if_neg h]
    rw [this]
  · refine sx_pass ?_
    refine q_asg (ex_ent (ex_var rfl) (ex_var rfl)) (gx_tup (gxs_cons gx_name (gxs_cons gx_name gxs_nil))) ?_
    refine sx_ret (ex_is (ex_cat (ex_cat (ex_slT (ex_var rfl) eo_none (eo_some (ex_var rfl))) (ex_tup (ead_cons (ex_tup (ead_cons (ex_sub (ex_var rfl) (ex_var rfl)) (ead_cons (ex_sub (ex_var rfl) (ex_var rfl)) ead_nil))) ead_nil)) ?_) (ex_slT (ex_var rfl) (eo_some (ex_add (ex_var rfl) (ex_int (K := K)))) eo_none) ?_) ?_)
    · unfold cutD; simp only [List.length_take, List.length_drop, List.length_cons, List.length_nil, fins_len]; omega
    · unfold cutD; simp only [List.length_take, List.length_drop, List.length_append, List.length_cons, List.length_nil, fins_len]; omega
    · have e1 : cutD (fins fun p => encG (x p)) none (some (s.val : Int)) = (fins fun p => encG (x p)).take s.val := cutD_to
      have e2 : cutD (fins fun p => encG (x p)) (some ((s.val : Int) + 1)) none = (fins fun p => encG (x p)).drop (s.val + 1) := cutD_from (k := s.val + 1)
      rw [e1, e2, fins_put]
      refine kd_V fun i => ?_
      show (if i = s then _ else encG (x i)) = encG (rf S.S.A s x i)
      unfold rf
      by_cases h : i = s
      · rw [if_pos h, if_pos h, h]; exact G_of (by simp) (by simp)
      · rw [if_neg h, if_neg h]
theorem ok_turned (T : Tx K mg) (c_level_at : C8.Cal P w K mg base 1 "level_at" (pm_level_at K).sp []) {f : Addr} {fd : FuncData} (F : FnP K "turned" "turned" s_turned f fd) : FnOk P w K mg base CX0 2 f fd ["weights", "vector", "button"] (pm_turned K).sp := by
  have sc := sc_turned
  refine F.ok sc (fun vs H Q E h => Pm.len (fun _ => rfl) vs H Q E h) (fun cdv A outer s H vs Q E hr h => ⟨t_turned K, PSs.nox ?_, Pm.go (sx_turned T) vs H Q E h⟩)
  exact (pss_cons (ps_asg (C8.pe_c c_level_at hr (by decide) rfl (pa_cons (pv 0) (pa_cons (pv 1) (pa_cons (pv 2) pa_nil)))) (pg_tup rfl (pgs_cons (pg_name (i := 3) sc.nd rfl (by first | exact Or.inl rfl | exact Or.inr rfl)) (pgs_cons (pg_name (i := 4) sc.nd rfl (by first | exact Or.inl rfl | exact Or.inr rfl)) pgs_nil))))
      (pss_cons (ps_if (PW.pt (pw_and (pt_cmpR op_eq (pv 3) pe_int (nomark _)) (pw_and1 (pt_cmpR op_eq (pv 4) pe_int (nomark _))))) (pss_one (ps_ret (pv 1))) pss_nil)
      (pss_cons (ps_asg (pe_ix ix_tup (pv 1) (pv 2) (fun _ _ => rfl)) (pg_tup rfl (pgs_cons (pg_name (i := 5) sc.nd rfl (by first | exact Or.inl rfl | exact Or.inr rfl)) (pgs_cons (pg_name (i := 6) sc.nd rfl (by first | exact Or.inl rfl | exact Or.inr rfl)) pgs_nil))))
      (pss_one (ps_ret (pe_op op_catA (pe_op op_catA (pe_slice sl_tupA (pv 1) po_none (po_some (pv 2))) (pe_tup (pa_cons (pe_tup (pa_cons (pe_op op_sub (pv 5) (pv 3)) (pa_cons (pe_op op_sub (pv 6) (pv 4)) pa_nil))) pa_nil))) (pe_slice sl_tupA (pv 1) (po_some (pe_op op_add (pv 2) pe_int)) po_none)))))))
abbrev s_vector_less : Stmt := top 28
abbrev Ns_vector_less : List Str := ["vector", "factor", "other", "one", "two", "whole", "gold", "first", "second"]
theorem sc_vector_less : FnScope Ns_vector_less ["vector", "factor", "other"] (defScope s_vector_less) := ⟨rfl, rfl, rfl, by decide +kernel, rfl, by decide +kernel, by decide +kernel⟩
def t_vector_less (K : PySem.W.Frag) : TS := (tSeq (tAsg (tVar 1) (gTup K 2 (gCons (gName 3) (gCons (gName 4) gNil))))
    (tSeq (tIfS (tTest (tOp rEq (tVar 4) (tC (.int 0)))) (tRet (tCB (rTupOf K) (tCons (tLc (RZ.iZipA K (tCons (tVar 0) (tCons (tVar 2) tNil))) (gTup K 2 (gCons (gTup K 2 (gCons (gName 5) (gCons (gName 6) gNil))) (gCons (gTup K 2 (gCons (gName 7) (gCons (gName 8) gNil))) gNil))) tYes (tTup (tCons (tOp (rI0 fun i j => .int (i - j)) (tVar 5) (tOp (rI CMul fun i j => .int (i * j)) (tVar 3) (tVar 7))) (tCons (tOp (rI0 fun i j => .int (i - j)) (tVar 6) (tOp (rI CMul fun i j => .int (i * j)) (tVar 3) (tVar 8))) tNil))) [5, 6, 7, 8]) tNil))) tNext)
    (tRet (tCB (rTupOf K) (tCons (tLc (RZ.iZipA K (tCons (tVar 0) (tCons (tVar 2) tNil))) (gTup K 2 (gCons (gTup K 2 (gCons (gName 5) (gCons (gName 6) gNil))) (gCons (gTup K 2 (gCons (gName 7) (gCons (gName 8) gNil))) gNil))) tYes (tTup (tCons (tOp (rI0 fun i j => .int (i - j)) (tOp (rI0 fun i j => .int (i - j)) (tVar 5) (tOp (rI CMul fun i j => .int (i * j)) (tVar 3) (tVar 7))) (tOp (rI CMul fun i j => .int (i * j)) (tVar 4) (tVar 8))) (tCons (tOp (rI0 fun i j => .int (i - j)) (tOp (rI0 fun i j => .int (i - j)) (tOp (rI0 fun i j => .int (i - j)) (tVar 6) (tOp (rI CMul fun i j => .int (i * j)) (tVar 3) (tVar 8))) (tOp (rI CMul fun i j => .int (i * j)) (tVar 4) (tVar 7))) (tOp (rI CMul fun i j => .int (i * j)) (tVar 4) (tVar 8))) tNil))) [5, 6, 7, 8]) tNil)))))
theorem sx_vector_less (T : Tx K mg) : (pm_vector_less K).body Ns_vector_less (t_vector_less K) := by
  rintro ⟨n, x, c, y⟩ ⟨hn, hb⟩
  dsimp only [pm_vector_less]
  show SX _ [_, _, _, _, _, _, _, _, _] _
  have hn : n ≤ 3 := hn
  have hb : Bd c ∨ ∀ p, Bd (y p) := hb
  have haa : ∀ p, CMul c.a (y p).a := fun p => hb.elim (fun h => .inl ⟨by unfold Bd at h; omega, by unfold Bd at h; omega⟩) fun h => .inr ⟨by have := h p; unfold Bd at this; omega, by have := h p; unfold Bd at this; omega⟩
  have hab : ∀ p, CMul c.a (y p).b := fun p => hb.elim (fun h => .inl ⟨by unfold Bd at h; omega, by unfold Bd at h; omega⟩) fun h => .inr ⟨by have := h p; unfold Bd at this; omega, by have := h p; unfold Bd at this; omega⟩
  have hba : ∀ p, CMul c.b (y p).a := fun p => hb.elim (fun h => .inl ⟨by unfold Bd at h; omega, by unfold Bd at h; omega⟩) fun h => .inr ⟨by have := h p; unfold Bd at this; omega, by have := h p; unfold Bd at this; omega⟩
  have hbb : ∀ p, CMul c.b (y p).b := fun p => hb.elim (fun h => .inl ⟨by unfold Bd at h; omega, by unfold Bd at h; omega⟩) fun h => .inr ⟨by have := h p; unfold Bd at this; omega, by have := h p; unfold Bd at this; omega⟩
  refine q_asg (ex_var rfl) (gx_tup (gxs_cons gx_name (gxs_cons gx_name gxs_nil))) ?_
  show SX _ [_, _, _, _, _, _, _, _, _] _
  refine q_if (et_test (ex_eqI (ex_var rfl) (ex_int (K := K)))) (fun e => ?_) (fun e => ?_)
  · have e : c.b = 0 := of_decide_eq_true e
    exact q_ret (ex_is (ex_tupL (exl_lcB (iw_zipF (ex_var rfl) (ex_var rfl)) (fun i => (gx_tup (gxs_cons (gx_tup (gxs_cons gx_name (gxs_cons gx_name gxs_nil))) (gxs_cons (gx_tup (gxs_cons gx_name (gxs_cons gx_name gxs_nil))) gxs_nil)))) fun i => (ex_tup (ead_cons (ex_sub (ex_var rfl) (ex_mul (ex_var rfl) (ex_var rfl) (by first | exact haa _ | exact hab _ | exact hba _ | exact hbb _))) (ead_cons (ex_sub (ex_var rfl) (ex_mul (ex_var rfl) (ex_var rfl) (by first | exact haa _ | exact hab _ | exact hba _ | exact hbb _))) ead_nil))))) (kd_V fun i => G_of (by unfold less; simp [e]) (by unfold less; simp [e])))
  · refine sx_pass ?_
    exact sx_ret (ex_is (ex_tupL (exl_lcB (iw_zipF (ex_var rfl) (ex_var rfl)) (fun i => (gx_tup (gxs_cons (gx_tup (gxs_cons gx_name (gxs_cons gx_name gxs_nil))) (gxs_cons (gx_tup (gxs_cons gx_name (gxs_cons gx_name gxs_nil))) gxs_nil)))) fun i => (ex_tup (ead_cons (ex_sub (ex_sub (ex_var rfl) (ex_mul (ex_var rfl) (ex_var rfl) (by first | exact haa _ | exact hab _ | exact hba _ | exact hbb _))) (ex_mul (ex_var rfl) (ex_var rfl) (by first | exact haa _ | exact hab _ | exact hba _ | exact hbb _))) (ead_cons (ex_sub (ex_sub (ex_sub (ex_var rfl) (ex_mul (ex_var rfl) (ex_var rfl) (by first | exact haa _ | exact hab _ | exact hba _ | exact hbb _))) (ex_mul (ex_var rfl) (ex_var rfl) (by first | exact haa _ | exact hab _ | exact hba _ | exact hbb _))) (ex_mul (ex_var rfl) (ex_var rfl) (by first | exact haa _ | exact hab _ | exact hba _ | exact hbb _))) ead_nil))))) (kd_V fun i => G_of (by unfold less; simp; omega) (by unfold less; simp; omega)))
theorem ok_vector_less (T : Tx K mg) {f : Addr} {fd : FuncData} (F : FnP K "vector_less" "vector_less" s_vector_less f fd) : FnOk P w K mg base CX0 1 f fd ["vector", "factor", "other"] (pm_vector_less K).sp := by
  have sc := sc_vector_less
  refine F.ok sc (fun vs H Q E h => Pm.len (fun _ => rfl) vs H Q E h) (fun cdv A outer s H vs Q E hr h => ⟨t_vector_less K, PSs.nox ?_, Pm.go (sx_vector_less T) vs H Q E h⟩)
  exact (pss_cons (ps_asg (pv 1) (pg_tup rfl (pgs_cons (pg_name (i := 3) sc.nd rfl (by first | exact Or.inl rfl | exact Or.inr rfl)) (pgs_cons (pg_name (i := 4) sc.nd rfl (by first | exact Or.inl rfl | exact Or.inr rfl)) pgs_nil))))
      (pss_cons (ps_if (pt_cmpR op_eq (pv 4) pe_int (nomark _)) (pss_one (ps_ret (pe_callTy call_tuple_of rfl T.tuple_ (by decide +kernel) (pa_cons (pe_lc (own := [("whole", 5), ("gold", 6), ("first", 7), ("second", 8)]) (g := (gTup K 2 (gCons (gTup K 2 (gCons (gName 5) (gCons (gName 6) gNil))) (gCons (gTup K 2 (gCons (gName 7) (gCons (gName 8) gNil))) gNil)))) (tt := tYes) (te := (tTup (tCons (tOp (rI0 fun i j => .int (i - j)) (tVar 5) (tOp (rI CMul fun i j => .int (i * j)) (tVar 3) (tVar 7))) (tCons (tOp (rI0 fun i j => .int (i - j)) (tVar 6) (tOp (rI CMul fun i j => .int (i * j)) (tVar 3) (tVar 8))) tNil)))) rfl sc.nd (RZ.pi_zipA (by rfl) T.zip_ (pa_cons (pv 0) (pa_cons (pv 2) pa_nil))) (blkOk_by (own := [("whole", 5), ("gold", 6), ("first", 7), ("second", 8)]) (N := Ns_vector_less) (sc := defScope s_vector_less) (by decide +kernel)) (fun _ _ _ _ _ => (pg_tup rfl (pgs_cons (pg_tup rfl (pgs_cons (pg_name (i := 5) sc.nd rfl (by first | exact Or.inl rfl | exact Or.inr rfl)) (pgs_cons (pg_name (i := 6) sc.nd rfl (by first | exact Or.inl rfl | exact Or.inr rfl)) pgs_nil))) (pgs_cons (pg_tup rfl (pgs_cons (pg_name (i := 7) sc.nd rfl (by first | exact Or.inl rfl | exact Or.inr rfl)) (pgs_cons (pg_name (i := 8) sc.nd rfl (by first | exact Or.inl rfl | exact Or.inr rfl)) pgs_nil))) pgs_nil)))) (fun _ _ _ _ _ => pts_nil) (fun _ _ _ _ _ => (pe_tup (pa_cons (pe_op op_sub (pv 5) (pe_op op_mul (pv 3) (pv 7))) (pa_cons (pe_op op_sub (pv 6) (pe_op op_mul (pv 3) (pv 8))) pa_nil))))) pa_nil)))) pss_nil)
      (pss_one (ps_ret (pe_callTy call_tuple_of rfl T.tuple_ (by decide +kernel) (pa_cons (pe_lc (own := [("whole", 5), ("gold", 6), ("first", 7), ("second", 8)]) (g := (gTup K 2 (gCons (gTup K 2 (gCons (gName 5) (gCons (gName 6) gNil))) (gCons (gTup K 2 (gCons (gName 7) (gCons (gName 8) gNil))) gNil)))) (tt := tYes) (te := (tTup (tCons (tOp (rI0 fun i j => .int (i - j)) (tOp (rI0 fun i j => .int (i - j)) (tVar 5) (tOp (rI CMul fun i j => .int (i * j)) (tVar 3) (tVar 7))) (tOp (rI CMul fun i j => .int (i * j)) (tVar 4) (tVar 8))) (tCons (tOp (rI0 fun i j => .int (i - j)) (tOp (rI0 fun i j => .int (i - j)) (tOp (rI0 fun i j => .int (i - j)) (tVar 6) (tOp (rI CMul fun i j => .int (i * j)) (tVar 3) (tVar 8))) (tOp (rI CMul fun i j => .int (i * j)) (tVar 4) (tVar 7))) (tOp (rI CMul fun i j => .int (i * j)) (tVar 4) (tVar 8))) tNil)))) rfl sc.nd (RZ.pi_zipA (by rfl) T.zip_ (pa_cons (pv 0) (pa_cons (pv 2) pa_nil))) (blkOk_by (own := [("whole", 5), ("gold", 6), ("first", 7), ("second", 8)]) (N := Ns_vector_less) (sc := defScope s_vector_less) (by decide +kernel)) (fun _ _ _ _ _ => (pg_tup rfl (pgs_cons (pg_tup rfl (pgs_cons (pg_name (i := 5) sc.nd rfl (by first | exact Or.inl rfl | exact Or.inr rfl)) (pgs_cons (pg_name (i := 6) sc.nd rfl (by first | exact Or.inl rfl | exact Or.inr rfl)) pgs_nil))) (pgs_cons (pg_tup rfl (pgs_cons (pg_name (i := 7) sc.nd rfl (by first | exact Or.inl rfl | exact Or.inr rfl)) (pgs_cons (pg_name (i := 8) sc.nd rfl (by first | exact Or.inl rfl | exact Or.inr rfl)) pgs_nil))) pgs_nil)))) (fun _ _ _ _ _ => pts_nil) (fun _ _ _ _ _ => (pe_tup (pa_cons (pe_op op_sub (pe_op op_sub (pv 5) (pe_op op_mul (pv 3) (pv 7))) (pe_op op_mul (pv 4) (pv 8))) (pa_cons (pe_op op_sub (pe_op op_sub (pe_op op_sub (pv 6) (pe_op op_mul (pv 3) (pv 8))) (pe_op op_mul (pv 4) (pv 7))) (pe_op op_mul (pv 4) (pv 8))) pa_nil))))) pa_nil))))))
abbrev s_pressed_behind : Stmt := top 30
abbrev Ns_pressed_behind : List Str := ["weights", "images", "button", "row", "pressed", "place", "image"]
theorem sc_pressed_behind : FnScope Ns_pressed_behind ["weights", "images", "button"] (defScope s_pressed_behind) := ⟨rfl, rfl, rfl, by decide +kernel, rfl, by decide +kernel, by decide +kernel⟩
def t_pressed_behind (K : PySem.W.Frag) : TS := (tSeq (tAsg (tTup (tCons (tOp (rIxT K) (tVar 0) (tVar 2)) (tCons (tOp (rIxT K) (tVar 1) (tVar 2)) tNil))) (gTup K 2 (gCons (gName 3) (gCons (gName 4) gNil))))
    (tRet (tCB (rTupOf K) (tCons (tLc (iEnumT K (tCons (tVar 1) tNil)) (gTup K 2 (gCons (gName 5) (gCons (gName 6) gNil))) tYes (tIf (tTest (tOp (rEqD K) (tOp (rIxT K) (tVar 3) (tVar 5)) (tC (vNOUGHT K)))) (tVar 6) (tCall (pm_vector_less K).sp [] E0 (tCons (tVar 6) (tCons (tOp (rIxT K) (tVar 3) (tVar 5)) (tCons (tVar 4) tNil))))) [5, 6]) tNil))))
theorem sx_pressed_behind (T : Tx K mg) : (pm_pressed_behind K).body Ns_pressed_behind (t_pressed_behind K) := by
  rintro ⟨S, M, s⟩ _
  dsimp only [pm_pressed_behind]
  show SX _ [_, _, _, _, _, _, _] _
  have sz := S.h3
  refine q_asg (ex_tup (ead_cons (ex_row (ex_var rfl) (ex_var rfl)) (ead_cons (ex_row (ex_var rfl) (ex_var rfl)) ead_nil))) (gx_tup (gxs_cons gx_name (gxs_cons gx_name gxs_nil))) ?_
  refine sx_ret (ex_is (ex_tupL (exl_lcB (iw_enumF (ex_var rfl)) (fun i => (gx_tup (gxs_cons gx_name (gxs_cons gx_name gxs_nil)))) fun i => (ex_ifD (et_test (ex_eqD (shaped_of (encG_iD _) (by decide)) (shaped_of (encG_iD 0) (by decide)) (ex_ent (ex_var rfl) (ex_var rfl)) (ex_NOUGHT T))) (fun _ => (ex_var rfl)) fun _ => (ex_pm (pm_vector_less K) ⟨S.n, M i, S.S.A s i, M s⟩ (ea_cons (ex_var rfl) (ea_cons (ex_ent (ex_var rfl) (ex_var rfl)) (ea_cons (ex_var rfl) ea_nil))) ⟨S.h3, .inl (Bd_of_small (A_small S s i))⟩)))) (kd_M fun i => ?_))
  rw [eqv_V0]
  by_cases h : S.S.A s i = 0
  · rw [decide_eq_true h]
    show encV (M i) = encV (less (M i) (S.S.A s i) (M s))
    have : less (M i) (S.S.A s i) (M s) = M i := by
      funext p; unfold less; rw [h]; grind
    rw [this]
  · rw [decide_eq_false h]; rfl
theorem ok_pressed_behind (T : Tx K mg) (c_vector_less : C8.Cal P w K mg base 1 "vector_less" (pm_vector_less K).sp []) {f : Addr} {fd : FuncData} (F : FnP K "pressed_behind" "pressed_behind" s_pressed_behind f fd) : FnOk P w K mg base CX0 2 f fd ["weights", "images", "button"] (pm_pressed_behind K).sp := by
  have sc := sc_pressed_behind
  refine F.ok sc (fun vs H Q E h => Pm.len (fun _ => rfl) vs H Q E h) (fun cdv A outer s H vs Q E hr h => ⟨t_pressed_behind K, PSs.nox ?_, Pm.go (sx_pressed_behind T) vs H Q E h⟩)
  exact (pss_cons (ps_asg (pe_tup (pa_cons (pe_ix ix_tup (pv 0) (pv 2) (fun _ _ => rfl)) (pa_cons (pe_ix ix_tup (pv 1) (pv 2) (fun _ _ => rfl)) pa_nil))) (pg_tup rfl (pgs_cons (pg_name (i := 3) sc.nd rfl (by first | exact Or.inl rfl | exact Or.inr rfl)) (pgs_cons (pg_name (i := 4) sc.nd rfl (by first | exact Or.inl rfl | exact Or.inr rfl)) pgs_nil))))
      (pss_one (ps_ret (pe_callTy call_tuple_of rfl T.tuple_ (by decide +kernel) (pa_cons (pe_lc (own := [("place", 5), ("image", 6)]) (g := (gTup K 2 (gCons (gName 5) (gCons (gName 6) gNil)))) (tt := tYes) (te := (tIf (tTest (tOp (rEqD K) (tOp (rIxT K) (tVar 3) (tVar 5)) (tC (vNOUGHT K)))) (tVar 6) (tCall (pm_vector_less K).sp [] E0 (tCons (tVar 6) (tCons (tOp (rIxT K) (tVar 3) (tVar 5)) (tCons (tVar 4) tNil)))))) rfl sc.nd (pi_enumT (by rfl) T.enumerate_ (pa_cons (pv 1) pa_nil)) (blkOk_by (own := [("place", 5), ("image", 6)]) (N := Ns_pressed_behind) (sc := defScope s_pressed_behind) (by decide +kernel)) (fun _ _ _ _ _ => (pg_tup rfl (pgs_cons (pg_name (i := 5) sc.nd rfl (by first | exact Or.inl rfl | exact Or.inr rfl)) (pgs_cons (pg_name (i := 6) sc.nd rfl (by first | exact Or.inl rfl | exact Or.inr rfl)) pgs_nil)))) (fun _ _ _ _ _ => pts_nil) (fun _ _ _ _ _ => (pe_ifExp (pt_cmpR (op_eqD hr.units) (pe_ix ix_tup (pv 3) (pv 5) (fun _ _ => rfl)) (C8.pe_gc rfl T.cNOUGHT) (nomark _)) (pv 6) (C8.pe_c c_vector_less hr (by decide) rfl (pa_cons (pv 6) (pa_cons (pe_ix ix_tup (pv 3) (pv 5) (fun _ _ => rfl)) (pa_cons (pv 4) pa_nil))))))) pa_nil)))))
abbrev s_pressed_front : Stmt := top 31
abbrev Ns_pressed_front : List Str := ["weights", "images", "button", "image"]
theorem sc_pressed_front : FnScope Ns_pressed_front ["weights", "images", "button"] (defScope s_pressed_front) := ⟨rfl, rfl, rfl, by decide +kernel, rfl, by decide +kernel, by decide +kernel⟩
def t_pressed_front (K : PySem.W.Frag) : TS := (tRet (tCB (rTupOf K) (tCons (tLc (iTup K (tVar 1)) (gName 3) tYes (tCall (pm_turned K).sp [] E0 (tCons (tVar 0) (tCons (tVar 3) (tCons (tVar 2) tNil)))) [3]) tNil)))
theorem sx_pressed_front (T : Tx K mg) : (pm_pressed_front K).body Ns_pressed_front (t_pressed_front K) := by
  rintro ⟨S, M, s⟩ _
  dsimp only [pm_pressed_front]
  show SX _ [_, _, _, _] _
  have sz := S.h3
  exact sx_ret (ex_is (ex_tupL (exl_lcB (iw_tupF (ex_var rfl)) (fun i => gx_name) fun i => (ex_pm (pm_turned K) ⟨S, M i, s⟩ (ea_cons (ex_var rfl) (ea_cons (ex_var rfl) (ea_cons (ex_var rfl) ea_nil))) trivial))) (kd_M fun i => rfl))
theorem ok_pressed_front (T : Tx K mg) (c_turned : C8.Cal P w K mg base 2 "turned" (pm_turned K).sp []) {f : Addr} {fd : FuncData} (F : FnP K "pressed_front" "pressed_front" s_pressed_front f fd) : FnOk P w K mg base CX0 3 f fd ["weights", "images", "button"] (pm_pressed_front K).sp := by
  have sc := sc_pressed_front
  refine F.ok sc (fun vs H Q E h => Pm.len (fun _ => rfl) vs H Q E h) (fun cdv A outer s H vs Q E hr h => ⟨t_pressed_front K, PSs.nox ?_, Pm.go (sx_pressed_front T) vs H Q E h⟩)
  exact (pss_one (ps_ret (pe_callTy call_tuple_of rfl T.tuple_ (by decide +kernel) (pa_cons (pe_lc (own := [("image", 3)]) (g := (gName 3)) (tt := tYes) (te := (tCall (pm_turned K).sp [] E0 (tCons (tVar 0) (tCons (tVar 3) (tCons (tVar 2) tNil))))) rfl sc.nd (pi_tup (pv 1)) (blkOk_by (own := [("image", 3)]) (N := Ns_pressed_front) (sc := defScope s_pressed_front) (by decide +kernel)) (fun _ _ _ _ _ => (pg_name (i := 3) sc.nd rfl (by first | exact Or.inl rfl | exact Or.inr rfl))) (fun _ _ _ _ _ => pts_nil) (fun _ _ _ _ _ => (C8.pe_c c_turned hr (by decide) rfl (pa_cons (pv 0) (pa_cons (pv 3) (pa_cons (pv 2) pa_nil)))))) pa_nil))))
abbrev s_images_of : Stmt := top 32
abbrev Ns_images_of : List Str := ["weights", "word", "found", "button"]
theorem sc_images_of : FnScope Ns_images_of ["weights", "word"] (defScope s_images_of) := ⟨rfl, rfl, rfl, by decide +kernel, rfl, by decide +kernel, by decide +kernel⟩
def t_images_of (K : PySem.W.Frag) : TS := (tSeq (tAsg (tCall (pm_all_axes K).sp [] E0 (tCons (tCB (rLenSeq K) (tCons (tVar 0) tNil)) tNil)) (gName 2))
    (tSeq (tFor (iTup K (tVar 1)) (gName 3) (tAsg (tCall (pm_pressed_behind K).sp [] E0 (tCons (tVar 0) (tCons (tVar 2) (tCons (tVar 3) tNil)))) (gName 2)))
    (tRet (tVar 2))))
theorem sx_images_of (T : Tx K mg) : (pm_images_of K).body Ns_images_of (t_images_of K) := by
  rintro ⟨S, v⟩ hv
  dsimp only [pm_images_of]
  show SX _ [_, _, _, _] _
  have sz := S.h3
  refine q_set (ex_pm (pm_all_axes K) S.n (ea_cons (ex_lenF (ex_var rfl)) ea_nil) S.h3) ?_
  refine q_for (fun i Γ => ∃ a, Γ = [.kn (kd K (encA S)), .kn (kd K (encW v)), .kn (kd K (encM (W.img (W.mk (v.take i) : W S.S)))), a]) (iw_word (ex_var rfl)) ⟨_, rfl⟩ ?_ ?_
  · rintro i Γ hi ⟨a, rfl⟩
    have hi : i < v.length := hi
    refine ⟨_, _, by rw [kdAt_word hi]; exact gx_name, ?_⟩
    refine s_set (ex_pm (pm_pressed_behind K) ⟨S, W.img (W.mk (v.take i)), v[i]⟩ (ea_cons (ex_var rfl) (ea_cons (ex_var rfl) (ea_cons (ex_var rfl) ea_nil))) trivial) ?_
    have e : W.img (W.mk (v.take (i + 1)) : W S.S) = fun t => less (W.img (W.mk (v.take i) : W S.S) t) (S.S.A v[i] t) (W.img (W.mk (v.take i) : W S.S) v[i]) := by
      have e : v.take (i + 1) = v.take i ++ [v[i]] := List.take_succ_eq_append_getElem hi
      rw [e, W.mk_append]
      rw [show (W.mk [v[i]] : W S.S) = W.gen v[i] from rfl, W.img_gen]
    dsimp only
    rw [e]
    exact ⟨_, rfl⟩
  · rintro Γ ⟨a, rfl⟩
    refine sx_ret (ex_is (ex_var rfl) ?_)
    rw [List.take_length]
theorem ok_images_of (T : Tx K mg) (c_all_axes : C8.Cal P w K mg base 2 "all_axes" (pm_all_axes K).sp []) (c_pressed_behind : C8.Cal P w K mg base 2 "pressed_behind" (pm_pressed_behind K).sp []) {f : Addr} {fd : FuncData} (F : FnP K "images_of" "images_of" s_images_of f fd) : FnOk P w K mg base CX0 3 f fd ["weights", "word"] (pm_images_of K).sp := by
  have sc := sc_images_of
  refine F.ok sc (fun vs H Q E h => Pm.len (fun _ => rfl) vs H Q E h) (fun cdv A outer s H vs Q E hr h => ⟨t_images_of K, PSs.nox ?_, Pm.go (sx_images_of T) vs H Q E h⟩)
  exact (pss_cons (ps_set (i := 2) sc.nd rfl (by first | exact Or.inl rfl | exact Or.inr rfl) (C8.pe_c c_all_axes hr (by decide) rfl (pa_cons (pe_callB call_len_seq rfl T.len_ PySem.boot_len (pa_cons (pv 0) pa_nil)) pa_nil)))
      (pss_cons (ps_for PassesOwn.never rfl (pi_tup (pv 1)) (pg_name (i := 3) sc.nd rfl (by first | exact Or.inl rfl | exact Or.inr rfl)) (pss_one (ps_set (i := 2) sc.nd rfl (by first | exact Or.inl rfl | exact Or.inr rfl) (C8.pe_c c_pressed_behind hr (by decide) rfl (pa_cons (pv 0) (pa_cons (pv 2) (pa_cons (pv 3) pa_nil)))))))
      (pss_one (ps_ret (pv 2)))))
abbrev s_is_down : Stmt := top 25
abbrev Ns_is_down : List Str := ["axis", "entry"]
theorem sc_is_down : FnScope Ns_is_down ["axis"] (defScope s_is_down) := ⟨rfl, rfl, rfl, by decide +kernel, rfl, by decide +kernel, by decide +kernel⟩
def t_is_down (K : PySem.W.Frag) : TS := (tSeq (tFor (iTup K (tVar 0)) (gName 1) (tIfS (tTest (tOp (rNeD K) (tVar 1) (tC (vNOUGHT K)))) (tRet (tOp (rI0 fun i j => .bl (decide (i < j))) (tCall (pm_pair_sign K).sp [] E0 (tCons (tVar 1) tNil)) (tC (.int 0)))) tNext))
    (tRet (tC (.bl false))))
theorem sx_is_down (T : Tx K mg) : (pm_is_down K).body Ns_is_down (t_is_down K) := by
  rintro ⟨S, g, s⟩ hg
  dsimp only [pm_is_down]
  show SX _ [_, _] _
  have sz := S.h3
  refine q_for (fun i Γ => (∀ p : Fin S.n, p.val < i → W.img g s p = 0) ∧ ∃ a, Γ = [.kn (kd K (encV (W.img g s))), a]) (iw_tupF (ex_var rfl)) ⟨fun p hp => absurd hp (Nat.not_lt_zero _), _, rfl⟩ ?_ ?_
  · rintro i Γ hi ⟨hz, a, rfl⟩
    have hi : i < S.n := hi
    refine ⟨_, _, by rw [kdAt_fin (fun p => encG (W.img g s p)) ⟨i, hi⟩]; exact gx_name, ?_⟩
    refine s_if (et_test (ex_neD (shaped_of (encG_iD _) (by decide)) (shaped_of (encG_iD 0) (by decide)) (ex_var rfl) (ex_NOUGHT T))) (fun e => ?_) (fun e => ?_)
    · rw [eqv_V0, Bool.not_eq_true', decide_eq_false_iff_not] at e
      refine sx_ret (ex_is (ex_lt (ex_pm (pm_pair_sign K) (W.img g s ⟨i, hi⟩) (ea_cons (ex_var rfl) ea_nil) (W.img_bd S g hg s ⟨i, hi⟩)) (ex_int (K := K))) ?_)
      dsimp only
      rw [W.down_entry e]
    · rw [eqv_V0, Bool.not_eq_false', decide_eq_true_iff] at e
      refine sx_nil ⟨fun p hp => ?_, _, rfl⟩
      by_cases q : p.val < i
      · exact hz p q
      · have : p = ⟨i, hi⟩ := Fin.ext (by have : p.val < i + 1 := hp; show p.val = i; omega)
        rw [this]; exact e
  · rintro Γ ⟨hz, a, rfl⟩
    exact (W.not_all_zero g s fun p => hz p p.isLt).elim
theorem ok_is_down (T : Tx K mg) (c_pair_sign : C8.Cal P w K mg base 1 "pair_sign" (pm_pair_sign K).sp []) {f : Addr} {fd : FuncData} (F : FnP K "is_down" "is_down" s_is_down f fd) : FnOk P w K mg base CX0 2 f fd ["axis"] (pm_is_down K).sp := by
  have sc := sc_is_down
  refine F.ok sc (fun vs H Q E h => Pm.len (fun _ => rfl) vs H Q E h) (fun cdv A outer s H vs Q E hr h => ⟨t_is_down K, PSs.nox ?_, Pm.go (sx_is_down T) vs H Q E h⟩)
  exact (pss_cons (ps_for PassesOwn.never rfl (pi_tup (pv 0)) (pg_name (i := 1) sc.nd rfl (by first | exact Or.inl rfl | exact Or.inr rfl)) (pss_one (ps_if (pt_cmpR (op_neD hr.units) (pv 1) (C8.pe_gc rfl T.cNOUGHT) (nomark _)) (pss_one (ps_ret (pe_cmpR op_lt (C8.pe_c c_pair_sign hr (by decide) rfl (pa_cons (pv 1) pa_nil)) pe_int (nomark _)))) pss_nil)))
      (pss_one (ps_ret pe_bl)))
abbrev s_down_buttons : Stmt := top 33
abbrev Ns_down_buttons : List Str := ["images", "button", "image"]
theorem sc_down_buttons : FnScope Ns_down_buttons ["images"] (defScope s_down_buttons) := ⟨rfl, rfl, rfl, by decide +kernel, rfl, by decide +kernel, by decide +kernel⟩
def t_down_buttons (K : PySem.W.Frag) : TS := (tRet (tCB (rTupOf K) (tCons (tLc (iEnumT K (tCons (tVar 0) tNil)) (gTup K 2 (gCons (gName 1) (gCons (gName 2) gNil))) (tB (tCall (pm_is_down K).sp [] E0 (tCons (tVar 2) tNil))) (tVar 1) [1, 2]) tNil)))
theorem sx_down_buttons (T : Tx K mg) : (pm_down_buttons K).body Ns_down_buttons (t_down_buttons K) := by
  rintro ⟨S, g⟩ hg
  dsimp only [pm_down_buttons]
  show SX _ [_, _, _] _
  have sz := S.h3
  exact sx_ret (ex_tupL (exl_lcT (iw_enumF (ex_var rfl)) (fun i => (gx_tup (gxs_cons gx_name (gxs_cons gx_name gxs_nil)))) (fun i => (et_B (ex_pm (pm_is_down K) ⟨S, g, i⟩ (ea_cons (ex_var rfl) ea_nil) hg))) fun i hp => (ex_var rfl)))
theorem ok_down_buttons (T : Tx K mg) (c_is_down : C8.Cal P w K mg base 2 "is_down" (pm_is_down K).sp []) {f : Addr} {fd : FuncData} (F : FnP K "down_buttons" "down_buttons" s_down_buttons f fd) : FnOk P w K mg base CX0 3 f fd ["images"] (pm_down_buttons K).sp := by
  have sc := sc_down_buttons
  refine F.ok sc (fun vs H Q E h => Pm.len (fun _ => rfl) vs H Q E h) (fun cdv A outer s H vs Q E hr h => ⟨t_down_buttons K, PSs.nox ?_, Pm.go (sx_down_buttons T) vs H Q E h⟩)
  exact (pss_one (ps_ret (pe_callTy call_tuple_of rfl T.tuple_ (by decide +kernel) (pa_cons (pe_lc (own := [("button", 1), ("image", 2)]) (g := (gTup K 2 (gCons (gName 1) (gCons (gName 2) gNil)))) (tt := (tB (tCall (pm_is_down K).sp [] E0 (tCons (tVar 2) tNil)))) (te := (tVar 1)) rfl sc.nd (pi_enumT (by rfl) T.enumerate_ (pa_cons (pv 0) pa_nil)) (blkOk_by (own := [("button", 1), ("image", 2)]) (N := Ns_down_buttons) (sc := defScope s_down_buttons) (by decide +kernel)) (fun _ _ _ _ _ => (pg_tup rfl (pgs_cons (pg_name (i := 1) sc.nd rfl (by first | exact Or.inl rfl | exact Or.inr rfl)) (pgs_cons (pg_name (i := 2) sc.nd rfl (by first | exact Or.inl rfl | exact Or.inr rfl)) pgs_nil)))) (fun _ _ _ _ _ => (pts_one (pt_val (C8.pe_c c_is_down hr (by decide) rfl (pa_cons (pv 2) pa_nil))))) (fun _ _ _ _ _ => (pv 1))) pa_nil))))
abbrev s_word_by : Stmt := top 34
abbrev Ns_word_by : List Str := ["weights", "back", "found", "images", "lowest"]
theorem sc_word_by : FnScope Ns_word_by ["weights", "back"] (defScope s_word_by) := ⟨rfl, rfl, rfl, by decide +kernel, rfl, by decide +kernel, by decide +kernel⟩
def t_word_by (K : PySem.W.Frag) : TS := (tSeq (tAsg (tLst tNil) (gName 2))
    (tSeq (tAsg (tVar 1) (gName 3))
    (tSeq (tAsg (tSl (rSlA K) (tCall (pm_down_buttons K).sp [] E0 (tCons (tVar 3) tNil)) tNoPart (tPart (tC (.int 1)))) (gName 4))
    (tSeq (tWhile (tTest (tOp (rNeD K) (tVar 4) (tTup tNil))) (tSeq (tDrop (tBM K "list" rAppend (tVar 2) (tCons (tOp (rIxT K) (tVar 4) (tC (.int 0))) tNil)))
    (tSeq (tAsg (tCall (pm_pressed_behind K).sp [] E0 (tCons (tVar 0) (tCons (tVar 3) (tCons (tOp (rIxT K) (tVar 4) (tC (.int 0))) tNil)))) (gName 3))
    (tAsg (tSl (rSlA K) (tCall (pm_down_buttons K).sp [] E0 (tCons (tVar 3) tNil)) tNoPart (tPart (tC (.int 1)))) (gName 4)))))
    (tRet (tCB (rTupOf K) (tCons (tVar 2) tNil)))))))
theorem sx_word_by (T : Tx K mg) : (pm_word_by K).body Ns_word_by (t_word_by K) := by
  rintro ⟨S, g⟩ hg
  dsimp only [pm_word_by]
  show SX _ [_, _, _, _, _] _
  have sz := S.h3
  have hg : W.len g ≤ 36 := hg
  refine q_setL (exl_lst (ead_nil (K := K))) ?_
  refine q_set (ex_var rfl) ?_
  refine q_set (ex_slT (ex_pm (pm_down_buttons K) ⟨S, g⟩ (ea_cons (ex_var rfl) ea_nil) hg) eo_none (eo_some (ex_int (K := K)))) ?_
  refine q_while (fun m Γ => ∃ (h : W S.S) (u : List (Fin S.n)), W.len h = m ∧ u ++ W.taken h = W.taken g ∧ W.len h ≤ 36 ∧ Γ = [.kn (kd K (encA S)), .kn (kd K (encM (W.img g))), .own (oL K (u.map encF)), .kn (kd K (encM (W.img h))), .kn (kd K (.tuple (cutD ((W.backs h).map encF) none (some 1))))]) (W.len g) ⟨g, [], rfl, rfl, hg, rfl⟩ ?_
  rintro m Γ ⟨h, u, hm, hu, hh, rfl⟩
  have lu : u.length + W.len h = W.len g := by
    have := congrArg List.length hu
    rw [List.length_append, W.taken_len _ h rfl, W.taken_len _ g rfl] at this; exact this
  have ec : cutD ((W.backs h).map encF) none (some 1) = ((W.backs h).take 1).map encF := by
    rw [List.map_take]; exact cutD_to (k := 1)
  rw [ec]
  refine ⟨_, et_test (ex_neD (shaped_of (encW_iD _) (by decide)) (shaped_of (k := 1) rfl (by decide)) (ex_var rfl) (ex_tup ead_nil)), fun e => ?_, fun e => ?_⟩
  · rw [encW, eqv_nil] at e
    cases hb : W.backs h with
    | nil => rw [hb] at e; cases e
    | cons t r =>
      have hl := W.backs_head hb
      have ht := W.taken_cons hb
      have hd : W.len (h * W.gen t) ≤ 36 := by omega
      refine q_app rfl (d := encF t) (ex_ixT0 (ex_var rfl)) (by rw [List.length_map]; omega) ?_
      refine q_set (ex_is (ex_pm (pm_pressed_behind K) ⟨S, W.img h, t⟩ (ea_cons (ex_var rfl) (ea_cons (ex_var rfl) (ea_cons (ex_ixT0 (ex_var rfl)) ea_nil))) trivial) (R' := kd K (encM (W.img (h * W.gen t)))) (by rw [W.img_gen])) ?_
      refine s_set (ex_slT (ex_pm (pm_down_buttons K) ⟨S, h * W.gen t⟩ (ea_cons (ex_var rfl) ea_nil) hd) eo_none (eo_some (ex_int (K := K)))) ⟨W.len (h * W.gen t), by omega, h * W.gen t, u ++ [t], rfl, ?_, hd, ?_⟩
      · rw [List.append_assoc, ← hu, ht]; rfl
      · rw [List.map_append]; rfl
  · rw [encW, eqv_nil] at e
    have hb : W.backs h = [] := by
      cases hb : W.backs h with
      | nil => rfl
      | cons t r => rw [hb] at e; cases e
    rw [W.taken_nil hb, List.append_nil] at hu
    rw [hu]
    exact sx_ret (ex_tupO rfl)
theorem ok_word_by (T : Tx K mg) (c_down_buttons : C8.Cal P w K mg base 3 "down_buttons" (pm_down_buttons K).sp []) (c_pressed_behind : C8.Cal P w K mg base 2 "pressed_behind" (pm_pressed_behind K).sp []) {f : Addr} {fd : FuncData} (F : FnP K "word_by" "word_by" s_word_by f fd) : FnOk P w K mg base CX0 4 f fd ["weights", "back"] (pm_word_by K).sp := by
  have sc := sc_word_by
  refine F.ok sc (fun vs H Q E h => Pm.len (fun _ => rfl) vs H Q E h) (fun cdv A outer s H vs Q E hr h => ⟨t_word_by K, PSs.nox ?_, Pm.go (sx_word_by T) vs H Q E h⟩)
  exact (pss_cons (ps_set (i := 2) sc.nd rfl (by first | exact Or.inl rfl | exact Or.inr rfl) (pe_lst pa_nil))
      (pss_cons (ps_set (i := 3) sc.nd rfl (by first | exact Or.inl rfl | exact Or.inr rfl) (pv 1))
      (pss_cons (ps_set (i := 4) sc.nd rfl (by first | exact Or.inl rfl | exact Or.inr rfl) (pe_slice sl_tupA (C8.pe_c c_down_buttons hr (by decide) rfl (pa_cons (pv 3) pa_nil)) po_none (po_some pe_int)))
      (pss_cons (ps_while PassesOwn.never (pt_cmpR (op_neD hr.units) (pv 4) (pe_tup pa_nil) (nomark _)) (pss_cons (ps_expr (pe_bm PySem.F.plainAttrs_list PySem.F.slot_list_append PySem.F.type_list_append mt_append (pv 2) (pa_cons (pe_ix ix_tup (pv 4) pe_int (fun _ _ => rfl)) pa_nil)))
      (pss_cons (ps_set (i := 3) sc.nd rfl (by first | exact Or.inl rfl | exact Or.inr rfl) (C8.pe_c c_pressed_behind hr (by decide) rfl (pa_cons (pv 0) (pa_cons (pv 3) (pa_cons (pe_ix ix_tup (pv 4) pe_int (fun _ _ => rfl)) pa_nil)))))
      (pss_one (ps_set (i := 4) sc.nd rfl (by first | exact Or.inl rfl | exact Or.inr rfl) (pe_slice sl_tupA (C8.pe_c c_down_buttons hr (by decide) rfl (pa_cons (pv 3) pa_nil)) po_none (po_some pe_int)))))))
      (pss_one (ps_ret (pe_callTy call_tuple_of rfl T.tuple_ (by decide +kernel) (pa_cons (pv 2) pa_nil))))))))
abbrev s_led_by : Stmt := top 29
abbrev Ns_led_by : List Str := ["images", "vector", "found", "one", "two", "image"]
theorem sc_led_by : FnScope Ns_led_by ["images", "vector"] (defScope s_led_by) := ⟨rfl, rfl, rfl, by decide +kernel, rfl, by decide +kernel, by decide +kernel⟩
def t_led_by (K : PySem.W.Frag) : TS := (tSeq (tAsg (tOp (rRepT K) (tTup (tCons (tC (vNOUGHT K)) tNil)) (tCB (rLenSeq K) (tCons (tVar 1) tNil))) (gName 2))
    (tSeq (tFor (RZ.iZipA K (tCons (tVar 1) (tCons (tVar 0) tNil))) (gTup K 2 (gCons (gTup K 2 (gCons (gName 3) (gCons (gName 4) gNil))) (gCons (gName 5) gNil))) (tIfS (tOr (tTest (tOp rNe (tVar 3) (tC (.int 0)))) (tTest (tOp rNe (tVar 4) (tC (.int 0))))) (tAsg (tCall (pm_vector_less K).sp [] E0 (tCons (tVar 2) (tCons (tTup (tCons (tUn (rU fun i => .int (-i)) (tVar 3)) (tCons (tUn (rU fun i => .int (-i)) (tVar 4)) tNil))) (tCons (tVar 5) tNil)))) (gName 2)) tNext))
    (tRet (tVar 2))))
theorem sx_led_by (T : Tx K mg) : (pm_led_by K).body Ns_led_by (t_led_by K) := by
  rintro ⟨S, M, x⟩ hb
  dsimp only [pm_led_by]
  show SX _ [_, _, _, _, _, _] _
  have sz := S.h3
  have s2 := S.h2
  have hb : ∀ t p, Bd (M t p) := hb
  have e0 : List.replicate S.n (encG 0) = fins fun p : Fin S.n => encG (psum (fun t => x t * M t p) 0) := by
    apply List.ext_getElem?
    intro i
    by_cases q : i < S.n
    · rw [fins_get _ ⟨i, q⟩, List.getElem?_replicate, if_pos q]; rfl
    · rw [List.getElem?_eq_none (by rw [List.length_replicate]; omega), List.getElem?_eq_none (by rw [fins_len]; omega)]
  refine q_set (ex_rep (ex_tup (ead_cons (ex_NOUGHT T) ead_nil)) (ex_lenF (ex_var rfl)) s2 (by omega)) ?_
  rw [e0]
  refine q_for (fun i Γ => ∃ a b c, Γ = [.kn (kd K (encM M)), .kn (kd K (encV x)), .kn (kd K (encV fun p => psum (fun t => x t * M t p) i)), a, b, c]) (iw_zipF (ex_var rfl) (ex_var rfl)) ⟨_, _, _, rfl⟩ ?_ ?_
  · rintro i Γ hi ⟨a, b, c, rfl⟩
    have hi : i < S.n := hi
    have ps : (fun p => psum (fun t => x t * M t p) (i + 1)) = less (fun p => psum (fun t => x t * M t p) i) (-(x ⟨i, hi⟩)) (M ⟨i, hi⟩) := by
      funext p
      have := psum_succ (fun t => x t * M t p) ⟨i, hi⟩
      have e : psum (fun t => x t * M t p) (i + 1) = psum (fun t => x t * M t p) i + x ⟨i, hi⟩ * M ⟨i, hi⟩ p := this
      unfold less
      rw [e]; grind
    refine ⟨_, _, by rw [kdAt_fin (fun t => PyData.tuple [encG (x t), encV (M t)]) ⟨i, hi⟩]; exact (gx_tup (gxs_cons (gx_tup (gxs_cons gx_name (gxs_cons gx_name gxs_nil))) (gxs_cons gx_name gxs_nil))), ?_⟩
    refine s_if (et_or (et_test (ex_neI (ex_var rfl) (ex_int (K := K)))) fun _ => (et_test (ex_neI (ex_var rfl) (ex_int (K := K))))) (fun e => ?_) (fun e => ?_)
    · refine s_set (ex_pm (pm_vector_less K) ⟨S.n, _, -(x ⟨i, hi⟩), M ⟨i, hi⟩⟩ (ea_cons (ex_var rfl) (ea_cons (ex_tup (ead_cons (ex_neg (ex_var rfl)) (ead_cons (ex_neg (ex_var rfl)) ead_nil))) (ea_cons (ex_var rfl) ea_nil))) ⟨S.h3, .inr (hb ⟨i, hi⟩)⟩) ?_
      dsimp only
      rw [ps]
      exact ⟨_, _, _, rfl⟩
    · refine sx_nil ?_
      rw [Bool.or_eq_false_iff, Bool.not_eq_false', Bool.not_eq_false', decide_eq_true_iff, decide_eq_true_iff] at e
      have e0 : x ⟨i, hi⟩ = 0 := G.ext' e.1 e.2
      have ps2 : (fun p => psum (fun t => x t * M t p) (i + 1)) = fun p => psum (fun t => x t * M t p) i := by
        rw [ps]; funext p; unfold less; rw [e0]; grind
      dsimp only
      rw [ps2]
      exact ⟨_, _, _, rfl⟩
  · rintro Γ ⟨a, b, c, rfl⟩
    refine sx_ret (ex_is (ex_var rfl) ?_)
    have : (fun p => psum (fun t => x t * M t p) S.n) = fun p => sm S.n fun t => x t * M t p := funext fun p => psum_all _
    rw [this]
theorem ok_led_by (T : Tx K mg) (c_vector_less : C8.Cal P w K mg base 1 "vector_less" (pm_vector_less K).sp []) {f : Addr} {fd : FuncData} (F : FnP K "led_by" "led_by" s_led_by f fd) : FnOk P w K mg base CX0 2 f fd ["images", "vector"] (pm_led_by K).sp := by
  have sc := sc_led_by
  refine F.ok sc (fun vs H Q E h => Pm.len (fun _ => rfl) vs H Q E h) (fun cdv A outer s H vs Q E hr h => ⟨t_led_by K, PSs.nox ?_, Pm.go (sx_led_by T) vs H Q E h⟩)
  exact (pss_cons (ps_set (i := 2) sc.nd rfl (by first | exact Or.inl rfl | exact Or.inr rfl) (pe_op op_repT (pe_tup (pa_cons (C8.pe_gc rfl T.cNOUGHT) pa_nil)) (pe_callB call_len_seq rfl T.len_ PySem.boot_len (pa_cons (pv 1) pa_nil))))
      (pss_cons (ps_for PassesOwn.never rfl (RZ.pi_zipA (by rfl) T.zip_ (pa_cons (pv 1) (pa_cons (pv 0) pa_nil))) (pg_tup rfl (pgs_cons (pg_tup rfl (pgs_cons (pg_name (i := 3) sc.nd rfl (by first | exact Or.inl rfl | exact Or.inr rfl)) (pgs_cons (pg_name (i := 4) sc.nd rfl (by first | exact Or.inl rfl | exact Or.inr rfl)) pgs_nil))) (pgs_cons (pg_name (i := 5) sc.nd rfl (by first | exact Or.inl rfl | exact Or.inr rfl)) pgs_nil))) (pss_one (ps_if (PW.pt (pw_or (pt_cmpR op_ne (pv 3) pe_int (nomark _)) (pw_or1 (pt_cmpR op_ne (pv 4) pe_int (nomark _))))) (pss_one (ps_set (i := 2) sc.nd rfl (by first | exact Or.inl rfl | exact Or.inr rfl) (C8.pe_c c_vector_less hr (by decide) rfl (pa_cons (pv 2) (pa_cons (pe_tup (pa_cons (pe_un un_neg (pv 3)) (pa_cons (pe_un un_neg (pv 4)) pa_nil))) (pa_cons (pv 5) pa_nil)))))) pss_nil)))
      (pss_one (ps_ret (pv 2)))))
end
end Wk
namespace Wk
open PySem L2
/-! ### instances -/
/-- an instance with these attributes -/
def oI (C : Addr) (fs : List (Str × Kn)) : Oc := ⟨fun N u => ∃ dx vs, u = .ins C dx ((fs.map (·.1)).zip vs) ∧ All2 N (fs.map (·.2)) vs, fun N N' u e ⟨dx, vs, h1, h2⟩ => ⟨dx, vs, h1, All2.mono (Rs := fs.map (·.2)) e h2⟩⟩
def kI (C : Addr) (fs : List (Str × Kn)) : Kn := ⟨fun N v => ∃ a u, v = .ref a ∧ N a = some u ∧ (oI C fs).p N u, fun _ _ _ e ⟨a, u, h1, h2, h3⟩ => ⟨a, u, h1, e _ _ h2, (oI C fs).mo _ _ _ e h3⟩⟩
theorem zip_look {N : Hp} : ∀ {fs : List (Str × Kn)} {vs : List V} {f : Str} {R : Kn}, All2 N (fs.map (·.2)) vs → fs.lookup f = some R → ∃ v, ((fs.map (·.1)).zip vs).lookup f = some v ∧ R.p N v
  | [], _, f, R, _, h => by cases h
  | (g, R0) :: fs, v :: vs, f, R, h, e => by
    by_cases q : f = g
    · subst q
      have : R0 = R := by simpa using e
      subst this
      exact ⟨v, by simp, h.1⟩
    · have e1 : List.lookup f ((g, R0) :: fs) = List.lookup f fs := by
        rw [List.lookup_cons]; rw [beq_false_of_ne q]
      rw [e1] at e
      obtain ⟨u, e2, r⟩ := zip_look (f := f) h.2 e
      refine ⟨u, ?_, r⟩
      show List.lookup f ((g, v) :: (fs.map (·.1)).zip vs) = some u
      rw [List.lookup_cons, beq_false_of_ne q]; exact e2
  | (g, R0) :: fs, [], f, R, h, e => h.elim
theorem zip_put : ∀ {gs : List Str} {vs : List V} {f : Str} {v : V}, f ∉ gs → vs.length = gs.length → putF f v (gs.zip vs) = (gs ++ [f]).zip (vs ++ [v])
  | [], vs, f, v, _, h => by
    have : vs = [] := List.length_eq_zero_iff.mp h
    subst this; rfl
  | g :: gs, [], f, v, _, h => by cases h
  | g :: gs, u :: vs, f, v, hn, h => by
    show (if g = f then _ else _) = _
    rw [if_neg (fun e => hn (by rw [e]; exact List.mem_cons_self))]
    exact congrArg (List.cons _) (zip_put (fun q => hn (List.mem_cons_of_mem _ q)) (by simpa using h))
theorem All2.snoc {N : Hp} : ∀ {Rs : List Kn} {vs : List V} {R : Kn} {v : V}, All2 N Rs vs → R.p N v → All2 N (Rs ++ [R]) (vs ++ [v])
  | [], [], R, v, _, h => ⟨h, trivial⟩
  | R0 :: Rs, u :: vs, R, v, h, k => ⟨h.1, All2.snoc h.2 k⟩
  | [], _ :: _, _, _, h, _ => h.elim
  | _ :: _, [], _, _, h, _ => h.elim
section
variable {K : PySem.W.Frag} {Γ : List Slot} {te ta tv : TE} {targ : TA} {R : Kn} {P : Post} {u : TS} {C : Addr} {fs : List (Str × Kn)} {f : Str}
/-- an attribute of an instance -/
theorem ex_fld (h : EX te Γ (kI C fs)) (hl : fs.lookup f = some R) (c : Cls K C) (n : NoAttr K C f) : EX (tFld K te f) Γ R := fun F B σ N H Q S k =>
  h F B σ N H _ S fun v N1 H1 S1 e1 ⟨a, u, ev, ea, dx, vs, eu, hall⟩ => by
    subst ev eu
    obtain ⟨w, ew, r⟩ := zip_look hall hl
    exact ⟨a, C, dx, _, w, rfl, S1.sub _ _ ea, c, n, ew, k w N1 H1 S1 e1 r⟩
/-- an attribute of the instance that is being made -/
theorem ex_fldH {j : Nat} (h : Γ[j]? = some (.hel (oI C fs))) (hl : fs.lookup f = some R) (c : Cls K C) (n : NoAttr K C f) : EX (tFld K (tVar j) f) Γ R := fun F B σ N H Q S k => by
  obtain ⟨p, u, e, _, _, _, hp, dx, vs, eu, hall⟩ := S.helS h
  subst eu
  obtain ⟨w, ew, r⟩ := zip_look hall hl
  exact ⟨_, e, p, C, dx, _, w, rfl, hp, c, n, ew, k w N H S (Ex.refl N) r⟩
/-- a held object is written -/
theorem Stt.writeH {F : Hp} {B : Addr → Prop} {σ : St} {N H : Hp} (S : Stt F B Γ σ N H) {j : Nat} {O O' : Oc} {p : Addr} {u : HO} (h : Γ[j]? = some (.hel O)) (hp : σ[j]? = some (some (.ref p))) (r : O'.p N u) : Stt F B (Γ.set j (.hel O')) σ N (upd H p u) := by
  obtain ⟨p', u', e1, a, b, c, d, _⟩ := S.helS h
  rw [hp] at e1; cases e1
  have hj : j < σ.length := (List.getElem?_eq_some_iff.mp hp).1
  have ne : ∀ i γ q, i ≠ j → Γ[i]? = some γ → γ.holds = true → σ[i]? = some (some (.ref q)) → q ≠ p := fun i γ q hij hg hh ho z => by
    subst z; exact S.ap i j γ _ q hij hg h hh rfl ho hp
  refine ⟨fun x o e => ?_, fun x o e => ?_, S.bl, fun x bx => ?_, by rw [List.length_set]; exact S.len, fun i γ o hg ho => ?_, fun x y γ δ q hxy hx hy h1 h2 h3 h4 => ?_⟩
  · rw [upd_ne (ne_of_none e b)]; exact S.sub x o e
  · rw [upd_ne (ne_of_none e a)]; exact S.fr x o e
  · by_cases q : x = p
    · subst q; rw [upd_same]; exact Option.some_ne_none _
    · rw [upd_ne q]; exact S.bh x bx
  · by_cases q : j = i
    · subst q
      rw [List.getElem?_set_self (by rw [S.len]; exact hj)] at hg
      cases hg
      rw [hp] at ho; cases ho
      exact ⟨p, u, rfl, a, b, c, upd_same, r⟩
    · rw [List.getElem?_set_ne q] at hg
      have z := S.ok i γ o hg ho
      cases γ with
      | un => trivial
      | kn R => exact z
      | own O2 =>
        obtain ⟨p2, u2, e2, a2, b2, c2, d2, r2⟩ := z
        subst e2
        exact ⟨p2, u2, rfl, a2, b2, c2, by rw [upd_ne (ne i _ p2 (fun z => q z.symm) hg rfl ho)]; exact d2, r2⟩
      | hel O2 =>
        obtain ⟨p2, u2, e2, a2, b2, c2, d2, r2⟩ := z
        subst e2
        exact ⟨p2, u2, rfl, a2, b2, c2, by rw [upd_ne (ne i _ p2 (fun z => q z.symm) hg rfl ho)]; exact d2, r2⟩
  · by_cases qx : j = x
    · subst qx
      rw [List.getElem?_set_self (by rw [S.len]; exact hj)] at hx
      rw [List.getElem?_set_ne hxy] at hy
      exact S.ap j y _ δ q hxy h hy rfl h2 h3 h4
    · rw [List.getElem?_set_ne qx] at hx
      by_cases qy : j = y
      · subst qy
        exact S.ap x j γ _ q hxy hx h h1 rfl h3 h4
      · rw [List.getElem?_set_ne qy] at hy
        exact S.ap x y γ δ q hxy hx hy h1 h2 h3 h4
theorem x_fld {j : Nat} (hj : Γ[j]? = some (.hel (oI C fs))) (h : EX tv Γ R) (c : Cls K C) (n : NoAttr K C f) (hf : f ∉ fs.map (·.1)) (hl : fs.length < 1000) {F : Hp} {B : Addr → Prop} {σ : St} {N H : Hp} {D : Ends} (S : Stt F B Γ σ N H)
    (k : ∀ N' H', Stt F B (Γ.set j (.hel (oI C (fs ++ [(f, R)])))) σ N' H' → D.nx σ H') : sFld K (tVar j) tv f D σ H :=
  h F B σ N H _ S fun y N1 H1 S1 e1 r1 => by
    obtain ⟨p, u, e, _, _, _, hp, dx, vs, eu, hall⟩ := S1.helS hj
    subst eu
    refine ⟨_, e, p, C, dx, _, rfl, hp, c, n, ?_, k N1 _ (S1.writeH hj e ⟨dx, vs ++ [y], ?_, ?_⟩)⟩
    · rw [List.length_zip, List.length_map]; omega
    · rw [zip_put hf (by have := hall.len; rw [List.length_map] at this; rw [List.length_map]; exact this), List.map_append]; rfl
    · rw [List.map_append]; exact hall.snoc r1
theorem s_fld {j : Nat} (hj : Γ[j]? = some (.hel (oI C fs))) (h : EX tv Γ R) (c : Cls K C) (n : NoAttr K C f) (hf : f ∉ fs.map (·.1)) (hl : fs.length < 1000) (k : P.nx (Γ.set j (.hel (oI C (fs ++ [(f, R)]))))) : SX (sFld K (tVar j) tv f) Γ P := fun F B σ N H D S f =>
  x_fld hj h c n hf hl S fun N' H' S' => f.nx _ σ N' H' k S'
theorem q_fld {j : Nat} (hj : Γ[j]? = some (.hel (oI C fs))) (h : EX tv Γ R) (c : Cls K C) (n : NoAttr K C f) (hf : f ∉ fs.map (·.1)) (hl : fs.length < 1000) (k : SX u (Γ.set j (.hel (oI C (fs ++ [(f, R)])))) P) : SX (tSeq (sFld K (tVar j) tv f) u) Γ P := fun F B σ N H D S f =>
  x_fld (D := { D with nx := u D }) hj h c n hf hl S fun N' H' S' => k F B σ N' H' D S' f
/-- a property read -/
theorem ex_prop {E : XK} (p : Pm) (i : p.ι) (h : EX te Γ (kI C fs)) (ha : p.args i = [kI C fs]) (hp : p.pre i) : EX (tProp C p.sp [] E te) Γ (p.res i) := fun F B σ N H Q S k =>
  h F B σ N H _ S fun v N1 H1 S1 e1 r1 => by
    have r0 := r1
    obtain ⟨a, u, ev, ea, dx, vs, eu, hall⟩ := r1
    subst ev eu
    refine ⟨a, dx, _, rfl, S1.sub _ _ ea, i, N1, S1.sub, hp, by rw [ha]; exact ⟨r0, trivial⟩, fun v N2 H2 a1 a2 a3 a4 r2 => k v N2 H2 (S1.grow a2 a1 a3 a4) (e1.trans a2) r2⟩
end
/-! ### a def that changes one held object, at argument k -/
def Hp.less (H : Hp) (p : Addr) : Hp := fun a => if a = p then none else H a
theorem less_same {H : Hp} {p : Addr} : Hp.less H p p = none := if_pos rfl
theorem less_ne {H : Hp} {p a : Addr} (h : a ≠ p) : Hp.less H p a = H a := if_neg h
theorem less_ex {H : Hp} {p : Addr} : Ex (Hp.less H p) H := fun a o e => by
  by_cases q : a = p
  · rw [q, less_same] at e; cases e
  · rwa [less_ne q] at e
/-- a slot's object is held -/
theorem Stt.hold {F : Hp} {B : Addr → Prop} {Γ : List Slot} {σ : St} {N H : Hp} (S : Stt F B Γ σ N H) {k : Nat} {p : Addr} {u : HO} {O : Oc} (hσ : σ[k]? = some (some (.ref p))) (f : F p = none) (n : N p = none) (b : B p) (h : H p = some u) (r : O.p N u)
    (d : ∀ (j : Nat) (γ : Slot) (q : Addr), j ≠ k → Γ[j]? = some γ → γ.holds = true → σ[j]? = some (some (.ref q)) → q ≠ p) : Stt F B (Γ.set k (.hel O)) σ N H where
  sub := S.sub
  fr := S.fr
  bl := S.bl
  bh := S.bh
  len := by rw [List.length_set, S.len]
  ok := fun j γ o hg ho => by
    have hk : k < σ.length := (List.getElem?_eq_some_iff.mp hσ).1
    by_cases q : k = j
    · subst q
      rw [List.getElem?_set_self (by rw [S.len]; exact hk)] at hg
      rw [hσ] at ho
      cases hg; cases ho
      exact ⟨p, u, rfl, f, n, b, h, r⟩
    · rw [List.getElem?_set_ne q] at hg
      exact S.ok j γ o hg ho
  ap := fun x y γ δ q hxy hx hy h1 h2 h3 h4 => by
    have hk : k < σ.length := (List.getElem?_eq_some_iff.mp hσ).1
    by_cases qa : k = x
    · subst qa
      rw [hσ] at h3
      rw [List.getElem?_set_ne hxy] at hy
      have e : p = q := V.ref.inj (Option.some.inj (Option.some.inj h3))
      exact d y δ q (fun z => hxy z.symm) hy h2 h4 e.symm
    · by_cases qb : k = y
      · subst qb
        rw [hσ] at h4
        rw [List.getElem?_set_ne qa] at hx
        have e : p = q := V.ref.inj (Option.some.inj (Option.some.inj h4))
        exact d x γ q hxy hx h1 h3 e.symm
      · rw [List.getElem?_set_ne qa] at hx
        rw [List.getElem?_set_ne qb] at hy
        exact S.ap x y γ δ q hxy hx hy h1 h2 h3 h4
theorem startΓ_none {names : List Str} {Rs : List Kn} {j : Nat} {γ : Slot} (h : (startΓ names Rs)[j]? = some γ) : γ.holds = false := by
  unfold startΓ at h
  by_cases q : j < Rs.length
  · rw [List.getElem?_append_left (by simpa using q), List.getElem?_map, List.getElem?_eq_getElem q] at h
    cases h; rfl
  · rw [List.getElem?_append_right (by simpa using q)] at h
    obtain ⟨_, z⟩ := List.getElem?_eq_some_iff.mp h
    rw [List.getElem_replicate] at z
    subst z; rfl
theorem start_get {names : List Str} {vs : List V} {k : Nat} {v : V} (h : vs[k]? = some v) : (L2.start names vs)[k]? = some (some v) := by
  unfold L2.start
  have hk := (List.getElem?_eq_some_iff.mp h).1
  rw [List.getElem?_append_left (by simpa using hk), List.getElem?_map, h]; rfl
theorem stt_startH {names : List Str} {Rs : List Kn} {vs : List V} {N H : Hp} {k : Nat} {p : Addr} {u : HO} {O : Oc} (e : Ex N H) (h : All2 N Rs vs) (hk : vs[k]? = some (.ref p)) (n : N p = none) (hp : H p = some u) (r : O.p N u) :
    Stt (Hp.less H p) (fun a => H a ≠ none ∧ N a = none) ((startΓ names Rs).set k (.hel O)) (L2.start names vs) N H :=
  ((stt_start e h).weak less_ex).hold (start_get hk) less_same n ⟨by rw [hp]; exact Option.some_ne_none _, n⟩ hp r fun j γ q _ h1 h2 _ => by rw [startΓ_none h1] at h2; cases h2
/-- the promise -/
structure PmH where
  ι : Type
  pre : ι → Prop
  k : Nat
  args : ι → List Kn
  oc : ι → Oc
  oc' : ι → Oc
  res : ι → Kn
def PmH.sp (P : PmH) : Sp := fun vs H Q _ => ∃ (i : P.ι) (N : Hp) (p : Addr) (u : HO), Ex N H ∧ P.pre i ∧ All2 N (P.args i) vs ∧ vs[P.k]? = some (.ref p) ∧ N p = none ∧ H p = some u ∧ (P.oc i).p N u ∧
  ∀ v N' H' u', Ex (Hp.less H p) H' → Ex N N' → Ex N' H' → (∀ a, H a ≠ none → N a = none → N' a = none) → H' p = some u' → (P.oc' i).p N' u' → (P.res i).p N' v → Q v H'
/-- at the end: the held object as promised -/
def kEnd (k : Nat) (O : Oc) (R : Kn) (Γ : List Slot) : Kn := ⟨fun N v => Γ[k]? = some (.hel O) ∧ R.p N v, fun _ _ _ e h => ⟨h.1, R.mo _ _ _ e h.2⟩⟩
def PmH.body (P : PmH) (names : List Str) (t : TS) : Prop := ∀ i, P.pre i → SX t ((startΓ names (P.args i)).set P.k (.hel (P.oc i))) { rt := kEnd P.k (P.oc' i) (P.res i), nx := fun Γ => Γ[P.k]? = some (.hel (P.oc' i)) ∧ ∀ N, (P.res i).p N .non }
theorem PmH.go {P : PmH} {names : List Str} {t : TS} (h : P.body names t) (vs : List V) (H : Hp) (Q : VK) (E : XK) (hs : P.sp vs H Q E) : t { nx := fun _ H' => Q .non H', rt := Q } (L2.start names vs) H := by
  obtain ⟨i, N, p, u, e, hp, ha, hk, n, hu, hO, k⟩ := hs
  have fin : ∀ Γ σ N' H' v, Stt (Hp.less H p) (fun a => H a ≠ none ∧ N a = none) Γ σ N' H' → Γ[P.k]? = some (.hel (P.oc' i)) → (P.res i).p N' v → Q v H' := fun Γ σ N' H' v S g r => by
    obtain ⟨p', u', e1, a, b, c, d, r'⟩ := S.helS g
    have ep : p' = p := by
      apply Classical.byContradiction
      intro q
      rw [less_ne q] at a
      exact c.1 a
    subst ep
    have eN : Ex N (Hp.less H p') := fun x o z => by
      rw [less_ne (ne_of_none z n)]; exact e x o z
    exact k v (cup N' N) H' u' S.fr (cup_r S.sub (eN.trans S.fr)) (cup_sub S.sub (eN.trans S.fr)) (fun a h1 h2 => cup_none (S.bl a ⟨h1, h2⟩) h2) d ((P.oc' i).mo _ _ _ cup_l r') ((P.res i).mo _ _ _ cup_l r)
  exact h i hp _ _ _ N H _ (stt_startH e ha hk n hu hO) ⟨fun Γ σ N' H' z S => fin Γ σ N' H' _ S z.1 (z.2 N'), fun Γ σ N' H' v S r => fin Γ σ N' H' v S r.1 r.2, fun _ _ _ _ z _ => z.elim, fun _ _ _ _ z _ => z.elim⟩
theorem PmH.len {P : PmH} {n : Nat} (h : ∀ i, (P.args i).length = n) (vs : List V) (H : Hp) (Q : VK) (E : XK) (hs : P.sp vs H Q E) : vs.length = n := by
  obtain ⟨i, N, p, u, e, hp, ha, k⟩ := hs
  rw [ha.len, h i]
/-- the state behind a call that changes a held object but keeps what is known of it -/
theorem Stt.past {F : Hp} {B : Addr → Prop} {Γ : List Slot} {σ : St} {N H : Hp} (S : Stt F B Γ σ N H) {j : Nat} {O : Oc} {γ0 : Slot} {p : Addr} {N' H' : Hp} {u' : HO} (h : Γ[j]? = some γ0) (g0 : γ0 = .own O ∨ γ0 = .hel O) (hp : σ[j]? = some (some (.ref p)))
    (a1 : Ex (Hp.less H p) H') (a2 : Ex N N') (a3 : Ex N' H') (a4 : ∀ a, H a ≠ none → N a = none → N' a = none) (a5 : H' p = some u') (a6 : O.p N' u') : Stt F B Γ σ N' H' := by
  have hh : γ0.holds = true := by rcases g0 with g | g <;> rw [g] <;> rfl
  obtain ⟨p', u, O2, e1, _, f, n, d, _⟩ := S.held h hh
  rw [hp] at e1; cases e1
  have ne : ∀ i γ q, i ≠ j → Γ[i]? = some γ → γ.holds = true → σ[i]? = some (some (.ref q)) → q ≠ p := fun i γ q hij hg hq ho z => by
    subst z; exact S.ap i j γ _ q hij hg h hq hh ho hp
  have keep : ∀ x o, x ≠ p → H x = some o → H' x = some o := fun x o q e => a1 x o (by rw [less_ne q]; exact e)
  refine ⟨a3, fun x o e => keep x o (ne_of_none e f) (S.fr x o e), fun x bx => a4 x (S.bh x bx) (S.bl x bx), fun x bx => ?_, S.len, fun i γ o hg ho => ?_, S.ap⟩
  · by_cases q : x = p
    · subst q; rw [a5]; exact Option.some_ne_none _
    · cases z : H x with
      | none => exact absurd z (S.bh x bx)
      | some o => rw [keep x o q z]; exact Option.some_ne_none _
  · have z := S.ok i γ o hg ho
    by_cases q : i = j
    · subst q
      rw [h] at hg; cases hg
      rw [hp] at ho; cases ho
      rcases g0 with g | g
      · subst g
        obtain ⟨p2, u2, e2, a, b, c, d2, r⟩ := z
        cases e2
        exact ⟨p, u', rfl, a, a4 p (by rw [d2]; exact Option.some_ne_none _) b, c, a5, a6⟩
      · subst g
        obtain ⟨p2, u2, e2, a, b, c, d2, r⟩ := z
        cases e2
        exact ⟨p, u', rfl, a, a4 p (by rw [d2]; exact Option.some_ne_none _) b, c, a5, a6⟩
    · cases γ with
      | un => trivial
      | kn R => obtain ⟨v, e, r⟩ := z; exact ⟨v, e, R.mo _ _ _ a2 r⟩
      | own O2 =>
        obtain ⟨p2, u2, e2, a, b, c, d2, r⟩ := z
        subst e2
        exact ⟨p2, u2, rfl, a, a4 p2 (by rw [d2]; exact Option.some_ne_none _) b, c, keep p2 u2 (ne i _ p2 q hg rfl ho) d2, O2.mo _ _ _ a2 r⟩
      | hel O2 =>
        obtain ⟨p2, u2, e2, a, b, c, d2, r⟩ := z
        subst e2
        exact ⟨p2, u2, rfl, a, a4 p2 (by rw [d2]; exact Option.some_ne_none _) b, c, keep p2 u2 (ne i _ p2 q hg rfl ho) d2, O2.mo _ _ _ a2 r⟩
/-- arguments of which the one at k is a held object -/
def EAH (ta : TA) (Γ : List Slot) (k j : Nat) (Rs : List Kn) : Prop := ∀ F B σ N H (Q : List V → Hp → Prop), Stt F B Γ σ N H → (∀ vs N' H' v, Stt F B Γ σ N' H' → Ex N N' → All2 N' Rs vs → vs[k]? = some v → σ[j]? = some (some v) → Q vs H') → ta σ H Q
theorem ex_any {i : Nat} {Γ : List Slot} {γ : Slot} (h : Γ[i]? = some γ) (g : γ.holds = true) : EX (tVar i) Γ kAny := fun F B σ N H Q S k => by
  obtain ⟨p, u, O, e, _⟩ := S.held h g
  exact ⟨_, e, k _ N H S (Ex.refl N) trivial⟩
theorem eah_here {Γ : List Slot} {j : Nat} {γ : Slot} {targ : TA} {Rs : List Kn} (h : Γ[j]? = some γ) (g : γ.holds = true) (hr : EA targ Γ Rs) : EAH (tCons (tVar j) targ) Γ 0 j (kAny :: Rs) := fun F B σ N H Q S k => by
  obtain ⟨p, u, O, e, _⟩ := S.held h g
  exact ⟨_, e, hr F B σ N H _ S fun vs N2 H2 S2 e2 r2 => k _ N2 H2 _ S2 e2 ⟨trivial, r2⟩ rfl e⟩
theorem eah_next {Γ : List Slot} {k j : Nat} {te : TE} {targ : TA} {R : Kn} {Rs : List Kn} (h : EX te Γ R) (hr : EAH targ Γ k j Rs) : EAH (tCons te targ) Γ (k + 1) j (R :: Rs) := fun F B σ N H Q S c =>
  h F B σ N H _ S fun x N1 H1 S1 e1 r1 => hr F B σ N1 H1 _ S1 fun vs N2 H2 v S2 e2 r2 q1 q2 => c (x :: vs) N2 H2 v S2 (e1.trans e2) ⟨R.mo _ _ _ e2 r1, r2⟩ (by simpa using q1) q2
/-- such a call, where what is known of the object stays -/
theorem ex_pmH {Γ : List Slot} {targ : TA} {E : XK} {j : Nat} {γ0 : Slot} (P : PmH) (i : P.ι) (ha : EAH targ Γ P.k j (P.args i)) (hp : P.pre i) (hj : Γ[j]? = some γ0) (g0 : γ0 = .own (P.oc i) ∨ γ0 = .hel (P.oc i)) (hO : P.oc' i = P.oc i) : EX (tCall P.sp [] E targ) Γ (P.res i) := fun F B σ N H Q S k =>
  ha F B σ N H _ S fun vs N1 H1 v S1 e1 r1 q1 q2 => by
    have hh : γ0.holds = true := by rcases g0 with g | g <;> rw [g] <;> rfl
    obtain ⟨p, u, O, z1, z2, z3, z4, z5, z6⟩ := S1.held hj hh
    rw [q2] at z1; cases z1
    have eO : O = P.oc i := by
      rcases g0 with g | g <;> subst g <;> rcases z2 with z | z <;> cases z <;> rfl
    subst eO
    rw [List.append_nil]
    refine ⟨i, N1, p, u, S1.sub, hp, r1, q1, z4, z5, z6, fun v N2 H2 u' a1 a2 a3 a4 a5 a6 r2 => ?_⟩
    rw [hO] at a6
    exact k v N2 H2 (S1.past hj g0 q2 a1 a2 a3 a4 a5 a6) (e1.trans a2) r2
/-! ### making an instance -/
/-- what __init__ promises: the instance gets these attributes -/
abbrev PmI (K : PySem.W.Frag) (C : Addr) (ι : Type) (pre : ι → Prop) (args : ι → List Kn) (fs : ι → List (Str × Kn)) : PmH := ⟨ι, pre, 0, fun i => kAny :: args i, fun _ => oI C [], fun i => oI C (fs i), fun _ => kd K .none⟩
theorem All2.append {N : Hp} : ∀ {Rs Rs' : List Kn} {vs vs' : List V}, All2 N Rs vs → All2 N Rs' vs' → All2 N (Rs ++ Rs') (vs ++ vs')
  | [], _, [], _, _, k => k
  | R0 :: Rs, _, u :: vs, _, h, k => ⟨h.1, All2.append h.2 k⟩
  | [], _, _ :: _, _, h, _ => h.elim
  | _ :: _, _, [], _, h, _ => h.elim
theorem made {K : PySem.W.Frag} {C : Addr} {ι : Type} {pre : ι → Prop} {args : ι → List Kn} {fs : ι → List (Str × Kn)} {E : XK} (i : ι) (hp : pre i) {F : Hp} {B : Addr → Prop} {Γ : List Slot} {σ : St} {N N1 H1 : Hp} {Q : VK} {vs : List V} (S1 : Stt F B Γ σ N1 H1) (e1 : Ex N N1) (r : All2 N1 (args i) vs)
    (k : Cont F B Γ σ N (kI C (fs i)) Q) (x dx : Addr) (hx : H1 x = none) (hd : H1 dx = none) (ne : dx ≠ x) : (PmI K C ι pre args fs).sp (.ref x :: vs) (upd (upd H1 dx (.own x)) x (.ins C dx [])) (fun v H2 => v = .non ∧ Q (.ref x) H2) E := by
  have nx := S1.sub.none hx
  have e0 : Ex H1 (upd (upd H1 dx (.own x)) x (.ins C dx [])) := (Ex.new hd).trans (Ex.new (by rw [upd_ne (Ne.symm ne)]; exact hx))
  refine ⟨i, N1, x, _, S1.sub.trans e0, hp, ⟨trivial, r⟩, rfl, nx, upd_same, ⟨dx, [], rfl, trivial⟩, fun v N2 H2 u' a1 a2 a3 a4 a5 a6 r2 => ?_⟩
  refine ⟨by cases r2; rfl, ?_⟩
  have n2 : N2 x = none := a4 x (by rw [upd_same]; exact Option.some_ne_none _) nx
  have eH : Ex H1 H2 := fun a o e => a1 a o (by
    have q : a ≠ x := ne_of_none e hx
    rw [less_ne q]; exact e0 a o e)
  have S2 := S1.grow (a2.trans (Ex.new n2)) eH (fun a o e => by
    by_cases q : a = x
    · subst q; rw [upd_same] at e; rw [a5, e]
    · rw [upd_ne q] at e; exact a3 a o e) (N' := upd N2 x u') fun a h1 h2 => by
      have q : a ≠ x := fun z => h1 (by rw [z]; exact hx)
      rw [upd_ne q]
      refine a4 a ?_ h2
      cases z : H1 a with
      | none => exact absurd z h1
      | some o => rw [e0 a o z]; exact Option.some_ne_none _
  exact k _ _ _ S2 (e1.trans (a2.trans (Ex.new n2))) ⟨x, u', rfl, upd_same, (oI C (fs i)).mo _ _ _ (Ex.new n2) a6⟩
theorem ex_mk {K : PySem.W.Frag} {C : Addr} {ι : Type} {pre : ι → Prop} {args : ι → List Kn} {fs : ι → List (Str × Kn)} {E : XK} {Γ : List Slot} {targ : TA} {dvs : List V} {Rs Ds : List Kn} (i : ι) (ha : EA targ Γ Rs) (hp : pre i) (hD : ∀ N, All2 N Ds dvs) (he : args i = Rs ++ Ds) : EX (tMake C (PmI K C ι pre args fs).sp dvs E targ) Γ (kI C (fs i)) := fun F B σ N H Q S k =>
  ha F B σ N H _ S fun vs N1 H1 S1 e1 r1 x dx hx hd ne => made i hp S1 e1 (by rw [he]; exact r1.append (hD N1)) k x dx hx hd ne
theorem ex_mkN {K : PySem.W.Frag} {C : Addr} {ι : Type} {pre : ι → Prop} {args : ι → List Kn} {fs : ι → List (Str × Kn)} {E : XK} {Γ : List Slot} {targ tk : TA} {n m : Nat} {Rs Rk : List Kn} (i : ι) (ha : EA targ Γ Rs) (hk : EA tk Γ Rk) (hp : pre i) (he : args i = Rs ++ Rk) (hn : Rs.length = n) (hm : Rk.length = m) : EX (tMakeN C n m (PmI K C ι pre args fs).sp (fun vs zs => vs ++ zs) E targ tk) Γ (kI C (fs i)) := fun F B σ N H Q S k =>
  ha F B σ N H _ S fun vs N1 H1 S1 e1 r1 => hk F B σ N1 H1 _ S1 fun zs N2 H2 S2 e2 r2 => ⟨by rw [r1.len, hn], by rw [r2.len, hm], fun x dx hx hd ne => made i hp S2 (e1.trans e2) (by rw [he]; exact (r1.mono e2).append r2) k x dx hx hd ne⟩
end Wk
namespace Wk
open PySem L2
theorem dpAll_ints {K : PySem.W.Frag} {N : Hp} : ∀ {ns : List Int} {vs : List V}, DpAll K N vs (ns.map .int) → vs = ns.map V.int
  | [], _, h => by cases h; rfl
  | n :: ns, _, h => by
    cases h with
    | cons h1 h2 => cases h1; rw [dpAll_ints h2]; rfl
theorem ints_dpAll {K : PySem.W.Frag} {N : Hp} : ∀ (ns : List Int), DpAll K N (ns.map V.int) (ns.map .int)
  | [] => .nil
  | n :: ns => .cons (.int n) (ints_dpAll ns)
/-! ### tables -/
/-- two or three buttons with their ties -/
structure Tb where
  n : Nat
  m : Fin n → Fin n → Nat
  h2 : 2 ≤ n
  h3 : n ≤ 3
  diag : ∀ s, m s s = 1
  sym : ∀ s t, m s t = m t s
  ok : ∀ s t, s ≠ t → m s t = 0 ∨ m s t = 2 ∨ m s t = 3 ∨ m s t = 4 ∨ m s t = 5
def Tb.A (T : Tb) (s t : Fin T.n) : G := if t = s then 2 else if s.val < t.val then lowG (T.m s t) else highG (T.m s t)
def Tb.sys (T : Tb) : Sys T.n where
  m := T.m
  A := T.A
  sym := T.sym
  diag := fun s => if_pos rfl
  rel := fun s t h => by
    have hv : s.val ≠ t.val := fun e => h (Fin.ext e)
    unfold Tb.A
    rw [if_neg (fun e => h e.symm), if_neg h, T.sym t s]
    rcases T.ok s t h with e | e | e | e | e <;> rw [e] <;> by_cases q : s.val < t.val
    · rw [if_pos q, if_neg (by omega)]; right; right; right; right; right; exact ⟨rfl, rfl, rfl⟩
    · rw [if_neg q, if_pos (by omega)]; right; right; right; right; right; exact ⟨rfl, rfl, rfl⟩
    · rw [if_pos q, if_neg (by omega)]; left; exact ⟨rfl, rfl, rfl⟩
    · rw [if_neg q, if_pos (by omega)]; left; exact ⟨rfl, rfl, rfl⟩
    · rw [if_pos q, if_neg (by omega)]; right; left; exact ⟨rfl, rfl, rfl⟩
    · rw [if_neg q, if_pos (by omega)]; right; left; exact ⟨rfl, rfl, rfl⟩
    · rw [if_pos q, if_neg (by omega)]; right; right; left; exact ⟨rfl, rfl, rfl⟩
    · rw [if_neg q, if_pos (by omega)]; right; right; right; left; exact ⟨rfl, rfl, rfl⟩
    · rw [if_pos q, if_neg (by omega)]; right; right; right; right; left; exact ⟨rfl, rfl, rfl⟩
    · rw [if_neg q, if_pos (by omega)]; right; right; right; right; left; exact ⟨rfl, rfl, rfl⟩
def Tb.sn (T : Tb) : Sn := ⟨T.n, T.sys, T.h2, T.h3⟩
/-- rows of small numbers -/
def encN (i : Nat) : PyData := .int (i : Int)
def encRow {n : Nat} (f : Fin n → Nat) : PyData := .tuple (fins fun t => encN (f t))
def encT {n : Nat} (m : Fin n → Fin n → Nat) : PyData := .tuple (fins fun s => encRow (m s))
def kTab (K : PySem.W.Frag) (T : Tb) : Kn := kI (He.ga K "Table") [("ties", kd K (encT T.m)), ("size", kd K (.int (T.n : Int))), ("pairs", kd K (encA T.sn)), ("pieces", kAny)]
/-- a change: its table, its images, its inverse's images -/
def kChg (K : PySem.W.Frag) (T : Tb) (g : W T.sys) : Kn := kI (He.ga K "Change") [("table", kTab K T), ("_ahead", kd K (encM (W.img g))), ("_back", kd K (encM (W.img g⁻¹)))]
section
variable {K : PySem.W.Frag} {mg : Str → Option Value} {Γ : List Slot} {te ta tb : TE} {T : Tb} {g : W T.sys}
theorem ex_ties (X : Tx K mg) (h : EX te Γ (kTab K T)) : EX (tFld K te "ties") Γ (kd K (encT T.m)) := ex_fld h rfl X.isTable.cl X.t_ties
theorem ex_size (X : Tx K mg) (h : EX te Γ (kTab K T)) : EX (tFld K te "size") Γ (kd K (.int (T.n : Int))) := ex_fld h rfl X.isTable.cl X.t_size
theorem ex_pairs (X : Tx K mg) (h : EX te Γ (kTab K T)) : EX (tFld K te "pairs") Γ (kd K (encA T.sn)) := ex_fld h rfl X.isTable.cl X.t_pairs
theorem ex_table (X : Tx K mg) (h : EX te Γ (kChg K T g)) : EX (tFld K te "table") Γ (kTab K T) := ex_fld h rfl X.isChange.cl X.t_table
theorem ex__ahead (X : Tx K mg) (h : EX te Γ (kChg K T g)) : EX (tFld K te "_ahead") Γ (kd K (encM (W.img g))) := ex_fld h rfl X.isChange.cl X.t_ahead
theorem ex__back (X : Tx K mg) (h : EX te Γ (kChg K T g)) : EX (tFld K te "_back") Γ (kd K (encM (W.img g⁻¹))) := ex_fld h rfl X.isChange.cl X.t_back
theorem ex_cell {n : Nat} {m : Fin n → Fin n → Nat} {i : Fin n} (ha : EX ta Γ (kd K (encT m))) (hb : EX tb Γ (kd K (encF i))) : EX (tOp (rIxT K) ta tb) Γ (kd K (encRow (m i))) := ex_ixT ha hb (atI_fin (fun s => encRow (m s)) i)
theorem ex_cell2 {n : Nat} {m : Fin n → Nat} {i : Fin n} (ha : EX ta Γ (kd K (encRow m))) (hb : EX tb Γ (kd K (encF i))) : EX (tOp (rIxT K) ta tb) Γ (kd K (encN (m i))) := ex_ixT ha hb (atI_fin (fun s => encN (m s)) i)
/-- isinstance of an instance -/
abbrev rIsC (K : PySem.W.Frag) (x : Str) : List V → Hp → VK → Prop := fun xs H Q => ∃ a dx fs, xs = [.ref a, .ref (He.ga K x)] ∧ H a = some (.ins (He.ga K x) dx fs) ∧ Q (.bl true) H
theorem ex_isK {x : Str} {fs : List (Str × Kn)} (h : EX te Γ (kI (He.ga K x) fs)) : EX (tCB (rIsC K x) (tCons te (tCons (tC (.ref (He.ga K x))) tNil))) Γ (kd K (.bool true)) := fun F B σ N H Q S k =>
  h F B σ N H _ S fun v N1 H1 S1 e1 ⟨a, u, ev, ea, dx, vs, eu, hall⟩ => by
    subst ev eu
    exact ⟨a, dx, _, rfl, S1.sub _ _ ea, k _ N1 H1 S1 e1 (.bl _)⟩
theorem ex_isTable (h : EX te Γ (kTab K T)) : EX (tCB (rIsC K "Table") (tCons te (tCons (tC (.ref (He.ga K "Table"))) tNil))) Γ (kd K (.bool true)) := ex_isK h
theorem ex_isChange (h : EX te Γ (kChg K T g)) : EX (tCB (rIsC K "Change") (tCons te (tCons (tC (.ref (He.ga K "Change"))) tNil))) Γ (kd K (.bool true)) := ex_isK h
/-- in an owned list of ints -/
theorem ex_inO {j : Nat} {i : Int} {ns : List Int} (ha : EX ta Γ (kd K (.int i))) (hj : Γ[j]? = some (.own (oL K (ns.map .int)))) : EX (tOp (rIn K false) ta (tVar j)) Γ (kd K (.bool (decide (i ∈ ns)))) := fun F B σ N H Q S k =>
  ha F B σ N H _ S fun x N1 H1 S1 e1 r1 => by
    obtain ⟨p, u, e, _, _, _, hp, vs, rfl, hall⟩ := S1.own hj
    cases r1
    obtain ⟨q1, q2⟩ := inV_ints (i := i) hall
    refine ⟨_, e, p, vs, rfl, .inl (SqL.of hp), rfl, q2, ?_⟩
    show Q (.bl (inV (.int i) vs)) H1
    rw [q1]; exact k _ N1 H1 S1 e1 (.bl _)
theorem ex_notInO {j : Nat} {i : Int} {ns : List Int} (ha : EX ta Γ (kd K (.int i))) (hj : Γ[j]? = some (.own (oL K (ns.map .int)))) : EX (tOp (rIn K true) ta (tVar j)) Γ (kd K (.bool (!decide (i ∈ ns)))) := fun F B σ N H Q S k =>
  ha F B σ N H _ S fun x N1 H1 S1 e1 r1 => by
    obtain ⟨p, u, e, _, _, _, hp, vs, rfl, hall⟩ := S1.own hj
    cases r1
    obtain ⟨q1, q2⟩ := inV_ints (i := i) hall
    refine ⟨_, e, p, vs, rfl, .inl (SqL.of hp), rfl, q2, ?_⟩
    show Q (.bl (!inV (.int i) vs)) H1
    rw [q1]; exact k _ N1 H1 S1 e1 (.bl _)
/-- sorted(an owned list of ints), into a list -/
theorem exl_sortedO {j : Nat} {ns : List Int} (hj : Γ[j]? = some (.own (oL K (ns.map .int)))) (hl : ns.length < 64) (ns' : List Int) (h : ∀ zs : List Int, zs.Perm ns → zs.Pairwise (· ≤ ·) → zs = ns') : EXL K (tCB (rSorted K) (tCons (tVar j) tNil)) Γ (ns'.map .int) := fun F B σ N H Q S k => by
  obtain ⟨p, u, e, _, _, _, hp, vs, rfl, hall⟩ := S.own hj
  refine ⟨_, e, p, ns, rfl, SqL.of (by rw [hp, dpAll_ints hall]), hl, fun zs q h1 h2 hq => ?_⟩
  rw [h zs h1 h2]
  exact k q N _ _ (S.hid hq) (Ex.refl N) upd_same (ints_dpAll ns') (S.sub.none hq) (S.fr.none hq) (fun b => S.bh q b hq) (S.apart hq)
/-- x = xs.pop() -/
abbrev tPop (K : PySem.W.Frag) (j : Nat) : TE := tBM0 K "list" rPop (tVar j)
theorem q_pop {P : Post} {u : TS} {i j : Nat} {ds : List PyData} {d : PyData} (hj : Γ[j]? = some (.own (oL K (ds ++ [d])))) (k : SX u ((Γ.set j (.own (oL K ds))).set i (.kn (kd K d))) P) : SX (tSeq (tAsg (tPop K j) (gName i)) u) Γ P := fun F B σ N H D S f => by
  obtain ⟨p, u, e1, _, _, _, hp, vs, rfl, r⟩ := S.own hj
  have hl : vs.length = ds.length + 1 := by rw [dpAll_len r]; simp
  obtain ⟨y, hy, ry⟩ := dpAll_get r (i := ds.length) (d := d) (by simp)
  refine ⟨_, e1, .inl ⟨rfl, _, SqL.of hp⟩, p, vs, y, rfl, rfl, hp, by rw [hl]; exact hy, ?_⟩
  have r2 : DpAll K N vs.dropLast ds := by
    have := dpAll_take ds.length r
    rw [List.take_left' rfl] at this
    rw [List.dropLast_eq_take, hl]; exact this
  exact k F B _ N _ D ((S.write (O' := oL K ds) hj e1 ⟨_, rfl, r2⟩).set i ry) f
end
end Wk
namespace Wk
open PySem L2
/-! ### pieces, plainly -/
section
variable {n : Nat} (m : Fin n → Fin n → Nat)
def tied (h o : Fin n) : Bool := !decide (((m h o : Nat) : Int) ∈ ([1, 2] : List Int))
theorem countP_less {α : Type} {p q : α → Bool} : ∀ {l : List α} {o : α}, o ∈ l → (∀ x, q x = true → p x = true) → p o = true → q o = false → l.countP q < l.countP p
  | x :: l, o, h, hpq, hp, hq => by
    rcases List.mem_cons.mp h with e | h
    · subst e
      rw [List.countP_cons_of_neg (by rw [hq]; decide), List.countP_cons_of_pos hp]
      have := List.countP_mono_left (l := l) (fun x _ => hpq x)
      omega
    · have ih := countP_less h hpq hp hq
      by_cases a : q x = true
      · rw [List.countP_cons_of_pos a, List.countP_cons_of_pos (hpq x a)]; omega
      · rw [List.countP_cons_of_neg a]
        by_cases b : p x = true
        · rw [List.countP_cons_of_pos b]; omega
        · rw [List.countP_cons_of_neg b]; exact ih
/-- how many are not found -/
def cnt (f : List (Fin n)) : Nat := (List.finRange n).countP fun o => !decide (o ∈ f)
theorem cnt_le (f : List (Fin n)) : cnt f ≤ n := by
  unfold cnt
  have := List.countP_le_length (p := fun o => !decide (o ∈ f)) (l := List.finRange n)
  rwa [List.length_finRange] at this
theorem cnt_snoc {f : List (Fin n)} {o : Fin n} (h : o ∉ f) : cnt (f ++ [o]) < cnt f := by
  refine countP_less (List.mem_finRange o) (fun x hx => ?_) (by simpa using h) (by simp)
  simp at hx ⊢
  exact hx.1
def pin (h : Fin n) (r : List (Fin n) × List (Fin n)) : Nat → List (Fin n) × List (Fin n)
  | 0 => r
  | i + 1 => let q := pin h r i
    if hi : i < n then (bif tied m h ⟨i, hi⟩ && !decide (⟨i, hi⟩ ∈ q.1) then (q.1 ++ [⟨i, hi⟩], q.2 ++ [⟨i, hi⟩]) else q) else q
def mu (r : List (Fin n) × List (Fin n)) : Nat := 2 * cnt r.1 + r.2.length
structure PinOk (r q : List (Fin n) × List (Fin n)) : Prop where
  mu : mu q ≤ mu r
  nd : r.1.Nodup → q.1.Nodup
  ln : q.1.length + cnt q.1 ≤ r.1.length + cnt r.1
theorem pin_ok (h : Fin n) (r : List (Fin n) × List (Fin n)) : ∀ i, PinOk r (pin m h r i)
  | 0 => ⟨Nat.le_refl _, id, Nat.le_refl _⟩
  | i + 1 => by
    have ih := pin_ok h r i
    unfold pin
    by_cases hi : i < n
    · dsimp only
      rw [dif_pos hi]
      cases c : (tied m h ⟨i, hi⟩ && !decide (⟨i, hi⟩ ∈ (pin m h r i).1)) with
      | false => exact ih
      | true =>
        rw [Bool.and_eq_true, Bool.not_eq_true', decide_eq_false_iff_not] at c
        have lt := cnt_snoc c.2
        refine ⟨?_, fun nd => ?_, ?_⟩
        · have := ih.mu
          unfold mu at this ⊢
          rw [cond_true]
          dsimp only
          rw [List.length_append, List.length_singleton]; omega
        · rw [cond_true]
          refine List.nodup_append.mpr ⟨ih.nd nd, List.pairwise_singleton _ _, fun a ha b hb e => ?_⟩
          rw [List.mem_singleton.mp hb] at e
          exact c.2 (e ▸ ha)
        · have := ih.ln
          rw [cond_true]
          dsimp only
          rw [List.length_append, List.length_singleton]; omega
    · dsimp only
      rw [dif_neg hi]; exact ih
def pgo : Nat → List (Fin n) × List (Fin n) → List (Fin n)
  | 0, r => r.1
  | k + 1, r => match r.2.getLast? with
    | none => r.1
    | some h => pgo k (pin m h (r.1, r.2.dropLast) n)
theorem pgo_next {f w : List (Fin n)} {h : Fin n} {k : Nat} : pgo m (k + 1) (f, w ++ [h]) = pgo m k (pin m h (f, w) n) := by
  rw [pgo]
  dsimp only
  rw [List.getLast?_concat, List.dropLast_concat]
theorem pgo_done {f : List (Fin n)} {k : Nat} : pgo m k (f, []) = f := by cases k <;> rfl
def pieceF (s : Fin n) : List (Fin n) := (List.finRange n).filter fun t => decide (t ∈ pgo m (2 * n + 2) ([s], [s]))
theorem sort_fins {f : List (Fin n)} (nd : f.Nodup) (zs : List Int) (h1 : zs.Perm (f.map fun t => (t.val : Int))) (h2 : zs.Pairwise (· ≤ ·)) : zs = ((List.finRange n).filter fun t => decide (t ∈ f)).map fun t => (t.val : Int) := by
  refine List.Perm.eq_of_pairwise (le := (· ≤ ·)) (fun a b _ _ x y => Int.le_antisymm x y) h2 ?_ (h1.trans (List.Perm.map _ ?_))
  · refine List.pairwise_map.mpr (List.Pairwise.filter _ ((List.pairwise_lt_finRange n).imp fun {a b} h => ?_))
    have : a.val < b.val := h
    omega
  · refine (List.perm_ext_iff_of_nodup nd ((List.nodup_finRange n).filter _)).mpr fun a => ?_
    rw [List.mem_filter]
    exact ⟨fun h => ⟨List.mem_finRange a, decide_eq_true h⟩, fun h => of_decide_eq_true h.2⟩
theorem mu_snoc {f w : List (Fin n)} {x : Fin n} : mu (f, w ++ [x]) = mu (f, w) + 1 := by
  unfold mu; dsimp only; rw [List.length_append, List.length_singleton]; omega
theorem pgo_same : ∀ (a c : Nat) (f w : List (Fin n)), mu (f, w) ≤ a → mu (f, w) ≤ c → pgo m a (f, w) = pgo m c (f, w) := by
  intro a
  induction a with
  | zero =>
    intro c f w h1 h2
    rcases List.eq_nil_or_concat w with e | ⟨v, x, e⟩
    · rw [e, pgo_done, pgo_done]
    · rw [e, List.concat_eq_append, mu_snoc] at h1; omega
  | succ a ih =>
    intro c f w h1 h2
    rcases List.eq_nil_or_concat w with e | ⟨v, x, e⟩
    · rw [e, pgo_done, pgo_done]
    · rw [e, List.concat_eq_append] at h1 h2 ⊢
      rw [mu_snoc] at h1 h2
      cases c with
      | zero => omega
      | succ c =>
        rw [pgo_next, pgo_next]
        have p1 : mu ((pin m x (f, v) n).1, (pin m x (f, v) n).2) ≤ mu (f, v) := (pin_ok m x (f, v) n).mu
        exact ih c _ _ (by omega) (by omega)
theorem pin_mem {h t : Fin n} {r : List (Fin n) × List (Fin n)} (ht : t ∈ r.1) : ∀ i, t ∈ (pin m h r i).1
  | 0 => ht
  | i + 1 => by
    have ih := pin_mem (h := h) ht i
    unfold pin
    dsimp only
    by_cases hi : i < n
    · rw [dif_pos hi]
      cases c : (tied m h ⟨i, hi⟩ && !decide (⟨i, hi⟩ ∈ (pin m h r i).1)) with
      | false => exact ih
      | true => exact List.mem_append_left _ ih
    · rw [dif_neg hi]; exact ih
theorem pgo_mem {t : Fin n} : ∀ (k : Nat) (r : List (Fin n) × List (Fin n)), t ∈ r.1 → t ∈ pgo m k r
  | 0, r, h => h
  | k + 1, r, h => by
    rw [pgo]
    split
    · exact h
    · exact pgo_mem k _ (pin_mem m (r := (r.1, r.2.dropLast)) h n)
theorem pieceF_self (s : Fin n) : s ∈ pieceF m s := List.mem_filter.mpr ⟨List.mem_finRange s, decide_eq_true (pgo_mem m _ _ (List.mem_singleton_self s))⟩
/-- the pieces -/
def piecesF : List (List (Fin n)) := ((List.finRange n).filter fun s => decide ((pieceF m s).head? = some s)).map (pieceF m)
end
theorem finRange_take {n i : Nat} (hi : i < n) : (List.finRange n).take (i + 1) = (List.finRange n).take i ++ [⟨i, hi⟩] := by
  have h : i < (List.finRange n).length := by rw [List.length_finRange]; exact hi
  rw [List.take_succ_eq_append_getElem h, List.getElem_finRange]; rfl
def encP {n : Nat} (ps : List (List (Fin n))) : PyData := .tuple (ps.map encW)
/-! ### promises -/
abbrev pm_is_button (K : PySem.W.Frag) : Pm := ⟨(n : Nat) × Fin n, fun _ => True, fun i => [kd K (.int (i.1 : Int)), kd K (encF i.2)], fun _ => kd K (.bool true)⟩
abbrev pm_is_right_row (K : PySem.W.Frag) : Pm := ⟨(T : Tb) × Fin T.n, fun _ => True, fun i => [kd K (encT i.1.m), kd K (encF i.2)], fun _ => kd K (.bool true)⟩
abbrev pm_first_wrong_row (K : PySem.W.Frag) : Pm := ⟨Tb, fun _ => True, fun T => [kd K (encT T.m)], fun _ => kd K (.int (-1))⟩
abbrev pm_weight_pairs (K : PySem.W.Frag) : Pm := ⟨Tb, fun _ => True, fun T => [kd K (encT T.m)], fun T => kd K (encA T.sn)⟩
abbrev pm_piece_from (K : PySem.W.Frag) : Pm := ⟨(n : Nat) × ((Fin n → Fin n → Nat) × Fin n), fun i => i.1 ≤ 3, fun i => [kd K (encT i.2.1), kd K (encF i.2.2)], fun i => kd K (encW (pieceF i.2.1 i.2.2))⟩
abbrev pm_pieces_of (K : PySem.W.Frag) : Pm := ⟨(n : Nat) × (Fin n → Fin n → Nat), fun i => i.1 ≤ 3, fun i => [kd K (encT i.2)], fun i => kd K (encP (piecesF i.2))⟩
abbrev pm_check_table (K : PySem.W.Frag) : Pm := ⟨Tb, fun _ => True, fun T => [kTab K T], fun _ => kd K .none⟩
abbrev pm_wrong_in_room (K : PySem.W.Frag) : Pm := ⟨(T : Tb) × List (Fin T.n), fun i => i.2.Pairwise (· < ·) ∧ i.2.length ≤ 100, fun i => [kTab K i.1, kd K (encW i.2)], fun _ => kd K (.int (-1))⟩
abbrev pm_wrong_in_word (K : PySem.W.Frag) : Pm := ⟨(T : Tb) × (List (Fin T.n) × Nat), fun i => i.2.1.length ≤ i.2.2 ∧ i.2.2 ≤ 1000, fun i => [kTab K i.1, kd K (encW i.2.1), kd K (.int (i.2.2 : Int))], fun _ => kd K (.int (-1))⟩
abbrev pm_check_word (K : PySem.W.Frag) : Pm := ⟨(T : Tb) × List (Fin T.n), fun i => i.2.length ≤ 60, fun i => [kTab K i.1, kd K (encW i.2)], fun _ => kd K .none⟩
abbrev pm_check_room (K : PySem.W.Frag) : Pm := ⟨(T : Tb) × List (Fin T.n), fun i => i.2.Pairwise (· < ·) ∧ i.2.length ≤ 100, fun i => [kTab K i.1, kd K (encW i.2)], fun _ => kd K .none⟩
abbrev pm_check_number (K : PySem.W.Frag) : Pm := ⟨Int × Int × Int, fun i => i.2.1 ≤ i.1 ∧ i.1 ≤ i.2.2, fun i => [kd K (.int i.1), kd K (.int i.2.1), kd K (.int i.2.2)], fun _ => kd K .none⟩
abbrev pm_part_ties (K : PySem.W.Frag) : Pm := ⟨(n : Nat) × ((Fin n → Fin n → Nat) × List (Fin n)), fun i => i.2.2.length ≤ 3, fun i => [kd K (encT i.2.1), kd K (encW i.2.2)], fun i => kd K (encT (n := i.2.2.length) fun a b => i.2.1 i.2.2[a] i.2.2[b])⟩
section
variable {K : PySem.W.Frag} {Γ : List Slot} {te ta tb : TE} {targ : TA}
theorem encW_fins {n : Nat} (w : List (Fin n)) : encW w = .tuple (fins fun i : Fin w.length => encF w[i]) := by
  unfold encW
  congr 1
  apply List.ext_getElem?
  intro i
  by_cases q : i < w.length
  · rw [fins_get _ ⟨i, q⟩, List.getElem?_map, List.getElem?_eq_getElem q]; rfl
  · rw [List.getElem?_eq_none (by rw [List.length_map]; omega), List.getElem?_eq_none (by rw [fins_len]; omega)]
theorem ex_wordF {n : Nat} {w : List (Fin n)} (h : EX te Γ (kd K (encW w))) : EX te Γ (kd K (.tuple (fins fun i : Fin w.length => encF w[i]))) := by rw [← encW_fins]; exact h
theorem iw_wordF {n : Nat} {w : List (Fin n)} (h : EX te Γ (kd K (encW w))) : IX (iTup K te) Γ w.length (kdAt K (fins fun i : Fin w.length => encF w[i])) := iw_tupF (ex_wordF h)
theorem encRow_iD {n : Nat} (f : Fin n → Nat) : iD 1 (encRow f) = true := by
  unfold encRow fins
  simp only [iD]
  generalize List.finRange n = l
  induction l with
  | nil => rfl
  | cons a l ih => simp only [List.map_cons, iDs, Bool.and_eq_true]; exact ⟨rfl, ih⟩
theorem encF_map {n : Nat} (f : List (Fin n)) : f.map encF = (f.map fun t => (t.val : Int)).map .int := by rw [List.map_map]; rfl
theorem mem_vals {n : Nat} (f : List (Fin n)) (o : Fin n) : decide ((o.val : Int) ∈ f.map fun t => (t.val : Int)) = decide (o ∈ f) := by
  refine decide_eq_decide.mpr ⟨fun h => ?_, fun h => List.mem_map_of_mem h⟩
  obtain ⟨t, h1, h2⟩ := List.mem_map.mp h
  have : t = o := Fin.ext (by omega)
  rwa [← this]
theorem ex_notInOF {n j : Nat} {f : List (Fin n)} {o : Fin n} (ha : EX ta Γ (kd K (encF o))) (hj : Γ[j]? = some (.own (oL K (f.map encF)))) : EX (tOp (rIn K true) ta (tVar j)) Γ (kd K (.bool (!decide (o ∈ f)))) := by
  rw [← mem_vals]
  exact ex_notInO ha (by rw [← encF_map]; exact hj)
theorem ex_inOF {n j : Nat} {f : List (Fin n)} {o : Fin n} (ha : EX ta Γ (kd K (encF o))) (hj : Γ[j]? = some (.own (oL K (f.map encF)))) : EX (tOp (rIn K false) ta (tVar j)) Γ (kd K (.bool (decide (o ∈ f)))) := by
  rw [← mem_vals]
  exact ex_inO ha (by rw [← encF_map]; exact hj)
theorem exl_sortedOF {n j : Nat} {f : List (Fin n)} (hj : Γ[j]? = some (.own (oL K (f.map encF)))) (nd : f.Nodup) (hl : f.length < 64) : EXL K (tCB (rSorted K) (tCons (tVar j) tNil)) Γ (((List.finRange n).filter fun t => decide (t ∈ f)).map encF) := by
  rw [encF_map]
  exact exl_sortedO (ns := f.map fun t => (t.val : Int)) (by rw [← encF_map]; exact hj) (by rw [List.length_map]; exact hl) _ fun zs h1 h2 => sort_fins nd zs h1 h2
end
end Wk
namespace Wk
open PySem L2
section
variable {P : Program} {w : World} {K : PySem.W.Frag} {mg : Str → Option Value} {base : Heap}
abbrev s_is_button : Stmt := top 59
abbrev Ns_is_button : List Str := ["size", "value"]
theorem sc_is_button : FnScope Ns_is_button ["size", "value"] (defScope s_is_button) := ⟨rfl, rfl, rfl, by decide +kernel, rfl, by decide +kernel, by decide +kernel⟩
def t_is_button (K : PySem.W.Frag) : TS := (tRet (tAndV (tCall (pm_is_whole K).sp [] E0 (tCons (tVar 1) tNil)) (tChain (rI0 fun i j => .bl (decide (i ≤ j))) (rI0 fun i j => .bl (decide (i < j))) (tC (.int 0)) (tVar 1) (tVar 0))))
theorem sx_is_button (T : Tx K mg) : (pm_is_button K).body Ns_is_button (t_is_button K) := by
  rintro ⟨n, s⟩ _
  dsimp only [pm_is_button]
  show SX _ [_, _] _
  refine sx_ret (ex_is (ex_andV (ex_pm (pm_is_whole K) (s.val : Int) (ea_cons (ex_var rfl) ea_nil) trivial) fun _ => (ex_chain (ex_int (K := K)) (ex_var rfl) opr_le (ex_var rfl) fun _ => opr_lt)) ?_)
  have := s.isLt
  have h1 : decide ((0 : Int) ≤ (s.val : Int)) = true := decide_eq_true (by omega)
  have h2 : decide ((s.val : Int) < (n : Int)) = true := decide_eq_true (by omega)
  rw [h1, h2]; rfl
theorem ok_is_button (T : Tx K mg) (c_is_whole : C8.Cal P w K mg base 1 "is_whole" (pm_is_whole K).sp []) {f : Addr} {fd : FuncData} (F : FnP K "is_button" "is_button" s_is_button f fd) : FnOk P w K mg base CX0 2 f fd ["size", "value"] (pm_is_button K).sp := by
  have sc := sc_is_button
  refine F.ok sc (fun vs H Q E h => Pm.len (fun _ => rfl) vs H Q E h) (fun cdv A outer s H vs Q E hr h => ⟨t_is_button K, PSs.nox ?_, Pm.go (sx_is_button T) vs H Q E h⟩)
  exact (pss_one (ps_ret (pe_and (C8.pe_c c_is_whole hr (by decide) rfl (pa_cons (pv 1) pa_nil)) (pe_one (pe_chain op_le op_lt pe_int (pv 1) (pv 0))))))
abbrev s_is_right_row : Stmt := top 60
abbrev Ns_is_right_row : List Str := ["ties", "place", "row", "other", "tie"]
theorem sc_is_right_row : FnScope Ns_is_right_row ["ties", "place"] (defScope s_is_right_row) := ⟨rfl, rfl, rfl, by decide +kernel, rfl, by decide +kernel, by decide +kernel⟩
def t_is_right_row (K : PySem.W.Frag) : TS := (tSeq (tAsg (tOp (rIxT K) (tVar 0) (tVar 1)) (gName 2))
    (tSeq (tIfS (tOr (tNot (tB (tCB (rIsi K) (tCons (tVar 2) (tCons (tC (.ty "tuple")) tNil))))) (tOr (tTest (tOp rNe (tCB (rLenSeq K) (tCons (tVar 2) tNil)) (tCB (rLenSeq K) (tCons (tVar 0) tNil)))) (tTest (tOp (rNeD K) (tLc (iTup K (tVar 2)) (gName 4) (tNot (tB (tCall (pm_is_whole K).sp [] E0 (tCons (tVar 4) tNil)))) (tVar 4) [4]) (tLst tNil))))) (tRet (tC (.bl false))) tNext)
    (tSeq (tFor (iEnumT K (tCons (tVar 2) tNil)) (gTup K 2 (gCons (gName 3) (gCons (gName 4) gNil))) (tSeq (tIfS (tOr (tAnd (tTest (tOp rEq (tVar 3) (tVar 1))) (tTest (tOp rNe (tVar 4) (tC (.int 1))))) (tAnd (tTest (tOp rNe (tVar 3) (tVar 1))) (tTest (tOp (rIn K true) (tVar 4) (tC (vTIES K)))))) (tRet (tC (.bl false))) tNext)
    (tIfS (tAnd (tTest (tOp (rI0 fun i j => .bl (decide (i < j))) (tVar 3) (tVar 1))) (tTest (tOp rNe (tVar 4) (tOp (rIxT K) (tOp (rIxT K) (tVar 0) (tVar 3)) (tVar 1))))) (tRet (tC (.bl false))) tNext)))
    (tRet (tC (.bl true))))))
theorem sx_is_right_row (T : Tx K mg) : (pm_is_right_row K).body Ns_is_right_row (t_is_right_row K) := by
  rintro ⟨X, s⟩ _
  dsimp only [pm_is_right_row]
  show SX _ [_, _, _, _, _] _
  have sz := X.h3
  refine q_set (ex_cell (ex_var rfl) (ex_var rfl)) ?_
  refine q_if (b := false) (et_is (et_or (et_not (et_B (ex_isTup (ex_var rfl)))) fun _ => (et_or (et_test (ex_neI (ex_lenF (f := fun t => encN (X.m s t)) (ex_var rfl)) (ex_lenF (f := fun t => encRow (X.m t)) (ex_var rfl)))) fun _ => (et_test (ex_neD (shaped_of (k := 1) (by rw [show ((List.finRange X.n).filter fun _ => !true) = [] from List.filter_eq_nil_iff.mpr fun _ _ => by decide]; rfl) (by decide)) (shaped_of (k := 1) rfl (by decide)) (ex_ofL (exl_lcT (iw_tupF (f := fun t => encN (X.m s t)) (ex_var rfl)) (fun i => gx_name) (fun i => (et_not (et_B (ex_pm (pm_is_whole K) ((X.m s i : Nat) : Int) (ea_cons (ex_var rfl) ea_nil) trivial)))) fun i hp => (ex_var rfl))) (ex_ofL (exl_lst (ead_nil (K := K)))))))) ?_) (fun e => by cases e) (fun _ => sx_pass ?_)
  · have e : ((List.finRange X.n).filter fun _ => !true) = [] := by
      apply List.filter_eq_nil_iff.mpr
      intro _ _; decide
    rw [e, decide_eq_true rfl]; rfl
  refine q_for (fun i Γ => ∃ a b, Γ = [.kn (kd K (encT X.m)), .kn (kd K (encF s)), .kn (kd K (encRow (X.m s))), a, b]) (iw_enumF (f := fun t => encN (X.m s t)) (ex_var rfl)) ⟨_, _, rfl⟩ ?_ ?_
  · rintro i Γ hi ⟨a, b, rfl⟩
    refine ⟨_, _, by rw [kdAt_fin (fun t => PyData.tuple [encF t, encN (X.m s t)]) ⟨i, hi⟩]; exact (gx_tup (gxs_cons gx_name (gxs_cons gx_name gxs_nil))), ?_⟩
    have ok := X.ok s ⟨i, hi⟩
    have dg := X.diag s
    have sy := X.sym s ⟨i, hi⟩
    refine q_if (b := false) (et_is (et_or (et_and (et_test (ex_eqI (ex_var rfl) (ex_var rfl))) fun _ => (et_test (ex_neI (ex_var rfl) (ex_int (K := K))))) fun _ => (et_and (et_test (ex_neI (ex_var rfl) (ex_var rfl))) fun _ => (et_test (ex_notInT (ex_var rfl) (ex_TIES T))))) ?_) (fun e => by cases e) (fun _ => sx_pass ?_)
    · by_cases q : s = ⟨i, hi⟩
      · subst q
        rw [dg]; simp
      · have qv : ¬ ((i : Int) = (s.val : Int)) := fun e => q (Fin.ext (by show s.val = i; omega))
        rcases ok q with e | e | e | e | e <;> rw [e] <;> simp [qv]
    refine s_if (b := false) (et_is (et_and (et_test (ex_lt (ex_var rfl) (ex_var rfl))) fun _ => (et_test (ex_neI (ex_var rfl) (ex_cell2 (ex_cell (ex_var rfl) (ex_var rfl)) (ex_var rfl))))) ?_) (fun e => by cases e) (fun _ => sx_nil ⟨_, _, rfl⟩)
    rw [sy]; simp
  · rintro Γ ⟨a, b, rfl⟩
    exact sx_ret (ex_bl (K := K))
theorem ok_is_right_row (T : Tx K mg) (c_is_whole : C8.Cal P w K mg base 1 "is_whole" (pm_is_whole K).sp []) {f : Addr} {fd : FuncData} (F : FnP K "is_right_row" "is_right_row" s_is_right_row f fd) : FnOk P w K mg base CX0 2 f fd ["ties", "place"] (pm_is_right_row K).sp := by
  have sc := sc_is_right_row
  refine F.ok sc (fun vs H Q E h => Pm.len (fun _ => rfl) vs H Q E h) (fun cdv A outer s H vs Q E hr h => ⟨t_is_right_row K, PSs.nox ?_, Pm.go (sx_is_right_row T) vs H Q E h⟩)
  exact (pss_cons (ps_set (i := 2) sc.nd rfl (by first | exact Or.inl rfl | exact Or.inr rfl) (pe_ix ix_tup (pv 0) (pv 1) (fun _ _ => rfl)))
      (pss_cons (ps_if (PW.pt (pw_or (pt_not (pt_val (pe_callB call_isi rfl T.isinstance_ PyProof.Rows.boot_isinstance (pa_cons (pv 2) (pa_cons (pe_bltn (v := .ty "tuple") (u := .type "tuple") rfl T.tuple_ (by decide +kernel) rfl) pa_nil))))) (pw_or (pt_cmpR op_ne (pe_callB call_len_seq rfl T.len_ PySem.boot_len (pa_cons (pv 2) pa_nil)) (pe_callB call_len_seq rfl T.len_ PySem.boot_len (pa_cons (pv 0) pa_nil)) (nomark _)) (pw_or1 (pt_cmpR (op_neD hr.units) (pe_lc (own := [("tie", 4)]) (g := (gName 4)) (tt := (tNot (tB (tCall (pm_is_whole K).sp [] E0 (tCons (tVar 4) tNil))))) (te := (tVar 4)) rfl sc.nd (pi_tup (pv 2)) (blkOk_by (own := [("tie", 4)]) (N := Ns_is_right_row) (sc := defScope s_is_right_row) (by decide +kernel)) (fun _ _ _ _ _ => (pg_name (i := 4) sc.nd rfl (by first | exact Or.inl rfl | exact Or.inr rfl))) (fun _ _ _ _ _ => (pts_one (pt_not (pt_val (C8.pe_c c_is_whole hr (by decide) rfl (pa_cons (pv 4) pa_nil)))))) (fun _ _ _ _ _ => (pv 4))) (pe_lst pa_nil) (nomark _)))))) (pss_one (ps_ret pe_bl)) pss_nil)
      (pss_cons (ps_for PassesOwn.never rfl (pi_enumT (by rfl) T.enumerate_ (pa_cons (pv 2) pa_nil)) (pg_tup rfl (pgs_cons (pg_name (i := 3) sc.nd rfl (by first | exact Or.inl rfl | exact Or.inr rfl)) (pgs_cons (pg_name (i := 4) sc.nd rfl (by first | exact Or.inl rfl | exact Or.inr rfl)) pgs_nil))) (pss_cons (ps_if (PW.pt (pw_or (PW.pt (pw_and (pt_cmpR op_eq (pv 3) (pv 1) (nomark _)) (pw_and1 (pt_cmpR op_ne (pv 4) pe_int (nomark _))))) (pw_or1 (PW.pt (pw_and (pt_cmpR op_ne (pv 3) (pv 1) (nomark _)) (pw_and1 (pt_cmpR op_notIn_seq (pv 4) (C8.pe_gc rfl T.cTIES) (by with_unfolding_all rfl)))))))) (pss_one (ps_ret pe_bl)) pss_nil)
      (pss_one (ps_if (PW.pt (pw_and (pt_cmpR op_lt (pv 3) (pv 1) (nomark _)) (pw_and1 (pt_cmpR op_ne (pv 4) (pe_ix ix_tup (pe_ix ix_tup (pv 0) (pv 3) (fun _ _ => rfl)) (pv 1) (fun _ _ => rfl)) (nomark _))))) (pss_one (ps_ret pe_bl)) pss_nil))))
      (pss_one (ps_ret pe_bl)))))
abbrev s_first_wrong_row : Stmt := top 61
abbrev Ns_first_wrong_row : List Str := ["ties", "place"]
theorem sc_first_wrong_row : FnScope Ns_first_wrong_row ["ties"] (defScope s_first_wrong_row) := ⟨rfl, rfl, rfl, by decide +kernel, rfl, by decide +kernel, by decide +kernel⟩
def t_first_wrong_row (K : PySem.W.Frag) : TS := (tSeq (tIfS (tOr (tNot (tB (tCB (rIsi K) (tCons (tVar 0) (tCons (tC (.ty "tuple")) tNil))))) (tNot (tTest (tChain (rI0 fun i j => .bl (decide (i ≤ j))) (rI0 fun i j => .bl (decide (i ≤ j))) (tC (.int 1)) (tCB (rLenSeq K) (tCons (tVar 0) tNil)) (tC (vMOST_BUTTONS K)))))) (tRet (tC .non)) tNext)
    (tSeq (tFor (iRng1 (tCons (tCB (rLenSeq K) (tCons (tVar 0) tNil)) tNil)) (gName 1) (tIfS (tNot (tB (tCall (pm_is_right_row K).sp [] E0 (tCons (tVar 0) (tCons (tVar 1) tNil))))) (tRet (tVar 1)) tNext))
    (tRet (tUn (rU fun i => .int (-i)) (tC (.int 1))))))
theorem sx_first_wrong_row (T : Tx K mg) : (pm_first_wrong_row K).body Ns_first_wrong_row (t_first_wrong_row K) := by
  rintro X _
  dsimp only [pm_first_wrong_row]
  show SX _ [_, _] _
  have s2 := X.h2
  have sz := X.h3
  refine q_if (b := false) (et_is (et_or (et_not (et_B (ex_isTup (ex_var rfl)))) fun _ => (et_not (et_test (ex_chain (ex_int (K := K)) (ex_lenF (f := fun t => encRow (X.m t)) (ex_var rfl)) opr_le (ex_MOST_BUTTONS T) fun _ => opr_le)))) ?_) (fun e => by cases e) (fun _ => sx_pass ?_)
  · have h1 : decide ((1 : Int) ≤ (X.n : Int)) = true := decide_eq_true (by omega)
    have h2 : decide ((X.n : Int) ≤ 6) = true := decide_eq_true (by omega)
    rw [h1, h2]; rfl
  refine q_for (fun i Γ => ∃ a, Γ = [.kn (kd K (encT X.m)), a]) (iw_rangeF (ea_cons (ex_lenF (f := fun t => encRow (X.m t)) (ex_var rfl)) ea_nil)) ⟨_, rfl⟩ ?_ ?_
  · rintro i Γ hi ⟨a, rfl⟩
    refine ⟨_, _, by rw [kdAt_fin (fun t => encF t) ⟨i, hi⟩]; exact gx_name, ?_⟩
    exact s_if (b := false) (et_is (et_not (et_B (ex_pm (pm_is_right_row K) ⟨X, ⟨i, hi⟩⟩ (ea_cons (ex_var rfl) (ea_cons (ex_var rfl) ea_nil)) trivial))) rfl) (fun e => by cases e) (fun _ => sx_nil ⟨_, rfl⟩)
  · rintro Γ ⟨a, rfl⟩
    exact sx_ret (ex_neg (ex_int (K := K)))
theorem ok_first_wrong_row (T : Tx K mg) (c_is_right_row : C8.Cal P w K mg base 2 "is_right_row" (pm_is_right_row K).sp []) {f : Addr} {fd : FuncData} (F : FnP K "first_wrong_row" "first_wrong_row" s_first_wrong_row f fd) : FnOk P w K mg base CX0 3 f fd ["ties"] (pm_first_wrong_row K).sp := by
  have sc := sc_first_wrong_row
  refine F.ok sc (fun vs H Q E h => Pm.len (fun _ => rfl) vs H Q E h) (fun cdv A outer s H vs Q E hr h => ⟨t_first_wrong_row K, PSs.nox ?_, Pm.go (sx_first_wrong_row T) vs H Q E h⟩)
  exact (pss_cons (ps_if (PW.pt (pw_or (pt_not (pt_val (pe_callB call_isi rfl T.isinstance_ PyProof.Rows.boot_isinstance (pa_cons (pv 0) (pa_cons (pe_bltn (v := .ty "tuple") (u := .type "tuple") rfl T.tuple_ (by decide +kernel) rfl) pa_nil))))) (pw_or1 (pt_not (pt_chain op_le op_le pe_int (pe_callB call_len_seq rfl T.len_ PySem.boot_len (pa_cons (pv 0) pa_nil)) (C8.pe_gc rfl T.cMOST_BUTTONS)))))) (pss_one (ps_ret pe_non)) pss_nil)
      (pss_cons (ps_for PassesOwn.never rfl (pi_range1 rfl T.range_ (pa_cons (pe_callB call_len_seq rfl T.len_ PySem.boot_len (pa_cons (pv 0) pa_nil)) pa_nil)) (pg_name (i := 1) sc.nd rfl (by first | exact Or.inl rfl | exact Or.inr rfl)) (pss_one (ps_if (pt_not (pt_val (C8.pe_c c_is_right_row hr (by decide) rfl (pa_cons (pv 0) (pa_cons (pv 1) pa_nil))))) (pss_one (ps_ret (pv 1))) pss_nil)))
      (pss_one (ps_ret (pe_un un_neg pe_int)))))
abbrev s_weight_pairs : Stmt := top 62
abbrev Ns_weight_pairs : List Str := ["ties", "rows", "place", "row", "other", "tie"]
theorem sc_weight_pairs : FnScope Ns_weight_pairs ["ties"] (defScope s_weight_pairs) := ⟨rfl, rfl, rfl, by decide +kernel, rfl, by decide +kernel, by decide +kernel⟩
def t_weight_pairs (K : PySem.W.Frag) : TS := (tSeq (tAsg (tLst tNil) (gName 1))
    (tSeq (tFor (iEnumT K (tCons (tVar 0) tNil)) (gTup K 2 (gCons (gName 2) (gCons (gName 3) gNil))) (tDrop (tBM K "list" rAppend (tVar 1) (tCons (tCB (rTupOf K) (tCons (tLc (iEnumT K (tCons (tVar 3) tNil)) (gTup K 2 (gCons (gName 4) (gCons (gName 5) gNil))) tYes (tIf (tTest (tOp rEq (tVar 4) (tVar 2))) (tTup (tCons (tC (.int 2)) (tCons (tC (.int 0)) tNil))) (tIf (tTest (tOp (rI0 fun i j => .bl (decide (i < j))) (tVar 2) (tVar 4))) (tOp (rIxDI K) (tC (vLOW K)) (tVar 5)) (tOp (rIxDI K) (tC (vHIGH K)) (tVar 5)))) [4, 5]) tNil)) tNil))))
    (tRet (tCB (rTupOf K) (tCons (tVar 1) tNil)))))
theorem sx_weight_pairs (T : Tx K mg) : (pm_weight_pairs K).body Ns_weight_pairs (t_weight_pairs K) := by
  rintro X _
  dsimp only [pm_weight_pairs]
  show SX _ [_, _, _, _, _, _] _
  have sz := X.h3
  refine q_setL (exl_lst (ead_nil (K := K))) ?_
  refine q_for (fun i Γ => ∃ a b, Γ = [.kn (kd K (encT X.m)), .own (oL K ((fins fun s => encV (X.A s)).take i)), a, b, .un, .un]) (iw_enumF (f := fun t => encRow (X.m t)) (ex_var rfl)) ⟨_, _, rfl⟩ ?_ ?_
  · rintro i Γ hi ⟨a, b, rfl⟩
    refine ⟨_, _, by rw [kdAt_fin (fun t => PyData.tuple [encF t, encRow (X.m t)]) ⟨i, hi⟩]; exact (gx_tup (gxs_cons gx_name (gxs_cons gx_name gxs_nil))), ?_⟩
    have hl : i < (fins fun s => encV (X.A s)).length := by rw [fins_len]; exact hi
    refine s_app rfl (d := encV (X.A ⟨i, hi⟩)) (ex_is (ex_tupL (exl_lcB (iw_enumF (f := fun t => encN (X.m ⟨i, hi⟩ t)) (ex_var rfl)) (fun t => (gx_tup (gxs_cons gx_name (gxs_cons gx_name gxs_nil)))) fun t => (ex_weak (ex_if (R := kd K (encG (X.A ⟨i, hi⟩ t))) (et_test (ex_eqI (ex_var rfl) (ex_var rfl))) (fun e => ex_is (ex_tup (ead_cons (ex_int (K := K)) (ead_cons (ex_int (K := K)) ead_nil))) ?_) fun e => ex_if (et_test (ex_lt (ex_var rfl) (ex_var rfl))) (fun e2 => ex_is (ex_LOW T (X.ok ⟨i, hi⟩ t ?_) (ex_var rfl)) ?_) fun e2 => ex_is (ex_HIGH T (X.ok ⟨i, hi⟩ t ?_) (ex_var rfl)) ?_) fun _ _ h => h))) rfl) ?_ ?_
    · have q : t = ⟨i, hi⟩ := Fin.ext (by have : (t.val : Int) = (i : Int) := of_decide_eq_true e; show t.val = i; omega)
      unfold Tb.A; rw [if_pos q]; rfl
    · intro q; rw [← q] at e; simp at e
    · have q : ¬ t = ⟨i, hi⟩ := fun q => by rw [q] at e; simp at e
      have q2 : i < t.val := by have : (i : Int) < (t.val : Int) := of_decide_eq_true e2; omega
      unfold Tb.A; rw [if_neg q, if_pos (show (⟨i, hi⟩ : Fin X.n).val < t.val from q2)]
    · intro q; rw [← q] at e; simp at e
    · have q : ¬ t = ⟨i, hi⟩ := fun q => by rw [q] at e; simp at e
      have q2 : ¬ i < t.val := by have : ¬ (i : Int) < (t.val : Int) := of_decide_eq_false e2; omega
      unfold Tb.A; rw [if_neg q, if_neg (show ¬ (⟨i, hi⟩ : Fin X.n).val < t.val from q2)]
    · rw [List.length_take]; omega
    · have e : (fins fun s => encV (X.A s)).take (i + 1) = (fins fun s => encV (X.A s)).take i ++ [encV (X.A ⟨i, hi⟩)] := by
        rw [List.take_succ, fins_get _ ⟨i, hi⟩]; rfl
      dsimp only
      rw [e]
      exact ⟨_, _, rfl⟩
  · rintro Γ ⟨a, b, rfl⟩
    refine sx_ret (ex_is (ex_tupO rfl) ?_)
    rw [List.take_of_length_le (by rw [fins_len]; exact Nat.le_refl _)]; rfl
theorem ok_weight_pairs (T : Tx K mg) {f : Addr} {fd : FuncData} (F : FnP K "weight_pairs" "weight_pairs" s_weight_pairs f fd) : FnOk P w K mg base CX0 1 f fd ["ties"] (pm_weight_pairs K).sp := by
  have sc := sc_weight_pairs
  refine F.ok sc (fun vs H Q E h => Pm.len (fun _ => rfl) vs H Q E h) (fun cdv A outer s H vs Q E hr h => ⟨t_weight_pairs K, PSs.nox ?_, Pm.go (sx_weight_pairs T) vs H Q E h⟩)
  exact (pss_cons (ps_set (i := 1) sc.nd rfl (by first | exact Or.inl rfl | exact Or.inr rfl) (pe_lst pa_nil))
      (pss_cons (ps_for PassesOwn.never rfl (pi_enumT (by rfl) T.enumerate_ (pa_cons (pv 0) pa_nil)) (pg_tup rfl (pgs_cons (pg_name (i := 2) sc.nd rfl (by first | exact Or.inl rfl | exact Or.inr rfl)) (pgs_cons (pg_name (i := 3) sc.nd rfl (by first | exact Or.inl rfl | exact Or.inr rfl)) pgs_nil))) (pss_one (ps_expr (pe_bm PySem.F.plainAttrs_list PySem.F.slot_list_append PySem.F.type_list_append mt_append (pv 1) (pa_cons (pe_callTy call_tuple_of rfl T.tuple_ (by decide +kernel) (pa_cons (pe_lc (own := [("other", 4), ("tie", 5)]) (g := (gTup K 2 (gCons (gName 4) (gCons (gName 5) gNil)))) (tt := tYes) (te := (tIf (tTest (tOp rEq (tVar 4) (tVar 2))) (tTup (tCons (tC (.int 2)) (tCons (tC (.int 0)) tNil))) (tIf (tTest (tOp (rI0 fun i j => .bl (decide (i < j))) (tVar 2) (tVar 4))) (tOp (rIxDI K) (tC (vLOW K)) (tVar 5)) (tOp (rIxDI K) (tC (vHIGH K)) (tVar 5))))) rfl sc.nd (pi_enumT (by rfl) T.enumerate_ (pa_cons (pv 3) pa_nil)) (blkOk_by (own := [("other", 4), ("tie", 5)]) (N := Ns_weight_pairs) (sc := defScope s_weight_pairs) (by decide +kernel)) (fun _ _ _ _ _ => (pg_tup rfl (pgs_cons (pg_name (i := 4) sc.nd rfl (by first | exact Or.inl rfl | exact Or.inr rfl)) (pgs_cons (pg_name (i := 5) sc.nd rfl (by first | exact Or.inl rfl | exact Or.inr rfl)) pgs_nil)))) (fun _ _ _ _ _ => pts_nil) (fun _ _ _ _ _ => (pe_ifExp (pt_cmpR op_eq (pv 4) (pv 2) (nomark _)) (pe_tup (pa_cons pe_int (pa_cons pe_int pa_nil))) (pe_ifExp (pt_cmpR op_lt (pv 2) (pv 4) (nomark _)) (pe_ix ix_kdictI (C8.pe_gc rfl T.cLOW) (pv 5) (fun _ _ => rfl)) (pe_ix ix_kdictI (C8.pe_gc rfl T.cHIGH) (pv 5) (fun _ _ => rfl)))))) pa_nil)) pa_nil)))))
      (pss_one (ps_ret (pe_callTy call_tuple_of rfl T.tuple_ (by decide +kernel) (pa_cons (pv 1) pa_nil))))))
theorem ex_neOwn {K : PySem.W.Frag} {Γ : List Slot} {j : Nat} {ds : List PyData} (hj : Γ[j]? = some (.own (oL K ds))) (sh : SeqAt.shaped (.list ds) = true) : ET (tTest (tOp (rNeD K) (tVar j) (tLst tNil))) Γ (!ds.isEmpty) := fun F B σ N H Q S k => by
  obtain ⟨p, u, e, _, _, _, hp, vs, rfl, hall⟩ := S.own hj
  refine ⟨_, e, small (Nat.zero_le _), fun l hl => ?_⟩
  refine ⟨.list ds, .list [], .lst (SqL.of (by rw [upd_ne (fun z => by rw [z, hl] at hp; cases hp)]; exact hp)) (dpAll_mono (S.sub.trans (Ex.new hl)) _ _ hall), .lst (SqL.of upd_same) .nil, sh, rfl, !ds.isEmpty, ?_, k N _ (S.hid hl) (Ex.refl N)⟩
  cases ds <;> simp [PyData.eqv, PyData.eqvAll]
abbrev s_piece_from : Stmt := top 63
abbrev Ns_piece_from : List Str := ["ties", "first", "found", "waiting", "here", "other", "tie"]
theorem sc_piece_from : FnScope Ns_piece_from ["ties", "first"] (defScope s_piece_from) := ⟨rfl, rfl, rfl, by decide +kernel, rfl, by decide +kernel, by decide +kernel⟩
def t_piece_from (K : PySem.W.Frag) : TS := (tSeq (tAsg (tLst (tCons (tVar 1) tNil)) (gName 2))
    (tSeq (tAsg (tLst (tCons (tVar 1) tNil)) (gName 3))
    (tSeq (tWhile (tTest (tOp (rNeD K) (tVar 3) (tLst tNil))) (tSeq (tAsg (tBM0 K "list" rPop (tVar 3)) (gName 4))
    (tFor (iEnumT K (tCons (tOp (rIxT K) (tVar 0) (tVar 4)) tNil)) (gTup K 2 (gCons (gName 5) (gCons (gName 6) gNil))) (tIfS (tAnd (tTest (tOp (rIn K true) (tVar 6) (tTup (tCons (tC (.int 1)) (tCons (tC (.int 2)) tNil))))) (tTest (tOp (rIn K true) (tVar 5) (tVar 2)))) (tSeq (tDrop (tBM K "list" rAppend (tVar 2) (tCons (tVar 5) tNil)))
    (tDrop (tBM K "list" rAppend (tVar 3) (tCons (tVar 5) tNil)))) tNext))))
    (tRet (tCB (rTupOf K) (tCons (tCB (rSorted K) (tCons (tVar 2) tNil)) tNil))))))
theorem sx_piece_from (T : Tx K mg) : (pm_piece_from K).body Ns_piece_from (t_piece_from K) := by
  rintro ⟨n, m, s⟩ sz
  dsimp only [pm_piece_from]
  show SX _ [_, _, _, _, _, _, _] _
  have sz : n ≤ 3 := sz
  refine q_setL (ds := ([s] : List (Fin n)).map encF) (exl_lst (ead_cons (ex_var rfl) ead_nil)) ?_
  refine q_setL (ds := ([s] : List (Fin n)).map encF) (exl_lst (ead_cons (ex_var rfl) ead_nil)) ?_
  refine q_while (fun k Γ => ∃ (f w : List (Fin n)) (a b c : Slot), mu (f, w) = k ∧ k ≤ 2 * n + 2 ∧ pgo m k (f, w) = pgo m (2 * n + 2) ([s], [s]) ∧ f.Nodup ∧ f.length + cnt f ≤ n + 1 ∧ a.holds = false ∧ b.holds = false ∧ c.holds = false ∧ Γ = [.kn (kd K (encT m)), .kn (kd K (encF s)), .own (oL K (f.map encF)), .own (oL K (w.map encF)), a, b, c]) (mu ([s], [s])) ?_ ?_
  · have h0 : mu (([s], [s]) : List (Fin n) × List (Fin n)) ≤ 2 * n + 2 := by
      have := cnt_le [s]; unfold mu; dsimp only; rw [List.length_singleton]; omega
    refine ⟨[s], [s], _, _, _, rfl, h0, pgo_same m _ _ _ _ (Nat.le_refl _) h0, List.pairwise_singleton _ _, ?_, ?_, ?_, ?_, rfl⟩
    · have := cnt_le [s]; rw [List.length_singleton]; omega
    · rfl
    · rfl
    · rfl
  · rintro k Γ ⟨f, w, a, b, c, hk, hk2, hp, nd, hl, ha, hb, hc, rfl⟩
    have shw : SeqAt.shaped (.list (w.map encF)) = true := by
      refine shaped_of (k := 1) ?_ (by decide)
      have := encW_iD w
      simpa only [iD, encW] using this
    refine ⟨_, ex_neOwn rfl shw, fun e => ?_, fun e => ?_⟩
    · rcases List.eq_nil_or_concat w with q | ⟨v, h, q⟩
      · rw [q] at e; cases e
      · rw [List.concat_eq_append] at q
        subst q
        rw [mu_snoc] at hk
        rw [← hk, pgo_next] at hp
        rw [List.map_append]
        refine q_pop rfl ?_
        refine x_for (fun i Γ => ∃ b c : Slot, b.holds = false ∧ c.holds = false ∧ Γ = [.kn (kd K (encT m)), .kn (kd K (encF s)), .own (oL K ((pin m h (f, v) i).1.map encF)), .own (oL K ((pin m h (f, v) i).2.map encF)), .kn (kd K (encF h)), b, c]) (iw_enumF (f := fun t => encN (m h t)) (ex_cell (ex_var rfl) (ex_var rfl))) ⟨_, _, hb, hc, rfl⟩ ?_ ?_
        · rintro i Γ hi ⟨b, c, hb, hc, rfl⟩
          refine ⟨_, _, by rw [kdAt_fin (fun t => PyData.tuple [encF t, encN (m h t)]) ⟨i, hi⟩]; exact (gx_tup (gxs_cons gx_name (gxs_cons gx_name gxs_nil))), ?_⟩
          have pk := pin_ok m h (f, v) i
          have l1 := pk.ln
          have l2 : 2 * cnt (pin m h (f, v) i).1 + (pin m h (f, v) i).2.length ≤ mu (f, v) := pk.mu
          dsimp only at l1
          refine s_if (et_and (et_test (ex_notInT (ns := [1, 2]) (ex_var rfl) (ex_tup (ead_cons (ex_int (K := K)) (ead_cons (ex_int (K := K)) ead_nil))))) fun _ => et_test (ex_notInOF (f := (pin m h (f, v) i).1) (ex_var rfl) rfl)) (fun e => ?_) (fun e => ?_)
          · have ep : pin m h (f, v) (i + 1) = ((pin m h (f, v) i).1 ++ [⟨i, hi⟩], (pin m h (f, v) i).2 ++ [⟨i, hi⟩]) := by
              have e2 : (tied m h ⟨i, hi⟩ && !decide ((⟨i, hi⟩ : Fin n) ∈ (pin m h (f, v) i).1)) = true := e
              show (if hi : i < n then _ else _) = _
              rw [dif_pos hi, e2]; rfl
            refine q_app rfl (d := encF ⟨i, hi⟩) (ex_var rfl) (by rw [List.length_map]; omega) ?_
            refine s_app rfl (d := encF ⟨i, hi⟩) (ex_var rfl) (by rw [List.length_map]; omega) ?_
            dsimp only
            rw [ep, List.map_append, List.map_append]
            exact ⟨_, _, rfl, rfl, rfl⟩
          · have ep : pin m h (f, v) (i + 1) = pin m h (f, v) i := by
              have e2 : (tied m h ⟨i, hi⟩ && !decide ((⟨i, hi⟩ : Fin n) ∈ (pin m h (f, v) i).1)) = false := e
              show (if hi : i < n then _ else _) = _
              rw [dif_pos hi, e2]; rfl
            refine sx_nil ?_
            dsimp only
            rw [ep]
            exact ⟨_, _, rfl, rfl, rfl⟩
        · rintro Γ ⟨b, c, hb, hc, rfl⟩
          have pk := pin_ok m h (f, v) n
          refine ⟨mu (pin m h (f, v) n), by have := pk.mu; omega, (pin m h (f, v) n).1, (pin m h (f, v) n).2, _, _, _, rfl, by have := pk.mu; omega, ?_, pk.nd nd, ?_, rfl, hb, hc, rfl⟩
          · rw [← hp]; exact pgo_same m _ _ _ _ (Nat.le_refl _) pk.mu
          · have := pk.ln; dsimp only at this; omega
    · have q : w = [] := by
        cases w with
        | nil => rfl
        | cons x r => cases e
      subst q
      rw [pgo_done] at hp
      refine sx_ret (ex_is (ex_tupL (exl_sortedOF rfl nd (by omega))) ?_)
      rw [hp]; rfl
theorem ok_piece_from (T : Tx K mg) {f : Addr} {fd : FuncData} (F : FnP K "piece_from" "piece_from" s_piece_from f fd) : FnOk P w K mg base CX0 1 f fd ["ties", "first"] (pm_piece_from K).sp := by
  have sc := sc_piece_from
  refine F.ok sc (fun vs H Q E h => Pm.len (fun _ => rfl) vs H Q E h) (fun cdv A outer s H vs Q E hr h => ⟨t_piece_from K, PSs.nox ?_, Pm.go (sx_piece_from T) vs H Q E h⟩)
  exact (pss_cons (ps_set (i := 2) sc.nd rfl (by first | exact Or.inl rfl | exact Or.inr rfl) (pe_lst (pa_cons (pv 1) pa_nil)))
      (pss_cons (ps_set (i := 3) sc.nd rfl (by first | exact Or.inl rfl | exact Or.inr rfl) (pe_lst (pa_cons (pv 1) pa_nil)))
      (pss_cons (ps_while PassesOwn.never (pt_cmpR (op_neD hr.units) (pv 3) (pe_lst pa_nil) (nomark _)) (pss_cons (ps_set (i := 4) sc.nd rfl (by first | exact Or.inl rfl | exact Or.inr rfl) (pe_bm0 PySem.F.plainAttrs_list PySem.F.slot_list_pop PySem.F.type_list_pop mt_pop (pv 3)))
      (pss_one (ps_for PassesOwn.never rfl (pi_enumT (by rfl) T.enumerate_ (pa_cons (pe_ix ix_tup (pv 0) (pv 4) (fun _ _ => rfl)) pa_nil)) (pg_tup rfl (pgs_cons (pg_name (i := 5) sc.nd rfl (by first | exact Or.inl rfl | exact Or.inr rfl)) (pgs_cons (pg_name (i := 6) sc.nd rfl (by first | exact Or.inl rfl | exact Or.inr rfl)) pgs_nil))) (pss_one (ps_if (PW.pt (pw_and (pt_cmpR op_notIn_seq (pv 6) (pe_tup (pa_cons pe_int (pa_cons pe_int pa_nil))) (by with_unfolding_all rfl)) (pw_and1 (pt_cmpR op_notIn_seq (pv 5) (pv 2) (by with_unfolding_all rfl))))) (pss_cons (ps_expr (pe_bm PySem.F.plainAttrs_list PySem.F.slot_list_append PySem.F.type_list_append mt_append (pv 2) (pa_cons (pv 5) pa_nil)))
      (pss_one (ps_expr (pe_bm PySem.F.plainAttrs_list PySem.F.slot_list_append PySem.F.type_list_append mt_append (pv 3) (pa_cons (pv 5) pa_nil))))) pss_nil))))))
      (pss_one (ps_ret (pe_callTy call_tuple_of rfl T.tuple_ (by decide +kernel) (pa_cons (pe_callB cr_sorted rfl T.sorted_ PyProof.Rows.boot_sorted (pa_cons (pv 2) pa_nil)) pa_nil)))))))
abbrev s_pieces_of : Stmt := top 64
abbrev Ns_pieces_of : List Str := ["ties", "found", "first", "piece"]
theorem sc_pieces_of : FnScope Ns_pieces_of ["ties"] (defScope s_pieces_of) := ⟨rfl, rfl, rfl, by decide +kernel, rfl, by decide +kernel, by decide +kernel⟩
def t_pieces_of (K : PySem.W.Frag) : TS := (tSeq (tAsg (tLst tNil) (gName 1))
    (tSeq (tFor (iRng1 (tCons (tCB (rLenSeq K) (tCons (tVar 0) tNil)) tNil)) (gName 2) (tSeq (tAsg (tCall (pm_piece_from K).sp [] E0 (tCons (tVar 0) (tCons (tVar 2) tNil))) (gName 3))
    (tIfS (tTest (tOp rEq (tOp (rIxT K) (tVar 3) (tC (.int 0))) (tVar 2))) (tDrop (tBM K "list" rAppend (tVar 1) (tCons (tVar 3) tNil))) tNext)))
    (tRet (tCB (rTupOf K) (tCons (tVar 1) tNil)))))
theorem sx_pieces_of (T : Tx K mg) : (pm_pieces_of K).body Ns_pieces_of (t_pieces_of K) := by
  rintro ⟨n, m⟩ sz
  dsimp only [pm_pieces_of]
  show SX _ [_, _, _, _] _
  have sz : n ≤ 3 := sz
  refine q_setL (exl_lst (ead_nil (K := K))) ?_
  refine q_for (fun i Γ => ∃ a b, Γ = [.kn (kd K (encT m)), .own (oL K ((((List.finRange n).take i).filter fun s => decide ((pieceF m s).head? = some s)).map fun s => encW (pieceF m s))), a, b]) (iw_rangeF (ea_cons (ex_lenF (f := fun t => encRow (m t)) (ex_var rfl)) ea_nil)) ⟨_, _, rfl⟩ ?_ ?_
  · rintro i Γ hi ⟨a, b, rfl⟩
    refine ⟨_, _, by rw [kdAt_fin (fun t => encF t) ⟨i, hi⟩]; exact gx_name, ?_⟩
    refine q_set (ex_pm (pm_piece_from K) ⟨n, m, ⟨i, hi⟩⟩ (ea_cons (ex_var rfl) (ea_cons (ex_var rfl) ea_nil)) sz) ?_
    have et := finRange_take hi
    cases hp : pieceF m ⟨i, hi⟩ with
    | nil =>
      have := pieceF_self m ⟨i, hi⟩
      rw [hp] at this; cases this
    | cons x r =>
      have ll : ((((List.finRange n).take i).filter fun s => decide ((pieceF m s).head? = some s)).map fun s => encW (pieceF m s)).length ≤ 1000 := by
        rw [List.length_map]
        have := List.length_filter_le (fun s => decide ((pieceF m s).head? = some s)) ((List.finRange n).take i)
        rw [List.length_take, List.length_finRange] at this
        omega
      refine s_if (et_test (ex_eqI (ex_ixT0 (d := encF x) (ds := r.map encF) (ex_is (ex_var rfl) (by show kd K (encW (pieceF m ⟨i, hi⟩)) = _; rw [hp]; rfl))) (ex_var rfl))) (fun e => ?_) (fun e => ?_)
      · have e : (x.val : Int) = (i : Int) := of_decide_eq_true e
        have ex : x = ⟨i, hi⟩ := Fin.ext (by show x.val = i; omega)
        refine s_app rfl (d := encW (pieceF m ⟨i, hi⟩)) (ex_var rfl) ll ?_
        dsimp only
        rw [et, List.filter_append, List.filter_cons_of_pos (by rw [hp, ex]; simp), List.map_append]
        exact ⟨_, _, rfl⟩
      · have e : ¬ (x.val : Int) = (i : Int) := of_decide_eq_false e
        refine sx_nil ?_
        dsimp only
        rw [et, List.filter_append, List.filter_cons_of_neg (by
          rw [hp, decide_eq_true_iff]
          intro q
          have : x = ⟨i, hi⟩ := by simpa using q
          exact e (by rw [this])), List.map_append]
        simp only [List.filter_nil, List.map_nil, List.append_nil]
        exact ⟨_, _, rfl⟩
  · rintro Γ ⟨a, b, rfl⟩
    refine sx_ret (ex_is (ex_tupO rfl) ?_)
    rw [List.take_of_length_le (by rw [List.length_finRange]; exact Nat.le_refl _)]
    unfold encP piecesF
    rw [List.map_map]; rfl
theorem ok_pieces_of (T : Tx K mg) (c_piece_from : C8.Cal P w K mg base 1 "piece_from" (pm_piece_from K).sp []) {f : Addr} {fd : FuncData} (F : FnP K "pieces_of" "pieces_of" s_pieces_of f fd) : FnOk P w K mg base CX0 2 f fd ["ties"] (pm_pieces_of K).sp := by
  have sc := sc_pieces_of
  refine F.ok sc (fun vs H Q E h => Pm.len (fun _ => rfl) vs H Q E h) (fun cdv A outer s H vs Q E hr h => ⟨t_pieces_of K, PSs.nox ?_, Pm.go (sx_pieces_of T) vs H Q E h⟩)
  exact (pss_cons (ps_set (i := 1) sc.nd rfl (by first | exact Or.inl rfl | exact Or.inr rfl) (pe_lst pa_nil))
      (pss_cons (ps_for PassesOwn.never rfl (pi_range1 rfl T.range_ (pa_cons (pe_callB call_len_seq rfl T.len_ PySem.boot_len (pa_cons (pv 0) pa_nil)) pa_nil)) (pg_name (i := 2) sc.nd rfl (by first | exact Or.inl rfl | exact Or.inr rfl)) (pss_cons (ps_set (i := 3) sc.nd rfl (by first | exact Or.inl rfl | exact Or.inr rfl) (C8.pe_c c_piece_from hr (by decide) rfl (pa_cons (pv 0) (pa_cons (pv 2) pa_nil))))
      (pss_one (ps_if (pt_cmpR op_eq (pe_ix ix_tup (pv 3) pe_int (fun _ _ => rfl)) (pv 2) (nomark _)) (pss_one (ps_expr (pe_bm PySem.F.plainAttrs_list PySem.F.slot_list_append PySem.F.type_list_append mt_append (pv 1) (pa_cons (pv 3) pa_nil)))) pss_nil))))
      (pss_one (ps_ret (pe_callTy call_tuple_of rfl T.tuple_ (by decide +kernel) (pa_cons (pv 1) pa_nil))))))
abbrev s_check_table : Stmt := top 66
abbrev Ns_check_table : List Str := ["value"]
theorem sc_check_table : FnScope Ns_check_table ["value"] (defScope s_check_table) := ⟨rfl, rfl, rfl, by decide +kernel, rfl, by decide +kernel, by decide +kernel⟩
def t_check_table (K : PySem.W.Frag) : TS := (tIfS (tNot (tB (tCB (rIsC K "Table") (tCons (tVar 0) (tCons (tC (.ref (He.ga K "Table"))) tNil))))) tNever tNext)
theorem sx_check_table (T : Tx K mg) : (pm_check_table K).body Ns_check_table (t_check_table K) := by
  rintro X _
  dsimp only [pm_check_table]
  show SX _ [_] _
  exact s_if (b := false) (et_is (et_not (et_B (ex_isTable (ex_var rfl)))) rfl) (fun e => by cases e) (fun _ => sx_nil fun _ => .non)
theorem ok_check_table (T : Tx K mg) {f : Addr} {fd : FuncData} (F : FnP K "check_table" "check_table" s_check_table f fd) : FnOk P w K mg base CX0 1 f fd ["value"] (pm_check_table K).sp := by
  have sc := sc_check_table
  refine F.ok sc (fun vs H Q E h => Pm.len (fun _ => rfl) vs H Q E h) (fun cdv A outer s H vs Q E hr h => ⟨t_check_table K, PSs.nox ?_, Pm.go (sx_check_table T) vs H Q E h⟩)
  exact (pss_one (ps_if (pt_not (pt_val (pe_callB (C8.call_isC T.isTable) rfl T.isinstance_ PyProof.Rows.boot_isinstance (pa_cons (pv 0) (pa_cons (C8.pe_gc rfl T.cTable) pa_nil))))) (pss_one ps_never) pss_nil))
abbrev s_wrong_in_room : Stmt := top 67
abbrev Ns_wrong_in_room : List Str := ["table", "value", "place", "button"]
theorem sc_wrong_in_room : FnScope Ns_wrong_in_room ["table", "value"] (defScope s_wrong_in_room) := ⟨rfl, rfl, rfl, by decide +kernel, rfl, by decide +kernel, by decide +kernel⟩
def t_wrong_in_room (K : PySem.W.Frag) : TS := (tSeq (tIfS (tNot (tB (tCB (rIsi K) (tCons (tVar 1) (tCons (tC (.ty "tuple")) tNil))))) (tRet (tC .non)) tNext)
    (tSeq (tFor (iEnumT K (tCons (tVar 1) tNil)) (gTup K 2 (gCons (gName 2) (gCons (gName 3) gNil))) (tIfS (tOr (tNot (tB (tCall (pm_is_button K).sp [] E0 (tCons (tFld K (tVar 0) "size") (tCons (tVar 3) tNil))))) (tAnd (tTest (tOp (rI0 fun i j => .bl (decide (j < i))) (tVar 2) (tC (.int 0)))) (tTest (tOp (rI0 fun i j => .bl (decide (i ≤ j))) (tVar 3) (tOp (rIxT K) (tVar 1) (tOp (rI0 fun i j => .int (i - j)) (tVar 2) (tC (.int 1)))))))) (tRet (tVar 2)) tNext))
    (tRet (tUn (rU fun i => .int (-i)) (tC (.int 1))))))
theorem sx_wrong_in_room (T : Tx K mg) : (pm_wrong_in_room K).body Ns_wrong_in_room (t_wrong_in_room K) := by
  rintro ⟨X, w⟩ ⟨hw, hl⟩
  dsimp only [pm_wrong_in_room]
  show SX _ [_, _, _, _] _
  have hw : w.Pairwise (· < ·) := hw
  refine q_if (b := false) (et_is (et_not (et_B (ex_isTup (ex_var rfl)))) rfl) (fun e => by cases e) (fun _ => sx_pass ?_)
  refine q_for (fun i Γ => ∃ a b, Γ = [.kn (kTab K X), .kn (kd K (encW w)), a, b]) (iw_enumF (ex_wordF (ex_var rfl))) ⟨_, _, rfl⟩ ?_ ?_
  · rintro i Γ hi ⟨a, b, rfl⟩
    have hi : i < w.length := hi
    refine ⟨_, _, by rw [kdAt_fin (fun t : Fin w.length => PyData.tuple [encF t, encF w[t]]) ⟨i, hi⟩]; exact (gx_tup (gxs_cons gx_name (gxs_cons gx_name gxs_nil))), ?_⟩
    refine s_if (b := false) (et_is (et_or (et_not (et_B (ex_pm (pm_is_button K) ⟨X.n, w[i]⟩ (ea_cons (ex_size T (ex_var rfl)) (ea_cons (ex_var rfl) ea_nil)) trivial))) fun _ => et_and (b := false) (et_test (ex_gt (ex_var rfl) (ex_int (K := K)))) fun e => ?_) ?_) (fun e => by cases e) (fun _ => sx_nil ⟨_, _, rfl⟩)
    · have e : (0 : Int) < (i : Int) := of_decide_eq_true e
      have hp : i - 1 < w.length := by omega
      have lt : w[i - 1] < w[i] := List.pairwise_iff_getElem.mp hw (i - 1) i hp hi (by omega)
      have lv : w[i - 1].val < w[i].val := lt
      refine et_is (et_test (ex_le (a := (w[i].val : Int)) (b := (w[i - 1].val : Int)) (ex_var rfl) (ex_ixT (ex_var rfl) (ex_sub (ex_var rfl) (ex_int (K := K))) ?_))) (decide_eq_false (by omega))
      have ej : ((i : Nat) : Int) - 1 = ((i - 1 : Nat) : Int) := by omega
      rw [ej]
      refine atI_nat ?_
      rw [List.getElem?_map, List.getElem?_eq_getElem hp]; rfl
    · simp
  · rintro Γ ⟨a, b, rfl⟩
    exact sx_ret (ex_neg (ex_int (K := K)))
theorem ok_wrong_in_room (T : Tx K mg) (c_is_button : C8.Cal P w K mg base 2 "is_button" (pm_is_button K).sp []) {f : Addr} {fd : FuncData} (F : FnP K "wrong_in_room" "wrong_in_room" s_wrong_in_room f fd) : FnOk P w K mg base CX0 3 f fd ["table", "value"] (pm_wrong_in_room K).sp := by
  have sc := sc_wrong_in_room
  refine F.ok sc (fun vs H Q E h => Pm.len (fun _ => rfl) vs H Q E h) (fun cdv A outer s H vs Q E hr h => ⟨t_wrong_in_room K, PSs.nox ?_, Pm.go (sx_wrong_in_room T) vs H Q E h⟩)
  exact (pss_cons (ps_if (pt_not (pt_val (pe_callB call_isi rfl T.isinstance_ PyProof.Rows.boot_isinstance (pa_cons (pv 1) (pa_cons (pe_bltn (v := .ty "tuple") (u := .type "tuple") rfl T.tuple_ (by decide +kernel) rfl) pa_nil))))) (pss_one (ps_ret pe_non)) pss_nil)
      (pss_cons (ps_for PassesOwn.never rfl (pi_enumT (by rfl) T.enumerate_ (pa_cons (pv 1) pa_nil)) (pg_tup rfl (pgs_cons (pg_name (i := 2) sc.nd rfl (by first | exact Or.inl rfl | exact Or.inr rfl)) (pgs_cons (pg_name (i := 3) sc.nd rfl (by first | exact Or.inl rfl | exact Or.inr rfl)) pgs_nil))) (pss_one (ps_if (PW.pt (pw_or (pt_not (pt_val (C8.pe_c c_is_button hr (by decide) rfl (pa_cons (pe_fld (pv 0) rfl) (pa_cons (pv 3) pa_nil))))) (pw_or1 (PW.pt (pw_and (pt_cmpR op_gt (pv 2) pe_int (nomark _)) (pw_and1 (pt_cmpR op_le (pv 3) (pe_ix ix_tup (pv 1) (pe_op op_sub (pv 2) pe_int) (fun _ _ => rfl)) (nomark _)))))))) (pss_one (ps_ret (pv 2))) pss_nil)))
      (pss_one (ps_ret (pe_un un_neg pe_int)))))
abbrev s_wrong_in_word : Stmt := top 72
abbrev Ns_wrong_in_word : List Str := ["table", "value", "most", "place", "button"]
theorem sc_wrong_in_word : FnScope Ns_wrong_in_word ["table", "value", "most"] (defScope s_wrong_in_word) := ⟨rfl, rfl, rfl, by decide +kernel, rfl, by decide +kernel, by decide +kernel⟩
def t_wrong_in_word (K : PySem.W.Frag) : TS := (tSeq (tIfS (tNot (tB (tCB (rIsi K) (tCons (tVar 1) (tCons (tC (.ty "tuple")) tNil))))) (tRet (tC .non)) tNext)
    (tSeq (tFor (iEnumT K (tCons (tVar 1) tNil)) (gTup K 2 (gCons (gName 3) (gCons (gName 4) gNil))) (tIfS (tOr (tTest (tOp rEq (tVar 3) (tVar 2))) (tNot (tB (tCall (pm_is_button K).sp [] E0 (tCons (tFld K (tVar 0) "size") (tCons (tVar 4) tNil)))))) (tRet (tVar 3)) tNext))
    (tRet (tUn (rU fun i => .int (-i)) (tC (.int 1))))))
theorem sx_wrong_in_word (T : Tx K mg) : (pm_wrong_in_word K).body Ns_wrong_in_word (t_wrong_in_word K) := by
  rintro ⟨X, w, mo⟩ ⟨hw, hl⟩
  dsimp only [pm_wrong_in_word]
  show SX _ [_, _, _, _, _] _
  have hw : w.length ≤ mo := hw
  have hl : mo ≤ 1000 := hl
  refine q_if (b := false) (et_is (et_not (et_B (ex_isTup (ex_var rfl)))) rfl) (fun e => by cases e) (fun _ => sx_pass ?_)
  refine q_for (fun i Γ => ∃ a b, Γ = [.kn (kTab K X), .kn (kd K (encW w)), .kn (kd K (.int (mo : Int))), a, b]) (iw_enumF (ex_wordF (ex_var rfl))) ⟨_, _, rfl⟩ ?_ ?_
  · rintro i Γ hi ⟨a, b, rfl⟩
    have hi : i < w.length := hi
    refine ⟨_, _, by rw [kdAt_fin (fun t : Fin w.length => PyData.tuple [encF t, encF w[t]]) ⟨i, hi⟩]; exact (gx_tup (gxs_cons gx_name (gxs_cons gx_name gxs_nil))), ?_⟩
    refine s_if (b := false) (et_is (et_or (et_test (ex_eqI (ex_var rfl) (ex_var rfl))) fun _ => (et_not (et_B (ex_pm (pm_is_button K) ⟨X.n, w[i]⟩ (ea_cons (ex_size T (ex_var rfl)) (ea_cons (ex_var rfl) ea_nil)) trivial)))) ?_) (fun e => by cases e) (fun _ => sx_nil ⟨_, _, rfl⟩)
    rw [decide_eq_false (show ¬ ((i : Nat) : Int) = (mo : Int) by omega)]; rfl
  · rintro Γ ⟨a, b, rfl⟩
    exact sx_ret (ex_neg (ex_int (K := K)))
theorem ok_wrong_in_word (T : Tx K mg) (c_is_button : C8.Cal P w K mg base 2 "is_button" (pm_is_button K).sp []) {f : Addr} {fd : FuncData} (F : FnP K "wrong_in_word" "wrong_in_word" s_wrong_in_word f fd) : FnOk P w K mg base CX0 3 f fd ["table", "value", "most"] (pm_wrong_in_word K).sp := by
  have sc := sc_wrong_in_word
  refine F.ok sc (fun vs H Q E h => Pm.len (fun _ => rfl) vs H Q E h) (fun cdv A outer s H vs Q E hr h => ⟨t_wrong_in_word K, PSs.nox ?_, Pm.go (sx_wrong_in_word T) vs H Q E h⟩)
  exact (pss_cons (ps_if (pt_not (pt_val (pe_callB call_isi rfl T.isinstance_ PyProof.Rows.boot_isinstance (pa_cons (pv 1) (pa_cons (pe_bltn (v := .ty "tuple") (u := .type "tuple") rfl T.tuple_ (by decide +kernel) rfl) pa_nil))))) (pss_one (ps_ret pe_non)) pss_nil)
      (pss_cons (ps_for PassesOwn.never rfl (pi_enumT (by rfl) T.enumerate_ (pa_cons (pv 1) pa_nil)) (pg_tup rfl (pgs_cons (pg_name (i := 3) sc.nd rfl (by first | exact Or.inl rfl | exact Or.inr rfl)) (pgs_cons (pg_name (i := 4) sc.nd rfl (by first | exact Or.inl rfl | exact Or.inr rfl)) pgs_nil))) (pss_one (ps_if (PW.pt (pw_or (pt_cmpR op_eq (pv 3) (pv 2) (nomark _)) (pw_or1 (pt_not (pt_val (C8.pe_c c_is_button hr (by decide) rfl (pa_cons (pe_fld (pv 0) rfl) (pa_cons (pv 4) pa_nil)))))))) (pss_one (ps_ret (pv 3))) pss_nil)))
      (pss_one (ps_ret (pe_un un_neg pe_int)))))
abbrev s_check_word : Stmt := top 73
abbrev Ns_check_word : List Str := ["table", "value", "wrong"]
theorem sc_check_word : FnScope Ns_check_word ["table", "value"] (defScope s_check_word) := ⟨rfl, rfl, rfl, by decide +kernel, rfl, by decide +kernel, by decide +kernel⟩
def t_check_word (K : PySem.W.Frag) : TS := (tSeq (tAsg (tCall (pm_wrong_in_word K).sp [] E0 (tCons (tVar 0) (tCons (tVar 1) (tCons (tC (vMOST_WORD K)) tNil)))) (gName 2))
    (tIfS (tTest (tOp rNe (tVar 2) (tUn (rU fun i => .int (-i)) (tC (.int 1))))) tNever tNext))
theorem sx_check_word (T : Tx K mg) : (pm_check_word K).body Ns_check_word (t_check_word K) := by
  rintro ⟨X, w⟩ hw
  dsimp only [pm_check_word]
  show SX _ [_, _, _] _
  refine q_set (ex_pm (pm_wrong_in_word K) ⟨X, w, 60⟩ (ea_cons (ex_var rfl) (ea_cons (ex_var rfl) (ea_cons (ex_MOST_WORD T) ea_nil))) ⟨hw, (by decide : 60 ≤ 1000)⟩) ?_
  exact s_if (b := false) (et_is (et_test (ex_neI (ex_var rfl) (ex_neg (ex_int (K := K))))) rfl) (fun e => by cases e) (fun _ => sx_nil fun _ => .non)
theorem ok_check_word (T : Tx K mg) (c_wrong_in_word : C8.Cal P w K mg base 3 "wrong_in_word" (pm_wrong_in_word K).sp []) {f : Addr} {fd : FuncData} (F : FnP K "check_word" "check_word" s_check_word f fd) : FnOk P w K mg base CX0 4 f fd ["table", "value"] (pm_check_word K).sp := by
  have sc := sc_check_word
  refine F.ok sc (fun vs H Q E h => Pm.len (fun _ => rfl) vs H Q E h) (fun cdv A outer s H vs Q E hr h => ⟨t_check_word K, PSs.nox ?_, Pm.go (sx_check_word T) vs H Q E h⟩)
  exact (pss_cons (ps_set (i := 2) sc.nd rfl (by first | exact Or.inl rfl | exact Or.inr rfl) (C8.pe_c c_wrong_in_word hr (by decide) rfl (pa_cons (pv 0) (pa_cons (pv 1) (pa_cons (C8.pe_gc rfl T.cMOST_WORD) pa_nil)))))
      (pss_one (ps_if (pt_cmpR op_ne (pv 2) (pe_un un_neg pe_int) (nomark _)) (pss_one ps_never) pss_nil)))
abbrev s_check_room : Stmt := top 74
abbrev Ns_check_room : List Str := ["table", "value", "wrong"]
theorem sc_check_room : FnScope Ns_check_room ["table", "value"] (defScope s_check_room) := ⟨rfl, rfl, rfl, by decide +kernel, rfl, by decide +kernel, by decide +kernel⟩
def t_check_room (K : PySem.W.Frag) : TS := (tSeq (tAsg (tCall (pm_wrong_in_room K).sp [] E0 (tCons (tVar 0) (tCons (tVar 1) tNil))) (gName 2))
    (tIfS (tTest (tOp rNe (tVar 2) (tUn (rU fun i => .int (-i)) (tC (.int 1))))) tNever tNext))
theorem sx_check_room (T : Tx K mg) : (pm_check_room K).body Ns_check_room (t_check_room K) := by
  rintro ⟨X, w⟩ hw
  dsimp only [pm_check_room]
  show SX _ [_, _, _] _
  refine q_set (ex_pm (pm_wrong_in_room K) ⟨X, w⟩ (ea_cons (ex_var rfl) (ea_cons (ex_var rfl) ea_nil)) hw) ?_
  exact s_if (b := false) (et_is (et_test (ex_neI (ex_var rfl) (ex_neg (ex_int (K := K))))) rfl) (fun e => by cases e) (fun _ => sx_nil fun _ => .non)
theorem ok_check_room (T : Tx K mg) (c_wrong_in_room : C8.Cal P w K mg base 3 "wrong_in_room" (pm_wrong_in_room K).sp []) {f : Addr} {fd : FuncData} (F : FnP K "check_room" "check_room" s_check_room f fd) : FnOk P w K mg base CX0 4 f fd ["table", "value"] (pm_check_room K).sp := by
  have sc := sc_check_room
  refine F.ok sc (fun vs H Q E h => Pm.len (fun _ => rfl) vs H Q E h) (fun cdv A outer s H vs Q E hr h => ⟨t_check_room K, PSs.nox ?_, Pm.go (sx_check_room T) vs H Q E h⟩)
  exact (pss_cons (ps_set (i := 2) sc.nd rfl (by first | exact Or.inl rfl | exact Or.inr rfl) (C8.pe_c c_wrong_in_room hr (by decide) rfl (pa_cons (pv 0) (pa_cons (pv 1) pa_nil))))
      (pss_one (ps_if (pt_cmpR op_ne (pv 2) (pe_un un_neg pe_int) (nomark _)) (pss_one ps_never) pss_nil)))
abbrev s_check_number : Stmt := top 75
abbrev Ns_check_number : List Str := ["value", "low", "high"]
theorem sc_check_number : FnScope Ns_check_number ["value", "low", "high"] (defScope s_check_number) := ⟨rfl, rfl, rfl, by decide +kernel, rfl, by decide +kernel, by decide +kernel⟩
def t_check_number (K : PySem.W.Frag) : TS := (tIfS (tNot (tB (tCall (pm_is_between K).sp [] E0 (tCons (tVar 0) (tCons (tVar 1) (tCons (tVar 2) tNil)))))) tNever tNext)
theorem sx_check_number (T : Tx K mg) : (pm_check_number K).body Ns_check_number (t_check_number K) := by
  rintro ⟨v, lo, hi⟩ ⟨h1, h2⟩
  dsimp only [pm_check_number]
  show SX _ [_, _, _] _
  have h1 : lo ≤ v := h1
  have h2 : v ≤ hi := h2
  exact s_if (b := false) (et_is (et_not (et_B (ex_pm (pm_is_between K) ⟨v, lo, hi⟩ (ea_cons (ex_var rfl) (ea_cons (ex_var rfl) (ea_cons (ex_var rfl) ea_nil))) trivial))) (by rw [decide_eq_true h1, decide_eq_true h2]; rfl)) (fun e => by cases e) (fun _ => sx_nil fun _ => .non)
theorem ok_check_number (T : Tx K mg) (c_is_between : C8.Cal P w K mg base 2 "is_between" (pm_is_between K).sp []) {f : Addr} {fd : FuncData} (F : FnP K "check_number" "check_number" s_check_number f fd) : FnOk P w K mg base CX0 3 f fd ["value", "low", "high"] (pm_check_number K).sp := by
  have sc := sc_check_number
  refine F.ok sc (fun vs H Q E h => Pm.len (fun _ => rfl) vs H Q E h) (fun cdv A outer s H vs Q E hr h => ⟨t_check_number K, PSs.nox ?_, Pm.go (sx_check_number T) vs H Q E h⟩)
  exact (pss_one (ps_if (pt_not (pt_val (C8.pe_c c_is_between hr (by decide) rfl (pa_cons (pv 0) (pa_cons (pv 1) (pa_cons (pv 2) pa_nil)))))) (pss_one ps_never) pss_nil))
abbrev s_part_ties : Stmt := top 68
abbrev Ns_part_ties : List Str := ["ties", "room", "one", "other"]
theorem sc_part_ties : FnScope Ns_part_ties ["ties", "room"] (defScope s_part_ties) := ⟨rfl, rfl, rfl, by decide +kernel, rfl, by decide +kernel, by decide +kernel⟩
def t_part_ties (K : PySem.W.Frag) : TS := (tRet (tCB (rTupOf K) (tCons (tLc (iTup K (tVar 1)) (gName 2) tYes (tCB (rTupOf K) (tCons (tLc (iTup K (tVar 1)) (gName 3) tYes (tOp (rIxT K) (tOp (rIxT K) (tVar 0) (tVar 2)) (tVar 3)) [3]) tNil)) [2]) tNil)))
theorem sx_part_ties (T : Tx K mg) : (pm_part_ties K).body Ns_part_ties (t_part_ties K) := by
  rintro ⟨n, m, w⟩ hw
  dsimp only [pm_part_ties]
  show SX _ [_, _, _, _] _
  have hw : w.length ≤ 3 := hw
  exact sx_ret (ex_is (ex_tupL (exl_lcB (iw_wordF (ex_var rfl)) (fun i => gx_name) fun i => (ex_tupL (exl_lcB (iw_wordF (ex_var rfl)) (fun j => gx_name) fun j => ex_cell2 (m := m w[i]) (ex_cell (ex_var rfl) (ex_var rfl)) (ex_var rfl))))) rfl)
theorem ok_part_ties (T : Tx K mg) {f : Addr} {fd : FuncData} (F : FnP K "part_ties" "part_ties" s_part_ties f fd) : FnOk P w K mg base CX0 1 f fd ["ties", "room"] (pm_part_ties K).sp := by
  have sc := sc_part_ties
  refine F.ok sc (fun vs H Q E h => Pm.len (fun _ => rfl) vs H Q E h) (fun cdv A outer s H vs Q E hr h => ⟨t_part_ties K, PSs.nox ?_, Pm.go (sx_part_ties T) vs H Q E h⟩)
  exact (pss_one (ps_ret (pe_callTy call_tuple_of rfl T.tuple_ (by decide +kernel) (pa_cons (pe_lc (own := [("one", 2)]) (g := (gName 2)) (tt := tYes) (te := (tCB (rTupOf K) (tCons (tLc (iTup K (tVar 1)) (gName 3) tYes (tOp (rIxT K) (tOp (rIxT K) (tVar 0) (tVar 2)) (tVar 3)) [3]) tNil))) rfl sc.nd (pi_tup (pv 1)) (blkOk_by (own := [("one", 2)]) (N := Ns_part_ties) (sc := defScope s_part_ties) (by decide +kernel)) (fun _ _ _ _ _ => (pg_name (i := 2) sc.nd rfl (by first | exact Or.inl rfl | exact Or.inr rfl))) (fun _ _ _ _ _ => pts_nil) (fun _ _ _ _ _ => (pe_callTy call_tuple_of rfl T.tuple_ (by decide +kernel) (pa_cons (pe_lc (own := [("other", 3)]) (g := (gName 3)) (tt := tYes) (te := (tOp (rIxT K) (tOp (rIxT K) (tVar 0) (tVar 2)) (tVar 3))) rfl sc.nd (pi_tup (pv 1)) (blkOk_by (by kernel_rfl)) (fun _ _ _ _ _ => (pg_name (i := 3) sc.nd rfl (by first | exact Or.inl rfl | exact Or.inr rfl))) (fun _ _ _ _ _ => pts_nil) (fun _ _ _ _ _ => (pe_ix ix_tup (pe_ix ix_tup (pv 0) (pv 2) (fun _ _ => rfl)) (pv 3) (fun _ _ => rfl)))) pa_nil)))) pa_nil))))
end
end Wk
/-! ### t[::-1] -/
namespace Wk
open PySem PySem.Spec PyProof.Rows L2 HT
section
variable {prog : Program} {w : World} {A : Around} {E : Value → Shared → Prop} {s : Shared}
theorem adjust_rev (n : Nat) : Builtin.Slice.sliceAdjust none none (-1) (n : Int) = ((n : Int) - 1, -1) := by
  unfold Builtin.Slice.sliceAdjust
  have h1 : ((-1 : Int) < 0) := by decide
  simp only [h1, if_true]
theorem places_rev (n : Nat) : Builtin.Slice.slicePlaces ((n : Int) - 1) (-1) (-1) = n := by
  unfold Builtin.Slice.slicePlaces
  have h1 : ¬ ((-1 : Int) > 0) := by decide
  simp only [h1, if_false]
  by_cases h : (n : Int) - 1 > -1
  · rw [if_pos h]
    rw [show (- -1 : Int) = 1 by decide, Int.ediv_one]
    omega
  · rw [if_neg h]; omega
theorem sliceApplied_rev {sl : Addr} {vk : Value} {n : Nat} {Q : Int × Int × Nat → Shared → Prop} (hs : s.heap.IsSliceOf sl .none .none vk) (pk : IsPart vk (some (-1)))
    (h : Q ((n : Int) - 1, -1, n) s) : wpAny (model prog w) A (Builtin.Slice.sliceApplied (.ref sl) (pure (n : Int))) Q E s := by
  obtain ⟨os, hos, hcs, hds⟩ := id hs
  unfold Builtin.Slice.sliceApplied Builtin.Slice.sliceFields
  refine wpAny_bind (wpAny_bind (wpAny_field hos hds (x := .none) rfl (wpAny_bind (wpAny_field hos hds (x := .none) rfl (wpAny_bind (wpAny_field hos hds (x := vk) rfl (wpAny_pure ?_)))))))
  refine wpAny_bind (slicePart_ pk ?_)
  show wpAny _ _ (if ((-1 : Int) == 0) = true then _ else _) _ _ s
  rw [if_neg (by decide)]
  refine wpAny_bind (slicePart_ .none (wpAny_bind (slicePart_ .none (wpAny_bind (wpAny_pure ?_)))))
  show wpAny _ _ (match Builtin.Slice.sliceAdjust none none (-1) (n : Int) with | (lo, hi) => pure (lo, (-1 : Int), Builtin.Slice.slicePlaces lo hi (-1))) _ _ s
  rw [adjust_rev n]
  show wpAny _ _ (pure ((n : Int) - 1, (-1 : Int), Builtin.Slice.slicePlaces ((n : Int) - 1) (-1) (-1))) _ _ s
  rw [places_rev]
  exact wpAny_pure h
theorem pick_rev (xs : Array Value) : ((List.range xs.size).filterMap fun (m : Nat) => xs[(((xs.size : Nat) : Int) - 1 + (m : Int) * (-1)).toNat]?).toArray = xs.toList.reverse.toArray := by
  have e : (List.range xs.size).filterMap (fun (m : Nat) => xs[(((xs.size : Nat) : Int) - 1 + (m : Int) * (-1)).toNat]?) = ((List.range xs.size).map fun k => xs.size - 1 - k).filterMap (xs[·]?) := by
    rw [List.filterMap_map]
    have key : ∀ l : List Nat, (∀ m ∈ l, m < xs.size) → l.filterMap (fun (m : Nat) => xs[(((xs.size : Nat) : Int) - 1 + (m : Int) * (-1)).toNat]?) = l.filterMap ((fun x => xs[x]?) ∘ fun k => xs.size - 1 - k) := by
      intro l
      induction l with
      | nil => intro _; rfl
      | cons m l ih =>
        intro h
        have := h m List.mem_cons_self
        have e2 : (((xs.size : Nat) : Int) - 1 + (m : Int) * (-1)).toNat = xs.size - 1 - m := by omega
        rw [List.filterMap_cons, List.filterMap_cons, ih (fun x hx => h x (List.mem_cons_of_mem _ hx)), e2]; rfl
    exact key _ fun m hm => List.mem_range.mp hm
  rw [e, show (List.range xs.size).map (fun k => xs.size - 1 - k) = (List.range xs.size).reverse from ?_, List.filterMap_reverse]
  · have h := pick_run xs 0 xs.size
    have e : (List.range xs.size).map (0 + ·) = List.range xs.size := by
      rw [show ((0 + ·) : Nat → Nat) = id from funext fun k => Nat.zero_add k, List.map_id]
    rw [e, List.drop_zero, List.take_of_length_le (by rw [Array.length_toList]; exact Nat.le_refl _)] at h
    rw [h]
  · apply List.ext_getElem
    · simp
    · intro i h1 h2
      simp
theorem getItem_tuple_rev {t sl : Addr} {items : Array Value} {vk : Value} {Q : Value → Shared → Prop} (ht : IsTup s.heap t items) (hs : s.heap.IsSliceOf sl .none .none vk) (pk : IsPart vk (some (-1)))
    (h : Q (.ref s.heap.objs.size) { s with heap := s.heap.push { cls := .type "tuple", data := .seq items.toList.reverse.toArray } })
    (hsz : items.size ≤ sizeLine) : wpAny (model prog w) A (getItem (.ref t) (.ref sl)) Q E s := by
  have htake : sizeOk (.seq items.toList.reverse.toArray) := by
    show items.toList.reverse.toArray.size ≤ sizeLine
    rw [List.size_toArray, List.length_reverse, Array.length_toList]
    omega
  obtain ⟨os, hos, hcs, hds⟩ := id hs
  have hTs : s.TypeIs (.ref sl) "slice" := ⟨os, hos, hcs⟩
  unfold getItem
  try with_reducible refine wpAny_holding ?_
  first | refine wpAny_bind (wpAny_pure ?_) | skip
  refine wpAny_bind (wpAny_sequenceKey ht.typeIs (by decide) ?_)
  refine wpAny_bind (wpAny_callSpecial?_slot (name := Str.ofString "__getitem__") ht.typeIs PyProof.Rows.slot_tuple_getitem
    (wpAny_call_entry PyProof.Rows.slot_tuple_getitem ht.typeIs entry_tuple_getitem ?_ (args_tuple_getitem _ _)))
  show wpAny _ _ (Builtin.Tuple.tupleItemsOf (.ref t) >>= _) _ _ s
  refine wpAny_bind (tupleItemsOf_ ht ?_)
  refine wpAny_bind (wpAny_typeOf hTs ?_)
  rw [if_pos (by decide)]
  refine wpAny_bind (sliceApplied_rev hs pk ?_)
  have hno : ¬ ((((items.size : Nat) : Int) - 1 == 0 && (-1 : Int) == 1 && items.size == items.size) = true) := by
    intro q
    rw [Bool.and_eq_true, Bool.and_eq_true] at q
    have q2 : (-1 : Int) = 1 := eq_of_beq q.1.2
    omega
  show wpAny _ _ (if (((items.size : Nat) : Int) - 1 == 0 && (-1 : Int) == 1 && items.size == items.size) = true then _ else _) _ _ s
  rw [if_neg hno, pick_rev]
  first
    | exact wpAny_bind (m := Builtin.Tuple.tupleExact _) (wpAny_newObj_type (wpAny_pure ⟨_, rfl, wpAny_pure h⟩) htake)
    | exact wpAny_bind (m := Builtin.Tuple.tupleExact _) (wpAny_newObj_type (wpAny_bind (wpAny_pure (wpAny_pure ⟨_, rfl, wpAny_pure h⟩))) htake)
    | exact wpAny_bind (wpAny_bind (m := Builtin.Tuple.tupleExact _) (wpAny_newObj_type (wpAny_pure (wpAny_pure ⟨_, rfl, wpAny_pure h⟩)) htake))
    | exact wpAny_bind (wpAny_bind (m := Builtin.Tuple.tupleExact _) (wpAny_newObj_type (wpAny_pure ⟨_, rfl, wpAny_pure h⟩) htake))
end
def tRevS (K : PySem.W.Frag) (te : TE) (ts : TO) : TE := fun σ H Q => te σ H fun x H1 => ts σ H1 fun o H2 => o = some (-1) ∧ ∃ a xs, x = .ref a ∧ SqT K H2 a xs ∧ ∀ p, H2 p = none → Q (.ref p) (upd H2 p (.tup xs.reverse))
theorem vals_rev {vs : List V} {us : List Value} (h : Vals vs us) : Vals vs.reverse us.reverse := by
  induction h with
  | nil => exact .nil
  | cons h1 h2 ih => rw [List.reverse_cons, List.reverse_cons]; exact ih.append (.cons h1 .nil)
theorem pe_revS {X : Cx} {e : Expr} {te : TE} {st : Option Expr} {ts : TO} {pos p2 : Pos} (he : PE X e te) (hst : PO X st ts) (hsub : ∀ v u, subscripted (.Slice none none st p2) false v u = operate [v, u] (getItem v u) := by intro v u; with_unfolding_all rfl) : PE X (.Subscript e (.Slice none none st p2) pos) (tRevS X.K te ts) := by
  refine ⟨fun pins s σ H Q I h => ?_⟩
  refine Subscript_ (thn (he.run pins s σ H _ I h) fun v s1 ⟨x, H1, I1, r1, q1⟩ => ?_)
  refine wpAny_Slice ?_
  rw [evalPart_none]
  refine wpAny_pure (wpAny_pure (thn (hst.run pins s1 σ H1 _ I1 q1) fun vk s3 ⟨o, H3, I3, pk, eo, a, xs, ex, hx, q⟩ => ?_))
  subst eo ex
  cases r1
  have I4 : Inv X pins σ H3 { s3 with heap := s3.heap.push { cls := .type "slice", data := .fields #[.none, .none, vk] } } := I3.kept (t' := s3.toks) fun b ob q => Heap.get?_push_of_some _ q
  obtain ⟨its, r, ht, hz⟩ := I4.tuple hx
  have hlen : its.toArray.size = xs.length := by rw [List.size_toArray]; exact r.length.symm
  show wpAny (model X.prog X.w) X.A (subscriptTail e (.Slice none none st p2) (.ref a) (.ref s3.heap.objs.size)) (EP X pins σ Q) X.xe { s3 with heap := s3.heap.push { cls := .type "slice", data := .fields #[.none, .none, vk] } }
  refine PyProof.Rows.tail_any (ops := [.ref a, .ref s3.heap.objs.size]) ht.typeIs PyProof.Rows.slot_tuple_getitem.lookup ?_ (hsub _ _)
  refine getItem_tuple_rev ht (Heap.IsSliceOf.new ..) pk ?_ (by rw [hlen]; exact hz)
  refine ⟨.ref _, upd H3 (s3.heap.push { cls := .type "slice", data := .fields #[.none, .none, vk] }).objs.size (.tup xs.reverse), I4.laid (t' := s3.toks) (fun b ob q => Heap.get?_push_of_some _ q) (Nat.le_refl _) ?_, rfl, q _ (I4.hok.fresh (Nat.le_refl _))⟩
  exact ⟨by rw [List.length_reverse]; exact hz, _, vals_rev r, IsTup.new _ _⟩
section
variable {K : PySem.W.Frag} {Γ : List Slot} {te : TE}
theorem dpAll_rev {N : Hp} : ∀ {ds : List PyData} {vs : List V}, DpAll K N vs ds → DpAll K N vs.reverse ds.reverse
  | [], _, h => by cases h; exact .nil
  | d :: ds, _, h => by
    cases h with
    | cons h1 h2 => rw [List.reverse_cons, List.reverse_cons]; exact dpAll_snoc (dpAll_rev h2) h1
theorem ex_revS {ds : List PyData} {ts : TO} (h : EX te Γ (kd K (.tuple ds))) (hs : EO ts Γ (some (-1))) : EX (tRevS K te ts) Γ (kd K (.tuple ds.reverse)) := fun F B σ N H Q S k =>
  h F B σ N H _ S fun v N1 H1 S1 e1 r1 => hs F B σ N1 H1 _ S1 fun N2 H2 S2 e2 => by
    cases r1 with
    | tup hs ha => exact ⟨rfl, _, _, rfl, ex_t (e2.trans S2.sub) hs, fun p hp => k _ _ _ (S2.new hp) ((e1.trans e2).trans (Ex.new (S2.sub.none hp))) (dp_newT (dpAll_rev (dpAll_mono e2 _ _ ha)) (S2.sub.none hp))⟩
end
end Wk
/-! ### == and != by an own __eq__ -/
namespace Wk
open PySem PySem.W
section
variable {prog : Program} {w : World} {A : Around} {E : Value → Shared → Prop} {s : Shared} {K : Frag} {x C f : Addr} {ox : Obj} {od : Option Obj} {b tb : Value}
theorem ne_slot : PySem.Slot "object" "__ne__" "object.__ne__" :=
  PySem.Slot.of (T := "object") (name := "__ne__") (owner := "object") (n := "__ne__") (by rw [typeLookup_type, builtinLookup_eq_fast]; kernel_rfl) (by decide +kernel) (by decide +kernel) (by decide +kernel)
    (.inl (by decide +kernel)) (by rw [isSubtype_type]; kernel_rfl)
theorem ne_bind (self : Value) : bindSpecial (.builtin "object.__ne__") self = pure (.builtin "object.__ne__", [self]) := ne_slot.bind self
theorem ifBoundB_K {M : Model} {name : Str} {id : String} {args : List Value} {Q : Option Value → Shared → Prop} (X : K.In s.heap) (I : InstAt s.heap x ox C od) (hs : findIn K (.ref C) name = some (some (.builtin id))) (hb : ∀ self, bindSpecial (.builtin id) self = pure (.builtin id, [self]))
    (h : wpAny M A (call (.builtin id) (.ref x :: args)) (fun v => Q (some v)) E s) : wpAny M A (callSpecialIfBound? (.ref x) name args) Q E s := by
  simp only [callSpecialIfBound?, bindSpecialIfBound?]
  refine wpAny_holding (wpAny_bind (wpAny_bind (wpAny_bind (I.type.here ((looks_findIn X hs).here ?_)))))
  refine wpAny_bind (wpAny_askSetting (wpAny_ite ?_))
  have fin : wpAny M A (call (.builtin id) ([.ref x] ++ args) >>= fun v => pure (some v)) Q E s := wpAny_bind (wpAny_mono h (fun v s' h' => wpAny_pure h') fun _ _ h' => h')
  split
  · exact wpAny_bind ((Looks.of_pure (hb _)).here (wpAny_pure (by exact fin)))
  · exact wpAny_tryCatch (wpAny_bind ((Looks.of_pure (hb _)).here (wpAny_pure (by exact fin))))
theorem one_ne {Q : Value → Shared → Prop} (hu : A.units + 1 < cLine) (X : K.In s.heap) (I : InstAt s.heap x ox C od)
    (hne : findIn K (.ref C) "__ne__" = some (some (.builtin "object.__ne__"))) (hm : mroIn K C (.type "object") = some true) (he : findIn K (.ref C) "__eq__" = some (some (.ref f))) (hf : isFn K (.ref f) = true)
    (h : wpAny (model prog w) A.in1 (call (.ref f) [.ref x, b]) (fun v s' => ∃ r, v = .bool r ∧ Q (.bool (!r)) s') E s) : wpAny (model prog w) A (tryCompare (.ref x) "__ne__" b) (fun r s' => ∃ v, r = some v ∧ Q v s') E s := by
  unfold tryCompare
  refine wpAny_bind (ifBoundB_K X I hne ne_bind (wpAny_call (codeAny_call_builtin ne_slot.plain F.cmpEntry_ne (check_slot (i := "object.__ne__") (owner := "object") (n := "__ne__") F.cmpKind_ne F.cmpSplit_ne (I.type.andThen (looks_mroIn X hm)) (F.cmpArgs_ne _ _) ?_))))
  unfold Builtin.«object.__ne__»
  refine wpAny_bind (m := slotArgs "__ne__" 1 _) (wpAny_pure ?_)
  refine wpAny_bind (m := cRoomFor _ _) (wpAny_cRoomFor hu ?_)
  refine wpAny_bind (m := callSpecialIfBound? (.ref x) (Str.ofString "__eq__") _) (ifBound_K X I he hf (wpAny_mono h (fun r s' hq => ?_) fun _ _ y => y))
  obtain ⟨b, rfl, hq⟩ := hq
  refine wpAny_bind (m := truthy (.bool _)) (wpAny_truthy_bool ?_)
  exact wpAny_pure (wpAny_pure ⟨_, rfl, hq⟩)
theorem ne_K {Q : Value → Shared → Prop} (hu : A.units + 1 < cLine) (X : K.In s.heap) (I : InstAt s.heap x ox C od) (hb : Looks (model prog w) s.heap (typeOf b) tb) (hn : notFirst K C tb = true)
    (hne : findIn K (.ref C) "__ne__" = some (some (.builtin "object.__ne__"))) (hm : mroIn K C (.type "object") = some true) (he : findIn K (.ref C) "__eq__" = some (some (.ref f))) (hf : isFn K (.ref f) = true)
    (h : wpAny (model prog w) A.in1 (call (.ref f) [.ref x, b]) (fun v s' => ∃ r, v = .bool r ∧ Q (.bool (!r)) s') E s) : wpAny (model prog w) A (richCompare .NotEq (.ref x) b) Q E s := by
  have one := one_ne (Q := Q) hu X I hne hm he hf h
  unfold richCompare
  simp only [oneThing_ref]
  refine wpAny_holding (wpAny_bind (wpAny_cRoomFor (by omega) ?_))
  refine wpAny_bind (I.type.here (wpAny_bind (hb.here ?_)))
  split
  · rename_i q
    have e : subIn K tb (.ref C) = some false := by
      rcases Bool.or_eq_true_iff.mp hn with e | e
      · rw [beq_iff_eq.mp e] at q; simp at q
      · exact beq_iff_eq.mp e
    refine wpAny_bind ((looks_subIn X e).here ?_)
    simp only [Bool.false_eq_true, if_false]
    refine wpAny_bind (wpAny_mono one (fun r s' z => ?_) fun _ _ e => e)
    obtain ⟨v, rfl, hq⟩ := z
    exact wpAny_pure hq
  · refine wpAny_bind (wpAny_pure ?_)
    simp only [Bool.false_eq_true, if_false]
    refine wpAny_bind (wpAny_mono one (fun r s' z => ?_) fun _ _ e => e)
    obtain ⟨v, rfl, hq⟩ := z
    exact wpAny_pure hq
end
open PySem.Spec PyProof.Rows L2
/-- what == of two instances asks of the class -/
structure EqC (K : PySem.W.Frag) (C f : Addr) : Prop where
  ne : findIn K (.ref C) "__ne__" = some (some (.builtin "object.__ne__"))
  mro : mroIn K C (.type "object") = some true
  eq : findIn K (.ref C) "__eq__" = some (some (.ref f))
  fn : isFn K (.ref f) = true
section
variable {X : Cx} {n : Nat} {C f : Addr} {fd : FuncData} {ps : List Str} {sp : Sp}
theorem run_eq {A : Around} {pins : List (Addr × Obj)} {s : Shared} {σ : L2.St} {H : Hp} {a b : Addr} {Q : VK} (F : FnOk X.prog X.w X.K X.mg X.base C8.CX0 n f fd ps sp) (hb : Binds X.K fd ps []) (hr : Room n A) (fr : A.frames = X.A.frames) (I : Inv X pins σ H s)
    (h : sp [.ref a, .ref b] H Q C8.E0) : wpAny (model X.prog X.w) A (call (.ref f) [.ref a, .ref b]) (fun v s' => ∃ z H', Inv X pins σ H' s' ∧ RelV z v ∧ Q z H') X.xe s := by
  have e0 : Env0 X.prog X.w X.K X.mg X.base A X.stack s H := by
    have e := I.env0
    exact ⟨by rw [fr]; exact e.frames, e.mod, e.bs, e.bsz, e.funs, e.frf, e.hok, e.bare⟩
  have hl := F.len _ _ _ _ h
  have r2 : Vals [V.ref a, V.ref b] [Value.ref a, Value.ref b] := .cons rfl (.cons rfl .nil)
  refine wpAny_call (codeAny_mono (F.run A X.stack s H ⟨[.ref a, .ref b], []⟩ [.ref a, .ref b] [.ref a, .ref b] _ C8.E0 hr e0 (by
    have := hb s [.ref a, .ref b] I.kIn (by simpa using hl)
    simpa using this) r2 h) fun r s' hq => ?_)
  cases r with
  | error e => exact (C8.pass0 (X := X) (E := C8.E0)) pins σ H s e s' I hq
  | ok fl =>
    cases fl with
    | ret w =>
      obtain ⟨z, H', I', rz, q⟩ := I.after hq
      exact ⟨z, H', I', rz, q⟩
    | next => exact False.elim hq
    | brk => exact False.elim hq
    | cont => exact False.elim hq
def rOwn (C : Addr) (sp : Sp) (g : Bool → Bool) : R2 := fun x y H Q => ∃ a b dx dy fs gs, x = .ref a ∧ y = .ref b ∧ H a = some (.ins C dx fs) ∧ H b = some (.ins C dy gs) ∧ sp [.ref a, .ref b] H (fun v H' => ∃ r, v = .bl r ∧ Q (.bl (g r)) H') C8.E0
theorem op_eqOwn (F : FnOk X.prog X.w X.K X.mg X.base C8.CX0 n f fd ps sp) (hb : Binds X.K fd ps []) (c : EqC X.K C f) (hr : Room n X.A) : OpR X (compareOp .Eq) (rOwn C sp id) := by
  intro pins s σ H x y v u Q I rx ry hq
  obtain ⟨a, b, dx, dy, fs, gs, rfl, rfl, ha, hb', h⟩ := hq
  cases rx
  cases ry
  show wpAny (model X.prog X.w) X.A (richCompare .Eq (.ref a) (.ref b)) (EP X pins σ Q) X.xe s
  obtain ⟨mA, J, _⟩ := ins_get I.hok ha
  obtain ⟨mB, J', _⟩ := ins_get I.hok hb'
  obtain ⟨od, J, _⟩ := J.look
  obtain ⟨od', J', _⟩ := J'.look
  obtain ⟨m, hF⟩ := I.fr
  refine cmp_K (op := .Eq) (tb := .ref C) hr.units0 hF I.ok.mod.kin J J'.type (by simp [notFirst]) c.eq c.fn ?_
  refine wpAny_mono (run_eq F hb hr rfl I h) (fun r s' z => ?_) fun _ _ x => x
  obtain ⟨z, H', I', rz, r0, ez, q⟩ := z
  subst ez
  cases rz
  exact ⟨.bl r0, H', I', rfl, q⟩
theorem op_neOwn (F : FnOk X.prog X.w X.K X.mg X.base C8.CX0 n f fd ps sp) (hb : Binds X.K fd ps []) (c : EqC X.K C f) (hr : Room (n + 1) X.A) : OpR X (compareOp .NotEq) (rOwn C sp not) := by
  intro pins s σ H x y v u Q I rx ry hq
  obtain ⟨a, b, dx, dy, fs, gs, rfl, rfl, ha, hb', h⟩ := hq
  cases rx
  cases ry
  show wpAny (model X.prog X.w) X.A (richCompare .NotEq (.ref a) (.ref b)) (EP X pins σ Q) X.xe s
  obtain ⟨mA, J, _⟩ := ins_get I.hok ha
  obtain ⟨mB, J', _⟩ := ins_get I.hok hb'
  obtain ⟨od, J, _⟩ := J.look
  obtain ⟨od', J', _⟩ := J'.look
  refine ne_K (tb := .ref C) (by have := hr.un; omega) I.kIn J J'.type (by simp [notFirst]) c.ne c.mro c.eq c.fn ?_
  refine wpAny_mono (run_eq F hb hr.in1 rfl I h) (fun r s' z => ?_) fun _ _ x => x
  obtain ⟨z, H', I', rz, r0, ez, q⟩ := z
  subst ez
  cases rz
  exact ⟨_, rfl, .bl (!r0), H', I', rfl, q⟩
end
end Wk
namespace Wk
open PySem L2
section
variable {P : Program} {w : World} {K : PySem.W.Frag} {mg : Str → Option Value} {base : Heap}
/-- a property that may be read -/
structure Prp (P : Program) (w : World) (K : PySem.W.Frag) (mg : Str → Option Value) (base : Heap) (k : Nat) (C : Addr) (f : Str) (sp : Sp) : Prop where
  ex : ∃ (p g : Addr) (fd : FuncData) (ps : List Str), Cls K C ∧ PropOf K C f p g ∧ FnOk P w K mg base C8.CX0 k g fd ps sp ∧ Binds K fd ps []
/-- a class's own == -/
structure EqO (P : Program) (w : World) (K : PySem.W.Frag) (mg : Str → Option Value) (base : Heap) (k : Nat) (C : Addr) (sp : Sp) : Prop where
  ex : ∃ (f : Addr) (fd : FuncData) (ps : List Str), EqC K C f ∧ FnOk P w K mg base C8.CX0 k f fd ps sp ∧ Binds K fd ps []
end
section
variable {X : Cx} {k j : Nat} {C : Addr} {f : Str} {sp : Sp} {pos : Pos} {e : Expr} {te : TE}
theorem pe_pr (c : Prp X.prog X.w X.K X.mg X.base k C f sp) (hr : Room j X.A) (hk : k + 1 ≤ j) (he : PE X e te) (hab : attributeBase e f X.env (eval e X.env) = eval e X.env := by rfl) : PE X (.Attribute e f pos) (tProp C sp [] C8.E0 te) := by
  obtain ⟨p, g, fd, ps, cl, hp, F, hb⟩ := c.ex
  exact pe_prop he cl hp F (hr.mono hk) hb .nil C8.pass0 hab
theorem op_eqO (c : EqO X.prog X.w X.K X.mg X.base k C sp) (hr : Room j X.A) (hk : k ≤ j) : OpR X (compareOp .Eq) (rOwn C sp id) := by
  obtain ⟨f, fd, ps, ec, F, hb⟩ := c.ex
  exact op_eqOwn F hb ec (hr.mono hk)
theorem op_neO (c : EqO X.prog X.w X.K X.mg X.base k C sp) (hr : Room j X.A) (hk : k + 1 ≤ j) : OpR X (compareOp .NotEq) (rOwn C sp not) := by
  obtain ⟨f, fd, ps, ec, F, hb⟩ := c.ex
  exact op_neOwn F hb ec (hr.mono hk)
end
section
variable {K : PySem.W.Frag} {Γ : List Slot} {ta tb : TE} {C : Addr} {fs gs : List (Str × Kn)}
theorem ex_own (p : Pm) (i : p.ι) (g : Bool → Bool) (b : Bool) (ha : EX ta Γ (kI C fs)) (hb : EX tb Γ (kI C gs)) (e : p.args i = [kI C fs, kI C gs]) (r : p.res i = kd K (.bool b)) (hp : p.pre i) : EX (tOp (rOwn C p.sp g) ta tb) Γ (kd K (.bool (g b))) :=
  ex_op ha hb fun F B Γ σ N H x y Q S hx hy k => by
    have hx0 := hx
    have hy0 := hy
    obtain ⟨a, u, ex, ea, dx, vs, eu, hall⟩ := hx
    obtain ⟨a', u', ex', ea', dx', vs', eu', hall'⟩ := hy
    subst ex eu ex' eu'
    refine ⟨a, a', dx, dx', _, _, rfl, rfl, S.sub _ _ ea, S.sub _ _ ea', i, N, S.sub, hp, by rw [e]; exact ⟨hx0, hy0, trivial⟩, fun v N2 H2 a1 a2 a3 a4 r2 => ?_⟩
    rw [r] at r2
    cases r2
    exact ⟨b, rfl, k _ N2 H2 (S.grow a2 a1 a3 a4) a2 (.bl _)⟩
end
noncomputable def eqB {n : Nat} {S : Sys n} (g h : W S) : Bool := @decide (g = h) (Classical.propDecidable _)
theorem eqB_iff {n : Nat} {S : Sys n} {g h : W S} : eqB g h = true ↔ g = h := by unfold eqB; exact @decide_eq_true_iff _ (Classical.propDecidable _)
theorem eqv_M {n : Nat} {S : Sys n} (g h : W S) : PyData.eqv (encM (W.img g)) (encM (W.img h)) = eqB g h := by
  rw [Bool.eq_iff_iff, eqB_iff, iD_eqv 3 _ _ (encM_iD _) (encM_iD _)]
  exact ⟨fun e => W.img_inj (encM_inj e), fun e => by rw [e]⟩
theorem encT_iD {n : Nat} (m : Fin n → Fin n → Nat) : iD 2 (encT m) = true := by
  unfold encT fins
  simp only [iD]
  generalize List.finRange n = l
  induction l with
  | nil => rfl
  | cons a l ih => simp only [List.map_cons, iDs, Bool.and_eq_true]; exact ⟨encRow_iD _, ih⟩
theorem eqv_self {k : Nat} {d : PyData} (h : iD k d = true) : PyData.eqv d d = true := (iD_eqv k d d h h).mpr rfl
namespace W
variable {n : Nat} {S : Sys n}
noncomputable def fronts (g : W S) : List (Fin n) := backs g⁻¹
theorem len_inv36 {g : W S} (h : len g ≤ 36) : len g⁻¹ ≤ 36 := by rw [len_inv]; exact h
theorem mk_rev (w : List (Fin n)) : (mk w.reverse : W S) = (mk w)⁻¹ := rfl
end W
/-! ### making by keywords -/
structure MakN (P : Program) (w : World) (K : PySem.W.Frag) (mg : Str → Option Value) (base : Heap) (k : Nat) (x : Str) (C : Addr) (sp : Sp) (n : Nat) (ks : List Str) : Prop where
  ex : ∃ (f : Addr) (fd : FuncData) (ps : List Str) (g : List Value → List Value → List Value), Mk K C f ∧ FnOk P w K mg base C8.CX0 k f fd ps sp ∧ mg x = some (.ref C) ∧ KBn K fd ps (n + 1) ks g (fun vs zs => vs ++ zs)
theorem pe_mkN {X : Cx} {k j n : Nat} {C : Addr} {x : Str} {sp : Sp} {p pos : Pos} {e : Expr} {es : List Expr} {kws : List Keyword} {t tk : TA} {ks : List Str} (c : MakN X.prog X.w X.K X.mg X.base k x C sp n ks) (hr : Room j X.A) (hk : k + 1 ≤ j) (hg : Gl X x)
    (ha : PA X (e :: es) t) (hkw : PK X kws tk) (hall : (backToKw pos (keywordEach kws X.env)).all (·.1.isSome) = true := by rfl) (hks : (backToKw pos (keywordEach kws X.env)).filterMap (·.1) = ks := by rfl)
    (hdb : (x == ("__debug__" : Str)) = false := by decide) (he : starEach (e :: es) X.env = (false, eval e X.env) :: starEach es X.env := by rfl)
    (hpl : ((backTo pos (starEach (e :: es) X.env)).any (·.1) || (backToKw pos (keywordEach kws X.env)).any (·.1.isNone)) = false := by rfl) :
    PE X (.Call (.Name x p) (e :: es) kws pos) (tMakeN C n ks.length sp (fun vs zs => vs ++ zs) C8.E0 t tk) := by
  obtain ⟨f, fd, ps, g, M, F, hm, hb⟩ := c.ex
  exact pe_makeN M F (hr.mono hk) hg hm hb C8.pass0 ha hkw hall hks hdb he hpl
/-! ### promises -/
abbrev tabF (K : PySem.W.Frag) (T : Tb) : List (Str × Kn) := [("ties", kd K (encT T.m)), ("size", kd K (.int (T.n : Int))), ("pairs", kd K (encA T.sn)), ("pieces", kAny)]
abbrev chgF (K : PySem.W.Frag) (T : Tb) (g : W T.sys) : List (Str × Kn) := [("table", kTab K T), ("_ahead", kd K (encM (W.img g))), ("_back", kd K (encM (W.img g⁻¹)))]
abbrev pm_Table_init (K : PySem.W.Frag) : PmH := PmI K (He.ga K "Table") Tb (fun _ => True) (fun T => [kd K (encT T.m)]) (tabF K)
abbrev Chi := (T : Tb) × (List (Fin T.n) ⊕ W T.sys)
def Chi.g (i : Chi) : W i.1.sys := match i.2 with
  | .inl w => W.mk w
  | .inr g => g
def Chi.pre (i : Chi) : Prop := match i.2 with
  | .inl w => w.length ≤ 60
  | .inr _ => True
def Chi.args (K : PySem.W.Frag) (i : Chi) : List Kn := match i.2 with
  | .inl w => [kTab K i.1, kd K (encW w), kd K .none]
  | .inr g => [kTab K i.1, kd K (.tuple []), kd K (.tuple [encM (W.img g), encM (W.img g⁻¹)])]
abbrev pm_Change_init (K : PySem.W.Frag) : PmH := PmI K (He.ga K "Change") Chi Chi.pre (Chi.args K) (fun i => chgF K i.1 i.g)
abbrev Tg := (T : Tb) × W T.sys
abbrev Tgh := (T : Tb) × (W T.sys × W T.sys)
abbrev pm_change_made (K : PySem.W.Frag) : Pm := ⟨Tg, fun _ => True, fun i => [kTab K i.1, kd K (encM (W.img i.2)), kd K (encM (W.img i.2⁻¹))], fun i => kChg K i.1 i.2⟩
abbrev pm_check_change (K : PySem.W.Frag) : Pm := ⟨Tg, fun _ => True, fun i => [kChg K i.1 i.2], fun _ => kd K .none⟩
abbrev pm_check_same_table (K : PySem.W.Frag) : Pm := ⟨Tgh, fun _ => True, fun i => [kChg K i.1 i.2.1, kChg K i.1 i.2.2], fun _ => kd K .none⟩
abbrev pm_check_both (K : PySem.W.Frag) : Pm := ⟨Tgh, fun _ => True, fun i => [kChg K i.1 i.2.1, kChg K i.1 i.2.2], fun _ => kd K .none⟩
abbrev pm_inverse_of (K : PySem.W.Frag) : Pm := ⟨Tg, fun _ => True, fun i => [kChg K i.1 i.2], fun i => kChg K i.1 i.2⁻¹⟩
abbrev pm_product_of (K : PySem.W.Frag) : Pm := ⟨Tgh, fun i => W.len i.2.1 ≤ 36 ∧ W.len i.2.2 ≤ 36, fun i => [kChg K i.1 i.2.1, kChg K i.1 i.2.2], fun i => kChg K i.1 (i.2.1 * i.2.2)⟩
abbrev pm_led_front (K : PySem.W.Frag) : Pm := ⟨(T : Tb) × (W T.sys × Fin T.n), fun _ => True, fun i => [kChg K i.1 i.2.1, kd K (encF i.2.2)], fun i => kChg K i.1 (W.gen i.2.2 * i.2.1)⟩
abbrev pm_plain (K : PySem.W.Frag) : Pm := ⟨Tb, fun _ => True, fun T => [kTab K T], fun T => kChg K T 1⟩
noncomputable abbrev pm_Change_word (K : PySem.W.Frag) : Pm := ⟨Tg, fun i => W.len i.2 ≤ 36, fun i => [kChg K i.1 i.2], fun i => kd K (encW (W.first i.2))⟩
noncomputable abbrev pm_Change_length (K : PySem.W.Frag) : Pm := ⟨Tg, fun i => W.len i.2 ≤ 36, fun i => [kChg K i.1 i.2], fun i => kd K (.int (W.len i.2 : Int))⟩
noncomputable abbrev pm_Change_fronts (K : PySem.W.Frag) : Pm := ⟨Tg, fun i => W.len i.2 ≤ 36, fun i => [kChg K i.1 i.2], fun i => kd K (encW (W.fronts i.2))⟩
abbrev pm_Table_eq (K : PySem.W.Frag) : Pm := ⟨Tb, fun _ => True, fun T => [kTab K T, kTab K T], fun _ => kd K (.bool true)⟩
noncomputable abbrev pm_Change_eq (K : PySem.W.Frag) : Pm := ⟨Tgh, fun _ => True, fun i => [kChg K i.1 i.2.1, kChg K i.1 i.2.2], fun i => kd K (.bool (eqB i.2.1 i.2.2))⟩
section
variable {K : PySem.W.Frag} {Γ : List Slot} {targ tk : TA} {E : XK}
theorem ex_mkTable (T : Tb) (ha : EA targ Γ [kd K (encT T.m)]) (_ : True) : EX (tMake (He.ga K "Table") (pm_Table_init K).sp [] E targ) Γ (kTab K T) := ex_mk (Ds := []) T ha trivial (fun _ => trivial) rfl
theorem ex_mkChange (i : (T : Tb) × List (Fin T.n)) (ha : EA targ Γ [kTab K i.1, kd K (encW i.2)]) (h : i.2.length ≤ 60) : EX (tMake (He.ga K "Change") (pm_Change_init K).sp [.non] E targ) Γ (kChg K i.1 (W.mk i.2)) :=
  ex_mk (Ds := [kd K .none]) (⟨i.1, .inl i.2⟩ : Chi) ha h (fun _ => ⟨.non, trivial⟩) rfl
theorem ex_mkParts (i : Tg) (ha : EA targ Γ [kTab K i.1, kd K (.tuple [])]) (hk : EA tk Γ [kd K (.tuple [encM (W.img i.2), encM (W.img i.2⁻¹)])]) : EX (tMakeN (He.ga K "Change") 2 1 (pm_Change_init K).sp (fun vs zs => vs ++ zs) E targ tk) Γ (kChg K i.1 i.2) :=
  ex_mkN (⟨i.1, .inr i.2⟩ : Chi) ha hk trivial rfl rfl rfl
theorem non_none (N : Hp) (v : V) (h : Dp K N v .none) : decide (v = V.non) = true := by cases h; rfl
theorem tup_none {ds : List PyData} (N : Hp) (v : V) (h : Dp K N v (.tuple ds)) : decide (v = V.non) = false := by cases h; rfl
end
section
variable {K : PySem.W.Frag} {Γ : List Slot} {tv : TE} {R : Kn} {P : Post} {u : TS} {C : Addr} {fs : List (Str × Kn)} {f : Str}
theorem q_fldB {j : Nat} (hj : Γ[j]? = some (.hel (oI C fs))) (h : EX tv Γ R) (c : Cls K C) (n : NoAttr K C f) (k : SX u (Γ.set j (.hel (oI C (fs ++ [(f, R)])))) P) (hf : ((fs.map (·.1)).contains f || !decide (fs.length < 1000)) = false := by kernel_rfl) : SX (tSeq (sFld K (tVar j) tv f) u) Γ P := by
  rw [Bool.or_eq_false_iff, Bool.not_eq_false', decide_eq_true_iff] at hf
  exact q_fld hj h c n (fun z => by have := List.contains_iff_mem.mpr z; rw [hf.1] at this; cases this) hf.2 k
theorem s_fldB {j : Nat} (hj : Γ[j]? = some (.hel (oI C fs))) (h : EX tv Γ R) (c : Cls K C) (n : NoAttr K C f) (k : P.nx (Γ.set j (.hel (oI C (fs ++ [(f, R)]))))) (hf : ((fs.map (·.1)).contains f || !decide (fs.length < 1000)) = false := by kernel_rfl) : SX (sFld K (tVar j) tv f) Γ P := by
  rw [Bool.or_eq_false_iff, Bool.not_eq_false', decide_eq_true_iff] at hf
  exact s_fld hj h c n (fun z => by have := List.contains_iff_mem.mpr z; rw [hf.1] at this; cases this) hf.2 k
end
end Wk
namespace Wk
open PySem L2
section
variable {P : Program} {w : World} {K : PySem.W.Frag} {mg : Str → Option Value} {base : Heap}
abbrev s_Table_init : Stmt := inClass (top 58) 0
abbrev Ns_Table_init : List Str := ["self", "ties", "wrong"]
theorem sc_Table_init : FnScope Ns_Table_init ["self", "ties"] (defScope s_Table_init) := ⟨rfl, rfl, rfl, by decide +kernel, rfl, by decide +kernel, by decide +kernel⟩
def t_Table_init (K : PySem.W.Frag) : TS := (tSeq (tAsg (tCall (pm_first_wrong_row K).sp [] E0 (tCons (tVar 1) tNil)) (gName 2))
    (tSeq (tIfS (tTest (tOp rNe (tVar 2) (tUn (rU fun i => .int (-i)) (tC (.int 1))))) tNever tNext)
    (tSeq (sFld K (tVar 0) (tVar 1) "ties")
    (tSeq (sFld K (tVar 0) (tCB (rLenSeq K) (tCons (tVar 1) tNil)) "size")
    (tSeq (sFld K (tVar 0) (tCall (pm_weight_pairs K).sp [] E0 (tCons (tVar 1) tNil)) "pairs")
    (sFld K (tVar 0) (tCall (pm_pieces_of K).sp [] E0 (tCons (tVar 1) tNil)) "pieces"))))))
theorem sx_Table_init (T : Tx K mg) : (pm_Table_init K).body Ns_Table_init (t_Table_init K) := by
  rintro X _
  dsimp only [pm_Table_init]
  show SX _ [_, _, _] _
  have sz := X.h3
  refine q_set (ex_pm (pm_first_wrong_row K) _ (ea_cons (ex_var rfl) ea_nil) trivial) ?_
  refine q_if (b := false) (et_is (et_test (ex_neI (ex_var rfl) (ex_neg (ex_int (K := K))))) rfl) (fun e => by cases e) (fun _ => sx_pass ?_)
  refine q_fldB (R := kd K (encT X.m)) rfl (ex_var rfl) T.isTable.cl T.t_ties ?_
  refine q_fldB (R := kd K (.int (X.n : Int))) rfl (ex_lenF (f := fun t => encRow (X.m t)) (ex_var rfl)) T.isTable.cl T.t_size ?_
  refine q_fldB (R := kd K (encA X.sn)) rfl (ex_pm (pm_weight_pairs K) _ (ea_cons (ex_var rfl) ea_nil) trivial) T.isTable.cl T.t_pairs ?_
  refine s_fldB (R := kAny) rfl (ex_weak (ex_pm (pm_pieces_of K) ⟨X.n, X.m⟩ (ea_cons (ex_var rfl) ea_nil) X.h3) fun _ _ _ => trivial) T.isTable.cl T.t_pieces ?_
  exact ⟨rfl, fun _ => .non⟩
theorem ok_Table_init (T : Tx K mg) (c_first_wrong_row : C8.Cal P w K mg base 3 "first_wrong_row" (pm_first_wrong_row K).sp []) (c_weight_pairs : C8.Cal P w K mg base 1 "weight_pairs" (pm_weight_pairs K).sp []) (c_pieces_of : C8.Cal P w K mg base 2 "pieces_of" (pm_pieces_of K).sp []) {f : Addr} {fd : FuncData} (F : FnP K "__init__" "Table.__init__" s_Table_init f fd) : FnOk P w K mg base CX0 4 f fd ["self", "ties"] (pm_Table_init K).sp := by
  have sc := sc_Table_init
  refine F.ok sc (fun vs H Q E h => PmH.len (fun _ => rfl) vs H Q E h) (fun cdv A outer s H vs Q E hr h => ⟨t_Table_init K, PSs.nox ?_, PmH.go (sx_Table_init T) vs H Q E h⟩)
  exact (pss_cons (ps_set (i := 2) sc.nd rfl (by first | exact Or.inl rfl | exact Or.inr rfl) (C8.pe_c c_first_wrong_row hr (by decide) rfl (pa_cons (pv 1) pa_nil)))
      (pss_cons (ps_if (pt_cmpR op_ne (pv 2) (pe_un un_neg pe_int) (nomark _)) (pss_one ps_never) pss_nil)
      (pss_cons (ps_fld (pv 0) (pv 1) (by rfl))
      (pss_cons (ps_fld (pv 0) (pe_callB call_len_seq rfl T.len_ PySem.boot_len (pa_cons (pv 1) pa_nil)) (by rfl))
      (pss_cons (ps_fld (pv 0) (C8.pe_c c_weight_pairs hr (by decide) rfl (pa_cons (pv 1) pa_nil)) (by rfl))
      (pss_one (ps_fld (pv 0) (C8.pe_c c_pieces_of hr (by decide) rfl (pa_cons (pv 1) pa_nil)) (by rfl))))))))
abbrev s_Change_init : Stmt := inClass (top 78) 0
abbrev Ns_Change_init : List Str := ["self", "table", "word", "_parts"]
theorem sc_Change_init : FnScope Ns_Change_init ["self", "table", "word", "_parts"] (defScope s_Change_init) := ⟨rfl, rfl, rfl, by decide +kernel, rfl, by decide +kernel, by decide +kernel⟩
def t_Change_init (K : PySem.W.Frag) : TS := (tSeq (tIfS (tB (tIsN (tVar 3))) (tSeq (tDrop (tCall (pm_check_table K).sp [] E0 (tCons (tVar 1) tNil)))
    (tDrop (tCall (pm_check_word K).sp [] E0 (tCons (tVar 1) (tCons (tVar 2) tNil))))) tNext)
    (tSeq (sFld K (tVar 0) (tVar 1) "table")
    (tSeq (sFld K (tVar 0) (tIf (tB (tIsN (tVar 3))) (tCall (pm_images_of K).sp [] E0 (tCons (tFld K (tVar 1) "pairs") (tCons (tVar 2) tNil))) (tOp (rIxT K) (tVar 3) (tC (.int 0)))) "_ahead")
    (sFld K (tVar 0) (tIf (tB (tIsN (tVar 3))) (tCall (pm_images_of K).sp [] E0 (tCons (tFld K (tVar 1) "pairs") (tCons (tRevS K (tVar 2) (tPart (tUn (rU fun i => .int (-i)) (tC (.int 1))))) tNil))) (tOp (rIxT K) (tVar 3) (tC (.int 1)))) "_back"))))
theorem sx_Change_init (T : Tx K mg) : (pm_Change_init K).body Ns_Change_init (t_Change_init K) := by
  rintro ⟨X, w | g⟩ hw
  dsimp only [pm_Change_init]
  show SX _ [_, _, _, _] _
  · have hw : w.length ≤ 60 := hw
    show SX _ [_, _, _, _] _
    refine q_if (b := true) (et_B (ex_isN true non_none (ex_var rfl))) (fun _ => q_assoc ?_) (fun e => by cases e)
    refine q_drop (ex_pm (pm_check_table K) X (ea_cons (ex_var rfl) ea_nil) trivial) ?_
    refine q_drop (ex_pm (pm_check_word K) ⟨X, w⟩ (ea_cons (ex_var rfl) (ea_cons (ex_var rfl) ea_nil)) hw) ?_
    refine q_fldB (R := kTab K X) rfl (ex_var rfl) T.isChange.cl T.t_table ?_
    refine q_fldB (R := kd K (encM (W.img (W.mk w : W X.sys)))) rfl (ex_if (b := true) (et_B (ex_isN true non_none (ex_var rfl))) (fun _ => ex_pm (pm_images_of K) ⟨X.sn, w⟩ (ea_cons (ex_pairs T (T := X) (ex_var rfl)) (ea_cons (ex_var rfl) ea_nil)) (show w.length ≤ 1000 by omega)) fun e => by cases e) T.isChange.cl T.t_ahead ?_
    refine s_fldB (R := kd K (encM (W.img (W.mk w : W X.sys)⁻¹))) rfl (ex_if (b := true) (et_B (ex_isN true non_none (ex_var rfl))) (fun _ => ex_pm (pm_images_of K) ⟨X.sn, w.reverse⟩ (ea_cons (ex_pairs T (T := X) (ex_var rfl)) (ea_cons (ex_is (ex_revS (ds := w.map encF) (ex_var rfl) (eo_some (ex_neg (ex_int (K := K))))) (by rw [← List.map_reverse]; rfl)) ea_nil)) (show w.reverse.length ≤ 1000 by rw [List.length_reverse]; omega)) fun e => by cases e) T.isChange.cl T.t_back ?_
    exact ⟨rfl, fun _ => .non⟩
  · show SX _ [_, _, _, _] _
    refine q_if (b := false) (et_B (ex_isN false tup_none (ex_var rfl))) (fun e => by cases e) (fun _ => sx_pass ?_)
    refine q_fldB (R := kTab K X) rfl (ex_var rfl) T.isChange.cl T.t_table ?_
    refine q_fldB (R := kd K (encM (W.img g))) rfl (ex_if (b := false) (et_B (ex_isN false tup_none (ex_var rfl))) (fun e => by cases e) fun _ => ex_ixT0 (ex_var rfl)) T.isChange.cl T.t_ahead ?_
    refine s_fldB (R := kd K (encM (W.img g⁻¹))) rfl (ex_if (b := false) (et_B (ex_isN false tup_none (ex_var rfl))) (fun e => by cases e) fun _ => ex_ixT1 (ex_var rfl)) T.isChange.cl T.t_back ?_
    exact ⟨rfl, fun _ => .non⟩
theorem ok_Change_init (T : Tx K mg) (c_check_table : C8.Cal P w K mg base 1 "check_table" (pm_check_table K).sp []) (c_check_word : C8.Cal P w K mg base 4 "check_word" (pm_check_word K).sp []) (c_images_of : C8.Cal P w K mg base 3 "images_of" (pm_images_of K).sp []) {f : Addr} {fd : FuncData} (F : FunD K "__init__" "Change.__init__" (defArgs s_Change_init) (defBody s_Change_init) (defScope s_Change_init) [.non] [] f fd) : FnOk P w K mg base CX0 5 f fd ["self", "table", "word", "_parts"] (pm_Change_init K).sp := by
  have sc := sc_Change_init
  refine F.ok sc (fun vs H Q E h => PmH.len (P := pm_Change_init K) (fun i => by obtain ⟨X, w | g⟩ := i <;> rfl) vs H Q E h) (fun cdv A outer s H vs Q E hr h => ⟨t_Change_init K, PSs.nox ?_, PmH.go (sx_Change_init T) vs H Q E h⟩)
  exact (pss_cons (ps_if (pt_cmp (pc_isN (pv 3))) (pss_cons (ps_expr (C8.pe_c c_check_table hr (by decide) rfl (pa_cons (pv 1) pa_nil)))
      (pss_one (ps_expr (C8.pe_c c_check_word hr (by decide) rfl (pa_cons (pv 1) (pa_cons (pv 2) pa_nil)))))) pss_nil)
      (pss_cons (ps_fld (pv 0) (pv 1) (by rfl))
      (pss_cons (ps_fld (pv 0) (pe_ifExp (pt_cmp (pc_isN (pv 3))) (C8.pe_c c_images_of hr (by decide) rfl (pa_cons (pe_fld (pv 1) rfl) (pa_cons (pv 2) pa_nil))) (pe_ix ix_tup (pv 3) pe_int (fun _ _ => rfl))) (by rfl))
      (pss_one (ps_fld (pv 0) (pe_ifExp (pt_cmp (pc_isN (pv 3))) (C8.pe_c c_images_of hr (by decide) rfl (pa_cons (pe_fld (pv 1) rfl) (pa_cons (pe_revS (pv 2) (po_some (pe_un un_neg pe_int))) pa_nil))) (pe_ix ix_tup (pv 3) pe_int (fun _ _ => rfl))) (by rfl))))))
abbrev s_change_made : Stmt := top 79
abbrev Ns_change_made : List Str := ["table", "ahead", "back"]
theorem sc_change_made : FnScope Ns_change_made ["table", "ahead", "back"] (defScope s_change_made) := ⟨rfl, rfl, rfl, by decide +kernel, rfl, by decide +kernel, by decide +kernel⟩
def t_change_made (K : PySem.W.Frag) : TS := (tRet (tMakeN (He.ga K "Change") 2 (["_parts"] : List Str).length (pm_Change_init K).sp (fun vs zs => vs ++ zs) E0 (tCons (tVar 0) (tCons (tTup tNil) tNil)) (tCons (tTup (tCons (tVar 1) (tCons (tVar 2) tNil))) tNil)))
theorem sx_change_made (T : Tx K mg) : (pm_change_made K).body Ns_change_made (t_change_made K) := by
  rintro ⟨X, g⟩ _
  dsimp only [pm_change_made]
  show SX _ [_, _, _] _
  exact sx_ret (ex_mkParts ⟨X, g⟩ (ea_cons (ex_var rfl) (ea_cons (ex_tup (ead_nil (K := K))) ea_nil)) (ea_cons (ex_tup (ead_cons (ex_var rfl) (ead_cons (ex_var rfl) ead_nil))) ea_nil))
theorem ok_change_made (T : Tx K mg) (c_Change_kw : MakN P w K mg base 5 "Change" (He.ga K "Change") (pm_Change_init K).sp 2 ["_parts"]) {f : Addr} {fd : FuncData} (F : FnP K "change_made" "change_made" s_change_made f fd) : FnOk P w K mg base CX0 7 f fd ["table", "ahead", "back"] (pm_change_made K).sp := by
  have sc := sc_change_made
  refine F.ok sc (fun vs H Q E h => Pm.len (fun _ => rfl) vs H Q E h) (fun cdv A outer s H vs Q E hr h => ⟨t_change_made K, PSs.nox ?_, Pm.go (sx_change_made T) vs H Q E h⟩)
  exact (pss_one (ps_ret (pe_mkN c_Change_kw hr (by decide) rfl (pa_cons (pv 0) (pa_cons (pe_tup pa_nil) pa_nil)) (pk_cons (pe_tup (pa_cons (pv 1) (pa_cons (pv 2) pa_nil))) pk_nil))))
abbrev s_check_change : Stmt := top 80
abbrev Ns_check_change : List Str := ["value"]
theorem sc_check_change : FnScope Ns_check_change ["value"] (defScope s_check_change) := ⟨rfl, rfl, rfl, by decide +kernel, rfl, by decide +kernel, by decide +kernel⟩
def t_check_change (K : PySem.W.Frag) : TS := (tIfS (tNot (tB (tCB (rIsC K "Change") (tCons (tVar 0) (tCons (tC (.ref (He.ga K "Change"))) tNil))))) tNever tNext)
theorem sx_check_change (T : Tx K mg) : (pm_check_change K).body Ns_check_change (t_check_change K) := by
  rintro ⟨X, g⟩ _
  dsimp only [pm_check_change]
  show SX _ [_] _
  exact s_if (b := false) (et_is (et_not (et_B (ex_isChange (ex_var rfl)))) rfl) (fun e => by cases e) (fun _ => sx_nil fun _ => .non)
theorem ok_check_change (T : Tx K mg) {f : Addr} {fd : FuncData} (F : FnP K "check_change" "check_change" s_check_change f fd) : FnOk P w K mg base CX0 1 f fd ["value"] (pm_check_change K).sp := by
  have sc := sc_check_change
  refine F.ok sc (fun vs H Q E h => Pm.len (fun _ => rfl) vs H Q E h) (fun cdv A outer s H vs Q E hr h => ⟨t_check_change K, PSs.nox ?_, Pm.go (sx_check_change T) vs H Q E h⟩)
  exact (pss_one (ps_if (pt_not (pt_val (pe_callB (C8.call_isC T.isChange) rfl T.isinstance_ PyProof.Rows.boot_isinstance (pa_cons (pv 0) (pa_cons (C8.pe_gc rfl T.cChange) pa_nil))))) (pss_one ps_never) pss_nil))
abbrev s_check_same_table : Stmt := top 76
abbrev Ns_check_same_table : List Str := ["one", "other"]
theorem sc_check_same_table : FnScope Ns_check_same_table ["one", "other"] (defScope s_check_same_table) := ⟨rfl, rfl, rfl, by decide +kernel, rfl, by decide +kernel, by decide +kernel⟩
def t_check_same_table (K : PySem.W.Frag) : TS := (tIfS (tTest (tOp (rOwn (He.ga K "Table") (pm_Table_eq K).sp not) (tFld K (tVar 0) "table") (tFld K (tVar 1) "table"))) tNever tNext)
theorem sx_check_same_table (T : Tx K mg) : (pm_check_same_table K).body Ns_check_same_table (t_check_same_table K) := by
  rintro ⟨X, g, h⟩ _
  dsimp only [pm_check_same_table]
  show SX _ [_, _] _
  exact s_if (b := false) (et_test (ex_own (pm_Table_eq K) X not _ (ex_table T (ex_var rfl)) (ex_table T (ex_var rfl)) rfl rfl trivial)) (fun e => by cases e) (fun _ => sx_nil fun _ => .non)
theorem ok_check_same_table (T : Tx K mg) (c_Table_eq : EqO P w K mg base 1 (He.ga K "Table") (pm_Table_eq K).sp) {f : Addr} {fd : FuncData} (F : FnP K "check_same_table" "check_same_table" s_check_same_table f fd) : FnOk P w K mg base CX0 3 f fd ["one", "other"] (pm_check_same_table K).sp := by
  have sc := sc_check_same_table
  refine F.ok sc (fun vs H Q E h => Pm.len (fun _ => rfl) vs H Q E h) (fun cdv A outer s H vs Q E hr h => ⟨t_check_same_table K, PSs.nox ?_, Pm.go (sx_check_same_table T) vs H Q E h⟩)
  exact (pss_one (ps_if (pt_cmpR (op_neO c_Table_eq hr (by decide)) (pe_fld (pv 0) rfl) (pe_fld (pv 1) rfl) (nomark _)) (pss_one ps_never) pss_nil))
abbrev s_check_both : Stmt := top 100
abbrev Ns_check_both : List Str := ["change", "other"]
theorem sc_check_both : FnScope Ns_check_both ["change", "other"] (defScope s_check_both) := ⟨rfl, rfl, rfl, by decide +kernel, rfl, by decide +kernel, by decide +kernel⟩
def t_check_both (K : PySem.W.Frag) : TS := (tSeq (tDrop (tCall (pm_check_change K).sp [] E0 (tCons (tVar 0) tNil)))
    (tSeq (tDrop (tCall (pm_check_change K).sp [] E0 (tCons (tVar 1) tNil)))
    (tDrop (tCall (pm_check_same_table K).sp [] E0 (tCons (tVar 0) (tCons (tVar 1) tNil))))))
theorem sx_check_both (T : Tx K mg) : (pm_check_both K).body Ns_check_both (t_check_both K) := by
  rintro ⟨X, g, h⟩ _
  dsimp only [pm_check_both]
  show SX _ [_, _] _
  refine q_drop (ex_pm (pm_check_change K) ⟨X, g⟩ (ea_cons (ex_var rfl) ea_nil) trivial) ?_
  refine q_drop (ex_pm (pm_check_change K) ⟨X, h⟩ (ea_cons (ex_var rfl) ea_nil) trivial) ?_
  exact s_drop (ex_pm (pm_check_same_table K) ⟨X, g, h⟩ (ea_cons (ex_var rfl) (ea_cons (ex_var rfl) ea_nil)) trivial) fun _ => .non
theorem ok_check_both (T : Tx K mg) (c_check_change : C8.Cal P w K mg base 1 "check_change" (pm_check_change K).sp []) (c_check_same_table : C8.Cal P w K mg base 3 "check_same_table" (pm_check_same_table K).sp []) {f : Addr} {fd : FuncData} (F : FnP K "check_both" "check_both" s_check_both f fd) : FnOk P w K mg base CX0 4 f fd ["change", "other"] (pm_check_both K).sp := by
  have sc := sc_check_both
  refine F.ok sc (fun vs H Q E h => Pm.len (fun _ => rfl) vs H Q E h) (fun cdv A outer s H vs Q E hr h => ⟨t_check_both K, PSs.nox ?_, Pm.go (sx_check_both T) vs H Q E h⟩)
  exact (pss_cons (ps_expr (C8.pe_c c_check_change hr (by decide) rfl (pa_cons (pv 0) pa_nil)))
      (pss_cons (ps_expr (C8.pe_c c_check_change hr (by decide) rfl (pa_cons (pv 1) pa_nil)))
      (pss_one (ps_expr (C8.pe_c c_check_same_table hr (by decide) rfl (pa_cons (pv 0) (pa_cons (pv 1) pa_nil)))))))
abbrev s_inverse_of : Stmt := top 81
abbrev Ns_inverse_of : List Str := ["change"]
theorem sc_inverse_of : FnScope Ns_inverse_of ["change"] (defScope s_inverse_of) := ⟨rfl, rfl, rfl, by decide +kernel, rfl, by decide +kernel, by decide +kernel⟩
def t_inverse_of (K : PySem.W.Frag) : TS := (tRet (tCall (pm_change_made K).sp [] E0 (tCons (tFld K (tVar 0) "table") (tCons (tFld K (tVar 0) "_back") (tCons (tFld K (tVar 0) "_ahead") tNil)))))
theorem sx_inverse_of (T : Tx K mg) : (pm_inverse_of K).body Ns_inverse_of (t_inverse_of K) := by
  rintro ⟨X, g⟩ _
  dsimp only [pm_inverse_of]
  show SX _ [_] _
  exact sx_ret (ex_pm (pm_change_made K) ⟨X, g⁻¹⟩ (ea_cons (ex_table T (ex_var rfl)) (ea_cons (ex__back T (ex_var rfl)) (ea_cons (ex_is (ex__ahead T (T := X) (g := g) (ex_var rfl)) (by rw [W.inv_inv])) ea_nil))) trivial)
theorem ok_inverse_of (T : Tx K mg) (c_change_made : C8.Cal P w K mg base 7 "change_made" (pm_change_made K).sp []) {f : Addr} {fd : FuncData} (F : FnP K "inverse_of" "inverse_of" s_inverse_of f fd) : FnOk P w K mg base CX0 8 f fd ["change"] (pm_inverse_of K).sp := by
  have sc := sc_inverse_of
  refine F.ok sc (fun vs H Q E h => Pm.len (fun _ => rfl) vs H Q E h) (fun cdv A outer s H vs Q E hr h => ⟨t_inverse_of K, PSs.nox ?_, Pm.go (sx_inverse_of T) vs H Q E h⟩)
  exact (pss_one (ps_ret (C8.pe_c c_change_made hr (by decide) rfl (pa_cons (pe_fld (pv 0) rfl) (pa_cons (pe_fld (pv 0) rfl) (pa_cons (pe_fld (pv 0) rfl) pa_nil))))))
abbrev s_product_of : Stmt := top 82
abbrev Ns_product_of : List Str := ["one", "other", "ahead", "back", "image"]
theorem sc_product_of : FnScope Ns_product_of ["one", "other"] (defScope s_product_of) := ⟨rfl, rfl, rfl, by decide +kernel, rfl, by decide +kernel, by decide +kernel⟩
def t_product_of (K : PySem.W.Frag) : TS := (tSeq (tAsg (tCB (rTupOf K) (tCons (tLc (iTup K (tFld K (tVar 1) "_ahead")) (gName 4) tYes (tCall (pm_led_by K).sp [] E0 (tCons (tFld K (tVar 0) "_ahead") (tCons (tVar 4) tNil))) [4]) tNil)) (gName 2))
    (tSeq (tAsg (tCB (rTupOf K) (tCons (tLc (iTup K (tFld K (tVar 0) "_back")) (gName 4) tYes (tCall (pm_led_by K).sp [] E0 (tCons (tFld K (tVar 1) "_back") (tCons (tVar 4) tNil))) [4]) tNil)) (gName 3))
    (tRet (tCall (pm_change_made K).sp [] E0 (tCons (tFld K (tVar 0) "table") (tCons (tVar 2) (tCons (tVar 3) tNil)))))))
theorem sx_product_of (T : Tx K mg) : (pm_product_of K).body Ns_product_of (t_product_of K) := by
  rintro ⟨X, g, h⟩ ⟨hg, hh⟩
  dsimp only [pm_product_of]
  show SX _ [_, _, _, _, _] _
  have sz := X.h3
  have hg : W.len g ≤ 36 := hg
  have hh : W.len h ≤ 36 := hh
  refine q_set (ex_is (ex_tupL (exl_lcB (iw_tupF (ex__ahead T (ex_var rfl))) (fun i => gx_name) fun i => (ex_pm (pm_led_by K) ⟨X.sn, W.img g, W.img h i⟩ (ea_cons (ex__ahead T (ex_var rfl)) (ea_cons (ex_var rfl) ea_nil)) (W.img_bd X.sn g hg)))) (kd_M (x := W.img (g * h)) fun i => ?_)) ?_
  · show encV (fun p => sm X.n fun t => W.img h i t * W.img g t p) = encV (W.act (g * h) (axis i))
    rw [W.act_mul, W.act_sum g]; rfl
  refine q_set (ex_is (ex_tupL (exl_lcB (iw_tupF (ex__back T (ex_var rfl))) (fun i => gx_name) fun i => (ex_pm (pm_led_by K) ⟨X.sn, W.img (h⁻¹ : W X.sys), W.img (g⁻¹ : W X.sys) i⟩ (ea_cons (ex__back T (ex_var rfl)) (ea_cons (ex_var rfl) ea_nil)) (W.img_bd X.sn (h⁻¹ : W X.sys) (W.len_inv36 (S := X.sys) hh))))) (kd_M (x := W.img (g * h)⁻¹) fun i => ?_)) ?_
  · show encV (fun p => sm X.n fun t => W.img g⁻¹ i t * W.img h⁻¹ t p) = encV (W.act (g * h)⁻¹ (axis i))
    rw [W.mul_inv_rev, W.act_mul, W.act_sum h⁻¹]; rfl
  exact sx_ret (ex_pm (pm_change_made K) ⟨X, g * h⟩ (ea_cons (ex_table T (ex_var rfl)) (ea_cons (ex_var rfl) (ea_cons (ex_var rfl) ea_nil))) trivial)
theorem ok_product_of (T : Tx K mg) (c_led_by : C8.Cal P w K mg base 2 "led_by" (pm_led_by K).sp []) (c_change_made : C8.Cal P w K mg base 7 "change_made" (pm_change_made K).sp []) {f : Addr} {fd : FuncData} (F : FnP K "product_of" "product_of" s_product_of f fd) : FnOk P w K mg base CX0 8 f fd ["one", "other"] (pm_product_of K).sp := by
  have sc := sc_product_of
  refine F.ok sc (fun vs H Q E h => Pm.len (fun _ => rfl) vs H Q E h) (fun cdv A outer s H vs Q E hr h => ⟨t_product_of K, PSs.nox ?_, Pm.go (sx_product_of T) vs H Q E h⟩)
  exact (pss_cons (ps_set (i := 2) sc.nd rfl (by first | exact Or.inl rfl | exact Or.inr rfl) (pe_callTy call_tuple_of rfl T.tuple_ (by decide +kernel) (pa_cons (pe_lc (own := [("image", 4)]) (g := (gName 4)) (tt := tYes) (te := (tCall (pm_led_by K).sp [] E0 (tCons (tFld K (tVar 0) "_ahead") (tCons (tVar 4) tNil)))) rfl sc.nd (pi_tup (pe_fld (pv 1) rfl)) (blkOk_by (own := [("image", 4)]) (N := Ns_product_of) (sc := defScope s_product_of) (by decide +kernel)) (fun _ _ _ _ _ => (pg_name (i := 4) sc.nd rfl (by first | exact Or.inl rfl | exact Or.inr rfl))) (fun _ _ _ _ _ => pts_nil) (fun _ _ _ _ _ => (C8.pe_c c_led_by hr (by decide) rfl (pa_cons (pe_fld (pv 0) rfl) (pa_cons (pv 4) pa_nil))))) pa_nil)))
      (pss_cons (ps_set (i := 3) sc.nd rfl (by first | exact Or.inl rfl | exact Or.inr rfl) (pe_callTy call_tuple_of rfl T.tuple_ (by decide +kernel) (pa_cons (pe_lc (own := [("image", 4)]) (g := (gName 4)) (tt := tYes) (te := (tCall (pm_led_by K).sp [] E0 (tCons (tFld K (tVar 1) "_back") (tCons (tVar 4) tNil)))) rfl sc.nd (pi_tup (pe_fld (pv 0) rfl)) (blkOk_by (own := [("image", 4)]) (N := Ns_product_of) (sc := defScope s_product_of) (by decide +kernel)) (fun _ _ _ _ _ => (pg_name (i := 4) sc.nd rfl (by first | exact Or.inl rfl | exact Or.inr rfl))) (fun _ _ _ _ _ => pts_nil) (fun _ _ _ _ _ => (C8.pe_c c_led_by hr (by decide) rfl (pa_cons (pe_fld (pv 1) rfl) (pa_cons (pv 4) pa_nil))))) pa_nil)))
      (pss_one (ps_ret (C8.pe_c c_change_made hr (by decide) rfl (pa_cons (pe_fld (pv 0) rfl) (pa_cons (pv 2) (pa_cons (pv 3) pa_nil))))))))
abbrev s_led_front : Stmt := top 84
abbrev Ns_led_front : List Str := ["change", "button", "pairs", "ahead"]
theorem sc_led_front : FnScope Ns_led_front ["change", "button"] (defScope s_led_front) := ⟨rfl, rfl, rfl, by decide +kernel, rfl, by decide +kernel, by decide +kernel⟩
def t_led_front (K : PySem.W.Frag) : TS := (tSeq (tAsg (tFld K (tFld K (tVar 0) "table") "pairs") (gName 2))
    (tSeq (tAsg (tCall (pm_pressed_front K).sp [] E0 (tCons (tVar 2) (tCons (tFld K (tVar 0) "_ahead") (tCons (tVar 1) tNil)))) (gName 3))
    (tRet (tCall (pm_change_made K).sp [] E0 (tCons (tFld K (tVar 0) "table") (tCons (tVar 3) (tCons (tCall (pm_pressed_behind K).sp [] E0 (tCons (tVar 2) (tCons (tFld K (tVar 0) "_back") (tCons (tVar 1) tNil)))) tNil)))))))
theorem sx_led_front (T : Tx K mg) : (pm_led_front K).body Ns_led_front (t_led_front K) := by
  rintro ⟨X, g, s⟩ _
  dsimp only [pm_led_front]
  show SX _ [_, _, _, _] _
  have sz := X.h3
  refine q_set (ex_pairs T (ex_table T (ex_var rfl))) ?_
  refine q_set (ex_is (ex_pm (pm_pressed_front K) ⟨X.sn, W.img g, s⟩ (ea_cons (ex_var rfl) (ea_cons (ex__ahead T (ex_var rfl)) (ea_cons (ex_var rfl) ea_nil))) trivial) (R' := kd K (encM (W.img (W.gen s * g)))) (by rw [W.img_front]; rfl)) ?_
  exact sx_ret (ex_pm (pm_change_made K) ⟨X, W.gen s * g⟩ (ea_cons (ex_table T (ex_var rfl)) (ea_cons (ex_var rfl) (ea_cons (ex_is (ex_pm (pm_pressed_behind K) ⟨X.sn, W.img (g⁻¹ : W X.sys), s⟩ (ea_cons (ex_var rfl) (ea_cons (ex__back T (ex_var rfl)) (ea_cons (ex_var rfl) ea_nil))) trivial) (by rw [W.mul_inv_rev, W.gen_inv, W.img_gen]; rfl)) ea_nil))) trivial)
theorem ok_led_front (T : Tx K mg) (c_pressed_front : C8.Cal P w K mg base 3 "pressed_front" (pm_pressed_front K).sp []) (c_pressed_behind : C8.Cal P w K mg base 2 "pressed_behind" (pm_pressed_behind K).sp []) (c_change_made : C8.Cal P w K mg base 7 "change_made" (pm_change_made K).sp []) {f : Addr} {fd : FuncData} (F : FnP K "led_front" "led_front" s_led_front f fd) : FnOk P w K mg base CX0 8 f fd ["change", "button"] (pm_led_front K).sp := by
  have sc := sc_led_front
  refine F.ok sc (fun vs H Q E h => Pm.len (fun _ => rfl) vs H Q E h) (fun cdv A outer s H vs Q E hr h => ⟨t_led_front K, PSs.nox ?_, Pm.go (sx_led_front T) vs H Q E h⟩)
  exact (pss_cons (ps_set (i := 2) sc.nd rfl (by first | exact Or.inl rfl | exact Or.inr rfl) (pe_fld (pe_fld (pv 0) rfl) rfl))
      (pss_cons (ps_set (i := 3) sc.nd rfl (by first | exact Or.inl rfl | exact Or.inr rfl) (C8.pe_c c_pressed_front hr (by decide) rfl (pa_cons (pv 2) (pa_cons (pe_fld (pv 0) rfl) (pa_cons (pv 1) pa_nil)))))
      (pss_one (ps_ret (C8.pe_c c_change_made hr (by decide) rfl (pa_cons (pe_fld (pv 0) rfl) (pa_cons (pv 3) (pa_cons (C8.pe_c c_pressed_behind hr (by decide) rfl (pa_cons (pv 2) (pa_cons (pe_fld (pv 0) rfl) (pa_cons (pv 1) pa_nil)))) pa_nil))))))))
abbrev s_plain : Stmt := top 87
abbrev Ns_plain : List Str := ["table"]
theorem sc_plain : FnScope Ns_plain ["table"] (defScope s_plain) := ⟨rfl, rfl, rfl, by decide +kernel, rfl, by decide +kernel, by decide +kernel⟩
def t_plain (K : PySem.W.Frag) : TS := (tSeq (tDrop (tCall (pm_check_table K).sp [] E0 (tCons (tVar 0) tNil)))
    (tRet (tMake (He.ga K "Change") (pm_Change_init K).sp [.non] E0 (tCons (tVar 0) (tCons (tTup tNil) tNil)))))
theorem sx_plain (T : Tx K mg) : (pm_plain K).body Ns_plain (t_plain K) := by
  rintro X _
  dsimp only [pm_plain]
  show SX _ [_] _
  refine q_drop (ex_pm (pm_check_table K) X (ea_cons (ex_var rfl) ea_nil) trivial) ?_
  exact sx_ret (ex_mkChange ⟨X, []⟩ (ea_cons (ex_var rfl) (ea_cons (ex_tup (ead_nil (K := K))) ea_nil)) (show ([] : List (Fin X.n)).length ≤ 60 from Nat.zero_le _))
theorem ok_plain (T : Tx K mg) (c_check_table : C8.Cal P w K mg base 1 "check_table" (pm_check_table K).sp []) (c_Change_init : C8.Mak P w K mg base 5 "Change" (He.ga K "Change") (pm_Change_init K).sp [.non]) {f : Addr} {fd : FuncData} (F : FnP K "plain" "plain" s_plain f fd) : FnOk P w K mg base CX0 7 f fd ["table"] (pm_plain K).sp := by
  have sc := sc_plain
  refine F.ok sc (fun vs H Q E h => Pm.len (fun _ => rfl) vs H Q E h) (fun cdv A outer s H vs Q E hr h => ⟨t_plain K, PSs.nox ?_, Pm.go (sx_plain T) vs H Q E h⟩)
  exact (pss_cons (ps_expr (C8.pe_c c_check_table hr (by decide) rfl (pa_cons (pv 0) pa_nil)))
      (pss_one (ps_ret (C8.pe_mk c_Change_init hr (by decide) rfl (pa_cons (pv 0) (pa_cons (pe_tup pa_nil) pa_nil))))))
abbrev s_Change_word : Stmt := inClass (top 78) 2
abbrev Ns_Change_word : List Str := ["self"]
theorem sc_Change_word : FnScope Ns_Change_word ["self"] (defScope s_Change_word) := ⟨rfl, rfl, rfl, by decide +kernel, rfl, by decide +kernel, by decide +kernel⟩
def t_Change_word (K : PySem.W.Frag) : TS := (tRet (tCall (pm_word_by K).sp [] E0 (tCons (tFld K (tFld K (tVar 0) "table") "pairs") (tCons (tFld K (tVar 0) "_back") tNil))))
theorem sx_Change_word (T : Tx K mg) : (pm_Change_word K).body Ns_Change_word (t_Change_word K) := by
  rintro ⟨X, g⟩ hg
  dsimp only [pm_Change_word]
  show SX _ [_] _
  have hg : W.len g ≤ 36 := hg
  exact sx_ret (ex_pm (pm_word_by K) ⟨X.sn, (g⁻¹ : W X.sys)⟩ (ea_cons (ex_pairs T (ex_table T (ex_var rfl))) (ea_cons (ex__back T (ex_var rfl)) ea_nil)) (W.len_inv36 (S := X.sys) hg))
theorem ok_Change_word (T : Tx K mg) (c_word_by : C8.Cal P w K mg base 4 "word_by" (pm_word_by K).sp []) {f : Addr} {fd : FuncData} (F : FnP K "word" "Change.word" s_Change_word f fd) : FnOk P w K mg base CX0 5 f fd ["self"] (pm_Change_word K).sp := by
  have sc := sc_Change_word
  refine F.ok sc (fun vs H Q E h => Pm.len (fun _ => rfl) vs H Q E h) (fun cdv A outer s H vs Q E hr h => ⟨t_Change_word K, PSs.nox ?_, Pm.go (sx_Change_word T) vs H Q E h⟩)
  exact (pss_one (ps_ret (C8.pe_c c_word_by hr (by decide) rfl (pa_cons (pe_fld (pe_fld (pv 0) rfl) rfl) (pa_cons (pe_fld (pv 0) rfl) pa_nil)))))
abbrev s_Change_length : Stmt := inClass (top 78) 3
abbrev Ns_Change_length : List Str := ["self"]
theorem sc_Change_length : FnScope Ns_Change_length ["self"] (defScope s_Change_length) := ⟨rfl, rfl, rfl, by decide +kernel, rfl, by decide +kernel, by decide +kernel⟩
def t_Change_length (K : PySem.W.Frag) : TS := (tRet (tCB (rLenSeq K) (tCons (tCall (pm_word_by K).sp [] E0 (tCons (tFld K (tFld K (tVar 0) "table") "pairs") (tCons (tFld K (tVar 0) "_back") tNil))) tNil)))
theorem sx_Change_length (T : Tx K mg) : (pm_Change_length K).body Ns_Change_length (t_Change_length K) := by
  rintro ⟨X, g⟩ hg
  dsimp only [pm_Change_length]
  show SX _ [_] _
  have hg : W.len g ≤ 36 := hg
  refine sx_ret (ex_is (ex_lenW (ex_pm (pm_word_by K) ⟨X.sn, (g⁻¹ : W X.sys)⟩ (ea_cons (ex_pairs T (ex_table T (ex_var rfl))) (ea_cons (ex__back T (ex_var rfl)) ea_nil)) (W.len_inv36 (S := X.sys) hg))) ?_)
  exact congrArg (fun k : Nat => kd K (.int (k : Int))) (W.first_len g)
theorem ok_Change_length (T : Tx K mg) (c_word_by : C8.Cal P w K mg base 4 "word_by" (pm_word_by K).sp []) {f : Addr} {fd : FuncData} (F : FnP K "length" "Change.length" s_Change_length f fd) : FnOk P w K mg base CX0 5 f fd ["self"] (pm_Change_length K).sp := by
  have sc := sc_Change_length
  refine F.ok sc (fun vs H Q E h => Pm.len (fun _ => rfl) vs H Q E h) (fun cdv A outer s H vs Q E hr h => ⟨t_Change_length K, PSs.nox ?_, Pm.go (sx_Change_length T) vs H Q E h⟩)
  exact (pss_one (ps_ret (pe_callB call_len_seq rfl T.len_ PySem.boot_len (pa_cons (C8.pe_c c_word_by hr (by decide) rfl (pa_cons (pe_fld (pe_fld (pv 0) rfl) rfl) (pa_cons (pe_fld (pv 0) rfl) pa_nil))) pa_nil))))
abbrev s_Change_fronts : Stmt := inClass (top 78) 5
abbrev Ns_Change_fronts : List Str := ["self"]
theorem sc_Change_fronts : FnScope Ns_Change_fronts ["self"] (defScope s_Change_fronts) := ⟨rfl, rfl, rfl, by decide +kernel, rfl, by decide +kernel, by decide +kernel⟩
def t_Change_fronts (K : PySem.W.Frag) : TS := (tRet (tCall (pm_down_buttons K).sp [] E0 (tCons (tFld K (tVar 0) "_back") tNil)))
theorem sx_Change_fronts (T : Tx K mg) : (pm_Change_fronts K).body Ns_Change_fronts (t_Change_fronts K) := by
  rintro ⟨X, g⟩ hg
  dsimp only [pm_Change_fronts]
  show SX _ [_] _
  have hg : W.len g ≤ 36 := hg
  exact sx_ret (ex_pm (pm_down_buttons K) ⟨X.sn, (g⁻¹ : W X.sys)⟩ (ea_cons (ex__back T (ex_var rfl)) ea_nil) (W.len_inv36 (S := X.sys) hg))
theorem ok_Change_fronts (T : Tx K mg) (c_down_buttons : C8.Cal P w K mg base 3 "down_buttons" (pm_down_buttons K).sp []) {f : Addr} {fd : FuncData} (F : FnP K "fronts" "Change.fronts" s_Change_fronts f fd) : FnOk P w K mg base CX0 4 f fd ["self"] (pm_Change_fronts K).sp := by
  have sc := sc_Change_fronts
  refine F.ok sc (fun vs H Q E h => Pm.len (fun _ => rfl) vs H Q E h) (fun cdv A outer s H vs Q E hr h => ⟨t_Change_fronts K, PSs.nox ?_, Pm.go (sx_Change_fronts T) vs H Q E h⟩)
  exact (pss_one (ps_ret (C8.pe_c c_down_buttons hr (by decide) rfl (pa_cons (pe_fld (pv 0) rfl) pa_nil))))
abbrev s_Table_eq : Stmt := inClass (top 58) 5
abbrev Ns_Table_eq : List Str := ["self", "other"]
theorem sc_Table_eq : FnScope Ns_Table_eq ["self", "other"] (defScope s_Table_eq) := ⟨rfl, rfl, rfl, by decide +kernel, rfl, by decide +kernel, by decide +kernel⟩
def t_Table_eq (K : PySem.W.Frag) : TS := (tRet (tAndV (tCB (rIsC K "Table") (tCons (tVar 1) (tCons (tC (.ref (He.ga K "Table"))) tNil))) (tOp (rEqD K) (tFld K (tVar 0) "ties") (tFld K (tVar 1) "ties"))))
theorem sx_Table_eq (T : Tx K mg) : (pm_Table_eq K).body Ns_Table_eq (t_Table_eq K) := by
  rintro X _
  dsimp only [pm_Table_eq]
  show SX _ [_, _] _
  refine sx_ret (ex_is (ex_andV (ex_isTable (ex_var rfl)) fun _ => (ex_eqD (shaped_of (encT_iD _) (by decide)) (shaped_of (encT_iD _) (by decide)) (ex_ties T (ex_var rfl)) (ex_ties T (ex_var rfl)))) ?_)
  rw [eqv_self (encT_iD X.m)]; rfl
theorem ok_Table_eq (T : Tx K mg) {f : Addr} {fd : FuncData} (F : FnP K "__eq__" "Table.__eq__" s_Table_eq f fd) : FnOk P w K mg base CX0 1 f fd ["self", "other"] (pm_Table_eq K).sp := by
  have sc := sc_Table_eq
  refine F.ok sc (fun vs H Q E h => Pm.len (fun _ => rfl) vs H Q E h) (fun cdv A outer s H vs Q E hr h => ⟨t_Table_eq K, PSs.nox ?_, Pm.go (sx_Table_eq T) vs H Q E h⟩)
  exact (pss_one (ps_ret (pe_and (pe_callB (C8.call_isC T.isTable) rfl T.isinstance_ PyProof.Rows.boot_isinstance (pa_cons (pv 1) (pa_cons (C8.pe_gc rfl T.cTable) pa_nil))) (pe_one (pe_cmpR (op_eqD hr.units) (pe_fld (pv 0) rfl) (pe_fld (pv 1) rfl) (nomark _))))))
abbrev s_Change_eq : Stmt := inClass (top 78) 9
abbrev Ns_Change_eq : List Str := ["self", "other"]
theorem sc_Change_eq : FnScope Ns_Change_eq ["self", "other"] (defScope s_Change_eq) := ⟨rfl, rfl, rfl, by decide +kernel, rfl, by decide +kernel, by decide +kernel⟩
def t_Change_eq (K : PySem.W.Frag) : TS := (tRet (tAndV (tCB (rIsC K "Change") (tCons (tVar 1) (tCons (tC (.ref (He.ga K "Change"))) tNil))) (tAndV (tOp (rOwn (He.ga K "Table") (pm_Table_eq K).sp id) (tFld K (tVar 0) "table") (tFld K (tVar 1) "table")) (tOp (rEqD K) (tFld K (tVar 0) "_ahead") (tFld K (tVar 1) "_ahead")))))
theorem sx_Change_eq (T : Tx K mg) : (pm_Change_eq K).body Ns_Change_eq (t_Change_eq K) := by
  rintro ⟨X, g, h⟩ _
  dsimp only [pm_Change_eq]
  show SX _ [_, _] _
  refine sx_ret (ex_is (ex_andV (ex_isChange (ex_var rfl)) fun _ => (ex_andV (ex_own (pm_Table_eq K) X id _ (ex_table T (ex_var rfl)) (ex_table T (ex_var rfl)) rfl rfl trivial) fun _ => (ex_eqD (shaped_of (encM_iD _) (by decide)) (shaped_of (encM_iD _) (by decide)) (ex__ahead T (ex_var rfl)) (ex__ahead T (ex_var rfl))))) ?_)
  rw [eqv_M, Bool.true_and]; rfl
theorem ok_Change_eq (T : Tx K mg) (c_Table_eq : EqO P w K mg base 1 (He.ga K "Table") (pm_Table_eq K).sp) {f : Addr} {fd : FuncData} (F : FnP K "__eq__" "Change.__eq__" s_Change_eq f fd) : FnOk P w K mg base CX0 2 f fd ["self", "other"] (pm_Change_eq K).sp := by
  have sc := sc_Change_eq
  refine F.ok sc (fun vs H Q E h => Pm.len (fun _ => rfl) vs H Q E h) (fun cdv A outer s H vs Q E hr h => ⟨t_Change_eq K, PSs.nox ?_, Pm.go (sx_Change_eq T) vs H Q E h⟩)
  exact (pss_one (ps_ret (pe_and (pe_callB (C8.call_isC T.isChange) rfl T.isinstance_ PyProof.Rows.boot_isinstance (pa_cons (pv 1) (pa_cons (C8.pe_gc rfl T.cChange) pa_nil))) (pe_and (pe_cmpR (op_eqO c_Table_eq hr (by decide)) (pe_fld (pv 0) rfl) (pe_fld (pv 1) rfl) (nomark _)) (pe_one (pe_cmpR (op_eqD hr.units) (pe_fld (pv 0) rfl) (pe_fld (pv 1) rfl) (nomark _)))))))
end
end Wk
namespace Wk
open PySem L2
namespace W
section
variable {n : Nat} {S : Sys n}
/-- a run up to a room's top -/
inductive Run (R : List (Fin n)) : W S → W S → Prop
  | stop {g : W S} (h : R.filter (fun s => !isBack g s) = []) : Run R g g
  | step {g z : W S} {s : Fin n} {r : List (Fin n)} (h : R.filter (fun s => !isBack g s) = s :: r) (k : Run R (g * gen s) z) : Run R g z
theorem Run.le {R : List (Fin n)} {g z : W S} (h : Run R g z) : len g ≤ len z := by
  induction h with
  | stop h => exact Nat.le_refl _
  | @step g z s r h k ih =>
    have : s ∈ R.filter (fun s => !isBack g s) := by rw [h]; exact List.mem_cons_self
    have b := (List.mem_filter.mp this).2
    rw [Bool.not_eq_true'] at b
    have := isBack_no.mp b
    omega
end
end W
abbrev pm_by_turns (K : PySem.W.Frag) : Pm := ⟨(n : Nat) × (Fin n × Fin n × Nat), fun i => i.2.2.2 ≤ 100, fun i => [kd K (encF i.2.1), kd K (encF i.2.2.1), kd K (.int (i.2.2.2 : Int))], fun i => kd K (encW (alt i.2.1 i.2.2.1 i.2.2.2))⟩
noncomputable abbrev pm_does_begin (K : PySem.W.Frag) : Pm := ⟨Tgh, fun i => W.len i.2.1 + W.len i.2.2 ≤ 36, fun i => [kChg K i.1 i.2.1, kChg K i.1 i.2.2], fun i => kd K (.bool (decide (((W.len i.2.1 : Nat) : Int) + ((W.len (i.2.1⁻¹ * i.2.2) : Nat) : Int) = ((W.len i.2.2 : Nat) : Int))))⟩
noncomputable abbrev pm_begins (K : PySem.W.Frag) : Pm := ⟨Tgh, fun i => W.len i.2.1 + W.len i.2.2 ≤ 36, fun i => [kChg K i.1 i.2.1, kChg K i.1 i.2.2], fun i => kd K (.bool (decide (((W.len i.2.1 : Nat) : Int) + ((W.len (i.2.1⁻¹ * i.2.2) : Nat) : Int) = ((W.len i.2.2 : Nat) : Int))))⟩
abbrev TRz := (T : Tb) × (List (Fin T.n) × W T.sys)
abbrev pm_top_images (K : PySem.W.Frag) : Pm := ⟨TRz, fun i => W.Run i.2.1 1 i.2.2 ∧ W.len i.2.2 ≤ 36 ∧ i.2.1.length ≤ 100, fun i => [kd K (encA i.1.sn), kd K (encW i.2.1)], fun i => kd K (.tuple [encM (W.img i.2.2), encM (W.img i.2.2⁻¹)])⟩
abbrev pm_top_of (K : PySem.W.Frag) : Pm := ⟨TRz, fun i => W.Run i.2.1 1 i.2.2 ∧ W.len i.2.2 ≤ 36 ∧ i.2.1.length ≤ 100, fun i => [kTab K i.1, kd K (encW i.2.1)], fun i => kChg K i.1 i.2.2⟩
theorem range_alt {n : Nat} (s t : Fin n) (k : Nat) : (List.range k).map (fun i => if i % 2 = 0 then s else t) = alt s t k := by
  induction k generalizing s t with
  | zero => rfl
  | succ k ih =>
    rw [List.range_succ_eq_map, List.map_cons, List.map_map]
    show s :: _ = s :: alt t s k
    rw [← ih t s]
    congr 1
    apply List.map_congr_left
    intro i _
    show (if (i + 1) % 2 = 0 then s else t) = if i % 2 = 0 then t else s
    by_cases h : i % 2 = 0
    · rw [if_pos h, if_neg (by omega)]
    · rw [if_neg h, if_pos (by omega)]
theorem fins_range {α : Type} (k : Nat) (f : Nat → α) : fins (fun i : Fin k => f i.val) = (List.range k).map f := (fins_eq _ f fun _ => rfl).symm
section
variable {K : PySem.W.Frag} {Γ : List Slot} {ta tb : TE}
/-- in a word -/
theorem ex_inW {n : Nat} {f : List (Fin n)} {o : Fin n} (ha : EX ta Γ (kd K (encF o))) (hb : EX tb Γ (kd K (encW f))) : EX (tOp (rIn K false) ta tb) Γ (kd K (.bool (decide (o ∈ f)))) := by
  rw [← mem_vals]
  exact ex_inT ha (by rw [← encF_map]; exact hb)
theorem ex_notInW {n : Nat} {f : List (Fin n)} {o : Fin n} (ha : EX ta Γ (kd K (encF o))) (hb : EX tb Γ (kd K (encW f))) : EX (tOp (rIn K true) ta tb) Γ (kd K (.bool (!decide (o ∈ f)))) := by
  rw [← mem_vals]
  exact ex_notInT ha (by rw [← encF_map]; exact hb)
end
/-- a word cut by a test, as its turns give it -/
theorem fins_filter {n : Nat} (w : List (Fin n)) (p : Fin n → Bool) : ((List.finRange w.length).filter fun i => p w[i]).map (fun i => encF w[i]) = (w.filter p).map encF := by
  have e : (List.finRange w.length).map (fun i => w[i]) = w := by
    apply List.ext_getElem?
    intro i
    by_cases q : i < w.length
    · rw [List.getElem?_map, List.getElem?_eq_getElem (by rw [List.length_finRange]; exact q), List.getElem_finRange, List.getElem?_eq_getElem q]; rfl
    · rw [List.getElem?_eq_none (by rw [List.length_map, List.length_finRange]; omega), List.getElem?_eq_none (by omega)]
  have e2 : (w.filter p) = ((List.finRange w.length).filter fun i => p w[i]).map (fun i => w[i]) := by
    have := List.filter_map (f := fun i : Fin w.length => w[i]) (p := p) (l := List.finRange w.length)
    rw [e] at this
    exact this
  rw [e2, List.map_map]; rfl
theorem mem_backs {n : Nat} {S : Sys n} (g : W S) (s : Fin n) : decide (s ∈ W.backs g) = W.isBack g s := by
  rw [Bool.eq_iff_iff, decide_eq_true_iff, W.backs_mem]
end Wk
namespace Wk
open PySem L2
section
variable {P : Program} {w : World} {K : PySem.W.Frag} {mg : Str → Option Value} {base : Heap}
abbrev s_by_turns : Stmt := top 98
abbrev Ns_by_turns : List Str := ["one", "other", "many", "place"]
theorem sc_by_turns : FnScope Ns_by_turns ["one", "other", "many"] (defScope s_by_turns) := ⟨rfl, rfl, rfl, by decide +kernel, rfl, by decide +kernel, by decide +kernel⟩
def t_by_turns (K : PySem.W.Frag) : TS := (tRet (tCB (rTupOf K) (tCons (tLc (iRng1 (tCons (tVar 2) tNil)) (gName 3) tYes (tIf (tTest (tOp rEq (tOp (rI (fun _ j => 0 < j) fun i j => .int (i % j)) (tVar 3) (tC (.int 2))) (tC (.int 0)))) (tVar 0) (tVar 1)) [3]) tNil)))
theorem sx_by_turns (T : Tx K mg) : (pm_by_turns K).body Ns_by_turns (t_by_turns K) := by
  rintro ⟨n, s, t, k⟩ hk
  dsimp only [pm_by_turns]
  show SX _ [_, _, _, _] _
  have hk : k ≤ 100 := hk
  refine sx_ret (ex_is (ex_tupL (exl_lcB (f := fun i : Fin k => encF (if i.val % 2 = 0 then s else t)) (iw_rangeF (ea_cons (ex_var rfl) ea_nil)) (fun i => gx_name) fun i => ex_if (et_test (ex_eqI (ex_mod (ex_var rfl) (ex_int (K := K)) (by decide)) (ex_int (K := K)))) (fun e => ex_is (ex_var rfl) ?_) fun e => ex_is (ex_var rfl) ?_)) ?_)
  · have : ((i.val : Int) % 2 = 0) := of_decide_eq_true e
    rw [if_pos (by omega)]
  · have : ¬ ((i.val : Int) % 2 = 0) := of_decide_eq_false e
    rw [if_neg (by omega)]
  · rw [fins_range k fun i => encF (if i % 2 = 0 then s else t)]
    unfold encW
    rw [← range_alt s t k, List.map_map]; rfl
theorem ok_by_turns (T : Tx K mg) {f : Addr} {fd : FuncData} (F : FnP K "by_turns" "by_turns" s_by_turns f fd) : FnOk P w K mg base CX0 1 f fd ["one", "other", "many"] (pm_by_turns K).sp := by
  have sc := sc_by_turns
  refine F.ok sc (fun vs H Q E h => Pm.len (fun _ => rfl) vs H Q E h) (fun cdv A outer s H vs Q E hr h => ⟨t_by_turns K, PSs.nox ?_, Pm.go (sx_by_turns T) vs H Q E h⟩)
  exact (pss_one (ps_ret (pe_callTy call_tuple_of rfl T.tuple_ (by decide +kernel) (pa_cons (pe_lc (own := [("place", 3)]) (g := (gName 3)) (tt := tYes) (te := (tIf (tTest (tOp rEq (tOp (rI (fun _ j => 0 < j) fun i j => .int (i % j)) (tVar 3) (tC (.int 2))) (tC (.int 0)))) (tVar 0) (tVar 1))) rfl sc.nd (pi_range1 rfl T.range_ (pa_cons (pv 2) pa_nil)) (blkOk_by (own := [("place", 3)]) (N := Ns_by_turns) (sc := defScope s_by_turns) (by decide +kernel)) (fun _ _ _ _ _ => (pg_name (i := 3) sc.nd rfl (by first | exact Or.inl rfl | exact Or.inr rfl))) (fun _ _ _ _ _ => pts_nil) (fun _ _ _ _ _ => (pe_ifExp (pt_cmpR op_eq (pe_op op_mod (pv 3) pe_int) pe_int (nomark _)) (pv 0) (pv 1)))) pa_nil))))
abbrev s_does_begin : Stmt := top 102
abbrev Ns_does_begin : List Str := ["change", "other"]
theorem sc_does_begin : FnScope Ns_does_begin ["change", "other"] (defScope s_does_begin) := ⟨rfl, rfl, rfl, by decide +kernel, rfl, by decide +kernel, by decide +kernel⟩
def t_does_begin (K : PySem.W.Frag) : TS := (tRet (tOp rEq (tOp (rI0 fun i j => .int (i + j)) (tProp (He.ga K "Change") (pm_Change_length K).sp [] E0 (tVar 0)) (tProp (He.ga K "Change") (pm_Change_length K).sp [] E0 (tCall (pm_product_of K).sp [] E0 (tCons (tCall (pm_inverse_of K).sp [] E0 (tCons (tVar 0) tNil)) (tCons (tVar 1) tNil))))) (tProp (He.ga K "Change") (pm_Change_length K).sp [] E0 (tVar 1))))
theorem sx_does_begin (T : Tx K mg) : (pm_does_begin K).body Ns_does_begin (t_does_begin K) := by
  rintro ⟨X, g, h⟩ hl
  dsimp only [pm_does_begin]
  show SX _ [_, _] _
  have hl : W.len g + W.len h ≤ 36 := hl
  exact sx_ret (ex_eqI (ex_add (ex_prop (pm_Change_length K) ⟨X, g⟩ (ex_var rfl) rfl (show W.len g ≤ 36 by omega)) (ex_prop (pm_Change_length K) ⟨X, g⁻¹ * h⟩ (ex_pm (pm_product_of K) ⟨X, g⁻¹, h⟩ (ea_cons (ex_pm (pm_inverse_of K) ⟨X, g⟩ (ea_cons (ex_var rfl) ea_nil) trivial) (ea_cons (ex_var rfl) ea_nil)) ⟨by rw [W.len_inv]; omega, (by omega : W.len h ≤ 36)⟩) rfl (show W.len (g⁻¹ * h) ≤ 36 by have := W.len_mul g⁻¹ h; rw [W.len_inv] at this; omega))) (ex_prop (pm_Change_length K) ⟨X, h⟩ (ex_var rfl) rfl (show W.len h ≤ 36 by omega)))
theorem ok_does_begin (T : Tx K mg) (c_Change_length : Prp P w K mg base 5 (He.ga K "Change") "length" (pm_Change_length K).sp) (c_inverse_of : C8.Cal P w K mg base 8 "inverse_of" (pm_inverse_of K).sp []) (c_product_of : C8.Cal P w K mg base 8 "product_of" (pm_product_of K).sp []) {f : Addr} {fd : FuncData} (F : FnP K "does_begin" "does_begin" s_does_begin f fd) : FnOk P w K mg base CX0 9 f fd ["change", "other"] (pm_does_begin K).sp := by
  have sc := sc_does_begin
  refine F.ok sc (fun vs H Q E h => Pm.len (fun _ => rfl) vs H Q E h) (fun cdv A outer s H vs Q E hr h => ⟨t_does_begin K, PSs.nox ?_, Pm.go (sx_does_begin T) vs H Q E h⟩)
  exact (pss_one (ps_ret (pe_cmpR op_eq (pe_op op_add (pe_pr c_Change_length hr (by decide) (pv 0)) (pe_pr c_Change_length hr (by decide) (C8.pe_c c_product_of hr (by decide) rfl (pa_cons (C8.pe_c c_inverse_of hr (by decide) rfl (pa_cons (pv 0) pa_nil)) (pa_cons (pv 1) pa_nil))))) (pe_pr c_Change_length hr (by decide) (pv 1)) (nomark _))))
abbrev s_begins : Stmt := top 101
abbrev Ns_begins : List Str := ["change", "other"]
theorem sc_begins : FnScope Ns_begins ["change", "other"] (defScope s_begins) := ⟨rfl, rfl, rfl, by decide +kernel, rfl, by decide +kernel, by decide +kernel⟩
def t_begins (K : PySem.W.Frag) : TS := (tSeq (tDrop (tCall (pm_check_both K).sp [] E0 (tCons (tVar 0) (tCons (tVar 1) tNil))))
    (tRet (tCall (pm_does_begin K).sp [] E0 (tCons (tVar 0) (tCons (tVar 1) tNil)))))
theorem sx_begins (T : Tx K mg) : (pm_begins K).body Ns_begins (t_begins K) := by
  rintro ⟨X, g, h⟩ hl
  dsimp only [pm_begins]
  show SX _ [_, _] _
  refine q_drop (ex_pm (pm_check_both K) ⟨X, g, h⟩ (ea_cons (ex_var rfl) (ea_cons (ex_var rfl) ea_nil)) trivial) ?_
  exact sx_ret (ex_pm (pm_does_begin K) ⟨X, g, h⟩ (ea_cons (ex_var rfl) (ea_cons (ex_var rfl) ea_nil)) hl)
theorem ok_begins (T : Tx K mg) (c_check_both : C8.Cal P w K mg base 4 "check_both" (pm_check_both K).sp []) (c_does_begin : C8.Cal P w K mg base 9 "does_begin" (pm_does_begin K).sp []) {f : Addr} {fd : FuncData} (F : FnP K "begins" "begins" s_begins f fd) : FnOk P w K mg base CX0 10 f fd ["change", "other"] (pm_begins K).sp := by
  have sc := sc_begins
  refine F.ok sc (fun vs H Q E h => Pm.len (fun _ => rfl) vs H Q E h) (fun cdv A outer s H vs Q E hr h => ⟨t_begins K, PSs.nox ?_, Pm.go (sx_begins T) vs H Q E h⟩)
  exact (pss_cons (ps_expr (C8.pe_c c_check_both hr (by decide) rfl (pa_cons (pv 0) (pa_cons (pv 1) pa_nil))))
      (pss_one (ps_ret (C8.pe_c c_does_begin hr (by decide) rfl (pa_cons (pv 0) (pa_cons (pv 1) pa_nil))))))
abbrev s_top_images : Stmt := top 93
abbrev Ns_top_images : List Str := ["pairs", "room", "ahead", "back", "left", "down", "button"]
theorem sc_top_images : FnScope Ns_top_images ["pairs", "room"] (defScope s_top_images) := ⟨rfl, rfl, rfl, by decide +kernel, rfl, by decide +kernel, by decide +kernel⟩
def t_top_images (K : PySem.W.Frag) : TS := (tSeq (tAsg (tCall (pm_all_axes K).sp [] E0 (tCons (tCB (rLenSeq K) (tCons (tVar 0) tNil)) tNil)) (gName 2))
    (tSeq (tAsg (tVar 2) (gName 3))
    (tSeq (tAsg (tVar 1) (gName 4))
    (tSeq (tWhile (tTest (tOp (rNeD K) (tVar 4) (tTup tNil))) (tSeq (tAsg (tCall (pm_pressed_behind K).sp [] E0 (tCons (tVar 0) (tCons (tVar 2) (tCons (tOp (rIxT K) (tVar 4) (tC (.int 0))) tNil)))) (gName 2))
    (tSeq (tAsg (tCall (pm_pressed_front K).sp [] E0 (tCons (tVar 0) (tCons (tVar 3) (tCons (tOp (rIxT K) (tVar 4) (tC (.int 0))) tNil)))) (gName 3))
    (tSeq (tAsg (tCall (pm_down_buttons K).sp [] E0 (tCons (tVar 2) tNil)) (gName 5))
    (tAsg (tCB (rTupOf K) (tCons (tLc (iTup K (tVar 1)) (gName 6) (tTest (tOp (rIn K true) (tVar 6) (tVar 5))) (tVar 6) [6]) tNil)) (gName 4))))))
    (tRet (tTup (tCons (tVar 2) (tCons (tVar 3) tNil))))))))
theorem sx_top_images (T : Tx K mg) : (pm_top_images K).body Ns_top_images (t_top_images K) := by
  rintro ⟨X, R, z⟩ ⟨hz, hl, hR⟩
  dsimp only [pm_top_images]
  show SX _ [_, _, _, _, _, _, _] _
  have sz := X.h3
  have hz : W.Run R 1 z := hz
  have hl : W.len z ≤ 36 := hl
  have hR : R.length ≤ 100 := hR
  refine q_set (ex_pm (pm_all_axes K) X.n (ea_cons (ex_lenF (ex_var rfl)) ea_nil) X.h3) ?_
  refine q_set (ex_var rfl) ?_
  refine q_set (ex_var rfl) ?_
  have h1 : W.len (1 : W X.sys) = 0 := W.len_one
  have left0 : R.filter (fun s => !W.isBack (1 : W X.sys) s) = R := List.filter_eq_self.mpr fun s _ => by
    rw [Bool.not_eq_true', W.isBack_no, W.one_mul, h1, W.len_gen]
  refine q_while (fun m Γ => ∃ (g : W X.sys) (a : Slot), W.len z - W.len g = m ∧ W.Run R g z ∧ Γ = [.kn (kd K (encA X.sn)), .kn (kd K (encW R)), .kn (kd K (encM (W.img g))), .kn (kd K (encM (W.img g⁻¹))), .kn (kd K (encW (R.filter fun s => !W.isBack g s))), a, .un]) (W.len z) ⟨1, .un, by rw [h1]; rfl, hz, by rw [left0]; rfl⟩ ?_
  rintro m Γ ⟨g, a, hm, hrun, rfl⟩
  refine ⟨_, et_test (ex_neD (shaped_of (encW_iD _) (by decide)) (shaped_of (k := 1) rfl (by decide)) (ex_var rfl) (ex_tup (ead_nil (K := K)))), fun e => ?_, fun e => ?_⟩
  · rw [encW, eqv_nil] at e
    cases hrun with
    | stop h => rw [h] at e; cases e
    | @step _ _ s r h k =>
      have lz := k.le
      have bk : W.isBack g s = false := by
        have : s ∈ R.filter (fun s => !W.isBack g s) := by rw [h]; exact List.mem_cons_self
        have b := (List.mem_filter.mp this).2
        rwa [Bool.not_eq_true'] at b
      have lb := W.isBack_no.mp bk
      have lg : W.len (g * W.gen s) ≤ 36 := by omega
      rw [h]
      refine q_set (ex_is (R' := kd K (encM (W.img (g * W.gen s)))) (ex_pm (pm_pressed_behind K) ⟨X.sn, W.img g, s⟩ (ea_cons (ex_var rfl) (ea_cons (ex_var rfl) (ea_cons (ex_ixT0 (d := encF s) (ds := r.map encF) (ex_var rfl)) ea_nil))) trivial) (by rw [W.img_gen]; rfl)) ?_
      refine q_set (ex_is (R' := kd K (encM (W.img (g * W.gen s)⁻¹))) (ex_pm (pm_pressed_front K) ⟨X.sn, W.img (g⁻¹ : W X.sys), s⟩ (ea_cons (ex_var rfl) (ea_cons (ex_var rfl) (ea_cons (ex_ixT0 (d := encF s) (ds := r.map encF) (ex_var rfl)) ea_nil))) trivial) (by rw [W.mul_inv_rev, W.gen_inv, W.img_front]; rfl)) ?_
      refine q_set (R := kd K (encW (W.backs (g * W.gen s)))) (ex_pm (pm_down_buttons K) ⟨X.sn, (g * W.gen s : W X.sys)⟩ (ea_cons (ex_var rfl) ea_nil) lg) ?_
      refine s_set (ex_is (R' := kd K (encW (R.filter fun s' => !W.isBack (g * W.gen s) s'))) (ex_tupL (exl_lcT (p := fun i : Fin R.length => !W.isBack (g * W.gen s) R[i]) (iw_wordF (ex_var rfl)) (fun i => gx_name) (fun i => et_is (et_test (ex_notInW (ex_var rfl) (ex_var rfl))) (congrArg (fun b => !b) (mem_backs (S := X.sys) _ _))) fun i hp => (ex_var rfl))) ?_) ?_
      · exact congrArg (fun l => kd K (.tuple l)) (fins_filter R fun s' => !W.isBack (g * W.gen s) s')
      · exact ⟨_, by omega, g * W.gen s, _, rfl, k, rfl⟩
  · rw [encW, eqv_nil] at e
    cases hrun with
    | stop h => exact sx_ret (ex_tup (ead_cons (ex_var rfl) (ead_cons (ex_var rfl) ead_nil)))
    | step h k => rw [h] at e; cases e
theorem ok_top_images (T : Tx K mg) (c_all_axes : C8.Cal P w K mg base 2 "all_axes" (pm_all_axes K).sp []) (c_pressed_behind : C8.Cal P w K mg base 2 "pressed_behind" (pm_pressed_behind K).sp []) (c_pressed_front : C8.Cal P w K mg base 3 "pressed_front" (pm_pressed_front K).sp []) (c_down_buttons : C8.Cal P w K mg base 3 "down_buttons" (pm_down_buttons K).sp []) {f : Addr} {fd : FuncData} (F : FnP K "top_images" "top_images" s_top_images f fd) : FnOk P w K mg base CX0 4 f fd ["pairs", "room"] (pm_top_images K).sp := by
  have sc := sc_top_images
  refine F.ok sc (fun vs H Q E h => Pm.len (fun _ => rfl) vs H Q E h) (fun cdv A outer s H vs Q E hr h => ⟨t_top_images K, PSs.nox ?_, Pm.go (sx_top_images T) vs H Q E h⟩)
  exact (pss_cons (ps_set (i := 2) sc.nd rfl (by first | exact Or.inl rfl | exact Or.inr rfl) (C8.pe_c c_all_axes hr (by decide) rfl (pa_cons (pe_callB call_len_seq rfl T.len_ PySem.boot_len (pa_cons (pv 0) pa_nil)) pa_nil)))
      (pss_cons (ps_set (i := 3) sc.nd rfl (by first | exact Or.inl rfl | exact Or.inr rfl) (pv 2))
      (pss_cons (ps_set (i := 4) sc.nd rfl (by first | exact Or.inl rfl | exact Or.inr rfl) (pv 1))
      (pss_cons (ps_while PassesOwn.never (pt_cmpR (op_neD hr.units) (pv 4) (pe_tup pa_nil) (nomark _)) (pss_cons (ps_set (i := 2) sc.nd rfl (by first | exact Or.inl rfl | exact Or.inr rfl) (C8.pe_c c_pressed_behind hr (by decide) rfl (pa_cons (pv 0) (pa_cons (pv 2) (pa_cons (pe_ix ix_tup (pv 4) pe_int (fun _ _ => rfl)) pa_nil)))))
      (pss_cons (ps_set (i := 3) sc.nd rfl (by first | exact Or.inl rfl | exact Or.inr rfl) (C8.pe_c c_pressed_front hr (by decide) rfl (pa_cons (pv 0) (pa_cons (pv 3) (pa_cons (pe_ix ix_tup (pv 4) pe_int (fun _ _ => rfl)) pa_nil)))))
      (pss_cons (ps_set (i := 5) sc.nd rfl (by first | exact Or.inl rfl | exact Or.inr rfl) (C8.pe_c c_down_buttons hr (by decide) rfl (pa_cons (pv 2) pa_nil)))
      (pss_one (ps_set (i := 4) sc.nd rfl (by first | exact Or.inl rfl | exact Or.inr rfl) (pe_callTy call_tuple_of rfl T.tuple_ (by decide +kernel) (pa_cons (pe_lc (own := [("button", 6)]) (g := (gName 6)) (tt := (tTest (tOp (rIn K true) (tVar 6) (tVar 5)))) (te := (tVar 6)) rfl sc.nd (pi_tup (pv 1)) (blkOk_by (own := [("button", 6)]) (N := Ns_top_images) (sc := defScope s_top_images) (by decide +kernel)) (fun _ _ _ _ _ => (pg_name (i := 6) sc.nd rfl (by first | exact Or.inl rfl | exact Or.inr rfl))) (fun _ _ _ _ _ => (pts_one (pt_cmpR op_notIn_seq (pv 6) (pv 5) (by with_unfolding_all rfl)))) (fun _ _ _ _ _ => (pv 6))) pa_nil))))))))
      (pss_one (ps_ret (pe_tup (pa_cons (pv 2) (pa_cons (pv 3) pa_nil)))))))))
abbrev s_top_of : Stmt := top 94
abbrev Ns_top_of : List Str := ["table", "room", "ahead", "back"]
theorem sc_top_of : FnScope Ns_top_of ["table", "room"] (defScope s_top_of) := ⟨rfl, rfl, rfl, by decide +kernel, rfl, by decide +kernel, by decide +kernel⟩
def t_top_of (K : PySem.W.Frag) : TS := (tSeq (tAsg (tCall (pm_top_images K).sp [] E0 (tCons (tFld K (tVar 0) "pairs") (tCons (tVar 1) tNil))) (gTup K 2 (gCons (gName 2) (gCons (gName 3) gNil))))
    (tRet (tCall (pm_change_made K).sp [] E0 (tCons (tVar 0) (tCons (tVar 2) (tCons (tVar 3) tNil))))))
theorem sx_top_of (T : Tx K mg) : (pm_top_of K).body Ns_top_of (t_top_of K) := by
  rintro ⟨X, R, z⟩ ⟨hz, hl, hR⟩
  dsimp only [pm_top_of]
  show SX _ [_, _, _, _] _
  refine q_asg (ex_pm (pm_top_images K) ⟨X, R, z⟩ (ea_cons (ex_pairs T (ex_var rfl)) (ea_cons (ex_var rfl) ea_nil)) ⟨hz, hl, hR⟩) (gx_tup (gxs_cons gx_name (gxs_cons gx_name gxs_nil))) ?_
  exact sx_ret (ex_pm (pm_change_made K) ⟨X, z⟩ (ea_cons (ex_var rfl) (ea_cons (ex_var rfl) (ea_cons (ex_var rfl) ea_nil))) trivial)
theorem ok_top_of (T : Tx K mg) (c_top_images : C8.Cal P w K mg base 4 "top_images" (pm_top_images K).sp []) (c_change_made : C8.Cal P w K mg base 7 "change_made" (pm_change_made K).sp []) {f : Addr} {fd : FuncData} (F : FnP K "top_of" "top_of" s_top_of f fd) : FnOk P w K mg base CX0 8 f fd ["table", "room"] (pm_top_of K).sp := by
  have sc := sc_top_of
  refine F.ok sc (fun vs H Q E h => Pm.len (fun _ => rfl) vs H Q E h) (fun cdv A outer s H vs Q E hr h => ⟨t_top_of K, PSs.nox ?_, Pm.go (sx_top_of T) vs H Q E h⟩)
  exact (pss_cons (ps_asg (C8.pe_c c_top_images hr (by decide) rfl (pa_cons (pe_fld (pv 0) rfl) (pa_cons (pv 1) pa_nil))) (pg_tup rfl (pgs_cons (pg_name (i := 2) sc.nd rfl (by first | exact Or.inl rfl | exact Or.inr rfl)) (pgs_cons (pg_name (i := 3) sc.nd rfl (by first | exact Or.inl rfl | exact Or.inr rfl)) pgs_nil))))
      (pss_one (ps_ret (C8.pe_c c_change_made hr (by decide) rfl (pa_cons (pv 0) (pa_cons (pv 2) (pa_cons (pv 3) pa_nil)))))))
end
end Wk
namespace Wk
open PySem L2
/-! ### tuples of anything known -/
def kT (K : PySem.W.Frag) (Rs : List Kn) : Kn := ⟨fun N v => ∃ a vs, v = .ref a ∧ SqT K N a vs ∧ All2 N Rs vs, fun N N' v e ⟨a, vs, h1, h2, h3⟩ => ⟨a, vs, h1, ex_t e h2, All2.mono (Rs := Rs) e h3⟩⟩
def GXa (g : TGs) (Rs : List Kn) (Γ Γ' : List Slot) (js : List Nat) : Prop := ∀ F B σ N H vs (Q : St → Hp → Prop), Stt F B Γ σ N H → All2 N Rs vs → (∀ σ', Stt F B Γ' σ' N H → (∀ vs : List Nat, (∀ j ∈ js, j ∈ vs) → wipe σ' vs = wipe σ vs) → Q σ' H) → g vs σ H Q
section
variable {K : PySem.W.Frag} {Γ Γ' Γ'' : List Slot} {R : Kn} {g : TG} {gs : TGs} {js ks : List Nat} {targ : TA} {te : TE}
theorem ex_tupG {Rs : List Kn} (h : EA targ Γ Rs) (hl : Rs.length ≤ 1000 := by exact Nat.le_of_ble_eq_true rfl) : EX (tTup targ) Γ (kT K Rs) := fun F B σ N H Q S k =>
  h F B σ N H _ S fun vs N1 H1 S1 e1 r1 => ⟨small (by rw [r1.len]; exact hl), fun p hp => k _ _ _ (S1.new hp) (e1.trans (Ex.new (S1.sub.none hp))) ⟨p, vs, rfl, SqT.of upd_same, r1.mono (Ex.new (S1.sub.none hp))⟩⟩
theorem gxa_nil : GXa gNil [] Γ Γ [] := fun F B σ N H vs Q S r k => by
  cases vs with
  | nil => exact ⟨rfl, k σ S fun _ _ => rfl⟩
  | cons v vs => exact r.elim
theorem gxa_cons {Rs : List Kn} (h : GX g R Γ Γ' js) (hs : GXa gs Rs Γ' Γ'' ks) : GXa (gCons g gs) (R :: Rs) Γ Γ'' (js ++ ks) := fun F B σ N H vs Q S r k => by
  cases vs with
  | nil => exact r.elim
  | cons v vs =>
    refine ⟨_, _, rfl, h F B σ N H _ _ S r.1 fun σ1 S1 w1 => hs F B σ1 N H _ Q S1 r.2 fun σ2 S2 w2 => k σ2 S2 fun vs hv => ?_⟩
    rw [w2 vs fun j hj => hv j (List.mem_append_right _ hj), w1 vs fun j hj => hv j (List.mem_append_left _ hj)]
theorem gx_tupG {n : Nat} {Rs : List Kn} (h : GXa gs Rs Γ Γ' js) (hn : Rs.length = n := by rfl) : GX (gTup K n gs) (kT K Rs) Γ Γ' js := fun F B σ N H v Q S r k => by
  obtain ⟨a, vs, ev, hs, ha⟩ := r
  subst ev
  exact ⟨_, _, rfl, ex_t S.sub hs, by rw [ha.len]; exact hn, h F B σ N H _ Q S ha k⟩
end
/-- a change or None -/
def kOpt (K : PySem.W.Frag) (T : Tb) : Option (W T.sys) → Kn
  | none => kd K .none
  | some z => kChg K T z
/-! ### the dict of what was found: nested keys -/
mutual
def nk : PyData → NestedKey
  | .int i => .num i
  | .tuple ds => .tup (nks ds)
  | _ => .none
def nks : List PyData → List NestedKey
  | [] => []
  | d :: ds => nk d :: nks ds
end
mutual
/-- ints in tuples -/
def iT : Nat → PyData → Bool
  | _, .int _ => true
  | k + 1, .tuple ds => iTs k ds
  | _, _ => false
def iTs : Nat → List PyData → Bool
  | _, [] => true
  | k, d :: ds => iT k d && iTs k ds
end
section
variable {X : Cx} {pins : List (Addr × Obj)} {σ : St} {H : Hp} {s : Shared}
mutual
theorem nested_of (I : Inv X pins σ H s) : ∀ (k : Nat) (d : PyData) (v : V) (u : Value), Dp X.K H v d → RelV v u → iT k d = true → NestedIs s.heap (nk d) u
  | k, .int i, _, u, h, r, _ => by
    cases h
    obtain ⟨t, e⟩ := r
    subst e
    simp only [nk]
    exact .int i t
  | k + 1, .tuple ds, _, u, h, r, t => by
    cases h with
    | tup hs ha =>
      cases r
      obtain ⟨its, rv, p, _⟩ := I.tuple hs
      obtain ⟨o, ho, hc, n, hd⟩ := p
      simp only [nk]
      exact .tup ho hc hd (nesteds_of I k ds _ its ha rv (by simpa [iT] using t))
  | 0, .tuple ds, _, _, _, _, t => by simp [iT] at t
  | k, .none, _, _, _, _, t => by cases k <;> simp [iT] at t
  | k, .bool _, _, _, _, _, t => by cases k <;> simp [iT] at t
  | k, .str _, _, _, _, _, t => by cases k <;> simp [iT] at t
  | k, .list _, _, _, _, _, t => by cases k <;> simp [iT] at t
  | k, .dict _, _, _, _, _, t => by cases k <;> simp [iT] at t
theorem nesteds_of (I : Inv X pins σ H s) : ∀ (k : Nat) (ds : List PyData) (vs : List V) (us : List Value), DpAll X.K H vs ds → Vals vs us → iTs k ds = true → NestedAll s.heap (nks ds) us
  | k, [], _, _, h, r, _ => by
    cases h; cases r
    simp only [nks]
    exact .nil
  | k, d :: ds, _, _, h, r, t => by
    cases h with
    | cons h1 h2 =>
      cases r with
      | cons r1 r2 =>
        simp only [iTs, Bool.and_eq_true] at t
        simp only [nks]
        exact .cons (nested_of I k d _ _ h1 r1 t.1) (nesteds_of I k ds _ _ h2 r2 t.2)
end
end
mutual
theorem nk_inj : ∀ (k : Nat) (d e : PyData), iT k d = true → iT k e = true → nk d = nk e → d = e
  | k, .int i, .int j, _, _, h => by simp only [nk] at h; cases h; rfl
  | k, .int i, .tuple _, _, _, h => by simp only [nk] at h; cases h
  | k, .tuple _, .int j, _, _, h => by simp only [nk] at h; cases h
  | k + 1, .tuple ds, .tuple es, h1, h2, h => by
    simp only [nk] at h
    injection h with h
    rw [nks_inj k ds es (by simpa [iT] using h1) (by simpa [iT] using h2) h]
  | 0, .tuple ds, _, t, _, _ => by simp [iT] at t
  | k, .none, _, t, _, _ => by cases k <;> simp [iT] at t
  | k, .bool _, _, t, _, _ => by cases k <;> simp [iT] at t
  | k, .str _, _, t, _, _ => by cases k <;> simp [iT] at t
  | k, .list _, _, t, _, _ => by cases k <;> simp [iT] at t
  | k, .dict _, _, t, _, _ => by cases k <;> simp [iT] at t
  | k, _, .none, _, t, _ => by cases k <;> simp [iT] at t
  | k, _, .bool _, _, t, _ => by cases k <;> simp [iT] at t
  | k, _, .str _, _, t, _ => by cases k <;> simp [iT] at t
  | k, _, .list _, _, t, _ => by cases k <;> simp [iT] at t
  | k, _, .dict _, _, t, _ => by cases k <;> simp [iT] at t
theorem nks_inj : ∀ (k : Nat) (ds es : List PyData), iTs k ds = true → iTs k es = true → nks ds = nks es → ds = es
  | k, [], [], _, _, _ => rfl
  | k, [], e :: es, _, _, h => by simp only [nks] at h; cases h
  | k, d :: ds, [], _, _, h => by simp only [nks] at h; cases h
  | k, d :: ds, e :: es, h1, h2, h => by
    simp only [iTs, Bool.and_eq_true] at h1 h2
    simp only [nks] at h
    injection h with a b
    rw [nk_inj k d e h1.1 h2.1 a, nks_inj k ds es h1.2 h2.2 b]
end
end Wk
namespace Wk
open PySem L2
abbrev Ents := List (NestedKey × Addr × Value)
/-- the dict at d with these entries -/
def KDat (w : World) (d : Addr) (xs : Ents) : HO := .ext fun h => (d == sysModules) = false ∧ ∃ o es ep, h.get? d = some o ∧ o.ExactDict ∧ o.data = .dict es ep ∧ es.toList = xs.map fun x => (⟨x.1.hash w, .ref x.2.1, x.2.2⟩ : DictEntry)
def EntOk (K : PySem.W.Frag) (H : Hp) (x : NestedKey × Addr × Value) : Prop := ∃ dk, x.1 = nk dk ∧ iT 4 dk = true ∧ Dp K H (.ref x.2.1) dk
mutual
theorem nk_depth : ∀ (k : Nat) (d : PyData), iT k d = true → (nk d).depth ≤ k + 1
  | k, .int _, _ => by simp only [nk, NestedKey.depth]; omega
  | k + 1, .tuple ds, h => by
    have := nks_depth k ds (by simpa [iT] using h)
    simp only [nk, NestedKey.depth]; omega
  | 0, .tuple ds, h => by simp [iT] at h
  | k, .none, h => by cases k <;> simp [iT] at h
  | k, .bool _, h => by cases k <;> simp [iT] at h
  | k, .str _, h => by cases k <;> simp [iT] at h
  | k, .list _, h => by cases k <;> simp [iT] at h
  | k, .dict _, h => by cases k <;> simp [iT] at h
theorem nks_depth : ∀ (k : Nat) (ds : List PyData), iTs k ds = true → NestedKey.depthAll (nks ds) ≤ k + 1
  | k, [], _ => by simp only [nks, NestedKey.depthAll]; omega
  | k, d :: ds, h => by
    simp only [iTs, Bool.and_eq_true] at h
    have h1 := nk_depth k d h.1
    have h2 := nks_depth k ds h.2
    simp only [nks, NestedKey.depthAll]; omega
end
theorem kd_same {P : Program} {w w' : World} {H : Hp} {h : Heap} {a d : Addr} {xs : Ents} (ok : HOk P w' H h) (e : H a = some (KDat w d xs)) : d = a := by
  apply Classical.byContradiction
  intro ne
  obtain ⟨f, _, st⟩ := (show ObjOk P w' H h a (KDat w d xs) from ok a _ e)
  obtain ⟨G, g1, g2⟩ := L2.restrict h fun b => decide (b ≠ d)
  have := st h G f fun o q => by rw [g1 a (decide_eq_true fun z => ne z.symm)]; exact q
  obtain ⟨_, o, es, ep, z, _⟩ := this
  rw [g2 d (decide_eq_false fun z => z rfl)] at z
  cases z
section
variable {X : Cx} {pins : List (Addr × Obj)} {σ : St} {H : Hp} {s : Shared} {a : Addr} {xs : Ents}
theorem kd_of (I : Inv X pins σ H s) (e : H a = some (KDat X.w a xs)) (he : ∀ x ∈ xs, EntOk X.K H x) (nd : (xs.map (·.1)).Nodup) : s.heap.DictOfH (nestedKind X.prog X.w) a xs ∧ (a == sysModules) = false := by
  obtain ⟨⟨z, o, es, ep, h1, h2, h3, h4⟩, _, _⟩ := (show ObjOk X.prog X.w H s.heap a (KDat X.w a xs) from I.hok a _ e)
  refine ⟨⟨o, es, ep, h1, h2, h3, h4, fun x hx => ?_, nd⟩, z⟩
  obtain ⟨dk, e1, e2, e3⟩ := he x hx
  rw [e1]
  exact ⟨nested_of I 4 dk _ _ e3 rfl e2, by have := nk_depth 4 dk e2; omega⟩
theorem key_of {b : Addr} {dk : PyData} (I : Inv X pins σ H s) (t : iT 4 dk = true) (h : Dp X.K H (.ref b) dk) : (nestedKind X.prog X.w).is s.heap (nk dk) b := ⟨nested_of I 4 dk _ _ h rfl t, by have := nk_depth 4 dk t; omega⟩
theorem kd_new {h : Heap} {P : Program} {w w' : World} {H : Hp} (hb : sysModules < h.objs.size) : ObjOk P w' H (h.push { cls := .type "dict", data := .dict #[] }) h.objs.size (KDat w h.objs.size []) := by
  have e : (h.push { cls := .type "dict", data := .dict #[] }).get? h.objs.size = some { cls := .type "dict", data := .dict #[] } := Heap.get?_push_size _ rfl
  refine ⟨⟨beq_eq_false_iff_ne.mpr (Ne.symm (Nat.ne_of_lt hb)), _, #[], 0, e, ⟨rfl, rfl, rfl⟩, rfl, rfl⟩, ⟨_, e⟩, ?_⟩
  rintro h1 h2 ⟨z, o, es, ep, q, r⟩ k
  exact ⟨z, o, es, ep, k o q, r⟩
end
def rInKD (K : PySem.W.Frag) (w : World) : R2 := fun y x H Q => ∃ b a d xs dk, y = .ref b ∧ x = .ref a ∧ H a = some (KDat w d xs) ∧ (∀ e ∈ xs, EntOk K H e) ∧ (xs.map (·.1)).Nodup ∧ iT 4 dk = true ∧ Dp K H (.ref b) dk ∧ Q (.bl (atKey xs (nk dk)).isSome) H
def rIxKD (K : PySem.W.Frag) (w : World) : R2 := fun x y H Q => ∃ b a d xs dk ka u v, y = .ref b ∧ x = .ref a ∧ H a = some (KDat w d xs) ∧ (∀ e ∈ xs, EntOk K H e) ∧ (xs.map (·.1)).Nodup ∧ iT 4 dk = true ∧ Dp K H (.ref b) dk ∧ atKey xs (nk dk) = some (ka, u) ∧ RelV v u ∧ Q v H
def sKDPut (K : PySem.W.Frag) (w : World) (td ty tv : TE) : TS := fun D σ H => tv σ H fun v H1 => td σ H1 fun x H2 => ty σ H2 fun y H3 => ∃ b a d xs dk, y = .ref b ∧ x = .ref a ∧ H3 a = some (KDat w d xs) ∧ (∀ e ∈ xs, EntOk K H3 e) ∧ (xs.map (·.1)).Nodup ∧ iT 4 dk = true ∧ Dp K H3 (.ref b) dk ∧ xs.length ≤ sizeLine ∧
  ∀ u, RelV v u → D.nx σ (upd H3 a (KDat w a (storedH xs (nk dk) b u)))
def tKDNew (w : World) : TE := fun _ H Q => ∀ p, H p = none → Q (.ref p) (upd H p (KDat w p []))
section
variable {X : Cx} {o i value : Expr} {pos pos' : Pos} {td ty tv : TE}
theorem op_inKD (hu : X.A.units + 64 < cLine) : OpR X (compareOp .In) (rInKD X.K X.w) := by
  intro pins s σ H x y v u Q I rx ry h
  obtain ⟨b, a, d, xs, dk, rfl, rfl, e, he, nd, t, hk, q⟩ := h
  cases rx
  cases ry
  have := kd_same I.hok e
  subst this
  obtain ⟨hm, hd⟩ := kd_of I e he nd
  exact wpAny_in_heap (show X.A.in1.units + 8 < cLine by show X.A.units + 1 + 8 < cLine; omega) (key_of I t hk) hd hm ⟨.bl _, H, I.tok _, rfl, q⟩
theorem ix_KD (hu : X.A.units + 64 < cLine) : IxR X (rIxKD X.K X.w) := by
  intro value slice pins s σ H x y v u Q I rx ry h hs
  obtain ⟨b, a, d, xs, dk, ka, u0, v0, rfl, rfl, e, he, nd, t, hk, ek, r0, q⟩ := h
  obtain rfl : v = Value.ref a := rx
  obtain rfl : u = Value.ref b := ry
  have := kd_same I.hok e
  subst this
  obtain ⟨hm, hd⟩ := kd_of I e he nd
  exact PyProof.Rows.tail_any hm.typeIs slot_dict_getitem.lookup (wpAny_getItem_heap (show X.A.in1.units + 8 < cLine by show X.A.units + 1 + 8 < cLine; omega) (key_of I t hk) hm ek ⟨v0, H, I.tok _, r0, q⟩) hs
theorem ps_KDput (hu : X.A.units + 64 < cLine) (ho : PE X o td) (hi : PE X i ty) (hv : PE X value tv) (hs : swapsWith value (some (.Subscript o i pos')) pos.line X.env = pure false) :
    PS X (.Assign [.Subscript o i pos'] value pos) (sKDPut X.K X.w td ty tv) := by
  refine ⟨fun pins s σ H D I h => ?_⟩
  refine wpAny_Assign_Subscript (thn (hv.run pins s σ H _ I h) fun r s1 ⟨v, H1, I1, rv, q1⟩ => thn (ho.run pins s1 σ H1 _ I1 q1) fun u s2 ⟨x, H2, I2, rx, q2⟩ => thn (hi.run pins s2 σ H2 _ I2 q2) fun iv s3 ⟨y, H3, I3, ry, b, a, d, xs, dk, ey, ex, e, he, nd, t, hk, hl, q3⟩ => ?_) hs
  subst ex ey
  obtain rfl : u = Value.ref a := rx
  obtain rfl : iv = Value.ref b := ry
  have := kd_same I3.hok e
  subst this
  obtain ⟨hm, hd⟩ := kd_of I3 e he nd
  refine wpAny_setItem_heap (show X.A.in1.units + 8 < cLine by show X.A.units + 1 + 8 < cLine; omega) (key_of I3 t hk) hm (fun h' hm' hs' => ?_) hl
  obtain ⟨o1, es, ep, z1, z2, z3, z4, _⟩ := hm'
  refine ⟨σ, _, I3.write (x := d) (e := d) (o := KDat X.w d (storedH xs (nk dk) b r)) (by rw [e]; exact True.intro) (.inl rfl) (fun c u hc z => (hs'.2 c hc).trans z) ⟨_, z1⟩ ⟨⟨hd, o1, es, ep, z1, z2, z3, z4⟩, ⟨_, z1⟩, ?_⟩, q3 r rv⟩
  rintro h1 h2 ⟨z, o, es, ep, q, r⟩ k
  exact ⟨z, o, es, ep, k o q, r⟩
theorem pe_KDnew : PE X (.Dict [] [] pos) (tKDNew X.w) := ⟨fun pins s σ H Q I h =>
  wpAny_Dict_empty ⟨.ref s.heap.objs.size, _, I.laid (a := s.heap.objs.size) (t' := s.toks) (fun _ _ q => Heap.get?_push_of_some _ q) (Nat.le_refl _) (kd_new I.big), rfl, h _ (I.hok.fresh (Nat.le_refl _))⟩⟩
end
end Wk
namespace Wk
open PySem L2
namespace W
section
variable {n : Nat} {S : Sys n}
open Classical in
/-- the least one that both begin, if it is not too long -/
noncomputable def told (u y : W S) (most : Int) : Option (W S) := if h : ∃ z, Lub u y z ∧ (len z : Int) ≤ most then some (Classical.choose h) else none
theorem told_of {u y : W S} {most : Int} {r : Option (W S)} (h : Told u y most r) : r = told u y most := by
  unfold told
  cases r with
  | none =>
    rw [dif_neg]
    rintro ⟨z, l, hz⟩
    have := h z l.one l.other
    omega
  | some z =>
    have ex : ∃ z, Lub u y z ∧ (len z : Int) ≤ most := ⟨z, h⟩
    rw [dif_pos ex]
    exact congrArg some (h.1.unique (Classical.choose_spec ex).1)
/-- a reduced word's first letter is a front button, the rest is reduced -/
theorem red_cons {a : Fin n} {w : List (Fin n)} (h : len (mk (a :: w) : W S) = (a :: w).length) : fr (mk (a :: w) : W S) a ∧ len (mk w : W S) = w.length ∧ gen a * (mk (a :: w) : W S) = mk w := by
  have e : (mk (a :: w) : W S) = gen a * mk w := mk_cons a w
  have l := len_le (S := S) w
  have e2 : gen a * (mk (a :: w) : W S) = mk w := by rw [e, ← mul_assoc, gen_gen, one_mul]
  have l2 := len_left (mk w : W S) a
  rw [← e, h] at l2
  rw [List.length_cons] at h l2
  have l3 : len (mk w : W S) = w.length := by omega
  refine ⟨?_, l3, e2⟩
  unfold fr
  rw [e2, h, l3]
theorem tot : ∀ (M : Nat), (∀ (u : W S) (s : Fin n) (most : Int), most < M → ∃ r, Told u (gen s) most r) ∧ ∀ (u : W S) (w : List (Fin n)) (most : Int), most < M → len (mk w : W S) = w.length → ∃ r, Told u (mk w) most r := by
  intro M
  induction M with
  | zero => exact ⟨fun u s most h => ⟨none, fun x _ _ => by have := Int.natCast_nonneg (len x); omega⟩, fun u w most h _ => ⟨none, fun x _ _ => by have := Int.natCast_nonneg (len x); omega⟩⟩
  | succ M ih =>
    obtain ⟨ih1, ih2⟩ := ih
    have hg : ∀ (u : W S) (s : Fin n) (most : Int), most < ((M + 1 : Nat) : Int) → ∃ r, Told u (gen s) most r := by
      intro u s most hm
      by_cases hf : fr u s
      · exact ⟨_, told_front hf most⟩
      · by_cases hl : most ≤ (len u : Int)
        · exact ⟨_, told_long hf hl⟩
        · by_cases h0 : len u = 0
          · exact ⟨_, told_plain s h0 (by omega)⟩
          · obtain ⟨f, hff⟩ := has_front h0
            have ne : f ≠ s := fun q => hf (q ▸ hff)
            by_cases m0 : S.m f s = 0
            · exact ⟨_, told_far hff ne m0 most⟩
            · obtain ⟨r, hr⟩ := ih2 (gen f * u) (alt s f (S.m f s - 1)) (most - 1) (by omega) (by rw [alt_red (Ne.symm ne) (.inl (by rw [S.sym]; omega)), alt_len])
              exact ⟨_, told_tied hff ne m0 hr⟩
    refine ⟨hg, fun u w most hm hw => ?_⟩
    cases w with
    | nil => exact ⟨_, told_nil u most⟩
    | cons a w =>
      obtain ⟨ha, hr, e⟩ := red_cons hw
      obtain ⟨r, h⟩ := hg u a most hm
      cases r with
      | none => exact ⟨_, told_no ha h⟩
      | some f =>
        obtain ⟨r2, h2⟩ := ih2 (gen a * f) w (most - 1) (by omega) hr
        rw [← e] at h2
        exact ⟨_, told_go ha h h2⟩
theorem told_gen (u : W S) (s : Fin n) (most : Int) : Told u (gen s) most (told u (gen s) most) := by
  obtain ⟨r, h⟩ := (tot (most.toNat + 1)).1 u s most (by omega)
  rw [← told_of h]; exact h
theorem told_word (u : W S) {w : List (Fin n)} (hw : len (mk w : W S) = w.length) (most : Int) : Told u (mk w) most (told u (mk w) most) := by
  obtain ⟨r, h⟩ := (tot (most.toNat + 1)).2 u w most (by omega) hw
  rw [← told_of h]; exact h
end
end W
theorem W.fronts_mem {n : Nat} {S : Sys n} {g : W S} {s : Fin n} : s ∈ W.fronts g ↔ W.fr g s := by
  unfold W.fronts
  rw [W.backs_mem, W.isBack_inv, W.isFront_iff]
/-! ### the dict `kept` -/
abbrev keyD {X : Tb} (g : W X.sys) (s : Fin X.n) : PyData := .tuple [encM (W.img g), encF s]
abbrev kFound (K : PySem.W.Frag) (X : Tb) (b : Int) (r : Option (W X.sys)) : Kn := kT K [kd K (.int b), kOpt K X r]
def KEnt (K : PySem.W.Frag) (X : Tb) (N : Hp) (e : NestedKey × Addr × Value) : Prop := ∃ (g : W X.sys) (s : Fin X.n) (b : Int) (r : Option (W X.sys)) (v : V), e.1 = nk (keyD g s) ∧ Dp K N (.ref e.2.1) (keyD g s) ∧ RelV v e.2.2 ∧ (kFound K X b r).p N v ∧ W.Kept g (W.gen s) b r ∧ ∀ z, r = some z → W.len z ≤ 36
theorem KEnt.mo {K : PySem.W.Frag} {X : Tb} {N N' : Hp} {e : NestedKey × Addr × Value} (x : Ex N N') (h : KEnt K X N e) : KEnt K X N' e := by
  obtain ⟨g, s, b, r, v, h1, h2, h3, h4, h5⟩ := h
  exact ⟨g, s, b, r, v, h1, dp_mono x _ _ h2, h3, (kFound K X b r).mo _ _ _ x h4, h5⟩
def KEnts (K : PySem.W.Frag) (X : Tb) (c : Nat) (N : Hp) (xs : Ents) : Prop := xs.length ≤ c ∧ (xs.map (·.1)).Nodup ∧ ∀ e ∈ xs, KEnt K X N e
theorem KEnts.mo {K : PySem.W.Frag} {X : Tb} {c : Nat} {N N' : Hp} {xs : Ents} (x : Ex N N') (h : KEnts K X c N xs) : KEnts K X c N' xs := by
  obtain ⟨h1, h2, h3⟩ := h
  exact ⟨h1, h2, fun e he => (h3 e he).mo x⟩
/-- at most c things are kept -/
def oK (K : PySem.W.Frag) (w : World) (X : Tb) (c : Nat) : Oc := ⟨fun N u => ∃ (d : Addr) (xs : Ents), u = KDat w d xs ∧ KEnts K X c N xs, fun N N' u x ⟨d, xs, h1, h2⟩ => ⟨d, xs, h1, h2.mo x⟩⟩
/-- .. and this one -/
def oKat (K : PySem.W.Frag) (w : World) (X : Tb) (c : Nat) (g : W X.sys) (s : Fin X.n) (b : Int) (r : Option (W X.sys)) : Oc := ⟨fun N u => ∃ (d : Addr) (xs : Ents) (ka : Addr) (ue : Value) (v : V), u = KDat w d xs ∧ KEnts K X c N xs ∧ atKey xs (nk (keyD g s)) = some (ka, ue) ∧ RelV v ue ∧ (kFound K X b r).p N v,
  fun N N' u x ⟨d, xs, ka, ue, v, h1, h2, h5, h6, h7⟩ => ⟨d, xs, ka, ue, v, h1, h2.mo x, h5, h6, (kFound K X b r).mo _ _ _ x h7⟩⟩
theorem iT_iD {k : Nat} {n : Nat} (M : Fin n → Vec n) (s : Fin n) : iT 4 (.tuple [encM M, encF s]) = true := by
  have hV : ∀ x : Vec n, iT 2 (encV x) = true := fun x => by
    unfold encV fins
    simp only [iT]
    generalize List.finRange n = l
    induction l with
    | nil => rfl
    | cons a l ih => simp only [List.map_cons, iTs, Bool.and_eq_true]; exact ⟨rfl, ih⟩
  have hM : iT 3 (encM M) = true := by
    unfold encM fins
    simp only [iT]
    generalize List.finRange n = l
    induction l with
    | nil => rfl
    | cons a l ih => simp only [List.map_cons, iTs, Bool.and_eq_true]; exact ⟨hV _, ih⟩
  simp [iT, iTs, hM, encF]
theorem key_iT {X : Tb} (g : W X.sys) (s : Fin X.n) : iT 4 (keyD g s) = true := iT_iD (k := 4) _ _
theorem key_inj {X : Tb} {g h : W X.sys} {s t : Fin X.n} (e : nk (keyD g s) = nk (keyD h t)) : g = h ∧ s = t := by
  have := nk_inj 4 _ _ (key_iT g s) (key_iT h t) e
  injection this with this
  injection this with a b
  injection b with b _
  refine ⟨W.img_inj (encM_inj a), Fin.ext ?_⟩
  unfold encF at b
  injection b with b
  omega
theorem KEnt.ok {K : PySem.W.Frag} {X : Tb} {N H : Hp} {e : NestedKey × Addr × Value} (h : KEnt K X N e) (x : Ex N H) : EntOk K H e := by
  obtain ⟨g, s, b, r, v, h1, h2, _⟩ := h
  exact ⟨_, h1, key_iT g s, dp_mono x _ _ h2⟩
theorem atKey_mem {xs : Ents} {k : NestedKey} {p : Addr × Value} (h : atKey xs k = some p) : (k, p) ∈ xs := by
  induction xs with
  | nil => cases h
  | cons x xs ih =>
    by_cases q : x.1 = k
    · have : some x.2 = some p := by simpa [atKey, q] using h
      cases this
      rw [← q]; exact List.mem_cons_self
    · exact List.mem_cons_of_mem _ (ih (by simpa [atKey, q] using h))
/-- behind a call that changes a held object -/
theorem Stt.pastTo {F : Hp} {B : Addr → Prop} {Γ : List Slot} {σ : St} {N H : Hp} (S : Stt F B Γ σ N H) {j : Nat} {O O' : Oc} {p : Addr} {N' H' : Hp} {u' : HO} (h : Γ[j]? = some (.hel O)) (hp : σ[j]? = some (some (.ref p)))
    (a1 : Ex (Hp.less H p) H') (a2 : Ex N N') (a3 : Ex N' H') (a4 : ∀ a, H a ≠ none → N a = none → N' a = none) (a5 : H' p = some u') (a6 : O'.p N' u') : Stt F B (Γ.set j (.hel O')) σ N' H' := by
  obtain ⟨p', u, e1, f, n, b, d, r⟩ := S.helS h
  rw [hp] at e1; cases e1
  have ne : ∀ i γ q, i ≠ j → Γ[i]? = some γ → γ.holds = true → σ[i]? = some (some (.ref q)) → q ≠ p := fun i γ q hij hg hq ho z => by
    subst z; exact S.ap i j γ _ q hij hg h hq rfl ho hp
  have n' : N' p = none := a4 p (by rw [d]; exact Option.some_ne_none _) n
  -- what is known of it is forgotten, then known anew
  let Oo : Oc := ⟨fun _ _ => True, fun _ _ _ _ _ => trivial⟩
  have S0 : Stt F B (Γ.set j (.hel Oo)) σ N H := S.hold hp f n b d trivial fun i γ q hij hg hh ho => ne i γ q hij hg hh ho
  have hl : j < Γ.length := (List.getElem?_eq_some_iff.mp h).1
  have h0 : (Γ.set j (.hel Oo))[j]? = some (.hel Oo) := List.getElem?_set_self hl
  have S1 := S0.past (O := Oo) h0 (.inr rfl) hp a1 a2 a3 a4 a5 trivial
  have S2 := S1.hold (k := j) (O := O') hp f n' b a5 a6 fun i γ q hij hg hh ho => ne i γ q hij (by rwa [List.getElem?_set_ne (fun z => hij z.symm)] at hg) hh ho
  rwa [List.set_set] at S2
section
variable {K : PySem.W.Frag} {w : World} {X : Tb} {Γ : List Slot} {P : Post} {t u v : TS} {te tk tv : TE} {c : Nat} {j : Nat}
/-- what is known of a held object may be forgotten in part -/
theorem sx_less {O O' : Oc} (hj : Γ[j]? = some (.hel O)) (h : ∀ N u, O.p N u → O'.p N u) (k : SX t (Γ.set j (.hel O')) P) : SX t Γ P := fun F B σ N H D S f => by
  obtain ⟨p, u, e, a, b, c, d, r⟩ := S.helS hj
  refine k F B σ N H D (S.hold e a b c d (h N u r) fun i γ q hij hg hh ho z => ?_) f
  subst z
  exact S.ap i j γ _ q hij hg hj hh rfl ho e
/-- if key in kept -/
theorem q_inK {g : W X.sys} {s : Fin X.n} (hj : Γ[j]? = some (.hel (oK K w X c))) (hk : EX tk Γ (kd K (keyD g s))) (h1 : ∀ b r, W.Kept g (W.gen s) b r → (∀ z, r = some z → W.len z ≤ 36) → SX (tSeq t v) (Γ.set j (.hel (oKat K w X c g s b r))) P) (h2 : SX (tSeq u v) Γ P) :
    SX (tSeq (tIfS (tTest (tOp (rInKD K w) tk (tVar j))) t u) v) Γ P := fun F B σ N H D S f =>
  hk F B σ N H _ S fun y N1 H1 S1 e1 r1 => by
    obtain ⟨p, uo, e, a, b, cB, d, dd, xs, rfl, hl, nd, hall⟩ := S1.helS hj
    have r0 := r1
    cases r1 with
    | @tup ka vs _ hs ha =>
      refine ⟨_, e, ka, p, dd, xs, keyD g s, rfl, rfl, d, fun x hx => (hall x hx).ok S1.sub, nd, key_iT g s, dp_mono S1.sub _ _ r0, ?_⟩
      refine ⟨_, rfl, ?_⟩
      cases q : atKey xs (nk (keyD g s)) with
      | none => exact h2 F B σ N1 H1 D S1 f
      | some pu =>
        obtain ⟨ka2, ue⟩ := pu
        obtain ⟨g', s', b', r', v', z1, z2, z3, z4, z5, z6⟩ := hall _ (atKey_mem q)
        obtain ⟨eg, es⟩ := key_inj z1
        subst eg es
        refine h1 b' r' z5 z6 F B σ N1 H1 D (S1.hold e a b cB d ⟨dd, xs, ka2, ue, v', rfl, ⟨hl, nd, hall⟩, q, z3, z4⟩ fun i γ q hij hg hh ho z => ?_) f
        subst z
        exact S1.ap i j γ _ q hij hg hj hh rfl ho e
/-- kept[key] -/
theorem ex_ixK {g : W X.sys} {s : Fin X.n} {b : Int} {r : Option (W X.sys)} (hj : Γ[j]? = some (.hel (oKat K w X c g s b r))) (hk : EX tk Γ (kd K (keyD g s))) : EX (tOp (rIxKD K w) (tVar j) tk) Γ (kFound K X b r) := fun F B σ N H Q S k => by
  obtain ⟨p, uo, e, _⟩ := S.helS hj
  refine ⟨_, e, hk F B σ N H _ S fun y N1 H1 S1 e1 r1 => ?_⟩
  obtain ⟨p', uo', e', a, bb, cB, d, dd, xs, ka, ue, v, rfl, ⟨hl, nd, hall⟩, q, rv, kv⟩ := S1.helS hj
  rw [e] at e'; cases e'
  have r0 := r1
  cases r1 with
  | @tup kb vs _ hs ha =>
    exact ⟨kb, p, dd, xs, keyD g s, ka, ue, v, rfl, rfl, d, fun x hx => (hall x hx).ok S1.sub, nd, key_iT g s, dp_mono S1.sub _ _ r0, q, rv, k v N1 H1 S1 e1 kv⟩
theorem atKey_none {xs : Ents} {k : NestedKey} (h : atKey xs k = none) : k ∉ xs.map (·.1) := by
  induction xs with
  | nil => intro z; cases z
  | cons x xs ih =>
    by_cases q : x.1 = k
    · exfalso
      have : some x.2 = (none : Option (Addr × Value)) := by simpa [atKey, q] using h
      cases this
    · intro z
      rcases List.mem_cons.mp z with e | e
      · exact q e.symm
      · exact ih (by simpa [atKey, q] using h) e
theorem KEnts.put {N : Hp} {xs : Ents} {g : W X.sys} {s : Fin X.n} {b : Int} {r : Option (W X.sys)} {ka : Addr} {ue : Value} {v : V} (h : KEnts K X c N xs) (hk : Dp K N (.ref ka) (keyD g s)) (rv : RelV v ue) (kv : (kFound K X b r).p N v) (hK : W.Kept g (W.gen s) b r) (hz : ∀ z, r = some z → W.len z ≤ 36) :
    KEnts K X (c + 1) N (storedH xs (nk (keyD g s)) ka ue) := by
  obtain ⟨h1, h2, h3⟩ := h
  unfold storedH
  cases q : atKey xs (nk (keyD g s)) with
  | none =>
    rw [if_neg (by simp)]
    refine ⟨by rw [List.length_append, List.length_singleton]; omega, ?_, fun e he => ?_⟩
    · rw [List.map_append]
      refine List.nodup_append.mpr ⟨h2, List.pairwise_singleton _ _, fun a ha b hb e => ?_⟩
      have hb : b = nk (keyD g s) := by simpa using hb
      rw [e, hb] at ha
      exact atKey_none q ha
    · rcases List.mem_append.mp he with z | z
      · exact h3 e z
      · have : e = (nk (keyD g s), ka, ue) := by simpa using z
        subst this
        exact ⟨g, s, b, r, v, rfl, hk, rv, kv, hK, hz⟩
  | some p =>
    rw [if_pos (show (some p).isSome = true from rfl)]
    refine ⟨by rw [List.length_map]; omega, by rw [keys_map_putAt]; exact h2, fun e he => ?_⟩
    obtain ⟨x, hx, ex⟩ := List.mem_map.mp he
    by_cases z : x.1 = nk (keyD g s)
    · obtain ⟨g', s', b', r', v', z1, z2, _⟩ := h3 x hx
      have : putAt (nk (keyD g s)) ue x = (x.1, x.2.1, ue) := by unfold putAt; rw [if_pos z, z]
      rw [this] at ex
      subst ex
      obtain ⟨eg, es⟩ := key_inj (z1.symm.trans z)
      subst eg es
      exact ⟨g', s', b, r, v, z1, z2, rv, kv, hK, hz⟩
    · have : putAt (nk (keyD g s)) ue x = x := by unfold putAt; rw [if_neg z]
      rw [this] at ex
      subst ex
      exact h3 x hx
/-- kept[key] = (most, found) -/
theorem q_putK {g : W X.sys} {s : Fin X.n} {b : Int} {r : Option (W X.sys)} (hj : Γ[j]? = some (.hel (oK K w X c))) (hk : EX tk Γ (kd K (keyD g s))) (hv : EX tv Γ (kFound K X b r)) (hK : W.Kept g (W.gen s) b r) (hz : ∀ z, r = some z → W.len z ≤ 36) (hc : c ≤ 16000000) (k : SX u (Γ.set j (.hel (oK K w X (c + 1)))) P) :
    SX (tSeq (sKDPut K w (tVar j) tk tv) u) Γ P := fun F B σ N H D S f =>
  hv F B σ N H _ S fun y N1 H1 S1 e1 r1 => by
    obtain ⟨p, uo, e, _⟩ := S1.helS hj
    refine ⟨_, e, hk F B σ N1 H1 _ S1 fun z N2 H2 S2 e2 r2 => ?_⟩
    obtain ⟨p', uo', e', a, bb, cB, d, dd, xs, rfl, hl, nd, hall⟩ := S2.helS hj
    rw [e] at e'; cases e'
    have r0 := r2
    cases r2 with
    | @tup kb vs _ hs ha =>
      refine ⟨kb, p, dd, xs, keyD g s, rfl, rfl, d, fun x hx => (hall x hx).ok S2.sub, nd, key_iT g s, dp_mono S2.sub _ _ r0, by rw [sizeLine_eq]; omega, fun ue rv => ?_⟩
      exact k F B σ N2 _ D (S2.writeH (O' := oK K w X (c + 1)) hj e ⟨p, _, rfl, KEnts.put ⟨hl, nd, hall⟩ r0 rv ((kFound K X b r).mo _ _ _ e2 r1) hK hz⟩) f
/-- x = f(.., a held object, ..): the object changes -/
theorem q_setH {E : XK} {targ : TA} {i : Nat} (p : PmH) (ix : p.ι) (ha : EAH targ Γ p.k j (p.args ix)) (hp : p.pre ix) (hj : Γ[j]? = some (.hel (p.oc ix))) (k : SX u ((Γ.set j (.hel (p.oc' ix))).set i (.kn (p.res ix))) P) : SX (tSeq (tAsg (tCall p.sp [] E targ) (gName i)) u) Γ P := fun F B σ N H D S f =>
  ha F B σ N H _ S fun vs N1 H1 v S1 e1 r1 q1 q2 => by
    obtain ⟨a, uo, z1, z2, z3, z4, z5, z6⟩ := S1.helS hj
    rw [q2] at z1; cases z1
    rw [List.append_nil]
    refine ⟨ix, N1, a, uo, S1.sub, hp, r1, q1, z3, z5, z6, fun v N2 H2 u' a1 a2 a3 a4 a5 a6 r2 => ?_⟩
    have S2 := S1.pastTo hj q2 a1 a2 a3 a4 a5 a6
    exact k F B _ N2 H2 D (S2.set i r2) f
end
section
variable {K : PySem.W.Frag} {X : Tb} {Γ : List Slot} {te : TE} {P : Post} {t u : TS}
theorem ex_isNO {r : Option (W X.sys)} (h : EX te Γ (kOpt K X r)) : EX (tIsN te) Γ (kd K (.bool r.isNone)) := fun F B σ N H Q S k =>
  h F B σ N H _ S fun v N1 H1 S1 e1 r1 => by
    cases r with
    | none => cases r1; exact k _ N1 H1 S1 e1 (.bl _)
    | some z => obtain ⟨a, u, ev, _⟩ := r1; subst ev; exact k _ N1 H1 S1 e1 (.bl _)
theorem ex_notNO {r : Option (W X.sys)} (h : EX te Γ (kOpt K X r)) : EX (tNotN te) Γ (kd K (.bool (!r.isNone))) := fun F B σ N H Q S k =>
  h F B σ N H _ S fun v N1 H1 S1 e1 r1 => by
    cases r with
    | none => cases r1; exact k _ N1 H1 S1 e1 (.bl _)
    | some z => obtain ⟨a, u, ev, _⟩ := r1; subst ev; exact k _ N1 H1 S1 e1 (.bl _)
/-- handed back, with the held object as promised -/
theorem ex_end {O : Oc} {R : Kn} {j : Nat} (h : EX te Γ R) (hj : Γ[j]? = some (.hel O)) : EX te Γ (kEnd j O R Γ) := ex_weak h fun N v r => ⟨hj, r⟩
end
theorem KEnts.le {K : PySem.W.Frag} {X : Tb} {c c' : Nat} {N : Hp} {xs : Ents} (h : KEnts K X c N xs) (hc : c ≤ c') : KEnts K X c' N xs := ⟨Nat.le_trans h.1 hc, h.2⟩
theorem oK_le {K : PySem.W.Frag} {w : World} {X : Tb} {c c' : Nat} (hc : c ≤ c') : ∀ N u, (oK K w X c).p N u → (oK K w X c').p N u := fun N u ⟨d, xs, h1, h2⟩ => ⟨d, xs, h1, h2.le hc⟩
theorem oKat_oK {K : PySem.W.Frag} {w : World} {X : Tb} {c c' : Nat} {g : W X.sys} {s : Fin X.n} {b : Int} {r : Option (W X.sys)} (hc : c ≤ c') : ∀ N u, (oKat K w X c g s b r).p N u → (oK K w X c').p N u := fun N u ⟨d, xs, _, _, _, h1, h2, _⟩ => ⟨d, xs, h1, h2.le hc⟩
def Bn : Nat → Nat
  | 0 => 1
  | m + 1 => 1 + 4 * Bn m
theorem Bn_pos (m : Nat) : 1 ≤ Bn m := by cases m <;> simp only [Bn] <;> omega
noncomputable abbrev pm_joined_button (K : PySem.W.Frag) (w : World) (M : Nat) : PmH := ⟨(X : Tb) × (W X.sys × Fin X.n × Int × Nat), fun i => 0 ≤ i.2.2.2.1 ∧ i.2.2.2.1 < (M : Int) ∧ M ≤ 21 ∧ W.len i.2.1 ≤ 20 ∧ i.2.2.2.2 + Bn i.2.2.2.1.toNat ≤ 16000000, 3,
  fun i => [kChg K i.1 i.2.1, kd K (encF i.2.2.1), kd K (.int i.2.2.2.1), kAny], fun i => oK K w i.1 i.2.2.2.2, fun i => oK K w i.1 (i.2.2.2.2 + Bn i.2.2.2.1.toNat), fun i => kOpt K i.1 (W.told i.2.1 (W.gen i.2.2.1) i.2.2.2.1)⟩
noncomputable abbrev pm_joined_word (K : PySem.W.Frag) (w : World) (M : Nat) : PmH := ⟨(X : Tb) × (W X.sys × List (Fin X.n) × Int × Nat), fun i => 0 ≤ i.2.2.2.1 ∧ i.2.2.2.1 < (M : Int) ∧ M ≤ 21 ∧ W.len i.2.1 ≤ 20 ∧ W.len (W.mk i.2.2.1 : W i.1.sys) = i.2.2.1.length ∧ i.2.2.1.length ≤ 60 ∧ i.2.2.2.2 + i.2.2.1.length * Bn i.2.2.2.1.toNat ≤ 16000000, 3,
  fun i => [kChg K i.1 i.2.1, kd K (encW i.2.2.1), kd K (.int i.2.2.2.1), kAny], fun i => oK K w i.1 i.2.2.2.2, fun i => oK K w i.1 (i.2.2.2.2 + i.2.2.1.length * Bn i.2.2.2.1.toNat), fun i => kOpt K i.1 (W.told i.2.1 (W.mk i.2.2.1) i.2.2.2.1)⟩
end Wk
namespace Wk
open PySem L2
section
variable {P : Program} {w : World} {K : PySem.W.Frag} {mg : Str → Option Value} {base : Heap}
abbrev s_joined_button : Stmt := top 105
abbrev Ns_joined_button : List Str := ["change", "button", "most", "kept", "key", "first", "found", "tie", "bound", "rest"]
theorem sc_joined_button : FnScope Ns_joined_button ["change", "button", "most", "kept"] (defScope s_joined_button) := ⟨rfl, rfl, rfl, by decide +kernel, rfl, by decide +kernel, by decide +kernel⟩
def t_joined_button (K : PySem.W.Frag) (w : World) (MW : Nat) : TS := (tSeq (tIfS (tTest (tOp (rIn K false) (tVar 1) (tProp (He.ga K "Change") (pm_Change_fronts K).sp [] E0 (tVar 0)))) (tRet (tIf (tTest (tOp (rI0 fun i j => .bl (decide (i ≤ j))) (tProp (He.ga K "Change") (pm_Change_length K).sp [] E0 (tVar 0)) (tVar 2))) (tVar 0) (tC .non))) tNext)
    (tSeq (tIfS (tTest (tOp (rI0 fun i j => .bl (decide (j ≤ i))) (tProp (He.ga K "Change") (pm_Change_length K).sp [] E0 (tVar 0)) (tVar 2))) (tRet (tC .non)) tNext)
    (tSeq (tIfS (tTest (tOp rEq (tProp (He.ga K "Change") (pm_Change_length K).sp [] E0 (tVar 0)) (tC (.int 0)))) (tRet (tCall (pm_led_front K).sp [] E0 (tCons (tVar 0) (tCons (tVar 1) tNil)))) tNext)
    (tSeq (tAsg (tTup (tCons (tFld K (tVar 0) "_ahead") (tCons (tVar 1) tNil))) (gName 4))
    (tSeq (tIfS (tTest (tOp (rInKD K w) (tVar 4) (tVar 3))) (tSeq (tAsg (tOp (rIxKD K w) (tVar 3) (tVar 4)) (gTup K 2 (gCons (gName 8) (gCons (gName 6) gNil))))
    (tSeq (tIfS (tB (tNotN (tVar 6))) (tRet (tIf (tTest (tOp (rI0 fun i j => .bl (decide (i ≤ j))) (tProp (He.ga K "Change") (pm_Change_length K).sp [] E0 (tVar 6)) (tVar 2))) (tVar 6) (tC .non))) tNext)
    (tIfS (tTest (tOp (rI0 fun i j => .bl (decide (j ≤ i))) (tVar 8) (tVar 2))) (tRet (tC .non)) tNext))) tNext)
    (tSeq (tPar 5 6 (tCons (tOp (rIxT K) (tProp (He.ga K "Change") (pm_Change_fronts K).sp [] E0 (tVar 0)) (tC (.int 0))) (tCons (tC .non) tNil)))
    (tSeq (tAsg (tOp (rIxT K) (tOp (rIxT K) (tFld K (tFld K (tVar 0) "table") "ties") (tVar 5)) (tVar 1)) (gName 7))
    (tSeq (tIfS (tTest (tOp rNe (tVar 7) (tC (.int 0)))) (tSeq (tAsg (tCall (pm_joined_word K w MW).sp [] E0 (tCons (tCall (pm_led_front K).sp [] E0 (tCons (tVar 0) (tCons (tVar 5) tNil))) (tCons (tCall (pm_by_turns K).sp [] E0 (tCons (tVar 1) (tCons (tVar 5) (tCons (tOp (rI0 fun i j => .int (i - j)) (tVar 7) (tC (.int 1))) tNil)))) (tCons (tOp (rI0 fun i j => .int (i - j)) (tVar 2) (tC (.int 1))) (tCons (tVar 3) tNil))))) (gName 9))
    (tAsg (tIf (tB (tIsN (tVar 9))) (tC .non) (tCall (pm_led_front K).sp [] E0 (tCons (tVar 9) (tCons (tVar 5) tNil)))) (gName 6))) tNext)
    (tSeq (sKDPut K w (tVar 3) (tVar 4) (tTup (tCons (tVar 2) (tCons (tVar 6) tNil))))
    (tRet (tVar 6)))))))))))
theorem sx_joined_button (T : Tx K mg) (M : Nat) : (pm_joined_button K w (M + 1)).body Ns_joined_button (t_joined_button K w M) := by
  rintro ⟨X, g, s, most, c⟩ ⟨h0, hM, hM2, hg, hc⟩
  dsimp only [pm_joined_button]
  show SX _ [_, _, _, _, _, _, _, _, _, _] _
  have h0 : 0 ≤ most := h0
  have hM : most < ((M + 1 : Nat) : Int) := hM
  have hM2 : M + 1 ≤ 21 := hM2
  have hg : W.len g ≤ 20 := hg
  have hc : c + Bn most.toNat ≤ 16000000 := hc
  have b1 := Bn_pos most.toNat
  refine q_if (b := decide (s ∈ W.fronts g)) (et_test (ex_inW (ex_var rfl) (ex_prop (pm_Change_fronts K) ⟨X, g⟩ (ex_var rfl) rfl (show W.len g ≤ 36 by omega)))) (fun e => ?_) (fun e => sx_pass ?_)
  · have hf : W.fr g s := W.fronts_mem.mp (of_decide_eq_true e)
    refine sx_less (j := 3) (O' := oK K w X (c + Bn most.toNat)) rfl (oK_le (Nat.le_add_right c _)) ?_
    exact q_ret (ex_end (ex_is (ex_if (R := kOpt K X (if (W.len g : Int) ≤ most then some g else none)) (et_test (ex_le (ex_prop (pm_Change_length K) ⟨X, g⟩ (ex_var rfl) rfl (show W.len g ≤ 36 by omega)) (ex_var rfl))) (fun e => ex_is (ex_var rfl) (by rw [if_pos (of_decide_eq_true e)]; rfl)) (fun e => ex_is (ex_non (K := K)) (by rw [if_neg (of_decide_eq_false e)]; rfl))) (congrArg (kOpt K X) (W.told_of (W.told_front hf most)))) rfl)
  have hf : ¬ W.fr g s := fun q => of_decide_eq_false e (W.fronts_mem.mpr q)
  refine q_if (b := decide (most ≤ (W.len g : Int))) (et_test (ex_ge (ex_prop (pm_Change_length K) ⟨X, g⟩ (ex_var rfl) rfl (show W.len g ≤ 36 by omega)) (ex_var rfl))) (fun e => ?_) (fun e => sx_pass ?_)
  · refine sx_less (j := 3) (O' := oK K w X (c + Bn most.toNat)) rfl (oK_le (Nat.le_add_right c _)) ?_
    exact q_ret (ex_end (ex_is (ex_non (K := K)) (congrArg (kOpt K X) (W.told_of (W.told_long hf (of_decide_eq_true e))))) rfl)
  have hl : (W.len g : Int) < most := by have := of_decide_eq_false e; omega
  refine q_if (b := decide ((W.len g : Int) = 0)) (et_test (ex_eqI (ex_prop (pm_Change_length K) ⟨X, g⟩ (ex_var rfl) rfl (show W.len g ≤ 36 by omega)) (ex_int (K := K)))) (fun e => ?_) (fun e => sx_pass ?_)
  · have g0 : W.len g = 0 := by have := of_decide_eq_true e; omega
    have g1 : g = 1 := W.len_zero g0
    refine sx_less (j := 3) (O' := oK K w X (c + Bn most.toNat)) rfl (oK_le (Nat.le_add_right c _)) ?_
    refine q_ret (ex_end (ex_is (ex_pm (pm_led_front K) ⟨X, g, s⟩ (ea_cons (ex_var rfl) (ea_cons (ex_var rfl) ea_nil)) trivial) ?_) rfl)
    show kOpt K X (some (W.gen s * g)) = kOpt K X _
    rw [← W.told_of (W.told_plain s g0 (show 1 ≤ most by omega)), g1, W.mul_one]
  have gn : W.len g ≠ 0 := by have := of_decide_eq_false e; omega
  refine q_set (R := kd K (keyD g s)) (ex_tup (ead_cons (ex__ahead T (ex_var rfl)) (ead_cons (ex_var rfl) ead_nil))) ?_
  show SX _ [_, _, _, _, _, _, _, _, _, _] _
  have tail : ∀ a b : Slot, SX (tSeq (tPar 5 6 (tCons (tOp (rIxT K) (tProp (He.ga K "Change") (pm_Change_fronts K).sp [] E0 (tVar 0)) (tC (.int 0))) (tCons (tC .non) tNil))) (tSeq (tAsg (tOp (rIxT K) (tOp (rIxT K) (tFld K (tFld K (tVar 0) "table") "ties") (tVar 5)) (tVar 1)) (gName 7)) (tSeq (tIfS (tTest (tOp rNe (tVar 7) (tC (.int 0)))) (tSeq (tAsg (tCall (pm_joined_word K w M).sp [] E0 (tCons (tCall (pm_led_front K).sp [] E0 (tCons (tVar 0) (tCons (tVar 5) tNil))) (tCons (tCall (pm_by_turns K).sp [] E0 (tCons (tVar 1) (tCons (tVar 5) (tCons (tOp (rI0 fun i j => .int (i - j)) (tVar 7) (tC (.int 1))) tNil)))) (tCons (tOp (rI0 fun i j => .int (i - j)) (tVar 2) (tC (.int 1))) (tCons (tVar 3) tNil))))) (gName 9))
    (tAsg (tIf (tB (tIsN (tVar 9))) (tC .non) (tCall (pm_led_front K).sp [] E0 (tCons (tVar 9) (tCons (tVar 5) tNil)))) (gName 6))) tNext) (tSeq (sKDPut K w (tVar 3) (tVar 4) (tTup (tCons (tVar 2) (tCons (tVar 6) tNil)))) (tRet (tVar 6)))))) [.kn (kChg K X g), .kn (kd K (encF s)), .kn (kd K (.int most)), .hel (oK K w X c), .kn (kd K (keyD g s)), .un, a, .un, b, .un] { rt := kEnd 3 (oK K w X (c + Bn most.toNat)) (kOpt K X (W.told g (W.gen s) most)), nx := fun Γ => Γ[3]? = some (.hel (oK K w X (c + Bn most.toNat))) ∧ ∀ N, (kOpt K X (W.told g (W.gen s) most)).p N .non } := by
    intro a b
    cases hfr : W.fronts g with
    | nil =>
      have := W.backs_nil hfr
      rw [W.len_inv] at this
      exact absurd this gn
    | cons f fs =>
      have hff : W.fr g f := W.fronts_mem.mp (by rw [hfr]; exact List.mem_cons_self)
      have ne : f ≠ s := fun q => hf (q ▸ hff)
      refine q_par (ea_cons (ex_ixT0 (d := encF f) (ds := fs.map encF) (ex_is (ex_prop (pm_Change_fronts K) ⟨X, g⟩ (ex_var rfl) rfl (show W.len g ≤ 36 by omega)) (by show kd K (encW (W.fronts g)) = _; rw [hfr]; rfl))) (ea_cons (ex_non (K := K)) ea_nil)) ?_
      refine q_set (R := kd K (encN (X.m f s))) (ex_cell2 (ex_cell (ex_ties T (ex_table T (ex_var rfl))) (ex_var rfl)) (ex_var rfl)) ?_
      show SX _ [_, _, _, _, _, _, _, _, _, _] _
      refine q_if (b := !decide (((X.m f s : Nat) : Int) = 0)) (et_test (ex_neI (ex_var rfl) (ex_int (K := K)))) (fun e => ?_) (fun e => sx_pass ?_)
      · have m0 : X.sys.m f s ≠ 0 := fun q => by
          have q : X.m f s = 0 := q
          rw [q] at e; simp at e
        have m0' : X.m f s ≠ 0 := m0
        have m5 : X.m f s ≤ 5 := by have := X.ok f s ne; omega
        have red : W.len (W.mk (alt s f (X.m f s - 1)) : W X.sys) = (alt s f (X.m f s - 1)).length := by
          rw [W.alt_red (S := X.sys) (Ne.symm ne) (.inl (by show X.m f s - 1 ≤ X.m s f; rw [X.sym s f]; omega)), alt_len]
        have hB : Bn most.toNat = 1 + 4 * Bn (most - 1).toNat := by
          have : most.toNat = (most - 1).toNat + 1 := by omega
          rw [this]; rfl
        have hmul : (X.m f s - 1) * Bn (most - 1).toNat ≤ 4 * Bn (most - 1).toNat := Nat.mul_le_mul_right _ (by omega)
        have lf : W.len (W.gen f * g) + 1 = W.len g := hff
        have hW := W.told_word (W.gen f * g) red (most - 1)
        refine q_assoc ?_
        refine q_setH (j := 3) (pm_joined_word K w M) ⟨X, W.gen f * g, alt s f (X.m f s - 1), most - 1, c⟩ (eah_next (ex_pm (pm_led_front K) ⟨X, g, f⟩ (ea_cons (ex_var rfl) (ea_cons (ex_var rfl) ea_nil)) trivial) (eah_next (ex_pm (pm_by_turns K) ⟨X.n, s, f, X.m f s - 1⟩ (ea_cons (ex_var rfl) (ea_cons (ex_var rfl) (ea_cons (ex_is (ex_sub (a := ((X.m f s : Nat) : Int)) (ex_var rfl) (ex_int (K := K))) (by rw [show ((X.m f s : Nat) : Int) - 1 = ((X.m f s - 1 : Nat) : Int) by omega])) ea_nil))) (show X.m f s - 1 ≤ 100 by omega)) (eah_next (ex_sub (ex_var rfl) (ex_int (K := K))) (eah_here rfl rfl ea_nil)))) ⟨by show 0 ≤ most - 1; omega, by show most - 1 < (M : Int); omega, by show M ≤ 21; omega, by show W.len (W.gen f * g) ≤ 20; omega, red, by show (alt s f (X.m f s - 1)).length ≤ 60; rw [alt_len]; omega, by show c + (alt s f (X.m f s - 1)).length * Bn (most - 1).toNat ≤ 16000000; rw [alt_len]; omega⟩ rfl ?_
        dsimp only
        rw [alt_len]
        have hT := W.told_tied (S := X.sys) hff ne m0 hW
        generalize W.told (W.gen f * g) (W.mk (alt s f (X.m f s - 1))) (most - 1) = r1 at hW hT
        refine q_set (R := kOpt K X (r1.map fun z => W.gen f * z)) (ex_if (b := r1.isNone) (et_B (ex_isNO (ex_var rfl))) (fun e => ?_) (fun e => ?_)) ?_
        · cases r1 with
          | none => exact ex_non (K := K)
          | some z => cases e
        · cases r1 with
          | none => cases e
          | some z => exact ex_pm (pm_led_front K) ⟨X, z, f⟩ (ea_cons (ex_var rfl) (ea_cons (ex_var rfl) ea_nil)) trivial
        refine q_putK (g := g) (s := s) (b := most) (r := r1.map fun z => W.gen f * z) rfl (ex_var rfl) (ex_tupG (ea_cons (ex_var rfl) (ea_cons (ex_var rfl) ea_nil))) hT.kept (fun z hz => ?_) (by omega) ?_
        · rw [hz] at hT
          have := hT.2
          omega
        refine sx_less (j := 3) (O' := oK K w X (c + Bn most.toNat)) rfl (oK_le (show c + (X.m f s - 1) * Bn (most - 1).toNat + 1 ≤ c + Bn most.toNat by omega)) ?_
        exact sx_ret (ex_end (ex_is (ex_var rfl) (congrArg (kOpt K X) (W.told_of hT))) rfl)
      · have m0 : X.sys.m f s = 0 := by
          have : ((X.m f s : Nat) : Int) = 0 := by simpa using e
          show X.m f s = 0
          omega
        have hT := W.told_far (S := X.sys) hff ne m0 most
        refine q_putK (g := g) (s := s) (b := most) (r := none) rfl (ex_var rfl) (ex_tupG (ea_cons (ex_var rfl) (ea_cons (ex_var rfl) ea_nil))) hT (fun _ q => by cases q) (by omega) ?_
        refine sx_less (j := 3) (O' := oK K w X (c + Bn most.toNat)) rfl (oK_le (show c + 1 ≤ c + Bn most.toNat by omega)) ?_
        exact sx_ret (ex_end (ex_is (ex_var rfl) (congrArg (kOpt K X) (W.told_of hT))) rfl)
  refine q_inK rfl (ex_var rfl) (fun b r hK hz => ?_) (sx_pass (tail _ _))
  refine q_assoc ?_
  refine q_asg (ex_ixK rfl (ex_var rfl)) (gx_tupG (gxa_cons gx_name (gxa_cons gx_name gxa_nil))) ?_
  show SX _ [_, _, _, _, _, _, _, _, _, _] _
  refine q_assoc ?_
  refine q_if (b := !r.isNone) (et_B (ex_notNO (ex_var rfl))) (fun e => ?_) (fun e => sx_pass ?_)
  · cases r with
    | none => cases e
    | some z =>
      have lz := hz z rfl
      refine sx_less (j := 3) (O' := oK K w X (c + Bn most.toNat)) rfl (oKat_oK (Nat.le_add_right c _)) ?_
      exact q_ret (ex_end (ex_is (ex_if (R := kOpt K X (if (W.len z : Int) ≤ most then some z else none)) (et_test (ex_le (ex_prop (pm_Change_length K) ⟨X, z⟩ (ex_var rfl) rfl (show W.len z ≤ 36 by omega)) (ex_var rfl))) (fun e => ex_is (ex_var rfl) (by rw [if_pos (of_decide_eq_true e)])) (fun e => ex_is (ex_non (K := K)) (by rw [if_neg (of_decide_eq_false e)]; rfl))) (congrArg (kOpt K X) (W.told_of (W.kept_some hK)))) rfl)
  · cases r with
    | some z => cases e
    | none =>
      refine q_if (b := decide (most ≤ b)) (et_test (ex_ge (ex_var rfl) (ex_var rfl))) (fun e => ?_) (fun e => sx_pass ?_)
      · refine sx_less (j := 3) (O' := oK K w X (c + Bn most.toNat)) rfl (oKat_oK (Nat.le_add_right c _)) ?_
        exact q_ret (ex_end (ex_is (ex_non (K := K)) (congrArg (kOpt K X) (W.told_of (W.kept_none hK (of_decide_eq_true e))))) rfl)
      · refine sx_less (j := 3) (O' := oK K w X c) rfl (oKat_oK (Nat.le_refl c)) ?_
        exact tail _ _

theorem ok_joined_button (T : Tx K mg) (M k : Nat) (hk : 9 ≤ k) (c_Change_fronts : Prp P w K mg base 4 (He.ga K "Change") "fronts" (pm_Change_fronts K).sp) (c_Change_length : Prp P w K mg base 5 (He.ga K "Change") "length" (pm_Change_length K).sp) (c_led_front : C8.Cal P w K mg base 8 "led_front" (pm_led_front K).sp []) (c_by_turns : C8.Cal P w K mg base 1 "by_turns" (pm_by_turns K).sp []) (c_joined_word : C8.Cal P w K mg base k "joined_word" (pm_joined_word K w M).sp []) {f : Addr} {fd : FuncData} (F : FnP K "joined_button" "joined_button" s_joined_button f fd) : FnOk P w K mg base CX0 (k + 1) f fd ["change", "button", "most", "kept"] (pm_joined_button K w (M + 1)).sp := by
  have sc := sc_joined_button
  refine F.ok sc (fun vs H Q E h => PmH.len (fun _ => rfl) vs H Q E h) (fun cdv A outer s H vs Q E hr h => ⟨t_joined_button K w M, PSs.nox ?_, PmH.go (sx_joined_button T M) vs H Q E h⟩)
  exact (pss_cons (ps_if (pt_cmpR op_in_seq (pv 1) (pe_pr c_Change_fronts hr (by omega) (pv 0)) (by with_unfolding_all rfl)) (pss_one (ps_ret (pe_ifExp (pt_cmpR op_le (pe_pr c_Change_length hr (by omega) (pv 0)) (pv 2) (nomark _)) (pv 0) pe_non))) pss_nil)
      (pss_cons (ps_if (pt_cmpR op_ge (pe_pr c_Change_length hr (by omega) (pv 0)) (pv 2) (nomark _)) (pss_one (ps_ret pe_non)) pss_nil)
      (pss_cons (ps_if (pt_cmpR op_eq (pe_pr c_Change_length hr (by omega) (pv 0)) pe_int (nomark _)) (pss_one (ps_ret (C8.pe_c c_led_front hr (by omega) rfl (pa_cons (pv 0) (pa_cons (pv 1) pa_nil))))) pss_nil)
      (pss_cons (ps_set (i := 4) sc.nd rfl (by first | exact Or.inl rfl | exact Or.inr rfl) (pe_tup (pa_cons (pe_fld (pv 0) rfl) (pa_cons (pv 1) pa_nil))))
      (pss_cons (ps_if (pt_cmpR (op_inKD hr.units) (pv 4) (pv 3) (by with_unfolding_all rfl)) (pss_cons (ps_asg (pe_ix (ix_KD hr.units) (pv 3) (pv 4) (fun _ _ => rfl)) (pg_tup rfl (pgs_cons (pg_name (i := 8) sc.nd rfl (by first | exact Or.inl rfl | exact Or.inr rfl)) (pgs_cons (pg_name (i := 6) sc.nd rfl (by first | exact Or.inl rfl | exact Or.inr rfl)) pgs_nil))))
      (pss_cons (ps_if (pt_cmp (pc_notN (pv 6))) (pss_one (ps_ret (pe_ifExp (pt_cmpR op_le (pe_pr c_Change_length hr (by omega) (pv 6)) (pv 2) (nomark _)) (pv 6) pe_non))) pss_nil)
      (pss_one (ps_if (pt_cmpR op_ge (pv 8) (pv 2) (nomark _)) (pss_one (ps_ret pe_non)) pss_nil)))) pss_nil)
      (pss_cons (ps_par (i := 5) (j := 6) rfl sc.nd rfl rfl (by decide) rfl rfl (pa_cons (pe_ix ix_tup (pe_pr c_Change_fronts hr (by omega) (pv 0)) pe_int (fun _ _ => rfl)) (pa_cons pe_non pa_nil)) rfl)
      (pss_cons (ps_set (i := 7) sc.nd rfl (by first | exact Or.inl rfl | exact Or.inr rfl) (pe_ix ix_tup (pe_ix ix_tup (pe_fld (pe_fld (pv 0) rfl) rfl) (pv 5) (fun _ _ => rfl)) (pv 1) (fun _ _ => rfl)))
      (pss_cons (ps_if (pt_cmpR op_ne (pv 7) pe_int (nomark _)) (pss_cons (ps_set (i := 9) sc.nd rfl (by first | exact Or.inl rfl | exact Or.inr rfl) (C8.pe_c c_joined_word hr (by omega) rfl (pa_cons (C8.pe_c c_led_front hr (by omega) rfl (pa_cons (pv 0) (pa_cons (pv 5) pa_nil))) (pa_cons (C8.pe_c c_by_turns hr (by omega) rfl (pa_cons (pv 1) (pa_cons (pv 5) (pa_cons (pe_op op_sub (pv 7) pe_int) pa_nil)))) (pa_cons (pe_op op_sub (pv 2) pe_int) (pa_cons (pv 3) pa_nil))))))
      (pss_one (ps_set (i := 6) sc.nd rfl (by first | exact Or.inl rfl | exact Or.inr rfl) (pe_ifExp (pt_cmp (pc_isN (pv 9))) pe_non (C8.pe_c c_led_front hr (by omega) rfl (pa_cons (pv 9) (pa_cons (pv 5) pa_nil))))))) pss_nil)
      (pss_cons (ps_KDput hr.units (pv 3) (pv 4) (pe_tup (pa_cons (pv 2) (pa_cons (pv 6) pa_nil))) (by rfl))
      (pss_one (ps_ret (pv 6))))))))))))
abbrev s_joined_word : Stmt := top 106
abbrev Ns_joined_word : List Str := ["change", "word", "most", "kept", "first", "rest"]
theorem sc_joined_word : FnScope Ns_joined_word ["change", "word", "most", "kept"] (defScope s_joined_word) := ⟨rfl, rfl, rfl, by decide +kernel, rfl, by decide +kernel, by decide +kernel⟩
def t_joined_word (K : PySem.W.Frag) (w : World) (MB MW : Nat) : TS := (tSeq (tIfS (tTest (tOp (rEqD K) (tVar 1) (tTup tNil))) (tRet (tIf (tTest (tOp (rI0 fun i j => .bl (decide (i ≤ j))) (tProp (He.ga K "Change") (pm_Change_length K).sp [] E0 (tVar 0)) (tVar 2))) (tVar 0) (tC .non))) tNext)
    (tSeq (tAsg (tCall (pm_joined_button K w MB).sp [] E0 (tCons (tVar 0) (tCons (tOp (rIxT K) (tVar 1) (tC (.int 0))) (tCons (tVar 2) (tCons (tVar 3) tNil))))) (gName 4))
    (tSeq (tIfS (tB (tIsN (tVar 4))) (tRet (tC .non)) tNext)
    (tSeq (tAsg (tCall (pm_joined_word K w MW).sp [] E0 (tCons (tCall (pm_led_front K).sp [] E0 (tCons (tVar 4) (tCons (tOp (rIxT K) (tVar 1) (tC (.int 0))) tNil))) (tCons (tSl (rSlA K) (tVar 1) (tPart (tC (.int 1))) tNoPart) (tCons (tOp (rI0 fun i j => .int (i - j)) (tVar 2) (tC (.int 1))) (tCons (tVar 3) tNil))))) (gName 5))
    (tRet (tIf (tB (tIsN (tVar 5))) (tC .non) (tCall (pm_led_front K).sp [] E0 (tCons (tVar 5) (tCons (tOp (rIxT K) (tVar 1) (tC (.int 0))) tNil)))))))))
theorem sx_joined_word (T : Tx K mg) (M : Nat) : (pm_joined_word K w (M + 1)).body Ns_joined_word (t_joined_word K w (M + 1) M) := by
  rintro ⟨X, g, v, most, c⟩ ⟨h0, hM, hM2, hg, red, hv, hc⟩
  dsimp only [pm_joined_word]
  show SX _ [_, _, _, _, _, _] _
  have h0 : 0 ≤ most := h0
  have hM : most < ((M + 1 : Nat) : Int) := hM
  have hM2 : M + 1 ≤ 21 := hM2
  have hg : W.len g ≤ 20 := hg
  have red : W.len (W.mk v : W X.sys) = v.length := red
  have hv : v.length ≤ 60 := hv
  have hc : c + v.length * Bn most.toNat ≤ 16000000 := hc
  cases v with
  | nil =>
    refine q_if (b := true) (et_is (et_test (ex_eqD (shaped_of (encW_iD _) (by decide)) (shaped_of (k := 1) rfl (by decide)) (ex_var rfl) (ex_tup (ead_nil (K := K))))) rfl) (fun _ => ?_) (fun e => by cases e)
    refine sx_less (j := 3) (O' := oK K w X (c + ([] : List (Fin X.n)).length * Bn most.toNat)) rfl (oK_le (Nat.le_add_right c _)) ?_
    exact q_ret (ex_end (ex_is (ex_if (R := kOpt K X (if (W.len g : Int) ≤ most then some g else none)) (et_test (ex_le (ex_prop (pm_Change_length K) ⟨X, g⟩ (ex_var rfl) rfl (show W.len g ≤ 36 by omega)) (ex_var rfl))) (fun e => ex_is (ex_var rfl) (by rw [if_pos (of_decide_eq_true e)]; rfl)) (fun e => ex_is (ex_non (K := K)) (by rw [if_neg (of_decide_eq_false e)]; rfl))) (congrArg (kOpt K X) (W.told_of (W.told_nil g most)))) rfl)
  | cons a v =>
    obtain ⟨ha, hr, ey⟩ := W.red_cons red
    rw [List.length_cons] at hc hv
    have hBle : Bn (most - 1).toNat ≤ Bn most.toNat := by
      by_cases q : most = 0
      · rw [q]; exact Nat.le_refl _
      · have : most.toNat = (most - 1).toNat + 1 := by omega
        rw [this]
        show _ ≤ 1 + 4 * Bn (most - 1).toNat
        omega
    have hm1 : v.length * Bn (most - 1).toNat ≤ v.length * Bn most.toNat := Nat.mul_le_mul_left _ hBle
    have hm2 : (v.length + 1) * Bn most.toNat = v.length * Bn most.toNat + Bn most.toNat := Nat.succ_mul _ _
    refine q_if (b := false) (et_is (et_test (ex_eqD (shaped_of (encW_iD _) (by decide)) (shaped_of (k := 1) rfl (by decide)) (ex_var rfl) (ex_tup (ead_nil (K := K))))) (by rw [encW, eqv_nil]; rfl)) (fun e => by cases e) (fun _ => sx_pass ?_)
    have hT1 := W.told_gen g a most
    refine q_setH (j := 3) (pm_joined_button K w (M + 1)) ⟨X, g, a, most, c⟩ (eah_next (ex_var rfl) (eah_next (ex_ixT0 (d := encF a) (ds := v.map encF) (ex_var rfl)) (eah_next (ex_var rfl) (eah_here rfl rfl ea_nil)))) ⟨h0, hM, hM2, hg, by show c + Bn most.toNat ≤ 16000000; omega⟩ rfl ?_
    dsimp only
    generalize W.told g (W.gen a) most = r1 at hT1
    show SX _ [_, _, _, _, _, _] _
    cases r1 with
    | none =>
      refine q_if (b := true) (et_B (ex_isNO (r := (none : Option (W X.sys))) (ex_var rfl))) (fun _ => ?_) (fun e => by cases e)
      refine sx_less (j := 3) (O' := oK K w X (c + (a :: v).length * Bn most.toNat)) rfl (oK_le (by rw [List.length_cons]; omega)) ?_
      exact q_ret (ex_end (ex_is (ex_non (K := K)) (congrArg (kOpt K X) (W.told_of (W.told_no ha hT1)))) rfl)
    | some f =>
      have hfa : W.len (W.gen a * f) + 1 = W.len f := W.beg_gen.mp hT1.1.other
      have hfl : (W.len f : Int) ≤ most := hT1.2
      refine q_if (b := false) (et_B (ex_isNO (r := some f) (ex_var rfl))) (fun e => by cases e) (fun _ => sx_pass ?_)
      have hT2 := W.told_word (W.gen a * f) hr (most - 1)
      refine q_setH (j := 3) (pm_joined_word K w M) ⟨X, W.gen a * f, v, most - 1, c + Bn most.toNat⟩ (eah_next (ex_pm (pm_led_front K) ⟨X, f, a⟩ (ea_cons (ex_var rfl) (ea_cons (ex_ixT0 (d := encF a) (ds := v.map encF) (ex_var rfl)) ea_nil)) trivial) (eah_next (ex_is (ex_slT (ds := (a :: v).map encF) (ex_var rfl) (eo_some (ex_int (K := K))) eo_none) (congrArg (fun l => kd K (.tuple l)) (cutD_from (ds := (a :: v).map encF) (k := 1)))) (eah_next (ex_sub (ex_var rfl) (ex_int (K := K))) (eah_here rfl rfl ea_nil)))) ⟨by show 0 ≤ most - 1; omega, by show most - 1 < (M : Int); omega, by show M ≤ 21; omega, by show W.len (W.gen a * f) ≤ 20; omega, hr, by show v.length ≤ 60; omega, by show c + Bn most.toNat + v.length * Bn (most - 1).toNat ≤ 16000000; omega⟩ rfl ?_
      dsimp only
      generalize W.told (W.gen a * f) (W.mk v) (most - 1) = r2 at hT2
      have hT := W.told_go ha hT1 (by rw [ey]; exact hT2)
      refine sx_less (j := 3) (O' := oK K w X (c + (a :: v).length * Bn most.toNat)) rfl (oK_le (by rw [List.length_cons]; omega)) ?_
      refine sx_ret (ex_end (ex_is (ex_if (R := kOpt K X (r2.map fun z => W.gen a * z)) (b := r2.isNone) (et_B (ex_isNO (ex_var rfl))) (fun e => ?_) (fun e => ?_)) (congrArg (kOpt K X) (W.told_of hT))) rfl)
      · cases r2 with
        | none => exact ex_non (K := K)
        | some z => cases e
      · cases r2 with
        | none => cases e
        | some z => exact ex_pm (pm_led_front K) ⟨X, z, a⟩ (ea_cons (ex_var rfl) (ea_cons (ex_ixT0 (d := encF a) (ds := v.map encF) (ex_var rfl)) ea_nil)) trivial

theorem ok_joined_word (T : Tx K mg) (M k : Nat) (hk : 9 ≤ k) (c_Change_length : Prp P w K mg base 5 (He.ga K "Change") "length" (pm_Change_length K).sp) (c_led_front : C8.Cal P w K mg base 8 "led_front" (pm_led_front K).sp []) (c_joined_button : C8.Cal P w K mg base k "joined_button" (pm_joined_button K w (M + 1)).sp []) (c_joined_word : C8.Cal P w K mg base k "joined_word" (pm_joined_word K w M).sp []) {f : Addr} {fd : FuncData} (F : FnP K "joined_word" "joined_word" s_joined_word f fd) : FnOk P w K mg base CX0 (k + 1) f fd ["change", "word", "most", "kept"] (pm_joined_word K w (M + 1)).sp := by
  have sc := sc_joined_word
  refine F.ok sc (fun vs H Q E h => PmH.len (fun _ => rfl) vs H Q E h) (fun cdv A outer s H vs Q E hr h => ⟨t_joined_word K w (M + 1) M, PSs.nox ?_, PmH.go (sx_joined_word T M) vs H Q E h⟩)
  exact (pss_cons (ps_if (pt_cmpR (op_eqD hr.units) (pv 1) (pe_tup pa_nil) (nomark _)) (pss_one (ps_ret (pe_ifExp (pt_cmpR op_le (pe_pr c_Change_length hr (by omega) (pv 0)) (pv 2) (nomark _)) (pv 0) pe_non))) pss_nil)
      (pss_cons (ps_set (i := 4) sc.nd rfl (by first | exact Or.inl rfl | exact Or.inr rfl) (C8.pe_c c_joined_button hr (by omega) rfl (pa_cons (pv 0) (pa_cons (pe_ix ix_tup (pv 1) pe_int (fun _ _ => rfl)) (pa_cons (pv 2) (pa_cons (pv 3) pa_nil))))))
      (pss_cons (ps_if (pt_cmp (pc_isN (pv 4))) (pss_one (ps_ret pe_non)) pss_nil)
      (pss_cons (ps_set (i := 5) sc.nd rfl (by first | exact Or.inl rfl | exact Or.inr rfl) (C8.pe_c c_joined_word hr (by omega) rfl (pa_cons (C8.pe_c c_led_front hr (by omega) rfl (pa_cons (pv 4) (pa_cons (pe_ix ix_tup (pv 1) pe_int (fun _ _ => rfl)) pa_nil))) (pa_cons (pe_slice sl_tupA (pv 1) (po_some pe_int) po_none) (pa_cons (pe_op op_sub (pv 2) pe_int) (pa_cons (pv 3) pa_nil))))))
      (pss_one (ps_ret (pe_ifExp (pt_cmp (pc_isN (pv 5))) pe_non (C8.pe_c c_led_front hr (by omega) rfl (pa_cons (pv 5) (pa_cons (pe_ix ix_tup (pv 1) pe_int (fun _ _ => rfl)) pa_nil))))))))))
end
end Wk
namespace Wk
open PySem L2
/-! ### a new dict, given to a def that fills it -/
def EAN (w : World) (ta : TA) (Γ : List Slot) (k : Nat) (Rs : List Kn) : Prop := ∀ F B σ N H (Q : List V → Hp → Prop), Stt F B Γ σ N H → (∀ vs N' H' p, Stt F B Γ σ N' H' → Ex N N' → All2 N' Rs vs → vs[k]? = some (.ref p) → H' p = some (KDat w p []) → N' p = none → F p = none → ¬ B p →
  (∀ (j : Nat) (γ : Slot) (q : Addr), Γ[j]? = some γ → γ.holds = true → σ[j]? = some (some (.ref q)) → q ≠ p) → Q vs H') → ta σ H Q
section
variable {w : World} {Γ : List Slot} {te : TE} {targ : TA} {R : Kn} {Rs : List Kn} {k : Nat}
theorem ean_here : EAN w (tCons (tKDNew w) tNil) Γ 0 [kAny] := fun F B σ N H Q S c p hp =>
  c _ N _ p (S.hid hp) (Ex.refl N) ⟨trivial, trivial⟩ rfl upd_same (S.sub.none hp) (S.fr.none hp) (fun b => S.bh p b hp) (S.apart hp)
theorem ean_next (h : EX te Γ R) (hr : EAN w targ Γ k Rs) : EAN w (tCons te targ) Γ (k + 1) (R :: Rs) := fun F B σ N H Q S c =>
  h F B σ N H _ S fun x N1 H1 S1 e1 r1 => hr F B σ N1 H1 _ S1 fun vs N2 H2 p S2 e2 r2 q1 q2 q3 q4 q5 q6 => c (x :: vs) N2 H2 p S2 (e1.trans e2) ⟨R.mo _ _ _ e2 r1, r2⟩ (by simpa using q1) q2 q3 q4 q5 q6
theorem ex_pmN {E : XK} (P : PmH) (i : P.ι) (ha : EAN w targ Γ P.k (P.args i)) (hp : P.pre i) (hO : ∀ N p, (P.oc i).p N (KDat w p [])) : EX (tCall P.sp [] E targ) Γ (P.res i) := fun F B σ N H Q S c =>
  ha F B σ N H _ S fun vs N1 H1 p S1 e1 r1 q1 hH hN hF hB hA => by
    rw [List.append_nil]
    refine ⟨i, N1, p, _, S1.sub, hp, r1, q1, hN, hH, hO N1 p, fun v N2 H2 u' a1 a2 a3 a4 a5 a6 r2 => c v N2 H2 ?_ (e1.trans a2) r2⟩
    have keep : ∀ x o, x ≠ p → H1 x = some o → H2 x = some o := fun x o q e => a1 x o (by rw [less_ne q]; exact e)
    refine ⟨a3, fun x o e => keep x o (ne_of_none e hF) (S1.fr x o e), fun x bx => a4 x (S1.bh x bx) (S1.bl x bx), fun x bx => ?_, S1.len, fun j γ o hg ho => ?_, S1.ap⟩
    · have q : x ≠ p := fun z => hB (z ▸ bx)
      cases z : H1 x with
      | none => exact absurd z (S1.bh x bx)
      | some o => rw [keep x o q z]; exact Option.some_ne_none _
    · have z := S1.ok j γ o hg ho
      cases γ with
      | un => trivial
      | kn R => obtain ⟨v, e, r⟩ := z; exact ⟨v, e, R.mo _ _ _ a2 r⟩
      | own O2 =>
        obtain ⟨p2, u2, e2, a, b, cc, d2, r⟩ := z
        subst e2
        exact ⟨p2, u2, rfl, a, a4 p2 (by rw [d2]; exact Option.some_ne_none _) b, cc, keep p2 u2 (hA j _ p2 hg rfl ho) d2, O2.mo _ _ _ a2 r⟩
      | hel O2 =>
        obtain ⟨p2, u2, e2, a, b, cc, d2, r⟩ := z
        subst e2
        exact ⟨p2, u2, rfl, a, a4 p2 (by rw [d2]; exact Option.some_ne_none _) b, cc, keep p2 u2 (hA j _ p2 hg rfl ho) d2, O2.mo _ _ _ a2 r⟩
end
theorem oK_new {K : PySem.W.Frag} {w : World} {X : Tb} (N : Hp) (p : Addr) : (oK K w X 0).p N (KDat w p []) := ⟨p, [], rfl, Nat.zero_le _, List.nodup_nil, fun e he => by cases he⟩
/-- least_continuation's promise -/
noncomputable abbrev pm_least_continuation (K : PySem.W.Frag) : Pm := ⟨(X : Tb) × (W X.sys × W X.sys × Int), fun i => 0 ≤ i.2.2.2 ∧ i.2.2.2 ≤ 9 ∧ W.len i.2.1 ≤ 20 ∧ W.len i.2.2.1 ≤ 20, fun i => [kChg K i.1 i.2.1, kChg K i.1 i.2.2.1, kd K (.int i.2.2.2)], fun i => kOpt K i.1 (W.told i.2.1 i.2.2.1 i.2.2.2)⟩
end Wk
namespace Wk
open PySem L2
section
variable {P : Program} {w : World} {K : PySem.W.Frag} {mg : Str → Option Value} {base : Heap}

abbrev s_least_continuation : Stmt := top 107
abbrev Ns_least_continuation : List Str := ["change", "other", "most", "word"]
theorem sc_least_continuation : FnScope Ns_least_continuation ["change", "other", "most"] (defScope s_least_continuation) := ⟨rfl, rfl, rfl, by decide +kernel, rfl, by decide +kernel, by decide +kernel⟩
def t_least_continuation (K : PySem.W.Frag) (w : World) : TS := (tSeq (tDrop (tCall (pm_check_change K).sp [] E0 (tCons (tVar 0) tNil)))
    (tSeq (tDrop (tCall (pm_check_change K).sp [] E0 (tCons (tVar 1) tNil)))
    (tSeq (tDrop (tCall (pm_check_number K).sp [] E0 (tCons (tVar 2) (tCons (tC (.int 0)) (tCons (tC (vMOST_WORD K)) tNil)))))
    (tSeq (tDrop (tCall (pm_check_same_table K).sp [] E0 (tCons (tVar 0) (tCons (tVar 1) tNil))))
    (tSeq (tAsg (tProp (He.ga K "Change") (pm_Change_word K).sp [] E0 (tVar 1)) (gName 3))
    (tRet (tIf (tAnd (tTest (tOp (rI0 fun i j => .bl (decide (i ≤ j))) (tCB (rLenSeq K) (tCons (tVar 3) tNil)) (tVar 2))) (tTest (tOp (rI0 fun i j => .bl (decide (i ≤ j))) (tProp (He.ga K "Change") (pm_Change_length K).sp [] E0 (tVar 0)) (tVar 2)))) (tCall (pm_joined_word K w 10).sp [] E0 (tCons (tVar 0) (tCons (tVar 3) (tCons (tVar 2) (tCons (tKDNew w) tNil))))) (tC .non))))))))
theorem sx_least_continuation (T : Tx K mg) : (pm_least_continuation K).body Ns_least_continuation (t_least_continuation K w) := by
  rintro ⟨X, g, h, most⟩ ⟨h0, h9, hg, hh⟩
  dsimp only [pm_least_continuation]
  show SX _ [_, _, _, _] _
  have h0 : 0 ≤ most := h0
  have h9 : most ≤ 9 := h9
  have hg : W.len g ≤ 20 := hg
  have hh : W.len h ≤ 20 := hh
  refine q_drop (ex_pm (pm_check_change K) ⟨X, g⟩ (ea_cons (ex_var rfl) ea_nil) trivial) ?_
  refine q_drop (ex_pm (pm_check_change K) ⟨X, h⟩ (ea_cons (ex_var rfl) ea_nil) trivial) ?_
  refine q_drop (ex_pm (pm_check_number K) ⟨most, 0, 60⟩ (ea_cons (ex_var rfl) (ea_cons (ex_int (K := K)) (ea_cons (ex_MOST_WORD T) ea_nil))) ⟨h0, (by omega : most ≤ 60)⟩) ?_
  refine q_drop (ex_pm (pm_check_same_table K) ⟨X, g, h⟩ (ea_cons (ex_var rfl) (ea_cons (ex_var rfl) ea_nil)) trivial) ?_
  refine q_set (ex_prop (pm_Change_word K) ⟨X, h⟩ (ex_var rfl) rfl (show W.len h ≤ 36 by omega)) ?_
  have fl := W.first_len h
  have fm := W.first_mk h
  refine sx_ret (ex_if (b := decide (((W.first h).length : Int) ≤ most) && decide ((W.len g : Int) ≤ most)) (et_and (et_test (ex_le (ex_lenW (w := W.first h) (ex_var rfl)) (ex_var rfl))) fun _ => et_test (ex_le (ex_prop (pm_Change_length K) ⟨X, g⟩ (ex_var rfl) rfl (show W.len g ≤ 36 by omega)) (ex_var rfl))) (fun e => ?_) (fun e => ?_))
  · rw [Bool.and_eq_true, decide_eq_true_iff, decide_eq_true_iff] at e
    have hb : Bn most.toNat ≤ 349525 := (show ∀ k, k < 10 → Bn k ≤ 349525 by decide) _ (by omega)
    have hm : (W.first h).length * Bn most.toNat ≤ 9 * 349525 := Nat.mul_le_mul (by omega) hb
    refine ex_is (ex_pmN (pm_joined_word K w 10) ⟨X, g, W.first h, most, 0⟩ (ean_next (ex_var rfl) (ean_next (ex_var rfl) (ean_next (ex_var rfl) ean_here))) ⟨h0, by show most < (10 : Nat); omega, by decide, hg, by rw [fm, fl], by show (W.first h).length ≤ 60; omega, by show 0 + (W.first h).length * Bn most.toNat ≤ 16000000; omega⟩ oK_new) ?_
    show kOpt K X (W.told g (W.mk (W.first h)) most) = kOpt K X (W.told g h most)
    rw [fm]
  · refine ex_is (ex_non (K := K)) (congrArg (kOpt K X) (W.told_of (r := none) fun x a b => ?_))
    have l1 := W.beg_le a
    have l2 := W.beg_le b
    rw [Bool.and_eq_false_iff, decide_eq_false_iff_not, decide_eq_false_iff_not, fl] at e
    omega

theorem ok_least_continuation (T : Tx K mg) (k : Nat) (hk : 9 ≤ k) (c_check_change : C8.Cal P w K mg base 1 "check_change" (pm_check_change K).sp []) (c_check_number : C8.Cal P w K mg base 3 "check_number" (pm_check_number K).sp []) (c_check_same_table : C8.Cal P w K mg base 3 "check_same_table" (pm_check_same_table K).sp []) (c_Change_word : Prp P w K mg base 5 (He.ga K "Change") "word" (pm_Change_word K).sp) (c_Change_length : Prp P w K mg base 5 (He.ga K "Change") "length" (pm_Change_length K).sp) (c_joined_word : C8.Cal P w K mg base k "joined_word" (pm_joined_word K w 10).sp []) {f : Addr} {fd : FuncData} (F : FnP K "least_continuation" "least_continuation" s_least_continuation f fd) : FnOk P w K mg base CX0 (k + 1) f fd ["change", "other", "most"] (pm_least_continuation K).sp := by
  have sc := sc_least_continuation
  refine F.ok sc (fun vs H Q E h => Pm.len (fun _ => rfl) vs H Q E h) (fun cdv A outer s H vs Q E hr h => ⟨t_least_continuation K w, PSs.nox ?_, Pm.go (sx_least_continuation T) vs H Q E h⟩)
  exact (pss_cons (ps_expr (C8.pe_c c_check_change hr (by omega) rfl (pa_cons (pv 0) pa_nil)))
      (pss_cons (ps_expr (C8.pe_c c_check_change hr (by omega) rfl (pa_cons (pv 1) pa_nil)))
      (pss_cons (ps_expr (C8.pe_c c_check_number hr (by omega) rfl (pa_cons (pv 2) (pa_cons pe_int (pa_cons (C8.pe_gc rfl T.cMOST_WORD) pa_nil)))))
      (pss_cons (ps_expr (C8.pe_c c_check_same_table hr (by omega) rfl (pa_cons (pv 0) (pa_cons (pv 1) pa_nil))))
      (pss_cons (ps_set (i := 3) sc.nd rfl (by first | exact Or.inl rfl | exact Or.inr rfl) (pe_pr c_Change_word hr (by omega) (pv 1)))
      (pss_one (ps_ret (pe_ifExp (PW.pt (pw_and (pt_cmpR op_le (pe_callB call_len_seq rfl T.len_ PySem.boot_len (pa_cons (pv 3) pa_nil)) (pv 2) (nomark _)) (pw_and1 (pt_cmpR op_le (pe_pr c_Change_length hr (by omega) (pv 0)) (pv 2) (nomark _))))) (C8.pe_c c_joined_word hr (by omega) rfl (pa_cons (pv 0) (pa_cons (pv 3) (pa_cons (pv 2) (pa_cons pe_KDnew pa_nil))))) pe_non))))))))

end
end Wk
/-! ### a walk over a dict of the module, text keys -/
namespace Wk
open PySem PySem.Spec PyProof.Rows L2
def KKeys (K : PySem.W.Frag) (d : Addr) (xs : List Str) (ep : Nat) : Prop := ∃ es, K.lookup d = some ⟨.type "dict", none, .dict es ep, #[]⟩ ∧ (d == sysModules) = false ∧ es.size = xs.length ∧ ∀ (i : Nat) (x : Str), xs[i]? = some x → ∃ (en : DictEntry) (t : Tok), es[i]? = some en ∧ en.key = .str x t
def ItKd (xs : List Str) : It := ⟨fun i _ => i < xs.length, fun i H v H' => H' = H ∧ ∃ x, xs[i]? = some x ∧ v = .str x, fun i _ => xs.length ≤ i⟩
theorem turn_kd {P : Program} {w : World} {K : PySem.W.Frag} {tg : Expr} {d : Addr} {xs : List Str} {ep : Nat} (it : Addr) (hk : KKeys K d xs ep) : Turn P w K tg (ItKd xs) [it] it (fun i h => h.IsKeyIter it d i xs.length ep) where
  mem := by simp
  obj := fun i h st b hb => by
    have e : b = it := by simpa using hb
    subst e
    obtain ⟨oi, e, c, dd⟩ := st
    exact ⟨oi, e, fun v z => by rw [dd] at z; cases z⟩
  keep := fun i h h' st k => st.at fun oi e => k it (by simp) oi e
  item := by
    intro X hP hw hK hc i pins s σ H E I hf st hg
    subst hP hw hK
    obtain ⟨es, hl, hs, hsz, ent⟩ := hk
    obtain ⟨f0, f1, f2, f3, f4, f5⟩ := hf it (by simp)
    obtain ⟨x, hx⟩ : ∃ x, xs[i]? = some x := ⟨_, List.getElem?_eq_getElem hg⟩
    obtain ⟨en, t, hen, hkey⟩ := ent i x hx
    refine next_key_item st (I.kIn _ _ hl) rfl hsz hen fun h' st' sb => ?_
    have I1 : L2.Inv X pins σ H { s with heap := h' } := I.turned (t' := s.toks) (fun b ob hb e => (sb.2 b hb).trans e) f0 f1 f3 f4 f5
    obtain ⟨oi, e, c, dd⟩ := id st'
    exact ⟨en.key, rfl, go_of (s := { s with heap := h' }) e c dd (by decide) ⟨.str x, H, I1, by rw [hkey]; exact ⟨t, rfl⟩, ⟨rfl, x, hx, rfl⟩, st', fun b hb => (hf b hb).1⟩⟩
  done := by
    intro X hP hw hK hc i pins s σ H E I hf st hg
    subst hP hw hK
    obtain ⟨es, hl, hs, hsz, ent⟩ := hk
    obtain ⟨f0, f1, f2, f3, f4, f5⟩ := hf it (by simp)
    exact next_key_end (I.ok.hd hc) st (I.kIn _ _ hl) rfl hsz hg fun h' eb => ⟨rfl, I.turned (t' := s.toks) (fun b ob hb e => eb b ob hb e) f0 f1 f3 f4 f5⟩
  self := fun A i s Q E st h => by
    refine wpAny_pyIter_slot st.typeIs F.slot_dict_keyiterator_iter (wpAny_call_entry F.slot_dict_keyiterator_iter st.typeIs F.entry_dict_keyiterator_iter ?_ (F.args_dict_keyiterator_iter_1 _))
    show wpAny _ _ (ret (.ref it)) _ _ s
    exact wpAny_pure ⟨_, rfl, "dict_keyiterator", _, st.typeIs, F.slot_dict_keyiterator_next.lookup, h⟩
def iKd (K : PySem.W.Frag) (td : TE) : TI := fun σ H R => td σ H fun x H1 => ∃ d xs ep, x = .ref d ∧ KKeys K d xs ep ∧ R (ItKd xs) H1
theorem pi_kd {X : Cx} {tg e : Expr} {td : TE} (he : PE X e td) : PI X tg e (iKd X.K td) := by
  refine ⟨fun pins s σ H R I h => ?_⟩
  refine thn (he.run pins s σ H _ I h) fun u s1 ⟨x, H1, I1, rx, d, xs, ep, ex, hk, q⟩ => ?_
  subst ex
  obtain rfl : u = Value.ref d := rx
  obtain ⟨es, hl, hs, hsz, ent⟩ := id hk
  refine iter_keys hs (I1.kIn _ _ hl) ⟨rfl, rfl, rfl⟩ rfl (pi_one (tk := s1.toks) I1 _ (turn_kd _ hk) ⟨_, Heap.get?_push_size _ rfl, rfl, ?_⟩ q)
  rw [hsz] <;> rfl
section
variable {K : PySem.W.Frag} {Γ : List Wk.Slot}
theorem iw_kd {d : Addr} {xs : List Str} {ep : Nat} (hk : KKeys K d xs ep) : IX (iKd K (tC (.ref d))) Γ xs.length (kdAt K (xs.map .str)) := fun F B σ N H Q S k => by
  refine ⟨d, xs, ep, rfl, hk, k _ N H S (Ex.refl N) ⟨fun i H2 hi e => hi, fun H2 e => Nat.le_refl _, fun i H2 x H3 hi y F B Γ σ N2 e2 S2 => ?_⟩⟩
  obtain ⟨rfl, z, hz, rfl⟩ := y
  refine ⟨N2, S2, Ex.refl _, ?_⟩
  rw [kdAt_of (d := .str z) (by rw [List.getElem?_map, hz]; rfl)]
  exact .str z
end
end Wk
namespace Wk
open PySem L2
section
variable {K : PySem.W.Frag} {Γ : List Wk.Slot} {ta tb : TE}
/-- a word + a word, texts -/
theorem ex_catS {a b : Str} (ha : EX ta Γ (kd K (.str a))) (hb : EX tb Γ (kd K (.str b))) (hl : a.length + b.length ≤ sizeLine) : EX (tOp (fun x y H Q => ∃ i j, x = .str i ∧ y = .str j ∧ i.length + j.length ≤ sizeLine ∧ Q (.str (i ++ j)) H) ta tb) Γ (kd K (.str (a ++ b))) :=
  ex_op ha hb fun F B Γ σ N H x y Q S hx hy c => by
    cases hx; cases hy
    exact ⟨a, b, rfl, rfl, hl, c _ N H S (Ex.refl N) (.str _)⟩
/-- a list of one's own that nothing changes any more -/
def kL (K : PySem.W.Frag) (ds : List PyData) : Kn := ⟨fun N v => ∃ a vs, v = .ref a ∧ N a = some (.lst vs) ∧ DpAll K N vs ds, fun N N' v e ⟨a, vs, h1, h2, h3⟩ => ⟨a, vs, h1, e _ _ h2, dpAll_mono e _ _ h3⟩⟩
theorem kL_kd {ds : List PyData} {N : Hp} {v : V} (h : (kL K ds).p N v) : (kd K (.list ds)).p N v := by
  obtain ⟨a, vs, e, h1, h2⟩ := h
  subst e
  exact .lst (SqL.of h1) h2
theorem ex_kL {ds : List PyData} {te : TE} (h : EX te Γ (kL K ds)) : EX te Γ (kd K (.list ds)) := ex_weak h fun N v r => kL_kd r
theorem ex_ofLL {ds : List PyData} {te : TE} (h : EXL K te Γ ds) : EX te Γ (kL K ds) := fun F B σ N H Q S k =>
  h F B σ N H _ S fun p N1 H1 vs S1 e1 hp r1 n1 f1 b1 d1 => k _ _ _ (S1.freeze hp n1 b1 d1) (e1.trans (Ex.new n1)) ⟨p, vs, rfl, upd_same, dpAll_mono (Ex.new n1) _ _ r1⟩
theorem exl_catL {ds es : List PyData} (ha : EX ta Γ (kL K ds)) (hb : EX tb Γ (kL K es)) (hl : ds.length + es.length ≤ 1000) : EXL K (tOp rCat ta tb) Γ (ds ++ es) := fun F B σ N H Q S k =>
  ha F B σ N H _ S fun x N1 H1 S1 e1 ⟨a, vs, ex, h1, h2⟩ => hb F B σ N1 H1 _ S1 fun y N2 H2 S2 e2 ⟨b, us, ey, h3, h4⟩ => by
    subst ex ey
    refine ⟨a, b, vs, us, rfl, rfl, S2.sub _ _ (e2 _ _ h1), S2.sub _ _ h3, small (by rw [dpAll_len h2, dpAll_len h4]; exact hl), fun p hp => ?_⟩
    exact k p N2 _ _ (S2.hid hp) (e1.trans e2) upd_same (dpAll_append (dpAll_mono e2 _ _ h2) h4) (S2.sub.none hp) (S2.fr.none hp) (fun b => S2.bh p b hp) (S2.apart hp)
end
end Wk
/-! ### sorted of a tuple of ints, of a list of lists of ints -/
namespace Wk
open PySem PySem.Spec PyProof.Rows L2
section
variable {prog : Program} {w : World} {A : Around} {E : Value → Shared → Prop} {s : Shared}
theorem wkCollectTup {l : Addr} {vs : List Value} {Q : List Value → Shared → Prop} (hl : s.heap.IsTuple l vs.toArray)
    (h : Q vs { s with heap := (s.heap.push (seqObj "list" #[] 0)).update s.heap.objs.size (Obj.mapSeq (· ++ vs.toArray)) }) (hsz : vs.length ≤ sizeLine) :
    wpAny (model prog w) A (collect (.ref l)) Q E s := by
  obtain ⟨o, ho, hc, n, hd⟩ := id hl
  unfold collect
  refine wpAny_bind (wpAny_runValue (codeAny_builtin entry_proto_collect' ?_))
  show wpAny _ _ (do again (.builtin "list.__iadd__" ⟨[← newList [], .ref l], []⟩)) _ _ s
  refine wpAny_bind (wpAny_newList (wpAny_pure ⟨Code.quiet_builtin _ (by decide +kernel), codeAny_builtin entry_list_iadd' ?_⟩))
  show wpAny _ _ (Builtin.List.listExtendWith (.ref s.heap.objs.size) (.ref l) (.ref s.heap.objs.size)) _ _ { s with heap := s.heap.push (seqObj "list" #[] 0) }
  unfold Builtin.List.listExtendWith
  have ho' : (s.heap.push (seqObj "list" #[] 0)).get? l = some o := Heap.get?_push_of_some _ ho
  refine wpAny_bind (wpAny_typeOf (T := "tuple") ⟨o, ho', hc⟩ ?_)
  have ht : (Value.type "tuple" == Value.type "tuple") = true := by rfl
  rw [if_pos (by rw [ht]; simp)]
  refine wpAny_bind (listItems_at ho' hd ?_)
  refine wpAny_bind (listItems_at (xs := #[]) (n := 0) (Heap.get?_push_size _ rfl) rfl ?_)
  rw [if_neg (by simp)]
  refine wpAny_bind (listUpdate_at (xs := #[]) (n := 0) (Heap.get?_push_size _ rfl) rfl ?_ (Nat.zero_le _) (by show (#[] ++ vs.toArray).size ≤ sizeLine + 1; simp only [Array.size_append, List.size_toArray, List.length_nil]; omega))
  refine wpAny_pure ?_
  show wpAny (model prog w) A (do
      let o ← load s.heap.objs.size
      match o.data with
      | .seq xs _ => pure xs.toList
      | _ => unsupported "internal:collect") Q E { s with heap := (s.heap.push (seqObj "list" #[] 0)).update s.heap.objs.size (Obj.mapSeq (· ++ vs.toArray)) }
  refine wpAny_bind (wpAny_load (get?_update_seq (Heap.get?_push_size _ rfl) _) ?_)
  show wpAny _ _ (pure ((#[] : Array Value) ++ vs.toArray).toList) Q E _
  rw [show ((#[] : Array Value) ++ vs.toArray).toList = vs by simp]
  exact wpAny_pure h
theorem wkSortedTup {l : Addr} {vs : List Value} {ns : List Int} {Q : Value → Shared → Prop} (hl : s.heap.IsTuple l vs.toArray) (hI : IntsAre vs ns) (h64 : vs.length < 64)
    (h : ∀ (out : Array Value) (ns' : List Int), IntsAre out.toList ns' → ns'.Perm ns → ns'.Pairwise (· ≤ ·) → Q (.ref (s.heap.objs.size + 1)) { s with heap := sortedAll s.heap vs out }) :
    wpAny (model prog w) A (call (.builtin "sorted") [.ref l]) Q E s := by
  refine Calls.call_function_entry kind_sorted plain_sorted entry_sorted (args_sorted1 _) ?_
  unfold Builtin.«sorted»
  refine wpAny_bind (m := checkCount "sorted" 1 1 _) (wpAny_pure ?_)
  refine wpAny_bind (wkCollectTup hl ?_ (small64 h64))
  refine wpAny_bind (wpAny_newList ?_ (small64 h64))
  have hsz : ((s.heap.push (seqObj "list" #[] 0)).update s.heap.objs.size (Obj.mapSeq (· ++ vs.toArray))).objs.size = s.heap.objs.size + 1 := by
    rw [Heap.size_update, size_push']
  have hoL : (((s.heap.push (seqObj "list" #[] 0)).update s.heap.objs.size (Obj.mapSeq (· ++ vs.toArray))).push (seqObj "list" vs.toArray 0)).get? (s.heap.objs.size + 1) = some (seqObj "list" vs.toArray 0) := by
    rw [← hsz]; exact Heap.get?_push_size _ rfl
  show wpAny _ _ _ _ _ { s with heap := ((s.heap.push (seqObj "list" #[] 0)).update s.heap.objs.size (Obj.mapSeq (· ++ vs.toArray))).push (seqObj "list" vs.toArray 0) }
  rw [hsz]
  refine wpAny_bind (wpAny_holding (wpAny_call_entry slot_list_sort ⟨_, hoL, rfl⟩ entry_list_sort (list_sort_tree hoL hI h64 fun out ns' a1 a2 a3 => ⟨_, rfl, ?_⟩) (args_list_sort _)))
  exact wpAny_pure ⟨_, rfl, h out ns' a1 a2 a3⟩
end
def rSortedTI (K : PySem.W.Frag) : List V → Hp → VK → Prop := fun vs H Q => ∃ (a : Addr) (ns : List Int), vs = [V.ref a] ∧ SqT K H a (ns.map V.int) ∧ ns.length < 64 ∧
  ∀ (ns' : List Int) (p : Addr), ns'.Perm ns → ns'.Pairwise (· ≤ ·) → H p = none → Q (.ref p) (upd H p (.lst (ns'.map V.int)))
def encL (ns : List Int) : PyData := .list (ns.map .int)
def rSortedLL (K : PySem.W.Frag) : List V → Hp → VK → Prop := fun vs H Q => ∃ (a : Addr) (xs : List V) (bs : List (List Int)) (N : Hp), vs = [V.ref a] ∧ SqL K H a xs ∧ Ex N H ∧ DpAll K N xs (bs.map encL) ∧ bs.length ≤ 1000 ∧ bs.Pairwise (· ≤ ·) ∧
  ∀ (ys : List V) (p : Addr), DpAll K N ys (bs.map encL) → H p = none → Q (.ref p) (upd H p (.lst ys))
section
variable {X : Cx}
theorem cr_sortedTI : CallR X (.builtin "sorted") (rSortedTI X.K) := by
  intro pins s σ H vs us Q I r h
  obtain ⟨a, ns, rfl, hs, h64, q⟩ := h
  obtain ⟨its, rv, hl, _⟩ := I.tuple hs
  rw [Vals.ref1 r]
  have hi := rv.ints
  refine wkSortedTup (show s.heap.IsTuple a its.toArray from hl) hi (by rw [hi.length]; exact h64) fun out ns' h1 h2 h3 => ?_
  obtain ⟨ep, he'⟩ := sortedAll_at s.heap its out
  have hlen : (ns'.map V.int).length ≤ sizeLine := by rw [List.length_map, h2.length_eq]; exact small64 h64
  exact ⟨.ref _, upd H (s.heap.objs.size + 1) (.lst (ns'.map V.int)), I.laid (t' := s.toks) (fun _ _ => sortedAll_old) (Nat.le_succ _) ⟨hlen, out.toList, ep, vals_of_ints h1, he'⟩, rfl, q ns' _ h2 h3 (I.hok.fresh (Nat.le_succ _))⟩
theorem wk_each {H : Hp} {K : PySem.W.Frag} : ∀ {xs : List V} {us : List Value} {bs : List (List Int)}, Vals xs us → DpAll K H xs (bs.map encL) → PySem.W.EachIs (fun u b => ∃ x, RelV x u ∧ Dp K H x (encL b)) us bs
  | [], _, [], r, _ => by cases r; exact .nil
  | [], _, b :: bs, r, h => by cases h
  | x :: xs, _, [], r, h => by cases h
  | x :: xs, _, b :: bs, r, h => by
    cases r with
    | cons r1 r2 =>
      cases h with
      | cons h1 h2 => exact .cons ⟨x, r1, h1⟩ (wk_each r2 h2)
theorem wk_each_back {H : Hp} {K : PySem.W.Frag} : ∀ {us : List Value} {bs : List (List Int)}, PySem.W.EachIs (fun u b => ∃ x, RelV x u ∧ Dp K H x (encL b)) us bs → ∃ xs, Vals xs us ∧ DpAll K H xs (bs.map encL)
  | _, _, .nil => ⟨[], .nil, .nil⟩
  | _, _, .cons ⟨x, r1, h1⟩ h => by
    obtain ⟨xs, r2, h2⟩ := wk_each_back h
    exact ⟨x :: xs, .cons r1 r2, .cons h1 h2⟩
theorem encL_depth (ns : List Int) : (encL ns).depth ≤ 2 := by
    have h : PyData.depthAll (ns.map .int) = 0 := PySem.W.depth_ints ns
    unfold encL
    rw [PyData.depth]
    omega
theorem cr_sortedLL (hu : X.A.units + 64 < cLine) : CallR X (.builtin "sorted") (rSortedLL X.K) := by
  intro pins s σ H vs us Q I r h
  obtain ⟨a, xs, bs, N, rfl, hs, eN, hd, hl, hp, q⟩ := h
  obtain ⟨its, rv, hT, _⟩ := I.list hs
  rw [Vals.ref1 r]
  have e := wk_each rv hd
  refine PySem.W.sorted_data (enc := encL) (bs := bs) (vs := its) hT.isList e (e.mono fun u b ⟨x, r1, h1⟩ => Dp.reads I _ x u (dp_mono eN _ _ h1) r1) (PySem.W.AllAlike.of fun b b' => ?_) (PySem.W.Sortable.others fun b => (⟨PyData.noConfusion, fun ys => PyData.noConfusion⟩ : encL b ≠ .none ∧ ∀ ys, encL b ≠ .tuple ys)) (Nat.le_trans hl (by decide)) (fun b _ => ?_) fun out h1 h2 => ?_
  · simp only [encL, PySem.W.alike]
    exact PySem.W.alike_ints b b'
  · have := encL_depth b
    omega
  · rw [show PySem.W.dataLe false encL = _ from PySem.W.dataLe_rows (fun b : List Int => b), List.mergeSort_of_pairwise (hp.imp fun h => by simpa using h)] at h2
    obtain ⟨ys, r2, d2⟩ := wk_each_back h2
    obtain ⟨ep, he'⟩ := sortedAll_at s.heap its out.toArray
    refine ⟨.ref _, upd H (s.heap.objs.size + 1) (.lst ys), I.laid (t' := s.toks) (fun _ _ => sortedAll_old) (Nat.le_succ _) ⟨?_, out, ep, r2, he'⟩, rfl, q ys _ d2 (I.hok.fresh (Nat.le_succ _))⟩
    rw [dpAll_len d2, List.length_map]
    exact Nat.le_trans hl (by decide)
end
section
variable {K : PySem.W.Frag} {Γ : List Wk.Slot} {te : TE}
theorem exl_sortedTI {ns ns' : List Int} (h : EX te Γ (kd K (.tuple (ns.map .int)))) (hl : ns.length < 64) (hs : ∀ zs : List Int, zs.Perm ns → zs.Pairwise (· ≤ ·) → zs = ns') : EXL K (tCB (rSortedTI K) (tCons te tNil)) Γ (ns'.map .int) := fun F B σ N H Q S k =>
  h F B σ N H _ S fun v N1 H1 S1 e1 r1 => by
    cases r1 with
    | @tup a xs _ h1 a1 =>
      refine ⟨a, ns, rfl, by rw [← dpAll_ints a1]; exact ex_t S1.sub h1, hl, fun zs q p1 p2 hq => ?_⟩
      rw [hs zs p1 p2]
      exact k q N1 _ _ (S1.hid hq) e1 upd_same (ints_dpAll ns') (S1.sub.none hq) (S1.fr.none hq) (fun b => S1.bh q b hq) (S1.apart hq)
theorem exl_sortedLL {bs : List (List Int)} (h : EXL K te Γ (bs.map encL)) (hl : bs.length ≤ 1000) (hp : bs.Pairwise (· ≤ ·)) : EXL K (tCB (rSortedLL K) (tCons te tNil)) Γ (bs.map encL) := fun F B σ N H Q S k =>
  ex_ofL h F B σ N H _ S fun v N1 H1 S1 e1 r1 => by
    cases r1 with
    | @lst a xs _ h1 a1 =>
      exact ⟨a, xs, bs, N1, rfl, ex_l S1.sub h1, S1.sub, a1, hl, hp, fun ys q d hq => k q N1 _ _ (S1.hid hq) e1 upd_same d (S1.sub.none hq) (S1.fr.none hq) (fun b => S1.bh q b hq) (S1.apart hq)⟩
end
end Wk
namespace Wk
open PySem L2
/-! ### texts -/
abbrev rLenS : List V → Hp → VK → Prop := fun xs H Q => ∃ z, xs = [.str z] ∧ z.length ≤ sizeLine ∧ Q (.int z.length) H
abbrev rStrI : List V → Hp → VK → Prop := fun xs H Q => ∃ i : Int, xs = [.int i] ∧ i.natAbs.log2 < 1920 ∧ Q (.str (toString i)) H
abbrev rIntS : List V → Hp → VK → Prop := fun xs H Q => ∃ a n, xs = [.str a] ∧ PySem.intText? a = some n ∧ a.length ≤ 640 ∧ Q (.int n) H
abbrev rNotInStr : R2 := fun x y H Q => ∃ i j, x = .str i ∧ y = .str j ∧ Q (.bl (!(!(Builtin.Str.occurrences j i 0 j.length 1).isEmpty))) H
section
variable {K : PySem.W.Frag} {Γ : List Wk.Slot} {te ta tb : TE} {tl th : TO}
theorem ex_slS {z : Str} {lo hi : Option Int} (ha : EX ta Γ (kd K (.str z))) (hl : EO tl Γ lo) (hh : EO th Γ hi) (hz : z.length ≤ sizeLine := by decide +kernel) : EX (tSl rSlS ta tl th) Γ (kd K (.str (cutS z lo hi))) := fun F B σ N H Q S k =>
  ha F B σ N H _ S fun x N1 H1 S1 e1 r1 => hl F B σ N1 H1 _ S1 fun N2 H2 S2 e2 => hh F B σ N2 H2 _ S2 fun N3 H3 S3 e3 => by
    cases r1
    exact ⟨z, rfl, hz, k _ N3 H3 S3 ((e1.trans e2).trans e3) (.str _)⟩
theorem ex_ixS {z : Str} {i : Int} {c : Nat} (ha : EX ta Γ (kd K (.str z))) (hb : EX tb Γ (kd K (.int i))) (h : atI z.cps.toList i = some c) (hz : z.length ≤ sizeLine := by decide +kernel) : EX (tOp rIxS ta tb) Γ (kd K (.str ⟨#[c]⟩)) :=
  ex_op ha hb fun F B Γ σ N H x y Q S hx hy k => by
    cases hx; cases hy
    exact ⟨z, i, c, rfl, rfl, hz, h, k _ N H S (Ex.refl N) (.str _)⟩
theorem ex_lenS {z : Str} (h : EX te Γ (kd K (.str z))) (hz : z.length ≤ sizeLine := by decide +kernel) : EX (tCB rLenS (tCons te tNil)) Γ (kd K (.int (z.length : Int))) := fun F B σ N H Q S k =>
  h F B σ N H _ S fun v N1 H1 S1 e1 r1 => by
    cases r1
    exact ⟨z, rfl, hz, k _ N1 H1 S1 e1 (.int _)⟩
theorem ex_strI {i : Int} (h : EX te Γ (kd K (.int i))) (hi : i.natAbs.log2 < 1920 := by decide) : EX (tCB rStrI (tCons te tNil)) Γ (kd K (.str (toString i))) := fun F B σ N H Q S k =>
  h F B σ N H _ S fun v N1 H1 S1 e1 r1 => by
    cases r1
    exact ⟨i, rfl, hi, k _ N1 H1 S1 e1 (.str _)⟩
theorem ex_intS {a : Str} {n : Int} (h : EX te Γ (kd K (.str a))) (hn : PySem.intText? a = some n) (hl : a.length ≤ 640 := by decide +kernel) : EX (tCB rIntS (tCons te tNil)) Γ (kd K (.int n)) := fun F B σ N H Q S k =>
  h F B σ N H _ S fun v N1 H1 S1 e1 r1 => by
    cases r1
    exact ⟨a, n, rfl, hn, hl, k _ N1 H1 S1 e1 (.int _)⟩
theorem ex_notInStr {i j : Str} {b : Bool} (ha : EX ta Γ (kd K (.str i))) (hb : EX tb Γ (kd K (.str j))) (h : (!(!(Builtin.Str.occurrences j i 0 j.length 1).isEmpty)) = b) : EX (tOp rNotInStr ta tb) Γ (kd K (.bool b)) :=
  ex_op ha hb fun F B Γ σ N H x y Q S hx hy k => by
    cases hx; cases hy
    refine ⟨i, j, rfl, rfl, ?_⟩
    rw [h]
    exact k _ N H S (Ex.refl N) (.bl _)
end
/-! ### tables of the top with text keys -/
structure KTb (K : PySem.W.Frag) (w : World) (x : Str) (kvs : List (Str × Int)) : Prop where
  dict : ∃ es n, KDict K w (He.ga K x) es n
  val : ∀ q ∈ kvs, ∃ u, PySem.W.nsIn K (He.ga K x) q.1 = some (some u) ∧ RelV (.int q.2) u
  keys : ∃ ep, KKeys K (He.ga K x) (kvs.map (·.1)) ep
abbrev rInKd (K : PySem.W.Frag) (w : World) : R2 := fun x y H Q => ∃ (z : Str) (d : Addr) (r : Option Value), x = .str z ∧ y = .ref d ∧ (∃ es n, KDict K w d es n) ∧ PySem.W.nsIn K d z = some r ∧ Q (.bl r.isSome) H
theorem op_inKd {X : Cx} : OpR X (compareOp .In) (rInKd X.K X.w) := by
  intro pins s σ H x y v u Q I rx ry h
  obtain ⟨z, d, r, rfl, rfl, ⟨es, n, D⟩, e, q⟩ := h
  exact op_in_kd D pins s σ H _ _ v u Q I rx ry ⟨z, r, rfl, rfl, e, q⟩
section
variable {K : PySem.W.Frag} {w : World} {Γ : List Wk.Slot} {te ta tb : TE} {x : Str} {kvs : List (Str × Int)}
theorem ex_inTb (T : KTb K w x kvs) {k : Str} (i : Int) (hk : (k, i) ∈ kvs) (ha : EX ta Γ (kd K (.str k))) : EX (tOp (rInKd K w) ta (tC (.ref (He.ga K x)))) Γ (kd K (.bool true)) := fun F B σ N H Q S c =>
  ha F B σ N H _ S fun v N1 H1 S1 e1 r1 => by
    cases r1
    obtain ⟨u, e, r⟩ := T.val _ hk
    exact ⟨k, _, _, rfl, rfl, T.dict, e, c _ N1 H1 S1 e1 (.bl _)⟩
theorem ex_ixTb (T : KTb K w x kvs) {k : Str} (i : Int) (hk : (k, i) ∈ kvs) (hb : EX tb Γ (kd K (.str k))) : EX (tOp (rIxD K w) (tC (.ref (He.ga K x))) tb) Γ (kd K (.int i)) := fun F B σ N H Q S c =>
  hb F B σ N H _ S fun v N1 H1 S1 e1 r1 => by
    cases r1
    obtain ⟨u, e, r⟩ := T.val _ hk
    obtain ⟨es, n, D⟩ := T.dict
    exact ⟨_, k, .int i, rfl, rfl, ⟨es, n, u, D.at_, D.lit, e, r⟩, c _ N1 H1 S1 e1 (.int _)⟩
theorem iw_tb (T : KTb K w x kvs) : IX (iKd K (tC (.ref (He.ga K x)))) Γ kvs.length (kdAt K (kvs.map fun q => .str q.1)) := by
  obtain ⟨ep, h⟩ := T.keys
  have := iw_kd (K := K) (Γ := Γ) h
  rwa [List.length_map, List.map_map] at this
end
def leastL : List (Str × Int) := [("A", 1), ("B", 2), ("D", 4), ("E", 6), ("F", 4), ("G", 2), ("H", 2)]
def mostL : List (Str × Int) := [("A", 6), ("B", 6), ("D", 6), ("E", 6), ("F", 4), ("G", 2), ("H", 4)]
def flatLeastL : List (Str × Int) := [("A", 1), ("B", 3), ("C", 2), ("D", 4), ("F", 4), ("G", 2)]
def flatMostL : List (Str × Int) := [("A", 5), ("B", 5), ("C", 5), ("D", 5), ("F", 4), ("G", 2)]
def vLEAST (K : PySem.W.Frag) : V := .ref (He.ga K "LEAST")
def vMOST (K : PySem.W.Frag) : V := .ref (He.ga K "MOST")
def vFLAT_LEAST (K : PySem.W.Frag) : V := .ref (He.ga K "FLAT_LEAST")
def vFLAT_MOST (K : PySem.W.Frag) : V := .ref (He.ga K "FLAT_MOST")
/-- what the top has left of the names -/
structure Tn (K : PySem.W.Frag) (mg : Str → Option Value) (w : World) : Prop where
  cLEAST : ∃ u, mg "LEAST" = some u ∧ RelV (vLEAST K) u
  cMOST : ∃ u, mg "MOST" = some u ∧ RelV (vMOST K) u
  cFLAT_LEAST : ∃ u, mg "FLAT_LEAST" = some u ∧ RelV (vFLAT_LEAST K) u
  cFLAT_MOST : ∃ u, mg "FLAT_MOST" = some u ∧ RelV (vFLAT_MOST K) u
  least : KTb K w "LEAST" leastL
  most : KTb K w "MOST" mostL
  flatLeast : KTb K w "FLAT_LEAST" flatLeastL
  flatMost : KTb K w "FLAT_MOST" flatMostL
/-! ### a dict with pairs of ints as keys -/
abbrev Kvs := List (List Key × V)
def oDT (kvs : Kvs) : Oc := ⟨fun _ u => u = .dT kvs, fun _ _ _ _ h => h⟩
def k2 (a b : Int) : List Key := [.inl a, .inl b]
/-- a new pair -/
def kNP (a b : Int) : Kn := ⟨fun N v => ∃ p, v = .ref p ∧ N p = some (.tup [.int a, .int b]), fun _ _ _ e ⟨p, h1, h2⟩ => ⟨p, h1, e _ _ h2⟩⟩
section
variable {K : PySem.W.Frag} {Γ : List Wk.Slot} {te ta tb tx tv : TE} {P : Post} {u : TS} {j : Nat} {kvs : Kvs} {a b : Int}
theorem ex_np (ha : EX ta Γ (kd K (.int a))) (hb : EX tb Γ (kd K (.int b))) : EX (tTup (tCons ta (tCons tb tNil))) Γ (kNP a b) := fun F B σ N H Q S k =>
  ha F B σ N H _ S fun x N1 H1 S1 e1 r1 => hb F B σ N1 H1 _ S1 fun y N2 H2 S2 e2 r2 => by
    cases r1; cases r2
    exact ⟨small (Nat.le_of_ble_eq_true rfl), fun p hp => k _ _ _ (S2.new hp) ((e1.trans e2).trans (Ex.new (S2.sub.none hp))) ⟨p, rfl, upd_same⟩⟩
/-- an own dict is written -/
theorem q_putDT {i : Int} (hj : Γ[j]? = some (.own (oDT kvs))) (hk : EX tb Γ (kNP a b)) (hv : EX tv Γ (kd K (.int i))) (hl : kvs.length < 1000) (k : SX u (Γ.set j (.own (oDT (putK kvs (k2 a b) (.int i))))) P) : SX (tSeq (sDPut (tVar j) tb tv) u) Γ P := fun F B σ N H D S f =>
  hv F B σ N H _ S fun y N1 H1 S1 e1 r1 => by
    obtain ⟨p, uo, e, _⟩ := S1.own hj
    refine ⟨_, e, hk F B σ N1 H1 _ S1 fun z N2 H2 S2 e2 r2 => ?_⟩
    obtain ⟨p', uo', e', aa, bb, cB, d, hu⟩ := S2.own hj
    rw [e] at e'; cases e'
    cases hu
    obtain ⟨q, rfl, hq⟩ := r2
    cases r1
    exact ⟨p, _, rfl, DPut.t (k := k2 a b) d (S2.sub _ _ hq) (Nat.lt_of_lt_of_le hl (by decide)), k F B σ N2 _ D (S2.write (O' := oDT (putK kvs (k2 a b) (.int i))) hj e rfl) f⟩
theorem s_putDT {i : Int} (hj : Γ[j]? = some (.own (oDT kvs))) (hk : EX tb Γ (kNP a b)) (hv : EX tv Γ (kd K (.int i))) (hl : kvs.length < 1000) (k : P.nx (Γ.set j (.own (oDT (putK kvs (k2 a b) (.int i)))))) : SX (sDPut (tVar j) tb tv) Γ P := fun F B σ N H D S f =>
  q_putDT (u := tNext) hj hk hv hl (sx_nil k) F B σ N H D S f
/-- found.get(key, x) -/
theorem ex_getDT {i z : Int} (hj : Γ[j]? = some (.own (oDT kvs))) (hk : EX tb Γ (kNP a b)) (hx : EX tx Γ (kd K (.int z))) (h : (valV kvs (k2 a b)).getD (.int z) = .int i) : EX (tDGet2 (tVar j) tb tx) Γ (kd K (.int i)) := fun F B σ N H Q S c => by
  obtain ⟨p, uo, e, aa, bb, cB, d, hu⟩ := S.own hj
  cases hu
  refine ⟨_, e, p, rfl, .inr ⟨_, .inl d⟩, hk F B σ N H _ S fun y N1 H1 S1 e1 r1 => hx F B σ N1 H1 _ S1 fun x N2 H2 S2 e2 r2 => ?_⟩
  obtain ⟨p', uo', e', aa', bb', cB', d', hu'⟩ := S2.own hj
  rw [e] at e'; cases e'
  cases hu'
  obtain ⟨q, rfl, hq⟩ := r1
  cases r2
  refine ⟨_, DGet.t (k := k2 a b) d' (S2.sub _ _ (e2 _ _ hq)), ?_⟩
  rw [h]
  exact c _ N2 H2 S2 (e1.trans e2) (.int _)
/-- x = {} -/
theorem q_newDT {i : Nat} (k : SX u (Γ.set i (.own (oDT []))) P) : SX (tSeq (tAsg tDNewT (gName i)) u) Γ P := fun F B σ N H D S f => fun p hp =>
  k F B _ N _ D ((S.hid hp).setOwn i (S.fr.none hp) (S.sub.none hp) (fun b => S.bh p b hp) upd_same rfl (S.apart hp)) f
end
/-- a k-fold copy, k being 0 or 1 -/
abbrev pl : Nat := 0
end Wk
namespace Wk
open PySem PySem.Spec PyProof.Rows L2
theorem tuple_mul1 (l : Addr) (items : Array Value) (n : Nat) (dd : Option Addr) (sl : Array (Option Value)) (u : Tok) :
    Meets (Builtin.«tuple.__mul__» ⟨[.ref l, .int 1 u], []⟩) (fun _ R s => s.heap.get? l = some { cls := .type "tuple", dict := dd, data := .seq items n, slots := sl } ∧
      R (.ok (.ret (Value.ref l))) s) :=
  .of_wp fun prog w A R s h => by
    obtain ⟨hp, g, d, tk, os⟩ := s
    obtain ⟨hl, h⟩ := h
    have f1 := AutoSeq1.idx_int
    wp_walk using wpAny_loadPart' hl
    repeat (first
      | (refine wpAny_ite_false (by decide) ?_; wp_walk using wpAny_loadPart' hl)
      | (refine wpAny_ite_true (by simp) ?_; wp_walk using wpAny_loadPart' hl))
    exact ⟨_, rfl, h⟩
theorem tuple_mul0 (l : Addr) (items : Array Value) (n : Nat) (dd : Option Addr) (sl : Array (Option Value)) (u : Tok) (hne : items.isEmpty = false) :
    Meets (Builtin.«tuple.__mul__» ⟨[.ref l, .int 0 u], []⟩) (fun _ R s => s.heap.get? l = some { cls := .type "tuple", dict := dd, data := .seq items n, slots := sl } ∧
      R (.ok (.ret (Value.ref s.heap.objs.size))) { s with heap := s.heap.push { cls := Value.type "tuple", data := Data.seq #[] }, toks := s.toks }) :=
  .of_wp fun prog w A R s h => by
    obtain ⟨hp, g, d, tk, os⟩ := s
    obtain ⟨hl, h⟩ := h
    have f1 := AutoSeq1.idx_int
    wp_walk using wpAny_loadPart' hl
    repeat (first
      | (refine wpAny_ite_false (by decide) ?_; wp_walk using wpAny_loadPart' hl)
      | (refine wpAny_ite_false (by simp [hne]) ?_; wp_walk using wpAny_loadPart' hl)
      | (refine wpAny_ite_true (by simp) ?_; wp_walk using wpAny_loadPart' hl))
    exact ⟨_, rfl, h⟩
/-- a tuple, once or not at all -/
def rRepS (K : PySem.W.Frag) : R2 := fun x y H Q => ∃ l k xs, x = .ref l ∧ y = .int k ∧ SqT K H l xs ∧ xs ≠ [] ∧ ((k = 1 ∧ Q (.ref l) H) ∨ (k = 0 ∧ ∀ p, H p = none → Q (.ref p) (upd H p (.tup []))))
section
variable {X : Cx}
theorem op_repS : OpR X (binaryOp .Mult) (rRepS X.K) := by
  intro pins s σ H x y v u Q I rx ry h
  obtain ⟨l, k, xs, rfl, rfl, hT, hne, h⟩ := h
  cases rx
  obtain ⟨t, rfl⟩ := ry
  obtain ⟨its, r, ⟨⟨cls, dd, data, sl⟩, ho, hc, n, hd⟩, hs⟩ := I.tuple hT
  simp only at hc hd
  subst hc hd
  rcases h with ⟨rfl, q⟩ | ⟨rfl, q⟩
  · refine wpAny_binaryOp_repeat_ref (T := "tuple") (U := "int") (by decide) ⟨_, ho, rfl⟩ (fun s' => typeIs_int s' 1 t) noFill_tuple_mul F.fills_int_mul F.slot_int_rmul repeat_tuple F.slot_int_index.lookup
      (call_meets F.slot_int_rmul (typeIs_int s 1 t) F.entry_int_rmul (F.args_int_rmul_2 _ _) (int_rmul_tuple 1 t l its.toArray n dd sl)
        ⟨ho, rfl, ⟨_, ho, rfl⟩, call_meets F.slot_tuple_mul ⟨_, ho, rfl⟩ F.entry_tuple_mul (F.args_tuple_mul_2 _ _) (tuple_mul1 l its.toArray n dd sl t) ⟨ho, ?_⟩⟩)
    exact ⟨.ref l, H, I, rfl, q⟩
  · have hi : its.toArray.isEmpty = false := by
      cases its with
      | nil =>
        have := r.length
        exact absurd (List.eq_nil_of_length_eq_zero this) hne
      | cons a b => rfl
    refine wpAny_binaryOp_repeat_ref (T := "tuple") (U := "int") (by decide) ⟨_, ho, rfl⟩ (fun s' => typeIs_int s' 0 t) noFill_tuple_mul F.fills_int_mul F.slot_int_rmul repeat_tuple F.slot_int_index.lookup
      (call_meets F.slot_int_rmul (typeIs_int s 0 t) F.entry_int_rmul (F.args_int_rmul_2 _ _) (int_rmul_tuple 0 t l its.toArray n dd sl)
        ⟨ho, rfl, ⟨_, ho, rfl⟩, call_meets F.slot_tuple_mul ⟨_, ho, rfl⟩ F.entry_tuple_mul (F.args_tuple_mul_2 _ _) (tuple_mul0 l its.toArray n dd sl t hi) ⟨ho, ?_⟩⟩)
    refine ⟨.ref s.heap.objs.size, _, I.laid (t' := s.toks) (o := .tup []) (fun b ob q => Heap.get?_push_of_some _ q) (Nat.le_refl _) ?_, rfl, q _ (I.hok.fresh (Nat.le_refl _))⟩
    exact ⟨Nat.zero_le _, [], .nil, IsTup.new _ _⟩
end
section
variable {K : PySem.W.Frag} {Γ : List Wk.Slot} {ta tb : TE}
theorem ex_repS {d : PyData} {k : Nat} (ha : EX ta Γ (kd K (.tuple [d]))) (hb : EX tb Γ (kd K (.int (k : Int)))) (hk : k = 0 ∨ k = 1) : EX (tOp (rRepS K) ta tb) Γ (kd K (.tuple (List.replicate k d))) :=
  ex_op ha hb fun F B Γ σ N H x y Q S hx hy c => by
    cases hy
    cases hx with
    | @tup a xs _ h1 a1 =>
      have ne : xs ≠ [] := fun e => by subst e; cases a1
      refine ⟨a, _, xs, rfl, rfl, ex_t S.sub h1, ne, ?_⟩
      rcases hk with rfl | rfl
      · exact .inr ⟨rfl, fun p hp => c _ _ _ (S.new hp) (Ex.new (S.sub.none hp)) (dp_newT .nil (S.sub.none hp))⟩
      · exact .inl ⟨rfl, c _ N H S (Ex.refl N) (.tup h1 a1)⟩
end
end Wk
namespace Wk
open PySem L2
/-! ### an owned list that nothing changes any more -/
theorem Stt.frz {F : Hp} {B : Addr → Prop} {Γ : List Wk.Slot} {σ : St} {N H : Hp} (S : Stt F B Γ σ N H) {K : PySem.W.Frag} {j : Nat} {ds : List PyData} (h : Γ[j]? = some (.own (oL K ds))) : ∃ N', Stt F B (Γ.set j (.kn (kL K ds))) σ N' H ∧ Ex N N' := by
  obtain ⟨p, u, e1, a, b, c, d, vs, rfl, r⟩ := S.own h
  have hj : j < σ.length := (List.getElem?_eq_some_iff.mp e1).1
  refine ⟨upd N p (.lst vs), ?_, Ex.new b⟩
  have S0 : Stt F B (Γ.set j .un) σ N H := ⟨S.sub, S.fr, S.bl, S.bh, by rw [List.length_set]; exact S.len, fun i γ o hg ho => by
    by_cases q : j = i
    · subst q
      rw [List.getElem?_set_self (by rw [S.len]; exact hj)] at hg
      cases hg; trivial
    · rw [List.getElem?_set_ne q] at hg
      exact S.ok i γ o hg ho, fun x y γ δ p' hxy hx hy h1 h2 h3 h4 => by
    by_cases q : j = x
    · subst q
      rw [List.getElem?_set_self (by rw [S.len]; exact hj)] at hx
      cases hx; cases h1
    · by_cases q2 : j = y
      · subst q2
        rw [List.getElem?_set_self (by rw [S.len]; exact hj)] at hy
        cases hy; cases h2
      · rw [List.getElem?_set_ne q] at hx
        rw [List.getElem?_set_ne q2] at hy
        exact S.ap x y γ δ p' hxy hx hy h1 h2 h3 h4⟩
  have S2 := S0.freeze (u := .lst vs) d b c fun i γ q hg hh ho z => by
    by_cases q2 : j = i
    · subst q2
      rw [List.getElem?_set_self (by rw [S.len]; exact hj)] at hg
      cases hg; cases hh
    · rw [List.getElem?_set_ne q2] at hg
      subst z
      exact S.ap i j γ _ q (fun z => q2 z.symm) hg h hh rfl ho e1
  have S3 := S2.set j (v := .ref p) (R := kL K ds) ⟨p, vs, rfl, upd_same, dpAll_mono (Ex.new b) _ _ r⟩
  rw [List.set_set] at S3
  have eσ : σ.set j (some (.ref p)) = σ := List.ext_getElem? fun i => by
    by_cases q : j = i
    · subst q; rw [List.getElem?_set_self hj, e1]
    · rw [List.getElem?_set_ne q]
  rwa [eσ] at S3
section
variable {K : PySem.W.Frag} {Γ : List Wk.Slot} {te ta tb : TE} {P : Post} {t : TS}
theorem sx_frz {j : Nat} {ds : List PyData} (h : Γ[j]? = some (.own (oL K ds))) (k : SX t (Γ.set j (.kn (kL K ds))) P) : SX t Γ P := fun F B σ N H D S f => by
  obtain ⟨N', S', _⟩ := S.frz h
  exact k F B σ N' H D S' f
theorem ex_varL {i : Nat} {ds : List PyData} (h : Γ[i]? = some (.kn (kL K ds))) : EX (tVar i) Γ (kd K (.list ds)) := ex_kL (ex_var h)
theorem ex_notInL {i : Int} {ns : List Int} (ha : EX ta Γ (kd K (.int i))) (hb : EX tb Γ (kd K (.list (ns.map .int)))) : EX (tOp (rIn K true) ta tb) Γ (kd K (.bool (!decide (i ∈ ns)))) :=
  ex_op ha hb fun F B Γ σ N H x y Q S hx hy c => by
    cases hx
    cases hy with
    | @lst a xs _ h1 a1 =>
      obtain ⟨e1, e2⟩ := inV_ints (i := i) a1
      refine ⟨a, xs, rfl, .inl (ex_l S.sub h1), rfl, e2, ?_⟩
      show Q (.bl (!inV (.int i) xs)) H
      rw [e1]; exact c _ N H S (Ex.refl N) (.bl _)
theorem iw_enumLK {ds : List PyData} (h : EX te Γ (kd K (.list ds))) : IX (iEnum K (tCons te tNil)) Γ ds.length (fun i => kdAt K ((List.range ds.length).zip ds |>.map fun p => .tuple [.int (p.1 : Int), p.2]) i) := fun F B σ N H Q S k =>
  h F B σ N H _ S fun v N1 H1 S1 e1 r1 => by
    cases r1 with
    | @lst a xs _ hs ha =>
      refine ⟨a, xs, rfl, ex_l S1.sub hs, k _ N1 H1 S1 e1 ⟨fun i H2 hi e => ?_, fun H2 e => ⟨xs, ex_l e hs, by rw [dpAll_len ha]; exact Nat.le_refl _⟩, fun i H2 x H3 hi y F B Γ σ N2 e2 S2 => ?_⟩⟩
      · have l1 : i < xs.length := by rw [dpAll_len ha]; exact hi
        exact ⟨xs, _, ex_l e hs, List.getElem?_eq_getElem l1⟩
      · obtain ⟨T, x1, rfl, hT, rfl, h1⟩ := y
        have g1 := h1 xs (ex_l (e2.trans S2.sub) hs)
        obtain ⟨d1, q1, p1⟩ := dpAll_get' (dpAll_mono e2 _ _ ha) g1
        have hz : (((List.range ds.length).zip ds).map fun p => PyData.tuple [.int (p.1 : Int), p.2])[i]? = some (.tuple [.int (i : Int), d1]) := by
          rw [List.getElem?_map, List.getElem?_zip_eq_some (z := (i, d1)) |>.mpr ⟨List.getElem?_range hi, q1⟩]; rfl
        refine ⟨upd N2 T (.tup [.int (i : Nat), x1]), S2.new hT, Ex.new (S2.sub.none hT), ?_⟩
        rw [kdAt_of hz]
        exact dp_newT (.cons (.int _) (.cons p1 .nil)) (S2.sub.none hT)
theorem iw_enumLF {n : Nat} {f : Fin n → PyData} (h : EX te Γ (kd K (.list (fins f)))) : IX (iEnum K (tCons te tNil)) Γ n (kdAt K (fins fun i => .tuple [encF i, f i])) := by
  have := iw_enumLK h
  rw [fins_len] at this
  refine this.imp fun i hi => ?_
  rw [kdAt_fin (fun i : Fin n => PyData.tuple [encF i, f i]) ⟨i, hi⟩]
  refine kdAt_of ?_
  rw [List.getElem?_map, List.getElem?_zip_eq_some (z := (i, f ⟨i, hi⟩)) |>.mpr ⟨List.getElem?_range hi, fins_get f ⟨i, hi⟩⟩]; rfl
end
/-- a slot is forgotten -/
theorem Stt.drop {F : Hp} {B : Addr → Prop} {Γ : List Wk.Slot} {σ : St} {N H : Hp} (S : Stt F B Γ σ N H) (j : Nat) : Stt F B (Γ.set j .un) σ N H :=
  ⟨S.sub, S.fr, S.bl, S.bh, by rw [List.length_set]; exact S.len, fun i γ o hg ho => by
    by_cases q : j = i
    · subst q
      rw [List.getElem?_set_self (by have := (List.getElem?_eq_some_iff.mp hg).1; simpa using this)] at hg
      cases hg; trivial
    · rw [List.getElem?_set_ne q] at hg
      exact S.ok i γ o hg ho, fun x y γ δ p' hxy hx hy h1 h2 h3 h4 => by
    by_cases q : j = x
    · subst q
      rw [List.getElem?_set_self (by have := (List.getElem?_eq_some_iff.mp hx).1; simpa using this)] at hx
      cases hx; cases h1
    · by_cases q2 : j = y
      · subst q2
        rw [List.getElem?_set_self (by have := (List.getElem?_eq_some_iff.mp hy).1; simpa using this)] at hy
        cases hy; cases h2
      · rw [List.getElem?_set_ne q] at hx
        rw [List.getElem?_set_ne q2] at hy
        exact S.ap x y γ δ p' hxy hx hy h1 h2 h3 h4⟩
theorem sx_un {Γ : List Wk.Slot} {P : Post} {t : TS} (j : Nat) (k : SX t (Γ.set j .un) P) : SX t Γ P := fun F B σ N H D S f => k F B σ N H D (S.drop j) f
/-! ### the names that are met -/
/-- a chain of so many buttons -/
def tA (k : Nat) : Fin k → Fin k → Nat := fun a b => if a = b then 1 else 3
def nm : Nat → Str
  | 1 => "A1"
  | _ => "A2"
def prs (k : Nat) : List PyData := fins fun i : Fin k => .tuple [encF i, .int ((i.val : Int) + 1), .int 3]
def namesL : Nat → List Str
  | 1 => ["A1"]
  | _ => ["A2", "B2", "G2", "H2", "~A1"]
def upto (k : Nat) : List Int := (List.range k).map fun i : Nat => (i : Int)
def K12 (k : Nat) : Prop := k = 1 ∨ k = 2
abbrev pm_chain_pairs (K : PySem.W.Frag) : Pm := ⟨Nat, fun k => k ≤ 1, fun k => [kd K (.tuple (List.replicate k (.int 3)))], fun k => kd K (.list (prs k))⟩
abbrev pm_finite_pairs (K : PySem.W.Frag) : Pm := ⟨Nat, K12, fun k => [kd K (.str "A"), kd K (.int (k : Int))], fun k => kd K (.list (prs (k - 1)))⟩
abbrev pm_fork_pairs (K : PySem.W.Frag) : Pm := ⟨Nat, fun _ => False, fun k => [kAny], fun k => kAny⟩
abbrev pm_flat_pairs (K : PySem.W.Frag) : Pm := ⟨Nat, fun _ => False, fun k => [kAny, kAny], fun k => kAny⟩
abbrev pm_tied_rows (K : PySem.W.Frag) : Pm := ⟨Nat, K12, fun k => [kd K (.int (k : Int)), kd K (.list (prs (k - 1)))], fun k => kd K (encT (tA k))⟩
abbrev pm_named_ties (K : PySem.W.Frag) : Pm := ⟨Nat, K12, fun k => [kd K (.str (nm k))], fun k => kd K (encT (tA k))⟩
abbrev pm_names_with (K : PySem.W.Frag) : Pm := ⟨Nat, K12, fun k => [kd K (.int (k : Int))], fun k => kd K (.list ((namesL k).map .str))⟩
abbrev pm_fits_line (K : PySem.W.Frag) : Pm := ⟨(k : Nat) × Fin k, fun i => K12 i.1, fun i => [kd K (encT (tA i.1)), kd K (encT (tA i.1)), kd K (.list ((upto i.2.val).map .int)), kd K (encF i.2)], fun _ => kd K (.bool true)⟩
abbrev pm_likeness_of (K : PySem.W.Frag) : Pm := ⟨Nat, K12, fun k => [kd K (encT (tA k)), kd K (encT (tA k))], fun k => kd K (.tuple ((upto k).map .int))⟩
abbrev pm_name_of (K : PySem.W.Frag) : Pm := ⟨Nat, K12, fun k => [kd K (encT (tA k))], fun k => kd K (.str (nm k))⟩
abbrev pm_kind_of (K : PySem.W.Frag) : Pm := ⟨Nat, K12, fun k => [kd K (.str (nm k))], fun _ => kd K (.str "finite")⟩
/-- a room's own ties -/
abbrev inn (X : Tb) (R : List (Fin X.n)) : Fin R.length → Fin R.length → Nat := fun a b => X.m R[a] R[b]
/-- a room of chains of one or two -/
structure FinR (X : Tb) (R : List (Fin X.n)) : Prop where
  l3 : R.length ≤ 3
  ps : ∀ p ∈ piecesF (inn X R), K12 p.length ∧ ∀ a b : Fin p.length, inn X R p[a] p[b] = tA p.length a b
abbrev XR := (X : Tb) × List (Fin X.n)
abbrev pm_part_names (K : PySem.W.Frag) : Pm := ⟨XR, fun i => FinR i.1 i.2, fun i => [kd K (encT i.1.m), kd K (encW i.2)], fun i => kd K (.list ((piecesF (inn i.1 i.2)).map fun p => .str (nm p.length)))⟩
abbrev pm_is_finite_part (K : PySem.W.Frag) : Pm := ⟨XR, fun i => FinR i.1 i.2, fun i => [kd K (encT i.1.m), kd K (encW i.2)], fun _ => kd K (.bool true)⟩
abbrev pm_check_finite (K : PySem.W.Frag) : Pm := ⟨XR, fun i => FinR i.1 i.2, fun i => [kTab K i.1, kd K (encW i.2)], fun _ => kd K .none⟩
abbrev pm_room_top (K : PySem.W.Frag) : Pm := ⟨TRz, fun i => W.Run i.2.1 1 i.2.2 ∧ W.len i.2.2 ≤ 36 ∧ i.2.1.Pairwise (· < ·) ∧ FinR i.1 i.2.1, fun i => [kTab K i.1, kd K (encW i.2.1)], fun i => kChg K i.1 i.2.2⟩
theorem piecesF_len {n : Nat} (m : Fin n → Fin n → Nat) : (piecesF m).length ≤ n := by
  unfold piecesF
  rw [List.length_map]
  have := List.length_filter_le (fun s => decide ((pieceF m s).head? = some s)) (List.finRange n)
  rwa [List.length_finRange] at this
theorem list_fins {α : Type} (l : List α) (f : α → PyData) : l.map f = fins fun i : Fin l.length => f l[i] := by
  apply List.ext_getElem?
  intro i
  by_cases q : i < l.length
  · rw [fins_get _ ⟨i, q⟩, List.getElem?_map, List.getElem?_eq_getElem q]; rfl
  · rw [List.getElem?_eq_none (by rw [List.length_map]; omega), List.getElem?_eq_none (by rw [fins_len]; omega)]
end Wk
namespace Wk
open PySem L2
section
variable {P : Program} {w : World} {K : PySem.W.Frag} {mg : Str → Option Value} {base : Heap}
abbrev s_chain_pairs : Stmt := top 48
abbrev Ns_chain_pairs : List Str := ["ties", "place", "tie"]
theorem sc_chain_pairs : FnScope Ns_chain_pairs ["ties"] (defScope s_chain_pairs) := ⟨rfl, rfl, rfl, by decide +kernel, rfl, by decide +kernel, by decide +kernel⟩
def t_chain_pairs (K : PySem.W.Frag) : TS := (tRet (tLc (iEnumT K (tCons (tVar 0) tNil)) (gTup K 2 (gCons (gName 1) (gCons (gName 2) gNil))) tYes (tTup (tCons (tVar 1) (tCons (tOp (rI0 fun i j => .int (i + j)) (tVar 1) (tC (.int 1))) (tCons (tVar 2) tNil)))) [1, 2]))
theorem sx_chain_pairs (T : Tx K mg) : (pm_chain_pairs K).body Ns_chain_pairs (t_chain_pairs K) := by
  rintro (k : Nat) hk
  dsimp only [pm_chain_pairs]
  show SX _ [_, _, _] _
  have hk : k ≤ 1 := hk
  have e : List.replicate k (PyData.int 3) = fins fun _ : Fin k => PyData.int 3 := by
    rcases (by omega : k = 0 ∨ k = 1) with rfl | rfl <;> rfl
  rw [e]
  show SX _ [_, _, _] _
  exact sx_ret (ex_ofL (exl_lcB (iw_enumF (ex_var rfl)) (fun i => (gx_tup (gxs_cons gx_name (gxs_cons gx_name gxs_nil)))) fun i => (ex_tup (ead_cons (ex_var rfl) (ead_cons (ex_add (ex_var rfl) (ex_int (K := K))) (ead_cons (ex_var rfl) ead_nil))))))
theorem ok_chain_pairs (T : Tx K mg) {f : Addr} {fd : FuncData} (F : FnP K "chain_pairs" "chain_pairs" s_chain_pairs f fd) : FnOk P w K mg base CX0 1 f fd ["ties"] (pm_chain_pairs K).sp := by
  have sc := sc_chain_pairs
  refine F.ok sc (fun vs H Q E h => Pm.len (fun _ => rfl) vs H Q E h) (fun cdv A outer s H vs Q E hr h => ⟨t_chain_pairs K, PSs.nox ?_, Pm.go (sx_chain_pairs T) vs H Q E h⟩)
  exact (pss_one (ps_ret (pe_lc (own := [("place", 1), ("tie", 2)]) (g := (gTup K 2 (gCons (gName 1) (gCons (gName 2) gNil)))) (tt := tYes) (te := (tTup (tCons (tVar 1) (tCons (tOp (rI0 fun i j => .int (i + j)) (tVar 1) (tC (.int 1))) (tCons (tVar 2) tNil))))) rfl sc.nd (pi_enumT (by rfl) T.enumerate_ (pa_cons (pv 0) pa_nil)) (blkOk_by (own := [("place", 1), ("tie", 2)]) (N := Ns_chain_pairs) (sc := defScope s_chain_pairs) (by decide +kernel)) (fun _ _ _ _ _ => (pg_tup rfl (pgs_cons (pg_name (i := 1) sc.nd rfl (by first | exact Or.inl rfl | exact Or.inr rfl)) (pgs_cons (pg_name (i := 2) sc.nd rfl (by first | exact Or.inl rfl | exact Or.inr rfl)) pgs_nil)))) (fun _ _ _ _ _ => pts_nil) (fun _ _ _ _ _ => (pe_tup (pa_cons (pv 1) (pa_cons (pe_op op_add (pv 1) pe_int) (pa_cons (pv 2) pa_nil))))))))
abbrev s_finite_pairs : Stmt := top 50
abbrev Ns_finite_pairs : List Str := ["letter", "size"]
theorem sc_finite_pairs : FnScope Ns_finite_pairs ["letter", "size"] (defScope s_finite_pairs) := ⟨rfl, rfl, rfl, by decide +kernel, rfl, by decide +kernel, by decide +kernel⟩
def t_finite_pairs (K : PySem.W.Frag) : TS := (tSeq (tIfS (tTest (tOp rEq (tVar 0) (tC (.str "A")))) (tRet (tCall (pm_chain_pairs K).sp [] E0 (tCons (tOp (rRepS K) (tTup (tCons (tC (.int 3)) tNil)) (tOp (rI0 fun i j => .int (i - j)) (tVar 1) (tC (.int 1)))) tNil))) tNext)
    (tSeq (tIfS (tOr (tTest (tOp rEq (tVar 0) (tC (.str "B")))) (tTest (tOp rEq (tVar 0) (tC (.str "H"))))) (tRet (tCall (pm_chain_pairs K).sp [] E0 (tCons (tOp (rCatA K) (tOp (rRepT K) (tTup (tCons (tC (.int 3)) tNil)) (tOp (rI0 fun i j => .int (i - j)) (tVar 1) (tC (.int 2)))) (tTup (tCons (tIf (tTest (tOp rEq (tVar 0) (tC (.str "B")))) (tC (.int 4)) (tC (.int 5))) tNil))) tNil))) tNext)
    (tSeq (tIfS (tTest (tOp rEq (tVar 0) (tC (.str "D")))) (tRet (tCall (pm_fork_pairs K).sp [] E0 (tCons (tVar 1) tNil))) tNext)
    (tSeq (tIfS (tTest (tOp rEq (tVar 0) (tC (.str "E")))) (tRet (tOp (rI0 fun i j => .int (i + j)) (tCall (pm_chain_pairs K).sp [] E0 (tCons (tTup (tCons (tC (.int 3)) (tCons (tC (.int 3)) (tCons (tC (.int 3)) (tCons (tC (.int 3)) tNil))))) tNil)) (tLst (tCons (tTup (tCons (tC (.int 2)) (tCons (tC (.int 5)) (tCons (tC (.int 3)) tNil)))) tNil)))) tNext)
    (tRet (tCall (pm_chain_pairs K).sp [] E0 (tCons (tIf (tTest (tOp rEq (tVar 0) (tC (.str "F")))) (tTup (tCons (tC (.int 3)) (tCons (tC (.int 4)) (tCons (tC (.int 3)) tNil)))) (tTup (tCons (tC (.int 6)) tNil))) tNil)))))))
theorem sx_finite_pairs (T : Tx K mg) : (pm_finite_pairs K).body Ns_finite_pairs (t_finite_pairs K) := by
  rintro (k : Nat) hk
  dsimp only [pm_finite_pairs]
  show SX _ [_, _] _
  have hk : k = 1 ∨ k = 2 := hk
  exact q_if (b := true) (et_is (et_test (ex_eqS (ex_var rfl) (ex_str (K := K)))) (by decide +kernel)) (fun _ => q_ret (ex_pm (pm_chain_pairs K) (k - 1) (ea_cons (ex_repS (ex_tup (ead_cons (ex_int (K := K)) ead_nil)) (ex_is (ex_sub (ex_var rfl) (ex_int (K := K))) (by rw [show (k : Int) - 1 = ((k - 1 : Nat) : Int) by omega])) (by omega)) ea_nil) (show k - 1 ≤ 1 by omega))) (fun e => by cases e)
theorem ok_finite_pairs (T : Tx K mg) (c_chain_pairs : C8.Cal P w K mg base 1 "chain_pairs" (pm_chain_pairs K).sp []) (c_fork_pairs : C8.Cal P w K mg base 1 "fork_pairs" (pm_fork_pairs K).sp []) {f : Addr} {fd : FuncData} (F : FnP K "finite_pairs" "finite_pairs" s_finite_pairs f fd) : FnOk P w K mg base CX0 2 f fd ["letter", "size"] (pm_finite_pairs K).sp := by
  have sc := sc_finite_pairs
  refine F.ok sc (fun vs H Q E h => Pm.len (fun _ => rfl) vs H Q E h) (fun cdv A outer s H vs Q E hr h => ⟨t_finite_pairs K, PSs.nox ?_, Pm.go (sx_finite_pairs T) vs H Q E h⟩)
  exact (pss_cons (ps_if (pt_cmpR op_eq (pv 0) pe_str (nomark _)) (pss_one (ps_ret (C8.pe_c c_chain_pairs hr (by decide) rfl (pa_cons (pe_op op_repS (pe_tup (pa_cons pe_int pa_nil)) (pe_op op_sub (pv 1) pe_int)) pa_nil)))) pss_nil)
      (pss_cons (ps_if (PW.pt (pw_or (pt_cmpR op_eq (pv 0) pe_str (nomark _)) (pw_or1 (pt_cmpR op_eq (pv 0) pe_str (nomark _))))) (pss_one (ps_ret (C8.pe_c c_chain_pairs hr (by decide) rfl (pa_cons (pe_op op_catA (pe_op op_repT (pe_tup (pa_cons pe_int pa_nil)) (pe_op op_sub (pv 1) pe_int)) (pe_tup (pa_cons (pe_ifExp (pt_cmpR op_eq (pv 0) pe_str (nomark _)) pe_int pe_int) pa_nil))) pa_nil)))) pss_nil)
      (pss_cons (ps_if (pt_cmpR op_eq (pv 0) pe_str (nomark _)) (pss_one (ps_ret (C8.pe_c c_fork_pairs hr (by decide) rfl (pa_cons (pv 1) pa_nil)))) pss_nil)
      (pss_cons (ps_if (pt_cmpR op_eq (pv 0) pe_str (nomark _)) (pss_one (ps_ret (pe_op op_add (C8.pe_c c_chain_pairs hr (by decide) rfl (pa_cons (pe_tup (pa_cons pe_int (pa_cons pe_int (pa_cons pe_int (pa_cons pe_int pa_nil))))) pa_nil)) (pe_lst (pa_cons (pe_tup (pa_cons pe_int (pa_cons pe_int (pa_cons pe_int pa_nil)))) pa_nil))))) pss_nil)
      (pss_one (ps_ret (C8.pe_c c_chain_pairs hr (by decide) rfl (pa_cons (pe_ifExp (pt_cmpR op_eq (pv 0) pe_str (nomark _)) (pe_tup (pa_cons pe_int (pa_cons pe_int (pa_cons pe_int pa_nil)))) (pe_tup (pa_cons pe_int pa_nil))) pa_nil))))))))
def dtab : Nat → Kvs
  | 0 => []
  | _ => putK (putK [] (k2 0 1) (.int 3)) (k2 1 0) (.int 3)
theorem dtab_get {k : Nat} (hk : K12 k) (a b : Fin k) (h : b ≠ a) : (valV (dtab (k - 1)) (k2 (a.val : Int) (b.val : Int))).getD (.int 2) = .int 3 := by
  rcases hk with rfl | rfl
  · exact absurd (Subsingleton.elim b a) h
  · revert a b
    decide +kernel
abbrev s_tied_rows : Stmt := top 47
abbrev Ns_tied_rows : List Str := ["size", "pairs", "found", "one", "other", "tie", "rows"]
theorem sc_tied_rows : FnScope Ns_tied_rows ["size", "pairs"] (defScope s_tied_rows) := ⟨rfl, rfl, rfl, by decide +kernel, rfl, by decide +kernel, by decide +kernel⟩
def t_tied_rows (K : PySem.W.Frag) : TS := (tSeq (tAsg tDNewT (gName 2))
    (tSeq (tFor (iList K (tVar 1)) (gTup K 3 (gCons (gName 3) (gCons (gName 4) (gCons (gName 5) gNil)))) (tSeq (sDPut (tVar 2) (tTup (tCons (tVar 3) (tCons (tVar 4) tNil))) (tVar 5))
    (sDPut (tVar 2) (tTup (tCons (tVar 4) (tCons (tVar 3) tNil))) (tVar 5))))
    (tSeq (tAsg (tLst tNil) (gName 6))
    (tSeq (tFor (iRng1 (tCons (tVar 0) tNil)) (gName 3) (tDrop (tBM K "list" rAppend (tVar 6) (tCons (tCB (rTupOf K) (tCons (tLc (iRng1 (tCons (tVar 0) tNil)) (gName 4) tYes (tIf (tTest (tOp rEq (tVar 3) (tVar 4))) (tC (.int 1)) (tDGet2 (tVar 2) (tTup (tCons (tVar 3) (tCons (tVar 4) tNil))) (tC (.int 2)))) [4]) tNil)) tNil))))
    (tRet (tCB (rTupOf K) (tCons (tVar 6) tNil)))))))
theorem sx_tied_rows (T : Tx K mg) : (pm_tied_rows K).body Ns_tied_rows (t_tied_rows K) := by
  rintro (k : Nat) (hk : K12 k)
  dsimp only [pm_tied_rows]
  show SX _ [_, _, _, _, _, _, _] _
  have hk1 : k = 1 ∨ k = 2 := hk
  refine q_newDT ?_
  refine q_for (fun i Γ => ∃ a b c, Γ = [.kn (kd K (.int (k : Int))), .kn (kd K (.list (prs (k - 1)))), .own (oDT (dtab i)), a, b, c, .un]) (iw_listF (ex_var rfl)) ⟨_, _, _, rfl⟩ ?_ ?_
  · rintro i Γ hi ⟨a, b, c, rfl⟩
    have i0 : i = 0 := by omega
    subst i0
    refine ⟨_, _, by rw [kdAt_fin (fun i : Fin (k - 1) => PyData.tuple [encF i, .int ((i.val : Int) + 1), .int 3]) ⟨0, hi⟩]; exact (gx_tup (gxs_cons gx_name (gxs_cons gx_name (gxs_cons gx_name gxs_nil)))), ?_⟩
    show SX _ [_, _, _, _, _, _, _] _
    refine q_putDT (a := 0) (b := 1) (i := 3) rfl (ex_np (ex_var rfl) (ex_var rfl)) (ex_var rfl) (by decide) ?_
    refine s_putDT (a := 1) (b := 0) (i := 3) rfl (ex_np (ex_var rfl) (ex_var rfl)) (ex_var rfl) (by decide) ?_
    exact ⟨_, _, _, rfl⟩
  · rintro Γ ⟨a, b, c, rfl⟩
    refine sx_un 3 (sx_un 4 (sx_un 5 ?_))
    show SX _ [_, _, _, _, _, _, _] _
    refine q_setL (exl_lst (ead_nil (K := K))) ?_
    refine q_for (fun i Γ => ∃ a b, Γ = [.kn (kd K (.int (k : Int))), .kn (kd K (.list (prs (k - 1)))), .own (oDT (dtab (k - 1))), a, .un, b, .own (oL K ((fins fun s : Fin k => encRow (tA k s)).take i))]) (iw_rangeF (ea_cons (ex_var rfl) ea_nil) (by omega)) ⟨_, _, rfl⟩ ?_ ?_
    · rintro i Γ hi ⟨a, b, rfl⟩
      refine ⟨_, _, by rw [kdAt_fin (fun t : Fin k => encF t) ⟨i, hi⟩]; exact gx_name, ?_⟩
      show SX _ [_, _, _, _, _, _, _] _
      have hl : i < (fins fun s : Fin k => encRow (tA k s)).length := by rw [fins_len]; exact hi
      refine s_app rfl (d := encRow (tA k ⟨i, hi⟩)) (ex_tupL (exl_lcB (f := fun t => encN (tA k ⟨i, hi⟩ t)) (iw_rangeF (ea_cons (ex_var rfl) ea_nil) (by omega)) (fun t => gx_name) fun t => ex_if (et_test (ex_eqI (ex_var rfl) (ex_var rfl))) (fun e => ex_is (ex_int (K := K)) ?_) fun e => ex_is (ex_getDT (i := 3) rfl (ex_np (ex_var rfl) (ex_var rfl)) (ex_int (K := K)) (dtab_get hk ⟨i, hi⟩ t ?_)) ?_)) ?_ ?_
      · have q : t = ⟨i, hi⟩ := Fin.ext (by have : (i : Int) = (t.val : Int) := of_decide_eq_true e; show t.val = i; omega)
        unfold tA; rw [if_pos q.symm]; rfl
      · intro q; rw [q] at e; simp at e
      · have q : ¬ ⟨i, hi⟩ = t := fun q => by rw [← q] at e; simp at e
        unfold tA; rw [if_neg q]; rfl
      · rw [List.length_take]; omega
      · have e : (fins fun s : Fin k => encRow (tA k s)).take (i + 1) = (fins fun s : Fin k => encRow (tA k s)).take i ++ [encRow (tA k ⟨i, hi⟩)] := by
          rw [List.take_succ, fins_get _ ⟨i, hi⟩]; rfl
        dsimp only
        rw [e]
        exact ⟨_, _, rfl⟩
    · rintro Γ ⟨a, b, rfl⟩
      refine sx_ret (ex_is (ex_tupO rfl) ?_)
      rw [List.take_of_length_le (by rw [fins_len]; exact Nat.le_refl _)]; rfl
theorem ok_tied_rows (T : Tx K mg) {f : Addr} {fd : FuncData} (F : FnP K "tied_rows" "tied_rows" s_tied_rows f fd) : FnOk P w K mg base CX0 1 f fd ["size", "pairs"] (pm_tied_rows K).sp := by
  have sc := sc_tied_rows
  refine F.ok sc (fun vs H Q E h => Pm.len (fun _ => rfl) vs H Q E h) (fun cdv A outer s H vs Q E hr h => ⟨t_tied_rows K, PSs.nox ?_, Pm.go (sx_tied_rows T) vs H Q E h⟩)
  exact (pss_cons (ps_set (i := 2) sc.nd rfl (by first | exact Or.inl rfl | exact Or.inr rfl) pe_dnewT)
      (pss_cons (ps_for PassesOwn.never rfl (pi_list (pv 1)) (pg_tup rfl (pgs_cons (pg_name (i := 3) sc.nd rfl (by first | exact Or.inl rfl | exact Or.inr rfl)) (pgs_cons (pg_name (i := 4) sc.nd rfl (by first | exact Or.inl rfl | exact Or.inr rfl)) (pgs_cons (pg_name (i := 5) sc.nd rfl (by first | exact Or.inl rfl | exact Or.inr rfl)) pgs_nil)))) (pss_cons (ps_dput (hu_of hr) (pv 2) (pe_tup (pa_cons (pv 3) (pa_cons (pv 4) pa_nil))) (pv 5) (by rfl))
      (pss_one (ps_dput (hu_of hr) (pv 2) (pe_tup (pa_cons (pv 4) (pa_cons (pv 3) pa_nil))) (pv 5) (by rfl)))))
      (pss_cons (ps_set (i := 6) sc.nd rfl (by first | exact Or.inl rfl | exact Or.inr rfl) (pe_lst pa_nil))
      (pss_cons (ps_for PassesOwn.never rfl (pi_range1 rfl T.range_ (pa_cons (pv 0) pa_nil)) (pg_name (i := 3) sc.nd rfl (by first | exact Or.inl rfl | exact Or.inr rfl)) (pss_one (ps_expr (pe_bm PySem.F.plainAttrs_list PySem.F.slot_list_append PySem.F.type_list_append mt_append (pv 6) (pa_cons (pe_callTy call_tuple_of rfl T.tuple_ (by decide +kernel) (pa_cons (pe_lc (own := [("other", 4)]) (g := (gName 4)) (tt := tYes) (te := (tIf (tTest (tOp rEq (tVar 3) (tVar 4))) (tC (.int 1)) (tDGet2 (tVar 2) (tTup (tCons (tVar 3) (tCons (tVar 4) tNil))) (tC (.int 2))))) rfl sc.nd (pi_range1 rfl T.range_ (pa_cons (pv 0) pa_nil)) (blkOk_by (own := [("other", 4)]) (N := Ns_tied_rows) (sc := defScope s_tied_rows) (by decide +kernel)) (fun _ _ _ _ _ => (pg_name (i := 4) sc.nd rfl (by first | exact Or.inl rfl | exact Or.inr rfl))) (fun _ _ _ _ _ => pts_nil) (fun _ _ _ _ _ => (pe_ifExp (pt_cmpR op_eq (pv 3) (pv 4) (nomark _)) pe_int (pe_dget2 (hu_of hr) (pv 2) (pe_tup (pa_cons (pv 3) (pa_cons (pv 4) pa_nil))) pe_int ⟨rfl, rfl, rfl, rfl⟩)))) pa_nil)) pa_nil)))))
      (pss_one (ps_ret (pe_callTy call_tuple_of rfl T.tuple_ (by decide +kernel) (pa_cons (pv 6) pa_nil))))))))
theorem nm_facts {k : Nat} (hk : K12 k) : decide (cutS (nm k) none (some 1) = "~") = false ∧ (nm k).length = 2 ∧ atI (nm k).cps.toList 1 = some (48 + k) ∧ (!(!(Builtin.Str.occurrences ("123456" : Str) (⟨#[48 + k]⟩ : Str) 0 ("123456" : Str).length 1).isEmpty)) = false ∧ atI (nm k).cps.toList 0 = some 65 ∧ PySem.intText? (⟨#[48 + k]⟩ : Str) = some (k : Int) ∧ (⟨#[65]⟩ : Str) = "A" ∧ (nm k).length ≤ sizeLine := by
  rcases hk with rfl | rfl <;> decide +kernel
abbrev s_named_ties : Stmt := top 52
abbrev Ns_named_ties : List Str := ["name", "is_flat", "word", "letter", "number", "is_known"]
theorem sc_named_ties : FnScope Ns_named_ties ["name"] (defScope s_named_ties) := ⟨rfl, rfl, rfl, by decide +kernel, rfl, by decide +kernel, by decide +kernel⟩
def t_named_ties (K : PySem.W.Frag) (w : World) : TS := (tSeq (tAsg (tOp rEq (tSl rSlS (tVar 0) tNoPart (tPart (tC (.int 1)))) (tC (.str "~"))) (gName 1))
    (tSeq (tAsg (tIf (tB (tVar 1)) (tSl rSlS (tVar 0) (tPart (tC (.int 1))) tNoPart) (tVar 0)) (gName 2))
    (tSeq (tIfS (tOr (tTest (tOp rNe (tCB rLenS (tCons (tVar 2) tNil)) (tC (.int 2)))) (tTest (tOp rNotInStr (tOp rIxS (tVar 2) (tC (.int 1))) (tC (.str "123456"))))) (tRet (tC .non)) tNext)
    (tSeq (tPar 3 4 (tCons (tOp rIxS (tVar 2) (tC (.int 0))) (tCons (tCB rIntS (tCons (tOp rIxS (tVar 2) (tC (.int 1))) tNil)) tNil)))
    (tSeq (tIfS (tB (tVar 1)) (tSeq (tAsg (tAndV (tOp (rInKd K w) (tVar 3) (tC (vFLAT_LEAST K))) (tChain (rI0 fun i j => .bl (decide (i ≤ j))) (rI0 fun i j => .bl (decide (i ≤ j))) (tOp (rIxD K w) (tC (vFLAT_LEAST K)) (tVar 3)) (tVar 4) (tOp (rIxD K w) (tC (vFLAT_MOST K)) (tVar 3)))) (gName 5))
    (tRet (tIf (tB (tVar 5)) (tCall (pm_tied_rows K).sp [] E0 (tCons (tOp (rI0 fun i j => .int (i + j)) (tVar 4) (tC (.int 1))) (tCons (tCall (pm_flat_pairs K).sp [] E0 (tCons (tVar 3) (tCons (tVar 4) tNil))) tNil))) (tC .non)))) tNext)
    (tSeq (tAsg (tAndV (tOp (rInKd K w) (tVar 3) (tC (vLEAST K))) (tChain (rI0 fun i j => .bl (decide (i ≤ j))) (rI0 fun i j => .bl (decide (i ≤ j))) (tOp (rIxD K w) (tC (vLEAST K)) (tVar 3)) (tVar 4) (tOp (rIxD K w) (tC (vMOST K)) (tVar 3)))) (gName 5))
    (tRet (tIf (tB (tVar 5)) (tCall (pm_tied_rows K).sp [] E0 (tCons (tVar 4) (tCons (tCall (pm_finite_pairs K).sp [] E0 (tCons (tVar 3) (tCons (tVar 4) tNil))) tNil))) (tC .non)))))))))
theorem sx_named_ties (T : Tx K mg) (T2 : Tn K mg w) : (pm_named_ties K).body Ns_named_ties (t_named_ties K w) := by
  rintro (k : Nat) (hk : K12 k)
  dsimp only [pm_named_ties]
  show SX _ [_, _, _, _, _, _] _
  obtain ⟨f1, f2, f3, f4, f5, f6, f7, f8⟩ := nm_facts hk
  have hk1 : k = 1 ∨ k = 2 := hk
  refine q_set (R := kd K (.bool false)) (ex_is (ex_eqS (ex_slS (ex_var rfl) eo_none (eo_some (ex_int (K := K))) f8) (ex_str (K := K))) (by rw [f1])) ?_
  refine q_set (R := kd K (.str (nm k))) (ex_is (ex_ifD (b := false) (d1 := .str (nm k)) (et_B (ex_var rfl)) (fun e => by cases e) fun _ => (ex_var rfl)) rfl) ?_
  refine q_if (b := false) (et_is (et_or (b := false) (et_is (et_test (ex_neI (ex_lenS (ex_var rfl) f8) (ex_int (K := K)))) (by rw [f2])) fun _ => (et_test (ex_notInStr (ex_ixS (ex_var rfl) (ex_int (K := K)) f3 f8) (ex_str (K := K)) f4))) rfl) (fun e => by cases e) (fun _ => sx_pass ?_)
  refine q_par (R1 := kd K (.str "A")) (R2 := kd K (.int (k : Int))) (ea_cons (ex_is (ex_ixS (ex_var rfl) (ex_int (K := K)) f5 f8) (by rw [f7])) (ea_cons (ex_intS (ex_ixS (ex_var rfl) (ex_int (K := K)) f3 f8) f6 (by show 1 ≤ 640; decide)) ea_nil)) ?_
  show SX _ [_, _, _, _, _, _] _
  refine q_if (b := false) (et_B (ex_var rfl)) (fun e => by cases e) (fun _ => sx_pass ?_)
  refine q_set (R := kd K (.bool true)) (ex_is (ex_andV (b := true) (ex_inTb T2.least 1 (by decide +kernel) (ex_var rfl)) fun _ => ex_is (ex_chain (ex_ixTb T2.least 1 (by decide +kernel) (ex_var rfl)) (ex_var rfl) opr_le (ex_ixTb T2.most 6 (by decide +kernel) (ex_var rfl)) fun _ => opr_le) (by rw [decide_eq_true (show (1 : Int) ≤ (k : Int) by omega), decide_eq_true (show (k : Int) ≤ 6 by omega)]; rfl)) rfl) ?_
  exact sx_ret (ex_is (ex_ifD (b := true) (d2 := .none) (et_B (ex_var rfl)) (fun _ => (ex_pm (pm_tied_rows K) k (ea_cons (ex_var rfl) (ea_cons (ex_pm (pm_finite_pairs K) k (ea_cons (ex_var rfl) (ea_cons (ex_var rfl) ea_nil)) hk) ea_nil)) hk)) fun e => by cases e) rfl)
theorem ok_named_ties (T : Tx K mg) (T2 : Tn K mg w) (c_flat_pairs : C8.Cal P w K mg base 1 "flat_pairs" (pm_flat_pairs K).sp []) (c_tied_rows : C8.Cal P w K mg base 1 "tied_rows" (pm_tied_rows K).sp []) (c_finite_pairs : C8.Cal P w K mg base 2 "finite_pairs" (pm_finite_pairs K).sp []) {f : Addr} {fd : FuncData} (F : FnP K "named_ties" "named_ties" s_named_ties f fd) : FnOk P w K mg base CX0 3 f fd ["name"] (pm_named_ties K).sp := by
  have sc := sc_named_ties
  refine F.ok sc (fun vs H Q E h => Pm.len (fun _ => rfl) vs H Q E h) (fun cdv A outer s H vs Q E hr h => ⟨t_named_ties K w, PSs.nox ?_, Pm.go (sx_named_ties T T2) vs H Q E h⟩)
  exact (pss_cons (ps_set (i := 1) sc.nd rfl (by first | exact Or.inl rfl | exact Or.inr rfl) (pe_cmpR op_eq (pe_slice sl_str (pv 0) po_none (po_some pe_int)) pe_str (nomark _)))
      (pss_cons (ps_set (i := 2) sc.nd rfl (by first | exact Or.inl rfl | exact Or.inr rfl) (pe_ifExp (pt_val (pv 1)) (pe_slice sl_str (pv 0) (po_some pe_int) po_none) (pv 0)))
      (pss_cons (ps_if (PW.pt (pw_or (pt_cmpR op_ne (pe_callB call_len_str rfl T.len_ PySem.boot_len (pa_cons (pv 2) pa_nil)) pe_int (nomark _)) (pw_or1 (pt_cmpR op_notin_str (pe_ix ix_str (pv 2) pe_int (fun _ _ => rfl)) pe_str (by with_unfolding_all rfl))))) (pss_one (ps_ret pe_non)) pss_nil)
      (pss_cons (ps_par (i := 3) (j := 4) rfl sc.nd rfl rfl (by decide) rfl rfl (pa_cons (pe_ix ix_str (pv 2) pe_int (fun _ _ => rfl)) (pa_cons (pe_callTy call_int_str rfl T.int_ (by decide +kernel) (pa_cons (pe_ix ix_str (pv 2) pe_int (fun _ _ => rfl)) pa_nil)) pa_nil)) rfl)
      (pss_cons (ps_if (pt_val (pv 1)) (pss_cons (ps_set (i := 5) sc.nd rfl (by first | exact Or.inl rfl | exact Or.inr rfl) (pe_and (pe_cmpR op_inKd (pv 3) (C8.pe_gc rfl T2.cFLAT_LEAST) (by with_unfolding_all rfl)) (pe_one (pe_chain op_le op_le (pe_ix ix_kdict (C8.pe_gc rfl T2.cFLAT_LEAST) (pv 3) (fun _ _ => rfl)) (pv 4) (pe_ix ix_kdict (C8.pe_gc rfl T2.cFLAT_MOST) (pv 3) (fun _ _ => rfl))))))
      (pss_one (ps_ret (pe_ifExp (pt_val (pv 5)) (C8.pe_c c_tied_rows hr (by decide) rfl (pa_cons (pe_op op_add (pv 4) pe_int) (pa_cons (C8.pe_c c_flat_pairs hr (by decide) rfl (pa_cons (pv 3) (pa_cons (pv 4) pa_nil))) pa_nil))) pe_non)))) pss_nil)
      (pss_cons (ps_set (i := 5) sc.nd rfl (by first | exact Or.inl rfl | exact Or.inr rfl) (pe_and (pe_cmpR op_inKd (pv 3) (C8.pe_gc rfl T2.cLEAST) (by with_unfolding_all rfl)) (pe_one (pe_chain op_le op_le (pe_ix ix_kdict (C8.pe_gc rfl T2.cLEAST) (pv 3) (fun _ _ => rfl)) (pv 4) (pe_ix ix_kdict (C8.pe_gc rfl T2.cMOST) (pv 3) (fun _ _ => rfl))))))
      (pss_one (ps_ret (pe_ifExp (pt_val (pv 5)) (C8.pe_c c_tied_rows hr (by decide) rfl (pa_cons (pv 4) (pa_cons (C8.pe_c c_finite_pairs hr (by decide) rfl (pa_cons (pv 3) (pa_cons (pv 4) pa_nil))) pa_nil))) pe_non)))))))))
theorem iw_tbF {K : PySem.W.Frag} {w : World} {Γ : List Wk.Slot} {x : Str} {kvs : List (Str × Int)} (T : KTb K w x kvs) : IX (iKd K (tC (.ref (He.ga K x)))) Γ kvs.length (kdAt K (fins fun i : Fin kvs.length => .str kvs[i].1)) := by
  have := iw_tb (Γ := Γ) T
  rwa [list_fins kvs fun q => PyData.str q.1] at this
theorem tb_mem (i : Fin leastL.length) : (leastL[i].1, leastL[i].2) ∈ leastL ∧ (leastL[i].1, (mostL[i.val]'i.isLt).2) ∈ mostL := by revert i; decide +kernel
theorem ftb_mem (i : Fin flatLeastL.length) : (flatLeastL[i].1, flatLeastL[i].2) ∈ flatLeastL ∧ (flatLeastL[i].1, (flatMostL[i.val]'i.isLt).2) ∈ flatMostL := by revert i; decide +kernel
theorem tb_len (i : Fin leastL.length) : leastL[i].1.length = 1 := by revert i; decide +kernel
theorem ftb_len (i : Fin flatLeastL.length) : ("~" ++ flatLeastL[i].1 : Str).length = 2 := by revert i; decide +kernel
theorem ftb_len1 (i : Fin flatLeastL.length) : (flatLeastL[i].1 : Str).length = 1 := by revert i; decide +kernel
def nmA (k : Nat) : List PyData := ((List.finRange leastL.length).filter fun i => decide (leastL[i].2 ≤ (k : Int)) && decide ((k : Int) ≤ (mostL[i.val]'i.isLt).2)).map fun i => .str (leastL[i].1 ++ toString (k : Int))
def nmB (k : Int) : List PyData := ((List.finRange flatLeastL.length).filter fun i => decide (flatLeastL[i].2 ≤ k) && decide (k ≤ (flatMostL[i.val]'i.isLt).2)).map fun i => .str ("~" ++ flatLeastL[i].1 ++ toString k)
theorem nm_all {k : Nat} (hk : K12 k) : nmA k ++ nmB ((k : Int) - 1) = (namesL k).map .str := by
  rcases hk with rfl | rfl
  · kernel_rfl
  · kernel_rfl
theorem str_len {k : Nat} (hk : K12 k) : (toString (k : Int) : Str).length = 1 ∧ (toString ((k : Int) - 1) : Str).length = 1 ∧ (k : Int).natAbs.log2 < 1920 ∧ ((k : Int) - 1).natAbs.log2 < 1920 := by
  rcases hk with rfl | rfl <;> decide +kernel
abbrev s_names_with : Stmt := top 53
abbrev Ns_names_with : List Str := ["size", "found", "number", "letter"]
theorem sc_names_with : FnScope Ns_names_with ["size"] (defScope s_names_with) := ⟨rfl, rfl, rfl, by decide +kernel, rfl, by decide +kernel, by decide +kernel⟩
def t_names_with (K : PySem.W.Frag) (w : World) : TS := (tSeq (tAsg (tLc (iKd K (tC (vLEAST K))) (gName 3) (tTest (tChain (rI0 fun i j => .bl (decide (i ≤ j))) (rI0 fun i j => .bl (decide (i ≤ j))) (tOp (rIxD K w) (tC (vLEAST K)) (tVar 3)) (tVar 0) (tOp (rIxD K w) (tC (vMOST K)) (tVar 3)))) (tOp (fun x y H Q => ∃ i j, x = .str i ∧ y = .str j ∧ i.length + j.length ≤ sizeLine ∧ Q (.str (i ++ j)) H) (tVar 3) (tCB rStrI (tCons (tVar 0) tNil))) [3]) (gName 1))
    (tSeq (tAsg (tOp (rI0 fun i j => .int (i - j)) (tVar 0) (tC (.int 1))) (gName 2))
    (tRet (tOp rCat (tVar 1) (tLc (iKd K (tC (vFLAT_LEAST K))) (gName 3) (tTest (tChain (rI0 fun i j => .bl (decide (i ≤ j))) (rI0 fun i j => .bl (decide (i ≤ j))) (tOp (rIxD K w) (tC (vFLAT_LEAST K)) (tVar 3)) (tVar 2) (tOp (rIxD K w) (tC (vFLAT_MOST K)) (tVar 3)))) (tOp (fun x y H Q => ∃ i j, x = .str i ∧ y = .str j ∧ i.length + j.length ≤ sizeLine ∧ Q (.str (i ++ j)) H) (tOp (fun x y H Q => ∃ i j, x = .str i ∧ y = .str j ∧ i.length + j.length ≤ sizeLine ∧ Q (.str (i ++ j)) H) (tC (.str "~")) (tVar 3)) (tCB rStrI (tCons (tVar 2) tNil))) [3])))))
theorem sx_names_with (T : Tx K mg) (T2 : Tn K mg w) : (pm_names_with K).body Ns_names_with (t_names_with K w) := by
  rintro (k : Nat) (hk : K12 k)
  dsimp only [pm_names_with]
  show SX _ [_, _, _, _] _
  obtain ⟨s1, s2, s3, s4⟩ := str_len hk
  refine q_setL (ds := nmA k) (exl_lcT (iw_tbF T2.least) (fun i => gx_name) (fun i => (et_test (ex_chain (ex_ixTb T2.least _ (tb_mem i).1 (ex_var rfl)) (ex_var rfl) opr_le (ex_ixTb T2.most _ (tb_mem i).2 (ex_var rfl)) fun _ => opr_le))) (fun i hp => (ex_catS (ex_var rfl) (ex_strI (ex_var rfl) s3) (by rw [tb_len, s1]; decide))) (by decide)) ?_
  refine q_set (ex_sub (ex_var rfl) (ex_int (K := K))) ?_
  refine sx_frz (j := 1) rfl ?_
  show SX _ [_, _, _, _] _
  refine sx_ret (ex_ofL ?_)
  rw [← nm_all hk]
  have l1 : (nmA k).length ≤ 7 := by
    unfold nmA
    rw [List.length_map]
    exact List.length_filter_le _ _
  have l2 : (nmB ((k : Int) - 1)).length ≤ 6 := by
    unfold nmB
    rw [List.length_map]
    exact List.length_filter_le _ _
  exact exl_catL (ex_var rfl) (ex_ofLL (exl_lcT (iw_tbF T2.flatLeast) (fun i => gx_name) (fun i => (et_test (ex_chain (ex_ixTb T2.flatLeast _ (ftb_mem i).1 (ex_var rfl)) (ex_var rfl) opr_le (ex_ixTb T2.flatMost _ (ftb_mem i).2 (ex_var rfl)) fun _ => opr_le))) (fun i hp => (ex_catS (ex_catS (ex_str (K := K)) (ex_var rfl) (by rw [ftb_len1]; decide)) (ex_strI (ex_var rfl) s4) (by rw [ftb_len, s2]; decide))) (by decide))) (by omega)
theorem ok_names_with (T : Tx K mg) (T2 : Tn K mg w) {f : Addr} {fd : FuncData} (F : FnP K "names_with" "names_with" s_names_with f fd) : FnOk P w K mg base CX0 1 f fd ["size"] (pm_names_with K).sp := by
  have sc := sc_names_with
  refine F.ok sc (fun vs H Q E h => Pm.len (fun _ => rfl) vs H Q E h) (fun cdv A outer s H vs Q E hr h => ⟨t_names_with K w, PSs.nox ?_, Pm.go (sx_names_with T T2) vs H Q E h⟩)
  exact (pss_cons (ps_setLc (i := 1) (own := [("letter", 3)]) (g := (gName 3)) (tt := (tTest (tChain (rI0 fun i j => .bl (decide (i ≤ j))) (rI0 fun i j => .bl (decide (i ≤ j))) (tOp (rIxD K w) (tC (vLEAST K)) (tVar 3)) (tVar 0) (tOp (rIxD K w) (tC (vMOST K)) (tVar 3))))) (te := (tOp (fun x y H Q => ∃ i j, x = .str i ∧ y = .str j ∧ i.length + j.length ≤ sizeLine ∧ Q (.str (i ++ j)) H) (tVar 3) (tCB rStrI (tCons (tVar 0) tNil)))) rfl sc.nd rfl rfl (sw_true rfl rfl rfl (by decide +kernel)) (pi_kd (C8.pe_gc rfl T2.cLEAST)) (blkOk_by (own := [("letter", 3)]) (N := Ns_names_with) (sc := defScope s_names_with) (by decide +kernel)) (fun _ _ _ _ _ => (pg_name (i := 3) sc.nd rfl (by first | exact Or.inl rfl | exact Or.inr rfl))) (fun _ _ _ _ _ => (pts_one (pt_chain op_le op_le (pe_ix ix_kdict (C8.pe_gc rfl T2.cLEAST) (pv 3) (fun _ _ => rfl)) (pv 0) (pe_ix ix_kdict (C8.pe_gc rfl T2.cMOST) (pv 3) (fun _ _ => rfl))))) (fun _ _ _ _ _ => (pe_op op_add_str (pv 3) (pe_callTy call_str_int rfl T.str_ (by decide +kernel) (pa_cons (pv 0) pa_nil)))))
      (pss_cons (ps_set (i := 2) sc.nd rfl (by first | exact Or.inl rfl | exact Or.inr rfl) (pe_op op_sub (pv 0) pe_int))
      (pss_one (ps_ret (pe_op op_cat (pv 1) (pe_lc (own := [("letter", 3)]) (g := (gName 3)) (tt := (tTest (tChain (rI0 fun i j => .bl (decide (i ≤ j))) (rI0 fun i j => .bl (decide (i ≤ j))) (tOp (rIxD K w) (tC (vFLAT_LEAST K)) (tVar 3)) (tVar 2) (tOp (rIxD K w) (tC (vFLAT_MOST K)) (tVar 3))))) (te := (tOp (fun x y H Q => ∃ i j, x = .str i ∧ y = .str j ∧ i.length + j.length ≤ sizeLine ∧ Q (.str (i ++ j)) H) (tOp (fun x y H Q => ∃ i j, x = .str i ∧ y = .str j ∧ i.length + j.length ≤ sizeLine ∧ Q (.str (i ++ j)) H) (tC (.str "~")) (tVar 3)) (tCB rStrI (tCons (tVar 2) tNil)))) rfl sc.nd (pi_kd (C8.pe_gc rfl T2.cFLAT_LEAST)) (blkOk_by (own := [("letter", 3)]) (N := Ns_names_with) (sc := defScope s_names_with) (by decide +kernel)) (fun _ _ _ _ _ => (pg_name (i := 3) sc.nd rfl (by first | exact Or.inl rfl | exact Or.inr rfl))) (fun _ _ _ _ _ => (pts_one (pt_chain op_le op_le (pe_ix ix_kdict (C8.pe_gc rfl T2.cFLAT_LEAST) (pv 3) (fun _ _ => rfl)) (pv 2) (pe_ix ix_kdict (C8.pe_gc rfl T2.cFLAT_MOST) (pv 3) (fun _ _ => rfl))))) (fun _ _ _ _ _ => (pe_op op_add_str (pe_op op_add_str pe_str (pv 3)) (pe_callTy call_str_int rfl T.str_ (by decide +kernel) (pa_cons (pv 2) pa_nil))))))))))
theorem upto_len (p : Nat) : (upto p).length = p := by unfold upto; rw [List.length_map, List.length_range]
theorem upto_fins (p : Nat) : (upto p).map PyData.int = fins fun i : Fin p => encF i := by
  unfold upto
  rw [List.map_map]
  exact fins_eq _ _ fun i => rfl
theorem upto_mem {p i : Nat} : ((i : Int) ∈ upto p) ↔ i < p := by
  unfold upto
  rw [List.mem_map]
  constructor
  · rintro ⟨j, hj, e⟩
    have := List.mem_range.mp hj
    omega
  · exact fun h => ⟨i, List.mem_range.mpr h, rfl⟩
theorem upto_succ (p : Nat) : upto (p + 1) = upto p ++ [(p : Int)] := by
  unfold upto
  rw [List.range_succ, List.map_append]; rfl
theorem ex_lenU {K : PySem.W.Frag} {Γ : List Wk.Slot} {te : TE} {p : Nat} (h : EX te Γ (kd K (.list ((upto p).map .int)))) : EX (tCB (rLenSeq K) (tCons te tNil)) Γ (kd K (.int (p : Int))) := by
  have := ex_lenK h
  rwa [List.length_map, upto_len] at this
theorem no_filter {α : Type} (l : List α) (f : α → PyData) : (l.filter fun _ => false).map f = [] := by
  rw [show l.filter (fun _ => false) = [] from List.filter_eq_nil_iff.mpr fun _ _ => by decide]; rfl
theorem ex_lenLF {K : PySem.W.Frag} {Γ : List Wk.Slot} {te : TE} {n : Nat} {f : Fin n → PyData} (h : EX te Γ (kd K (.list (fins f)))) : EX (tCB (rLenSeq K) (tCons te tNil)) Γ (kd K (.int (n : Int))) := by
  have := ex_lenK h
  rwa [fins_len] at this
abbrev s_fits_line : Stmt := top 70
abbrev Ns_fits_line : List Str := ["ties", "other", "line", "button", "place", "index", "one"]
theorem sc_fits_line : FnScope Ns_fits_line ["ties", "other", "line", "button"] (defScope s_fits_line) := ⟨rfl, rfl, rfl, by decide +kernel, rfl, by decide +kernel, by decide +kernel⟩
def t_fits_line (K : PySem.W.Frag) : TS := (tSeq (tAsg (tCB (rLenSeq K) (tCons (tVar 2) tNil)) (gName 4))
    (tRet (tOp (rEqD K) (tLc (iEnum K (tCons (tVar 2) tNil)) (gTup K 2 (gCons (gName 5) (gCons (gName 6) gNil))) (tTest (tOp rNe (tOp (rIxT K) (tOp (rIxT K) (tVar 1) (tVar 6)) (tVar 3)) (tOp (rIxT K) (tOp (rIxT K) (tVar 0) (tVar 5)) (tVar 4)))) (tVar 5) [5, 6]) (tLst tNil))))
theorem sx_fits_line (T : Tx K mg) : (pm_fits_line K).body Ns_fits_line (t_fits_line K) := by
  rintro ⟨k, b⟩ hk
  dsimp only [pm_fits_line]
  show SX _ [_, _, _, _, _, _, _] _
  have hk : K12 k := hk
  have hk1 : k = 1 ∨ k = 2 := hk
  have hb := b.isLt
  rw [upto_fins]
  show SX _ [_, _, _, _, _, _, _] _
  refine q_set (R := kd K (encF b)) (ex_lenLF (ex_var rfl)) ?_
  show SX _ [_, _, _, _, _, _, _] _
  refine sx_ret (ex_is (ex_eqD (d := .list []) (e := .list []) rfl rfl (ex_is (ex_ofL (exl_lcT (n := b.val) (p := fun _ => false) (f := fun i => encF i) (iw_enumLF (f := fun i : Fin b.val => encF i) (ex_var rfl)) (fun i => (gx_tup (gxs_cons gx_name (gxs_cons gx_name gxs_nil)))) (fun i => et_is (et_test (ex_neI (a := ((tA k ⟨i.val, Nat.lt_trans i.isLt hb⟩ b : Nat) : Int)) (ex_cell2 (ex_cell (i := (⟨i.val, Nat.lt_trans i.isLt hb⟩ : Fin k)) (ex_var rfl) (ex_var rfl)) (ex_var rfl)) (ex_cell2 (ex_cell (i := (⟨i.val, Nat.lt_trans i.isLt hb⟩ : Fin k)) (ex_var rfl) (ex_var rfl)) (ex_var rfl)))) (by simp)) (fun i hp => (ex_var rfl)) (by omega))) (congrArg (fun l => kd K (.list l)) (no_filter _ _))) (ex_ofL (exl_lst (ead_nil (K := K))))) rfl)
theorem ok_fits_line (T : Tx K mg) {f : Addr} {fd : FuncData} (F : FnP K "fits_line" "fits_line" s_fits_line f fd) : FnOk P w K mg base CX0 1 f fd ["ties", "other", "line", "button"] (pm_fits_line K).sp := by
  have sc := sc_fits_line
  refine F.ok sc (fun vs H Q E h => Pm.len (fun _ => rfl) vs H Q E h) (fun cdv A outer s H vs Q E hr h => ⟨t_fits_line K, PSs.nox ?_, Pm.go (sx_fits_line T) vs H Q E h⟩)
  exact (pss_cons (ps_set (i := 4) sc.nd rfl (by first | exact Or.inl rfl | exact Or.inr rfl) (pe_callB call_len_seq rfl T.len_ PySem.boot_len (pa_cons (pv 2) pa_nil)))
      (pss_one (ps_ret (pe_cmpR (op_eqD hr.units) (pe_lc (own := [("index", 5), ("one", 6)]) (g := (gTup K 2 (gCons (gName 5) (gCons (gName 6) gNil)))) (tt := (tTest (tOp rNe (tOp (rIxT K) (tOp (rIxT K) (tVar 1) (tVar 6)) (tVar 3)) (tOp (rIxT K) (tOp (rIxT K) (tVar 0) (tVar 5)) (tVar 4))))) (te := (tVar 5)) rfl sc.nd (pi_enum (by rfl) T.enumerate_ (pa_cons (pv 2) pa_nil)) (blkOk_by (own := [("index", 5), ("one", 6)]) (N := Ns_fits_line) (sc := defScope s_fits_line) (by decide +kernel)) (fun _ _ _ _ _ => (pg_tup rfl (pgs_cons (pg_name (i := 5) sc.nd rfl (by first | exact Or.inl rfl | exact Or.inr rfl)) (pgs_cons (pg_name (i := 6) sc.nd rfl (by first | exact Or.inl rfl | exact Or.inr rfl)) pgs_nil)))) (fun _ _ _ _ _ => (pts_one (pt_cmpR op_ne (pe_ix ix_tup (pe_ix ix_tup (pv 1) (pv 6) (fun _ _ => rfl)) (pv 3) (fun _ _ => rfl)) (pe_ix ix_tup (pe_ix ix_tup (pv 0) (pv 5) (fun _ _ => rfl)) (pv 4) (fun _ _ => rfl)) (nomark _)))) (fun _ _ _ _ _ => (pv 5))) (pe_lst pa_nil) (nomark _)))))
def srt : Nat → List Int
  | 1 => [1]
  | _ => [1, 3]
def rowL {k : Nat} (i : Fin k) : List Int := (List.finRange k).map fun t => ((tA k i t : Nat) : Int)
theorem row_enc {k : Nat} (i : Fin k) : encRow (tA k i) = .tuple ((rowL i).map .int) := by
  unfold encRow fins rowL
  rw [List.map_map]; rfl
theorem row_perm {k : Nat} (hk : K12 k) (i : Fin k) : (rowL i).Perm (srt k) := by
  rcases hk with rfl | rfl
  · revert i; decide
  · revert i; decide
theorem row_srt {k : Nat} (hk : K12 k) (i : Fin k) (zs : List Int) (h1 : zs.Perm (rowL i)) (h2 : zs.Pairwise (· ≤ ·)) : zs = srt k := by
  have h3 := row_perm hk i
  have h4 : (srt k).Pairwise (· ≤ ·) := by rcases hk with rfl | rfl <;> decide
  exact List.Perm.eq_of_pairwise (le := (· ≤ ·)) (fun a b _ _ x y => Int.le_antisymm x y) h2 h4 (h1.trans h3)
theorem srt_all (k : Nat) : (fins fun _ : Fin k => encL (srt k)) = (List.replicate k (srt k)).map encL := by
  unfold fins
  rw [List.map_replicate]
  exact List.eq_replicate_iff.mpr ⟨by rw [List.length_map, List.length_finRange], fun b hb => by obtain ⟨_, _, e⟩ := List.mem_map.mp hb; exact e.symm⟩
theorem exl_srtAll {K : PySem.W.Frag} {Γ : List Wk.Slot} {j l : Nat} {k : Nat} (hk : K12 k) (h : EX (tVar j) Γ (kd K (encT (tA k)))) (hn : ∀ i ∈ [l], ∀ γ, Γ[i]? = some γ → γ.holds = false) (hl : l < Γ.length) : EXL K (tCB (rSortedLL K) (tCons (tLc (iTup K (tVar j)) (gName l) tYes (tCB (rSortedTI K) (tCons (tVar l) tNil)) [l]) tNil)) Γ ((List.replicate k (srt k)).map encL) := by
  have hk1 : k = 1 ∨ k = 2 := hk
  refine exl_sortedLL (bs := List.replicate k (srt k)) ?_ (by rw [List.length_replicate]; omega) (List.pairwise_replicate.mpr (.inr (List.le_refl _)))
  rw [← srt_all]
  refine exl_lcB (Γi := fun i => (wipeΓ Γ [l]).set l (.kn (kd K (encRow (tA k i))))) (iw_tupF h) (fun i => gx_name) (fun i => ex_ofL (exl_sortedTI (ns := rowL i) (ns' := srt k) (ex_is (ex_var (List.getElem?_set_self (by rw [wipeΓ_len]; exact hl))) (by rw [row_enc])) (by unfold rowL; rw [List.length_map, List.length_finRange]; omega) (row_srt hk i))) (by omega) hn (by simp) (fun i => ?_)
  apply List.ext_getElem?
  intro x
  by_cases q : x = l
  · subst q
    rw [wipeΓ_in (by simp) (by rw [List.length_set, wipeΓ_len]; exact hl), wipeΓ_in (by simp) hl]
  · rw [wipeΓ_get (by simpa using q), List.getElem?_set_ne (fun e => q e.symm)]
abbrev s_likeness_of : Stmt := top 69
abbrev Ns_likeness_of : List Str := ["ties", "other", "size", "line", "start", "place", "found", "button", "row"]
theorem sc_likeness_of : FnScope Ns_likeness_of ["ties", "other"] (defScope s_likeness_of) := ⟨rfl, rfl, rfl, by decide +kernel, rfl, by decide +kernel, by decide +kernel⟩
def t_likeness_of (K : PySem.W.Frag) : TS := (tSeq (tAsg (tCB (rLenSeq K) (tCons (tVar 0) tNil)) (gName 2))
    (tSeq (tIfS (tOr (tTest (tOp rNe (tVar 2) (tCB (rLenSeq K) (tCons (tVar 1) tNil)))) (tTest (tOp (rNeD K) (tCB (rSortedLL K) (tCons (tLc (iTup K (tVar 0)) (gName 8) tYes (tCB (rSortedTI K) (tCons (tVar 8) tNil)) [8]) tNil)) (tCB (rSortedLL K) (tCons (tLc (iTup K (tVar 1)) (gName 8) tYes (tCB (rSortedTI K) (tCons (tVar 8) tNil)) [8]) tNil))))) (tRet (tC .non)) tNext)
    (tSeq (tPar 3 4 (tCons (tLst tNil) (tCons (tC (.int 0)) tNil)))
    (tSeq (tWhile (tTest (tOp (rI0 fun i j => .bl (decide (i < j))) (tCB (rLenSeq K) (tCons (tVar 3) tNil)) (tVar 2))) (tSeq (tPar 5 6 (tCons (tCB (rLenSeq K) (tCons (tVar 3) tNil)) (tCons (tUn (rU fun i => .int (-i)) (tC (.int 1))) tNil)))
    (tSeq (tFor (iRng2 (tCons (tVar 4) (tCons (tVar 2) tNil))) (gName 7) (tIfS (tAnd (tTest (tOp (rI0 fun i j => .bl (decide (i < j))) (tVar 6) (tC (.int 0)))) (tAnd (tTest (tOp (rIn K true) (tVar 7) (tVar 3))) (tB (tCall (pm_fits_line K).sp [] E0 (tCons (tVar 0) (tCons (tVar 1) (tCons (tVar 3) (tCons (tVar 7) tNil)))))))) (tAsg (tVar 7) (gName 6)) tNext))
    (tSeq (tIfS (tAnd (tTest (tOp (rI0 fun i j => .bl (decide (i < j))) (tVar 6) (tC (.int 0)))) (tTest (tOp rEq (tVar 5) (tC (.int 0))))) (tRet (tC .non)) tNext)
    (tSeq (tAsg (tIf (tTest (tOp (rI0 fun i j => .bl (decide (j ≤ i))) (tVar 6) (tC (.int 0)))) (tC (.int 0)) (tOp (rI0 fun i j => .int (i + j)) (tOp (rIxL K) (tVar 3) (tUn (rU fun i => .int (-i)) (tC (.int 1)))) (tC (.int 1)))) (gName 4))
    (tAsg (tIf (tTest (tOp (rI0 fun i j => .bl (decide (j ≤ i))) (tVar 6) (tC (.int 0)))) (tOp rCat (tVar 3) (tLst (tCons (tVar 6) tNil))) (tSl (rSlL K) (tVar 3) tNoPart (tPart (tUn (rU fun i => .int (-i)) (tC (.int 1)))))) (gName 3)))))))
    (tRet (tCB (rTupOf K) (tCons (tVar 3) tNil)))))))
theorem sx_likeness_of (T : Tx K mg) : (pm_likeness_of K).body Ns_likeness_of (t_likeness_of K) := by
  rintro (k : Nat) (hk : K12 k)
  dsimp only [pm_likeness_of]
  show SX _ [_, _, _, _, _, _, _, _, _] _
  have hk1 : k = 1 ∨ k = 2 := hk
  refine q_set (R := kd K (.int (k : Int))) (ex_lenF (f := fun t => encRow (tA k t)) (ex_var rfl)) ?_
  have sh : SeqAt.shaped (.list ((List.replicate k (srt k)).map encL)) = true := by rcases hk1 with rfl | rfl <;> decide +kernel
  have eq : PyData.eqv (.list ((List.replicate k (srt k)).map encL)) (.list ((List.replicate k (srt k)).map encL)) = true := by rcases hk1 with rfl | rfl <;> decide +kernel
  refine q_if (b := false) (et_is (et_or (b := false) (et_is (et_test (ex_neI (ex_var rfl) (ex_lenF (f := fun t => encRow (tA k t)) (ex_var rfl)))) (by rw [decide_eq_true rfl]; first | done | rfl)) fun _ => (et_is (et_test (ex_neD sh sh (ex_ofL (exl_srtAll hk (ex_var rfl) (no_holds rfl) (by show 8 < 9; decide))) (ex_ofL (exl_srtAll hk (ex_var rfl) (no_holds rfl) (by show 8 < 9; decide))))) (by rw [eq]; first | done | rfl))) rfl) (fun e => by cases e) (fun _ => sx_pass ?_)
  refine q_par (R1 := kL K []) (R2 := kd K (.int 0)) (ea_cons (ex_ofLL (exl_lst (ead_nil (K := K)))) (ea_cons (ex_int (K := K)) ea_nil)) ?_
  show SX _ [_, _, _, _, _, _, _, _, _] _
  refine q_while (fun m Γ => ∃ (p : Nat) (a b c : Wk.Slot), p + m = k ∧ Γ = [.kn (kd K (encT (tA k))), .kn (kd K (encT (tA k))), .kn (kd K (.int (k : Int))), .kn (kL K ((upto p).map .int)), .kn (kd K (.int 0)), a, b, c, .un]) k ⟨0, _, _, _, by omega, rfl⟩ ?_
  rintro m Γ ⟨p, a, b, c, hm, rfl⟩
  refine ⟨_, et_test (ex_lt (ex_lenU (ex_varL rfl)) (ex_var rfl)), fun e => ?_, fun e => ?_⟩
  · have hp : p < k := by have := of_decide_eq_true e; omega
    refine q_par (R1 := kd K (.int (p : Int))) (R2 := kd K (.int (-1))) (ea_cons (ex_lenU (ex_varL rfl)) (ea_cons (ex_neg (ex_int (K := K))) ea_nil)) ?_
    show SX _ [_, _, _, _, _, _, _, _, _] _
    refine q_for (n := k) (Rs := fun i => kd K (.int (0 + (i : Int)))) (fun i Γ => ∃ c, Γ = [.kn (kd K (encT (tA k))), .kn (kd K (encT (tA k))), .kn (kd K (.int (k : Int))), .kn (kL K ((upto p).map .int)), .kn (kd K (.int 0)), .kn (kd K (.int (p : Int))), .kn (kd K (.int (if p < i then (p : Int) else -1))), c, .un]) (iw_range2 (a := 0) (b := (k : Int)) (ea_cons (ex_var rfl) (ea_cons (ex_var rfl) ea_nil)) (by omega) (by omega)) ⟨_, rfl⟩ ?_ ?_
    · rintro i Γ hi ⟨c, rfl⟩
      refine ⟨_, _, gx_name, ?_⟩
      show SX _ [_, _, _, _, _, _, _, _, _] _
      rw [Int.zero_add]
      by_cases q : i = p
      · subst q
        rw [if_neg (Nat.lt_irrefl i)]
        refine s_if (b := true) (et_is (et_and (a := true) (b := true) (et_is (et_test (ex_lt (ex_var rfl) (ex_int (K := K)))) rfl) fun _ => (et_and (a := true) (b := true) (et_is (et_test (ex_notInL (ns := upto i) (ex_var rfl) (ex_varL rfl))) (by rw [decide_eq_false (fun z => Nat.lt_irrefl i (upto_mem.mp z))]; first | done | rfl)) fun _ => (et_B (ex_pm (pm_fits_line K) ⟨k, ⟨i, hp⟩⟩ (ea_cons (ex_var rfl) (ea_cons (ex_var rfl) (ea_cons (ex_varL rfl) (ea_cons (ex_var rfl) ea_nil)))) hk)))) rfl) (fun _ => ?_) (fun e => by cases e)
        refine s_set (ex_var rfl) ?_
        rw [if_pos (Nat.lt_succ_self i)]
        exact ⟨_, rfl⟩
      · refine s_if (b := false) (et_is (et_and (et_test (ex_lt (ex_var rfl) (ex_int (K := K)))) (b := false) fun e => (et_is (et_and (a := false) (b := false) (et_is (et_test (ex_notInL (ns := upto p) (ex_var rfl) (ex_varL rfl))) (by
          have : i < p := by
            apply Classical.byContradiction
            intro z
            rw [if_pos (by omega : p < i)] at e
            have := of_decide_eq_true e
            omega
          rw [decide_eq_true (upto_mem.mpr this)]; first | done | rfl)) fun e => by cases e) rfl)) (Bool.and_false _)) (fun e => by cases e) (fun _ => sx_nil ?_)
        have : (p < i + 1) = (p < i) := by apply propext; omega
        simp only [this]
        exact ⟨_, rfl⟩
    · rintro Γ ⟨c, rfl⟩
      rw [if_pos hp]
      refine q_if (b := false) (et_is (et_and (a := false) (b := false) (et_is (et_test (ex_lt (ex_var rfl) (ex_int (K := K)))) (decide_eq_false (by omega))) fun e => by cases e) rfl) (fun e => by cases e) (fun _ => sx_pass ?_)
      have ge : decide ((0 : Int) ≤ (p : Int)) = true := decide_eq_true (by omega)
      refine q_set (R := kd K (.int 0)) (ex_if (b := true) (et_is (et_test (ex_ge (ex_var rfl) (ex_int (K := K)))) ge) (fun _ => ex_int (K := K)) (fun e => by cases e)) ?_
      refine s_set (R := kL K ((upto (p + 1)).map .int)) (ex_if (b := true) (et_is (et_test (ex_ge (ex_var rfl) (ex_int (K := K)))) ge) (fun _ => ?_) (fun e => by cases e)) ?_
      · rw [upto_succ, List.map_append]
        exact ex_ofLL (exl_catL (ex_var rfl) (ex_ofLL (exl_lst (ead_cons (ex_var rfl) ead_nil))) (by rw [List.length_map, upto_len]; show p + 1 ≤ 1000; omega))
      · exact ⟨m - 1, by omega, p + 1, _, _, _, by omega, rfl⟩
  · have hp : p = k := by have := of_decide_eq_false e; omega
    subst hp
    exact sx_ret (ex_tupK (ex_varL rfl))
theorem ok_likeness_of (T : Tx K mg) (c_fits_line : C8.Cal P w K mg base 1 "fits_line" (pm_fits_line K).sp []) {f : Addr} {fd : FuncData} (F : FnP K "likeness_of" "likeness_of" s_likeness_of f fd) : FnOk P w K mg base CX0 2 f fd ["ties", "other"] (pm_likeness_of K).sp := by
  have sc := sc_likeness_of
  refine F.ok sc (fun vs H Q E h => Pm.len (fun _ => rfl) vs H Q E h) (fun cdv A outer s H vs Q E hr h => ⟨t_likeness_of K, PSs.nox ?_, Pm.go (sx_likeness_of T) vs H Q E h⟩)
  exact (pss_cons (ps_set (i := 2) sc.nd rfl (by first | exact Or.inl rfl | exact Or.inr rfl) (pe_callB call_len_seq rfl T.len_ PySem.boot_len (pa_cons (pv 0) pa_nil)))
      (pss_cons (ps_if (PW.pt (pw_or (pt_cmpR op_ne (pv 2) (pe_callB call_len_seq rfl T.len_ PySem.boot_len (pa_cons (pv 1) pa_nil)) (nomark _)) (pw_or1 (pt_cmpR (op_neD hr.units) (pe_callB (cr_sortedLL hr.units) rfl T.sorted_ PyProof.Rows.boot_sorted (pa_cons (pe_lc (own := [("row", 8)]) (g := (gName 8)) (tt := tYes) (te := (tCB (rSortedTI K) (tCons (tVar 8) tNil))) rfl sc.nd (pi_tup (pv 0)) (blkOk_by (own := [("row", 8)]) (N := Ns_likeness_of) (sc := defScope s_likeness_of) (by decide +kernel)) (fun _ _ _ _ _ => (pg_name (i := 8) sc.nd rfl (by first | exact Or.inl rfl | exact Or.inr rfl))) (fun _ _ _ _ _ => pts_nil) (fun _ _ _ _ _ => (pe_callB cr_sortedTI rfl T.sorted_ PyProof.Rows.boot_sorted (pa_cons (pv 8) pa_nil)))) pa_nil)) (pe_callB (cr_sortedLL hr.units) rfl T.sorted_ PyProof.Rows.boot_sorted (pa_cons (pe_lc (own := [("row", 8)]) (g := (gName 8)) (tt := tYes) (te := (tCB (rSortedTI K) (tCons (tVar 8) tNil))) rfl sc.nd (pi_tup (pv 1)) (blkOk_by (own := [("row", 8)]) (N := Ns_likeness_of) (sc := defScope s_likeness_of) (by decide +kernel)) (fun _ _ _ _ _ => (pg_name (i := 8) sc.nd rfl (by first | exact Or.inl rfl | exact Or.inr rfl))) (fun _ _ _ _ _ => pts_nil) (fun _ _ _ _ _ => (pe_callB cr_sortedTI rfl T.sorted_ PyProof.Rows.boot_sorted (pa_cons (pv 8) pa_nil)))) pa_nil)) (nomark _))))) (pss_one (ps_ret pe_non)) pss_nil)
      (pss_cons (ps_par (i := 3) (j := 4) rfl sc.nd rfl rfl (by decide) rfl rfl (pa_cons (pe_lst pa_nil) (pa_cons pe_int pa_nil)) rfl)
      (pss_cons (ps_while PassesOwn.never (pt_cmpR op_lt (pe_callB call_len_seq rfl T.len_ PySem.boot_len (pa_cons (pv 3) pa_nil)) (pv 2) (nomark _)) (pss_cons (ps_par (i := 5) (j := 6) rfl sc.nd rfl rfl (by decide) rfl rfl (pa_cons (pe_callB call_len_seq rfl T.len_ PySem.boot_len (pa_cons (pv 3) pa_nil)) (pa_cons (pe_un un_neg pe_int) pa_nil)) rfl)
      (pss_cons (ps_for PassesOwn.never rfl (pi_range2 rfl T.range_ (pa_cons (pv 4) (pa_cons (pv 2) pa_nil))) (pg_name (i := 7) sc.nd rfl (by first | exact Or.inl rfl | exact Or.inr rfl)) (pss_one (ps_if (PW.pt (pw_and (pt_cmpR op_lt (pv 6) pe_int (nomark _)) (pw_and (pt_cmpR op_notIn_seq (pv 7) (pv 3) (by with_unfolding_all rfl)) (pw_and1 (pt_val (C8.pe_c c_fits_line hr (by decide) rfl (pa_cons (pv 0) (pa_cons (pv 1) (pa_cons (pv 3) (pa_cons (pv 7) pa_nil)))))))))) (pss_one (ps_set (i := 6) sc.nd rfl (by first | exact Or.inl rfl | exact Or.inr rfl) (pv 7))) pss_nil)))
      (pss_cons (ps_if (PW.pt (pw_and (pt_cmpR op_lt (pv 6) pe_int (nomark _)) (pw_and1 (pt_cmpR op_eq (pv 5) pe_int (nomark _))))) (pss_one (ps_ret pe_non)) pss_nil)
      (pss_cons (ps_set (i := 4) sc.nd rfl (by first | exact Or.inl rfl | exact Or.inr rfl) (pe_ifExp (pt_cmpR op_ge (pv 6) pe_int (nomark _)) pe_int (pe_op op_add (pe_ix ix_list (pv 3) (pe_un un_neg pe_int) (fun _ _ => rfl)) pe_int)))
      (pss_one (ps_set (i := 3) sc.nd rfl (by first | exact Or.inl rfl | exact Or.inr rfl) (pe_ifExp (pt_cmpR op_ge (pv 6) pe_int (nomark _)) (pe_op op_cat (pv 3) (pe_lst (pa_cons (pv 6) pa_nil))) (pe_slice sl_list (pv 3) po_none (po_some (pe_un un_neg pe_int)))))))))))
      (pss_one (ps_ret (pe_callTy call_tuple_of rfl T.tuple_ (by decide +kernel) (pa_cons (pv 3) pa_nil))))))))
theorem namesL_head {k : Nat} (hk : K12 k) : ∃ r, namesL k = nm k :: r := by
  rcases hk with rfl | rfl
  · exact ⟨_, rfl⟩
  · exact ⟨_, rfl⟩
abbrev s_name_of : Stmt := top 89
abbrev Ns_name_of : List Str := ["ties", "name"]
theorem sc_name_of : FnScope Ns_name_of ["ties"] (defScope s_name_of) := ⟨rfl, rfl, rfl, by decide +kernel, rfl, by decide +kernel, by decide +kernel⟩
def t_name_of (K : PySem.W.Frag) : TS := (tSeq (tFor (iList K (tCall (pm_names_with K).sp [] E0 (tCons (tCB (rLenSeq K) (tCons (tVar 0) tNil)) tNil))) (gName 1) (tIfS (tB (tNotN (tCall (pm_likeness_of K).sp [] E0 (tCons (tVar 0) (tCons (tCall (pm_named_ties K).sp [] E0 (tCons (tVar 1) tNil)) tNil))))) (tRet (tVar 1)) tNext))
    (tRet (tC (.str "wild"))))
theorem sx_name_of (T : Tx K mg) : (pm_name_of K).body Ns_name_of (t_name_of K) := by
  rintro (k : Nat) (hk : K12 k)
  dsimp only [pm_name_of]
  show SX _ [_, _] _
  obtain ⟨r, hr⟩ := namesL_head hk
  refine q_for (fun i Γ => i = 0 ∧ Γ = [.kn (kd K (encT (tA k))), .un]) (iw_listK (ds := (namesL k).map .str) (ex_pm (pm_names_with K) k (ea_cons (ex_lenF (f := fun t => encRow (tA k t)) (ex_var rfl)) ea_nil) hk)) ⟨rfl, rfl⟩ ?_ ?_
  · rintro i Γ hi ⟨rfl, rfl⟩
    refine ⟨_, _, by rw [kdAt_of (d := .str (nm k)) (by rw [hr]; rfl)]; exact gx_name, ?_⟩
    exact s_if (b := true) (et_B (ex_notN false tup_none (ex_pm (pm_likeness_of K) k (ea_cons (ex_var rfl) (ea_cons (ex_pm (pm_named_ties K) k (ea_cons (ex_var rfl) ea_nil) hk) ea_nil)) hk))) (fun _ => sx_ret (ex_var rfl)) (fun e => by cases e)
  · rintro Γ ⟨e, rfl⟩
    rw [hr] at e; cases e
theorem ok_name_of (T : Tx K mg) (c_names_with : C8.Cal P w K mg base 1 "names_with" (pm_names_with K).sp []) (c_named_ties : C8.Cal P w K mg base 3 "named_ties" (pm_named_ties K).sp []) (c_likeness_of : C8.Cal P w K mg base 2 "likeness_of" (pm_likeness_of K).sp []) {f : Addr} {fd : FuncData} (F : FnP K "name_of" "name_of" s_name_of f fd) : FnOk P w K mg base CX0 4 f fd ["ties"] (pm_name_of K).sp := by
  have sc := sc_name_of
  refine F.ok sc (fun vs H Q E h => Pm.len (fun _ => rfl) vs H Q E h) (fun cdv A outer s H vs Q E hr h => ⟨t_name_of K, PSs.nox ?_, Pm.go (sx_name_of T) vs H Q E h⟩)
  exact (pss_cons (ps_for PassesOwn.never rfl (pi_list (C8.pe_c c_names_with hr (by decide) rfl (pa_cons (pe_callB call_len_seq rfl T.len_ PySem.boot_len (pa_cons (pv 0) pa_nil)) pa_nil))) (pg_name (i := 1) sc.nd rfl (by first | exact Or.inl rfl | exact Or.inr rfl)) (pss_one (ps_if (pt_cmp (pc_notN (C8.pe_c c_likeness_of hr (by decide) rfl (pa_cons (pv 0) (pa_cons (C8.pe_c c_named_ties hr (by decide) rfl (pa_cons (pv 1) pa_nil)) pa_nil))))) (pss_one (ps_ret (pv 1))) pss_nil)))
      (pss_one (ps_ret pe_str)))
abbrev s_kind_of : Stmt := top 90
abbrev Ns_kind_of : List Str := ["name"]
theorem sc_kind_of : FnScope Ns_kind_of ["name"] (defScope s_kind_of) := ⟨rfl, rfl, rfl, by decide +kernel, rfl, by decide +kernel, by decide +kernel⟩
def t_kind_of (K : PySem.W.Frag) : TS := (tRet (tIf (tTest (tOp rEq (tVar 0) (tC (.str "wild")))) (tC (.str "wild")) (tIf (tTest (tOp rEq (tOp rIxS (tVar 0) (tC (.int 0))) (tC (.str "~")))) (tC (.str "flat")) (tC (.str "finite")))))
theorem sx_kind_of (T : Tx K mg) : (pm_kind_of K).body Ns_kind_of (t_kind_of K) := by
  rintro (k : Nat) (hk : K12 k)
  dsimp only [pm_kind_of]
  show SX _ [_] _
  obtain ⟨f1, f2, f3, f4, f5, f6, f7, f8⟩ := nm_facts hk
  have n1 : decide (nm k = "wild") = false := by rcases hk with rfl | rfl <;> decide +kernel
  have n2 : decide ((⟨#[65]⟩ : Str) = "~") = false := by decide +kernel
  exact sx_ret (ex_if (b := false) (et_is (et_test (ex_eqS (ex_var rfl) (ex_str (K := K)))) n1) (fun e => by cases e) fun _ => (ex_if (b := false) (et_is (et_test (ex_eqS (ex_ixS (ex_var rfl) (ex_int (K := K)) f5 f8) (ex_str (K := K)))) n2) (fun e => by cases e) fun _ => (ex_str (K := K))))
theorem ok_kind_of (T : Tx K mg) {f : Addr} {fd : FuncData} (F : FnP K "kind_of" "kind_of" s_kind_of f fd) : FnOk P w K mg base CX0 1 f fd ["name"] (pm_kind_of K).sp := by
  have sc := sc_kind_of
  refine F.ok sc (fun vs H Q E h => Pm.len (fun _ => rfl) vs H Q E h) (fun cdv A outer s H vs Q E hr h => ⟨t_kind_of K, PSs.nox ?_, Pm.go (sx_kind_of T) vs H Q E h⟩)
  exact (pss_one (ps_ret (pe_ifExp (pt_cmpR op_eq (pv 0) pe_str (nomark _)) pe_str (pe_ifExp (pt_cmpR op_eq (pe_ix ix_str (pv 0) pe_int (fun _ _ => rfl)) pe_str (nomark _)) pe_str pe_str))))
abbrev s_part_names : Stmt := top 91
abbrev Ns_part_names : List Str := ["ties", "room", "inner", "piece"]
theorem sc_part_names : FnScope Ns_part_names ["ties", "room"] (defScope s_part_names) := ⟨rfl, rfl, rfl, by decide +kernel, rfl, by decide +kernel, by decide +kernel⟩
def t_part_names (K : PySem.W.Frag) : TS := (tSeq (tAsg (tCall (pm_part_ties K).sp [] E0 (tCons (tVar 0) (tCons (tVar 1) tNil))) (gName 2))
    (tRet (tLc (iTup K (tCall (pm_pieces_of K).sp [] E0 (tCons (tVar 2) tNil))) (gName 3) tYes (tCall (pm_name_of K).sp [] E0 (tCons (tCall (pm_part_ties K).sp [] E0 (tCons (tVar 2) (tCons (tVar 3) tNil))) tNil)) [3])))
theorem sx_part_names (T : Tx K mg) : (pm_part_names K).body Ns_part_names (t_part_names K) := by
  rintro ⟨X, R⟩ hf
  dsimp only [pm_part_names]
  show SX _ [_, _, _, _] _
  have hf : FinR X R := hf
  refine q_set (ex_pm (pm_part_ties K) ⟨X.n, X.m, R⟩ (ea_cons (ex_var rfl) (ea_cons (ex_var rfl) ea_nil)) hf.l3) ?_
  show SX _ [_, _, _, _] _
  have hl := piecesF_len (inn X R)
  have h3 := hf.l3
  refine sx_ret (ex_ofL (ds := (piecesF (inn X R)).map fun p => .str (nm p.length)) ?_)
  rw [list_fins (piecesF (inn X R)) fun p => PyData.str (nm p.length)]
  refine exl_lcB (f := fun i : Fin (piecesF (inn X R)).length => .str (nm (piecesF (inn X R))[i].length)) (iw_tupF (f := fun i : Fin (piecesF (inn X R)).length => encW (piecesF (inn X R))[i]) (ex_is (ex_pm (pm_pieces_of K) ⟨R.length, inn X R⟩ (ea_cons (ex_var rfl) ea_nil) h3) (by rw [← list_fins (piecesF (inn X R)) encW]; rfl))) (fun i => gx_name) (fun i => ?_) (by omega)
  have hp := hf.ps (piecesF (inn X R))[i] (List.getElem_mem _)
  have hk1 : (piecesF (inn X R))[i].length = 1 ∨ (piecesF (inn X R))[i].length = 2 := hp.1
  refine ex_pm (pm_name_of K) (piecesF (inn X R))[i].length (ea_cons (ex_is (ex_pm (pm_part_ties K) ⟨R.length, inn X R, (piecesF (inn X R))[i]⟩ (ea_cons (ex_var rfl) (ea_cons (ex_var rfl) ea_nil)) (show (piecesF (inn X R))[i].length ≤ 3 by omega)) ?_) ea_nil) hp.1
  exact congrArg (fun m => kd K (encT m)) (funext fun a => funext fun b => hp.2 a b)
theorem ok_part_names (T : Tx K mg) (c_part_ties : C8.Cal P w K mg base 1 "part_ties" (pm_part_ties K).sp []) (c_pieces_of : C8.Cal P w K mg base 2 "pieces_of" (pm_pieces_of K).sp []) (c_name_of : C8.Cal P w K mg base 4 "name_of" (pm_name_of K).sp []) {f : Addr} {fd : FuncData} (F : FnP K "part_names" "part_names" s_part_names f fd) : FnOk P w K mg base CX0 5 f fd ["ties", "room"] (pm_part_names K).sp := by
  have sc := sc_part_names
  refine F.ok sc (fun vs H Q E h => Pm.len (fun _ => rfl) vs H Q E h) (fun cdv A outer s H vs Q E hr h => ⟨t_part_names K, PSs.nox ?_, Pm.go (sx_part_names T) vs H Q E h⟩)
  exact (pss_cons (ps_set (i := 2) sc.nd rfl (by first | exact Or.inl rfl | exact Or.inr rfl) (C8.pe_c c_part_ties hr (by decide) rfl (pa_cons (pv 0) (pa_cons (pv 1) pa_nil))))
      (pss_one (ps_ret (pe_lc (own := [("piece", 3)]) (g := (gName 3)) (tt := tYes) (te := (tCall (pm_name_of K).sp [] E0 (tCons (tCall (pm_part_ties K).sp [] E0 (tCons (tVar 2) (tCons (tVar 3) tNil))) tNil))) rfl sc.nd (pi_tup (C8.pe_c c_pieces_of hr (by decide) rfl (pa_cons (pv 2) pa_nil))) (blkOk_by (own := [("piece", 3)]) (N := Ns_part_names) (sc := defScope s_part_names) (by decide +kernel)) (fun _ _ _ _ _ => (pg_name (i := 3) sc.nd rfl (by first | exact Or.inl rfl | exact Or.inr rfl))) (fun _ _ _ _ _ => pts_nil) (fun _ _ _ _ _ => (C8.pe_c c_name_of hr (by decide) rfl (pa_cons (C8.pe_c c_part_ties hr (by decide) rfl (pa_cons (pv 2) (pa_cons (pv 3) pa_nil))) pa_nil)))))))
abbrev s_is_finite_part : Stmt := top 92
abbrev Ns_is_finite_part : List Str := ["ties", "room", "name"]
theorem sc_is_finite_part : FnScope Ns_is_finite_part ["ties", "room"] (defScope s_is_finite_part) := ⟨rfl, rfl, rfl, by decide +kernel, rfl, by decide +kernel, by decide +kernel⟩
def t_is_finite_part (K : PySem.W.Frag) : TS := (tRet (tOp (rEqD K) (tLc (iList K (tCall (pm_part_names K).sp [] E0 (tCons (tVar 0) (tCons (tVar 1) tNil)))) (gName 2) (tTest (tOp rNe (tCall (pm_kind_of K).sp [] E0 (tCons (tVar 2) tNil)) (tC (.str "finite")))) (tVar 2) [2]) (tLst tNil)))
theorem sx_is_finite_part (T : Tx K mg) : (pm_is_finite_part K).body Ns_is_finite_part (t_is_finite_part K) := by
  rintro ⟨X, R⟩ hf
  dsimp only [pm_is_finite_part]
  show SX _ [_, _, _] _
  have hf : FinR X R := hf
  have hl := piecesF_len (inn X R)
  have h3 := hf.l3
  refine sx_ret (ex_is (ex_eqD (d := .list []) (e := .list []) rfl rfl (ex_is (ex_ofL (exl_lcT (n := (piecesF (inn X R)).length) (p := fun _ => false) (f := fun i => .str (nm (piecesF (inn X R))[i].length)) (iw_listF (f := fun i : Fin (piecesF (inn X R)).length => .str (nm (piecesF (inn X R))[i].length)) (ex_is (ex_pm (pm_part_names K) ⟨X, R⟩ (ea_cons (ex_var rfl) (ea_cons (ex_var rfl) ea_nil)) hf) (congrArg (fun l => kd K (.list l)) (list_fins (piecesF (inn X R)) fun p => PyData.str (nm p.length))))) (fun i => gx_name) (fun i => et_is (et_test (ex_neS (ex_pm (pm_kind_of K) (piecesF (inn X R))[i].length (ea_cons (ex_var rfl) ea_nil) (hf.ps (piecesF (inn X R))[i] (List.getElem_mem _)).1) (ex_str (K := K)))) (by decide +kernel)) (fun i hp => (ex_var rfl)) (by omega))) (congrArg (fun l => kd K (.list l)) (no_filter _ _))) (ex_ofL (exl_lst (ead_nil (K := K))))) rfl)
theorem ok_is_finite_part (T : Tx K mg) (c_part_names : C8.Cal P w K mg base 5 "part_names" (pm_part_names K).sp []) (c_kind_of : C8.Cal P w K mg base 1 "kind_of" (pm_kind_of K).sp []) {f : Addr} {fd : FuncData} (F : FnP K "is_finite_part" "is_finite_part" s_is_finite_part f fd) : FnOk P w K mg base CX0 6 f fd ["ties", "room"] (pm_is_finite_part K).sp := by
  have sc := sc_is_finite_part
  refine F.ok sc (fun vs H Q E h => Pm.len (fun _ => rfl) vs H Q E h) (fun cdv A outer s H vs Q E hr h => ⟨t_is_finite_part K, PSs.nox ?_, Pm.go (sx_is_finite_part T) vs H Q E h⟩)
  exact (pss_one (ps_ret (pe_cmpR (op_eqD hr.units) (pe_lc (own := [("name", 2)]) (g := (gName 2)) (tt := (tTest (tOp rNe (tCall (pm_kind_of K).sp [] E0 (tCons (tVar 2) tNil)) (tC (.str "finite"))))) (te := (tVar 2)) rfl sc.nd (pi_list (C8.pe_c c_part_names hr (by decide) rfl (pa_cons (pv 0) (pa_cons (pv 1) pa_nil)))) (blkOk_by (own := [("name", 2)]) (N := Ns_is_finite_part) (sc := defScope s_is_finite_part) (by decide +kernel)) (fun _ _ _ _ _ => (pg_name (i := 2) sc.nd rfl (by first | exact Or.inl rfl | exact Or.inr rfl))) (fun _ _ _ _ _ => (pts_one (pt_cmpR op_ne (C8.pe_c c_kind_of hr (by decide) rfl (pa_cons (pv 2) pa_nil)) pe_str (nomark _)))) (fun _ _ _ _ _ => (pv 2))) (pe_lst pa_nil) (nomark _))))
abbrev s_check_finite : Stmt := top 95
abbrev Ns_check_finite : List Str := ["table", "room"]
theorem sc_check_finite : FnScope Ns_check_finite ["table", "room"] (defScope s_check_finite) := ⟨rfl, rfl, rfl, by decide +kernel, rfl, by decide +kernel, by decide +kernel⟩
def t_check_finite (K : PySem.W.Frag) : TS := (tIfS (tNot (tB (tCall (pm_is_finite_part K).sp [] E0 (tCons (tFld K (tVar 0) "ties") (tCons (tVar 1) tNil))))) tNever tNext)
theorem sx_check_finite (T : Tx K mg) : (pm_check_finite K).body Ns_check_finite (t_check_finite K) := by
  rintro ⟨X, R⟩ hf
  dsimp only [pm_check_finite]
  show SX _ [_, _] _
  exact s_if (b := false) (et_is (et_not (et_B (ex_pm (pm_is_finite_part K) ⟨X, R⟩ (ea_cons (ex_ties T (ex_var rfl)) (ea_cons (ex_var rfl) ea_nil)) hf))) rfl) (fun e => by cases e) (fun _ => sx_nil fun _ => .non)
theorem ok_check_finite (T : Tx K mg) (c_is_finite_part : C8.Cal P w K mg base 6 "is_finite_part" (pm_is_finite_part K).sp []) {f : Addr} {fd : FuncData} (F : FnP K "check_finite" "check_finite" s_check_finite f fd) : FnOk P w K mg base CX0 7 f fd ["table", "room"] (pm_check_finite K).sp := by
  have sc := sc_check_finite
  refine F.ok sc (fun vs H Q E h => Pm.len (fun _ => rfl) vs H Q E h) (fun cdv A outer s H vs Q E hr h => ⟨t_check_finite K, PSs.nox ?_, Pm.go (sx_check_finite T) vs H Q E h⟩)
  exact (pss_one (ps_if (pt_not (pt_val (C8.pe_c c_is_finite_part hr (by decide) rfl (pa_cons (pe_fld (pv 0) rfl) (pa_cons (pv 1) pa_nil))))) (pss_one ps_never) pss_nil))
abbrev s_room_top : Stmt := top 96
abbrev Ns_room_top : List Str := ["table", "room"]
theorem sc_room_top : FnScope Ns_room_top ["table", "room"] (defScope s_room_top) := ⟨rfl, rfl, rfl, by decide +kernel, rfl, by decide +kernel, by decide +kernel⟩
def t_room_top (K : PySem.W.Frag) : TS := (tSeq (tDrop (tCall (pm_check_table K).sp [] E0 (tCons (tVar 0) tNil)))
    (tSeq (tDrop (tCall (pm_check_room K).sp [] E0 (tCons (tVar 0) (tCons (tVar 1) tNil))))
    (tSeq (tDrop (tCall (pm_check_finite K).sp [] E0 (tCons (tVar 0) (tCons (tVar 1) tNil))))
    (tRet (tCall (pm_top_of K).sp [] E0 (tCons (tVar 0) (tCons (tVar 1) tNil)))))))
theorem sx_room_top (T : Tx K mg) : (pm_room_top K).body Ns_room_top (t_room_top K) := by
  rintro ⟨X, R, z⟩ ⟨hr, hz, hs, hf⟩
  dsimp only [pm_room_top]
  show SX _ [_, _] _
  have hf : FinR X R := hf
  have h3 : R.length ≤ 3 := hf.l3
  refine q_drop (ex_pm (pm_check_table K) X (ea_cons (ex_var rfl) ea_nil) trivial) ?_
  refine q_drop (ex_pm (pm_check_room K) ⟨X, R⟩ (ea_cons (ex_var rfl) (ea_cons (ex_var rfl) ea_nil)) ⟨hs, (by omega : R.length ≤ 100)⟩) ?_
  refine q_drop (ex_pm (pm_check_finite K) ⟨X, R⟩ (ea_cons (ex_var rfl) (ea_cons (ex_var rfl) ea_nil)) hf) ?_
  exact sx_ret (ex_pm (pm_top_of K) ⟨X, R, z⟩ (ea_cons (ex_var rfl) (ea_cons (ex_var rfl) ea_nil)) ⟨hr, hz, (by omega : R.length ≤ 100)⟩)
theorem ok_room_top (T : Tx K mg) (c_check_table : C8.Cal P w K mg base 1 "check_table" (pm_check_table K).sp []) (c_check_room : C8.Cal P w K mg base 4 "check_room" (pm_check_room K).sp []) (c_check_finite : C8.Cal P w K mg base 7 "check_finite" (pm_check_finite K).sp []) (c_top_of : C8.Cal P w K mg base 8 "top_of" (pm_top_of K).sp []) {f : Addr} {fd : FuncData} (F : FnP K "room_top" "room_top" s_room_top f fd) : FnOk P w K mg base CX0 9 f fd ["table", "room"] (pm_room_top K).sp := by
  have sc := sc_room_top
  refine F.ok sc (fun vs H Q E h => Pm.len (fun _ => rfl) vs H Q E h) (fun cdv A outer s H vs Q E hr h => ⟨t_room_top K, PSs.nox ?_, Pm.go (sx_room_top T) vs H Q E h⟩)
  exact (pss_cons (ps_expr (C8.pe_c c_check_table hr (by decide) rfl (pa_cons (pv 0) pa_nil)))
      (pss_cons (ps_expr (C8.pe_c c_check_room hr (by decide) rfl (pa_cons (pv 0) (pa_cons (pv 1) pa_nil))))
      (pss_cons (ps_expr (C8.pe_c c_check_finite hr (by decide) rfl (pa_cons (pv 0) (pa_cons (pv 1) pa_nil))))
      (pss_one (ps_ret (C8.pe_c c_top_of hr (by decide) rfl (pa_cons (pv 0) (pa_cons (pv 1) pa_nil))))))))
end
end Wk
namespace Wk
open PySem L2
namespace W
section
variable {n : Nat} {S : Sys n}
/-! ### changes made of some buttons alone -/
def In (R : List (Fin n)) (x : W S) : Prop := ∃ w : List (Fin n), mk w = x ∧ ∀ a ∈ w, a ∈ R
theorem In.one (R : List (Fin n)) : In R (1 : W S) := ⟨[], rfl, fun a h => by cases h⟩
theorem In.gen {R : List (Fin n)} {x : W S} {s : Fin n} (h : In R x) (hs : s ∈ R) : In R (x * gen s) := by
  obtain ⟨w, e, hw⟩ := h
  refine ⟨w ++ [s], by rw [mk_append, e]; rfl, fun a ha => ?_⟩
  rcases List.mem_append.mp ha with q | q
  · exact hw a q
  · rw [List.mem_singleton.mp q]; exact hs
theorem In.inv {R : List (Fin n)} {x : W S} (h : In R x) : In R x⁻¹ := by
  obtain ⟨w, e, hw⟩ := h
  exact ⟨w.reverse, by rw [mk_reverse, e], fun a ha => hw a (List.mem_reverse.mp ha)⟩
/-- no entry off the buttons changes -/
theorem In.off {R : List (Fin n)} {x : W S} (h : In R x) (v : Vec n) {p : Fin n} (hp : p ∉ R) : act x v p = v p := by
  obtain ⟨w, e, hw⟩ := h
  subst e
  induction w with
  | nil => rfl
  | cons a w ih =>
    show rf S.A a (actW S.A w v) p = v p
    have hn : p ≠ a := fun z => hp (z ▸ hw a List.mem_cons_self)
    unfold rf
    rw [if_neg hn]
    exact ih fun b hb => hw b (List.mem_cons_of_mem _ hb)
theorem In.not_fr {R : List (Fin n)} {x : W S} (h : In R x) {u : Fin n} (hu : u ∉ R) : ¬ fr x u := fun f => by
  have d : NG (-(act x⁻¹ (axis u) u)) := fr_down.mp f u
  rw [h.inv.off (axis u) hu, axis_same] at d
  exact absurd d (by decide)
theorem sm_down : ∀ {n : Nat} {f : Fin n → G}, (∀ t, NG (-(f t))) → NG (-(sm n f))
  | 0, f, h => by
    show NG (-(0 : G))
    decide
  | n + 1, f, h => by
    have e : -(sm (n + 1) f) = -(sm n fun i => f i.castSucc) + -(f (Fin.last n)) := by
      simp only [sm]; grind
    rw [e]
    exact (sm_down fun t => h t.castSucc).add (h (Fin.last n))
/-- what a room's buttons make begins all that has them as front buttons -/
theorem front_step {R : List (Fin n)} {x g : W S} {s : Fin n} (hx : In R x) (hs : s ∈ R) (hl : len (x * gen s) = len x + 1) (hR : ∀ r ∈ R, fr g r) : fr (x⁻¹ * g) s := by
  rw [fr_down, mul_inv_rev, inv_inv]
  have e : act (g⁻¹ * x) (axis s) = act g⁻¹ (act x (axis s)) := act_mul _ _ _
  intro p
  rw [e, act_sum]
  refine sm_down fun t => ?_
  by_cases ht : t ∈ R
  · have h1 := up hl t
    have h2 := fr_down.mp (hR t ht) p
    have e2 : -(act x (axis s) t * img g⁻¹ t p) = act x (axis s) t * -(act g⁻¹ (axis t) p) := by
      show -(act x (axis s) t * act g⁻¹ (axis t) p) = _
      grind
    rw [e2]
    exact h1.mul h2
  · have hn : t ≠ s := fun z => ht (z ▸ hs)
    rw [hx.off (axis s) ht, axis_ne hn]
    have e2 : -((0 : G) * img g⁻¹ t p) = 0 := by grind
    rw [e2]; decide
theorem run_ex {R : List (Fin n)} {g : W S} (hR : ∀ r ∈ R, fr g r) : ∀ (N : Nat) (x : W S), len g - len x ≤ N → In R x → beg x g → ∃ z, Run R x z ∧ beg z g ∧ In R z
  | N, x, hN, hx, hb => by
    cases h : R.filter (fun s => !isBack x s) with
    | nil => exact ⟨x, .stop h, hb, hx⟩
    | cons s r =>
      have hm : s ∈ R.filter (fun s => !isBack x s) := by rw [h]; exact List.mem_cons_self
      obtain ⟨hs, b⟩ := List.mem_filter.mp hm
      rw [Bool.not_eq_true'] at b
      have hl := isBack_no.mp b
      obtain ⟨l2, b2⟩ := beg_step hb (front_step hx hs hl hR)
      have le := beg_le b2
      cases N with
      | zero => omega
      | succ N =>
        obtain ⟨z, h1, h2, h3⟩ := run_ex hR N (x * gen s) (by omega) (hx.gen hs) b2
        exact ⟨z, .step h h1, h2, h3⟩
theorem Run.det {R : List (Fin n)} {x z z' : W S} (h : Run R x z) (k : Run R x z') : z = z' := by
  induction h with
  | stop h =>
    cases k with
    | stop _ => rfl
    | step h2 _ => rw [h] at h2; cases h2
  | step h _ ih =>
    cases k with
    | stop h2 => rw [h] at h2; cases h2
    | step h2 k2 =>
      rw [h] at h2
      cases h2
      exact ih k2
theorem Run.backs {R : List (Fin n)} {x z : W S} (h : Run R x z) : ∀ s ∈ R, isBack z s = true := by
  induction h with
  | stop h =>
    intro s hs
    have := List.filter_eq_nil_iff.mp h s hs
    simpa using this
  | step _ _ ih => exact ih
/-- a top undoes itself -/
theorem Run.inv {R : List (Fin n)} {z : W S} (h : Run R 1 z) : z⁻¹ = z := by
  have hb := h.backs
  obtain ⟨z', h1, h2, _⟩ := run_ex (g := z⁻¹) (R := R) (fun r hr => by
    rw [← isFront_iff, ← isBack_inv, inv_inv]; exact hb r hr) (len z⁻¹) 1 (by omega) (In.one R) (beg_one _)
  rw [h1.det h] at h2
  exact (beg_eq h2 (by rw [len_inv]; exact Nat.le_refl _)).symm
theorem fr_inv_back {z : W S} {s : Fin n} : fr z⁻¹ s ↔ isBack z s = true := by
  rw [← isFront_iff, ← isBack_inv, inv_inv]
theorem beg_cut {z u v : W S} (h1 : beg z u) (h2 : beg u v) : beg (z⁻¹ * u) (z⁻¹ * v) := by
  have h3 := beg_trans h1 h2
  unfold beg at *
  have e : (z⁻¹ * u)⁻¹ * (z⁻¹ * v) = u⁻¹ * v := by
    rw [mul_inv_rev, inv_inv, mul_assoc, mul_inv_left]
  rw [e]
  omega
theorem fronts_beg {u v : W S} (h : beg u v) : (fronts u).filter (fun s => decide (s ∈ fronts v)) = fronts u := by
  refine List.filter_eq_self.mpr fun s hs => decide_eq_true ?_
  exact fronts_mem.mpr (fr_of_beg h (fronts_mem.mp hs))
theorem fronts_beg' {u v : W S} (h : beg u v) : (fronts v).filter (fun s => decide (s ∈ fronts u)) = fronts u := by
  unfold fronts backs
  rw [List.filter_filter]
  refine List.filter_congr fun s _ => ?_
  cases q : isBack u⁻¹ s with
  | false =>
    rw [Bool.and_eq_false_iff]
    left
    refine decide_eq_false fun z => ?_
    rw [List.mem_filter, q] at z
    exact absurd z.2 (by decide)
  | true =>
    have hf : fr u s := by rw [← isFront_iff, ← isBack_inv]; exact q
    have hv : isBack v⁻¹ s = true := by rw [isBack_inv, isFront_iff]; exact fr_of_beg h hf
    rw [hv, Bool.and_true]
    exact decide_eq_true (List.mem_filter.mpr ⟨List.mem_finRange s, q⟩)
theorem fronts_sorted (u : W S) : (fronts u).Pairwise (· < ·) := by
  unfold fronts backs
  exact List.Pairwise.filter _ (List.pairwise_lt_finRange n)
theorem fronts_nil {u : W S} (h : fronts u = []) : u = 1 := by
  have := backs_nil h
  rw [len_inv] at this
  exact len_zero this
end
end W
/-! ### small rooms -/
def FinM {k : Nat} (M : Fin k → Fin k → Nat) : Prop := ∀ p ∈ piecesF M, (p.length = 1 ∨ p.length = 2) ∧ ∀ a b : Fin p.length, M p[a] p[b] = tA p.length a b
instance {k : Nat} (M : Fin k → Fin k → Nat) : Decidable (FinM M) := inferInstanceAs (Decidable (∀ p ∈ piecesF M, _))
def M2 (k t : Nat) : Fin k → Fin k → Nat := fun a b => if a = b then 1 else t
theorem finM0 (M : Fin 0 → Fin 0 → Nat) : FinM M := fun p hp => by
  have : piecesF M = [] := rfl
  rw [this] at hp; cases hp
theorem finM1 : FinM (M2 1 2) := by decide +kernel
theorem finM22 : FinM (M2 2 2) := by decide +kernel
theorem finM23 : FinM (M2 2 3) := by decide +kernel
theorem finM3 : FinM (M2 3 2) := by decide +kernel
theorem fronts_fin' (X : Tb) (a : W X.sys) (hl : W.len a ≤ 3) : ∀ (R : List (Fin X.n)) (hs : R.Pairwise (· < ·)) (hm : ∀ s ∈ R, W.fr a s) (lR : R.length ≤ 3)
    (tie : ∀ s t, s ∈ R → t ∈ R → s ≠ t → (X.m s t = 2 ∨ X.m s t = 3) ∧ W.beg (W.mk (alt s t (X.m s t)) : W X.sys) a)
    (key : ∀ M : Fin R.length → Fin R.length → Nat, inn X R = M → FinM M → FinR X R), FinR X R
  | [], _, _, _, _, key => key _ rfl (finM0 _)
  | [s], _, _, _, _, key => by
    refine key (M2 1 2) ?_ finM1
    funext a b
    match a, b with
    | 0, 0 => exact X.diag s
  | [s, t], hs, hm, _, tie, key => by
    have ne : s ≠ t := by
      have := (List.pairwise_cons.mp hs).1 t List.mem_cons_self
      exact Fin.ne_of_lt this
    obtain ⟨h, _⟩ := tie s t List.mem_cons_self (List.mem_cons_of_mem _ List.mem_cons_self) ne
    have e : inn X [s, t] = M2 2 (X.m s t) := by
      funext a b
      match a, b with
      | 0, 0 => exact X.diag s
      | 0, 1 => rfl
      | 1, 0 => exact X.sym t s
      | 1, 1 => exact X.diag t
    rcases h with h | h
    · rw [h] at e; exact key _ e finM22
    · rw [h] at e; exact key _ e finM23
  | [s, t, u], hs, hm, _, tie, key => by
    have m1 := (List.pairwise_cons.mp hs).1
    have m2 := (List.pairwise_cons.mp (List.pairwise_cons.mp hs).2).1
    have nst : s ≠ t := Fin.ne_of_lt (m1 t (by simp))
    have nsu : s ≠ u := Fin.ne_of_lt (m1 u (by simp))
    have ntu : t ≠ u := Fin.ne_of_lt (m2 u (by simp))
    have two : ∀ x y z, x ∈ [s, t, u] → y ∈ [s, t, u] → z ∈ [s, t, u] → x ≠ y → z ≠ x → z ≠ y → X.m x y = 2 := fun x y z hx hy hz h1 h2 h3 => by
      obtain ⟨h, hb⟩ := tie x y hx hy h1
      rcases h with h | h
      · exact h
      · exfalso
        rw [h] at hb
        have l3 : W.len (W.mk (alt x y 3) : W X.sys) = 3 := W.alt_red (S := X.sys) h1 (.inl (by show 3 ≤ X.m x y; omega))
        have e := W.beg_eq hb (by omega)
        have hin : W.In [x, y] a := ⟨alt x y 3, e, fun b hb => by simp only [alt, List.mem_cons, List.not_mem_nil, or_false] at hb ⊢; rcases hb with q | q | q <;> simp [q]⟩
        exact hin.not_fr (u := z) (by simp [h2, h3]) (hm z hz)
    have e1 := two s t u (by simp) (by simp) (by simp) nst (Ne.symm nsu) (Ne.symm ntu)
    have e2 := two s u t (by simp) (by simp) (by simp) nsu (Ne.symm nst) ntu
    have e3 := two t u s (by simp) (by simp) (by simp) ntu nst nsu
    refine key (M2 3 2) ?_ finM3
    funext a b
    match a, b with
    | 0, 0 => exact X.diag s
    | 0, 1 => exact e1
    | 0, 2 => exact e2
    | 1, 0 => exact (X.sym t s).trans e1
    | 1, 1 => exact X.diag t
    | 1, 2 => exact e3
    | 2, 0 => exact (X.sym u s).trans e2
    | 2, 1 => exact (X.sym u t).trans e3
    | 2, 2 => exact X.diag u
  | _ :: _ :: _ :: _ :: _, _, _, h, _, _ => absurd h (by simp)
theorem fronts_fin (X : Tb) (a : W X.sys) (hl : W.len a ≤ 3) : FinR X (W.fronts a) := by
  have hm : ∀ s ∈ W.fronts a, W.fr a s := fun s h => W.fronts_mem.mp h
  have lR : (W.fronts a).length ≤ 3 := by
    unfold W.fronts W.backs
    have := List.length_filter_le (W.isBack a⁻¹) (List.finRange X.n)
    rw [List.length_finRange] at this
    have := X.h3
    omega
  refine fronts_fin' X a hl _ (W.fronts_sorted a) hm lR (fun s t h1 h2 ne => ?_) fun M e h => ⟨lR, fun p hp => ?_⟩
  · obtain ⟨h0, hb⟩ := W.two_fronts (S := X.sys) ne (hm s h1) (hm t h2)
    have le := W.beg_le hb
    rw [W.alt_red (S := X.sys) ne (.inl (Nat.le_refl _))] at le
    have ok := X.ok s t ne
    have h0' : X.m s t ≠ 0 := h0
    have le' : X.m s t ≤ W.len a := le
    exact ⟨by omega, hb⟩
  · rw [e] at hp ⊢
    exact h p hp
abbrev XabB := (X : Tb) × (W X.sys × W X.sys × Bool)
abbrev abArgs (K : PySem.W.Frag) (i : XabB) : List Kn := [bif i.2.2.2 then kChg K i.1 i.2.1 else kChg K i.1 i.2.2.1, bif i.2.2.2 then kChg K i.1 i.2.2.1 else kChg K i.1 i.2.1]
noncomputable abbrev pm_front_of_both (K : PySem.W.Frag) : Pm := ⟨XabB, fun i => W.beg i.2.1 i.2.2.1 ∧ W.len i.2.1 ≤ 3 ∧ W.len i.2.2.1 ≤ 30, abArgs K, fun i => kChg K i.1 i.2.1⟩
noncomputable abbrev pm_common_front (K : PySem.W.Frag) : Pm := ⟨XabB, fun i => W.beg i.2.1 i.2.2.1 ∧ W.len i.2.1 ≤ 3 ∧ W.len i.2.2.1 ≤ 30, abArgs K, fun i => kChg K i.1 i.2.1⟩
end Wk
namespace Wk
open PySem L2
section
variable {P : Program} {w : World} {K : PySem.W.Frag} {mg : Str → Option Value} {base : Heap}
theorem W.fronts_short {n : Nat} {S : Sys n} (u : W S) : (W.fronts u).length ≤ n := by
  unfold W.fronts W.backs
  have := List.length_filter_le (W.isBack u⁻¹) (List.finRange n)
  rwa [List.length_finRange] at this
theorem both_lt {n : Nat} {S : Sys n} {u v : W S} (h : W.beg u v) : ((List.finRange (W.fronts u).length).filter fun i => decide ((W.fronts u)[i] ∈ W.fronts v)).map (fun i => encF (W.fronts u)[i]) = (W.fronts u).map encF := by
  rw [fins_filter (W.fronts u) fun s => decide (s ∈ W.fronts v), W.fronts_beg h]
theorem both_gt {n : Nat} {S : Sys n} {u v : W S} (h : W.beg u v) : ((List.finRange (W.fronts v).length).filter fun i => decide ((W.fronts v)[i] ∈ W.fronts u)).map (fun i => encF (W.fronts v)[i]) = (W.fronts u).map encF := by
  rw [fins_filter (W.fronts v) fun s => decide (s ∈ W.fronts u), W.fronts_beg' h]
/-- the slots: the one that begins, the other one -/
noncomputable def abΓ (K : PySem.W.Frag) (X : Tb) (g h f a b : W X.sys) (fl : Bool) (x : Wk.Slot) : List Wk.Slot := bif fl then [.kn (kChg K X g), .kn (kChg K X h), .kn (kChg K X f), .kn (kChg K X a), .kn (kChg K X b), .own (oL K ((W.fronts a).map encF)), x, .un] else [.kn (kChg K X h), .kn (kChg K X g), .kn (kChg K X f), .kn (kChg K X b), .kn (kChg K X a), .own (oL K ((W.fronts a).map encF)), x, .un]
abbrev s_front_of_both : Stmt := top 103
abbrev Ns_front_of_both : List Str := ["change", "other", "found", "one", "two", "both", "part", "button"]
theorem sc_front_of_both : FnScope Ns_front_of_both ["change", "other"] (defScope s_front_of_both) := ⟨rfl, rfl, rfl, by decide +kernel, rfl, by decide +kernel, by decide +kernel⟩
def t_front_of_both (K : PySem.W.Frag) : TS := (tSeq (tAsg (tTup (tCons (tCall (pm_plain K).sp [] E0 (tCons (tFld K (tVar 0) "table") tNil)) (tCons (tVar 0) (tCons (tVar 1) tNil)))) (gTup K 3 (gCons (gName 2) (gCons (gName 3) (gCons (gName 4) gNil)))))
    (tSeq (tAsg (tLc (iTup K (tProp (He.ga K "Change") (pm_Change_fronts K).sp [] E0 (tVar 3))) (gName 7) (tTest (tOp (rIn K false) (tVar 7) (tProp (He.ga K "Change") (pm_Change_fronts K).sp [] E0 (tVar 4)))) (tVar 7) [7]) (gName 5))
    (tSeq (tWhile (tTest (tOp (rNeD K) (tVar 5) (tLst tNil))) (tSeq (tAsg (tCall (pm_room_top K).sp [] E0 (tCons (tFld K (tVar 0) "table") (tCons (tCB (rTupOf K) (tCons (tVar 5) tNil)) tNil))) (gName 6))
    (tSeq (tAsg (tTup (tCons (tCall (pm_product_of K).sp [] E0 (tCons (tVar 2) (tCons (tVar 6) tNil))) (tCons (tCall (pm_product_of K).sp [] E0 (tCons (tVar 6) (tCons (tVar 3) tNil))) (tCons (tCall (pm_product_of K).sp [] E0 (tCons (tVar 6) (tCons (tVar 4) tNil))) tNil)))) (gTup K 3 (gCons (gName 2) (gCons (gName 3) (gCons (gName 4) gNil)))))
    (tAsg (tLc (iTup K (tProp (He.ga K "Change") (pm_Change_fronts K).sp [] E0 (tVar 3))) (gName 7) (tTest (tOp (rIn K false) (tVar 7) (tProp (He.ga K "Change") (pm_Change_fronts K).sp [] E0 (tVar 4)))) (tVar 7) [7]) (gName 5)))))
    (tRet (tVar 2)))))
theorem sx_front_of_both (T : Tx K mg) : (pm_front_of_both K).body Ns_front_of_both (t_front_of_both K) := by
  rintro ⟨X, g, h, fl⟩ ⟨hb, hg, hh⟩
  dsimp only [pm_front_of_both]
  show SX _ [_, _, _, _, _, _, _, _] _
  have hb : W.beg g h := hb
  have hg : W.len g ≤ 3 := hg
  have hh : W.len h ≤ 30 := hh
  have main : ∀ (Γ : List Wk.Slot) (x : Wk.Slot), x.holds = false → Γ = abΓ K X g h 1 g h fl x → SX ((tSeq (tWhile (tTest (tOp (rNeD K) (tVar 5) (tLst tNil))) (tSeq (tAsg (tCall (pm_room_top K).sp [] E0 (tCons (tFld K (tVar 0) "table") (tCons (tCB (rTupOf K) (tCons (tVar 5) tNil)) tNil))) (gName 6))
    (tSeq (tAsg (tTup (tCons (tCall (pm_product_of K).sp [] E0 (tCons (tVar 2) (tCons (tVar 6) tNil))) (tCons (tCall (pm_product_of K).sp [] E0 (tCons (tVar 6) (tCons (tVar 3) tNil))) (tCons (tCall (pm_product_of K).sp [] E0 (tCons (tVar 6) (tCons (tVar 4) tNil))) tNil)))) (gTup K 3 (gCons (gName 2) (gCons (gName 3) (gCons (gName 4) gNil)))))
    (tAsg (tLc (iTup K (tProp (He.ga K "Change") (pm_Change_fronts K).sp [] E0 (tVar 3))) (gName 7) (tTest (tOp (rIn K false) (tVar 7) (tProp (He.ga K "Change") (pm_Change_fronts K).sp [] E0 (tVar 4)))) (tVar 7) [7]) (gName 5))))) (tRet (tVar 2)))) Γ { rt := fun _ => kChg K X g, nx := fun _ => ∀ N, (kChg K X g).p N .non } := by
    rintro Γ x hx rfl
    refine q_while (fun m Γ => ∃ (f a b : W X.sys) (x : Wk.Slot), f * a = g ∧ W.len a = m ∧ W.beg a b ∧ W.len f + W.len a ≤ 3 ∧ x.holds = false ∧ W.len b ≤ 30 ∧ Γ = abΓ K X g h f a b fl x) (W.len g) ⟨1, g, h, x, W.one_mul g, rfl, hb, by rw [W.len_one]; omega, hx, hh, rfl⟩ ?_
    rintro m Γ ⟨f, a, b, x, e1, lm, ab, l3, hx, lb, rfl⟩
    have la := W.beg_le ab
    have shw : SeqAt.shaped (.list ((W.fronts a).map encF)) = true := by
      refine shaped_of (k := 1) ?_ (by decide)
      have := encW_iD (W.fronts a)
      simpa only [iD, encW] using this
    have hΓ : (abΓ K X g h f a b fl x)[5]? = some (.own (oL K ((W.fronts a).map encF))) := by cases fl <;> rfl
    refine ⟨_, ex_neOwn hΓ shw, fun e => ?_, fun e => ?_⟩
    · obtain ⟨z, hz, za, _⟩ := W.run_ex (R := W.fronts a) (g := a) (fun r hr => W.fronts_mem.mp hr) (W.len a) 1 (by omega) (W.In.one _) (W.beg_one _)
      have zi := hz.inv
      have lz := W.beg_le za
      have zz : z * (z * a) = a := by
        have := W.mul_inv_left z a
        rwa [zi] at this
      have cut := W.beg_cut za ab
      rw [zi] at cut
      have la2 : W.len a = W.len z + W.len (z * a) := by
        have := za
        unfold W.beg at this
        rwa [zi] at this
      have lb2 : W.len b = W.len z + W.len (z * b) := by
        have := W.beg_trans za ab
        unfold W.beg at this
        rwa [zi] at this
      have lf := W.len_mul f z
      have z1 : 1 ≤ W.len z := by
        cases q : W.fronts a with
        | nil => rw [q] at e; cases e
        | cons s r =>
          have := W.isBack_iff.mp (hz.backs s (by rw [q]; exact List.mem_cons_self))
          omega
      cases fl
      · refine q_set (ex_pm (pm_room_top K) ⟨X, W.fronts a, z⟩ (ea_cons (ex_table T (ex_var rfl)) (ea_cons (ex_is (ex_tupO (ds := (W.fronts a).map encF) rfl) rfl) ea_nil)) ⟨hz, (by omega : W.len z ≤ 36), W.fronts_sorted a, fronts_fin X a (by omega)⟩) ?_
        show SX _ [_, _, _, _, _, _, _, _] _
        refine q_asg (ex_tupG (Rs := [kChg K X (f * z), kChg K X (z * b), kChg K X (z * a)]) (ea_cons (ex_pm (pm_product_of K) ⟨X, f, z⟩ (ea_cons (ex_var rfl) (ea_cons (ex_var rfl) ea_nil)) ⟨(by omega : W.len f ≤ 36), (by omega : W.len z ≤ 36)⟩) (ea_cons (ex_pm (pm_product_of K) ⟨X, z, b⟩ (ea_cons (ex_var rfl) (ea_cons (ex_var rfl) ea_nil)) ⟨(by omega : W.len z ≤ 36), (by omega : W.len b ≤ 36)⟩) (ea_cons (ex_pm (pm_product_of K) ⟨X, z, a⟩ (ea_cons (ex_var rfl) (ea_cons (ex_var rfl) ea_nil)) ⟨(by omega : W.len z ≤ 36), (by omega : W.len a ≤ 36)⟩) ea_nil)))) (gx_tupG (gxa_cons gx_name (gxa_cons gx_name (gxa_cons gx_name gxa_nil)))) ?_
        show SX _ [_, _, _, _, _, _, _, _] _
        refine s_setL (K := K) (ds := (W.fronts (z * a)).map encF) ?_ ?_
        · rw [← both_gt cut]
          exact (exl_lcT (n := (W.fronts (z * b)).length) (p := fun i => decide ((W.fronts (z * b))[i] ∈ W.fronts (z * a))) (f := fun i => encF (W.fronts (z * b))[i]) (iw_wordF (ex_prop (pm_Change_fronts K) ⟨X, (z * b)⟩ (ex_var rfl) rfl (show W.len (z * b) ≤ 36 by omega))) (fun i => gx_name) (fun i => (et_test (ex_inW (ex_var rfl) (ex_prop (pm_Change_fronts K) ⟨X, (z * a)⟩ (ex_var rfl) rfl (show W.len (z * a) ≤ 36 by omega))))) (fun i hp => (ex_var rfl)) (by have := W.fronts_short (S := X.sys) (z * b); have := X.h3; omega))
        · exact ⟨W.len (z * a), by omega, f * z, z * a, z * b, .kn (kChg K X z), by rw [W.mul_assoc, zz, e1], by omega, cut, by omega, rfl, by omega, rfl⟩
      · refine q_set (ex_pm (pm_room_top K) ⟨X, W.fronts a, z⟩ (ea_cons (ex_table T (ex_var rfl)) (ea_cons (ex_is (ex_tupO (ds := (W.fronts a).map encF) rfl) rfl) ea_nil)) ⟨hz, (by omega : W.len z ≤ 36), W.fronts_sorted a, fronts_fin X a (by omega)⟩) ?_
        show SX _ [_, _, _, _, _, _, _, _] _
        refine q_asg (ex_tupG (Rs := [kChg K X (f * z), kChg K X (z * a), kChg K X (z * b)]) (ea_cons (ex_pm (pm_product_of K) ⟨X, f, z⟩ (ea_cons (ex_var rfl) (ea_cons (ex_var rfl) ea_nil)) ⟨(by omega : W.len f ≤ 36), (by omega : W.len z ≤ 36)⟩) (ea_cons (ex_pm (pm_product_of K) ⟨X, z, a⟩ (ea_cons (ex_var rfl) (ea_cons (ex_var rfl) ea_nil)) ⟨(by omega : W.len z ≤ 36), (by omega : W.len a ≤ 36)⟩) (ea_cons (ex_pm (pm_product_of K) ⟨X, z, b⟩ (ea_cons (ex_var rfl) (ea_cons (ex_var rfl) ea_nil)) ⟨(by omega : W.len z ≤ 36), (by omega : W.len b ≤ 36)⟩) ea_nil)))) (gx_tupG (gxa_cons gx_name (gxa_cons gx_name (gxa_cons gx_name gxa_nil)))) ?_
        show SX _ [_, _, _, _, _, _, _, _] _
        refine s_setL (K := K) (ds := (W.fronts (z * a)).map encF) ?_ ?_
        · rw [← both_lt cut]
          exact (exl_lcT (n := (W.fronts (z * a)).length) (p := fun i => decide ((W.fronts (z * a))[i] ∈ W.fronts (z * b))) (f := fun i => encF (W.fronts (z * a))[i]) (iw_wordF (ex_prop (pm_Change_fronts K) ⟨X, (z * a)⟩ (ex_var rfl) rfl (show W.len (z * a) ≤ 36 by omega))) (fun i => gx_name) (fun i => (et_test (ex_inW (ex_var rfl) (ex_prop (pm_Change_fronts K) ⟨X, (z * b)⟩ (ex_var rfl) rfl (show W.len (z * b) ≤ 36 by omega))))) (fun i hp => (ex_var rfl)) (by have := W.fronts_short (S := X.sys) (z * a); have := X.h3; omega))
        · exact ⟨W.len (z * a), by omega, f * z, z * a, z * b, .kn (kChg K X z), by rw [W.mul_assoc, zz, e1], by omega, cut, by omega, rfl, by omega, rfl⟩
    · have fn : W.fronts a = [] := by
        cases q : W.fronts a with
        | nil => rfl
        | cons s r => rw [q] at e; cases e
      have a1 := W.fronts_nil fn
      rw [a1, W.mul_one] at e1
      cases fl
      · exact sx_ret (ex_is (ex_var rfl) (by rw [e1]))
      · exact sx_ret (ex_is (ex_var rfl) (by rw [e1]))
  cases fl
  · refine q_asg (ex_tupG (Rs := [kChg K X 1, kChg K X h, kChg K X g]) (ea_cons (ex_pm (pm_plain K) X (ea_cons (ex_table T (ex_var rfl)) ea_nil) trivial) (ea_cons (ex_var rfl) (ea_cons (ex_var rfl) ea_nil)))) (gx_tupG (gxa_cons gx_name (gxa_cons gx_name (gxa_cons gx_name gxa_nil)))) ?_
    show SX _ [_, _, _, _, _, _, _, _] _
    refine q_setL (K := K) (ds := (W.fronts g).map encF) ?_ (main _ .un rfl rfl)
    rw [← both_gt hb]
    exact (exl_lcT (n := (W.fronts h).length) (p := fun i => decide ((W.fronts h)[i] ∈ W.fronts g)) (f := fun i => encF (W.fronts h)[i]) (iw_wordF (ex_prop (pm_Change_fronts K) ⟨X, h⟩ (ex_var rfl) rfl (show W.len h ≤ 36 by omega))) (fun i => gx_name) (fun i => (et_test (ex_inW (ex_var rfl) (ex_prop (pm_Change_fronts K) ⟨X, g⟩ (ex_var rfl) rfl (show W.len g ≤ 36 by omega))))) (fun i hp => (ex_var rfl)) (by have := W.fronts_short (S := X.sys) h; have := X.h3; omega))
  · refine q_asg (ex_tupG (Rs := [kChg K X 1, kChg K X g, kChg K X h]) (ea_cons (ex_pm (pm_plain K) X (ea_cons (ex_table T (ex_var rfl)) ea_nil) trivial) (ea_cons (ex_var rfl) (ea_cons (ex_var rfl) ea_nil)))) (gx_tupG (gxa_cons gx_name (gxa_cons gx_name (gxa_cons gx_name gxa_nil)))) ?_
    show SX _ [_, _, _, _, _, _, _, _] _
    refine q_setL (K := K) (ds := (W.fronts g).map encF) ?_ (main _ .un rfl rfl)
    rw [← both_lt hb]
    exact (exl_lcT (n := (W.fronts g).length) (p := fun i => decide ((W.fronts g)[i] ∈ W.fronts h)) (f := fun i => encF (W.fronts g)[i]) (iw_wordF (ex_prop (pm_Change_fronts K) ⟨X, g⟩ (ex_var rfl) rfl (show W.len g ≤ 36 by omega))) (fun i => gx_name) (fun i => (et_test (ex_inW (ex_var rfl) (ex_prop (pm_Change_fronts K) ⟨X, h⟩ (ex_var rfl) rfl (show W.len h ≤ 36 by omega))))) (fun i hp => (ex_var rfl)) (by have := W.fronts_short (S := X.sys) g; have := X.h3; omega))
theorem ok_front_of_both (T : Tx K mg) (c_plain : C8.Cal P w K mg base 7 "plain" (pm_plain K).sp []) (c_Change_fronts : Prp P w K mg base 4 (He.ga K "Change") "fronts" (pm_Change_fronts K).sp) (c_room_top : C8.Cal P w K mg base 9 "room_top" (pm_room_top K).sp []) (c_product_of : C8.Cal P w K mg base 8 "product_of" (pm_product_of K).sp []) {f : Addr} {fd : FuncData} (F : FnP K "front_of_both" "front_of_both" s_front_of_both f fd) : FnOk P w K mg base CX0 10 f fd ["change", "other"] (pm_front_of_both K).sp := by
  have sc := sc_front_of_both
  refine F.ok sc (fun vs H Q E h => Pm.len (fun _ => rfl) vs H Q E h) (fun cdv A outer s H vs Q E hr h => ⟨t_front_of_both K, PSs.nox ?_, Pm.go (sx_front_of_both T) vs H Q E h⟩)
  exact (pss_cons (ps_asg (pe_tup (pa_cons (C8.pe_c c_plain hr (by decide) rfl (pa_cons (pe_fld (pv 0) rfl) pa_nil)) (pa_cons (pv 0) (pa_cons (pv 1) pa_nil)))) (pg_tup rfl (pgs_cons (pg_name (i := 2) sc.nd rfl (by first | exact Or.inl rfl | exact Or.inr rfl)) (pgs_cons (pg_name (i := 3) sc.nd rfl (by first | exact Or.inl rfl | exact Or.inr rfl)) (pgs_cons (pg_name (i := 4) sc.nd rfl (by first | exact Or.inl rfl | exact Or.inr rfl)) pgs_nil)))))
      (pss_cons (ps_setLc (i := 5) (own := [("button", 7)]) (g := (gName 7)) (tt := (tTest (tOp (rIn K false) (tVar 7) (tProp (He.ga K "Change") (pm_Change_fronts K).sp [] E0 (tVar 4))))) (te := (tVar 7)) rfl sc.nd rfl rfl (sw_true rfl rfl rfl (by decide +kernel)) (pi_tup (pe_pr c_Change_fronts hr (by decide) (pv 3))) (blkOk_by (own := [("button", 7)]) (N := Ns_front_of_both) (sc := defScope s_front_of_both) (by decide +kernel)) (fun _ _ _ _ _ => (pg_name (i := 7) sc.nd rfl (by first | exact Or.inl rfl | exact Or.inr rfl))) (fun _ _ _ _ _ => (pts_one (pt_cmpR op_in_seq (pv 7) (pe_pr c_Change_fronts hr (by decide) (pv 4)) (by with_unfolding_all rfl)))) (fun _ _ _ _ _ => (pv 7)))
      (pss_cons (ps_while PassesOwn.never (pt_cmpR (op_neD hr.units) (pv 5) (pe_lst pa_nil) (nomark _)) (pss_cons (ps_set (i := 6) sc.nd rfl (by first | exact Or.inl rfl | exact Or.inr rfl) (C8.pe_c c_room_top hr (by decide) rfl (pa_cons (pe_fld (pv 0) rfl) (pa_cons (pe_callTy call_tuple_of rfl T.tuple_ (by decide +kernel) (pa_cons (pv 5) pa_nil)) pa_nil))))
      (pss_cons (ps_asg (pe_tup (pa_cons (C8.pe_c c_product_of hr (by decide) rfl (pa_cons (pv 2) (pa_cons (pv 6) pa_nil))) (pa_cons (C8.pe_c c_product_of hr (by decide) rfl (pa_cons (pv 6) (pa_cons (pv 3) pa_nil))) (pa_cons (C8.pe_c c_product_of hr (by decide) rfl (pa_cons (pv 6) (pa_cons (pv 4) pa_nil))) pa_nil)))) (pg_tup rfl (pgs_cons (pg_name (i := 2) sc.nd rfl (by first | exact Or.inl rfl | exact Or.inr rfl)) (pgs_cons (pg_name (i := 3) sc.nd rfl (by first | exact Or.inl rfl | exact Or.inr rfl)) (pgs_cons (pg_name (i := 4) sc.nd rfl (by first | exact Or.inl rfl | exact Or.inr rfl)) pgs_nil)))))
      (pss_one (ps_setLc (i := 5) (own := [("button", 7)]) (g := (gName 7)) (tt := (tTest (tOp (rIn K false) (tVar 7) (tProp (He.ga K "Change") (pm_Change_fronts K).sp [] E0 (tVar 4))))) (te := (tVar 7)) rfl sc.nd rfl rfl (sw_true rfl rfl rfl (by decide +kernel)) (pi_tup (pe_pr c_Change_fronts hr (by decide) (pv 3))) (blkOk_by (own := [("button", 7)]) (N := Ns_front_of_both) (sc := defScope s_front_of_both) (by decide +kernel)) (fun _ _ _ _ _ => (pg_name (i := 7) sc.nd rfl (by first | exact Or.inl rfl | exact Or.inr rfl))) (fun _ _ _ _ _ => (pts_one (pt_cmpR op_in_seq (pv 7) (pe_pr c_Change_fronts hr (by decide) (pv 4)) (by with_unfolding_all rfl)))) (fun _ _ _ _ _ => (pv 7)))))))
      (pss_one (ps_ret (pv 2))))))
abbrev s_common_front : Stmt := top 104
abbrev Ns_common_front : List Str := ["change", "other"]
theorem sc_common_front : FnScope Ns_common_front ["change", "other"] (defScope s_common_front) := ⟨rfl, rfl, rfl, by decide +kernel, rfl, by decide +kernel, by decide +kernel⟩
def t_common_front (K : PySem.W.Frag) : TS := (tSeq (tDrop (tCall (pm_check_both K).sp [] E0 (tCons (tVar 0) (tCons (tVar 1) tNil))))
    (tRet (tCall (pm_front_of_both K).sp [] E0 (tCons (tVar 0) (tCons (tVar 1) tNil)))))
theorem sx_common_front (T : Tx K mg) : (pm_common_front K).body Ns_common_front (t_common_front K) := by
  rintro ⟨X, g, h, fl⟩ hh
  dsimp only [pm_common_front]
  show SX _ [_, _] _
  cases fl
  · refine q_drop (ex_pm (pm_check_both K) ⟨X, h, g⟩ (ea_cons (ex_var rfl) (ea_cons (ex_var rfl) ea_nil)) trivial) ?_
    exact sx_ret (ex_pm (pm_front_of_both K) ⟨X, g, h, false⟩ (ea_cons (ex_var rfl) (ea_cons (ex_var rfl) ea_nil)) hh)
  · refine q_drop (ex_pm (pm_check_both K) ⟨X, g, h⟩ (ea_cons (ex_var rfl) (ea_cons (ex_var rfl) ea_nil)) trivial) ?_
    exact sx_ret (ex_pm (pm_front_of_both K) ⟨X, g, h, true⟩ (ea_cons (ex_var rfl) (ea_cons (ex_var rfl) ea_nil)) hh)
theorem ok_common_front (T : Tx K mg) (c_check_both : C8.Cal P w K mg base 4 "check_both" (pm_check_both K).sp []) (c_front_of_both : C8.Cal P w K mg base 10 "front_of_both" (pm_front_of_both K).sp []) {f : Addr} {fd : FuncData} (F : FnP K "common_front" "common_front" s_common_front f fd) : FnOk P w K mg base CX0 11 f fd ["change", "other"] (pm_common_front K).sp := by
  have sc := sc_common_front
  refine F.ok sc (fun vs H Q E h => Pm.len (fun _ => rfl) vs H Q E h) (fun cdv A outer s H vs Q E hr h => ⟨t_common_front K, PSs.nox ?_, Pm.go (sx_common_front T) vs H Q E h⟩)
  exact (pss_cons (ps_expr (C8.pe_c c_check_both hr (by decide) rfl (pa_cons (pv 0) (pa_cons (pv 1) pa_nil))))
      (pss_one (ps_ret (C8.pe_c c_front_of_both hr (by decide) rfl (pa_cons (pv 0) (pa_cons (pv 1) pa_nil))))))
end
end Wk
/-! ### tuple(reversed(a tuple)) -/
namespace WkR
open PySem PySem.Spec PyProof.Rows RT L2
theorem nolen_rt : typeLookup (.type "reversed") "__len__" = pure none := by rw [typeLookup_type, builtinLookup_eq_fast]; kernel_rfl
theorem slot_rt_hint : PySem.Slot "reversed" "__length_hint__" "reversed.__length_hint__" :=
  .of (owner := "reversed") (n := "__length_hint__") (by rw [typeLookup_type, builtinLookup_eq_fast]; kernel_rfl) (by decide +kernel) (by decide +kernel) (by decide +kernel)
    (by first | exact .inl (by decide +kernel) | exact .inr (by decide +kernel)) (by rw [isSubtype_type]; kernel_rfl)
theorem entry_rt_hint : entryFor table "reversed.__length_hint__" = some Builtin.«reversed.__length_hint__» := entryFor_of_tree (by kernel_rfl)
theorem args_rt_hint (a : Value) : argsOk "reversed.__length_hint__" ⟨[a], []⟩ := by
  unfold argsOk; rw [signature?_of (id := "reversed.__length_hint__") (n := ['_', '_', 't', 'n', 'i', 'h', '_', 'h', 't', 'g', 'n', 'e', 'l', '_', '_']) (o := ['d', 'e', 's', 'r', 'e', 'v', 'e', 'r']) (by kernel_rfl) owner_rt]; kernel_rfl
section
variable {prog : Program} {w : World} {A : Around} {E : Value → Shared → Prop} {s : Shared}
theorem hint_rt {it t : Addr} {items : Array Value} {Q : Bool → Shared → Prop} (hit : IsRt s.heap it t ((items.size : Int) - 1)) (ht : IsTup s.heap t items) (hn : items.size ≤ sizeLine)
    (hQ : ∀ (b : Bool) (tk : Nat), s.toks ≤ tk → Q b { s with toks := tk }) : wpAny (model prog w) A (Builtin.List.listLengthHint (.ref it)) Q E s := by
  obtain ⟨o, ho, hc, hd⟩ := id hit
  have hT := hit.typeIs
  unfold Builtin.List.listLengthHint
  refine wpAny_bind (wpAny_specialOf hT nolen_rt ?_)
  refine wpAny_bind (wpAny_specialOf hT slot_rt_hint.lookup ?_)
  generalize hid : ("reversed.__length_hint__" : String) = id0
  wp_delta
  rw [show splitId id0 = some ("reversed", "__length_hint__") from by subst hid; decide +kernel]
  subst hid
  refine wpAny_bind (wpAny_isInstance (b := true) hT (by rw [isSubtype_type]; kernel_rfl) ?_)
  rw [if_neg (by decide)]
  show wpAny (model prog w) A (if _ = true then _ else _) Q E s
  rw [if_neg (by decide +kernel)]
  refine wpAny_bind (wpAny_rule ?_)
  refine wpAny_bind (wpAny_of_eq (slot_rt_hint.bind _) ?_)
  dsimp only
  refine wpAny_bind (wpAny_attempt (wpAny_call_entry slot_rt_hint hT entry_rt_hint ?_ (args_rt_hint _)))
  unfold Builtin.«reversed.__length_hint__»
  refine wpAny_bind (wpAny_of_eq (a := Value.ref it) rfl ?_)
  refine wpAny_bind (wpAny_field ho hd (x := .ref t) rfl ?_)
  rw [if_neg (by simp)]
  have hn2 := hn
  rw [sizeLine_eq] at hn2
  refine wpAny_bind (PyProof.Rows.len_tuple ht (by omega) ?_)
  refine wpAny_bind (wpAny_of_eq (a := some ((items.size : Nat) : Int)) rfl ?_)
  dsimp only
  refine wpAny_bind (wpAny_field (s := { s with toks := s.toks + 1 + 1 }) ho hd (x := rawInt ((items.size : Int) - 1)) rfl ?_)
  show wpAny _ _ (if ((items.size : Nat) : Int) < (items.size : Int) - 1 + 1 then _ else _) _ _ _
  rw [if_neg (by omega)]
  unfold retInt
  refine wpAny_bind (wpAny_mkInt ?_)
  refine wpAny_pure ⟨_, rfl, ?_⟩
  show wpAny _ _ (asInt? (.int ((items.size : Int) - 1 + 1) _) >>= _) _ _ _
  refine wpAny_bind (wpAny_of_eq (a := some ((items.size : Int) - 1 + 1)) rfl ?_)
  dsimp only
  rw [if_neg (by unfold Builtin.List.listFitsIndex; rw [decide_eq_true (show -(2 ^ 63 : Int) ≤ (items.size : Int) - 1 + 1 by omega), decide_eq_true (show (items.size : Int) - 1 + 1 < 2 ^ 63 by omega)]; decide), if_neg (by omega), if_neg (by rw [show Builtin.List.listTooLong ((items.size : Int) - 1 + 1).toNat = false from decide_eq_false (by rw [sizeLine_eq]; omega)]; decide)]
  exact wpAny_pure (hQ _ _ (by show s.toks ≤ s.toks + 1 + 1 + 1; omega))
theorem walks_rt (hh : A.handled = none) (I t : Addr) (hne : t ≠ I) (items : Array Value) (hn : items.size ≤ sizeLine) :
    Walks prog w A I [I, t] [I] items.size (fun i v => items[items.size - 1 - i]? = some v) (fun i h => i ≤ items.size ∧ IsRt h I t ((items.size : Int) - 1 - (i : Int)) ∧ h.IsTuple t items) where
  sub := fun b hb => by simp at hb; simp [hb]
  frame := fun _ _ _ x hk => ⟨x.1, x.2.1.at fun o e => hk I (by simp) o e, by obtain ⟨o, ho, r⟩ := x.2.2; exact ⟨o, hk t (by simp) o ho, r⟩⟩
  item := fun i s Q E hi x hQ => by
    have e : (items.size : Int) - 1 - (i : Int) = ((items.size - 1 - i : Nat) : Int) := by omega
    have hit := x.2.1
    rw [e] at hit
    have hx : items[items.size - 1 - i]? = some (items[items.size - 1 - i]'(by omega)) := Array.getElem?_eq_getElem (by omega)
    refine next_rt_item hit x.2.2 hx hn fun h' hit' hs' => ?_
    have e2 : ((items.size - 1 - i : Nat) : Int) - 1 = (items.size : Int) - 1 - ((i + 1 : Nat) : Int) := by omega
    rw [e2] at hit'
    refine hQ _ h' (s.toks + 1) hx ⟨hi, hit', ?_⟩ fun b o hb eo => hs'.extBut b o (fun h => hb (by simp [h])) eo
    obtain ⟨o, ho, r⟩ := x.2.2
    exact ⟨o, (hs'.2 t hne).trans ho, r⟩
  done := fun s Q E x hQ => by
    have e : (items.size : Int) - 1 - (items.size : Int) = -1 := by omega
    have hit := x.2.1
    rw [e] at hit
    exact next_rt_end hh hit fun h' he' => hQ h' s.toks fun b o hb eo => he' b o (fun h => hb (by simp [h])) eo
  self := fun _ _ _ _ x hQ => iter_rt x.2.1 hQ
theorem collect_rt {it l : Addr} {items : Array Value} {Q : List Value → Shared → Prop} (hh : A.handled = none) (hit : IsRt s.heap it l ((items.size : Int) - 1)) (hl : s.heap.IsTuple l items) (hne : l ≠ it) (hn : items.size ≤ sizeLine)
    (hQ : ∀ (h' : Heap) (tk : Nat) (acc : Array Value), (∀ b o, b ≠ it → s.heap.get? b = some o → h'.get? b = some o) → ItemsOf (fun i v => items[items.size - 1 - i]? = some v) acc items.size → Q acc.toList { s with heap := h', toks := tk }) :
    wpAny (model prog w) A (collect (.ref it)) Q E s := by
  have W := (walks_rt (prog := prog) (w := w) (A := A.in1) hh it l hne items hn).toS
  obtain ⟨oi, hoi, _⟩ := id hit
  obtain ⟨ol, hol, _⟩ := id hl
  have hSi : s.heap.objs.size ≠ it := Nat.ne_of_gt (Heap.lt_size hoi)
  have hSl : s.heap.objs.size ≠ l := Nat.ne_of_gt (Heap.lt_size hol)
  have hSf : s.heap.objs.size ∉ [it, l] := by simp only [List.mem_cons, List.not_mem_nil, or_false, not_or]; exact ⟨hSi, hSl⟩
  have hT : ∀ i (s : Shared), (i ≤ items.size ∧ IsRt s.heap it l ((items.size : Int) - 1 - (i : Int)) ∧ s.heap.IsTuple l items) → s.TypeIs (.ref it) "reversed" := fun i s x => x.2.1.typeIs
  unfold collect
  refine wpAny_bind (wpAny_runValue (codeAny_builtin F.entry_proto_collect ?_))
  rw [Around.under_plainId F.plain_proto_collect _]
  show wpAny _ A.in1 (newList [] >>= fun l' => again (.builtin "list.__iadd__" ⟨[l', .ref it], []⟩)) _ _ s
  refine wpAny_bind (wpAny_newObj_type ?_)
  refine wpAny_pure ⟨plainId_quiet F.plain_list_iadd _, codeAny_builtin F.entry_list_iadd ?_⟩
  rw [Around.under_plainId F.plain_list_iadd _]
  have e0 : ((items.size : Nat) : Int) - 1 - ((0 : Nat) : Int) = (items.size : Int) - 1 := by omega
  have hit1 : IsRt (s.heap.push { cls := .type "list", data := .seq ([] : List Value).toArray }) it l ((items.size : Int) - 1) := hit.at fun o e => Heap.get?_push_of_some _ e
  have hl1 : (s.heap.push { cls := .type "list", data := .seq ([] : List Value).toArray }).IsTuple l items := ⟨ol, Heap.get?_push_of_some _ hol, by obtain ⟨o2, h2, r⟩ := hl; rw [hol] at h2; cases h2; exact r⟩
  have hst : (0 ≤ items.size ∧ IsRt (s.heap.push { cls := .type "list", data := .seq ([] : List Value).toArray }) it l ((items.size : Int) - 1 - ((0 : Nat) : Int)) ∧ (s.heap.push { cls := .type "list", data := .seq ([] : List Value).toArray }).IsTuple l items) := ⟨Nat.zero_le _, by rw [e0]; exact hit1, hl1⟩
  show wpAny _ A.in1 (Builtin.List.listExtendWith (.ref s.heap.objs.size) (.ref it) (.ref s.heap.objs.size)) _ _ _
  unfold Builtin.List.listExtendWith
  refine wpAny_bind (wpAny_typeOf (s := { s with heap := s.heap.push { cls := .type "list", data := .seq ([] : List Value).toArray } }) (hT 0 _ hst) ?_)
  have h1 : Builtin.List.listSameRef (.ref s.heap.objs.size) (.ref it) = false := by simp [Builtin.List.listSameRef, hSi]
  have h2 : (Value.type "reversed" == Value.type "list") = false := by decide
  have h3 : (Value.type "reversed" == Value.type "tuple") = false := by decide
  simp only [h1, h2, h3, Bool.or_false, Bool.false_eq_true, if_false]
  refine wpAny_bind (W.self 0 _ _ _ hst ?_)
  refine wpAny_bind (wpAny_holding ?_)
  refine hint_rt (s := { s with heap := s.heap.push { cls := .type "list", data := .seq ([] : List Value).toArray } }) hit1 hl1 hn fun b tk htk => ?_
  have hS₁ : (s.heap.push { cls := .type "list", data := .seq ([] : List Value).toArray }).get? s.heap.objs.size = some { cls := .type "list", data := .seq ([] : List Value).toArray } := Heap.get?_push_size _ rfl
  have oth : ∀ b o, b ≠ s.heap.objs.size → (s.heap.push { cls := .type "list", data := .seq ([] : List Value).toArray }).get? b = some o →
      (((s.heap.push { cls := .type "list", data := .seq ([] : List Value).toArray }).update s.heap.objs.size (Obj.mapSeq (·.push Value.none))).update s.heap.objs.size (Obj.mapSeq (·.pop))).get? b = some o :=
    fun b o hb e => (Heap.get?_update_other _ _ (Ne.symm hb)).trans ((Heap.get?_update_other _ _ (Ne.symm hb)).trans e)
  have last : ∀ s' acc', (∀ b o, b ≠ it → s.heap.get? b = some o → s'.heap.get? b = some o) → s'.gens = s.gens → s'.drawn = s.drawn → s'.os = s.os → ItemsOf (fun i v => items[items.size - 1 - i]? = some v) acc' items.size → Q acc'.toList s' := fun s' acc' hk g1 g2 g3 hacc => by
    have := hQ s'.heap s'.toks acc' hk hacc
    rw [← g1, ← g2, ← g3] at this
    exact this
  generalize (b || _) = c
  cases c with
  | false =>
    rw [if_neg (by decide)]
    refine wpAny_pure ⟨plainId_quiet F.plain_extend_loop _, codeAny_extend_loopS W hn _ hSf _ items.size 0 _ _ _ rfl (Nat.zero_le _) hst hS₁ (ItemsOf.nil _) fun s' acc' c' hm hS' hacc => ?_⟩
    show wpAny _ A (load s.heap.objs.size >>= _) _ _ s'
    refine wpAny_bind (wpAny_load hS' ?_)
    refine wpAny_pure ?_
    refine last s' acc' (fun b o hb e => hm.heap b o (fun hmem => ?_) (Heap.get?_push_of_some _ e)) (by rw [Moved.eq_with hm]) (by rw [Moved.eq_with hm]) (by rw [Moved.eq_with hm]) hacc
    rcases List.mem_cons.mp hmem with e' | hmem
    · exact absurd (Heap.lt_size e) (by rw [e']; exact Nat.lt_irrefl _)
    · exact hb (List.mem_singleton.mp hmem)
  | true =>
    rw [if_pos rfl]
    refine wpAny_bind (wpAny_rule ?_)
    refine wpAny_bind ?_
    show wpAny _ A.in1 (updateSeq s.heap.objs.size (·.push .none) >>= fun _ => updateSeq s.heap.objs.size (·.pop)) _ _ _
    refine wpAny_bind (wpAny_updateSeq hS₁ rfl ?_)
    have hS₂ := Heap.get?_update_self (Obj.mapSeq (·.push Value.none)) hS₁ rfl
    refine wpAny_updateSeq hS₂ rfl ?_
    have hS₃ := Heap.get?_update_self (Obj.mapSeq (·.pop)) hS₂ rfl
    refine wpAny_pure ⟨plainId_quiet F.plain_extend_loop _, codeAny_extend_loopS W hn _ hSf _ items.size 0 _ _ _ rfl (Nat.zero_le _)
      (W.frame 0 ({ s with heap := s.heap.push { cls := .type "list", data := .seq ([] : List Value).toArray } } : Shared) _ tk hst ?_ fun b hb o e => oth b o (fun h => hSf (h ▸ hb)) e) hS₃ (ItemsOf.nil _) fun s' acc' c' hm hS' hacc => ?_⟩
    · exact htk
    show wpAny _ A (load s.heap.objs.size >>= _) _ _ s'
    refine wpAny_bind (wpAny_load hS' ?_)
    refine wpAny_pure ?_
    refine last s' acc' (fun b o hb e => hm.heap b o (fun hmem => ?_) (oth b o (fun z => Nat.lt_irrefl _ (z ▸ Heap.lt_size e)) (Heap.get?_push_of_some _ e))) (by rw [Moved.eq_with hm]) (by rw [Moved.eq_with hm]) (by rw [Moved.eq_with hm]) hacc
    rcases List.mem_cons.mp hmem with e' | hmem
    · exact absurd (Heap.lt_size e) (by rw [e']; exact Nat.lt_irrefl _)
    · exact hb (List.mem_singleton.mp hmem)
theorem code_tuple_new_rt {it l : Addr} {items : Array Value} {Q₁ : Value → Shared → Prop} (hh : A.handled = none) (hit : IsRt s.heap it l ((items.size : Int) - 1)) (hl : s.heap.IsTuple l items) (hne : l ≠ it) (hn : items.size ≤ sizeLine)
    (h : ∀ (h' : Heap) (tk : Nat) (acc : Array Value), (∀ b o, b ≠ it → s.heap.get? b = some o → h'.get? b = some o) → ItemsOf (fun i v => items[items.size - 1 - i]? = some v) acc items.size →
      Q₁ (.ref h'.objs.size) { s with heap := h'.push { cls := .type "tuple", data := .seq acc }, toks := tk }) :
    codeAny (model prog w) A (.call (.builtin "tuple.__new__") ⟨[.type "tuple", .ref it], []⟩) (wants Q₁ E) s := by
  refine codeAny_of_tree ?_
  show wpAny _ A.in1 (do checkBuiltinCall "tuple.__new__" ⟨[.type "tuple", .ref it], []⟩; again (.builtin "tuple.__new__" ⟨[.type "tuple", .ref it], []⟩)) _ _ s
  refine wpAny_bind (wpAny_of_eq (F.newCall_tuple_1 _) (wpAny_pure ⟨plainId_quiet F.plain_tuple_new _, codeAny_builtin F.entry_tuple_new ?_⟩))
  rw [Around.under_plainId F.plain_tuple_new _]
  have hsub := sub_tuple_self
  have hinit := init_tuple_lookup
  have hmh := madeHere_tuple
  have hTI : s.TypeIs (.ref it) "reversed" := hit.typeIs
  have hh1 : A.in1.handled = none := hh
  wp_walk using wpAny_typeOf hTI, collect_rt (A := A.in1) hh1 hit hl hne hn
  intro h' tk acc hk hacc
  show wpAny _ _ (Builtin.Tuple.tupleExact acc.toList.toArray >>= fun v => ret v) _ _ _
  unfold Builtin.Tuple.tupleExact
  refine wpAny_bind (wpAny_newObj_type ?_ (by show acc.toList.toArray.size ≤ sizeLine; simp only [Array.toArray_toList]; rw [hacc.1]; exact hn))
  refine wpAny_pure ?_
  have e : acc.toList.toArray = acc := by simp
  rw [e]
  exact h h' tk acc hk hacc
theorem call_tuple_rt {it l : Addr} {items : Array Value} {Q : Value → Shared → Prop} (hh : A.handled = none) (hit : IsRt s.heap it l ((items.size : Int) - 1)) (hl : s.heap.IsTuple l items) (hne : l ≠ it) (hn : items.size ≤ sizeLine)
    (hQ : ∀ (h' : Heap) (tk : Nat) (acc : Array Value), (∀ b o, b ≠ it → s.heap.get? b = some o → h'.get? b = some o) → ItemsOf (fun i v => items[items.size - 1 - i]? = some v) acc items.size →
      Q (.ref h'.objs.size) { s with heap := h'.push { cls := .type "tuple", data := .seq acc }, toks := tk }) :
    wpAny (model prog w) A (call (.type "tuple") [.ref it]) Q E s := by
  refine callType_codes (Q₁ := fun obj s₁ => s₁.TypeIs obj "tuple" ∧ Q obj s₁) F.called_tuple (F.typeCall_tuple_1 _) F.entry_object_init
    (code_tuple_new_rt (A := A.in1) hh hit hl hne hn fun h' tk acc hk hacc => ⟨⟨_, Heap.get?_push_size _ rfl, rfl⟩, hQ h' tk acc hk hacc⟩) fun obj s₁ h₁ => ?_
  exact ⟨h₁.1, F.args_object_init_2 obj _, object_init_meets F.called_tuple.init.lookup F.called_tuple.made (by decide) prog w A.in1 _ s₁ ⟨h₁.1, rfl, h₁.2⟩⟩
end
/-- tuple(reversed(x)), x a tuple: a new tuple -/
def tTupRevT (K : PySem.W.Frag) (te : TE) : TE := fun σ H Q => te σ H fun v H1 => ∃ (a : Addr) (xs : List V), v = .ref a ∧ SqT K H1 a xs ∧ ∀ q, H1 q = none → Q (.ref q) (upd H1 q (.tup xs.reverse))
section
variable {X : Cx}
theorem pe_tupRevT {e : Expr} {te : TE} {p p2 pos pos2 : Pos} (hc : X.calm = true) (hg : Gl X "tuple") (hm : X.mg "tuple" = none) (hg2 : Gl X "reversed") (hm2 : X.mg "reversed" = none) (he : PE X e te)
    (hs : starEach [e] X.env = (false, eval e X.env) :: starEach [] X.env := by rfl)
    (hs2 : starEach [.Call (.Name "reversed" p2) [e] [] pos2] X.env = (false, eval (.Call (.Name "reversed" p2) [e] [] pos2) X.env) :: starEach [] X.env := by rfl) :
    PE X (.Call (.Name "tuple" p) [.Call (.Name "reversed" p2) [e] [] pos2] [] pos) (tTupRevT X.K te) := by
  refine ⟨fun pins s σ H Q I h => ?_⟩
  refine Call_ (ld_blt I hg hm boot_tuple (PyProof.Rows.callWith_type1 (args_cons (Call_ (ld_blt I hg2 hm2 PyProof.Rows.boot_reversed (PyProof.Rows.callWith_type1 (args_cons (thn (he.run pins s σ H _ I h) fun u s1 ⟨v, H1, I1, r1, q1⟩ => args_nil ?_) hs) hs rfl))) hs2) hs2 rfl))
  obtain ⟨a, xs, ev, hq, q⟩ := q1
  subst ev
  obtain rfl : u = Value.ref a := r1
  obtain ⟨its, rv, p', hz⟩ := I1.tuple hq
  have hn : its.toArray.size ≤ sizeLine := by rw [List.size_toArray, ← rv.length]; exact hz
  have hn2 := hn
  rw [sizeLine_eq] at hn2
  refine call_reversed_tup p' (fun A E Q k => PyProof.Rows.len_tuple p' (by omega) k) (args_nil ?_)
  have k0 : ∀ b o, s1.heap.get? b = some o → (s1.heap.push (rtObj a ((its.toArray.size : Int) - 1))).get? b = some o := fun b o e => Heap.get?_push_of_some _ e
  have I2 : L2.Inv X pins σ H1 { s1 with heap := s1.heap.push (rtObj a ((its.toArray.size : Int) - 1)), toks := s1.toks + 1 + 1 } := I1.kept (t' := s1.toks + 1 + 1) k0
  obtain ⟨f0, f1, f2, f3, f4, f5⟩ := I1.fpOk (H' := H1) (b := s1.heap.objs.size) (Nat.le_refl _) (I1.hok.fresh (Nat.le_refl _))
  obtain ⟨ol, hol, rl⟩ := id p'
  have hne : a ≠ s1.heap.objs.size := Nat.ne_of_lt (Heap.lt_size hol)
  refine call_tuple_rt (s := { s1 with heap := s1.heap.push (rtObj a ((its.toArray.size : Int) - 1)), toks := s1.toks + 1 + 1 }) (I1.ok.hd hc) ⟨_, Heap.get?_push_size _ rfl, rfl, rfl⟩ ⟨ol, Heap.get?_push_of_some _ hol, rl⟩ hne hn fun h' tk acc hk hi => ?_
  have I3 : L2.Inv X pins σ H1 { s1 with heap := h', toks := tk } := I2.turned (t' := tk) (fun b o hb e => hk b o hb e) f0 f1 f3 f4 f5
  refine ⟨.ref h'.objs.size, upd H1 h'.objs.size (.tup xs.reverse), I3.laid (t' := tk) (fun c o e => Heap.get?_push_of_some _ e) (Nat.le_refl _) (show ObjOk X.prog X.w _ _ _ (.tup xs.reverse) from ⟨by rw [List.length_reverse]; exact hz, acc.toList, vals_rev rv hi, ?_⟩), rfl, q _ (I3.hok.fresh (Nat.le_refl _))⟩
  rw [Array.toArray_toList]
  exact IsTup.new _ _
end
end WkR
namespace Wk
open PySem L2
theorem ex_tupRevT {K : PySem.W.Frag} {Γ : List Wk.Slot} {te : TE} {ds : List PyData} (h : EX te Γ (kd K (.tuple ds))) : EX (WkR.tTupRevT K te) Γ (kd K (.tuple ds.reverse)) := fun F B σ N H Q S k =>
  h F B σ N H _ S fun v N1 H1 S1 e1 r1 => by
    cases r1 with
    | @tup a xs _ h1 a1 =>
      refine ⟨a, xs, rfl, ex_t S1.sub h1, fun q hq => k _ _ _ (S1.new hq) (e1.trans (Ex.new (S1.sub.none hq))) (dp_newT ?_ (S1.sub.none hq))⟩
      have rev : ∀ {ds : List PyData} {vs : List V}, DpAll K N1 vs ds → DpAll K N1 vs.reverse ds.reverse := by
        intro ds
        induction ds with
        | nil => intro vs h; cases h; exact .nil
        | cons d ds ih =>
          intro vs h
          cases h with
          | cons p q => rw [List.reverse_cons, List.reverse_cons]; exact dpAll_append (ih q) (.cons p .nil)
      exact rev a1
end Wk
namespace Wk
open PySem L2
/-! ### the law's own vectors, images: lists -/
def encVL {n : Nat} (x : Vec n) : PyData := .list (fins fun p => encG (x p))
def encML {n : Nat} (M : Fin n → Vec n) : PyData := .list (fins fun s => encVL (M s))
def encWL {n : Nat} (w : List (Fin n)) : PyData := .list (w.map encF)
/-- the law's sign -/
def lsg (x : G) : Int := bif decide (0 ≤ x.a) && decide (0 ≤ x.b) then (bif decide (0 < x.a + x.b) then 1 else 0) else -1
abbrev Xw := (X : Tb) × List (Fin X.n)
abbrev Xg := (X : Tb) × W X.sys
abbrev rInt1 : List V → Hp → VK → Prop := fun xs H Q => (∃ i, xs = [.int i] ∧ Q (.int i) H) ∨ ∃ k, xs = [.bl k] ∧ Q (.int (if k then 1 else 0)) H
abbrev pm__law_plus (K : PySem.W.Frag) : Pm := ⟨G × G, fun _ => True, fun i => [kd K (encG i.1), kd K (encG i.2)], fun i => kd K (encG (i.1 + i.2))⟩
abbrev pm__law_less (K : PySem.W.Frag) : Pm := ⟨G × G, fun _ => True, fun i => [kd K (encG i.1), kd K (encG i.2)], fun i => kd K (encG (i.1 - i.2))⟩
abbrev pm__law_times (K : PySem.W.Frag) : Pm := ⟨G × G, fun i => Bd i.1, fun i => [kd K (encG i.1), kd K (encG i.2)], fun i => kd K (encG (i.1 * i.2))⟩
abbrev pm__law_sign (K : PySem.W.Frag) : Pm := ⟨G, fun x => NG x ∨ NG (-x), fun x => [kd K (encG x)], fun x => kd K (.int (lsg x))⟩
abbrev pm__law_weight (K : PySem.W.Frag) : Pm := ⟨(X : Tb) × (Fin X.n × Fin X.n), fun _ => True, fun i => [kd K (encT i.1.m), kd K (encF i.2.1), kd K (encF i.2.2)], fun i => kd K (encG (i.1.A i.2.1 i.2.2))⟩
abbrev pm__law_level (K : PySem.W.Frag) : Pm := ⟨(X : Tb) × (Vec X.n × Fin X.n), fun _ => True, fun i => [kd K (encT i.1.m), kd K (encVL i.2.1), kd K (encF i.2.2)], fun i => kd K (encG (lev i.1.A i.2.2 i.2.1))⟩
abbrev pm__law_bent (K : PySem.W.Frag) : Pm := ⟨(X : Tb) × (Vec X.n × Fin X.n), fun _ => True, fun i => [kd K (encT i.1.m), kd K (encVL i.2.1), kd K (encF i.2.2)], fun i => kd K (encVL (rf i.1.A i.2.2 i.2.1))⟩
abbrev pm__law_led (K : PySem.W.Frag) : Pm := ⟨(X : Tb) × (List (Fin X.n) × Vec X.n), fun i => i.2.1.length ≤ 1000, fun i => [kd K (encT i.1.m), kd K (encW i.2.1), kd K (encVL i.2.2)], fun i => kd K (encVL (actW i.1.A i.2.1 i.2.2))⟩
abbrev pm__law_axis (K : PySem.W.Frag) : Pm := ⟨(n : Nat) × Fin n, fun i => i.1 ≤ 3, fun i => [kd K (.int (i.1 : Int)), kd K (encF i.2)], fun i => kd K (encVL (axis i.2))⟩
abbrev pm__law_images (K : PySem.W.Frag) : Pm := ⟨Xw, fun i => i.2.length ≤ 1000, fun i => [kd K (encT i.1.m), kd K (encW i.2)], fun i => kd K (encML (W.img (W.mk i.2 : W i.1.sys)))⟩
noncomputable abbrev pm__law_is_down (K : PySem.W.Frag) : Pm := ⟨(X : Tb) × (W X.sys × Fin X.n), fun _ => True, fun i => [kd K (encVL (W.img i.2.1 i.2.2))], fun i => kd K (.bool (W.isBack i.2.1 i.2.2))⟩
abbrev pm__law_pressed (K : PySem.W.Frag) : Pm := ⟨(X : Tb) × ((Fin X.n → Vec X.n) × Fin X.n), fun _ => True, fun i => [kd K (encT i.1.m), kd K (encML i.2.1), kd K (encF i.2.2)], fun i => kd K (encML fun t => less (i.2.1 t) (i.1.A i.2.2 t) (i.2.1 i.2.2))⟩
abbrev pm__law_key (K : PySem.W.Frag) : Pm := ⟨(X : Tb) × (Fin X.n → Vec X.n), fun _ => True, fun i => [kd K (encML i.2)], fun i => kd K (encM i.2)⟩
noncomputable abbrev pm__law_backs (K : PySem.W.Frag) : Pm := ⟨Xg, fun _ => True, fun i => [kd K (encML (W.img i.2))], fun i => kd K (encW (W.backs i.2))⟩
noncomputable abbrev pm__law_taken (K : PySem.W.Frag) : Pm := ⟨Xg, fun i => W.len i.2 ≤ 36, fun i => [kd K (encT i.1.m), kd K (encML (W.img i.2))], fun i => kd K (encWL (W.taken i.2))⟩
abbrev pm__law_undone (K : PySem.W.Frag) : Pm := ⟨(n : Nat) × List (Fin n), fun _ => True, fun i => [kd K (encW i.2)], fun i => kd K (encW i.2.reverse)⟩
noncomputable abbrev pm__law_first (K : PySem.W.Frag) : Pm := ⟨Xw, fun i => i.2.length ≤ 36, fun i => [kd K (encT i.1.m), kd K (encW i.2)], fun i => kd K (encW (W.first (W.mk i.2 : W i.1.sys)))⟩
/-- what is left of z behind w, w beginning it -/
noncomputable def lft (X : Tb) (w z : List (Fin X.n)) : Bool := decide (w.length + W.len ((W.mk w : W X.sys)⁻¹ * W.mk z) = z.length)
noncomputable def lftD (X : Tb) (w z : List (Fin X.n)) : PyData := bif lft X w z then encML (W.img ((W.mk w : W X.sys)⁻¹ * W.mk z)) else .none
abbrev Xwz := (X : Tb) × (List (Fin X.n) × List (Fin X.n))
noncomputable abbrev pm__law_left (K : PySem.W.Frag) : Pm := ⟨Xwz, fun i => i.2.1.length + i.2.2.length ≤ 36, fun i => [kd K (encT i.1.m), kd K (encW i.2.1), kd K (encW i.2.2)], fun i => kd K (lftD i.1 i.2.1 i.2.2)⟩
/-- no back button in common -/
noncomputable def apart {X : Tb} (g h : W X.sys) : Bool := ((W.backs g).filter fun s => decide (s ∈ W.backs h)).isEmpty
noncomputable def least1 (X : Tb) (w v z : List (Fin X.n)) : Bool := lft X w z && (lft X v z && apart ((W.mk w : W X.sys)⁻¹ * W.mk z) ((W.mk v : W X.sys)⁻¹ * W.mk z))
abbrev Xwvz := (X : Tb) × (List (Fin X.n) × List (Fin X.n) × List (Fin X.n))
noncomputable abbrev pm__law_is_least_one (K : PySem.W.Frag) : Pm := ⟨Xwvz, fun i => i.2.1.length + i.2.2.2.length ≤ 36 ∧ i.2.2.1.length + i.2.2.2.length ≤ 36, fun i => [kd K (encT i.1.m), kd K (encW i.2.1), kd K (encW i.2.2.1), kd K (encW i.2.2.2)], fun i => kd K (.bool (least1 i.1 i.2.1 i.2.2.1 i.2.2.2))⟩
section
variable {K : PySem.W.Frag} {Γ : List Wk.Slot} {te ta tb : TE}
theorem ex_int1B {b : Bool} (h : EX te Γ (kd K (.bool b))) : EX (tCB rInt1 (tCons te tNil)) Γ (kd K (.int (bif b then 1 else 0))) := fun F B σ N H Q S k =>
  h F B σ N H _ S fun v N1 H1 S1 e1 r1 => by
    cases r1
    refine .inr ⟨b, rfl, ?_⟩
    cases b
    · exact k _ N1 H1 S1 e1 (.int 0)
    · exact k _ N1 H1 S1 e1 (.int 1)
theorem ex_int1I {i : Int} (h : EX te Γ (kd K (.int i))) : EX (tCB rInt1 (tCons te tNil)) Γ (kd K (.int i)) := fun F B σ N H Q S k =>
  h F B σ N H _ S fun v N1 H1 S1 e1 r1 => by
    cases r1
    exact .inl ⟨i, rfl, k _ N1 H1 S1 e1 (.int i)⟩
theorem ex_entL {n : Nat} {x : Vec n} {i : Fin n} (ha : EX ta Γ (kd K (encVL x))) (hb : EX tb Γ (kd K (encF i))) : EX (tOp (rIxL K) ta tb) Γ (kd K (encG (x i))) := ex_ixL ha hb (atI_fin (fun s => encG (x s)) i)
theorem ex_rowL {n : Nat} {M : Fin n → Vec n} {i : Fin n} (ha : EX ta Γ (kd K (encML M))) (hb : EX tb Γ (kd K (encF i))) : EX (tOp (rIxL K) ta tb) Γ (kd K (encVL (M i))) := ex_ixL ha hb (atI_fin (fun s => encVL (M s)) i)
theorem ex_lenV {n : Nat} {x : Vec n} (h : EX te Γ (kd K (encVL x))) : EX (tCB (rLenSeq K) (tCons te tNil)) Γ (kd K (.int (n : Int))) := ex_lenLF h
theorem ex_lenM {n : Nat} {M : Fin n → Vec n} (h : EX te Γ (kd K (encML M))) : EX (tCB (rLenSeq K) (tCons te tNil)) Γ (kd K (.int (n : Int))) := ex_lenLF h
theorem ex_lenTi {n : Nat} {m : Fin n → Fin n → Nat} (h : EX te Γ (kd K (encT m))) : EX (tCB (rLenSeq K) (tCons te tNil)) Γ (kd K (.int (n : Int))) := ex_lenF h
theorem ex_lenWL {n : Nat} {w : List (Fin n)} (h : EX te Γ (kd K (encWL w))) : EX (tCB (rLenSeq K) (tCons te tNil)) Γ (kd K (.int (w.length : Int))) := by
  have := ex_lenK (ds := w.map encF) h
  rwa [List.length_map] at this
theorem encVL_iD {n : Nat} (x : Vec n) : iD 2 (encVL x) = true := by
  unfold encVL fins
  simp only [iD]
  generalize List.finRange n = l
  induction l with
  | nil => rfl
  | cons a l ih => simp only [List.map_cons, iDs, Bool.and_eq_true]; exact ⟨rfl, ih⟩
end
theorem kd_VL {K : PySem.W.Frag} {n : Nat} {f : Fin n → PyData} {x : Vec n} (h : ∀ i, f i = encG (x i)) : kd K (.list (fins f)) = kd K (encVL x) := congrArg (fun f => kd K (.list (fins f))) (funext h)
theorem A_bd (X : Tb) (s t : Fin X.n) : Bd (X.A s t) := Bd_of_small (A_small X.sn s t)
/-- an image's entries are all up, or all down -/
theorem img_or {n : Nat} {S : Sys n} (g : W S) (s p : Fin n) : NG (W.img g s p) ∨ NG (-(W.img g s p)) := by
  cases q : W.isBack g s with
  | true => exact .inr (W.down (W.isBack_iff.mp q) p)
  | false => exact .inl (W.up (W.isBack_no.mp q) p)
theorem lsg_pos {x : G} (h : NG x) (ne : x ≠ 0) : 0 < lsg x := by
  obtain ⟨h1, h2⟩ := h
  unfold lsg
  rw [decide_eq_true h1, decide_eq_true h2]
  have : 0 < x.a + x.b := by
    have : x.a ≠ 0 ∨ x.b ≠ 0 := by
      by_cases q : x.a = 0
      · right; intro r; exact ne (G.ext' q r)
      · exact .inl q
    omega
  rw [decide_eq_true this]
  decide
theorem lsg_not {x : G} (h : NG (-x)) : ¬ 0 < lsg x := by
  obtain ⟨h1, h2⟩ := h
  simp at h1 h2
  unfold lsg
  cases q : decide (0 ≤ x.a) && decide (0 ≤ x.b) with
  | false => show ¬ (0 : Int) < -1; decide
  | true =>
    rw [decide_eq_false (by omega : ¬ 0 < x.a + x.b)]
    decide
theorem down_law {n : Nat} {S : Sys n} (g : W S) (s : Fin n) : PyData.eqv (.list (((List.finRange n).filter fun p => decide (0 < lsg (W.img g s p))).map fun p => encG (W.img g s p))) (.list []) = W.isBack g s := by
  cases q : W.isBack g s with
  | true =>
    have e : (List.finRange n).filter (fun p => decide (0 < lsg (W.img g s p))) = [] := by
      apply List.filter_eq_nil_iff.mpr
      intro p _
      have := lsg_not (W.down (W.isBack_iff.mp q) p)
      have e : ¬ 0 < lsg (W.img g s p) := this
      rw [decide_eq_false e]; decide
    rw [e]; rfl
  | false =>
    obtain ⟨p, hp⟩ := W.act_ne g s
    have u := W.up (W.isBack_no.mp q) p
    have : p ∈ (List.finRange n).filter (fun p => decide (0 < lsg (W.img g s p))) := List.mem_filter.mpr ⟨List.mem_finRange p, decide_eq_true (lsg_pos u hp)⟩
    cases z : (List.finRange n).filter (fun p => decide (0 < lsg (W.img g s p))) with
    | nil => rw [z] at this; cases this
    | cons a l => simp [PyData.eqv, PyData.eqvAll]
end Wk
namespace Wk
open PySem L2
section
variable {P : Program} {w : World} {K : PySem.W.Frag} {mg : Str → Option Value} {base : Heap}
abbrev s__law_plus : Stmt := top 113
abbrev Ns__law_plus : List Str := ["_law_one", "_law_two"]
theorem sc__law_plus : FnScope Ns__law_plus ["_law_one", "_law_two"] (defScope s__law_plus) := ⟨rfl, rfl, rfl, by decide +kernel, rfl, by decide +kernel, by decide +kernel⟩
def t__law_plus (K : PySem.W.Frag) : TS := (tRet (tTup (tCons (tOp (rI0 fun i j => .int (i + j)) (tOp (rIxT K) (tVar 0) (tC (.int 0))) (tOp (rIxT K) (tVar 1) (tC (.int 0)))) (tCons (tOp (rI0 fun i j => .int (i + j)) (tOp (rIxT K) (tVar 0) (tC (.int 1))) (tOp (rIxT K) (tVar 1) (tC (.int 1)))) tNil))))
theorem sx__law_plus (T : Tx K mg) : (pm__law_plus K).body Ns__law_plus (t__law_plus K) := by
  rintro ⟨x, y⟩ _
  dsimp only [pm__law_plus]
  show SX _ [_, _] _
  exact sx_ret (ex_is (ex_tup (ead_cons (ex_add (ex_ixT0 (ex_var rfl)) (ex_ixT0 (ex_var rfl))) (ead_cons (ex_add (ex_ixT1 (ex_var rfl)) (ex_ixT1 (ex_var rfl))) ead_nil))) (congrArg (kd K) (G_of (x := x + y) rfl rfl)))
theorem ok__law_plus (T : Tx K mg) {f : Addr} {fd : FuncData} (F : FnP K "_law_plus" "_law_plus" s__law_plus f fd) : FnOk P w K mg base CX0 1 f fd ["_law_one", "_law_two"] (pm__law_plus K).sp := by
  have sc := sc__law_plus
  refine F.ok sc (fun vs H Q E h => Pm.len (fun _ => rfl) vs H Q E h) (fun cdv A outer s H vs Q E hr h => ⟨t__law_plus K, PSs.nox ?_, Pm.go (sx__law_plus T) vs H Q E h⟩)
  exact (pss_one (ps_ret (pe_tup (pa_cons (pe_op op_add (pe_ix ix_tup (pv 0) pe_int (fun _ _ => rfl)) (pe_ix ix_tup (pv 1) pe_int (fun _ _ => rfl))) (pa_cons (pe_op op_add (pe_ix ix_tup (pv 0) pe_int (fun _ _ => rfl)) (pe_ix ix_tup (pv 1) pe_int (fun _ _ => rfl))) pa_nil)))))
abbrev s__law_less : Stmt := top 114
abbrev Ns__law_less : List Str := ["_law_one", "_law_two"]
theorem sc__law_less : FnScope Ns__law_less ["_law_one", "_law_two"] (defScope s__law_less) := ⟨rfl, rfl, rfl, by decide +kernel, rfl, by decide +kernel, by decide +kernel⟩
def t__law_less (K : PySem.W.Frag) : TS := (tRet (tTup (tCons (tOp (rI0 fun i j => .int (i - j)) (tOp (rIxT K) (tVar 0) (tC (.int 0))) (tOp (rIxT K) (tVar 1) (tC (.int 0)))) (tCons (tOp (rI0 fun i j => .int (i - j)) (tOp (rIxT K) (tVar 0) (tC (.int 1))) (tOp (rIxT K) (tVar 1) (tC (.int 1)))) tNil))))
theorem sx__law_less (T : Tx K mg) : (pm__law_less K).body Ns__law_less (t__law_less K) := by
  rintro ⟨x, y⟩ _
  dsimp only [pm__law_less]
  show SX _ [_, _] _
  exact sx_ret (ex_is (ex_tup (ead_cons (ex_sub (ex_ixT0 (ex_var rfl)) (ex_ixT0 (ex_var rfl))) (ead_cons (ex_sub (ex_ixT1 (ex_var rfl)) (ex_ixT1 (ex_var rfl))) ead_nil))) (congrArg (kd K) (G_of (x := x - y) rfl rfl)))
theorem ok__law_less (T : Tx K mg) {f : Addr} {fd : FuncData} (F : FnP K "_law_less" "_law_less" s__law_less f fd) : FnOk P w K mg base CX0 1 f fd ["_law_one", "_law_two"] (pm__law_less K).sp := by
  have sc := sc__law_less
  refine F.ok sc (fun vs H Q E h => Pm.len (fun _ => rfl) vs H Q E h) (fun cdv A outer s H vs Q E hr h => ⟨t__law_less K, PSs.nox ?_, Pm.go (sx__law_less T) vs H Q E h⟩)
  exact (pss_one (ps_ret (pe_tup (pa_cons (pe_op op_sub (pe_ix ix_tup (pv 0) pe_int (fun _ _ => rfl)) (pe_ix ix_tup (pv 1) pe_int (fun _ _ => rfl))) (pa_cons (pe_op op_sub (pe_ix ix_tup (pv 0) pe_int (fun _ _ => rfl)) (pe_ix ix_tup (pv 1) pe_int (fun _ _ => rfl))) pa_nil)))))
abbrev s__law_times : Stmt := top 115
abbrev Ns__law_times : List Str := ["_law_one", "_law_two", "_law_both"]
theorem sc__law_times : FnScope Ns__law_times ["_law_one", "_law_two"] (defScope s__law_times) := ⟨rfl, rfl, rfl, by decide +kernel, rfl, by decide +kernel, by decide +kernel⟩
def t__law_times (K : PySem.W.Frag) : TS := (tSeq (tAsg (tOp (rI CMul fun i j => .int (i * j)) (tOp (rIxT K) (tVar 0) (tC (.int 1))) (tOp (rIxT K) (tVar 1) (tC (.int 1)))) (gName 2))
    (tRet (tTup (tCons (tOp (rI0 fun i j => .int (i + j)) (tOp (rI CMul fun i j => .int (i * j)) (tOp (rIxT K) (tVar 0) (tC (.int 0))) (tOp (rIxT K) (tVar 1) (tC (.int 0)))) (tVar 2)) (tCons (tOp (rI0 fun i j => .int (i + j)) (tOp (rI0 fun i j => .int (i + j)) (tOp (rI CMul fun i j => .int (i * j)) (tOp (rIxT K) (tVar 0) (tC (.int 0))) (tOp (rIxT K) (tVar 1) (tC (.int 1)))) (tOp (rI CMul fun i j => .int (i * j)) (tOp (rIxT K) (tVar 0) (tC (.int 1))) (tOp (rIxT K) (tVar 1) (tC (.int 0))))) (tVar 2)) tNil)))))
theorem sx__law_times (T : Tx K mg) : (pm__law_times K).body Ns__law_times (t__law_times K) := by
  rintro ⟨x, y⟩ hx
  dsimp only [pm__law_times]
  show SX _ [_, _, _] _
  have hx : Bd x := hx
  obtain ⟨h1, h2, h3, h4⟩ := hx
  refine q_set (ex_mul (ex_ixT1 (ex_var rfl)) (ex_ixT1 (ex_var rfl)) (by first | exact .inl ⟨by omega, by omega⟩ | exact .inr ⟨by omega, by omega⟩)) ?_
  exact sx_ret (ex_is (ex_tup (ead_cons (ex_add (ex_mul (ex_ixT0 (ex_var rfl)) (ex_ixT0 (ex_var rfl)) (by first | exact .inl ⟨by omega, by omega⟩ | exact .inr ⟨by omega, by omega⟩)) (ex_var rfl)) (ead_cons (ex_add (ex_add (ex_mul (ex_ixT0 (ex_var rfl)) (ex_ixT1 (ex_var rfl)) (by first | exact .inl ⟨by omega, by omega⟩ | exact .inr ⟨by omega, by omega⟩)) (ex_mul (ex_ixT1 (ex_var rfl)) (ex_ixT0 (ex_var rfl)) (by first | exact .inl ⟨by omega, by omega⟩ | exact .inr ⟨by omega, by omega⟩))) (ex_var rfl)) ead_nil))) (congrArg (kd K) (G_of (x := x * y) rfl (by rw [G.mul_b]))))
theorem ok__law_times (T : Tx K mg) {f : Addr} {fd : FuncData} (F : FnP K "_law_times" "_law_times" s__law_times f fd) : FnOk P w K mg base CX0 1 f fd ["_law_one", "_law_two"] (pm__law_times K).sp := by
  have sc := sc__law_times
  refine F.ok sc (fun vs H Q E h => Pm.len (fun _ => rfl) vs H Q E h) (fun cdv A outer s H vs Q E hr h => ⟨t__law_times K, PSs.nox ?_, Pm.go (sx__law_times T) vs H Q E h⟩)
  exact (pss_cons (ps_set (i := 2) sc.nd rfl (by first | exact Or.inl rfl | exact Or.inr rfl) (pe_op op_mul (pe_ix ix_tup (pv 0) pe_int (fun _ _ => rfl)) (pe_ix ix_tup (pv 1) pe_int (fun _ _ => rfl))))
      (pss_one (ps_ret (pe_tup (pa_cons (pe_op op_add (pe_op op_mul (pe_ix ix_tup (pv 0) pe_int (fun _ _ => rfl)) (pe_ix ix_tup (pv 1) pe_int (fun _ _ => rfl))) (pv 2)) (pa_cons (pe_op op_add (pe_op op_add (pe_op op_mul (pe_ix ix_tup (pv 0) pe_int (fun _ _ => rfl)) (pe_ix ix_tup (pv 1) pe_int (fun _ _ => rfl))) (pe_op op_mul (pe_ix ix_tup (pv 0) pe_int (fun _ _ => rfl)) (pe_ix ix_tup (pv 1) pe_int (fun _ _ => rfl)))) (pv 2)) pa_nil))))))
abbrev s__law_sign : Stmt := top 116
abbrev Ns__law_sign : List Str := ["_law_one", "_law_a", "_law_b", "_law_far"]
theorem sc__law_sign : FnScope Ns__law_sign ["_law_one"] (defScope s__law_sign) := ⟨rfl, rfl, rfl, by decide +kernel, rfl, by decide +kernel, by decide +kernel⟩
def t__law_sign (K : PySem.W.Frag) : TS := (tSeq (tAsg (tVar 0) (gTup K 2 (gCons (gName 1) (gCons (gName 2) gNil))))
    (tSeq (tIfS (tAnd (tTest (tOp (rI0 fun i j => .bl (decide (j ≤ i))) (tVar 1) (tC (.int 0)))) (tTest (tOp (rI0 fun i j => .bl (decide (j ≤ i))) (tVar 2) (tC (.int 0))))) (tRet (tCB rInt1 (tCons (tOp (rI0 fun i j => .bl (decide (j < i))) (tOp (rI0 fun i j => .int (i + j)) (tVar 1) (tVar 2)) (tC (.int 0))) tNil))) tNext)
    (tSeq (tIfS (tAnd (tTest (tOp (rI0 fun i j => .bl (decide (i ≤ j))) (tVar 1) (tC (.int 0)))) (tTest (tOp (rI0 fun i j => .bl (decide (i ≤ j))) (tVar 2) (tC (.int 0))))) (tRet (tUn (rU fun i => .int (-i)) (tC (.int 1)))) tNext)
    (tSeq (tAsg (tOp (rI0 fun i j => .int (i - j)) (tOp (rI0 fun i j => .int (i + j)) (tOp (rI CMul fun i j => .int (i * j)) (tVar 1) (tVar 1)) (tOp (rI CMul fun i j => .int (i * j)) (tVar 1) (tVar 2))) (tOp (rI CMul fun i j => .int (i * j)) (tVar 2) (tVar 2))) (gName 3))
    (tRet (tIf (tTest (tOp rEq (tOp (rI0 fun i j => .bl (decide (j < i))) (tVar 3) (tC (.int 0))) (tOp (rI0 fun i j => .bl (decide (j < i))) (tVar 1) (tC (.int 0))))) (tC (.int 1)) (tUn (rU fun i => .int (-i)) (tC (.int 1)))))))))
theorem sx__law_sign (T : Tx K mg) : (pm__law_sign K).body Ns__law_sign (t__law_sign K) := by
  rintro x hx
  dsimp only [pm__law_sign]
  show SX _ [_, _, _, _] _
  have hx : NG x ∨ NG (-x) := hx
  refine q_asg (ex_var rfl) (gx_tup (gxs_cons gx_name (gxs_cons gx_name gxs_nil))) ?_
  show SX _ [_, _, _, _] _
  refine q_if (b := decide (0 ≤ x.a) && decide (0 ≤ x.b)) (et_and (et_test (ex_ge (ex_var rfl) (ex_int (K := K)))) fun _ => (et_test (ex_ge (ex_var rfl) (ex_int (K := K))))) (fun e => ?_) (fun e => sx_pass ?_)
  · refine q_ret (ex_is (ex_int1B (ex_gt (ex_add (ex_var rfl) (ex_var rfl)) (ex_int (K := K)))) ?_)
    unfold lsg
    rw [e]
    rfl
  · have hn : NG (-x) := hx.resolve_left fun h => by
      rw [decide_eq_true h.1, decide_eq_true h.2] at e
      cases e
    obtain ⟨h1, h2⟩ := hn
    simp at h1 h2
    refine q_if (b := true) (et_is (et_and (et_test (ex_le (ex_var rfl) (ex_int (K := K)))) fun _ => (et_test (ex_le (ex_var rfl) (ex_int (K := K))))) (by rw [decide_eq_true h1, decide_eq_true h2]; rfl)) (fun _ => ?_) (fun e => by cases e)
    refine q_ret (ex_is (ex_neg (ex_int (K := K))) ?_)
    unfold lsg
    rw [e]
    rfl
theorem ok__law_sign (T : Tx K mg) {f : Addr} {fd : FuncData} (F : FnP K "_law_sign" "_law_sign" s__law_sign f fd) : FnOk P w K mg base CX0 1 f fd ["_law_one"] (pm__law_sign K).sp := by
  have sc := sc__law_sign
  refine F.ok sc (fun vs H Q E h => Pm.len (fun _ => rfl) vs H Q E h) (fun cdv A outer s H vs Q E hr h => ⟨t__law_sign K, PSs.nox ?_, Pm.go (sx__law_sign T) vs H Q E h⟩)
  exact (pss_cons (ps_asg (pv 0) (pg_tup rfl (pgs_cons (pg_name (i := 1) sc.nd rfl (by first | exact Or.inl rfl | exact Or.inr rfl)) (pgs_cons (pg_name (i := 2) sc.nd rfl (by first | exact Or.inl rfl | exact Or.inr rfl)) pgs_nil))))
      (pss_cons (ps_if (PW.pt (pw_and (pt_cmpR op_ge (pv 1) pe_int (nomark _)) (pw_and1 (pt_cmpR op_ge (pv 2) pe_int (nomark _))))) (pss_one (ps_ret (pe_callTy call_int1 rfl T.int_ (by decide +kernel) (pa_cons (pe_cmpR op_gt (pe_op op_add (pv 1) (pv 2)) pe_int (nomark _)) pa_nil)))) pss_nil)
      (pss_cons (ps_if (PW.pt (pw_and (pt_cmpR op_le (pv 1) pe_int (nomark _)) (pw_and1 (pt_cmpR op_le (pv 2) pe_int (nomark _))))) (pss_one (ps_ret (pe_un un_neg pe_int))) pss_nil)
      (pss_cons (ps_set (i := 3) sc.nd rfl (by first | exact Or.inl rfl | exact Or.inr rfl) (pe_op op_sub (pe_op op_add (pe_op op_mul (pv 1) (pv 1)) (pe_op op_mul (pv 1) (pv 2))) (pe_op op_mul (pv 2) (pv 2))))
      (pss_one (ps_ret (pe_ifExp (pt_cmpR op_eq (pe_cmpR op_gt (pv 3) pe_int (nomark _)) (pe_cmpR op_gt (pv 1) pe_int (nomark _)) (nomark _)) pe_int (pe_un un_neg pe_int))))))))
theorem weight_of (X : Tb) (s t : Fin X.n) : X.A s t = if X.m s t = 1 then 2 else if X.m s t = 5 then ⟨0, -1⟩ else if X.m s t = 4 then (if s.val < t.val then ⟨-1, 0⟩ else ⟨-2, 0⟩) else if X.m s t = 2 then 0 else if X.m s t = 3 then ⟨-1, 0⟩ else ⟨-2, 0⟩ := by
  unfold Tb.A
  by_cases q : t = s
  · subst q
    rw [if_pos rfl, X.diag, if_pos rfl]
  · rw [if_neg q]
    have ok := X.ok s t (fun z => q z.symm)
    rcases ok with e | e | e | e | e <;> rw [e] <;> by_cases l : s.val < t.val <;> simp [l, lowG, highG] <;> rfl
theorem tie_ok (X : Tb) (s t : Fin X.n) : X.m s t = 0 ∨ X.m s t = 1 ∨ X.m s t = 2 ∨ X.m s t = 3 ∨ X.m s t = 4 ∨ X.m s t = 5 := by
  by_cases q : s = t
  · subst q; rw [X.diag]; simp
  · have := X.ok s t q
    omega
theorem ex_pair {K : PySem.W.Frag} {Γ : List Wk.Slot} {ta tb : TE} {a b : Int} {x : G} (ha : EX ta Γ (kd K (.int a))) (hb : EX tb Γ (kd K (.int b))) (h : x = ⟨a, b⟩) : EX (tTup (tCons ta (tCons tb tNil))) Γ (kd K (encG x)) := by
  subst h
  exact ex_tup (ead_cons ha (ead_cons hb ead_nil))
abbrev s__law_weight : Stmt := top 118
abbrev Ns__law_weight : List Str := ["_law_ties_here", "_law_s", "_law_t", "_law_tie"]
theorem sc__law_weight : FnScope Ns__law_weight ["_law_ties_here", "_law_s", "_law_t"] (defScope s__law_weight) := ⟨rfl, rfl, rfl, by decide +kernel, rfl, by decide +kernel, by decide +kernel⟩
def t__law_weight (K : PySem.W.Frag) : TS := (tSeq (tAsg (tOp (rIxT K) (tOp (rIxT K) (tVar 0) (tVar 1)) (tVar 2)) (gName 3))
    (tSeq (tIfS (tTest (tOp rEq (tVar 3) (tC (.int 1)))) (tRet (tTup (tCons (tC (.int 2)) (tCons (tC (.int 0)) tNil)))) tNext)
    (tSeq (tIfS (tTest (tOp rEq (tVar 3) (tC (.int 5)))) (tRet (tTup (tCons (tC (.int 0)) (tCons (tUn (rU fun i => .int (-i)) (tC (.int 1))) tNil)))) tNext)
    (tSeq (tIfS (tOr (tTest (tOp rEq (tVar 3) (tC (.int 4)))) (tTest (tOp rEq (tVar 3) (tC (.int 6))))) (tRet (tIf (tTest (tOp (rI0 fun i j => .bl (decide (i < j))) (tVar 1) (tVar 2))) (tTup (tCons (tUn (rU fun i => .int (-i)) (tC (.int 1))) (tCons (tC (.int 0)) tNil))) (tTup (tCons (tOp (rI0 fun i j => .int (i - j)) (tC (.int 0)) (tOp (rI CDiv fun i j => .int (i / j)) (tVar 3) (tC (.int 2)))) (tCons (tC (.int 0)) tNil))))) tNext)
    (tRet (tIf (tTest (tOp rEq (tVar 3) (tC (.int 2)))) (tTup (tCons (tC (.int 0)) (tCons (tC (.int 0)) tNil))) (tIf (tTest (tOp rEq (tVar 3) (tC (.int 3)))) (tTup (tCons (tUn (rU fun i => .int (-i)) (tC (.int 1))) (tCons (tC (.int 0)) tNil))) (tTup (tCons (tUn (rU fun i => .int (-i)) (tC (.int 2))) (tCons (tC (.int 0)) tNil))))))))))
theorem sx__law_weight (T : Tx K mg) : (pm__law_weight K).body Ns__law_weight (t__law_weight K) := by
  rintro ⟨X, s, t⟩ _
  dsimp only [pm__law_weight]
  show SX _ [_, _, _, _] _
  have hw := weight_of X s t
  have ok := tie_ok X s t
  refine q_set (ex_cell2 (ex_cell (ex_var rfl) (ex_var rfl)) (ex_var rfl)) ?_
  show SX _ [_, _, _, _] _
  generalize X.m s t = m at hw ok
  generalize X.A s t = a at hw
  refine q_if (et_test (ex_eqI (ex_var rfl) (ex_int (K := K)))) (fun e => ?_) (fun e => sx_pass ?_)
  · have e : m = 1 := by have := of_decide_eq_true e; omega
    rw [if_pos e] at hw
    exact q_ret (ex_pair (ex_int (K := K)) (ex_int (K := K)) hw)
  have n1 : ¬ m = 1 := by have := of_decide_eq_false e; omega
  rw [if_neg n1] at hw
  refine q_if (et_test (ex_eqI (ex_var rfl) (ex_int (K := K)))) (fun e => ?_) (fun e => sx_pass ?_)
  · have e : m = 5 := by have := of_decide_eq_true e; omega
    rw [if_pos e] at hw
    exact q_ret (ex_pair (ex_int (K := K)) (ex_neg (ex_int (K := K))) hw)
  have n5 : ¬ m = 5 := by have := of_decide_eq_false e; omega
  rw [if_neg n5] at hw
  by_cases e4 : m = 4
  · rw [if_pos e4] at hw
    refine q_if (b := true) (et_is (et_or (a := true) (b := true) (et_is (et_test (ex_eqI (ex_var rfl) (ex_int (K := K)))) (decide_eq_true (by omega))) fun e => by cases e) rfl) (fun _ => ?_) (fun e => by cases e)
    refine q_ret (ex_if (R := kd K (encG a)) (et_test (ex_lt (ex_var rfl) (ex_var rfl))) (fun e => ?_) (fun e => ?_))
    · have e : s.val < t.val := by have := of_decide_eq_true e; omega
      rw [if_pos e] at hw
      exact ex_pair (ex_neg (ex_int (K := K))) (ex_int (K := K)) hw
    · have e : ¬ s.val < t.val := by have := of_decide_eq_false e; omega
      rw [if_neg e] at hw
      refine ex_pair (ex_sub (ex_int (K := K)) (ex_fdiv (ex_var rfl) (ex_int (K := K)) ⟨by decide, by decide⟩)) (ex_int (K := K)) ?_
      rw [hw, e4]; rfl
  · rw [if_neg e4] at hw
    refine q_if (b := false) (et_is (et_or (a := false) (b := false) (et_is (et_test (ex_eqI (ex_var rfl) (ex_int (K := K)))) (decide_eq_false (by omega))) fun _ => (et_is (et_test (ex_eqI (ex_var rfl) (ex_int (K := K)))) (decide_eq_false (by omega)))) rfl) (fun e => by cases e) (fun _ => sx_pass ?_)
    refine sx_ret (ex_if (R := kd K (encG a)) (et_test (ex_eqI (ex_var rfl) (ex_int (K := K)))) (fun e => ?_) fun e => ex_if (R := kd K (encG a)) (et_test (ex_eqI (ex_var rfl) (ex_int (K := K)))) (fun e' => ?_) fun e' => ?_)
    · have e : m = 2 := by have := of_decide_eq_true e; omega
      rw [if_pos e] at hw
      exact ex_pair (ex_int (K := K)) (ex_int (K := K)) hw
    · have n2 : ¬ m = 2 := by have := of_decide_eq_false e; omega
      have e : m = 3 := by have := of_decide_eq_true e'; omega
      rw [if_neg n2, if_pos e] at hw
      exact ex_pair (ex_neg (ex_int (K := K))) (ex_int (K := K)) hw
    · have n2 : ¬ m = 2 := by have := of_decide_eq_false e; omega
      have n3 : ¬ m = 3 := by have := of_decide_eq_false e'; omega
      rw [if_neg n2, if_neg n3] at hw
      exact ex_pair (ex_neg (ex_int (K := K))) (ex_int (K := K)) hw
theorem ok__law_weight (T : Tx K mg) {f : Addr} {fd : FuncData} (F : FnP K "_law_weight" "_law_weight" s__law_weight f fd) : FnOk P w K mg base CX0 1 f fd ["_law_ties_here", "_law_s", "_law_t"] (pm__law_weight K).sp := by
  have sc := sc__law_weight
  refine F.ok sc (fun vs H Q E h => Pm.len (fun _ => rfl) vs H Q E h) (fun cdv A outer s H vs Q E hr h => ⟨t__law_weight K, PSs.nox ?_, Pm.go (sx__law_weight T) vs H Q E h⟩)
  exact (pss_cons (ps_set (i := 3) sc.nd rfl (by first | exact Or.inl rfl | exact Or.inr rfl) (pe_ix ix_tup (pe_ix ix_tup (pv 0) (pv 1) (fun _ _ => rfl)) (pv 2) (fun _ _ => rfl)))
      (pss_cons (ps_if (pt_cmpR op_eq (pv 3) pe_int (nomark _)) (pss_one (ps_ret (pe_tup (pa_cons pe_int (pa_cons pe_int pa_nil))))) pss_nil)
      (pss_cons (ps_if (pt_cmpR op_eq (pv 3) pe_int (nomark _)) (pss_one (ps_ret (pe_tup (pa_cons pe_int (pa_cons (pe_un un_neg pe_int) pa_nil))))) pss_nil)
      (pss_cons (ps_if (PW.pt (pw_or (pt_cmpR op_eq (pv 3) pe_int (nomark _)) (pw_or1 (pt_cmpR op_eq (pv 3) pe_int (nomark _))))) (pss_one (ps_ret (pe_ifExp (pt_cmpR op_lt (pv 1) (pv 2) (nomark _)) (pe_tup (pa_cons (pe_un un_neg pe_int) (pa_cons pe_int pa_nil))) (pe_tup (pa_cons (pe_op op_sub pe_int (pe_op op_fdiv (pv 3) pe_int)) (pa_cons pe_int pa_nil)))))) pss_nil)
      (pss_one (ps_ret (pe_ifExp (pt_cmpR op_eq (pv 3) pe_int (nomark _)) (pe_tup (pa_cons pe_int (pa_cons pe_int pa_nil))) (pe_ifExp (pt_cmpR op_eq (pv 3) pe_int (nomark _)) (pe_tup (pa_cons (pe_un un_neg pe_int) (pa_cons pe_int pa_nil))) (pe_tup (pa_cons (pe_un un_neg pe_int) (pa_cons pe_int pa_nil)))))))))))
abbrev s__law_level : Stmt := top 119
abbrev Ns__law_level : List Str := ["_law_ties_here", "_law_vector", "_law_s", "_law_found", "_law_t"]
theorem sc__law_level : FnScope Ns__law_level ["_law_ties_here", "_law_vector", "_law_s"] (defScope s__law_level) := ⟨rfl, rfl, rfl, by decide +kernel, rfl, by decide +kernel, by decide +kernel⟩
def t__law_level (K : PySem.W.Frag) : TS := (tSeq (tAsg (tTup (tCons (tC (.int 0)) (tCons (tC (.int 0)) tNil))) (gName 3))
    (tSeq (tFor (iRng1 (tCons (tCB (rLenSeq K) (tCons (tVar 0) tNil)) tNil)) (gName 4) (tAsg (tCall (pm__law_plus K).sp [] E0 (tCons (tVar 3) (tCons (tCall (pm__law_times K).sp [] E0 (tCons (tCall (pm__law_weight K).sp [] E0 (tCons (tVar 0) (tCons (tVar 2) (tCons (tVar 4) tNil)))) (tCons (tOp (rIxL K) (tVar 1) (tVar 4)) tNil))) tNil))) (gName 3)))
    (tRet (tVar 3))))
theorem sx__law_level (T : Tx K mg) : (pm__law_level K).body Ns__law_level (t__law_level K) := by
  rintro ⟨X, x, s⟩ _
  dsimp only [pm__law_level]
  show SX _ [_, _, _, _, _] _
  have sz := X.h3
  refine q_set (R := kd K (encG 0)) (ex_pair (ex_int (K := K)) (ex_int (K := K)) rfl) ?_
  refine q_for (fun i Γ => ∃ a, Γ = [.kn (kd K (encT X.m)), .kn (kd K (encVL x)), .kn (kd K (encF s)), .kn (kd K (encG (psum (fun t => X.A s t * x t) i))), a]) (iw_rangeF (ea_cons (ex_lenTi (ex_var rfl)) ea_nil)) ⟨_, rfl⟩ ?_ ?_
  · rintro i Γ hi ⟨a, rfl⟩
    have ps := psum_succ (fun t => X.A s t * x t) ⟨i, hi⟩
    refine ⟨_, _, by rw [kdAt_fin (fun t : Fin X.n => encF t) ⟨i, hi⟩]; exact gx_name, ?_⟩
    refine s_set (ex_pm (pm__law_plus K) ⟨psum (fun t => X.A s t * x t) i, X.A s ⟨i, hi⟩ * x ⟨i, hi⟩⟩ (ea_cons (ex_var rfl) (ea_cons (ex_pm (pm__law_times K) ⟨X.A s ⟨i, hi⟩, x ⟨i, hi⟩⟩ (ea_cons (ex_pm (pm__law_weight K) ⟨X, s, ⟨i, hi⟩⟩ (ea_cons (ex_var rfl) (ea_cons (ex_var rfl) (ea_cons (ex_var rfl) ea_nil))) trivial) (ea_cons (ex_entL (ex_var rfl) (ex_var rfl)) ea_nil)) (A_bd X s ⟨i, hi⟩)) ea_nil)) trivial) ?_
    dsimp only
    rw [show i + 1 = (⟨i, hi⟩ : Fin X.n).val + 1 from rfl, ps]
    exact ⟨_, rfl⟩
  · rintro Γ ⟨a, rfl⟩
    refine sx_ret (ex_is (ex_var rfl) ?_)
    rw [psum_all]; rfl
theorem ok__law_level (T : Tx K mg) (c__law_weight : C8.Cal P w K mg base 1 "_law_weight" (pm__law_weight K).sp []) (c__law_times : C8.Cal P w K mg base 1 "_law_times" (pm__law_times K).sp []) (c__law_plus : C8.Cal P w K mg base 1 "_law_plus" (pm__law_plus K).sp []) {f : Addr} {fd : FuncData} (F : FnP K "_law_level" "_law_level" s__law_level f fd) : FnOk P w K mg base CX0 2 f fd ["_law_ties_here", "_law_vector", "_law_s"] (pm__law_level K).sp := by
  have sc := sc__law_level
  refine F.ok sc (fun vs H Q E h => Pm.len (fun _ => rfl) vs H Q E h) (fun cdv A outer s H vs Q E hr h => ⟨t__law_level K, PSs.nox ?_, Pm.go (sx__law_level T) vs H Q E h⟩)
  exact (pss_cons (ps_set (i := 3) sc.nd rfl (by first | exact Or.inl rfl | exact Or.inr rfl) (pe_tup (pa_cons pe_int (pa_cons pe_int pa_nil))))
      (pss_cons (ps_for PassesOwn.never rfl (pi_range1 rfl T.range_ (pa_cons (pe_callB call_len_seq rfl T.len_ PySem.boot_len (pa_cons (pv 0) pa_nil)) pa_nil)) (pg_name (i := 4) sc.nd rfl (by first | exact Or.inl rfl | exact Or.inr rfl)) (pss_one (ps_set (i := 3) sc.nd rfl (by first | exact Or.inl rfl | exact Or.inr rfl) (C8.pe_c c__law_plus hr (by decide) rfl (pa_cons (pv 3) (pa_cons (C8.pe_c c__law_times hr (by decide) rfl (pa_cons (C8.pe_c c__law_weight hr (by decide) rfl (pa_cons (pv 0) (pa_cons (pv 2) (pa_cons (pv 4) pa_nil)))) (pa_cons (pe_ix ix_list (pv 1) (pv 4) (fun _ _ => rfl)) pa_nil))) pa_nil))))))
      (pss_one (ps_ret (pv 3)))))
abbrev s__law_bent : Stmt := top 120
abbrev Ns__law_bent : List Str := ["_law_ties_here", "_law_vector", "_law_s", "_law_low", "_law_t"]
theorem sc__law_bent : FnScope Ns__law_bent ["_law_ties_here", "_law_vector", "_law_s"] (defScope s__law_bent) := ⟨rfl, rfl, rfl, by decide +kernel, rfl, by decide +kernel, by decide +kernel⟩
def t__law_bent (K : PySem.W.Frag) : TS := (tSeq (tAsg (tCall (pm__law_level K).sp [] E0 (tCons (tVar 0) (tCons (tVar 1) (tCons (tVar 2) tNil)))) (gName 3))
    (tRet (tLc (iRng1 (tCons (tCB (rLenSeq K) (tCons (tVar 1) tNil)) tNil)) (gName 4) tYes (tIf (tTest (tOp rEq (tVar 4) (tVar 2))) (tCall (pm__law_less K).sp [] E0 (tCons (tOp (rIxL K) (tVar 1) (tVar 4)) (tCons (tVar 3) tNil))) (tOp (rIxL K) (tVar 1) (tVar 4))) [4])))
theorem sx__law_bent (T : Tx K mg) : (pm__law_bent K).body Ns__law_bent (t__law_bent K) := by
  rintro ⟨X, x, s⟩ _
  dsimp only [pm__law_bent]
  show SX _ [_, _, _, _, _] _
  have sz := X.h3
  refine q_set (ex_pm (pm__law_level K) ⟨X, x, s⟩ (ea_cons (ex_var rfl) (ea_cons (ex_var rfl) (ea_cons (ex_var rfl) ea_nil))) trivial) ?_
  refine sx_ret (ex_ofL (ds := fins fun i => encG (rf X.A s x i)) (exl_lcB (iw_rangeF (ea_cons (ex_lenV (ex_var rfl)) ea_nil)) (fun i => gx_name) fun i => ex_if (R := kd K (encG (rf X.A s x i))) (et_test (ex_eqI (ex_var rfl) (ex_var rfl))) (fun e => ex_is (ex_pm (pm__law_less K) ⟨x i, lev X.A s x⟩ (ea_cons (ex_entL (ex_var rfl) (ex_var rfl)) (ea_cons (ex_var rfl) ea_nil)) trivial) ?_) fun e => ex_is (ex_entL (ex_var rfl) (ex_var rfl)) ?_))
  · have q : i = s := Fin.ext (by have : (i.val : Int) = (s.val : Int) := of_decide_eq_true e; omega)
    unfold rf
    rw [if_pos q]
  · have q : ¬ i = s := fun q => by rw [q] at e; simp at e
    unfold rf
    rw [if_neg q]
theorem ok__law_bent (T : Tx K mg) (c__law_level : C8.Cal P w K mg base 2 "_law_level" (pm__law_level K).sp []) (c__law_less : C8.Cal P w K mg base 1 "_law_less" (pm__law_less K).sp []) {f : Addr} {fd : FuncData} (F : FnP K "_law_bent" "_law_bent" s__law_bent f fd) : FnOk P w K mg base CX0 3 f fd ["_law_ties_here", "_law_vector", "_law_s"] (pm__law_bent K).sp := by
  have sc := sc__law_bent
  refine F.ok sc (fun vs H Q E h => Pm.len (fun _ => rfl) vs H Q E h) (fun cdv A outer s H vs Q E hr h => ⟨t__law_bent K, PSs.nox ?_, Pm.go (sx__law_bent T) vs H Q E h⟩)
  exact (pss_cons (ps_set (i := 3) sc.nd rfl (by first | exact Or.inl rfl | exact Or.inr rfl) (C8.pe_c c__law_level hr (by decide) rfl (pa_cons (pv 0) (pa_cons (pv 1) (pa_cons (pv 2) pa_nil)))))
      (pss_one (ps_ret (pe_lc (own := [("_law_t", 4)]) (g := (gName 4)) (tt := tYes) (te := (tIf (tTest (tOp rEq (tVar 4) (tVar 2))) (tCall (pm__law_less K).sp [] E0 (tCons (tOp (rIxL K) (tVar 1) (tVar 4)) (tCons (tVar 3) tNil))) (tOp (rIxL K) (tVar 1) (tVar 4)))) rfl sc.nd (pi_range1 rfl T.range_ (pa_cons (pe_callB call_len_seq rfl T.len_ PySem.boot_len (pa_cons (pv 1) pa_nil)) pa_nil)) (blkOk_by (own := [("_law_t", 4)]) (N := Ns__law_bent) (sc := defScope s__law_bent) (by decide +kernel)) (fun _ _ _ _ _ => (pg_name (i := 4) sc.nd rfl (by first | exact Or.inl rfl | exact Or.inr rfl))) (fun _ _ _ _ _ => pts_nil) (fun _ _ _ _ _ => (pe_ifExp (pt_cmpR op_eq (pv 4) (pv 2) (nomark _)) (C8.pe_c c__law_less hr (by decide) rfl (pa_cons (pe_ix ix_list (pv 1) (pv 4) (fun _ _ => rfl)) (pa_cons (pv 3) pa_nil))) (pe_ix ix_list (pv 1) (pv 4) (fun _ _ => rfl))))))))
abbrev s__law_led : Stmt := top 121
abbrev Ns__law_led : List Str := ["_law_ties_here", "_law_word_here", "_law_vector", "_law_s"]
theorem sc__law_led : FnScope Ns__law_led ["_law_ties_here", "_law_word_here", "_law_vector"] (defScope s__law_led) := ⟨rfl, rfl, rfl, by decide +kernel, rfl, by decide +kernel, by decide +kernel⟩
def t__law_led (K : PySem.W.Frag) : TS := (tSeq (tFor (RT.iRevA K (tVar 1)) (gName 3) (tAsg (tCall (pm__law_bent K).sp [] E0 (tCons (tVar 0) (tCons (tVar 2) (tCons (tVar 3) tNil)))) (gName 2)))
    (tRet (tVar 2)))
theorem sx__law_led (T : Tx K mg) : (pm__law_led K).body Ns__law_led (t__law_led K) := by
  rintro ⟨X, v, x⟩ hv
  dsimp only [pm__law_led]
  show SX _ [_, _, _, _] _
  have hv : v.length ≤ 1000 := hv
  refine q_for (n := v.length) (fun i Γ => ∃ a, Γ = [.kn (kd K (encT X.m)), .kn (kd K (encW v)), .kn (kd K (encVL (actW X.A (v.drop (v.length - i)) x))), a]) (Rs := fun i => kdAt K (v.reverse.map encF) i) ?_ ⟨_, by rw [Nat.sub_zero, List.drop_length]; rfl⟩ ?_ ?_
  · have := iw_revT (K := K) (Γ := [.kn (kd K (encT X.m)), .kn (kd K (encW v)), .kn (kd K (encVL x)), .un]) (ds := v.map encF) (te := tVar 1) (ex_var rfl)
    rw [List.length_map, ← List.map_reverse] at this
    exact this
  · rintro i Γ hi ⟨a, rfl⟩
    have hj : v.length - 1 - i < v.length := by omega
    have hr : v.reverse[i]'(by rw [List.length_reverse]; exact hi) = v[v.length - 1 - i] := List.getElem_reverse _
    refine ⟨_, _, by rw [kdAt_word (by rw [List.length_reverse]; exact hi), hr]; exact gx_name, ?_⟩
    refine s_set (ex_pm (pm__law_bent K) ⟨X, actW X.A (v.drop (v.length - i)) x, v[v.length - 1 - i]⟩ (ea_cons (ex_var rfl) (ea_cons (ex_var rfl) (ea_cons (ex_var rfl) ea_nil))) trivial) ?_
    have e : v.drop (v.length - (i + 1)) = v[v.length - 1 - i] :: v.drop (v.length - i) := by
      rw [show v.length - (i + 1) = v.length - 1 - i by omega, List.drop_eq_getElem_cons hj, show v.length - 1 - i + 1 = v.length - i by omega]
    dsimp only
    rw [e]
    exact ⟨_, rfl⟩
  · rintro Γ ⟨a, rfl⟩
    refine sx_ret (ex_is (ex_var rfl) ?_)
    rw [Nat.sub_self, List.drop_zero]
theorem ok__law_led (T : Tx K mg) (c__law_bent : C8.Cal P w K mg base 3 "_law_bent" (pm__law_bent K).sp []) {f : Addr} {fd : FuncData} (F : FnP K "_law_led" "_law_led" s__law_led f fd) : FnOk P w K mg base CX0 4 f fd ["_law_ties_here", "_law_word_here", "_law_vector"] (pm__law_led K).sp := by
  have sc := sc__law_led
  refine F.ok sc (fun vs H Q E h => Pm.len (fun _ => rfl) vs H Q E h) (fun cdv A outer s H vs Q E hr h => ⟨t__law_led K, PSs.nox ?_, Pm.go (sx__law_led T) vs H Q E h⟩)
  exact (pss_cons (ps_for PassesOwn.never rfl (RT.pi_revA (by rfl) T.reversed_ (pv 1)) (pg_name (i := 3) sc.nd rfl (by first | exact Or.inl rfl | exact Or.inr rfl)) (pss_one (ps_set (i := 2) sc.nd rfl (by first | exact Or.inl rfl | exact Or.inr rfl) (C8.pe_c c__law_bent hr (by decide) rfl (pa_cons (pv 0) (pa_cons (pv 2) (pa_cons (pv 3) pa_nil)))))))
      (pss_one (ps_ret (pv 2))))
abbrev s__law_axis : Stmt := top 122
abbrev Ns__law_axis : List Str := ["_law_size", "_law_s", "_law_t"]
theorem sc__law_axis : FnScope Ns__law_axis ["_law_size", "_law_s"] (defScope s__law_axis) := ⟨rfl, rfl, rfl, by decide +kernel, rfl, by decide +kernel, by decide +kernel⟩
def t__law_axis (K : PySem.W.Frag) : TS := (tRet (tLc (iRng1 (tCons (tVar 0) tNil)) (gName 2) tYes (tTup (tCons (tCB rInt1 (tCons (tOp rEq (tVar 2) (tVar 1)) tNil)) (tCons (tC (.int 0)) tNil))) [2]))
theorem sx__law_axis (T : Tx K mg) : (pm__law_axis K).body Ns__law_axis (t__law_axis K) := by
  rintro ⟨n, s⟩ hn
  dsimp only [pm__law_axis]
  show SX _ [_, _, _] _
  have hn : n ≤ 3 := hn
  refine sx_ret (ex_ofL (ds := fins fun i => encG (axis s i)) (exl_lcB (iw_rangeF (ea_cons (ex_var rfl) ea_nil)) (fun i => gx_name) fun i => ex_pair (ex_int1B (ex_eqI (ex_var rfl) (ex_var rfl))) (ex_int (K := K)) ?_))
  unfold axis
  by_cases h : i = s
  · subst h
    rw [if_pos rfl, decide_eq_true rfl]; rfl
  · have : ¬ (i.val : Int) = (s.val : Int) := fun q => h (Fin.ext (by omega))
    rw [if_neg h, decide_eq_false this]; rfl
theorem ok__law_axis (T : Tx K mg) {f : Addr} {fd : FuncData} (F : FnP K "_law_axis" "_law_axis" s__law_axis f fd) : FnOk P w K mg base CX0 1 f fd ["_law_size", "_law_s"] (pm__law_axis K).sp := by
  have sc := sc__law_axis
  refine F.ok sc (fun vs H Q E h => Pm.len (fun _ => rfl) vs H Q E h) (fun cdv A outer s H vs Q E hr h => ⟨t__law_axis K, PSs.nox ?_, Pm.go (sx__law_axis T) vs H Q E h⟩)
  exact (pss_one (ps_ret (pe_lc (own := [("_law_t", 2)]) (g := (gName 2)) (tt := tYes) (te := (tTup (tCons (tCB rInt1 (tCons (tOp rEq (tVar 2) (tVar 1)) tNil)) (tCons (tC (.int 0)) tNil)))) rfl sc.nd (pi_range1 rfl T.range_ (pa_cons (pv 0) pa_nil)) (blkOk_by (own := [("_law_t", 2)]) (N := Ns__law_axis) (sc := defScope s__law_axis) (by decide +kernel)) (fun _ _ _ _ _ => (pg_name (i := 2) sc.nd rfl (by first | exact Or.inl rfl | exact Or.inr rfl))) (fun _ _ _ _ _ => pts_nil) (fun _ _ _ _ _ => (pe_tup (pa_cons (pe_callTy call_int1 rfl T.int_ (by decide +kernel) (pa_cons (pe_cmpR op_eq (pv 2) (pv 1) (nomark _)) pa_nil)) (pa_cons pe_int pa_nil)))))))
abbrev s__law_images : Stmt := top 123
abbrev Ns__law_images : List Str := ["_law_ties_here", "_law_word_here", "_law_s"]
theorem sc__law_images : FnScope Ns__law_images ["_law_ties_here", "_law_word_here"] (defScope s__law_images) := ⟨rfl, rfl, rfl, by decide +kernel, rfl, by decide +kernel, by decide +kernel⟩
def t__law_images (K : PySem.W.Frag) : TS := (tRet (tLc (iRng1 (tCons (tCB (rLenSeq K) (tCons (tVar 0) tNil)) tNil)) (gName 2) tYes (tCall (pm__law_led K).sp [] E0 (tCons (tVar 0) (tCons (tVar 1) (tCons (tCall (pm__law_axis K).sp [] E0 (tCons (tCB (rLenSeq K) (tCons (tVar 0) tNil)) (tCons (tVar 2) tNil))) tNil)))) [2]))
theorem sx__law_images (T : Tx K mg) : (pm__law_images K).body Ns__law_images (t__law_images K) := by
  rintro ⟨X, v⟩ hv
  dsimp only [pm__law_images]
  show SX _ [_, _, _] _
  have hv : v.length ≤ 1000 := hv
  have sz : X.n ≤ 3 := X.h3
  exact sx_ret (ex_ofL (exl_lcB (iw_rangeF (ea_cons (ex_lenTi (ex_var rfl)) ea_nil)) (fun i => gx_name) fun i => (ex_pm (pm__law_led K) ⟨X, v, axis i⟩ (ea_cons (ex_var rfl) (ea_cons (ex_var rfl) (ea_cons (ex_pm (pm__law_axis K) ⟨X.n, i⟩ (ea_cons (ex_lenTi (ex_var rfl)) (ea_cons (ex_var rfl) ea_nil)) sz) ea_nil))) hv)))
theorem ok__law_images (T : Tx K mg) (c__law_axis : C8.Cal P w K mg base 1 "_law_axis" (pm__law_axis K).sp []) (c__law_led : C8.Cal P w K mg base 4 "_law_led" (pm__law_led K).sp []) {f : Addr} {fd : FuncData} (F : FnP K "_law_images" "_law_images" s__law_images f fd) : FnOk P w K mg base CX0 5 f fd ["_law_ties_here", "_law_word_here"] (pm__law_images K).sp := by
  have sc := sc__law_images
  refine F.ok sc (fun vs H Q E h => Pm.len (fun _ => rfl) vs H Q E h) (fun cdv A outer s H vs Q E hr h => ⟨t__law_images K, PSs.nox ?_, Pm.go (sx__law_images T) vs H Q E h⟩)
  exact (pss_one (ps_ret (pe_lc (own := [("_law_s", 2)]) (g := (gName 2)) (tt := tYes) (te := (tCall (pm__law_led K).sp [] E0 (tCons (tVar 0) (tCons (tVar 1) (tCons (tCall (pm__law_axis K).sp [] E0 (tCons (tCB (rLenSeq K) (tCons (tVar 0) tNil)) (tCons (tVar 2) tNil))) tNil))))) rfl sc.nd (pi_range1 rfl T.range_ (pa_cons (pe_callB call_len_seq rfl T.len_ PySem.boot_len (pa_cons (pv 0) pa_nil)) pa_nil)) (blkOk_by (own := [("_law_s", 2)]) (N := Ns__law_images) (sc := defScope s__law_images) (by decide +kernel)) (fun _ _ _ _ _ => (pg_name (i := 2) sc.nd rfl (by first | exact Or.inl rfl | exact Or.inr rfl))) (fun _ _ _ _ _ => pts_nil) (fun _ _ _ _ _ => (C8.pe_c c__law_led hr (by decide) rfl (pa_cons (pv 0) (pa_cons (pv 1) (pa_cons (C8.pe_c c__law_axis hr (by decide) rfl (pa_cons (pe_callB call_len_seq rfl T.len_ PySem.boot_len (pa_cons (pv 0) pa_nil)) (pa_cons (pv 2) pa_nil))) pa_nil))))))))
theorem shaped_VL {n : Nat} (l : List (Fin n)) (x : Vec n) : SeqAt.shaped (.list (l.map fun p => encG (x p))) = true := by
  refine shaped_of (k := 2) ?_ (by decide)
  simp only [iD]
  induction l with
  | nil => rfl
  | cons a l ih => simp only [List.map_cons, iDs, Bool.and_eq_true]; exact ⟨rfl, ih⟩
abbrev s__law_is_down : Stmt := top 124
abbrev Ns__law_is_down : List Str := ["_law_vector", "_law_each"]
theorem sc__law_is_down : FnScope Ns__law_is_down ["_law_vector"] (defScope s__law_is_down) := ⟨rfl, rfl, rfl, by decide +kernel, rfl, by decide +kernel, by decide +kernel⟩
def t__law_is_down (K : PySem.W.Frag) : TS := (tRet (tOp (rEqD K) (tLc (iList K (tVar 0)) (gName 1) (tTest (tOp (rI0 fun i j => .bl (decide (j < i))) (tCall (pm__law_sign K).sp [] E0 (tCons (tVar 1) tNil)) (tC (.int 0)))) (tVar 1) [1]) (tLst tNil)))
theorem sx__law_is_down (T : Tx K mg) : (pm__law_is_down K).body Ns__law_is_down (t__law_is_down K) := by
  rintro ⟨X, g, s⟩ _
  dsimp only [pm__law_is_down]
  show SX _ [_, _] _
  have sz := X.h3
  rw [← down_law g s]
  exact sx_ret (ex_eqD (shaped_VL _ _) rfl (ex_ofL (exl_lcT (n := X.n) (p := fun p => decide (0 < lsg (W.img g s p))) (f := fun p => encG (W.img g s p)) (iw_listF (ex_var rfl)) (fun i => gx_name) (fun i => (et_test (ex_gt (ex_pm (pm__law_sign K) (W.img g s i) (ea_cons (ex_var rfl) ea_nil) (img_or g s i)) (ex_int (K := K))))) (fun i hp => (ex_var rfl)))) (ex_ofL (exl_lst (ead_nil (K := K)))))
theorem ok__law_is_down (T : Tx K mg) (c__law_sign : C8.Cal P w K mg base 1 "_law_sign" (pm__law_sign K).sp []) {f : Addr} {fd : FuncData} (F : FnP K "_law_is_down" "_law_is_down" s__law_is_down f fd) : FnOk P w K mg base CX0 2 f fd ["_law_vector"] (pm__law_is_down K).sp := by
  have sc := sc__law_is_down
  refine F.ok sc (fun vs H Q E h => Pm.len (fun _ => rfl) vs H Q E h) (fun cdv A outer s H vs Q E hr h => ⟨t__law_is_down K, PSs.nox ?_, Pm.go (sx__law_is_down T) vs H Q E h⟩)
  exact (pss_one (ps_ret (pe_cmpR (op_eqD hr.units) (pe_lc (own := [("_law_each", 1)]) (g := (gName 1)) (tt := (tTest (tOp (rI0 fun i j => .bl (decide (j < i))) (tCall (pm__law_sign K).sp [] E0 (tCons (tVar 1) tNil)) (tC (.int 0))))) (te := (tVar 1)) rfl sc.nd (pi_list (pv 0)) (blkOk_by (own := [("_law_each", 1)]) (N := Ns__law_is_down) (sc := defScope s__law_is_down) (by decide +kernel)) (fun _ _ _ _ _ => (pg_name (i := 1) sc.nd rfl (by first | exact Or.inl rfl | exact Or.inr rfl))) (fun _ _ _ _ _ => (pts_one (pt_cmpR op_gt (C8.pe_c c__law_sign hr (by decide) rfl (pa_cons (pv 1) pa_nil)) pe_int (nomark _)))) (fun _ _ _ _ _ => (pv 1))) (pe_lst pa_nil) (nomark _))))
abbrev s__law_pressed : Stmt := top 126
abbrev Ns__law_pressed : List Str := ["_law_ties_here", "_law_images_here", "_law_s", "_law_found", "_law_t", "_law_by", "_law_p"]
theorem sc__law_pressed : FnScope Ns__law_pressed ["_law_ties_here", "_law_images_here", "_law_s"] (defScope s__law_pressed) := ⟨rfl, rfl, rfl, by decide +kernel, rfl, by decide +kernel, by decide +kernel⟩
def t__law_pressed (K : PySem.W.Frag) : TS := (tSeq (tAsg (tLst tNil) (gName 3))
    (tSeq (tFor (iRng1 (tCons (tCB (rLenSeq K) (tCons (tVar 0) tNil)) tNil)) (gName 4) (tSeq (tAsg (tCall (pm__law_weight K).sp [] E0 (tCons (tVar 0) (tCons (tVar 2) (tCons (tVar 4) tNil)))) (gName 5))
    (tDrop (tBM K "list" rAppend (tVar 3) (tCons (tLc (iRng1 (tCons (tCB (rLenSeq K) (tCons (tVar 0) tNil)) tNil)) (gName 6) tYes (tCall (pm__law_less K).sp [] E0 (tCons (tOp (rIxL K) (tOp (rIxL K) (tVar 1) (tVar 4)) (tVar 6)) (tCons (tCall (pm__law_times K).sp [] E0 (tCons (tVar 5) (tCons (tOp (rIxL K) (tOp (rIxL K) (tVar 1) (tVar 2)) (tVar 6)) tNil))) tNil))) [6]) tNil)))))
    (tRet (tVar 3))))
theorem sx__law_pressed (T : Tx K mg) : (pm__law_pressed K).body Ns__law_pressed (t__law_pressed K) := by
  rintro ⟨X, M, s⟩ _
  dsimp only [pm__law_pressed]
  show SX _ [_, _, _, _, _, _, _] _
  have sz := X.h3
  refine q_setL (K := K) (ds := []) (exl_lst (ead_nil (K := K))) ?_
  refine q_for (fun i Γ => ∃ a b, Γ = [.kn (kd K (encT X.m)), .kn (kd K (encML M)), .kn (kd K (encF s)), .own (oL K ((fins fun t => encVL (less (M t) (X.A s t) (M s))).take i)), a, b, .un]) (iw_rangeF (ea_cons (ex_lenTi (ex_var rfl)) ea_nil)) ⟨_, _, rfl⟩ ?_ ?_
  · rintro i Γ hi ⟨a, b, rfl⟩
    refine ⟨_, _, by rw [kdAt_fin (fun t : Fin X.n => encF t) ⟨i, hi⟩]; exact gx_name, ?_⟩
    refine q_set (ex_pm (pm__law_weight K) ⟨X, s, ⟨i, hi⟩⟩ (ea_cons (ex_var rfl) (ea_cons (ex_var rfl) (ea_cons (ex_var rfl) ea_nil))) trivial) ?_
    show SX _ [_, _, _, _, _, _, _] _
    have hl : i < (fins fun t => encVL (less (M t) (X.A s t) (M s))).length := by rw [fins_len]; exact hi
    refine s_app rfl (d := encVL (less (M ⟨i, hi⟩) (X.A s ⟨i, hi⟩) (M s))) (ex_ofL (ds := fins fun p => encG (less (M ⟨i, hi⟩) (X.A s ⟨i, hi⟩) (M s) p)) (exl_lcB (iw_rangeF (ea_cons (ex_lenTi (ex_var rfl)) ea_nil)) (fun p => gx_name) fun p => ex_pm (pm__law_less K) ⟨M ⟨i, hi⟩ p, X.A s ⟨i, hi⟩ * M s p⟩ (ea_cons (ex_entL (ex_rowL (i := (⟨i, hi⟩ : Fin X.n)) (ex_var rfl) (ex_var rfl)) (ex_var rfl)) (ea_cons (ex_pm (pm__law_times K) ⟨X.A s ⟨i, hi⟩, M s p⟩ (ea_cons (ex_var rfl) (ea_cons (ex_entL (ex_rowL (ex_var rfl) (ex_var rfl)) (ex_var rfl)) ea_nil)) (A_bd X s ⟨i, hi⟩)) ea_nil)) trivial)) ?_ ?_
    · rw [List.length_take]; omega
    · have e : (fins fun t => encVL (less (M t) (X.A s t) (M s))).take (i + 1) = (fins fun t => encVL (less (M t) (X.A s t) (M s))).take i ++ [encVL (less (M ⟨i, hi⟩) (X.A s ⟨i, hi⟩) (M s))] := by
        rw [List.take_succ, fins_get _ ⟨i, hi⟩]; rfl
      dsimp only
      rw [e]
      exact ⟨_, _, rfl⟩
  · rintro Γ ⟨a, b, rfl⟩
    refine sx_frz (j := 3) rfl ?_
    show SX _ [_, _, _, _, _, _, _] _
    refine sx_ret (ex_is (ex_varL rfl) ?_)
    rw [List.take_of_length_le (by rw [fins_len]; exact Nat.le_refl _)]; rfl
theorem ok__law_pressed (T : Tx K mg) (c__law_weight : C8.Cal P w K mg base 1 "_law_weight" (pm__law_weight K).sp []) (c__law_times : C8.Cal P w K mg base 1 "_law_times" (pm__law_times K).sp []) (c__law_less : C8.Cal P w K mg base 1 "_law_less" (pm__law_less K).sp []) {f : Addr} {fd : FuncData} (F : FnP K "_law_pressed" "_law_pressed" s__law_pressed f fd) : FnOk P w K mg base CX0 2 f fd ["_law_ties_here", "_law_images_here", "_law_s"] (pm__law_pressed K).sp := by
  have sc := sc__law_pressed
  refine F.ok sc (fun vs H Q E h => Pm.len (fun _ => rfl) vs H Q E h) (fun cdv A outer s H vs Q E hr h => ⟨t__law_pressed K, PSs.nox ?_, Pm.go (sx__law_pressed T) vs H Q E h⟩)
  exact (pss_cons (ps_set (i := 3) sc.nd rfl (by first | exact Or.inl rfl | exact Or.inr rfl) (pe_lst pa_nil))
      (pss_cons (ps_for PassesOwn.never rfl (pi_range1 rfl T.range_ (pa_cons (pe_callB call_len_seq rfl T.len_ PySem.boot_len (pa_cons (pv 0) pa_nil)) pa_nil)) (pg_name (i := 4) sc.nd rfl (by first | exact Or.inl rfl | exact Or.inr rfl)) (pss_cons (ps_set (i := 5) sc.nd rfl (by first | exact Or.inl rfl | exact Or.inr rfl) (C8.pe_c c__law_weight hr (by decide) rfl (pa_cons (pv 0) (pa_cons (pv 2) (pa_cons (pv 4) pa_nil)))))
      (pss_one (ps_expr (pe_bm PySem.F.plainAttrs_list PySem.F.slot_list_append PySem.F.type_list_append mt_append (pv 3) (pa_cons (pe_lc (own := [("_law_p", 6)]) (g := (gName 6)) (tt := tYes) (te := (tCall (pm__law_less K).sp [] E0 (tCons (tOp (rIxL K) (tOp (rIxL K) (tVar 1) (tVar 4)) (tVar 6)) (tCons (tCall (pm__law_times K).sp [] E0 (tCons (tVar 5) (tCons (tOp (rIxL K) (tOp (rIxL K) (tVar 1) (tVar 2)) (tVar 6)) tNil))) tNil)))) rfl sc.nd (pi_range1 rfl T.range_ (pa_cons (pe_callB call_len_seq rfl T.len_ PySem.boot_len (pa_cons (pv 0) pa_nil)) pa_nil)) (blkOk_by (own := [("_law_p", 6)]) (N := Ns__law_pressed) (sc := defScope s__law_pressed) (by decide +kernel)) (fun _ _ _ _ _ => (pg_name (i := 6) sc.nd rfl (by first | exact Or.inl rfl | exact Or.inr rfl))) (fun _ _ _ _ _ => pts_nil) (fun _ _ _ _ _ => (C8.pe_c c__law_less hr (by decide) rfl (pa_cons (pe_ix ix_list (pe_ix ix_list (pv 1) (pv 4) (fun _ _ => rfl)) (pv 6) (fun _ _ => rfl)) (pa_cons (C8.pe_c c__law_times hr (by decide) rfl (pa_cons (pv 5) (pa_cons (pe_ix ix_list (pe_ix ix_list (pv 1) (pv 2) (fun _ _ => rfl)) (pv 6) (fun _ _ => rfl)) pa_nil))) pa_nil))))) pa_nil))))))
      (pss_one (ps_ret (pv 3)))))
abbrev s__law_key : Stmt := top 127
abbrev Ns__law_key : List Str := ["_law_images_here", "_law_row"]
theorem sc__law_key : FnScope Ns__law_key ["_law_images_here"] (defScope s__law_key) := ⟨rfl, rfl, rfl, by decide +kernel, rfl, by decide +kernel, by decide +kernel⟩
def t__law_key (K : PySem.W.Frag) : TS := (tRet (tCB (rTupOf K) (tCons (tLc (iList K (tVar 0)) (gName 1) tYes (tCB (rTupOf K) (tCons (tVar 1) tNil)) [1]) tNil)))
theorem sx__law_key (T : Tx K mg) : (pm__law_key K).body Ns__law_key (t__law_key K) := by
  rintro ⟨X, M⟩ _
  dsimp only [pm__law_key]
  show SX _ [_, _] _
  have sz := X.h3
  exact sx_ret (ex_tupL (ds := fins fun s => encV (M s)) (exl_lcB (f := fun s => encV (M s)) (iw_listF (f := fun s => encVL (M s)) (ex_var rfl)) (fun i => gx_name) fun i => ex_tupK (ds := fins fun p => encG (M i p)) (ex_var rfl)))
theorem ok__law_key (T : Tx K mg) {f : Addr} {fd : FuncData} (F : FnP K "_law_key" "_law_key" s__law_key f fd) : FnOk P w K mg base CX0 1 f fd ["_law_images_here"] (pm__law_key K).sp := by
  have sc := sc__law_key
  refine F.ok sc (fun vs H Q E h => Pm.len (fun _ => rfl) vs H Q E h) (fun cdv A outer s H vs Q E hr h => ⟨t__law_key K, PSs.nox ?_, Pm.go (sx__law_key T) vs H Q E h⟩)
  exact (pss_one (ps_ret (pe_callTy call_tuple_of rfl T.tuple_ (by decide +kernel) (pa_cons (pe_lc (own := [("_law_row", 1)]) (g := (gName 1)) (tt := tYes) (te := (tCB (rTupOf K) (tCons (tVar 1) tNil))) rfl sc.nd (pi_list (pv 0)) (blkOk_by (own := [("_law_row", 1)]) (N := Ns__law_key) (sc := defScope s__law_key) (by decide +kernel)) (fun _ _ _ _ _ => (pg_name (i := 1) sc.nd rfl (by first | exact Or.inl rfl | exact Or.inr rfl))) (fun _ _ _ _ _ => pts_nil) (fun _ _ _ _ _ => (pe_callTy call_tuple_of rfl T.tuple_ (by decide +kernel) (pa_cons (pv 1) pa_nil)))) pa_nil))))
abbrev s__law_backs : Stmt := top 128
abbrev Ns__law_backs : List Str := ["_law_images_here", "_law_s"]
theorem sc__law_backs : FnScope Ns__law_backs ["_law_images_here"] (defScope s__law_backs) := ⟨rfl, rfl, rfl, by decide +kernel, rfl, by decide +kernel, by decide +kernel⟩
def t__law_backs (K : PySem.W.Frag) : TS := (tRet (tCB (rTupOf K) (tCons (tLc (iRng1 (tCons (tCB (rLenSeq K) (tCons (tVar 0) tNil)) tNil)) (gName 1) (tB (tCall (pm__law_is_down K).sp [] E0 (tCons (tOp (rIxL K) (tVar 0) (tVar 1)) tNil))) (tVar 1) [1]) tNil)))
theorem sx__law_backs (T : Tx K mg) : (pm__law_backs K).body Ns__law_backs (t__law_backs K) := by
  rintro ⟨X, g⟩ _
  dsimp only [pm__law_backs]
  show SX _ [_, _] _
  have sz := X.h3
  exact sx_ret (ex_tupL (exl_lcT (n := X.n) (p := W.isBack g) (f := encF) (iw_rangeF (ea_cons (ex_lenM (ex_var rfl)) ea_nil)) (fun i => gx_name) (fun i => (et_B (ex_pm (pm__law_is_down K) ⟨X, g, i⟩ (ea_cons (ex_rowL (ex_var rfl) (ex_var rfl)) ea_nil) trivial))) (fun i hp => (ex_var rfl))))
theorem ok__law_backs (T : Tx K mg) (c__law_is_down : C8.Cal P w K mg base 2 "_law_is_down" (pm__law_is_down K).sp []) {f : Addr} {fd : FuncData} (F : FnP K "_law_backs" "_law_backs" s__law_backs f fd) : FnOk P w K mg base CX0 3 f fd ["_law_images_here"] (pm__law_backs K).sp := by
  have sc := sc__law_backs
  refine F.ok sc (fun vs H Q E h => Pm.len (fun _ => rfl) vs H Q E h) (fun cdv A outer s H vs Q E hr h => ⟨t__law_backs K, PSs.nox ?_, Pm.go (sx__law_backs T) vs H Q E h⟩)
  exact (pss_one (ps_ret (pe_callTy call_tuple_of rfl T.tuple_ (by decide +kernel) (pa_cons (pe_lc (own := [("_law_s", 1)]) (g := (gName 1)) (tt := (tB (tCall (pm__law_is_down K).sp [] E0 (tCons (tOp (rIxL K) (tVar 0) (tVar 1)) tNil)))) (te := (tVar 1)) rfl sc.nd (pi_range1 rfl T.range_ (pa_cons (pe_callB call_len_seq rfl T.len_ PySem.boot_len (pa_cons (pv 0) pa_nil)) pa_nil)) (blkOk_by (own := [("_law_s", 1)]) (N := Ns__law_backs) (sc := defScope s__law_backs) (by decide +kernel)) (fun _ _ _ _ _ => (pg_name (i := 1) sc.nd rfl (by first | exact Or.inl rfl | exact Or.inr rfl))) (fun _ _ _ _ _ => (pts_one (pt_val (C8.pe_c c__law_is_down hr (by decide) rfl (pa_cons (pe_ix ix_list (pv 0) (pv 1) (fun _ _ => rfl)) pa_nil))))) (fun _ _ _ _ _ => (pv 1))) pa_nil))))
abbrev s__law_taken : Stmt := top 129
abbrev Ns__law_taken : List Str := ["_law_ties_here", "_law_images_here", "_law_found", "_law_turn", "_law_backs_here"]
theorem sc__law_taken : FnScope Ns__law_taken ["_law_ties_here", "_law_images_here"] (defScope s__law_taken) := ⟨rfl, rfl, rfl, by decide +kernel, rfl, by decide +kernel, by decide +kernel⟩
def t__law_taken (K : PySem.W.Frag) : TS := (tSeq (tAsg (tLst tNil) (gName 2))
    (tSeq (tFor (iRng1 (tCons (tC (.int 400)) tNil)) (gName 3) (tSeq (tAsg (tCall (pm__law_backs K).sp [] E0 (tCons (tVar 1) tNil)) (gName 4))
    (tSeq (tIfS (tTest (tOp (rEqD K) (tVar 4) (tTup tNil))) (tRet (tVar 2)) tNext)
    (tSeq (tDrop (tBM K "list" rAppend (tVar 2) (tCons (tOp (rIxT K) (tVar 4) (tC (.int 0))) tNil)))
    (tAsg (tCall (pm__law_pressed K).sp [] E0 (tCons (tVar 0) (tCons (tVar 1) (tCons (tOp (rIxT K) (tVar 4) (tC (.int 0))) tNil)))) (gName 1))))))
    (tRet (tVar 2))))
theorem sx__law_taken (T : Tx K mg) : (pm__law_taken K).body Ns__law_taken (t__law_taken K) := by
  rintro ⟨X, g⟩ hg
  dsimp only [pm__law_taken]
  show SX _ [_, _, _, _, _] _
  have hg : W.len g ≤ 36 := hg
  refine q_setL (K := K) (ds := []) (exl_lst (ead_nil (K := K))) ?_
  refine q_for (n := 400) (fun i Γ => ∃ (h : W X.sys) (u : List (Fin X.n)) (a b : Wk.Slot), u ++ W.taken h = W.taken g ∧ W.len h + i = W.len g ∧ u.length = i ∧ Γ = [.kn (kd K (encT X.m)), .kn (kd K (encML (W.img h))), .own (oL K (u.map encF)), a, b]) (iw_rangeF (n := 400) (ea_cons (ex_int (K := K)) ea_nil) (by decide)) ⟨g, [], _, _, rfl, rfl, rfl, rfl⟩ ?_ ?_
  · rintro i Γ hi ⟨h, u, a, b, e1, e2, e3, rfl⟩
    refine ⟨_, _, by rw [kdAt_fin (fun t : Fin 400 => encF t) ⟨i, hi⟩]; exact gx_name, ?_⟩
    refine q_set (R := kd K (encW (W.backs h))) (ex_pm (pm__law_backs K) ⟨X, h⟩ (ea_cons (ex_var rfl) ea_nil) trivial) ?_
    show SX _ [_, _, _, _, _] _
    cases hb : W.backs h with
    | nil =>
      have e0 := W.taken_nil hb
      rw [e0, List.append_nil] at e1
      refine q_if (b := true) (et_is (et_test (ex_eqD (shaped_of (encW_iD _) (by decide)) (shaped_of (k := 1) rfl (by decide)) (ex_var rfl) (ex_tup (ead_nil (K := K))))) (by rw [encW, eqv_nil]; rfl)) (fun _ => ?_) (fun e => by cases e)
      refine sx_frz (j := 2) rfl ?_
      refine q_ret (ex_is (ex_varL rfl) ?_)
      rw [e1]; rfl
    | cons s r =>
      have hl := W.backs_head hb
      have ht := W.taken_cons hb
      refine q_if (b := false) (et_is (et_test (ex_eqD (shaped_of (encW_iD _) (by decide)) (shaped_of (k := 1) rfl (by decide)) (ex_var rfl) (ex_tup (ead_nil (K := K))))) (by rw [encW, eqv_nil]; rfl)) (fun e => by cases e) (fun _ => sx_pass ?_)
      refine q_app rfl (d := encF s) (ex_ixT0 (d := encF s) (ds := r.map encF) (ex_var rfl)) (by rw [List.length_map]; omega) ?_
      show SX _ [_, _, _, _, _] _
      refine s_set (ex_is (R' := kd K (encML (W.img (h * W.gen s)))) (ex_pm (pm__law_pressed K) ⟨X, W.img h, s⟩ (ea_cons (ex_var rfl) (ea_cons (ex_var rfl) (ea_cons (ex_ixT0 (d := encF s) (ds := r.map encF) (ex_var rfl)) ea_nil))) trivial) (by rw [W.img_gen]; rfl)) ?_
      refine ⟨h * W.gen s, u ++ [s], .kn (kd K (encF (⟨i, hi⟩ : Fin 400))), .kn (kd K (encW (s :: r))), by rw [← e1, ht, List.append_assoc]; rfl, by omega, by rw [List.length_append, e3]; rfl, ?_⟩
      rw [List.map_append]; rfl
  · rintro Γ ⟨h, u, a, b, e1, e2, e3, rfl⟩
    omega
theorem ok__law_taken (T : Tx K mg) (c__law_backs : C8.Cal P w K mg base 3 "_law_backs" (pm__law_backs K).sp []) (c__law_pressed : C8.Cal P w K mg base 2 "_law_pressed" (pm__law_pressed K).sp []) {f : Addr} {fd : FuncData} (F : FnP K "_law_taken" "_law_taken" s__law_taken f fd) : FnOk P w K mg base CX0 4 f fd ["_law_ties_here", "_law_images_here"] (pm__law_taken K).sp := by
  have sc := sc__law_taken
  refine F.ok sc (fun vs H Q E h => Pm.len (fun _ => rfl) vs H Q E h) (fun cdv A outer s H vs Q E hr h => ⟨t__law_taken K, PSs.nox ?_, Pm.go (sx__law_taken T) vs H Q E h⟩)
  exact (pss_cons (ps_set (i := 2) sc.nd rfl (by first | exact Or.inl rfl | exact Or.inr rfl) (pe_lst pa_nil))
      (pss_cons (ps_for PassesOwn.never rfl (pi_range1 rfl T.range_ (pa_cons pe_int pa_nil)) (pg_name (i := 3) sc.nd rfl (by first | exact Or.inl rfl | exact Or.inr rfl)) (pss_cons (ps_set (i := 4) sc.nd rfl (by first | exact Or.inl rfl | exact Or.inr rfl) (C8.pe_c c__law_backs hr (by decide) rfl (pa_cons (pv 1) pa_nil)))
      (pss_cons (ps_if (pt_cmpR (op_eqD hr.units) (pv 4) (pe_tup pa_nil) (nomark _)) (pss_one (ps_ret (pv 2))) pss_nil)
      (pss_cons (ps_expr (pe_bm PySem.F.plainAttrs_list PySem.F.slot_list_append PySem.F.type_list_append mt_append (pv 2) (pa_cons (pe_ix ix_tup (pv 4) pe_int (fun _ _ => rfl)) pa_nil)))
      (pss_one (ps_set (i := 1) sc.nd rfl (by first | exact Or.inl rfl | exact Or.inr rfl) (C8.pe_c c__law_pressed hr (by decide) rfl (pa_cons (pv 0) (pa_cons (pv 1) (pa_cons (pe_ix ix_tup (pv 4) pe_int (fun _ _ => rfl)) pa_nil))))))))))
      (pss_one (ps_ret (pv 2)))))
abbrev s__law_undone : Stmt := top 131
abbrev Ns__law_undone : List Str := ["_law_word_here"]
theorem sc__law_undone : FnScope Ns__law_undone ["_law_word_here"] (defScope s__law_undone) := ⟨rfl, rfl, rfl, by decide +kernel, rfl, by decide +kernel, by decide +kernel⟩
def t__law_undone (K : PySem.W.Frag) : TS := (tRet (WkR.tTupRevT K (tVar 0)))
theorem sx__law_undone (T : Tx K mg) : (pm__law_undone K).body Ns__law_undone (t__law_undone K) := by
  rintro ⟨n, v⟩ _
  dsimp only [pm__law_undone]
  show SX _ [_] _
  exact sx_ret (ex_is (ex_tupRevT (ex_var rfl)) (by rw [← List.map_reverse]; rfl))
theorem ok__law_undone (T : Tx K mg) {f : Addr} {fd : FuncData} (F : FnP K "_law_undone" "_law_undone" s__law_undone f fd) : FnOk P w K mg base CX0 1 f fd ["_law_word_here"] (pm__law_undone K).sp := by
  have sc := sc__law_undone
  refine F.ok sc (fun vs H Q E h => Pm.len (fun _ => rfl) vs H Q E h) (fun cdv A outer s H vs Q E hr h => ⟨t__law_undone K, PSs.nox ?_, Pm.go (sx__law_undone T) vs H Q E h⟩)
  exact (pss_one (ps_ret (WkR.pe_tupRevT rfl rfl T.tuple_ rfl T.reversed_ (pv 0))))
abbrev s__law_first : Stmt := top 130
abbrev Ns__law_first : List Str := ["_law_ties_here", "_law_word_here"]
theorem sc__law_first : FnScope Ns__law_first ["_law_ties_here", "_law_word_here"] (defScope s__law_first) := ⟨rfl, rfl, rfl, by decide +kernel, rfl, by decide +kernel, by decide +kernel⟩
def t__law_first (K : PySem.W.Frag) : TS := (tRet (tCB (rTupOf K) (tCons (tCall (pm__law_taken K).sp [] E0 (tCons (tVar 0) (tCons (tCall (pm__law_images K).sp [] E0 (tCons (tVar 0) (tCons (tCall (pm__law_undone K).sp [] E0 (tCons (tVar 1) tNil)) tNil))) tNil))) tNil)))
theorem sx__law_first (T : Tx K mg) : (pm__law_first K).body Ns__law_first (t__law_first K) := by
  rintro ⟨X, v⟩ hv
  dsimp only [pm__law_first]
  show SX _ [_, _] _
  have hv : v.length ≤ 36 := hv
  have hl : W.len (W.mk v.reverse : W X.sys) ≤ 36 := by
    have := W.len_le (S := X.sys) v.reverse
    rw [List.length_reverse] at this
    omega
  exact sx_ret (ex_tupK (ds := (W.taken (W.mk v.reverse : W X.sys)).map encF) (ex_pm (pm__law_taken K) ⟨X, W.mk v.reverse⟩ (ea_cons (ex_var rfl) (ea_cons (ex_pm (pm__law_images K) ⟨X, v.reverse⟩ (ea_cons (ex_var rfl) (ea_cons (ex_pm (pm__law_undone K) ⟨X.n, v⟩ (ea_cons (ex_var rfl) ea_nil) trivial) ea_nil)) (show v.reverse.length ≤ 1000 by rw [List.length_reverse]; omega)) ea_nil)) hl))
theorem ok__law_first (T : Tx K mg) (c__law_undone : C8.Cal P w K mg base 1 "_law_undone" (pm__law_undone K).sp []) (c__law_images : C8.Cal P w K mg base 5 "_law_images" (pm__law_images K).sp []) (c__law_taken : C8.Cal P w K mg base 4 "_law_taken" (pm__law_taken K).sp []) {f : Addr} {fd : FuncData} (F : FnP K "_law_first" "_law_first" s__law_first f fd) : FnOk P w K mg base CX0 6 f fd ["_law_ties_here", "_law_word_here"] (pm__law_first K).sp := by
  have sc := sc__law_first
  refine F.ok sc (fun vs H Q E h => Pm.len (fun _ => rfl) vs H Q E h) (fun cdv A outer s H vs Q E hr h => ⟨t__law_first K, PSs.nox ?_, Pm.go (sx__law_first T) vs H Q E h⟩)
  exact (pss_one (ps_ret (pe_callTy call_tuple_of rfl T.tuple_ (by decide +kernel) (pa_cons (C8.pe_c c__law_taken hr (by decide) rfl (pa_cons (pv 0) (pa_cons (C8.pe_c c__law_images hr (by decide) rfl (pa_cons (pv 0) (pa_cons (C8.pe_c c__law_undone hr (by decide) rfl (pa_cons (pv 1) pa_nil)) pa_nil))) pa_nil))) pa_nil))))
abbrev s__law_left : Stmt := top 132
abbrev Ns__law_left : List Str := ["_law_ties_here", "_law_word_here", "_law_told", "_law_images_here"]
theorem sc__law_left : FnScope Ns__law_left ["_law_ties_here", "_law_word_here", "_law_told"] (defScope s__law_left) := ⟨rfl, rfl, rfl, by decide +kernel, rfl, by decide +kernel, by decide +kernel⟩
def t__law_left (K : PySem.W.Frag) : TS := (tSeq (tAsg (tCall (pm__law_images K).sp [] E0 (tCons (tVar 0) (tCons (tOp (rCatA K) (tCall (pm__law_undone K).sp [] E0 (tCons (tVar 1) tNil)) (tVar 2)) tNil))) (gName 3))
    (tRet (tIf (tTest (tOp rEq (tOp (rI0 fun i j => .int (i + j)) (tCB (rLenSeq K) (tCons (tVar 1) tNil)) (tCB (rLenSeq K) (tCons (tCall (pm__law_taken K).sp [] E0 (tCons (tVar 0) (tCons (tVar 3) tNil))) tNil))) (tCB (rLenSeq K) (tCons (tVar 2) tNil)))) (tVar 3) (tC .non))))
theorem sx__law_left (T : Tx K mg) : (pm__law_left K).body Ns__law_left (t__law_left K) := by
  rintro ⟨X, v, z⟩ hv
  dsimp only [pm__law_left]
  show SX _ [_, _, _, _] _
  have hv : v.length + z.length ≤ 36 := hv
  have hl : W.len ((W.mk v : W X.sys)⁻¹ * W.mk z) ≤ 36 := by
    have h1 := W.len_mul (W.mk v : W X.sys)⁻¹ (W.mk z)
    have h2 := W.len_le (S := X.sys) v
    have h3 := W.len_le (S := X.sys) z
    rw [W.len_inv] at h1
    omega
  refine q_set (R := kd K (encML (W.img ((W.mk v : W X.sys)⁻¹ * W.mk z)))) (ex_pm (pm__law_images K) ⟨X, v.reverse ++ z⟩ (ea_cons (ex_var rfl) (ea_cons (ex_is (ex_cat (ex_pm (pm__law_undone K) ⟨X.n, v⟩ (ea_cons (ex_var rfl) ea_nil) trivial) (ex_var rfl) (by rw [List.length_map, List.length_map]; show v.reverse.length + z.length ≤ 1000; rw [List.length_reverse]; omega)) (by rw [← List.map_append]; rfl)) ea_nil)) (show (v.reverse ++ z).length ≤ 1000 by rw [List.length_append, List.length_reverse]; omega)) ?_
  show SX _ [_, _, _, _] _
  have tl := W.taken_len _ ((W.mk v : W X.sys)⁻¹ * W.mk z) rfl
  have hb : decide (((v.length : Nat) : Int) + (((W.taken ((W.mk v : W X.sys)⁻¹ * W.mk z)).length : Nat) : Int) = ((z.length : Nat) : Int)) = lft X v z := by
    unfold lft
    rw [tl]
    exact decide_eq_decide.mpr (by omega)
  exact sx_ret (ex_ifD (b := lft X v z) (et_is (et_test (ex_eqI (ex_add (ex_lenW (ex_var rfl)) (ex_lenWL (ex_pm (pm__law_taken K) ⟨X, (W.mk v : W X.sys)⁻¹ * W.mk z⟩ (ea_cons (ex_var rfl) (ea_cons (ex_var rfl) ea_nil)) hl))) (ex_lenW (ex_var rfl)))) hb) (fun _ => (ex_var rfl)) fun _ => (ex_non (K := K)))
theorem ok__law_left (T : Tx K mg) (c__law_undone : C8.Cal P w K mg base 1 "_law_undone" (pm__law_undone K).sp []) (c__law_images : C8.Cal P w K mg base 5 "_law_images" (pm__law_images K).sp []) (c__law_taken : C8.Cal P w K mg base 4 "_law_taken" (pm__law_taken K).sp []) {f : Addr} {fd : FuncData} (F : FnP K "_law_left" "_law_left" s__law_left f fd) : FnOk P w K mg base CX0 6 f fd ["_law_ties_here", "_law_word_here", "_law_told"] (pm__law_left K).sp := by
  have sc := sc__law_left
  refine F.ok sc (fun vs H Q E h => Pm.len (fun _ => rfl) vs H Q E h) (fun cdv A outer s H vs Q E hr h => ⟨t__law_left K, PSs.nox ?_, Pm.go (sx__law_left T) vs H Q E h⟩)
  exact (pss_cons (ps_set (i := 3) sc.nd rfl (by first | exact Or.inl rfl | exact Or.inr rfl) (C8.pe_c c__law_images hr (by decide) rfl (pa_cons (pv 0) (pa_cons (pe_op op_catA (C8.pe_c c__law_undone hr (by decide) rfl (pa_cons (pv 1) pa_nil)) (pv 2)) pa_nil))))
      (pss_one (ps_ret (pe_ifExp (pt_cmpR op_eq (pe_op op_add (pe_callB call_len_seq rfl T.len_ PySem.boot_len (pa_cons (pv 1) pa_nil)) (pe_callB call_len_seq rfl T.len_ PySem.boot_len (pa_cons (C8.pe_c c__law_taken hr (by decide) rfl (pa_cons (pv 0) (pa_cons (pv 3) pa_nil))) pa_nil))) (pe_callB call_len_seq rfl T.len_ PySem.boot_len (pa_cons (pv 2) pa_nil)) (nomark _)) (pv 3) pe_non))))
theorem lst_none {ds : List PyData} (N : Hp) (v : V) (h : Dp K N v (.list ds)) : decide (v = V.non) = false := by cases h; rfl
theorem eqv_nilL (ds : List PyData) : PyData.eqv (.list ds) (.list []) = ds.isEmpty := by
  cases ds <;> simp [PyData.eqv, PyData.eqvAll]
theorem shaped_WL {n : Nat} (l : List (Fin n)) : SeqAt.shaped (.list (l.map encF)) = true := by
  refine shaped_of (k := 1) ?_ (by decide)
  have := encW_iD l
  simpa only [iD, encW] using this
abbrev s__law_is_least_one : Stmt := top 133
abbrev Ns__law_is_least_one : List Str := ["_law_ties_here", "_law_word_here", "_law_other", "_law_told", "_law_one", "_law_two", "_law_s"]
theorem sc__law_is_least_one : FnScope Ns__law_is_least_one ["_law_ties_here", "_law_word_here", "_law_other", "_law_told"] (defScope s__law_is_least_one) := ⟨rfl, rfl, rfl, by decide +kernel, rfl, by decide +kernel, by decide +kernel⟩
def t__law_is_least_one (K : PySem.W.Frag) : TS := (tSeq (tAsg (tTup (tCons (tCall (pm__law_left K).sp [] E0 (tCons (tVar 0) (tCons (tVar 1) (tCons (tVar 3) tNil)))) (tCons (tCall (pm__law_left K).sp [] E0 (tCons (tVar 0) (tCons (tVar 2) (tCons (tVar 3) tNil)))) tNil))) (gTup K 2 (gCons (gName 4) (gCons (gName 5) gNil))))
    (tSeq (tIfS (tOr (tB (tIsN (tVar 4))) (tB (tIsN (tVar 5)))) (tRet (tC (.bl false))) tNext)
    (tRet (tOp (rEqD K) (tLc (iTup K (tCall (pm__law_backs K).sp [] E0 (tCons (tVar 4) tNil))) (gName 6) (tTest (tOp (rIn K false) (tVar 6) (tCall (pm__law_backs K).sp [] E0 (tCons (tVar 5) tNil)))) (tVar 6) [6]) (tLst tNil)))))
theorem sx__law_is_least_one (T : Tx K mg) : (pm__law_is_least_one K).body Ns__law_is_least_one (t__law_is_least_one K) := by
  rintro ⟨X, v, u, z⟩ ⟨hv, hu⟩
  dsimp only [pm__law_is_least_one]
  show SX _ [_, _, _, _, _, _, _] _
  have hv : v.length + z.length ≤ 36 := hv
  have hu : u.length + z.length ≤ 36 := hu
  have sz := X.h3
  refine q_asg (ex_tup (ds := [lftD X v z, lftD X u z]) (ead_cons (ex_pm (pm__law_left K) ⟨X, v, z⟩ (ea_cons (ex_var rfl) (ea_cons (ex_var rfl) (ea_cons (ex_var rfl) ea_nil))) hv) (ead_cons (ex_pm (pm__law_left K) ⟨X, u, z⟩ (ea_cons (ex_var rfl) (ea_cons (ex_var rfl) (ea_cons (ex_var rfl) ea_nil))) hu) ead_nil))) (gx_tup (gxs_cons gx_name (gxs_cons gx_name gxs_nil))) ?_
  show SX _ [_, _, _, _, _, _, _] _
  unfold lftD least1
  cases h1 : lft X v z with
  | false =>
    refine q_if (b := true) (et_is (et_or (a := true) (b := true) (et_B (ex_isN true non_none (ex_var rfl))) fun e => by cases e) rfl) (fun _ => ?_) (fun e => by cases e)
    exact q_ret (ex_bl (K := K))
  | true =>
    cases h2 : lft X u z with
    | false =>
      refine q_if (b := true) (et_is (et_or (a := false) (b := true) (et_B (ex_isN false lst_none (ex_var rfl))) fun _ => (et_B (ex_isN true non_none (ex_var rfl)))) rfl) (fun _ => ?_) (fun e => by cases e)
      exact q_ret (ex_bl (K := K))
    | true =>
      refine q_if (b := false) (et_is (et_or (a := false) (b := false) (et_B (ex_isN false lst_none (ex_var rfl))) fun _ => (et_B (ex_isN false lst_none (ex_var rfl)))) rfl) (fun e => by cases e) (fun _ => sx_pass ?_)
      have bl := (List.length_filter_le (W.isBack ((W.mk v : W X.sys)⁻¹ * W.mk z)) (List.finRange X.n))
      rw [List.length_finRange] at bl
      have bl2 : (W.backs ((W.mk v : W X.sys)⁻¹ * W.mk z)).length ≤ 3 := Nat.le_trans bl sz
      refine sx_ret (ex_is (ex_eqD (shaped_WL ((W.backs ((W.mk v : W X.sys)⁻¹ * W.mk z)).filter fun s => decide (s ∈ W.backs ((W.mk u : W X.sys)⁻¹ * W.mk z)))) rfl (ex_is (ex_ofL (exl_lcT (n := (W.backs ((W.mk v : W X.sys)⁻¹ * W.mk z)).length) (p := fun i => decide ((W.backs ((W.mk v : W X.sys)⁻¹ * W.mk z))[i] ∈ W.backs ((W.mk u : W X.sys)⁻¹ * W.mk z))) (f := fun i => encF (W.backs ((W.mk v : W X.sys)⁻¹ * W.mk z))[i]) (iw_wordF (ex_pm (pm__law_backs K) ⟨X, (W.mk v : W X.sys)⁻¹ * W.mk z⟩ (ea_cons (ex_var rfl) ea_nil) trivial)) (fun i => gx_name) (fun i => (et_test (ex_inW (ex_var rfl) (ex_pm (pm__law_backs K) ⟨X, (W.mk u : W X.sys)⁻¹ * W.mk z⟩ (ea_cons (ex_var rfl) ea_nil) trivial)))) (fun i hp => (ex_var rfl)) (Nat.le_trans bl2 (by decide)))) (congrArg (fun l => kd K (.list l)) (fins_filter (W.backs ((W.mk v : W X.sys)⁻¹ * W.mk z)) fun s => decide (s ∈ W.backs ((W.mk u : W X.sys)⁻¹ * W.mk z))))) (ex_ofL (exl_lst (ead_nil (K := K))))) ?_)
      rw [eqv_nilL]
      unfold apart
      rw [List.isEmpty_map]
      rfl
theorem ok__law_is_least_one (T : Tx K mg) (c__law_left : C8.Cal P w K mg base 6 "_law_left" (pm__law_left K).sp []) (c__law_backs : C8.Cal P w K mg base 3 "_law_backs" (pm__law_backs K).sp []) {f : Addr} {fd : FuncData} (F : FnP K "_law_is_least_one" "_law_is_least_one" s__law_is_least_one f fd) : FnOk P w K mg base CX0 7 f fd ["_law_ties_here", "_law_word_here", "_law_other", "_law_told"] (pm__law_is_least_one K).sp := by
  have sc := sc__law_is_least_one
  refine F.ok sc (fun vs H Q E h => Pm.len (fun _ => rfl) vs H Q E h) (fun cdv A outer s H vs Q E hr h => ⟨t__law_is_least_one K, PSs.nox ?_, Pm.go (sx__law_is_least_one T) vs H Q E h⟩)
  exact (pss_cons (ps_asg (pe_tup (pa_cons (C8.pe_c c__law_left hr (by decide) rfl (pa_cons (pv 0) (pa_cons (pv 1) (pa_cons (pv 3) pa_nil)))) (pa_cons (C8.pe_c c__law_left hr (by decide) rfl (pa_cons (pv 0) (pa_cons (pv 2) (pa_cons (pv 3) pa_nil)))) pa_nil))) (pg_tup rfl (pgs_cons (pg_name (i := 4) sc.nd rfl (by first | exact Or.inl rfl | exact Or.inr rfl)) (pgs_cons (pg_name (i := 5) sc.nd rfl (by first | exact Or.inl rfl | exact Or.inr rfl)) pgs_nil))))
      (pss_cons (ps_if (PW.pt (pw_or (pt_cmp (pc_isN (pv 4))) (pw_or1 (pt_cmp (pc_isN (pv 5)))))) (pss_one (ps_ret pe_bl)) pss_nil)
      (pss_one (ps_ret (pe_cmpR (op_eqD hr.units) (pe_lc (own := [("_law_s", 6)]) (g := (gName 6)) (tt := (tTest (tOp (rIn K false) (tVar 6) (tCall (pm__law_backs K).sp [] E0 (tCons (tVar 5) tNil))))) (te := (tVar 6)) rfl sc.nd (pi_tup (C8.pe_c c__law_backs hr (by decide) rfl (pa_cons (pv 4) pa_nil))) (blkOk_by (own := [("_law_s", 6)]) (N := Ns__law_is_least_one) (sc := defScope s__law_is_least_one) (by decide +kernel)) (fun _ _ _ _ _ => (pg_name (i := 6) sc.nd rfl (by first | exact Or.inl rfl | exact Or.inr rfl))) (fun _ _ _ _ _ => (pts_one (pt_cmpR op_in_seq (pv 6) (C8.pe_c c__law_backs hr (by decide) rfl (pa_cons (pv 5) pa_nil)) (by with_unfolding_all rfl)))) (fun _ _ _ _ _ => (pv 6))) (pe_lst pa_nil) (nomark _))))))
end
end Wk
namespace Wk
open PySem L2
/-! ### what is known but for a choice -/
def kExP {ι : Type} (P : ι → Prop) (R : ι → Kn) : Kn := ⟨fun N v => ∃ x, P x ∧ (R x).p N v, fun N N' v e ⟨x, h1, h2⟩ => ⟨x, h1, (R x).mo _ _ _ e h2⟩⟩
section
variable {K : PySem.W.Frag} {Γ : List Wk.Slot} {R Ra Rb : Kn} {te ta tb : TE} {targ : TA} {P : Post} {t u : TS} {ι : Type} {C : ι → Prop} {Rx : ι → Kn}
theorem Stt.same {F : Hp} {B : Addr → Prop} {σ : St} {N H : Hp} (S : Stt F B Γ σ N H) {i : Nat} {v : V} (h : σ[i]? = some (some v)) {R' : Kn} (r : R'.p N v) : Stt F B (Γ.set i (.kn R')) σ N H := by
  have S2 := S.set i r
  have e : σ.set i (some v) = σ := List.ext_getElem? fun j => by
    by_cases q : i = j
    · subst q
      rw [List.getElem?_set_self (List.getElem?_eq_some_iff.mp h).1, h]
    · rw [List.getElem?_set_ne q]
  rwa [e] at S2
theorem sx_exi {j : Nat} (h : Γ[j]? = some (.kn (kExP C Rx))) (k : ∀ x, C x → SX t (Γ.set j (.kn (Rx x))) P) : SX t Γ P := fun F B σ N H D S f => by
  obtain ⟨v, e, x, hx, r⟩ := S.kn h
  exact k x hx F B σ N H D (S.same e r) f
theorem ex_toEx (x : ι) (hx : C x) (h : EX te Γ (Rx x)) : EX te Γ (kExP C Rx) := ex_weak h fun N v r => ⟨x, hx, r⟩
/-- a call whose arguments are known but for a choice -/
theorem ex_pmE {E : XK} {Rs : List Kn} (p : Pm) (ha : EA targ Γ Rs) (h : ∀ N vs, All2 N Rs vs → ∃ i, p.pre i ∧ All2 N (p.args i) vs ∧ ∀ v N', Ex N N' → (p.res i).p N' v → R.p N' v) : EX (tCall p.sp [] E targ) Γ R := fun F B σ N H Q S k =>
  ha F B σ N H _ S fun vs N1 H1 S1 e1 r1 => by
    obtain ⟨i, hp, h2, h3⟩ := h N1 vs r1
    exact ⟨i, N1, S1.sub, hp, by rw [List.append_nil]; exact h2, fun v N2 H2 a1 a2 a3 a4 r2 => k v N2 H2 (S1.grow a2 a1 a3 a4) (e1.trans a2) (h3 v N2 a2 r2)⟩
theorem ex_pmHE {E : XK} {j : Nat} {γ0 : Wk.Slot} {Rs : List Kn} {O : Oc} (P : PmH) (ha : EAH targ Γ P.k j Rs) (hj : Γ[j]? = some γ0) (g0 : γ0 = .own O ∨ γ0 = .hel O) (hO : ∀ i, P.oc i = O ∧ P.oc' i = O)
    (h : ∀ N vs, All2 N Rs vs → ∃ i, P.pre i ∧ All2 N (P.args i) vs ∧ ∀ v N', Ex N N' → (P.res i).p N' v → R.p N' v) : EX (tCall P.sp [] E targ) Γ R := fun F B σ N H Q S k =>
  ha F B σ N H _ S fun vs N1 H1 v S1 e1 r1 q1 q2 => by
    have hh : γ0.holds = true := by rcases g0 with g | g <;> rw [g] <;> rfl
    obtain ⟨p, u, O2, z1, z2, z3, z4, z5, z6⟩ := S1.held hj hh
    rw [q2] at z1; cases z1
    have eO : O2 = O := by rcases g0 with g | g <;> subst g <;> rcases z2 with z | z <;> cases z <;> rfl
    subst eO
    obtain ⟨i, hp, h2, h3⟩ := h N1 vs r1
    obtain ⟨o1, o2⟩ := hO i
    rw [List.append_nil]
    refine ⟨i, N1, p, u, S1.sub, hp, h2, q1, z4, z5, by rw [o1]; exact z6, fun v N2 H2 u' a1 a2 a3 a4 a5 a6 r2 => ?_⟩
    rw [o2] at a6
    exact k v N2 H2 (S1.past hj g0 q2 a1 a2 a3 a4 a5 a6) (e1.trans a2) (h3 v N2 a2 r2)
/-! ### lists with such items -/
def EXLp (K : PySem.W.Frag) (te : TE) (Γ : List Wk.Slot) (C : List PyData → Prop) : Prop := ∀ F B σ N H Q, Stt F B Γ σ N H → (∀ p N' H' vs ds, C ds → Stt F B Γ σ N' H' → Ex N N' → H' p = some (.lst vs) → DpAll K N' vs ds → N' p = none → F p = none → ¬ B p →
  (∀ (j : Nat) (γ : Wk.Slot) (q : Addr), Γ[j]? = some γ → γ.holds = true → σ[j]? = some (some (.ref q)) → q ≠ p) → Q (.ref p) H') → te σ H Q
theorem ex_tupLp {C : List PyData → Prop} (h : EXLp K te Γ C) : EX (tCB (rTupOf K) (tCons te tNil)) Γ (kExP C fun ds => kd K (.tuple ds)) := fun F B σ N H Q S k =>
  h F B σ N H _ S fun p N1 H1 vs ds hc S1 e1 hp r1 n1 f1 b1 d1 => ⟨p, vs, rfl, .inl ⟨SqL.of hp, fun l hl => k _ _ _ (S1.new hl) (e1.trans (Ex.new (S1.sub.none hl))) ⟨ds, hc, dp_newT r1 (S1.sub.none hl)⟩⟩⟩
theorem q_setLp {i : Nat} {C : List PyData → Prop} (h : EXLp K te Γ C) (k : ∀ ds, C ds → SX u (Γ.set i (.own (oL K ds))) P) : SX (tSeq (tAsg te (gName i)) u) Γ P := fun F B σ N H D S f =>
  h F B σ N H _ S fun p N1 H1 vs ds hc S1 _ hp r n1 f1 b1 d1 => k ds hc F B _ N1 H1 D (S1.setOwn i f1 n1 b1 hp ⟨vs, rfl, r⟩ d1) f
def IXE (wi : TI) (Γ : List Wk.Slot) (C : Nat → (Nat → Kn) → Prop) : Prop := ∀ F B σ N H (Q : It → Hp → Prop), Stt F B Γ σ N H → (∀ J N' H' n R, C n R → Stt F B Γ σ N' H' → Ex N N' → Src J n N' R → Q J H') → wi σ H Q
theorem IX.toE {wi : TI} {n : Nat} {R : Nat → Kn} (h : IX wi Γ n R) : IXE wi Γ (fun n' R' => n' = n ∧ R' = R) := fun F B σ N H Q S k => h F B σ N H Q S fun J N1 H1 S1 e1 src => k J N1 H1 n R ⟨rfl, rfl⟩ S1 e1 src
theorem ixe_range {C : Nat → Prop} (h : EA targ Γ [kExP C fun d : Nat => kd K (.int (d : Int))]) (hn : ∀ d, C d → d ≤ 1000) : IXE (iRng1 targ) Γ (fun n R => C n ∧ R = fun i : Nat => kd K (.int (i : Int))) := fun F B σ N H Q S k =>
  h F B σ N H _ S fun vs N1 H1 S1 e1 r1 => by
    match vs, r1 with
    | [v], r1 =>
      obtain ⟨d, hd, r2⟩ := r1.1
      have r2 : Dp K N1 v (.int (d : Int)) := r2
      have := hn d hd
      cases r2
      refine ⟨(d : Int), rfl, by omega, by omega, k _ N1 H1 d _ ⟨hd, rfl⟩ S1 e1 ⟨fun i H2 hi e => by show i < (d : Int).toNat; omega, fun H2 e => by show (d : Int).toNat ≤ d; omega, fun i H2 x H3 hi y F B Γ σ N2 e2 S2 => ?_⟩⟩
      obtain ⟨rfl, rfl⟩ := y
      exact ⟨N2, S2, Ex.refl _, by rw [Int.zero_add]; exact .int _⟩
theorem exl_lcE {wi : TI} {g : TG} {vs js : List Nat} {C : Nat → (Nat → Kn) → Prop} (Qd : PyData → Prop) (h : IXE wi Γ C) (hn : ∀ n R, C n R → n ≤ 1000) (hv : ∀ i ∈ vs, ∀ γ, Γ[i]? = some γ → γ.holds = false) (hj : ∀ j ∈ js, j ∈ vs)
    (hb : ∀ n R, C n R → ∀ i, i < n → ∃ Γi, wipeΓ Γi vs = wipeΓ Γ vs ∧ GX g (R i) (wipeΓ Γ vs) Γi js ∧ EX te Γi (kExP Qd (kd K))) :
    EXLp K (tLc wi g tYes te vs) Γ (fun ds => (∃ R, C ds.length R) ∧ ∀ d ∈ ds, Qd d) := fun F B σ N H Q S k =>
  h F B σ N H _ S fun J N1 H1 n R hC S1 e1 src D hD => by
    have hn' := hn n R hC
    refine ⟨fun i m H => m = n - i ∧ i ≤ n ∧ ∃ N' acc ds, Ex N1 N' ∧ Stt (upd F D (.lst acc)) (fun a => B a ∨ a = D) (wipeΓ Γ vs) (wipe σ vs) N' H ∧ DpAll K N' acc ds ∧ ds.length = i ∧ ∀ d ∈ ds, Qd d, ⟨n, by omega, Nat.zero_le _, N1, [], [], Ex.refl _, (S1.take hD).wipe vs, .nil, rfl, fun d hd => by cases hd⟩, ?_⟩
    rintro i m H2 ⟨rfl, hi, N2, acc, ds, e2, S2, r2, hl, hq⟩
    by_cases hlt : i < n
    · refine .inr ⟨src.go i H2 hlt (e2.trans S2.sub), fun H => ∃ N' acc ds, Ex N1 N' ∧ Stt (upd F D (.lst acc)) (fun a => B a ∨ a = D) (wipeΓ Γ vs) (wipe σ vs) N' H ∧ DpAll K N' acc ds ∧ ds.length = i + 1 ∧ ∀ d ∈ ds, Qd d, fun H' q => ⟨n - (i + 1), by omega, rfl, hlt, q⟩, fun x H3 y => ?_⟩
      obtain ⟨N3, S3, e3, r3⟩ := src.yl i H2 x H3 hlt y _ _ _ _ N2 e2 S2
      obtain ⟨Γi, hw, hg, he⟩ := hb n R hC i hlt
      refine hg _ _ (wipe σ vs) N3 H3 x _ S3 r3 fun σ4 S4 w4 => ?_
      have w5 : wipe σ4 vs = wipe σ vs := by rw [w4 vs hj, wipe_wipe]
      refine ⟨w5, ?_⟩
      refine he _ _ σ4 N3 H3 _ S4 fun v N6 H6 S6 e6 r6 => ?_
      obtain ⟨d, hd, r6⟩ := r6
      have hacc : H6 D = some (.lst acc) := S6.fr D _ upd_same
      have S7 := (S6.put (u' := .lst (acc ++ [v])) (.inr rfl)).wipe vs
      rw [w5, hw] at S7
      refine ⟨acc, hacc, ?_, N6, acc ++ [v], ds ++ [d], (e2.trans e3).trans e6, S7, dpAll_snoc (dpAll_mono (e3.trans e6) _ _ r2) r6, by rw [List.length_append, hl]; rfl, fun x hx => ?_⟩
      · have l1 := dpAll_len r2
        exact Nat.lt_of_lt_of_le (by omega : acc.length < 1001) (by decide)
      · rcases List.mem_append.mp hx with q | q
        · exact hq x q
        · rw [List.mem_singleton.mp q]; exact hd
    · have e : i = n := by omega
      subst e
      have S3 := S1.unwipe hD e2 S2 hv
      refine .inl ⟨src.stop H2 (e2.trans S2.sub), k D N2 H2 acc ds ⟨⟨R, by rw [hl]; exact hC⟩, hq⟩ S3 (e1.trans e2) (S2.fr D _ upd_same) r2 (S2.bl D (.inr rfl)) (S1.fr.none hD) (fun b => S1.bh D b hD) fun j γ q h1 h2 h3 z => ?_⟩
      exact S1.apart hD j γ q h1 h2 h3 z
end
/-! ### a def that hands back a new object -/
structure PmN where
  ι : Type
  pre : ι → Prop
  args : ι → List Kn
  oc : ι → Oc
def PmN.sp (P : PmN) : Sp := fun vs H Q _ => ∃ (i : P.ι) (N : Hp), Ex N H ∧ P.pre i ∧ All2 N (P.args i) vs ∧ ∀ p u N' H', Ex H H' → Ex N N' → Ex N' H' → (∀ a, H a ≠ none → N a = none → N' a = none) → H' p = some u → (P.oc i).p N' u → N' p = none → H p = none → Q (.ref p) H'
structure FitsN (F : Hp) (B : Addr → Prop) (O : Oc) (D : Ends) : Prop where
  rt : ∀ Γ σ N H p u, Stt F B Γ σ N H → H p = some u → O.p N u → N p = none → F p = none → ¬ B p → D.rt (.ref p) H
def SXN (t : TS) (Γ : List Wk.Slot) (O : Oc) : Prop := ∀ F B σ N H D, Stt F B Γ σ N H → FitsN F B O D → t D σ H
def kNever : Kn := ⟨fun _ _ => False, fun _ _ _ _ h => h⟩
theorem sxn_seq {t u : TS} {Γ : List Wk.Slot} {O : Oc} (M : List Wk.Slot → Prop) (h : SX t Γ { nx := M, rt := fun _ => kNever }) (k : ∀ Γ', M Γ' → SXN u Γ' O) : SXN (tSeq t u) Γ O := fun F B σ N H D S f =>
  h F B σ N H { D with nx := u D } S ⟨fun Γ' σ' N' H' m S' => k Γ' m F B σ' N' H' D S' f, fun _ _ _ _ _ _ r => r.elim, fun _ _ _ _ z => z.elim, fun _ _ _ _ z => z.elim⟩
theorem sxn_ret {K : PySem.W.Frag} {te : TE} {Γ : List Wk.Slot} {ds : List PyData} (h : EXL K te Γ ds) : SXN (tRet te) Γ (oL K ds) := fun F B σ N H D S f =>
  h F B σ N H _ S fun p N1 H1 vs S1 _ hp r n1 f1 b1 d1 => f.rt Γ σ N1 H1 p _ S1 hp ⟨vs, rfl, r⟩ n1 f1 b1
theorem SXN.weak {t : TS} {Γ : List Wk.Slot} {O O' : Oc} (h : SXN t Γ O) (e : ∀ N u, O.p N u → O'.p N u) : SXN t Γ O' := fun F B σ N H D S f => h F B σ N H D S ⟨fun Γ σ N H p u S a b c d g => f.rt Γ σ N H p u S a (e N u b) c d g⟩
theorem PmN.go {P : PmN} {names : List Str} {t : TS} (h : ∀ i, P.pre i → SXN t (startΓ names (P.args i)) (P.oc i)) (vs : List V) (H : Hp) (Q : VK) (E : XK) (hs : P.sp vs H Q E) : t { nx := fun _ H' => Q .non H', rt := Q } (L2.start names vs) H := by
  obtain ⟨i, N, e, hp, ha, k⟩ := hs
  refine h i hp _ _ _ N H _ (stt_start e ha) ⟨fun Γ σ N' H' p u S a b c d g => ?_⟩
  have n0 : N p = none := e.none d
  exact k p u (cup N' N) H' S.fr (cup_r S.sub (e.trans S.fr)) (cup_sub S.sub (e.trans S.fr)) (fun a h1 h2 => cup_none (S.bl a ⟨h1, h2⟩) h2) a ((P.oc i).mo _ _ _ cup_l b) (cup_none c n0) d
theorem PmN.len {P : PmN} {n : Nat} (h : ∀ i, (P.args i).length = n) (vs : List V) (H : Hp) (Q : VK) (E : XK) (hs : P.sp vs H Q E) : vs.length = n := by
  obtain ⟨i, N, e, hp, ha, k⟩ := hs
  rw [ha.len, h i]
/-! ### the pot: a list of three ints -/
def oP (a b c : Int) : Oc := ⟨fun _ u => u = .lst [.int a, .int b, .int c], fun _ _ _ _ h => h⟩
def oPot : Oc := ⟨fun _ u => ∃ a b c : Int, u = .lst [.int a, .int b, .int c], fun _ _ _ _ h => h⟩
theorem sx_pot {t : TS} {Γ : List Wk.Slot} {P : Post} {j : Nat} (h : Γ[j]? = some (.hel oPot)) (k : ∀ a b c, SX t (Γ.set j (.hel (oP a b c))) P) : SX t Γ P := fun F B σ N H D S f => by
  obtain ⟨p, u, e, a, b, c, d, x, y, z, r⟩ := S.helS h
  refine k x y z F B σ N H D (S.hold e a b c d r fun i γ q hij hg hh ho z => ?_) f
  subst z
  exact S.ap i j γ _ q hij hg h hh rfl ho e
theorem oP_pot {a b c : Int} : ∀ N u, (oP a b c).p N u → oPot.p N u := fun N u h => ⟨a, b, c, h⟩
theorem ex_pot {te : TE} {Γ : List Wk.Slot} {R : Kn} {j : Nat} (h : Γ[j]? = some (.hel oPot)) (k : ∀ a b c, EX te (Γ.set j (.hel (oP a b c))) R) : EX te Γ R := fun F B σ N H Q S cc => by
  obtain ⟨p, u, e, a, b, c, d, x, y, z, r⟩ := S.helS h
  have hj : j < Γ.length := (List.getElem?_eq_some_iff.mp h).1
  have S1 : Stt F B (Γ.set j (.hel (oP x y z))) σ N H := S.hold e a b c d r fun i γ q hij hg hh ho z => by
    subst z
    exact S.ap i j γ _ q hij hg h hh rfl ho e
  refine k x y z F B σ N H Q S1 fun v N' H' S' e' r' => cc v N' H' ?_ e' r'
  have h2 : (Γ.set j (.hel (oP x y z)))[j]? = some (.hel (oP x y z)) := List.getElem?_set_self hj
  obtain ⟨p', u', e2, a', b', c', d', r2⟩ := S'.helS h2
  have S3 := S'.hold (k := j) (O := oPot) e2 a' b' c' d' ⟨x, y, z, r2⟩ fun i γ q hij hg hh ho z => by
    subst z
    exact S'.ap i j γ _ q hij hg h2 hh rfl ho e2
  rw [List.set_set] at S3
  have eΓ : Γ.set j (.hel oPot) = Γ := List.ext_getElem? fun i => by
    by_cases q : j = i
    · subst q; rw [List.getElem?_set_self hj, h]
    · rw [List.getElem?_set_ne q]
  rwa [eΓ] at S3
section
variable {K : PySem.W.Frag} {Γ : List Wk.Slot} {P : Post} {u : TS} {j : Nat} {a b c m : Int} {te tm : TE}
theorem ex_ixP {i : Int} {x : Int} (h : Γ[j]? = some (.hel (oP a b c))) (hi : atI [a, b, c] i = some x) : EX (tOp (rIxL K) (tVar j) (tC (.int i))) Γ (kd K (.int x)) := fun F B σ N H Q S k => by
  obtain ⟨p, uo, e, _, _, _, hp, r⟩ := S.helS h
  cases r
  have hx : atI [V.int a, V.int b, V.int c] i = some (.int x) := by
    unfold atI at hi ⊢
    cases q : ixN ([a, b, c] : List Int).length i with
    | none => rw [q] at hi; cases hi
    | some n =>
      rw [q] at hi
      have q2 : ixN ([V.int a, V.int b, V.int c] : List V).length i = some n := q
      have hi : ([a, b, c] : List Int)[n]? = some x := hi
      have : ([V.int a, V.int b, V.int c] : List V)[n]? = (([a, b, c] : List Int)[n]?).map V.int := by rw [← List.getElem?_map]; rfl
      show ([V.int a, V.int b, V.int c] : List V)[n]? = _
      rw [this, hi]; rfl
  exact ⟨_, e, p, _, i, _, rfl, rfl, SqL.of hp, hx, k _ N H S (Ex.refl N) (.int x)⟩
abbrev rDm : List V → Hp → VK → Prop := fun xs H Q => ∃ i j, xs = [.int i, .int j] ∧ CDiv i j ∧ ∀ p, H p = none → Q (.ref p) (upd H p (.tup [.int (i / j), .int (i % j)]))
/-- pot[0], x = divmod(pot[0], many) -/
theorem q_dm {l : Nat} (h : Γ[j]? = some (.hel (oP a b c))) (hm : EX tm Γ (kd K (.int m))) (h1 : 0 < m) (h2 : m < 1073741824) (k : SX u ((Γ.set j (.hel (oP (a / m) b c))).set l (.kn (kd K (.int (a % m))))) P) :
    SX (tSeq (tAsg (tCB rDm (tCons (tOp (rIxL K) (tVar j) (tC (.int 0))) (tCons tm tNil))) (gTup K 2 (gCons (gSub (tVar j) (tC (.int 0)) rSetL) (gCons (gName l) gNil)))) u) Γ P := fun F B σ N H D S f =>
  ex_ixP (i := 0) h rfl F B σ N H _ S fun v N1 H1 S1 e1 r1 => hm F B σ N1 H1 _ S1 fun w N2 H2 S2 e2 r2 => by
    cases r1; cases r2
    refine ⟨a, m, rfl, ⟨h1, h2⟩, fun p hp => ?_⟩
    have S3 := S2.new (o := .tup [.int (a / m), .int (a % m)]) hp
    obtain ⟨q, uo, e, _, _, _, hq, r⟩ := S3.helS h
    cases r
    refine ⟨p, _, rfl, SqT.of upd_same, rfl, _, _, rfl, ?_⟩
    refine ⟨_, e, q, _, 0, 0, rfl, rfl, hq, rfl, ?_⟩
    refine ⟨_, _, rfl, rfl, ?_⟩
    exact k F B _ _ _ D ((S3.writeH (O' := oP (a / m) b c) h e rfl).set l (.int _)) f
/-- pot[1] = x, pot[2] = x -/
theorem q_put1 {x : Int} (h : Γ[j]? = some (.hel (oP a b c))) (hx : EX te Γ (kd K (.int x))) (k : SX u (Γ.set j (.hel (oP a x c))) P) : SX (tSeq (tAsg te (gSub (tVar j) (tC (.int 1)) rSetL)) u) Γ P := fun F B σ N H D S f =>
  hx F B σ N H _ S fun v N1 H1 S1 e1 r1 => by
    cases r1
    obtain ⟨q, uo, e, _, _, _, hq, r⟩ := S1.helS h
    cases r
    exact ⟨_, e, q, _, 1, 1, rfl, rfl, hq, rfl, k F B _ _ _ D (S1.writeH (O' := oP a x c) h e rfl) f⟩
theorem q_put2 {x : Int} (h : Γ[j]? = some (.hel (oP a b c))) (hx : EX te Γ (kd K (.int x))) (k : SX u (Γ.set j (.hel (oP a b x))) P) : SX (tSeq (tAsg te (gSub (tVar j) (tC (.int 2)) rSetL)) u) Γ P := fun F B σ N H D S f =>
  hx F B σ N H _ S fun v N1 H1 S1 e1 r1 => by
    cases r1
    obtain ⟨q, uo, e, _, _, _, hq, r⟩ := S1.helS h
    cases r
    exact ⟨_, e, q, _, 2, 2, rfl, rfl, hq, rfl, k F B _ _ _ D (S1.writeH (O' := oP a b x) h e rfl) f⟩
abbrev rAbs : List V → Hp → VK → Prop := fun xs H Q => ∃ i, xs = [.int i] ∧ Q (.int (if i < 0 then -i else i)) H
abbrev rMax2 : List V → Hp → VK → Prop := fun xs H Q => ∃ i j, xs = [.int i, .int j] ∧ Q (.int (if j > i then j else i)) H
abbrev rMin2 : List V → Hp → VK → Prop := fun xs H Q => ∃ i j, xs = [.int i, .int j] ∧ Q (.int (if j < i then j else i)) H
theorem ex_abs (h : EX te Γ (kd K (.int a))) : EX (tCB rAbs (tCons te tNil)) Γ (kd K (.int (if a < 0 then -a else a))) := fun F B σ N H Q S k =>
  h F B σ N H _ S fun v N1 H1 S1 e1 r1 => by
    cases r1; exact ⟨a, rfl, k _ N1 H1 S1 e1 (.int _)⟩
theorem ex_max2 (h : EX te Γ (kd K (.int a))) (h' : EX tm Γ (kd K (.int b))) : EX (tCB rMax2 (tCons te (tCons tm tNil))) Γ (kd K (.int (if b > a then b else a))) := fun F B σ N H Q S k =>
  h F B σ N H _ S fun v N1 H1 S1 e1 r1 => h' F B σ N1 H1 _ S1 fun w N2 H2 S2 e2 r2 => by
    cases r1; cases r2; exact ⟨a, b, rfl, k _ N2 H2 S2 (e1.trans e2) (.int _)⟩
theorem ex_min2 (h : EX te Γ (kd K (.int a))) (h' : EX tm Γ (kd K (.int b))) : EX (tCB rMin2 (tCons te (tCons tm tNil))) Γ (kd K (.int (if b < a then b else a))) := fun F B σ N H Q S k =>
  h F B σ N H _ S fun v N1 H1 S1 e1 r1 => h' F B σ N1 H1 _ S1 fun w N2 H2 S2 e2 r2 => by
    cases r1; cases r2; exact ⟨a, b, rfl, k _ N2 H2 S2 (e1.trans e2) (.int _)⟩
theorem ex_pow (h : EX te Γ (kd K (.int a))) (h' : EX tm Γ (kd K (.int b))) (hc : CPow a b := by exact ⟨by decide, by decide, by decide⟩) : EX (tOp (rI CPow fun i j => .int (i ^ j.toNat)) te tm) Γ (kd K (.int (a ^ b.toNat))) := ex_op h h' (opr_I hc fun _ => .int _)
end
/-- a number below m -/
abbrev kLt (K : PySem.W.Frag) (m : Nat) : Kn := kExP (fun d : Nat => d < m) fun d => kd K (.int (d : Int))
/-- the whole numbers of a script -/
abbrev kScript (K : PySem.W.Frag) (ns : List Int) : Kn := kd K (.list (ns.map .int))
abbrev pm__law_pot (K : PySem.W.Frag) : PmN := ⟨List Int × Nat, fun i => i.2 ≤ 3 ∧ i.1.length ≤ 63, fun i => [kScript K i.1, kd K (.int (i.2 : Int))], fun _ => oPot⟩
abbrev pm__law_take (K : PySem.W.Frag) : PmH := ⟨Nat, fun m => 0 < m ∧ m ≤ 1000, 0, fun m => [kAny, kd K (.int (m : Int))], fun _ => oPot, fun _ => oPot, fun m => kLt K m⟩
/-- one of these -/
abbrev kOne (K : PySem.W.Frag) (ds : List PyData) : Kn := kExP (fun d => d ∈ ds) (kd K)
abbrev pm__law_pick (K : PySem.W.Frag) : PmH := ⟨List PyData, fun ds => 0 < ds.length ∧ ds.length ≤ 1000, 0, fun ds => [kAny, kd K (.tuple ds)], fun _ => oPot, fun _ => oPot, fun ds => kOne K ds⟩
abbrev pm__law_rounds (K : PySem.W.Frag) : Pm := ⟨List Int, fun ns => ns.length ≤ 63, fun ns => [kScript K ns], fun _ => kExP (fun d : Nat => d ≤ 3) fun d => kd K (.int (d : Int))⟩
abbrev pm__law_word (K : PySem.W.Frag) : PmH := ⟨Nat × Nat, fun i => 0 < i.1 ∧ i.1 ≤ 3 ∧ i.2 ≤ 100, 0, fun i => [kAny, kd K (.int (i.1 : Int)), kd K (.int (i.2 : Int))], fun _ => oPot, fun _ => oPot, fun i => kExP (fun w : List (Fin i.1) => w.length ≤ i.2) fun w => kd K (encW w)⟩
end Wk
namespace Wk
open PySem L2
section
variable {P : Program} {w : World} {K : PySem.W.Frag} {mg : Str → Option Value} {base : Heap}
theorem scr_at {ns : List Int} {s : Nat} (h : s < ns.length) : atI (ns.map PyData.int) (s : Int) = some (.int ns[s]) := by
  refine atI_nat ?_
  rw [List.getElem?_map, List.getElem?_eq_getElem h]; rfl
abbrev s__law_pot : Stmt := top 109
abbrev Ns__law_pot : List Str := ["_law_script", "_law_spot", "_law_state", "_law_cell", "_law_own"]
theorem sc__law_pot : FnScope Ns__law_pot ["_law_script", "_law_spot"] (defScope s__law_pot) := ⟨rfl, rfl, rfl, by decide +kernel, rfl, by decide +kernel, by decide +kernel⟩
def t__law_pot (K : PySem.W.Frag) : TS := (tSeq (tAsg (tOp (rI0 fun i j => .int (i + j)) (tC (.int 50021)) (tOp (rI CMul fun i j => .int (i * j)) (tC (.int 919)) (tVar 1))) (gName 2))
    (tSeq (tFor (iList K (tSl (rSlL K) (tVar 0) tNoPart (tPart (tC (.int 12))))) (gName 3) (tAsg (tOp (rI (fun _ j => 0 < j) fun i j => .int (i % j)) (tCB rInt1 (tCons (tOp (rI0 fun i j => .int (i + j)) (tOp (rI0 fun i j => .int (i + j)) (tOp (rI CMul fun i j => .int (i * j)) (tVar 2) (tC (.int 52361))) (tCB rInt1 (tCons (tVar 3) tNil))) (tC (.int 17))) tNil)) (tC (.int 2147483579))) (gName 2)))
    (tSeq (tAsg (tIf (tTest (tOp (rI0 fun i j => .bl (decide (i < j))) (tVar 1) (tCB (rLenSeq K) (tCons (tVar 0) tNil)))) (tCB rAbs (tCons (tCB rInt1 (tCons (tOp (rIxL K) (tVar 0) (tVar 1)) tNil)) tNil)) (tC (.int 0))) (gName 4))
    (tRet (tLst (tCons (tIf (tTest (tOp (rI0 fun i j => .bl (decide (j ≤ i))) (tVar 4) (tOp (rI CPow fun i j => .int (i ^ j.toNat)) (tC (.int 10)) (tC (.int 18))))) (tVar 4) (tC (.int 0))) (tCons (tOp (rI (fun _ j => 0 < j) fun i j => .int (i % j)) (tCB rInt1 (tCons (tOp (rI0 fun i j => .int (i + j)) (tOp (rI CMul fun i j => .int (i * j)) (tVar 2) (tC (.int 31))) (tOp (rI CMul fun i j => .int (i * j)) (tOp (rI (fun _ j => 0 < j) fun i j => .int (i % j)) (tCB rInt1 (tCons (tVar 4) tNil)) (tC (.int 2147483549))) (tC (.int 7919)))) tNil)) (tC (.int 2147483579))) (tCons (tC (.int 0)) tNil))))))))
theorem sx__law_pot (T : Tx K mg) : ∀ i, (pm__law_pot K).pre i → SXN (t__law_pot K) (startΓ Ns__law_pot ((pm__law_pot K).args i)) ((pm__law_pot K).oc i) := by
  rintro ⟨ns, s⟩ ⟨h1, h2⟩
  dsimp only [pm__law_pot]
  show SXN _ [_, _, _, _, _] _
  have h1 : s ≤ 3 := h1
  have h2 : ns.length ≤ 63 := h2
  refine sxn_seq (fun Γ => ∃ x : Int, Γ = [.kn (kScript K ns), .kn (kd K (.int (s : Int))), .kn (kd K (.int x)), .un, .un]) (s_set (ex_add (ex_int (K := K)) (ex_mulA (ex_int (K := K)) (ex_var rfl))) ⟨_, rfl⟩) ?_
  rintro Γ ⟨x, rfl⟩
  refine sxn_seq (fun Γ => ∃ (x : Int) (a : Wk.Slot), Γ = [.kn (kScript K ns), .kn (kd K (.int (s : Int))), .kn (kd K (.int x)), a, .un]) ?_ ?_
  · refine x_for (n := (cutD (ns.map .int) none (some 12)).length) (Rs := fun i => kdAt K (cutD (ns.map .int) none (some 12)) i) (fun i Γ => ∃ (x : Int) (a : Wk.Slot), Γ = [.kn (kScript K ns), .kn (kd K (.int (s : Int))), .kn (kd K (.int x)), a, .un]) (iw_list (exl_slL (ex_var rfl) eo_none (eo_some (ex_int (K := K))))) ⟨_, _, rfl⟩ ?_ (fun Γ h => h)
    rintro i Γ hi ⟨x, a, rfl⟩
    have ec : cutD (ns.map PyData.int) none (some 12) = (ns.take 12).map PyData.int := by
      have := cutD_to (ds := ns.map PyData.int) (k := 12)
      rw [List.map_take]
      exact this
    rw [ec, List.length_map] at hi
    refine ⟨_, _, by rw [ec, kdAt_of (d := .int (ns.take 12)[i]) (by rw [List.getElem?_map, List.getElem?_eq_getElem hi]; rfl)]; exact gx_name, ?_⟩
    exact s_set (ex_mod (ex_int1I (ex_add (ex_add (ex_mulA (ex_var rfl) (ex_int (K := K))) (ex_int1I (ex_var rfl))) (ex_int (K := K)))) (ex_int (K := K)) (by decide)) ⟨_, _, rfl⟩
  · rintro Γ ⟨x, a, rfl⟩
    refine sxn_seq (fun Γ => ∃ (o : Int) (a : Wk.Slot), Γ = [.kn (kScript K ns), .kn (kd K (.int (s : Int))), .kn (kd K (.int x)), a, .kn (kd K (.int o))]) ?_ ?_
    · by_cases hs : s < ns.length
      · refine s_set (R := kd K (.int (if ns[s] < 0 then -ns[s] else ns[s]))) (ex_if (b := true) (et_is (et_test (ex_lt (ex_var rfl) (ex_lenK (ex_var rfl)))) (by rw [List.length_map]; exact decide_eq_true (by omega))) (fun _ => (ex_abs (ex_int1I (ex_ixL (ex_var rfl) (ex_var rfl) (scr_at hs))))) fun e => by cases e) ⟨_, _, rfl⟩
      · refine s_set (R := kd K (.int 0)) (ex_if (b := false) (et_is (et_test (ex_lt (ex_var rfl) (ex_lenK (ex_var rfl)))) (by rw [List.length_map]; exact decide_eq_false (by omega))) (fun e => by cases e) fun _ => (ex_int (K := K))) ⟨_, _, rfl⟩
    · rintro Γ ⟨o, a, rfl⟩
      refine SXN.weak (sxn_ret (K := K) (exl_lst (ead_cons (ex_ifI (et_test (ex_ge (ex_var rfl) (ex_pow (ex_int (K := K)) (ex_int (K := K))))) (fun _ => (ex_var rfl)) fun _ => (ex_int (K := K))) (ead_cons (ex_mod (ex_int1I (ex_add (ex_mulA (ex_var rfl) (ex_int (K := K))) (ex_mulA (ex_mod (ex_int1I (ex_var rfl)) (ex_int (K := K)) (by decide)) (ex_int (K := K))))) (ex_int (K := K)) (by decide)) (ead_cons (ex_int (K := K)) ead_nil))))) ?_
      rintro N u ⟨vs, rfl, h⟩
      exact ⟨_, _, _, congrArg HO.lst (dpAll_ints (ns := [_, _, _]) h)⟩
theorem ok__law_pot (T : Tx K mg) {f : Addr} {fd : FuncData} (F : FnP K "_law_pot" "_law_pot" s__law_pot f fd) : FnOk P w K mg base CX0 1 f fd ["_law_script", "_law_spot"] (pm__law_pot K).sp := by
  have sc := sc__law_pot
  refine F.ok sc (fun vs H Q E h => PmN.len (fun _ => rfl) vs H Q E h) (fun cdv A outer s H vs Q E hr h => ⟨t__law_pot K, PSs.nox ?_, PmN.go (sx__law_pot T) vs H Q E h⟩)
  exact (pss_cons (ps_set (i := 2) sc.nd rfl (by first | exact Or.inl rfl | exact Or.inr rfl) (pe_op op_add pe_int (pe_op op_mul pe_int (pv 1))))
      (pss_cons (ps_for PassesOwn.never rfl (pi_list (pe_slice sl_list (pv 0) po_none (po_some pe_int))) (pg_name (i := 3) sc.nd rfl (by first | exact Or.inl rfl | exact Or.inr rfl)) (pss_one (ps_set (i := 2) sc.nd rfl (by first | exact Or.inl rfl | exact Or.inr rfl) (pe_op op_mod (pe_callTy call_int1 rfl T.int_ (by decide +kernel) (pa_cons (pe_op op_add (pe_op op_add (pe_op op_mul (pv 2) pe_int) (pe_callTy call_int1 rfl T.int_ (by decide +kernel) (pa_cons (pv 3) pa_nil))) pe_int) pa_nil)) pe_int))))
      (pss_cons (ps_set (i := 4) sc.nd rfl (by first | exact Or.inl rfl | exact Or.inr rfl) (pe_ifExp (pt_cmpR op_lt (pv 1) (pe_callB call_len_seq rfl T.len_ PySem.boot_len (pa_cons (pv 0) pa_nil)) (nomark _)) (pe_callB call_abs rfl T.abs_ PyProof.Rows.boot_abs (pa_cons (pe_callTy call_int1 rfl T.int_ (by decide +kernel) (pa_cons (pe_ix ix_list (pv 0) (pv 1) (fun _ _ => rfl)) pa_nil)) pa_nil)) pe_int))
      (pss_one (ps_ret (pe_lst (pa_cons (pe_ifExp (pt_cmpR op_ge (pv 4) (pe_op op_pow pe_int pe_int) (nomark _)) (pv 4) pe_int) (pa_cons (pe_op op_mod (pe_callTy call_int1 rfl T.int_ (by decide +kernel) (pa_cons (pe_op op_add (pe_op op_mul (pv 2) pe_int) (pe_op op_mul (pe_op op_mod (pe_callTy call_int1 rfl T.int_ (by decide +kernel) (pa_cons (pv 4) pa_nil)) pe_int) pe_int)) pa_nil)) pe_int) (pa_cons pe_int pa_nil)))))))))
theorem mod_lt {K : PySem.W.Frag} {m : Nat} (x : Int) (h : 0 < m) : ∀ N v, (kd K (.int (x % (m : Int)))).p N v → (kLt K m).p N v := fun N v r => by
  have h1 := Int.emod_nonneg x (show (m : Int) ≠ 0 by omega)
  have h2 := Int.emod_lt_of_pos x (show (0 : Int) < m by omega)
  refine ⟨(x % (m : Int)).toNat, by show (x % (m : Int)).toNat < m; omega, ?_⟩
  show (kd K (.int (((x % (m : Int)).toNat : Nat) : Int))).p N v
  rw [show (((x % (m : Int)).toNat : Nat) : Int) = x % (m : Int) by omega]
  exact r
theorem ex_mod_any {K : PySem.W.Frag} {Γ : List Wk.Slot} {ta tb : TE} {m : Nat} (ha : EX ta Γ (kExP (fun _ : Int => True) fun x => kd K (.int x))) (hb : EX tb Γ (kd K (.int (m : Int)))) (h : 0 < m) : EX (tOp (rI (fun _ j => 0 < j) fun i j => .int (i % j)) ta tb) Γ (kLt K m) :=
  ex_op ha hb fun F B Γ σ N H x y Q S hx hy k => by
    obtain ⟨i, _, hx⟩ := hx
    have hx : Dp K N x (.int i) := hx
    cases hx; cases hy
    exact ⟨i, (m : Int), rfl, rfl, by omega, k _ N H S (Ex.refl N) (mod_lt i h N _ (.int _))⟩
abbrev s__law_take : Stmt := top 110
abbrev Ns__law_take : List Str := ["_law_pot_here", "_law_many", "_law_seed", "_law_digit"]
theorem sc__law_take : FnScope Ns__law_take ["_law_pot_here", "_law_many"] (defScope s__law_take) := ⟨rfl, rfl, rfl, by decide +kernel, rfl, by decide +kernel, by decide +kernel⟩
def t__law_take (K : PySem.W.Frag) : TS := (tSeq (tIfS (tTest (tOp (rI0 fun i j => .bl (decide (j < i))) (tOp (rIxL K) (tVar 0) (tC (.int 0))) (tC (.int 0)))) (tSeq (tAsg (tCB rDm (tCons (tOp (rIxL K) (tVar 0) (tC (.int 0))) (tCons (tVar 1) tNil))) (gTup K 2 (gCons (gSub (tVar 0) (tC (.int 0)) rSetL) (gCons (gName 3) gNil))))
    (tRet (tVar 3))) tNext)
    (tSeq (tAsg (tOp (rI0 fun i j => .int (i + j)) (tOp (rIxL K) (tVar 0) (tC (.int 2))) (tC (.int 1))) (gSub (tVar 0) (tC (.int 2)) rSetL))
    (tSeq (tAsg (tOp (rI (fun _ j => 0 < j) fun i j => .int (i % j)) (tCB rInt1 (tCons (tOp (rI0 fun i j => .int (i + j)) (tOp (rIxL K) (tVar 0) (tC (.int 1))) (tOp (rI CMul fun i j => .int (i * j)) (tC (.int 104729)) (tOp (rIxL K) (tVar 0) (tC (.int 2))))) tNil)) (tC (.int 2147483579))) (gName 2))
    (tSeq (tAsg (tOp (rI (fun _ j => 0 < j) fun i j => .int (i % j)) (tCB rInt1 (tCons (tOp (rI0 fun i j => .int (i + j)) (tOp (rI CMul fun i j => .int (i * j)) (tVar 2) (tOp (rI0 fun i j => .int (i + j)) (tOp (rI (fun _ j => 0 < j) fun i j => .int (i % j)) (tCB rInt1 (tCons (tVar 2) tNil)) (tC (.int 8191))) (tC (.int 30011)))) (tOp (rI CMul fun i j => .int (i * j)) (tC (.int 13)) (tOp (rIxL K) (tVar 0) (tC (.int 2))))) tNil)) (tC (.int 2147483579))) (gSub (tVar 0) (tC (.int 1)) rSetL))
    (tRet (tOp (rI (fun _ j => 0 < j) fun i j => .int (i % j)) (tCB rInt1 (tCons (tOp (rI CDiv fun i j => .int (i / j)) (tOp (rIxL K) (tVar 0) (tC (.int 1))) (tC (.int 512))) tNil)) (tVar 1)))))))
theorem sx__law_take (T : Tx K mg) : (pm__law_take K).body Ns__law_take (t__law_take K) := by
  rintro (m : Nat) ⟨h1, h2⟩
  dsimp only [pm__law_take]
  show SX _ [_, _, _, _] _
  have h1 : 0 < m := h1
  have h2 : m ≤ 1000 := h2
  refine sx_pot (j := 0) rfl fun a b c => ?_
  show SX _ [_, _, _, _] _
  refine q_if (b := decide (0 < a)) (et_test (ex_gt (ex_ixP (i := 0) (x := a) rfl rfl) (ex_int (K := K)))) (fun e => ?_) (fun e => sx_pass ?_)
  · refine q_assoc (q_dm rfl (ex_var rfl) (by omega) (by omega) ?_)
    show SX _ [_, _, _, _] _
    refine sx_less (j := 0) (O' := oPot) rfl oP_pot ?_
    exact q_ret (ex_end (ex_weak (ex_var rfl) (mod_lt a h1)) rfl)
  · refine q_put2 rfl (ex_add (ex_ixP (i := 2) (x := c) rfl rfl) (ex_int (K := K))) ?_
    show SX _ [_, _, _, _] _
    refine q_set (R := kd K (.int ((b + 104729 * (c + 1)) % 2147483579))) (ex_mod (ex_int1I (ex_add (ex_ixP (i := 1) (x := b) rfl rfl) (ex_mulA (ex_int (K := K)) (ex_ixP (i := 2) (x := c + 1) rfl rfl)))) (ex_int (K := K)) (by decide)) ?_
    show SX _ [_, _, _, _] _
    have s1 := Int.emod_nonneg (b + 104729 * (c + 1)) (show (2147483579 : Int) ≠ 0 by decide)
    have s2 := Int.emod_lt_of_pos (b + 104729 * (c + 1)) (show (0 : Int) < 2147483579 by decide)
    generalize (b + 104729 * (c + 1)) % 2147483579 = sd at s1 s2
    refine q_put1 rfl (ex_mod (ex_int1I (ex_add (ex_mulA (ex_var rfl) (ex_add (ex_mod (ex_int1I (ex_var rfl)) (ex_int (K := K)) (by decide)) (ex_int (K := K)))) (ex_mulA (ex_int (K := K)) (ex_ixP (i := 2) (x := c + 1) rfl rfl)))) (ex_int (K := K)) (by decide)) ?_
    show SX _ [_, _, _, _] _
    generalize (sd * (sd % 8191 + 30011) + 13 * (c + 1)) % 2147483579 = b2
    refine sx_less (j := 0) (O' := oPot) rfl oP_pot ?_
    exact sx_ret (ex_end (ex_weak (ex_mod_any (ex_pot (j := 0) rfl fun a b c => ex_toEx _ trivial (ex_int1I (ex_fdiv (ex_ixP (i := 1) rfl rfl) (ex_int (K := K)) ⟨by decide, by decide⟩))) (ex_var rfl) h1) fun _ _ r => r) rfl)
theorem ok__law_take (T : Tx K mg) {f : Addr} {fd : FuncData} (F : FnP K "_law_take" "_law_take" s__law_take f fd) : FnOk P w K mg base CX0 1 f fd ["_law_pot_here", "_law_many"] (pm__law_take K).sp := by
  have sc := sc__law_take
  refine F.ok sc (fun vs H Q E h => PmH.len (fun _ => rfl) vs H Q E h) (fun cdv A outer s H vs Q E hr h => ⟨t__law_take K, PSs.nox ?_, PmH.go (sx__law_take T) vs H Q E h⟩)
  exact (pss_cons (ps_if (pt_cmpR op_gt (pe_ix ix_list (pv 0) pe_int (fun _ _ => rfl)) pe_int (nomark _)) (pss_cons (ps_asg (pe_callB call_divmod rfl T.divmod_ PyProof.Rows.boot_divmod (pa_cons (pe_ix ix_list (pv 0) pe_int (fun _ _ => rfl)) (pa_cons (pv 1) pa_nil))) (pg_tup rfl (pgs_cons (pg_sub (pv 0) pe_int set_list) (pgs_cons (pg_name (i := 3) sc.nd rfl (by first | exact Or.inl rfl | exact Or.inr rfl)) pgs_nil))))
      (pss_one (ps_ret (pv 3)))) pss_nil)
      (pss_cons (ps_asg (pe_op op_add (pe_ix ix_list (pv 0) pe_int (fun _ _ => rfl)) pe_int) (pg_sub (pv 0) pe_int set_list))
      (pss_cons (ps_set (i := 2) sc.nd rfl (by first | exact Or.inl rfl | exact Or.inr rfl) (pe_op op_mod (pe_callTy call_int1 rfl T.int_ (by decide +kernel) (pa_cons (pe_op op_add (pe_ix ix_list (pv 0) pe_int (fun _ _ => rfl)) (pe_op op_mul pe_int (pe_ix ix_list (pv 0) pe_int (fun _ _ => rfl)))) pa_nil)) pe_int))
      (pss_cons (ps_asg (pe_op op_mod (pe_callTy call_int1 rfl T.int_ (by decide +kernel) (pa_cons (pe_op op_add (pe_op op_mul (pv 2) (pe_op op_add (pe_op op_mod (pe_callTy call_int1 rfl T.int_ (by decide +kernel) (pa_cons (pv 2) pa_nil)) pe_int) pe_int)) (pe_op op_mul pe_int (pe_ix ix_list (pv 0) pe_int (fun _ _ => rfl)))) pa_nil)) pe_int) (pg_sub (pv 0) pe_int set_list))
      (pss_one (ps_ret (pe_op op_mod (pe_callTy call_int1 rfl T.int_ (by decide +kernel) (pa_cons (pe_op op_fdiv (pe_ix ix_list (pv 0) pe_int (fun _ _ => rfl)) pe_int) pa_nil)) (pv 1))))))))
theorem ex_ixAny {K : PySem.W.Frag} {Γ : List Wk.Slot} {ta tb : TE} {ds : List PyData} (ha : EX ta Γ (kd K (.tuple ds))) (hb : EX tb Γ (kLt K ds.length)) : EX (tOp (rIxT K) ta tb) Γ (kOne K ds) :=
  ex_op ha hb fun F B Γ σ N H u v Q S hu hv k => by
    obtain ⟨d, hd, hv⟩ := hv
    have hd : d < ds.length := hd
    have hv : Dp K N v (.int (d : Int)) := hv
    cases hv
    cases hu with
    | tup hs hall =>
      obtain ⟨w, e, r⟩ := atI_dp hall (i := (d : Int)) (d := ds[d]) (atI_nat (List.getElem?_eq_getElem hd))
      exact ⟨_, _, (d : Int), w, rfl, rfl, ex_t S.sub hs, e, k w N H S (Ex.refl N) ⟨ds[d], List.getElem_mem _, r⟩⟩
abbrev s__law_pick : Stmt := top 111
abbrev Ns__law_pick : List Str := ["_law_pot_here", "_law_some"]
theorem sc__law_pick : FnScope Ns__law_pick ["_law_pot_here", "_law_some"] (defScope s__law_pick) := ⟨rfl, rfl, rfl, by decide +kernel, rfl, by decide +kernel, by decide +kernel⟩
def t__law_pick (K : PySem.W.Frag) : TS := (tRet (tOp (rIxT K) (tVar 1) (tCall (pm__law_take K).sp [] E0 (tCons (tVar 0) (tCons (tCB (rLenSeq K) (tCons (tVar 1) tNil)) tNil)))))
theorem sx__law_pick (T : Tx K mg) : (pm__law_pick K).body Ns__law_pick (t__law_pick K) := by
  rintro (ds : List PyData) ⟨h1, h2⟩
  dsimp only [pm__law_pick]
  show SX _ [_, _] _
  exact sx_ret (ex_end (ex_ixAny (ex_var rfl) (ex_pmH (pm__law_take K) ds.length (eah_here (j := 0) rfl rfl (ea_cons (ex_lenT (ex_var rfl)) ea_nil)) ⟨h1, h2⟩ rfl (.inr rfl) rfl)) rfl)
theorem ok__law_pick (T : Tx K mg) (c__law_take : C8.Cal P w K mg base 1 "_law_take" (pm__law_take K).sp []) {f : Addr} {fd : FuncData} (F : FnP K "_law_pick" "_law_pick" s__law_pick f fd) : FnOk P w K mg base CX0 2 f fd ["_law_pot_here", "_law_some"] (pm__law_pick K).sp := by
  have sc := sc__law_pick
  refine F.ok sc (fun vs H Q E h => PmH.len (fun _ => rfl) vs H Q E h) (fun cdv A outer s H vs Q E hr h => ⟨t__law_pick K, PSs.nox ?_, PmH.go (sx__law_pick T) vs H Q E h⟩)
  exact (pss_one (ps_ret (pe_ix ix_tup (pv 1) (C8.pe_c c__law_take hr (by decide) rfl (pa_cons (pv 0) (pa_cons (pe_callB call_len_seq rfl T.len_ PySem.boot_len (pa_cons (pv 1) pa_nil)) pa_nil))) (fun _ _ => rfl))))
abbrev s__law_rounds : Stmt := top 112
abbrev Ns__law_rounds : List Str := ["_law_script"]
theorem sc__law_rounds : FnScope Ns__law_rounds ["_law_script"] (defScope s__law_rounds) := ⟨rfl, rfl, rfl, by decide +kernel, rfl, by decide +kernel, by decide +kernel⟩
def t__law_rounds (K : PySem.W.Frag) : TS := (tRet (tCB rMax2 (tCons (tC (.int 2)) (tCons (tCB rMin2 (tCons (tCB (rLenSeq K) (tCons (tVar 0) tNil)) (tCons (tC (.int 3)) tNil))) tNil))))
theorem sx__law_rounds (T : Tx K mg) : (pm__law_rounds K).body Ns__law_rounds (t__law_rounds K) := by
  rintro (ns : List Int) h
  dsimp only [pm__law_rounds]
  show SX _ [_] _
  refine sx_ret (ex_weak (ex_max2 (ex_int (K := K)) (ex_min2 (ex_lenK (ex_var rfl)) (ex_int (K := K)))) fun N v r => ?_)
  rw [List.length_map] at r
  refine ⟨max 2 (min ns.length 3), by show max 2 (min ns.length 3) ≤ 3; omega, ?_⟩
  have e : (if (if (3 : Int) < ((ns.length : Nat) : Int) then (3 : Int) else ((ns.length : Nat) : Int)) > 2 then (if (3 : Int) < ((ns.length : Nat) : Int) then (3 : Int) else ((ns.length : Nat) : Int)) else 2) = ((max 2 (min ns.length 3) : Nat) : Int) := by
    split <;> split at * <;> omega
  rw [e] at r
  exact r
theorem ok__law_rounds (T : Tx K mg) {f : Addr} {fd : FuncData} (F : FnP K "_law_rounds" "_law_rounds" s__law_rounds f fd) : FnOk P w K mg base CX0 1 f fd ["_law_script"] (pm__law_rounds K).sp := by
  have sc := sc__law_rounds
  refine F.ok sc (fun vs H Q E h => Pm.len (fun _ => rfl) vs H Q E h) (fun cdv A outer s H vs Q E hr h => ⟨t__law_rounds K, PSs.nox ?_, Pm.go (sx__law_rounds T) vs H Q E h⟩)
  exact (pss_one (ps_ret (pe_callB (call_max2 rfl) rfl T.max_ PyProof.Rows.boot_max (pa_cons pe_int (pa_cons (pe_callB (call_min2 rfl) rfl T.min_ PyProof.Rows.boot_min (pa_cons (pe_callB call_len_seq rfl T.len_ PySem.boot_len (pa_cons (pv 0) pa_nil)) (pa_cons pe_int pa_nil))) pa_nil)))))
theorem word_of {n : Nat} : ∀ (ds : List PyData), (∀ d ∈ ds, ∃ s : Fin n, d = encF s) → ∃ w : List (Fin n), ds = w.map encF
  | [], _ => ⟨[], rfl⟩
  | d :: ds, h => by
    obtain ⟨s, e⟩ := h d List.mem_cons_self
    obtain ⟨w, e2⟩ := word_of ds fun x hx => h x (List.mem_cons_of_mem _ hx)
    exact ⟨s :: w, by rw [e, e2]; rfl⟩
theorem lt_fin {K : PySem.W.Frag} {n : Nat} : ∀ N v, (kLt K n).p N v → (kExP (fun d => ∃ s : Fin n, d = encF s) (kd K)).p N v := fun N v ⟨d, hd, r⟩ => ⟨.int (d : Int), ⟨⟨d, hd⟩, rfl⟩, r⟩
abbrev s__law_word : Stmt := top 125
abbrev Ns__law_word : List Str := ["_law_pot_here", "_law_size", "_law_most", "_law_turn"]
theorem sc__law_word : FnScope Ns__law_word ["_law_pot_here", "_law_size", "_law_most"] (defScope s__law_word) := ⟨rfl, rfl, rfl, by decide +kernel, rfl, by decide +kernel, by decide +kernel⟩
def t__law_word (K : PySem.W.Frag) : TS := (tRet (tCB (rTupOf K) (tCons (tLc (iRng1 (tCons (tCall (pm__law_take K).sp [] E0 (tCons (tVar 0) (tCons (tOp (rI0 fun i j => .int (i + j)) (tVar 2) (tC (.int 1))) tNil))) tNil)) (gName 3) tYes (tCall (pm__law_take K).sp [] E0 (tCons (tVar 0) (tCons (tVar 1) tNil))) [3]) tNil)))
theorem sx__law_word (T : Tx K mg) : (pm__law_word K).body Ns__law_word (t__law_word K) := by
  rintro ⟨n, mo⟩ ⟨h1, h2, h3⟩
  dsimp only [pm__law_word]
  show SX _ [_, _, _, _] _
  have h1 : 0 < n := h1
  have h2 : n ≤ 3 := h2
  have h3 : mo ≤ 100 := h3
  refine sx_ret (ex_end (ex_weak (ex_tupLp (exl_lcE (fun d => ∃ s : Fin n, d = encF s) (ixe_range (C := fun d => d < mo + 1) (ea_cons (ex_pmH (pm__law_take K) (mo + 1) (eah_here (j := 0) rfl rfl (ea_cons (ex_is (ex_add (ex_var rfl) (ex_int (K := K))) (by rw [Int.natCast_add]; rfl)) ea_nil)) ⟨by omega, (by omega : mo + 1 ≤ 1000)⟩ rfl (.inr rfl) rfl) ea_nil) (fun d hd => by omega)) (fun m R ⟨hm, _⟩ => by omega) (no_holds (by kernel_rfl)) (js := [3]) (by decide) (fun m R ⟨hm, hR⟩ i hi => ?_))) fun N v ⟨ds, ⟨⟨R, hR, _⟩, hd⟩, r⟩ => ?_) rfl)
  · rw [hR]
    exact ⟨_, by kernel_rfl, gx_name, ex_weak (ex_pmH (pm__law_take K) n (eah_here (j := 0) rfl rfl (ea_cons (ex_var rfl) ea_nil)) ⟨h1, (by omega : n ≤ 1000)⟩ rfl (.inr rfl) rfl) lt_fin⟩
  · obtain ⟨w, e⟩ := word_of ds hd
    subst e
    rw [List.length_map] at hR
    exact ⟨w, by show w.length ≤ mo; omega, r⟩
theorem ok__law_word (T : Tx K mg) (c__law_take : C8.Cal P w K mg base 1 "_law_take" (pm__law_take K).sp []) {f : Addr} {fd : FuncData} (F : FnP K "_law_word" "_law_word" s__law_word f fd) : FnOk P w K mg base CX0 2 f fd ["_law_pot_here", "_law_size", "_law_most"] (pm__law_word K).sp := by
  have sc := sc__law_word
  refine F.ok sc (fun vs H Q E h => PmH.len (fun _ => rfl) vs H Q E h) (fun cdv A outer s H vs Q E hr h => ⟨t__law_word K, PSs.nox ?_, PmH.go (sx__law_word T) vs H Q E h⟩)
  exact (pss_one (ps_ret (pe_callTy call_tuple_of rfl T.tuple_ (by decide +kernel) (pa_cons (pe_lc (own := [("_law_turn", 3)]) (g := (gName 3)) (tt := tYes) (te := (tCall (pm__law_take K).sp [] E0 (tCons (tVar 0) (tCons (tVar 1) tNil)))) rfl sc.nd (pi_range1 rfl T.range_ (pa_cons (C8.pe_c c__law_take hr (by decide) rfl (pa_cons (pv 0) (pa_cons (pe_op op_add (pv 2) pe_int) pa_nil))) pa_nil)) (blkOk_by (own := [("_law_turn", 3)]) (N := Ns__law_word) (sc := defScope s__law_word) (by decide +kernel)) (fun _ _ _ _ _ => (pg_name (i := 3) sc.nd rfl (by first | exact Or.inl rfl | exact Or.inr rfl))) (fun _ _ _ _ _ => pts_nil) (fun _ _ _ _ _ => (C8.pe_c c__law_take hr (by decide) rfl (pa_cons (pv 0) (pa_cons (pv 1) pa_nil))))) pa_nil))))
end
end Wk
namespace Wk
open PySem L2
/-! ### a list of new lists that are written -/
section
variable {F G : Hp} {B : Addr → Prop} {Γ : List Wk.Slot} {σ : St} {N N' H H' : Hp}
theorem Stt.adopt (S : Stt F B Γ σ N H) {p : Addr} {u : HO} (hp : H p = some u) (n : N p = none) (f : F p = none) (d : ∀ (j : Nat) (γ : Wk.Slot) (q : Addr), Γ[j]? = some γ → γ.holds = true → σ[j]? = some (some (.ref q)) → q ≠ p) : Stt (upd F p u) (fun a => B a ∨ a = p) Γ σ N H where
  sub := S.sub
  fr := fun a o e => by
    by_cases q : a = p
    · subst q; rw [upd_same] at e; rw [hp, e]
    · rw [upd_ne q] at e; exact S.fr a o e
  bl := fun a ba => by
    rcases ba with b | b
    · exact S.bl a b
    · rw [b]; exact n
  bh := fun a ba => by
    rcases ba with b | b
    · exact S.bh a b
    · rw [b, hp]; exact Option.some_ne_none _
  len := S.len
  ok := fun i γ o hg ho => by
    have q := S.ok i γ o hg ho
    cases γ with
    | un => trivial
    | kn R => exact q
    | own O =>
      obtain ⟨p', w, e, a, b, c, x, r⟩ := q
      subst e
      have ne := d i _ p' hg rfl ho
      exact ⟨p', w, rfl, by rw [upd_ne ne]; exact a, b, fun z => z.elim c ne, x, r⟩
    | hel O =>
      obtain ⟨p', w, e, a, b, c, x, r⟩ := q
      subst e
      have ne := d i _ p' hg rfl ho
      exact ⟨p', w, rfl, by rw [upd_ne ne]; exact a, b, .inl c, x, r⟩
  ap := S.ap
theorem upd_id {p : Addr} {u : HO} (h : F p = some u) : upd F p u = F := by
  funext a
  by_cases q : a = p
  · subst q; rw [upd_same, h]
  · rw [upd_ne q]
theorem Stt.putG (S : Stt G B Γ σ N H) {p : Addr} {u u' : HO} (h : G p = some u) (hB : B p) : Stt (upd G p u') B Γ σ N (upd H p u') := by
  have S0 : Stt (upd G p u) B Γ σ N H := by rw [upd_id h]; exact S
  exact S0.put hB
theorem Stt.imp (S : Stt F B Γ σ N H) {B' : Addr → Prop} (h : ∀ a, B' a ↔ B a) : Stt F B' Γ σ N H := by
  have : B' = B := funext fun a => propext (h a)
  rw [this]; exact S
theorem Stt.unwipeG {vs : List Nat} {B' : Addr → Prop} (S0 : Stt F B Γ σ N H) (e : Ex N N') (S : Stt G B' (wipeΓ Γ vs) (L2.wipe σ vs) N' H') (hv : ∀ i ∈ vs, ∀ γ, Γ[i]? = some γ → γ.holds = false) : Stt G B' Γ σ N' H' := by
  refine ⟨S.sub, S.fr, S.bl, S.bh, S0.len, fun i γ o hg ho => ?_, S0.ap⟩
  by_cases q : i ∈ vs
  · have z := S0.ok i γ o hg ho
    have hh := hv i q γ hg
    cases γ with
    | un => trivial
    | kn R => obtain ⟨v, a, r⟩ := z; exact ⟨v, a, R.mo _ _ _ e r⟩
    | own O => cases hh
    | hel O => cases hh
  · have z := S.ok i γ o (by rw [wipeΓ_get q]; exact hg) (by rw [wipe_get q]; exact ho)
    exact z
/-- all of them are known from now on -/
def addAll (N G : Hp) (as : List Addr) : Hp := fun a => if a ∈ as then G a else N a
theorem Stt.free {as : List Addr} (S : Stt G (fun a => B a ∨ a ∈ as) Γ σ N H) (h1 : ∀ a, a ∉ as → G a = F a) (h2 : ∀ a ∈ as, F a = none ∧ ¬ B a ∧ G a ≠ none) : Stt F B Γ σ (addAll N G as) H ∧ Ex N (addAll N G as) := by
  have hn : ∀ a ∈ as, N a = none := fun a ha => S.bl a (.inr ha)
  have ex : Ex N (addAll N G as) := fun a o e => by
    unfold addAll
    rw [if_neg (fun z => by rw [hn a z] at e; cases e)]; exact e
  have off : ∀ p, G p = none → p ∉ as := fun p e z => (h2 p z).2.2 e
  refine ⟨⟨fun a o e => ?_, fun a o e => ?_, fun a b => ?_, fun a b => S.bh a (.inl b), S.len, fun i γ o hg ho => ?_, S.ap⟩, ex⟩
  · unfold addAll at e
    by_cases q : a ∈ as
    · rw [if_pos q] at e; exact S.fr a o e
    · rw [if_neg q] at e; exact S.sub a o e
  · by_cases q : a ∈ as
    · rw [(h2 a q).1] at e; cases e
    · exact S.fr a o (by rw [h1 a q]; exact e)
  · unfold addAll
    rw [if_neg (fun z => (h2 a z).2.1 b)]
    exact S.bl a (.inl b)
  · have z := S.ok i γ o hg ho
    cases γ with
    | un => trivial
    | kn R => obtain ⟨v, a, r⟩ := z; exact ⟨v, a, R.mo _ _ _ ex r⟩
    | own O =>
      obtain ⟨p, w, e, a, b, c, d, r⟩ := z
      have np := off p a
      exact ⟨p, w, e, by rw [← h1 p np]; exact a, by unfold addAll; rw [if_neg np]; exact b, fun y => c (.inl y), d, O.mo _ _ _ ex r⟩
    | hel O =>
      obtain ⟨p, w, e, a, b, c, d, r⟩ := z
      have np := off p a
      exact ⟨p, w, e, by rw [← h1 p np]; exact a, by unfold addAll; rw [if_neg np]; exact b, c.resolve_right np, d, O.mo _ _ _ ex r⟩
end
/-- a list of so many new lists of ints; D: the list; qs: its items -/
structure Rows (F : Hp) (B : Addr → Prop) (D : Addr) (qs : List Addr) (G : Hp) (rw : List (List Int)) : Prop where
  nd : (D :: qs).Nodup
  off : ∀ a, a ∉ D :: qs → G a = F a
  new : ∀ a ∈ D :: qs, F a = none ∧ ¬ B a
  top : G D = some (.lst (qs.map .ref))
  len : qs.length = rw.length
  row : ∀ (i : Nat) (q : Addr) (r : List Int), qs[i]? = some q → rw[i]? = some r → G q = some (.lst (r.map V.int))
theorem Rows.live {F : Hp} {B : Addr → Prop} {D : Addr} {qs : List Addr} {G : Hp} {rw : List (List Int)} (R : Rows F B D qs G rw) : ∀ a ∈ D :: qs, F a = none ∧ ¬ B a ∧ G a ≠ none := fun a ha => by
  refine ⟨(R.new a ha).1, (R.new a ha).2, ?_⟩
  rcases List.mem_cons.mp ha with e | h
  · rw [e, R.top]; exact Option.some_ne_none _
  · obtain ⟨i, hi, e⟩ := List.mem_iff_getElem.mp h
    have hr : i < rw.length := by rw [← R.len]; exact hi
    rw [R.row i a rw[i] (by rw [List.getElem?_eq_getElem hi, e]) (List.getElem?_eq_getElem hr)]
    exact Option.some_ne_none _
/-- one row is written -/
theorem Rows.put {F : Hp} {B : Addr → Prop} {D : Addr} {qs : List Addr} {G : Hp} {rw : List (List Int)} (R : Rows F B D qs G rw) {i : Nat} {q : Addr} {r r' : List Int} (hq : qs[i]? = some q) (hr : rw[i]? = some r) : Rows F B D qs (upd G q (.lst (r'.map V.int))) (rw.set i r') := by
  have hm : q ∈ qs := List.mem_of_getElem? hq
  have nd := List.nodup_cons.mp R.nd
  have qD : D ≠ q := fun e => nd.1 (e ▸ hm)
  refine ⟨R.nd, fun a ha => ?_, R.new, by rw [upd_ne qD]; exact R.top, by rw [List.length_set]; exact R.len, fun j p s hp hs => ?_⟩
  · rw [upd_ne (fun e => ha (by rw [e]; exact List.mem_cons_of_mem _ hm))]
    exact R.off a ha
  · by_cases e : j = i
    · subst e
      rw [hq] at hp; cases hp
      rw [List.getElem?_set_self (List.getElem?_eq_some_iff.mp hr).1] at hs
      cases hs
      exact upd_same
    · rw [List.getElem?_set_ne (fun z => e z.symm)] at hs
      have pq : p ≠ q := fun z => by
        subst z
        obtain ⟨h1, e1⟩ := List.getElem?_eq_some_iff.mp hp
        obtain ⟨h2, e2⟩ := List.getElem?_eq_some_iff.mp hq
        exact e ((List.getElem_inj nd.2).mp (e1.trans e2.symm))
      rw [upd_ne pq]
      exact R.row j p s hp hs
theorem lc_fresh {K : PySem.W.Frag} {Γ : List Wk.Slot} {wi : TI} {g : TG} {te : TE} {vs js : List Nat} {n : Nat} {R : Nat → Kn} (rw : Nat → List Int) (h : IX wi Γ n R) (hn : n ≤ 1000) (hv : ∀ i ∈ vs, ∀ γ, Γ[i]? = some γ → γ.holds = false)
    (hj : ∀ j ∈ js, j ∈ vs) (hb : ∀ i, i < n → ∃ Γi, wipeΓ Γi vs = wipeΓ Γ vs ∧ GX g (R i) (wipeΓ Γ vs) Γi js ∧ EXL K te Γi ((rw i).map .int)) :
    ∀ F B σ N H Q, Stt F B Γ σ N H → (∀ D qs N' H' G, Rows F B D qs G ((List.range n).map rw) → Stt G (fun a => B a ∨ a ∈ D :: qs) Γ σ N' H' → Ex N N' → Q (.ref D) H') → tLc wi g tYes te vs σ H Q := fun F B σ N H Q S k =>
  h F B σ N H _ S fun J N1 H1 S1 e1 src D hD => by
    refine ⟨fun i m H => m = n - i ∧ i ≤ n ∧ ∃ N' qs G, Rows F B D qs G ((List.range i).map rw) ∧ Ex N1 N' ∧ Stt G (fun a => B a ∨ a ∈ D :: qs) (wipeΓ Γ vs) (wipe σ vs) N' H, ⟨n, by omega, Nat.zero_le _, N1, [], upd F D (.lst []), ⟨(List.pairwise_singleton _ _), fun a ha => upd_ne (fun e => ha (by rw [e]; exact List.mem_cons_self)), fun a ha => ?_, upd_same, rfl, fun i q r hq => by simp at hq⟩, Ex.refl _, ?_⟩, ?_⟩
    · have e : a = D := by simpa using ha
      rw [e]
      exact ⟨S1.fr.none hD, fun b => S1.bh D b hD⟩
    · exact ((S1.take hD).wipe vs).imp fun a => by simp
    rintro i m H2 ⟨rfl, hi, N2, qs, G, RR, e2, S2⟩
    have hql : qs.length = i := by rw [RR.len, List.length_map, List.length_range]
    by_cases hlt : i < n
    · refine .inr ⟨src.go i H2 hlt (e2.trans S2.sub), fun H => ∃ N' qs G, Rows F B D qs G ((List.range (i + 1)).map rw) ∧ Ex N1 N' ∧ Stt G (fun a => B a ∨ a ∈ D :: qs) (wipeΓ Γ vs) (wipe σ vs) N' H, fun H' q => ⟨n - (i + 1), by omega, rfl, hlt, q⟩, fun x H3 y => ?_⟩
      obtain ⟨N3, S3, e3, r3⟩ := src.yl i H2 x H3 hlt y _ _ _ _ N2 e2 S2
      obtain ⟨Γi, hw, hg, he⟩ := hb i hlt
      refine hg _ _ (wipe σ vs) N3 H3 x _ S3 r3 fun σ4 S4 w4 => ?_
      have w5 : wipe σ4 vs = wipe σ vs := by rw [w4 vs hj, wipe_wipe]
      refine ⟨w5, ?_⟩
      refine he _ _ σ4 N3 H3 _ S4 fun p N6 H6 ws S6 e6 hp r6 n6 f6 b6 d6 => ?_
      have hws : ws = (rw i).map V.int := dpAll_ints r6
      subst hws
      have hacc : H6 D = some (.lst (qs.map .ref)) := S6.fr D _ RR.top
      have S7 := S6.adopt hp n6 f6 d6
      have pD : D ≠ p := fun z => b6 (.inr (by rw [z]; exact List.mem_cons_self))
      have pq : p ∉ qs := fun z => b6 (.inr (List.mem_cons_of_mem _ z))
      have S8 := (S7.putG (p := D) (u := .lst (qs.map .ref)) (u' := .lst ((qs ++ [p]).map .ref)) (by rw [upd_ne pD]; exact RR.top) (.inl (.inr List.mem_cons_self))).wipe vs
      rw [w5, hw] at S8
      have e9 : ((qs ++ [p]).map V.ref) = qs.map .ref ++ [.ref p] := by rw [List.map_append]; rfl
      refine ⟨qs.map .ref, hacc, ?_, N6, qs ++ [p], upd (upd G p (.lst ((rw i).map V.int))) D (.lst ((qs ++ [p]).map .ref)), ⟨?_, fun a ha => ?_, fun a ha => ?_, upd_same, ?_, fun j q r hq hr => ?_⟩, (e2.trans e3).trans e6, ?_⟩
      · rw [List.length_map, hql]
        exact Nat.lt_of_lt_of_le (by omega : i < 1001) (by decide)
      · have nd := List.nodup_cons.mp RR.nd
        refine List.nodup_cons.mpr ⟨fun z => ?_, List.nodup_append.mpr ⟨nd.2, (List.pairwise_singleton _ _), fun a ha b hb e => ?_⟩⟩
        · rcases List.mem_append.mp z with z | z
          · exact nd.1 z
          · exact pD (List.mem_singleton.mp z)
        · rw [List.mem_singleton.mp hb] at e
          exact pq (e ▸ ha)
      · have n1 : a ≠ D := fun e => ha (by rw [e]; exact List.mem_cons_self)
        have n2 : a ≠ p := fun e => ha (by rw [e]; simp)
        rw [upd_ne n1, upd_ne n2]
        refine RR.off a fun z => ha ?_
        rcases List.mem_cons.mp z with z | z
        · exact absurd z n1
        · exact List.mem_cons_of_mem _ (List.mem_append_left _ z)
      · rcases List.mem_cons.mp ha with z | z
        · exact RR.new a (by rw [z]; exact List.mem_cons_self)
        · rcases List.mem_append.mp z with z | z
          · exact RR.new a (List.mem_cons_of_mem _ z)
          · rw [List.mem_singleton.mp z]
            refine ⟨?_, fun b => b6 (.inl b)⟩
            rw [← RR.off p (fun z => by
              rcases List.mem_cons.mp z with z | z
              · exact pD z.symm
              · exact pq z)]
            exact f6
      · rw [List.length_append, RR.len, List.length_map, List.length_map, List.length_range, List.length_range]; rfl
      · have hqD : q ≠ D := fun e => by
          have : q ∈ qs ++ [p] := List.mem_of_getElem? hq
          rw [e] at this
          rcases List.mem_append.mp this with z | z
          · exact (List.nodup_cons.mp RR.nd).1 z
          · exact pD (List.mem_singleton.mp z)
        rw [upd_ne hqD]
        by_cases z : j < i
        · rw [List.getElem?_append_left (by omega)] at hq
          have hr2 : ((List.range i).map rw)[j]? = some r := by
            rw [List.getElem?_map, List.getElem?_range z]
            rw [List.getElem?_map, List.getElem?_range (by omega)] at hr
            exact hr
          have : q ≠ p := fun e => pq (e ▸ List.mem_of_getElem? hq)
          rw [upd_ne this]
          exact RR.row j q r hq hr2
        · have hj2 : j < (qs ++ [p]).length := (List.getElem?_eq_some_iff.mp hq).1
          rw [List.length_append, List.length_singleton] at hj2
          have ej : j = i := by omega
          subst ej
          rw [List.getElem?_append_right (by omega), hql, Nat.sub_self] at hq
          have : q = p := by simpa using hq.symm
          rw [this, upd_same]
          rw [List.getElem?_map, List.getElem?_range (by omega)] at hr
          have : rw j = r := by simpa using hr
          rw [this]
      · rw [e9] at S8 ⊢
        exact S8.imp fun a => by simp only [List.mem_cons, List.mem_append, List.not_mem_nil, or_false, ← or_assoc]
    · have e : i = n := by omega
      subst e
      have S3 := S1.unwipeG e2 S2 hv
      exact .inl ⟨src.stop H2 (e2.trans S2.sub), k D qs N2 H2 G RR S3 (e1.trans e2)⟩
/-- a value as it is -/
def kIs (v : V) : Kn := ⟨fun _ u => u = v, fun _ _ _ _ h => h⟩
theorem x_forG {Γ : List Wk.Slot} {wi : TI} {g : TG} {t : TS} {n : Nat} {Rs : Nat → Kn} {G0 : Hp} {B : Addr → Prop} {σ : St} {N H : Hp} {D : Ends} (I : Nat → Hp → List Wk.Slot → Prop) (h : IX wi Γ n Rs) (S : Stt G0 B Γ σ N H) (h0 : I 0 G0 Γ)
    (hs : ∀ i G Γi, i < n → I i G Γi → ∃ Γ' js, GX g (Rs i) Γi Γ' js ∧ ∀ σ N' H' (D' : Ends), Stt G B Γ' σ N' H' → (∀ σ G2 Γ2 N2 H2, I (i + 1) G2 Γ2 → Ex N' N2 → Stt G2 B Γ2 σ N2 H2 → D'.nx σ H2) → t D' σ H')
    (hd : ∀ σ G2 Γ2 N2 H2, I n G2 Γ2 → Ex N N2 → Stt G2 B Γ2 σ N2 H2 → D.nx σ H2) : tFor wi g t D σ H :=
  h G0 B σ N H _ S fun J N1 H1 S1 e1 src => by
    refine ⟨fun i m σ H => m = n - i ∧ i ≤ n ∧ ∃ G Γi N', I i G Γi ∧ Ex N1 N' ∧ Stt G B Γi σ N' H, ⟨n, by omega, Nat.zero_le _, G0, Γ, N1, h0, Ex.refl _, S1⟩, ?_⟩
    rintro i m σ H ⟨rfl, hi, G, Γi, N', hI, e2, S3⟩
    by_cases hlt : i < n
    · refine .inr ⟨src.go i H hlt (e2.trans S3.sub), fun σ' H' => ∃ G Γi N', I (i + 1) G Γi ∧ Ex N1 N' ∧ Stt G B Γi σ' N' H', fun σ' H' q => ⟨n - (i + 1), by omega, rfl, hlt, q⟩, fun x H3 y => ?_⟩
      obtain ⟨N5, S5, e5, r5⟩ := src.yl i H x H3 hlt y _ _ _ _ _ e2 S3
      obtain ⟨Γ', js, hg, hb⟩ := hs i G Γi hlt hI
      refine hg _ _ σ N5 H3 x _ S5 r5 fun σ6 S6 _ => hb σ6 N5 H3 _ S6 fun σ G2 Γ2 N2 H2 a b c => ⟨G2, Γ2, N2, a, (e2.trans e5).trans b, c⟩
    · have e : i = n := by omega
      subst e
      exact .inl ⟨src.stop H (e2.trans S3.sub), hd σ G Γi N' H hI (e1.trans e2) S3⟩
/-! ### ties as rows -/
section
variable {n : Nat}
structure TOk (m : Fin n → Fin n → Nat) : Prop where
  diag : ∀ s, m s s = 1
  sym : ∀ s t, m s t = m t s
  ok : ∀ s t, s ≠ t → m s t = 0 ∨ m s t = 2 ∨ m s t = 3 ∨ m s t = 4 ∨ m s t = 5
def rowI (m : Fin n → Fin n → Nat) (s : Fin n) : List Int := (List.finRange n).map fun t => ((m s t : Nat) : Int)
def rwOf (m : Fin n → Fin n → Nat) : List (List Int) := (List.finRange n).map (rowI m)
theorem rowI_get (m : Fin n → Fin n → Nat) (s t : Fin n) : (rowI m s)[t.val]? = some ((m s t : Nat) : Int) := by
  unfold rowI
  rw [List.getElem?_map, List.getElem?_eq_getElem (by rw [List.length_finRange]; exact t.isLt), List.getElem_finRange]; rfl
theorem rwOf_get (m : Fin n → Fin n → Nat) (s : Fin n) : (rwOf m)[s.val]? = some (rowI m s) := by
  unfold rwOf
  rw [List.getElem?_map, List.getElem?_eq_getElem (by rw [List.length_finRange]; exact s.isLt), List.getElem_finRange]; rfl
theorem rowI_len (m : Fin n → Fin n → Nat) (s : Fin n) : (rowI m s).length = n := by unfold rowI; rw [List.length_map, List.length_finRange]
theorem rwOf_len (m : Fin n → Fin n → Nat) : (rwOf m).length = n := by unfold rwOf; rw [List.length_map, List.length_finRange]
def putT (m : Fin n → Fin n → Nat) (s t : Fin n) (z : Nat) : Fin n → Fin n → Nat := fun a b => if (a = s ∧ b = t) ∨ (a = t ∧ b = s) then z else m a b
theorem TOk.put {m : Fin n → Fin n → Nat} (h : TOk m) {s t : Fin n} (ne : s ≠ t) {z : Nat} (hz : z = 0 ∨ z = 2 ∨ z = 3 ∨ z = 4 ∨ z = 5) : TOk (putT m s t z) := by
  refine ⟨fun a => ?_, fun a b => ?_, fun a b hab => ?_⟩
  · unfold putT
    rw [if_neg]
    · exact h.diag a
    · rintro (⟨h1, h2⟩ | ⟨h1, h2⟩)
      · exact ne (h1.symm.trans h2)
      · exact ne (h2.symm.trans h1)
  · unfold putT
    have : ((a = s ∧ b = t) ∨ (a = t ∧ b = s)) ↔ ((b = s ∧ a = t) ∨ (b = t ∧ a = s)) := by
      constructor
      · rintro (⟨h1, h2⟩ | ⟨h1, h2⟩)
        · exact .inr ⟨h2, h1⟩
        · exact .inl ⟨h2, h1⟩
      · rintro (⟨h1, h2⟩ | ⟨h1, h2⟩)
        · exact .inr ⟨h2, h1⟩
        · exact .inl ⟨h2, h1⟩
    by_cases q : (a = s ∧ b = t) ∨ (a = t ∧ b = s)
    · rw [if_pos q, if_pos (this.mp q)]
    · rw [if_neg q, if_neg (fun z => q (this.mpr z))]
      exact h.sym a b
  · unfold putT
    by_cases q : (a = s ∧ b = t) ∨ (a = t ∧ b = s)
    · rw [if_pos q]; exact hz
    · rw [if_neg q]; exact h.ok a b hab
theorem putT_row1 (m : Fin n → Fin n → Nat) {s t : Fin n} (ne : s ≠ t) (z : Nat) : rowI (putT m s t z) s = (rowI m s).set t.val (z : Int) := by
  apply List.ext_getElem?
  intro i
  by_cases hi : i < n
  · rw [rowI_get (putT m s t z) s ⟨i, hi⟩]
    by_cases q : t.val = i
    · subst q
      rw [List.getElem?_set_self (by rw [rowI_len]; exact hi)]
      unfold putT
      rw [if_pos (.inl ⟨rfl, rfl⟩)]
    · rw [List.getElem?_set_ne q, rowI_get m s ⟨i, hi⟩]
      unfold putT
      rw [if_neg]
      rintro (⟨_, h2⟩ | ⟨h1, _⟩)
      · exact q (by rw [← h2])
      · exact ne h1
  · rw [List.getElem?_eq_none (by rw [rowI_len]; omega), List.getElem?_eq_none (by rw [List.length_set, rowI_len]; omega)]
theorem putT_row2 (m : Fin n → Fin n → Nat) {s t : Fin n} (ne : s ≠ t) (z : Nat) : rowI (putT m s t z) t = (rowI m t).set s.val (z : Int) := by
  have e : putT m s t z = putT m t s z := by
    funext a b
    unfold putT
    have : ((a = s ∧ b = t) ∨ (a = t ∧ b = s)) ↔ ((a = t ∧ b = s) ∨ (a = s ∧ b = t)) := Or.comm
    by_cases q : (a = s ∧ b = t) ∨ (a = t ∧ b = s)
    · rw [if_pos q, if_pos (this.mp q)]
    · rw [if_neg q, if_neg (fun z => q (this.mpr z))]
  rw [e]
  exact putT_row1 m (Ne.symm ne) z
theorem putT_row3 (m : Fin n → Fin n → Nat) {s t a : Fin n} (h1 : a ≠ s) (h2 : a ≠ t) (z : Nat) : rowI (putT m s t z) a = rowI m a := by
  unfold rowI
  apply List.map_congr_left
  intro b _
  unfold putT
  rw [if_neg]
  rintro (⟨h, _⟩ | ⟨h, _⟩)
  · exact h1 h
  · exact h2 h
theorem putT_all (m : Fin n → Fin n → Nat) {s t : Fin n} (ne : s ≠ t) (z : Nat) : ((rwOf m).set s.val ((rowI m s).set t.val (z : Int))).set t.val ((rowI m t).set s.val (z : Int)) = rwOf (putT m s t z) := by
  apply List.ext_getElem?
  intro i
  by_cases hi : i < n
  · rw [rwOf_get (putT m s t z) ⟨i, hi⟩]
    by_cases q : t.val = i
    · subst q
      rw [List.getElem?_set_self (by rw [List.length_set, rwOf_len]; exact hi)]
      exact congrArg some (putT_row2 m ne z).symm
    · rw [List.getElem?_set_ne q]
      by_cases q2 : s.val = i
      · subst q2
        rw [List.getElem?_set_self (by rw [rwOf_len]; exact hi)]
        exact congrArg some (putT_row1 m ne z).symm
      · rw [List.getElem?_set_ne q2, rwOf_get m ⟨i, hi⟩]
        exact congrArg some (putT_row3 m (fun e => q2 (by rw [← e])) (fun e => q (by rw [← e])) z).symm
  · rw [List.getElem?_eq_none (by rw [List.length_set, List.length_set, rwOf_len]; omega), List.getElem?_eq_none (by rw [rwOf_len]; omega)]
end
def rw0 (n : Nat) (i : Nat) : List Int := (List.range n).map fun j => if i = j then 1 else 2
def m0 (n : Nat) : Fin n → Fin n → Nat := fun a b => if a = b then 1 else 2
theorem rw0_eq (n : Nat) : (List.range n).map (rw0 n) = rwOf (m0 n) := by
  have e1 : ∀ s : Fin n, rw0 n s.val = rowI (m0 n) s := fun s => by
    apply List.ext_getElem?
    intro j
    by_cases hj : j < n
    · rw [rowI_get (m0 n) s ⟨j, hj⟩]
      unfold rw0 m0
      rw [List.getElem?_map, List.getElem?_range hj]
      by_cases q : s.val = j
      · have : s = ⟨j, hj⟩ := Fin.ext q
        rw [if_pos this]
        show some (if s.val = j then (1 : Int) else 2) = _
        rw [if_pos q]; rfl
      · have : s ≠ ⟨j, hj⟩ := fun e => q (by rw [e])
        rw [if_neg this]
        show some (if s.val = j then (1 : Int) else 2) = _
        rw [if_neg q]; rfl
    · rw [List.getElem?_eq_none (by unfold rw0; simp; omega), List.getElem?_eq_none (by rw [rowI_len]; omega)]
  apply List.ext_getElem?
  intro i
  by_cases hi : i < n
  · rw [rwOf_get (m0 n) ⟨i, hi⟩, List.getElem?_map, List.getElem?_range hi]
    exact congrArg some (e1 ⟨i, hi⟩)
  · rw [List.getElem?_eq_none (by simp; omega), List.getElem?_eq_none (by rw [rwOf_len]; omega)]
theorem m0_ok (n : Nat) : TOk (m0 n) := by
  refine ⟨fun s => if_pos rfl, fun s t => ?_, fun s t h => ?_⟩
  · unfold m0
    by_cases q : s = t
    · rw [if_pos q, if_pos q.symm]
    · rw [if_neg q, if_neg (fun z => q z.symm)]
  · unfold m0
    rw [if_neg h]; simp
def menuD : List PyData := ([2, 3, 3, 4, 5, 0, 3, 2] : List Int).map .int
theorem menu_ok {d : PyData} (h : d ∈ menuD) : ∃ z : Nat, d = .int (z : Int) ∧ (z = 0 ∨ z = 2 ∨ z = 3 ∨ z = 4 ∨ z = 5) := by
  unfold menuD at h
  obtain ⟨i, hi, e⟩ := List.mem_map.mp h
  simp only [List.mem_cons, List.not_mem_nil, or_false] at hi
  subst e
  rcases hi with h | h | h | h | h | h | h | h <;> subst h
  · exact ⟨2, rfl, by simp⟩
  · exact ⟨3, rfl, by simp⟩
  · exact ⟨3, rfl, by simp⟩
  · exact ⟨4, rfl, by simp⟩
  · exact ⟨5, rfl, by simp⟩
  · exact ⟨0, rfl, by simp⟩
  · exact ⟨3, rfl, by simp⟩
  · exact ⟨2, rfl, by simp⟩
abbrev pm__law_ties (K : PySem.W.Frag) : PmH := ⟨Nat, fun n => 2 ≤ n ∧ n ≤ 3, 0, fun n => [kAny, kd K (.int (n : Int)), kd K (.tuple menuD)], fun _ => oPot, fun _ => oPot, fun n => kExP (fun m : Fin n → Fin n → Nat => TOk m) fun m => kd K (encT m)⟩
/-- rows[s][t] = z -/
theorem t_cell {K : PySem.W.Frag} {F G : Hp} {B : Addr → Prop} {D0 : Addr} {qs : List Addr} {rw : List (List Int)} {Γ : List Wk.Slot} {σ : St} {N H : Hp} {Q : St → Hp → Prop} {a b x : Nat} {s t : Nat} {r : List Int} {z : Int} (RR : Rows F B D0 qs G rw) (S : Stt G (fun a => B a ∨ a ∈ D0 :: qs) Γ σ N H)
    (h3 : Γ[3]? = some (.kn (kIs (.ref D0)))) (ha : Γ[a]? = some (.kn (kd K (.int (s : Int))))) (hb : Γ[b]? = some (.kn (kd K (.int (t : Int))))) (hx : Γ[x]? = some (.kn (kd K (.int z)))) (hr : rw[s]? = some r) (ht : t < r.length) (k : ∀ G' H', Rows F B D0 qs G' (rw.set s (r.set t z)) → Stt G' (fun a => B a ∨ a ∈ D0 :: qs) Γ σ N H' → Q σ H') :
    tVar x σ H fun v H1 => gSub (tOp (rIxL K) (tVar 3) (tVar a)) (tVar b) rSetL v σ H1 Q := by
  obtain ⟨v3, e3, r3⟩ := S.kn h3
  obtain ⟨va, ea, ra⟩ := S.kn ha
  obtain ⟨vb, eb, rb⟩ := S.kn hb
  obtain ⟨vx, ex, rx⟩ := S.kn hx
  have r3 : v3 = .ref D0 := r3
  have ra : Dp K N va (.int (s : Int)) := ra
  have rb : Dp K N vb (.int (t : Int)) := rb
  have rx : Dp K N vx (.int z) := rx
  subst r3
  cases ra; cases rb; cases rx
  have hs : s < qs.length := by rw [RR.len]; exact (List.getElem?_eq_some_iff.mp hr).1
  have hq : qs[s]? = some qs[s] := List.getElem?_eq_getElem hs
  have hH : H D0 = some (.lst (qs.map .ref)) := S.fr _ _ RR.top
  have hrow := RR.row s qs[s] r hq hr
  have hm : qs[s] ∈ D0 :: qs := List.mem_cons_of_mem _ (List.getElem_mem hs)
  have S2 := S.putG (u' := .lst ((r.set t z).map V.int)) hrow (.inr hm)
  refine ⟨_, ex, _, e3, _, ea, D0, qs.map .ref, (s : Int), .ref qs[s], rfl, rfl, SqL.of hH, atI_nat (by rw [List.getElem?_map, hq]; rfl), ?_⟩
  refine ⟨_, eb, qs[s], r.map V.int, (t : Int), t, rfl, rfl, S.fr _ _ hrow, ?_, ?_⟩
  · unfold ixN
    rw [List.length_map, if_pos (by omega), if_pos (by omega)]; simp
  · have := k _ _ (RR.put (r' := r.set t z) hq hr) S2
    rw [List.map_set] at this
    exact this
end Wk
namespace Wk
open PySem L2
section
variable {P : Program} {w : World} {K : PySem.W.Frag} {mg : Str → Option Value} {base : Heap}
abbrev s__law_ties : Stmt := top 117
abbrev Ns__law_ties : List Str := ["_law_pot_here", "_law_size", "_law_menu", "_law_rows", "_law_s", "_law_t", "_law_tie", "_law_row"]
theorem sc__law_ties : FnScope Ns__law_ties ["_law_pot_here", "_law_size", "_law_menu"] (defScope s__law_ties) := ⟨rfl, rfl, rfl, by decide +kernel, rfl, by decide +kernel, by decide +kernel⟩
def t__law_ties (K : PySem.W.Frag) : TS := (tSeq (tAsg (tLc (iRng1 (tCons (tVar 1) tNil)) (gName 4) tYes (tLc (iRng1 (tCons (tVar 1) tNil)) (gName 5) tYes (tIf (tTest (tOp rEq (tVar 4) (tVar 5))) (tC (.int 1)) (tC (.int 2))) [5]) [4]) (gName 3))
    (tSeq (tFor (iRng1 (tCons (tVar 1) tNil)) (gName 4) (tFor (iRng1 (tCons (tVar 4) tNil)) (gName 5) (tSeq (tAsg (tCall (pm__law_pick K).sp [] E0 (tCons (tVar 0) (tCons (tVar 2) tNil))) (gName 6))
    (tSeq (tAsg (tVar 6) (gSub (tOp (rIxL K) (tVar 3) (tVar 4)) (tVar 5) rSetL))
    (tAsg (tVar 6) (gSub (tOp (rIxL K) (tVar 3) (tVar 5)) (tVar 4) rSetL))))))
    (tRet (tCB (rTupOf K) (tCons (tLc (iList K (tVar 3)) (gName 7) tYes (tCB (rTupOf K) (tCons (tVar 7) tNil)) [7]) tNil)))))
theorem sx__law_ties (T : Tx K mg) : (pm__law_ties K).body Ns__law_ties (t__law_ties K) := by
  rintro (n : Nat) ⟨h2, h3⟩
  dsimp only [pm__law_ties]
  show SX _ [_, _, _, _, _, _, _, _] _
  have h2 : 2 ≤ n := h2
  have h3 : n ≤ 3 := h3
  intro F B σ N H D S f
  show tSeq (tAsg (tLc (iRng1 (tCons (tVar 1) tNil)) (gName 4) tYes (tLc (iRng1 (tCons (tVar 1) tNil)) (gName 5) tYes (tIf (tTest (tOp rEq (tVar 4) (tVar 5))) (tC (.int 1)) (tC (.int 2))) [5]) [4]) (gName 3)) _ D σ H
  show tAsg (tLc (iRng1 (tCons (tVar 1) tNil)) (gName 4) tYes (tLc (iRng1 (tCons (tVar 1) tNil)) (gName 5) tYes (tIf (tTest (tOp rEq (tVar 4) (tVar 5))) (tC (.int 1)) (tC (.int 2))) [5]) [4]) (gName 3) _ σ H
  show (tLc (iRng1 (tCons (tVar 1) tNil)) (gName 4) tYes (tLc (iRng1 (tCons (tVar 1) tNil)) (gName 5) tYes (tIf (tTest (tOp rEq (tVar 4) (tVar 5))) (tC (.int 1)) (tC (.int 2))) [5]) [4]) σ H (fun x H1 => gName 3 x σ H1 _)
  refine lc_fresh (K := K) (n := n) (js := [4]) (rw0 n) (iw_range (n := n) (ea_cons (ex_var rfl) ea_nil) (by omega)) (by omega) (no_holds (by kernel_rfl)) (by decide) (fun i hi => ⟨_, by kernel_rfl, gx_name, ?_⟩) F B σ N H _ S fun D0 qs N1 H1 G RR S1 e1 => ?_
  · have e : (rw0 n i).map PyData.int = fins fun j : Fin n => .int (if i = j.val then 1 else 2) := by
      unfold rw0
      rw [List.map_map]
      exact fins_eq (fun j : Fin n => PyData.int (if i = j.val then 1 else 2)) _ fun j => rfl
    rw [e]
    refine exl_lcB (n := n) (src := fun j : Fin n => encF j) (iw_rangeF (ea_cons (ex_var rfl) ea_nil) (by omega)) (fun j => gx_name) (fun j => ex_if (et_test (ex_eqI (ex_var rfl) (ex_var rfl))) (fun e => ex_is (ex_int (K := K)) ?_) fun e => ex_is (ex_int (K := K)) ?_) (by omega)
    · have : i = j.val := by have := of_decide_eq_true e; omega
      rw [if_pos this]
    · have : ¬ i = j.val := by have := of_decide_eq_false e; omega
      rw [if_neg this]
  · rw [rw0_eq] at RR
    have S2 : Stt G (fun a => B a ∨ a ∈ D0 :: qs) [.hel oPot, .kn (kd K (.int (n : Int))), .kn (kd K (.tuple menuD)), .kn (kIs (.ref D0)), .un, .un, .un, .un] (σ.set 3 (some (.ref D0))) N1 H1 := S1.set 3 (v := .ref D0) (R := kIs (.ref D0)) rfl
    refine x_forG (n := n) (Rs := fun i => kd K (.int (i : Int))) (fun i G Γ => ∃ m a b c, TOk m ∧ Rows F B D0 qs G (rwOf m) ∧ Γ = [.hel oPot, .kn (kd K (.int (n : Int))), .kn (kd K (.tuple menuD)), .kn (kIs (.ref D0)), a, b, c, .un]) (iw_range (n := n) (ea_cons (ex_var rfl) ea_nil) (by omega)) S2 ⟨m0 n, _, _, _, m0_ok n, RR, rfl⟩ ?_ ?_
    · rintro i G Γ hi ⟨m, a, b, c, hm, RR, rfl⟩
      refine ⟨[.hel oPot, .kn (kd K (.int (n : Int))), .kn (kd K (.tuple menuD)), .kn (kIs (.ref D0)), .kn (kd K (.int (i : Int))), b, c, .un], [4], gx_name, fun σ N H D' S k => ?_⟩
      refine x_forG (n := i) (Rs := fun j => kd K (.int (j : Int))) (fun j G Γ => ∃ m b c, TOk m ∧ Rows F B D0 qs G (rwOf m) ∧ Γ = [.hel oPot, .kn (kd K (.int (n : Int))), .kn (kd K (.tuple menuD)), .kn (kIs (.ref D0)), .kn (kd K (.int (i : Int))), b, c, .un]) (iw_range (n := i) (ea_cons (ex_var rfl) ea_nil) (by omega)) S ⟨m, _, _, hm, RR, rfl⟩ ?_ ?_
      · rintro j G Γ hj ⟨m, b, c, hm, RR, rfl⟩
        refine ⟨[.hel oPot, .kn (kd K (.int (n : Int))), .kn (kd K (.tuple menuD)), .kn (kIs (.ref D0)), .kn (kd K (.int (i : Int))), .kn (kd K (.int (j : Int))), c, .un], [5], gx_name, fun σ N H D' S k => ?_⟩
        have hjn : j < n := by omega
        have ne : (⟨i, hi⟩ : Fin n) ≠ ⟨j, hjn⟩ := fun e => by
          have := congrArg Fin.val e
          dsimp only at this
          omega
        refine ex_pmH (pm__law_pick K) menuD (eah_here (j := 0) rfl rfl (ea_cons (ex_var rfl) ea_nil)) ⟨by decide, by decide⟩ rfl (.inr rfl) rfl G _ σ N H _ S fun v N5 H5 S5 e5 r5 => ?_
        obtain ⟨dd, hd, r5⟩ := r5
        obtain ⟨z, ez, hz⟩ := menu_ok hd
        subst ez
        have S6 : Stt G (fun a => B a ∨ a ∈ D0 :: qs) [.hel oPot, .kn (kd K (.int (n : Int))), .kn (kd K (.tuple menuD)), .kn (kIs (.ref D0)), .kn (kd K (.int (i : Int))), .kn (kd K (.int (j : Int))), .kn (kd K (.int (z : Int))), .un] (σ.set 6 (some v)) N5 H5 := S5.set 6 (R := kd K (.int (z : Int))) r5
        refine t_cell (s := i) (t := j) (a := 4) (b := 5) (x := 6) (z := (z : Int)) RR S6 rfl rfl rfl rfl (rwOf_get m ⟨i, hi⟩) (by rw [rowI_len]; exact hjn) fun G7 H7 RR7 S7 => ?_
        refine t_cell (s := j) (t := i) (a := 5) (b := 4) (x := 6) (z := (z : Int)) RR7 S7 rfl rfl rfl rfl (by rw [List.getElem?_set_ne (by omega)]; exact rwOf_get m ⟨j, hjn⟩) (by rw [rowI_len]; exact hi) fun G8 H8 RR8 S8 => ?_
        have e := putT_all m ne z
        dsimp only at e
        rw [e] at RR8
        exact k _ G8 _ N5 H8 ⟨putT m ⟨i, hi⟩ ⟨j, hjn⟩ z, _, _, hm.put ne hz, RR8, rfl⟩ e5 S8
      · rintro σ G2 Γ2 N2 H2 ⟨m, b, c, hm, RR, rfl⟩ e2 S2
        exact k σ G2 _ N2 H2 ⟨m, _, _, _, hm, RR, rfl⟩ e2 S2
    · rintro σ G2 Γ2 N2 H2 ⟨m, a, b, c, hm, RR, rfl⟩ e2 S2
      obtain ⟨S3, e3⟩ := S2.free RR.off RR.live
      have hN : ∀ q, q ∈ D0 :: qs → addAll N2 G2 (D0 :: qs) q = G2 q := fun q hq => if_pos hq
      have rows : (kL K (fins fun s : Fin n => .list ((rowI m s).map .int))).p (addAll N2 G2 (D0 :: qs)) (.ref D0) := by
        refine ⟨D0, qs.map .ref, rfl, by rw [hN D0 List.mem_cons_self]; exact RR.top, ?_⟩
        have all : ∀ (qs' : List Addr) (l : List (Fin n)), qs'.length = l.length → (∀ (i : Nat) (q : Addr) (s : Fin n), qs'[i]? = some q → l[i]? = some s → addAll N2 G2 (D0 :: qs) q = some (.lst ((rowI m s).map V.int))) → DpAll K (addAll N2 G2 (D0 :: qs)) (qs'.map .ref) (l.map fun s => .list ((rowI m s).map .int)) := by
          intro qs'
          induction qs' with
          | nil =>
            intro l hl hq
            have : l = [] := List.length_eq_zero_iff.mp hl.symm
            subst this
            exact .nil
          | cons q qs' ih =>
            intro l hl hq
            cases l with
            | nil => cases hl
            | cons s l =>
              refine .cons (.lst (SqL.of (hq 0 q s rfl rfl)) (ints_dpAll _)) (ih l (by simpa using hl) fun i p t h1 h2 => hq (i + 1) p t (by simpa using h1) (by simpa using h2))
        refine all qs (List.finRange n) (by rw [RR.len, rwOf_len, List.length_finRange]) fun i q s h1 h2 => ?_
        rw [hN q (List.mem_cons_of_mem _ (List.mem_of_getElem? h1))]
        refine RR.row i q (rowI m s) h1 ?_
        unfold rwOf
        rw [List.getElem?_map, h2]; rfl
      obtain ⟨v3, ev, r3⟩ := S3.kn (i := 3) rfl
      have r3 : v3 = .ref D0 := r3
      subst r3
      have S4 := S3.same ev rows
      have hsz : n ≤ 1000 := by omega
      refine sx_ret (P := { rt := kEnd 0 oPot (kExP (fun m : Fin n → Fin n → Nat => TOk m) fun m => kd K (encT m)), nx := fun Γ => Γ[0]? = some (.hel oPot) ∧ ∀ N, (kExP (fun m : Fin n → Fin n → Nat => TOk m) fun m => kd K (encT m)).p N .non }) (ex_end (ex_toEx m hm (ex_tupL (ds := fins fun s : Fin n => encRow (m s)) (exl_lcB (n := n) (src := fun s : Fin n => .list ((rowI m s).map .int)) (f := fun s : Fin n => encRow (m s)) (iw_listF (ex_varL (i := 3) rfl)) (fun s => gx_name) (fun s => ex_is (ex_tupK (ds := (rowI m s).map .int) (ex_var rfl)) ?_) hsz (hv := fun i hi γ hγ => ?_)))) rfl) F B _ _ H2 D S4 f
      · unfold rowI encRow fins
        rw [List.map_map]; rfl
      · have : i = 7 := by simpa using hi
        subst this
        have : γ = .un := by simpa using hγ.symm
        rw [this]; rfl
theorem ok__law_ties (T : Tx K mg) (c__law_pick : C8.Cal P w K mg base 2 "_law_pick" (pm__law_pick K).sp []) {f : Addr} {fd : FuncData} (F : FnP K "_law_ties" "_law_ties" s__law_ties f fd) : FnOk P w K mg base CX0 3 f fd ["_law_pot_here", "_law_size", "_law_menu"] (pm__law_ties K).sp := by
  have sc := sc__law_ties
  refine F.ok sc (fun vs H Q E h => PmH.len (fun _ => rfl) vs H Q E h) (fun cdv A outer s H vs Q E hr h => ⟨t__law_ties K, PSs.nox ?_, PmH.go (sx__law_ties T) vs H Q E h⟩)
  exact (pss_cons (ps_setLc (i := 3) (own := [("_law_s", 4)]) (g := (gName 4)) (tt := tYes) (te := (tLc (iRng1 (tCons (tVar 1) tNil)) (gName 5) tYes (tIf (tTest (tOp rEq (tVar 4) (tVar 5))) (tC (.int 1)) (tC (.int 2))) [5])) rfl sc.nd rfl rfl (sw_true rfl rfl rfl (by decide +kernel)) (pi_range1 rfl T.range_ (pa_cons (pv 1) pa_nil)) (blkOk_by (own := [("_law_s", 4)]) (N := Ns__law_ties) (sc := defScope s__law_ties) (by decide +kernel)) (fun _ _ _ _ _ => (pg_name (i := 4) sc.nd rfl (by first | exact Or.inl rfl | exact Or.inr rfl))) (fun _ _ _ _ _ => pts_nil) (fun _ _ _ _ _ => (pe_lc (own := [("_law_t", 5)]) (g := (gName 5)) (tt := tYes) (te := (tIf (tTest (tOp rEq (tVar 4) (tVar 5))) (tC (.int 1)) (tC (.int 2)))) rfl sc.nd (pi_range1 rfl T.range_ (pa_cons (pv 1) pa_nil)) (blkOk_by (by kernel_rfl)) (fun _ _ _ _ _ => (pg_name (i := 5) sc.nd rfl (by first | exact Or.inl rfl | exact Or.inr rfl))) (fun _ _ _ _ _ => pts_nil) (fun _ _ _ _ _ => (pe_ifExp (pt_cmpR op_eq (pv 4) (pv 5) (nomark _)) pe_int pe_int)))))
      (pss_cons (ps_for PassesOwn.never rfl (pi_range1 rfl T.range_ (pa_cons (pv 1) pa_nil)) (pg_name (i := 4) sc.nd rfl (by first | exact Or.inl rfl | exact Or.inr rfl)) (pss_one (ps_for PassesOwn.never rfl (pi_range1 rfl T.range_ (pa_cons (pv 4) pa_nil)) (pg_name (i := 5) sc.nd rfl (by first | exact Or.inl rfl | exact Or.inr rfl)) (pss_cons (ps_set (i := 6) sc.nd rfl (by first | exact Or.inl rfl | exact Or.inr rfl) (C8.pe_c c__law_pick hr (by decide) rfl (pa_cons (pv 0) (pa_cons (pv 2) pa_nil))))
      (pss_cons (ps_asg (pv 6) (pg_sub (pe_ix ix_list (pv 3) (pv 4) (fun _ _ => rfl)) (pv 5) set_list))
      (pss_one (ps_asg (pv 6) (pg_sub (pe_ix ix_list (pv 3) (pv 5) (fun _ _ => rfl)) (pv 4) set_list))))))))
      (pss_one (ps_ret (pe_callTy call_tuple_of rfl T.tuple_ (by decide +kernel) (pa_cons (pe_lc (own := [("_law_row", 7)]) (g := (gName 7)) (tt := tYes) (te := (tCB (rTupOf K) (tCons (tVar 7) tNil))) rfl sc.nd (pi_list (pv 3)) (blkOk_by (own := [("_law_row", 7)]) (N := Ns__law_ties) (sc := defScope s__law_ties) (by decide +kernel)) (fun _ _ _ _ _ => (pg_name (i := 7) sc.nd rfl (by first | exact Or.inl rfl | exact Or.inr rfl))) (fun _ _ _ _ _ => pts_nil) (fun _ _ _ _ _ => (pe_callTy call_tuple_of rfl T.tuple_ (by decide +kernel) (pa_cons (pv 7) pa_nil)))) pa_nil))))))
end
end Wk
namespace PySem
open Sem (wp)
section
variable {prog : Program} {w : World} {K : Type} [DecidableEq K] {knd : HeapKind prog w K} {A : Around} {E : Value → Shared → Prop} {s : Shared} {d a : Addr} {k : K} {xs : List (K × Addr × Value)}
/-- key not in a dict of such keys -/
theorem wk_notin_heap {Q : Value → Shared → Prop} (hu : knd.room A.in1) (hkey : knd.is s.heap k a) (hd : (d == sysModules) = false) (hm : s.heap.DictOfH knd d xs)
    (h : Q (.bool (!(atKey xs k).isSome)) { s with toks := s.toks + knd.draws k }) : wpAny (model prog w) A (compareOp .NotIn (.ref a) (.ref d)) Q E s := by
  show wpAny _ _ (do return .bool (!(← contains (.ref d) (.ref a)))) Q E s
  refine wpAny_bind ?_
  unfold contains
  try with_reducible refine wpAny_holding ?_
  refine wpAny_bind (wpAny_specialOf hm.typeIs slot_dict_contains.lookup ?_)
  show wpAny _ _ (if (some (Value.builtin "dict.__contains__") == some Value.none) = true then _ else _) _ E s
  rw [if_neg (by rw [beq_builtin_none]; exact Bool.false_ne_true)]
  refine wpAny_bind (wpAny_callSpecialUnlessNone?_slot (name := Str.ofString "__contains__") hm.typeIs slot_dict_contains
    (wpAny_call_entry slot_dict_contains hm.typeIs entry_dict_contains ?_ (args_dict_contains _ _)))
  show wpAny _ _ (dictGet d (.ref a) >>= _) _ _ s
  refine wpAny_bind (wpAny_dictGet_heap hu hkey hm ?_)
  cases hf : atKey xs k with
  | some p =>
    rw [hf] at h
    show wpAny _ _ (ret (.bool true)) _ _ _
    exact wpAny_pure ⟨_, rfl, wpAny_truthy_bool (wpAny_pure h)⟩
  | none =>
    rw [hf] at h
    show wpAny _ _ (Builtin.Dict.pendingKey? d (.ref a) >>= _) _ _ _
    exact wpAny_bind (wpAny_pendingKey_other hd (wpAny_pure ⟨_, rfl, wpAny_truthy_bool (wpAny_pure h)⟩))
end
end PySem
namespace Wk
open PySem L2
def rNotInKD (K : PySem.W.Frag) (w : World) : R2 := fun y x H Q => ∃ b a d xs dk, y = .ref b ∧ x = .ref a ∧ H a = some (KDat w d xs) ∧ (∀ e ∈ xs, EntOk K H e) ∧ (xs.map (·.1)).Nodup ∧ iT 4 dk = true ∧ Dp K H (.ref b) dk ∧ Q (.bl (!(atKey xs (nk dk)).isSome)) H
/-- x is False, x being None or an object -/
def rIsF : R2 := fun x y H Q => y = .bl false ∧ (x = .non ∨ ∃ a, x = .ref a) ∧ Q (.bl false) H
section
variable {X : Cx}
theorem op_notInKD (hu : X.A.units + 64 < cLine) : OpR X (compareOp .NotIn) (rNotInKD X.K X.w) := by
  intro pins s σ H x y v u Q I rx ry h
  obtain ⟨b, a, d, xs, dk, rfl, rfl, e, he, nd, t, hk, q⟩ := h
  cases rx
  cases ry
  have := kd_same I.hok e
  subst this
  obtain ⟨hm, hd⟩ := kd_of I e he nd
  exact wk_notin_heap (show X.A.in1.units + 8 < cLine by show X.A.units + 1 + 8 < cLine; omega) (key_of I t hk) hd hm ⟨.bl _, H, I.tok _, rfl, q⟩
theorem op_isF : OpR X (compareOp .Is) rIsF := by
  intro pins s σ H x y v u Q I rx ry h
  obtain ⟨rfl, hx, q⟩ := h
  cases (show u = Value.bool false from ry)
  rcases hx with rfl | ⟨a, rfl⟩
  · cases (show v = Value.none from rx)
    exact wpAny_is_other rfl (by intro z; cases z) ⟨.bl false, H, I, rfl, q⟩
  · cases (show v = Value.ref a from rx)
    exact wpAny_is_other rfl (by intro z; cases z) ⟨.bl false, H, I, rfl, q⟩
end
/-! ### a def called with keywords only -/
structure CalK (P : Program) (w : World) (K : PySem.W.Frag) (mg : Str → Option Value) (base : Heap) (k : Nat) (x : Str) (sp : Sp) (ks : List Str) : Prop where
  ex : ∃ (f : Addr) (fd : FuncData) (ps : List Str), FnOk P w K mg base C8.CX0 k f fd ps sp ∧ mg x = some (.ref f) ∧ PySem.W.keepIn K (.ref f) = true ∧ KBn K fd ps 0 ks (fun us ws => us ++ ws) (fun vs zs => vs ++ zs)
section
variable {X : Cx} {k j n : Nat} {ks : List Str} {sp : Sp} {x : Str} {p pos : Pos} {kws : List Keyword} {t tk : TA}
theorem pe_callK0 (c : CalK X.prog X.w X.K X.mg X.base k x sp ks) (hr : Room j X.A) (hk : k ≤ j) (hg : Gl X x) (hkw : PK X kws tk)
    (hall : (backToKw pos (keywordEach kws X.env)).all (·.1.isSome) = true := by rfl) (hks : (backToKw pos (keywordEach kws X.env)).filterMap (·.1) = ks := by rfl) (hdb : (x == ("__debug__" : Str)) = false := by decide)
    (hpl : ((backTo pos (starEach [] X.env)).any (·.1) || (backToKw pos (keywordEach kws X.env)).any (·.1.isNone)) = false := by rfl) :
    PE X (.Call (.Name x p) [] kws pos) (tCallN 0 ks.length sp (fun vs zs => vs ++ zs) C8.E0 tNil tk) := by
  obtain ⟨f, fd, ps, F, hm, kp, hb⟩ := c.ex
  refine ⟨fun pins s σ H Q I h => ?_⟩
  refine wpAny_Call_Name_kw (ld_glob I hg hm ?_ hdb)
  refine PySem.W.callWith_KW0 (h₀ := X.base) I.ok.mod.kin kp hall ?_ hpl
  refine thn (hkw.run pos pins s σ H _ I h) fun ws s2 ⟨zs, H2, I2, rz, l1, l2, q2⟩ => ⟨I2.kIn, ?_⟩
  rw [hks]
  exact run_fnN (us := []) (vs := []) F (hr.mono hk) hb C8.pass0 I2 .nil rz rfl l2 q2
end
section
variable {K : PySem.W.Frag} {x qual : Str} {params : Arguments} {body : List Stmt} {scope : Scope} {f : Addr} {fd : FuncData} {ps : List Str}
/-- what a call with keywords only binds: no defaults, every name written -/
theorem kbindsK (F : FunD K x qual params body scope [] [] f fd) (ks : List Str)
    (h : ∀ (kV doc pm : Value) (an : Option Addr) (cdv ct : Value) (ws : List Value), ws.length = ks.length → bindArgs (PySem.W.fnOf x qual params body scope .none kV doc pm an cdv ct) ⟨[], ks.zip ws⟩ = pure (ps.zip ws)) : KBn K fd ps 0 ks (fun us ws => us ++ ws) (fun vs zs => vs ++ zs) := by
  obtain ⟨oc, od, dV, kV, doc, pm, an, cdv, ct, osl, rfl, lk, hcd, hD, hK⟩ := F.ex
  rcases hD with ⟨_, rfl⟩ | ⟨e, _⟩
  · refine ⟨fun s us ws X l1 l2 => ?_, fun r1 r2 => r1.append r2⟩
    cases List.length_eq_zero_iff.mp l1
    exact .of_eq (h kV doc pm an cdv ct ws l2)
  · exact absurd rfl e
end
section
variable {K : PySem.W.Frag} {Γ : List Wk.Slot} {te : TE} {tk : TA}
theorem ex_pmKw {E : XK} {m : Nat} (p : Pm) (i : p.ι) (hk : EA tk Γ (p.args i)) (hp : p.pre i) (hm : (p.args i).length = m) : EX (tCallN 0 m p.sp (fun vs zs => vs ++ zs) E tNil tk) Γ (p.res i) := fun F B σ N H Q S k =>
  hk F B σ N H _ S fun zs N1 H1 S1 e1 r1 => ⟨rfl, by rw [r1.len, hm], i, N1, S1.sub, hp, r1, fun v N2 H2 a1 a2 a3 a4 r2 => k v N2 H2 (S1.grow a2 a1 a3 a4) (e1.trans a2) r2⟩
theorem ex_ixL0 {d : PyData} {ds : List PyData} (ha : EX te Γ (kd K (.list (d :: ds)))) : EX (tOp (rIxL K) te (tC (.int 0))) Γ (kd K d) := ex_ixL ha ex_int (atI_nat (j := 0) rfl)
theorem ex_ixL1 {d0 d : PyData} {ds : List PyData} (ha : EX te Γ (kd K (.list (d0 :: d :: ds)))) : EX (tOp (rIxL K) te (tC (.int 1))) Γ (kd K d) := ex_ixL ha ex_int (atI_nat (j := 1) rfl)
theorem ex_ixL2 {d0 d1 d : PyData} {ds : List PyData} (ha : EX te Γ (kd K (.list (d0 :: d1 :: d :: ds)))) : EX (tOp (rIxL K) te (tC (.int 2))) Γ (kd K d) := ex_ixL ha ex_int (atI_nat (j := 2) rfl)
/-- x is False: x known as None or a tuple -/
theorem ex_isF {d : PyData} (hd : ∀ N v, Dp K N v d → v = .non ∨ ∃ a, v = .ref a) (h : EX te Γ (kd K d)) : EX (tOp rIsF te (tC (.bl false))) Γ (kd K (.bool false)) := fun F B σ N H Q S k =>
  h F B σ N H _ S fun v N1 H1 S1 e1 r1 => ⟨rfl, hd N1 v r1, k _ N1 H1 S1 e1 (.bl false)⟩
end
end Wk
namespace Wk
open PySem L2
namespace W
section
variable {n : Nat} {S : Sys n}
/-- told, of any two -/
theorem told_all (u y : W S) (most : Int) : Told u y most (told u y most) := by
  have := told_word u (w := first y) (by rw [first_mk, first_len]) most
  rwa [first_mk] at this
theorem Told.symm {u y : W S} {most : Int} {r : Option (W S)} (h : Told u y most r) : Told y u most r := by
  cases r with
  | none => exact fun x a b => h x b a
  | some z => exact ⟨h.1.symm, h.2⟩
theorem told_symm (u y : W S) (most : Int) : told y u most = told u y most := (told_of (told_all u y most).symm).symm
/-- what is left of the least one has no back button in common -/
theorem Lub.off {u y z : W S} (h : Lub u y z) {s : Fin n} (h1 : isBack (u⁻¹ * z) s = true) (h2 : isBack (y⁻¹ * z) s = true) : False := by
  have one : ∀ {v : W S}, beg v z → isBack (v⁻¹ * z) s = true → beg v (z * gen s) ∧ len (z * gen s) + 1 = len z := fun {v} hv hb => by
    have b := isBack_iff.mp hb
    have hv' : len z = len v + len (v⁻¹ * z) := hv
    have l := len_mul v (v⁻¹ * z * gen s)
    rw [mul_assoc, mul_inv_left] at l
    rw [mul_assoc] at b
    have r := len_right z s
    refine ⟨?_, by omega⟩
    show len (z * gen s) = len v + len (v⁻¹ * (z * gen s))
    omega
  obtain ⟨a1, l1⟩ := one h.one h1
  obtain ⟨a2, _⟩ := one h.other h2
  have := beg_le (h.least _ a1 a2)
  omega
/-- the least continuation of three -/
def Told3 (a b c : W S) (m : Int) : Option (W S) → Prop
  | some z => (beg a z ∧ beg b z ∧ beg c z ∧ ∀ x, beg a x → beg b x → beg c x → beg z x) ∧ (len z : Int) ≤ m
  | none => ∀ x, beg a x → beg b x → beg c x → m < (len x : Int)
theorem Told3.one {a b c : W S} {m : Int} {r r' : Option (W S)} (h : Told3 a b c m r) (k : Told3 a b c m r') : r = r' := by
  cases r with
  | none =>
    cases r' with
    | none => rfl
    | some z =>
      have := h z k.1.1 k.1.2.1 k.1.2.2.1
      have := k.2
      omega
  | some z =>
    cases r' with
    | none =>
      have := k z h.1.1 h.1.2.1 h.1.2.2.1
      have := h.2
      omega
    | some z' =>
      rw [beg_antisymm (h.1.2.2.2 _ k.1.1 k.1.2.1 k.1.2.2.1) (k.1.2.2.2 _ h.1.1 h.1.2.1 h.1.2.2.1)]
theorem near3 (a b c : W S) (m : Int) : Told3 a b c m ((told a b m).bind fun z => told z c m) := by
  have h := told_all a b m
  cases q : told a b m with
  | none =>
    rw [q] at h
    exact fun x h1 h2 _ => h x h1 h2
  | some z =>
    rw [q] at h
    have k := told_all z c m
    show Told3 a b c m (told z c m)
    cases q2 : told z c m with
    | none =>
      rw [q2] at k
      exact fun x h1 h2 h3 => k x (h.1.least x h1 h2) h3
    | some t =>
      rw [q2] at k
      exact ⟨⟨beg_trans h.1.one k.1.one, beg_trans h.1.other k.1.one, k.1.other, fun x h1 h2 h3 => k.1.least x (h.1.least x h1 h2) h3⟩, k.2⟩
theorem far3 (a b c : W S) (m : Int) : Told3 a b c m ((told b c m).bind fun z => told a z m) := by
  have h := told_all b c m
  cases q : told b c m with
  | none =>
    rw [q] at h
    exact fun x _ h2 h3 => h x h2 h3
  | some z =>
    rw [q] at h
    have k := told_all a z m
    show Told3 a b c m (told a z m)
    cases q2 : told a z m with
    | none =>
      rw [q2] at k
      exact fun x h1 h2 h3 => k x h1 (h.1.least x h2 h3)
    | some t =>
      rw [q2] at k
      exact ⟨⟨k.1.one, beg_trans h.1.one k.1.other, beg_trans h.1.other k.1.other, fun x h1 h2 h3 => k.1.least x h1 (h.1.least x h2 h3)⟩, k.2⟩
theorem brackets (a b c : W S) (m : Int) : ((told a b m).bind fun z => told z c m) = ((told b c m).bind fun z => told a z m) := (near3 a b c m).one (far3 a b c m)
theorem told_beg {u y : W S} (h : beg y u) {m : Int} (hm : (len u : Int) ≤ m) : told u y m = some u := (told_of (show Told u y m (some u) from ⟨lub_of_beg h, hm⟩)).symm
/-- a reduced word -/
def Red (w : List (Fin n)) : Prop := len (mk w : W S) = w.length
theorem red_take {w : List (Fin n)} (h : Red (S := S) w) (k : Nat) : Red (S := S) (w.take k) := by
  unfold Red at h ⊢
  have e : (mk w : W S) = mk (w.take k) * mk (w.drop k) := by rw [← mk_append, List.take_append_drop]
  rw [e] at h
  have l1 := len_mul (mk (w.take k) : W S) (mk (w.drop k))
  have l2 := len_le (S := S) (w.take k)
  have l3 := len_le (S := S) (w.drop k)
  have l4 : w.length = (w.take k).length + (w.drop k).length := by rw [← List.length_append, List.take_append_drop]
  omega
theorem red_first (g : W S) : Red (S := S) (first g) := by unfold Red; rw [first_mk, first_len]
end
end W
abbrev Red (X : Tb) (w : List (Fin X.n)) : Prop := W.Red (S := X.sys) w
theorem lft_iff {X : Tb} {w z : List (Fin X.n)} (hw : Red X w) (hz : Red X z) : lft X w z = true ↔ W.beg (W.mk w : W X.sys) (W.mk z) := by
  unfold lft
  rw [decide_eq_true_iff]
  unfold W.beg
  rw [show W.len (W.mk z : W X.sys) = z.length from hz, show W.len (W.mk w : W X.sys) = w.length from hw]
  exact ⟨fun h => h.symm, fun h => h.symm⟩
theorem least1_lub {X : Tb} {w v : List (Fin X.n)} {z : W X.sys} (hw : Red X w) (hv : Red X v) (h : W.Lub (W.mk w) (W.mk v) z) : least1 X w v (W.first z) = true := by
  unfold least1
  rw [(lft_iff hw (W.red_first z)).mpr (by rw [W.first_mk]; exact h.one), (lft_iff hv (W.red_first z)).mpr (by rw [W.first_mk]; exact h.other), W.first_mk]
  show apart _ _ = true
  unfold apart
  rw [List.isEmpty_iff, List.filter_eq_nil_iff]
  intro s h1 h2
  rw [decide_eq_true_iff] at h2
  exact h.off (W.backs_mem.mp h1) (W.backs_mem.mp h2)
/-- a word or None -/
noncomputable def wD {X : Tb} : Option (W X.sys) → PyData
  | none => .none
  | some z => encW (W.first z)
theorem wD_ref {X : Tb} {K : PySem.W.Frag} (r : Option (W X.sys)) : ∀ N v, Dp K N v (wD r) → v = .non ∨ ∃ a, v = .ref a := fun N v h => by
  cases r with
  | none => cases h; exact .inl rfl
  | some z => cases h with | tup hs _ => exact .inr ⟨_, rfl⟩
/-! ### promises -/
abbrev Xwvi := (X : Tb) × (List (Fin X.n) × List (Fin X.n) × Int)
def NoneTo (X : Tb) (w v : List (Fin X.n)) (m : Int) : Prop := ∀ x : W X.sys, W.beg (W.mk w) x → W.beg (W.mk v) x → m < (W.len x : Int)
abbrev pm__law_is_none (K : PySem.W.Frag) : Pm := ⟨Xwvi, fun i => Red i.1 i.2.1 ∧ Red i.1 i.2.2.1 ∧ i.2.1.length ≤ 3 ∧ i.2.2.1.length ≤ 3 ∧ 0 ≤ i.2.2.2 ∧ i.2.2.2 ≤ 5 ∧ NoneTo i.1 i.2.1 i.2.2.1 i.2.2.2, fun i => [kd K (encT i.1.m), kd K (encW i.2.1), kd K (encW i.2.2.1), kd K (.int i.2.2.2)], fun _ => kd K (.bool true)⟩
noncomputable abbrev pm__law_continued (K : PySem.W.Frag) : Pm := ⟨Xwvi, fun i => Red i.1 i.2.1 ∧ Red i.1 i.2.2.1 ∧ i.2.1.length ≤ 3 ∧ i.2.2.1.length ≤ 3 ∧ 3 ≤ i.2.2.2 ∧ i.2.2.2 ≤ 9, fun i => [kTab K i.1, kd K (.list [encW i.2.1, encW i.2.2.1]), kd K (.int i.2.2.2)], fun i => kd K (wD (W.told (W.mk i.2.1 : W i.1.sys) (W.mk i.2.2.1) i.2.2.2))⟩
abbrev Xabc := (X : Tb) × (List (Fin X.n) × List (Fin X.n) × List (Fin X.n) × Int)
abbrev pm__law_bracketed (K : PySem.W.Frag) : Pm := ⟨Xabc, fun i => Red i.1 i.2.1 ∧ Red i.1 i.2.2.1 ∧ Red i.1 i.2.2.2.1 ∧ i.2.1.length ≤ 3 ∧ i.2.2.1.length ≤ 3 ∧ i.2.2.2.1.length ≤ 3 ∧ 3 ≤ i.2.2.2.2 ∧ i.2.2.2.2 ≤ 9, fun i => [kTab K i.1, kd K (.list [encW i.2.1, encW i.2.2.1, encW i.2.2.2.1]), kd K (.int i.2.2.2.2)], fun _ => kd K (.bool true)⟩
abbrev pm__law_right (K : PySem.W.Frag) : PmH := ⟨Unit, fun _ => True, 0, fun _ => [kAny], fun _ => oPot, fun _ => oPot, fun _ => kd K (.bool true)⟩
abbrev pm_law (K : PySem.W.Frag) : Pm := ⟨List Int, fun ns => ns.length ≤ 63, fun ns => [kScript K ns], fun _ => kd K (.bool true)⟩
end Wk
namespace Wk
open PySem L2
section
variable {P : Program} {w : World} {K : PySem.W.Frag} {mg : Str → Option Value} {base : Heap}
abbrev s__law_continued : Stmt := top 135
abbrev Ns__law_continued : List Str := ["_law_table", "_law_words", "_law_most", "_law_one", "_law_two", "_law_told", "_law_again"]
theorem sc__law_continued : FnScope Ns__law_continued ["_law_table", "_law_words", "_law_most"] (defScope s__law_continued) := ⟨rfl, rfl, rfl, by decide +kernel, rfl, by decide +kernel, by decide +kernel⟩
def t__law_continued (K : PySem.W.Frag) : TS := (tSeq (tPar 3 4 (tCons (tMake (He.ga K "Change") (pm_Change_init K).sp [.non] E0 (tCons (tVar 0) (tCons (tOp (rIxL K) (tVar 1) (tC (.int 0))) tNil))) (tCons (tMake (He.ga K "Change") (pm_Change_init K).sp [.non] E0 (tCons (tVar 0) (tCons (tOp (rIxL K) (tVar 1) (tC (.int 1))) tNil))) tNil)))
    (tSeq (tPar 5 6 (tCons (tCall (pm_least_continuation K).sp [] E0 (tCons (tVar 3) (tCons (tVar 4) (tCons (tVar 2) tNil)))) (tCons (tCallN 0 (["change", "other", "most"] : List Str).length (pm_least_continuation K).sp (fun vs zs => vs ++ zs) E0 tNil (tCons (tVar 4) (tCons (tVar 3) (tCons (tVar 2) tNil)))) tNil)))
    (tSeq (tIfS (tOr (tB (tIsN (tVar 5))) (tB (tIsN (tVar 6)))) (tSeq (tIfS (tOr (tB (tNotN (tVar 5))) (tB (tNotN (tVar 6)))) (tRet (tC (.bl false))) tNext)
    (tRet (tIf (tB (tCall (pm__law_is_none K).sp [] E0 (tCons (tFld K (tVar 0) "ties") (tCons (tOp (rIxL K) (tVar 1) (tC (.int 0))) (tCons (tOp (rIxL K) (tVar 1) (tC (.int 1))) (tCons (tCB rMin2 (tCons (tVar 2) (tCons (tC (.int 5)) tNil))) tNil)))))) (tC .non) (tC (.bl false))))) tNext)
    (tSeq (tIfS (tOr (tTest (tOp (rOwn (He.ga K "Change") (pm_Change_eq K).sp not) (tVar 5) (tVar 6))) (tOr (tTest (tOp (rI0 fun i j => .bl (decide (j < i))) (tProp (He.ga K "Change") (pm_Change_length K).sp [] E0 (tVar 5)) (tVar 2))) (tNot (tB (tCall (pm__law_is_least_one K).sp [] E0 (tCons (tFld K (tVar 0) "ties") (tCons (tOp (rIxL K) (tVar 1) (tC (.int 0))) (tCons (tOp (rIxL K) (tVar 1) (tC (.int 1))) (tCons (tProp (He.ga K "Change") (pm_Change_word K).sp [] E0 (tVar 5)) tNil))))))))) (tRet (tC (.bl false))) tNext)
    (tRet (tIf (tAnd (tTest (tOp (rOwn (He.ga K "Change") (pm_Change_eq K).sp id) (tCall (pm_common_front K).sp [] E0 (tCons (tVar 3) (tCons (tVar 5) tNil))) (tVar 3))) (tB (tCall (pm_begins K).sp [] E0 (tCons (tVar 4) (tCons (tVar 5) tNil))))) (tProp (He.ga K "Change") (pm_Change_word K).sp [] E0 (tVar 5)) (tC (.bl false))))))))
theorem sx__law_continued (T : Tx K mg) : (pm__law_continued K).body Ns__law_continued (t__law_continued K) := by
  rintro ⟨X, a, b, m⟩ ⟨ra, rb, la, lb, m3, m9⟩
  dsimp only [pm__law_continued]
  show SX _ [_, _, _, _, _, _, _] _
  have la : a.length ≤ 3 := la
  have lb : b.length ≤ 3 := lb
  have m3 : 3 ≤ m := m3
  have m9 : m ≤ 9 := m9
  have ga : W.len (W.mk a : W X.sys) = a.length := ra
  have gb : W.len (W.mk b : W X.sys) = b.length := rb
  refine q_par (R1 := kChg K X (W.mk a)) (R2 := kChg K X (W.mk b)) (ea_cons (ex_mkChange ⟨X, a⟩ (ea_cons (ex_var rfl) (ea_cons (ex_ixL0 (ex_var rfl)) ea_nil)) (by show a.length ≤ 60; omega)) (ea_cons (ex_mkChange ⟨X, b⟩ (ea_cons (ex_var rfl) (ea_cons (ex_ixL1 (ex_var rfl)) ea_nil)) (by show b.length ≤ 60; omega)) ea_nil)) ?_
  show SX _ [_, _, _, _, _, _, _] _
  have hT := W.told_all (W.mk a : W X.sys) (W.mk b) m
  refine q_par (R1 := kOpt K X (W.told (W.mk a) (W.mk b) m)) (R2 := kOpt K X (W.told (W.mk a) (W.mk b) m)) (ea_cons (ex_pm (pm_least_continuation K) ⟨X, W.mk a, W.mk b, m⟩ (ea_cons (ex_var rfl) (ea_cons (ex_var rfl) (ea_cons (ex_var rfl) ea_nil))) ⟨by show 0 ≤ m; omega, by show m ≤ 9; omega, by show W.len (W.mk a : W X.sys) ≤ 20; omega, by show W.len (W.mk b : W X.sys) ≤ 20; omega⟩) (ea_cons (ex_is (ex_pmKw (pm_least_continuation K) ⟨X, W.mk b, W.mk a, m⟩ (ea_cons (ex_var rfl) (ea_cons (ex_var rfl) (ea_cons (ex_var rfl) ea_nil))) ⟨by show 0 ≤ m; omega, by show m ≤ 9; omega, by show W.len (W.mk b : W X.sys) ≤ 20; omega, by show W.len (W.mk a : W X.sys) ≤ 20; omega⟩ rfl) (congrArg (kOpt K X) (W.told_symm _ _ _))) ea_nil)) ?_
  show SX _ [_, _, _, _, _, _, _] _
  generalize W.told (W.mk a : W X.sys) (W.mk b) m = r at hT ⊢
  cases r with
  | none =>
    refine q_if (b := true) (et_or (a := true) (b := false) (et_B (ex_isNO (r := none) (ex_var rfl))) fun e => by cases e) (fun _ => q_assoc ?_) (fun e => by cases e)
    refine q_if (b := false) (et_or (a := false) (b := false) (et_B (ex_notNO (r := none) (ex_var rfl))) fun _ => et_B (ex_notNO (r := none) (ex_var rfl))) (fun e => by cases e) fun _ => sx_pass ?_
    have hmin : 0 ≤ (if (5 : Int) < m then (5 : Int) else m) ∧ (if (5 : Int) < m then (5 : Int) else m) ≤ 5 ∧ (if (5 : Int) < m then (5 : Int) else m) ≤ m := by split <;> omega
    refine q_ret (ex_if (b := true) (et_B (ex_pm (pm__law_is_none K) ⟨X, a, b, if (5 : Int) < m then 5 else m⟩ (ea_cons (ex_ties T (ex_var rfl)) (ea_cons (ex_ixL0 (ex_var rfl)) (ea_cons (ex_ixL1 (ex_var rfl)) (ea_cons (ex_min2 (ex_var rfl) (ex_int (K := K))) ea_nil)))) ⟨ra, rb, la, lb, hmin.1, hmin.2.1, fun x h1 h2 => Int.lt_of_le_of_lt hmin.2.2 (hT x h1 h2)⟩)) (fun _ => ex_non (K := K)) fun e => by cases e)
  | some z =>
    have lz : (W.len z : Int) ≤ m := hT.2
    have hL : W.Lub (W.mk a : W X.sys) (W.mk b) z := hT.1
    refine q_if (b := false) (et_or (a := false) (b := false) (et_B (ex_isNO (r := some z) (ex_var rfl))) fun _ => et_B (ex_isNO (r := some z) (ex_var rfl))) (fun e => by cases e) fun _ => sx_pass ?_
    have ezz : eqB z z = true := eqB_iff.mpr rfl
    have eaa : eqB (W.mk a : W X.sys) (W.mk a) = true := eqB_iff.mpr rfl
    refine q_if (b := false) (et_or (a := false) (b := false) (et_is (et_test (ex_own (pm_Change_eq K) ⟨X, z, z⟩ not _ (ex_var rfl) (ex_var rfl) rfl rfl trivial)) (by rw [ezz]; rfl)) fun _ => et_or (a := false) (b := false) (et_is (et_test (ex_gt (ex_prop (pm_Change_length K) ⟨X, z⟩ (ex_var rfl) rfl (by show W.len z ≤ 36; omega)) (ex_var rfl))) (decide_eq_false (by show ¬ m < (W.len z : Int); omega))) fun _ => et_is (et_not (a := least1 X a b (W.first z)) (et_B (ex_pm (pm__law_is_least_one K) ⟨X, a, b, W.first z⟩ (ea_cons (ex_ties T (ex_var rfl)) (ea_cons (ex_ixL0 (ex_var rfl)) (ea_cons (ex_ixL1 (ex_var rfl)) (ea_cons (ex_prop (pm_Change_word K) ⟨X, z⟩ (ex_var rfl) rfl (by show W.len z ≤ 36; omega)) ea_nil)))) ⟨by show a.length + (W.first z).length ≤ 36; rw [W.first_len]; omega, by show b.length + (W.first z).length ≤ 36; rw [W.first_len]; omega⟩))) (by rw [least1_lub ra rb hL]; rfl)) (fun e => by cases e) fun _ => sx_pass ?_
    have hB : W.len z = W.len (W.mk b : W X.sys) + W.len ((W.mk b : W X.sys)⁻¹ * z) := hL.other
    exact sx_ret (ex_if (b := true) (et_and (a := true) (b := true) (et_is (et_test (ex_own (pm_Change_eq K) ⟨X, W.mk a, W.mk a⟩ id _ (ex_pm (pm_common_front K) ⟨X, W.mk a, z, true⟩ (ea_cons (ex_var rfl) (ea_cons (ex_var rfl) ea_nil)) ⟨hL.one, by show W.len (W.mk a : W X.sys) ≤ 3; omega, by show W.len z ≤ 30; omega⟩) (ex_var rfl) rfl rfl trivial)) (by rw [eaa]; rfl)) fun _ => et_is (et_B (ex_pm (pm_begins K) ⟨X, W.mk b, z⟩ (ea_cons (ex_var rfl) (ea_cons (ex_var rfl) ea_nil)) (by show W.len (W.mk b : W X.sys) + W.len z ≤ 36; omega))) (decide_eq_true (by show ((W.len (W.mk b : W X.sys) : Nat) : Int) + ((W.len ((W.mk b : W X.sys)⁻¹ * z) : Nat) : Int) = ((W.len z : Nat) : Int); omega))) (fun _ => ex_prop (pm_Change_word K) ⟨X, z⟩ (ex_var rfl) rfl (by show W.len z ≤ 36; omega)) fun e => by cases e)
theorem ok__law_continued (T : Tx K mg) (c_Change_init : C8.Mak P w K mg base 5 "Change" (He.ga K "Change") (pm_Change_init K).sp [.non]) (c_least_continuation : C8.Cal P w K mg base 30 "least_continuation" (pm_least_continuation K).sp []) (c_least_continuation_kw : CalK P w K mg base 30 "least_continuation" (pm_least_continuation K).sp ["change", "other", "most"]) (c__law_is_none : C8.Cal P w K mg base 8 "_law_is_none" (pm__law_is_none K).sp []) (c_Change_eq : EqO P w K mg base 2 (He.ga K "Change") (pm_Change_eq K).sp) (c_Change_length : Prp P w K mg base 5 (He.ga K "Change") "length" (pm_Change_length K).sp) (c_Change_word : Prp P w K mg base 5 (He.ga K "Change") "word" (pm_Change_word K).sp) (c__law_is_least_one : C8.Cal P w K mg base 7 "_law_is_least_one" (pm__law_is_least_one K).sp []) (c_common_front : C8.Cal P w K mg base 11 "common_front" (pm_common_front K).sp []) (c_begins : C8.Cal P w K mg base 10 "begins" (pm_begins K).sp []) {f : Addr} {fd : FuncData} (F : FnP K "_law_continued" "_law_continued" s__law_continued f fd) : FnOk P w K mg base CX0 31 f fd ["_law_table", "_law_words", "_law_most"] (pm__law_continued K).sp := by
  have sc := sc__law_continued
  refine F.ok sc (fun vs H Q E h => Pm.len (fun _ => rfl) vs H Q E h) (fun cdv A outer s H vs Q E hr h => ⟨t__law_continued K, PSs.nox ?_, Pm.go (sx__law_continued T) vs H Q E h⟩)
  exact (pss_cons (ps_par (i := 3) (j := 4) rfl sc.nd rfl rfl (by decide) rfl rfl (pa_cons (C8.pe_mk c_Change_init hr (by decide) rfl (pa_cons (pv 0) (pa_cons (pe_ix ix_list (pv 1) pe_int (fun _ _ => rfl)) pa_nil))) (pa_cons (C8.pe_mk c_Change_init hr (by decide) rfl (pa_cons (pv 0) (pa_cons (pe_ix ix_list (pv 1) pe_int (fun _ _ => rfl)) pa_nil))) pa_nil)) rfl)
      (pss_cons (ps_par (i := 5) (j := 6) rfl sc.nd rfl rfl (by decide) rfl rfl (pa_cons (C8.pe_c c_least_continuation hr (by decide) rfl (pa_cons (pv 3) (pa_cons (pv 4) (pa_cons (pv 2) pa_nil)))) (pa_cons (pe_callK0 c_least_continuation_kw hr (by decide) rfl (pk_cons (pv 4) (pk_cons (pv 3) (pk_cons (pv 2) pk_nil)))) pa_nil)) rfl)
      (pss_cons (ps_if (PW.pt (pw_or (pt_cmp (pc_isN (pv 5))) (pw_or1 (pt_cmp (pc_isN (pv 6)))))) (pss_cons (ps_if (PW.pt (pw_or (pt_cmp (pc_notN (pv 5))) (pw_or1 (pt_cmp (pc_notN (pv 6)))))) (pss_one (ps_ret pe_bl)) pss_nil)
      (pss_one (ps_ret (pe_ifExp (pt_val (C8.pe_c c__law_is_none hr (by decide) rfl (pa_cons (pe_fld (pv 0) rfl) (pa_cons (pe_ix ix_list (pv 1) pe_int (fun _ _ => rfl)) (pa_cons (pe_ix ix_list (pv 1) pe_int (fun _ _ => rfl)) (pa_cons (pe_callB (call_min2 rfl) rfl T.min_ PyProof.Rows.boot_min (pa_cons (pv 2) (pa_cons pe_int pa_nil))) pa_nil)))))) pe_non pe_bl)))) pss_nil)
      (pss_cons (ps_if (PW.pt (pw_or (pt_cmpR (op_neO c_Change_eq hr (by decide)) (pv 5) (pv 6) (nomark _)) (pw_or (pt_cmpR op_gt (pe_pr c_Change_length hr (by decide) (pv 5)) (pv 2) (nomark _)) (pw_or1 (pt_not (pt_val (C8.pe_c c__law_is_least_one hr (by decide) rfl (pa_cons (pe_fld (pv 0) rfl) (pa_cons (pe_ix ix_list (pv 1) pe_int (fun _ _ => rfl)) (pa_cons (pe_ix ix_list (pv 1) pe_int (fun _ _ => rfl)) (pa_cons (pe_pr c_Change_word hr (by decide) (pv 5)) pa_nil))))))))))) (pss_one (ps_ret pe_bl)) pss_nil)
      (pss_one (ps_ret (pe_ifExp (PW.pt (pw_and (pt_cmpR (op_eqO c_Change_eq hr (by decide)) (C8.pe_c c_common_front hr (by decide) rfl (pa_cons (pv 3) (pa_cons (pv 5) pa_nil))) (pv 3) (nomark _)) (pw_and1 (pt_val (C8.pe_c c_begins hr (by decide) rfl (pa_cons (pv 4) (pa_cons (pv 5) pa_nil))))))) (pe_pr c_Change_word hr (by decide) (pv 5)) pe_bl)))))))
abbrev s__law_bracketed : Stmt := top 136
abbrev Ns__law_bracketed : List Str := ["_law_table", "_law_words", "_law_most", "_law_left_here", "_law_right_here", "_law_near", "_law_far"]
theorem sc__law_bracketed : FnScope Ns__law_bracketed ["_law_table", "_law_words", "_law_most"] (defScope s__law_bracketed) := ⟨rfl, rfl, rfl, by decide +kernel, rfl, by decide +kernel, by decide +kernel⟩
def t__law_bracketed (K : PySem.W.Frag) : TS := (tSeq (tPar 3 4 (tCons (tCall (pm__law_continued K).sp [] E0 (tCons (tVar 0) (tCons (tSl (rSlL K) (tVar 1) tNoPart (tPart (tC (.int 2)))) (tCons (tVar 2) tNil)))) (tCons (tCall (pm__law_continued K).sp [] E0 (tCons (tVar 0) (tCons (tSl (rSlL K) (tVar 1) (tPart (tC (.int 1))) tNoPart) (tCons (tVar 2) tNil)))) tNil)))
    (tSeq (tIfS (tOr (tTest (tOp rIsF (tVar 3) (tC (.bl false)))) (tTest (tOp rIsF (tVar 4) (tC (.bl false))))) (tRet (tC (.bl false))) tNext)
    (tSeq (tAsg (tIf (tB (tIsN (tVar 3))) (tC .non) (tCall (pm_least_continuation K).sp [] E0 (tCons (tMake (He.ga K "Change") (pm_Change_init K).sp [.non] E0 (tCons (tVar 0) (tCons (tVar 3) tNil))) (tCons (tMake (He.ga K "Change") (pm_Change_init K).sp [.non] E0 (tCons (tVar 0) (tCons (tOp (rIxL K) (tVar 1) (tC (.int 2))) tNil))) (tCons (tVar 2) tNil))))) (gName 5))
    (tSeq (tAsg (tIf (tB (tIsN (tVar 4))) (tC .non) (tCall (pm_least_continuation K).sp [] E0 (tCons (tMake (He.ga K "Change") (pm_Change_init K).sp [.non] E0 (tCons (tVar 0) (tCons (tOp (rIxL K) (tVar 1) (tC (.int 0))) tNil))) (tCons (tMake (He.ga K "Change") (pm_Change_init K).sp [.non] E0 (tCons (tVar 0) (tCons (tVar 4) tNil))) (tCons (tVar 2) tNil))))) (gName 6))
    (tSeq (tIfS (tOr (tB (tIsN (tVar 5))) (tB (tIsN (tVar 6)))) (tRet (tAndV (tIsN (tVar 5)) (tIsN (tVar 6)))) tNext)
    (tRet (tAndV (tOp (rOwn (He.ga K "Change") (pm_Change_eq K).sp id) (tVar 5) (tVar 6)) (tAndV (tCall (pm_begins K).sp [] E0 (tCons (tMake (He.ga K "Change") (pm_Change_init K).sp [.non] E0 (tCons (tVar 0) (tCons (tVar 3) tNil))) (tCons (tVar 5) tNil))) (tCall (pm_begins K).sp [] E0 (tCons (tMake (He.ga K "Change") (pm_Change_init K).sp [.non] E0 (tCons (tVar 0) (tCons (tVar 4) tNil))) (tCons (tVar 5) tNil)))))))))))
theorem sx__law_bracketed (T : Tx K mg) : (pm__law_bracketed K).body Ns__law_bracketed (t__law_bracketed K) := by
  rintro ⟨X, a, b, c, m⟩ ⟨ra, rb, rc, la, lb, lc, m3, m9⟩
  dsimp only [pm__law_bracketed]
  show SX _ [_, _, _, _, _, _, _] _
  have la : a.length ≤ 3 := la
  have lb : b.length ≤ 3 := lb
  have lc : c.length ≤ 3 := lc
  have m3 : 3 ≤ m := m3
  have m9 : m ≤ 9 := m9
  have ga : W.len (W.mk a : W X.sys) = a.length := ra
  have gb : W.len (W.mk b : W X.sys) = b.length := rb
  have gc : W.len (W.mk c : W X.sys) = c.length := rc
  refine q_par (R1 := kd K (wD (W.told (W.mk a : W X.sys) (W.mk b) m))) (R2 := kd K (wD (W.told (W.mk b : W X.sys) (W.mk c) m))) (ea_cons (ex_pm (pm__law_continued K) ⟨X, a, b, m⟩ (ea_cons (ex_var rfl) (ea_cons (ex_is (ex_ofL (exl_slL (ex_var rfl) eo_none (eo_some (ex_int (K := K))))) (congrArg (fun l => kd K (.list l)) (cutD_to (ds := [encW a, encW b, encW c]) (k := 2)))) (ea_cons (ex_var rfl) ea_nil))) ⟨ra, rb, la, lb, m3, m9⟩) (ea_cons (ex_pm (pm__law_continued K) ⟨X, b, c, m⟩ (ea_cons (ex_var rfl) (ea_cons (ex_is (ex_ofL (exl_slL (ex_var rfl) (eo_some (ex_int (K := K))) eo_none)) (congrArg (fun l => kd K (.list l)) (cutD_from (ds := [encW a, encW b, encW c]) (k := 1)))) (ea_cons (ex_var rfl) ea_nil))) ⟨rb, rc, lb, lc, m3, m9⟩) ea_nil)) ?_
  show SX _ [_, _, _, _, _, _, _] _
  have h1 := W.told_all (W.mk a : W X.sys) (W.mk b) m
  have h2 := W.told_all (W.mk b : W X.sys) (W.mk c) m
  have h3 := W.near3 (W.mk a : W X.sys) (W.mk b) (W.mk c) m
  have hb := W.brackets (W.mk a : W X.sys) (W.mk b) (W.mk c) m
  generalize W.told (W.mk a : W X.sys) (W.mk b) m = r1 at h1 h3 hb ⊢
  generalize W.told (W.mk b : W X.sys) (W.mk c) m = r2 at h2 hb ⊢
  refine q_if (b := false) (et_or (a := false) (b := false) (et_test (ex_isF (wD_ref r1) (ex_var rfl))) fun _ => et_test (ex_isF (wD_ref r2) (ex_var rfl))) (fun e => by cases e) fun _ => sx_pass ?_
  refine q_set (R := kOpt K X (r1.bind fun z => W.told z (W.mk c) m)) ?_ ?_
  · cases r1 with
    | none => exact ex_if (b := true) (et_B (ex_isN true non_none (ex_var rfl))) (fun _ => ex_non (K := K)) fun e => by cases e
    | some z =>
      have lz : (W.len z : Int) ≤ m := h1.2
      exact ex_if (b := false) (et_B (ex_isN false tup_none (ex_var rfl))) (fun e => by cases e) fun _ => ex_pm (pm_least_continuation K) ⟨X, z, W.mk c, m⟩ (ea_cons (ex_is (ex_mkChange ⟨X, W.first z⟩ (ea_cons (ex_var rfl) (ea_cons (ex_var rfl) ea_nil)) (by show (W.first z).length ≤ 60; rw [W.first_len]; omega)) (congrArg (kChg K X) (W.first_mk z))) (ea_cons (ex_mkChange ⟨X, c⟩ (ea_cons (ex_var rfl) (ea_cons (ex_ixL2 (ex_var rfl)) ea_nil)) (by show c.length ≤ 60; omega)) (ea_cons (ex_var rfl) ea_nil))) ⟨by show 0 ≤ m; omega, by show m ≤ 9; omega, by show W.len z ≤ 20; omega, by show W.len (W.mk c : W X.sys) ≤ 20; omega⟩
  show SX _ [_, _, _, _, _, _, _] _
  refine q_set (R := kOpt K X (r1.bind fun z => W.told z (W.mk c) m)) ?_ ?_
  · refine ex_is (R := kOpt K X (r2.bind fun z => W.told (W.mk a) z m)) ?_ (congrArg (kOpt K X) hb.symm)
    cases r2 with
    | none => exact ex_if (b := true) (et_B (ex_isN true non_none (ex_var rfl))) (fun _ => ex_non (K := K)) fun e => by cases e
    | some z =>
      have lz : (W.len z : Int) ≤ m := h2.2
      exact ex_if (b := false) (et_B (ex_isN false tup_none (ex_var rfl))) (fun e => by cases e) fun _ => ex_pm (pm_least_continuation K) ⟨X, W.mk a, z, m⟩ (ea_cons (ex_mkChange ⟨X, a⟩ (ea_cons (ex_var rfl) (ea_cons (ex_ixL0 (ex_var rfl)) ea_nil)) (by show a.length ≤ 60; omega)) (ea_cons (ex_is (ex_mkChange ⟨X, W.first z⟩ (ea_cons (ex_var rfl) (ea_cons (ex_var rfl) ea_nil)) (by show (W.first z).length ≤ 60; rw [W.first_len]; omega)) (congrArg (kChg K X) (W.first_mk z))) (ea_cons (ex_var rfl) ea_nil))) ⟨by show 0 ≤ m; omega, by show m ≤ 9; omega, by show W.len (W.mk a : W X.sys) ≤ 20; omega, by show W.len z ≤ 20; omega⟩
  show SX _ [_, _, _, _, _, _, _] _
  have hA : ∀ z, (r1.bind fun z => W.told z (W.mk c) m) = some z → ∃ z1, r1 = some z1 ∧ W.beg z1 z := fun z e => by
    cases r1 with
    | none => cases e
    | some z1 =>
      have k := W.told_all z1 (W.mk c) m
      have e : W.told z1 (W.mk c) m = some z := e
      rw [e] at k
      exact ⟨z1, rfl, k.1.one⟩
  have hB : ∀ z, (r1.bind fun z => W.told z (W.mk c) m) = some z → ∃ z2, r2 = some z2 ∧ W.beg z2 z := fun z e => by
    rw [hb] at e
    cases r2 with
    | none => cases e
    | some z2 =>
      have k := W.told_all (W.mk a) z2 m
      have e : W.told (W.mk a) z2 m = some z := e
      rw [e] at k
      exact ⟨z2, rfl, k.1.other⟩
  generalize (r1.bind fun z => W.told z (W.mk c) m) = r at h3 hA hB ⊢
  cases r with
  | none =>
    refine q_if (b := true) (et_or (a := true) (b := false) (et_B (ex_isNO (r := none) (ex_var rfl))) fun e => by cases e) (fun _ => ?_) (fun e => by cases e)
    exact q_ret (ex_andV (a := true) (b := true) (ex_isNO (r := none) (ex_var rfl)) fun _ => ex_isNO (r := none) (ex_var rfl))
  | some z =>
    refine q_if (b := false) (et_or (a := false) (b := false) (et_B (ex_isNO (r := some z) (ex_var rfl))) fun _ => et_B (ex_isNO (r := some z) (ex_var rfl))) (fun e => by cases e) fun _ => sx_pass ?_
    obtain ⟨z1, e1, b1⟩ := hA z rfl
    obtain ⟨z2, e2, b2⟩ := hB z rfl
    subst e1 e2
    have lz : (W.len z : Int) ≤ m := h3.2
    have l1 : (W.len z1 : Int) ≤ m := h1.2
    have l2 : (W.len z2 : Int) ≤ m := h2.2
    have ezz : eqB z z = true := eqB_iff.mpr rfl
    have b1 : W.len z = W.len z1 + W.len (z1⁻¹ * z) := b1
    have b2 : W.len z = W.len z2 + W.len (z2⁻¹ * z) := b2
    exact sx_ret (ex_andV (a := true) (b := true) (ex_is (ex_own (pm_Change_eq K) ⟨X, z, z⟩ id _ (ex_var rfl) (ex_var rfl) rfl rfl trivial) (by rw [ezz]; rfl)) fun _ => ex_andV (a := true) (b := true) (ex_is (ex_pm (pm_begins K) ⟨X, z1, z⟩ (ea_cons (ex_is (ex_mkChange ⟨X, W.first z1⟩ (ea_cons (ex_var rfl) (ea_cons (ex_var rfl) ea_nil)) (by show (W.first z1).length ≤ 60; rw [W.first_len]; omega)) (congrArg (kChg K X) (W.first_mk z1))) (ea_cons (ex_var rfl) ea_nil)) (by show W.len z1 + W.len z ≤ 36; omega)) (congrArg (fun b => kd K (.bool b)) (decide_eq_true (by show ((W.len z1 : Nat) : Int) + ((W.len (z1⁻¹ * z) : Nat) : Int) = ((W.len z : Nat) : Int); omega)))) fun _ => ex_is (ex_pm (pm_begins K) ⟨X, z2, z⟩ (ea_cons (ex_is (ex_mkChange ⟨X, W.first z2⟩ (ea_cons (ex_var rfl) (ea_cons (ex_var rfl) ea_nil)) (by show (W.first z2).length ≤ 60; rw [W.first_len]; omega)) (congrArg (kChg K X) (W.first_mk z2))) (ea_cons (ex_var rfl) ea_nil)) (by show W.len z2 + W.len z ≤ 36; omega)) (congrArg (fun b => kd K (.bool b)) (decide_eq_true (by show ((W.len z2 : Nat) : Int) + ((W.len (z2⁻¹ * z) : Nat) : Int) = ((W.len z : Nat) : Int); omega))))
theorem ok__law_bracketed (T : Tx K mg) (c__law_continued : C8.Cal P w K mg base 31 "_law_continued" (pm__law_continued K).sp []) (c_Change_init : C8.Mak P w K mg base 5 "Change" (He.ga K "Change") (pm_Change_init K).sp [.non]) (c_least_continuation : C8.Cal P w K mg base 30 "least_continuation" (pm_least_continuation K).sp []) (c_Change_eq : EqO P w K mg base 2 (He.ga K "Change") (pm_Change_eq K).sp) (c_begins : C8.Cal P w K mg base 10 "begins" (pm_begins K).sp []) {f : Addr} {fd : FuncData} (F : FnP K "_law_bracketed" "_law_bracketed" s__law_bracketed f fd) : FnOk P w K mg base CX0 32 f fd ["_law_table", "_law_words", "_law_most"] (pm__law_bracketed K).sp := by
  have sc := sc__law_bracketed
  refine F.ok sc (fun vs H Q E h => Pm.len (fun _ => rfl) vs H Q E h) (fun cdv A outer s H vs Q E hr h => ⟨t__law_bracketed K, PSs.nox ?_, Pm.go (sx__law_bracketed T) vs H Q E h⟩)
  exact (pss_cons (ps_par (i := 3) (j := 4) rfl sc.nd rfl rfl (by decide) rfl rfl (pa_cons (C8.pe_c c__law_continued hr (by decide) rfl (pa_cons (pv 0) (pa_cons (pe_slice sl_list (pv 1) po_none (po_some pe_int)) (pa_cons (pv 2) pa_nil)))) (pa_cons (C8.pe_c c__law_continued hr (by decide) rfl (pa_cons (pv 0) (pa_cons (pe_slice sl_list (pv 1) (po_some pe_int) po_none) (pa_cons (pv 2) pa_nil)))) pa_nil)) rfl)
      (pss_cons (ps_if (PW.pt (pw_or (pt_cmpR op_isF (pv 3) pe_bl (nomark _)) (pw_or1 (pt_cmpR op_isF (pv 4) pe_bl (nomark _))))) (pss_one (ps_ret pe_bl)) pss_nil)
      (pss_cons (ps_set (i := 5) sc.nd rfl (by first | exact Or.inl rfl | exact Or.inr rfl) (pe_ifExp (pt_cmp (pc_isN (pv 3))) pe_non (C8.pe_c c_least_continuation hr (by decide) rfl (pa_cons (C8.pe_mk c_Change_init hr (by decide) rfl (pa_cons (pv 0) (pa_cons (pv 3) pa_nil))) (pa_cons (C8.pe_mk c_Change_init hr (by decide) rfl (pa_cons (pv 0) (pa_cons (pe_ix ix_list (pv 1) pe_int (fun _ _ => rfl)) pa_nil))) (pa_cons (pv 2) pa_nil))))))
      (pss_cons (ps_set (i := 6) sc.nd rfl (by first | exact Or.inl rfl | exact Or.inr rfl) (pe_ifExp (pt_cmp (pc_isN (pv 4))) pe_non (C8.pe_c c_least_continuation hr (by decide) rfl (pa_cons (C8.pe_mk c_Change_init hr (by decide) rfl (pa_cons (pv 0) (pa_cons (pe_ix ix_list (pv 1) pe_int (fun _ _ => rfl)) pa_nil))) (pa_cons (C8.pe_mk c_Change_init hr (by decide) rfl (pa_cons (pv 0) (pa_cons (pv 4) pa_nil))) (pa_cons (pv 2) pa_nil))))))
      (pss_cons (ps_if (PW.pt (pw_or (pt_cmp (pc_isN (pv 5))) (pw_or1 (pt_cmp (pc_isN (pv 6)))))) (pss_one (ps_ret (pe_and (pe_cmp (pc_isN (pv 5))) (pe_one (pe_cmp (pc_isN (pv 6))))))) pss_nil)
      (pss_one (ps_ret (pe_and (pe_cmpR (op_eqO c_Change_eq hr (by decide)) (pv 5) (pv 6) (nomark _)) (pe_and (C8.pe_c c_begins hr (by decide) rfl (pa_cons (C8.pe_mk c_Change_init hr (by decide) rfl (pa_cons (pv 0) (pa_cons (pv 3) pa_nil))) (pa_cons (pv 5) pa_nil))) (pe_one (C8.pe_c c_begins hr (by decide) rfl (pa_cons (C8.pe_mk c_Change_init hr (by decide) rfl (pa_cons (pv 0) (pa_cons (pv 4) pa_nil))) (pa_cons (pv 5) pa_nil)))))))))))))
end
end Wk
namespace Wk
open PySem L2
/-! ### a dict of nested keys, its values left open -/
theorem EntOk.mo {K : PySem.W.Frag} {N N' : Hp} {e : NestedKey × Addr × Value} (x : Ex N N') (h : EntOk K N e) : EntOk K N' e := by
  obtain ⟨dk, h1, h2, h3⟩ := h
  exact ⟨dk, h1, h2, dp_mono x _ _ h3⟩
def EntsOk (K : PySem.W.Frag) (c : Nat) (N : Hp) (xs : Ents) : Prop := xs.length ≤ c ∧ (xs.map (·.1)).Nodup ∧ ∀ e ∈ xs, EntOk K N e
theorem EntsOk.mo {K : PySem.W.Frag} {c : Nat} {N N' : Hp} {xs : Ents} (x : Ex N N') (h : EntsOk K c N xs) : EntsOk K c N' xs := ⟨h.1, h.2.1, fun e he => (h.2.2 e he).mo x⟩
def oM (K : PySem.W.Frag) (w : World) (c : Nat) : Oc := ⟨fun N u => ∃ (d : Addr) (xs : Ents), u = KDat w d xs ∧ EntsOk K c N xs, fun N N' u x ⟨d, xs, h1, h2⟩ => ⟨d, xs, h1, h2.mo x⟩⟩
theorem EntsOk.put {K : PySem.W.Frag} {c : Nat} {N : Hp} {xs : Ents} {dk : PyData} {ka : Addr} {ue : Value} (h : EntsOk K c N xs) (hk : Dp K N (.ref ka) dk) (ht : iT 4 dk = true) : EntsOk K (c + 1) N (storedH xs (nk dk) ka ue) := by
  obtain ⟨h1, h2, h3⟩ := h
  unfold storedH
  cases q : atKey xs (nk dk) with
  | none =>
    rw [if_neg (by simp)]
    refine ⟨by rw [List.length_append, List.length_singleton]; omega, ?_, fun e he => ?_⟩
    · rw [List.map_append]
      refine List.nodup_append.mpr ⟨h2, List.pairwise_singleton _ _, fun a ha b hb e => ?_⟩
      have hb : b = nk dk := by simpa using hb
      rw [e, hb] at ha
      exact atKey_none q ha
    · rcases List.mem_append.mp he with z | z
      · exact h3 e z
      · have : e = (nk dk, ka, ue) := by simpa using z
        subst this
        exact ⟨dk, rfl, ht, hk⟩
  | some p =>
    rw [if_pos (show (some p).isSome = true from rfl)]
    refine ⟨by rw [List.length_map]; omega, by rw [keys_map_putAt]; exact h2, fun e he => ?_⟩
    obtain ⟨x, hx, ex⟩ := List.mem_map.mp he
    by_cases z : x.1 = nk dk
    · obtain ⟨dk', z1, z2, z3⟩ := h3 x hx
      have : putAt (nk dk) ue x = (x.1, x.2.1, ue) := by unfold putAt; rw [if_pos z, z]
      rw [this] at ex
      subst ex
      exact ⟨dk', z1, z2, z3⟩
    · have : putAt (nk dk) ue x = x := by unfold putAt; rw [if_neg z]
      rw [this] at ex
      subst ex
      exact h3 x hx
section
variable {K : PySem.W.Frag} {w : World} {Γ : List Wk.Slot} {P : Post} {t u v : TS} {tk : TE} {tt : TT} {c : Nat} {i j : Nat} {dk : PyData}
/-- later, met = [], {} -/
theorem q_parM (k : SX u ((Γ.set i (.own (oL K []))).set j (.own (oM K w 0))) P) : SX (tSeq (tPar i j (tCons (tLst tNil) (tCons (tKDNew w) tNil))) u) Γ P := fun F B σ N H D S f => by
  show tLst tNil σ H (fun x H1 => tKDNew w σ H1 fun y H2 => ∃ v v', [x, y] = [v, v'] ∧ u D ((σ.set i (some v)).set j (some v')) H2)
  refine exl_lst (K := K) ead_nil (by decide) F B σ N H _ S fun p N1 H1 vs S1 e1 hp r n1 f1 b1 d1 => ?_
  intro q hq
  refine ⟨_, _, rfl, ?_⟩
  have pq : p ≠ q := fun z => by rw [z, hq] at hp; cases hp
  have S3 := S1.setOwn i (O := oL K []) f1 n1 b1 hp ⟨vs, rfl, r⟩ d1
  exact k F B _ N1 _ D ((S3.hid hq).setOwn j (p := q) (u := KDat w q []) (O := oM K w 0) (S1.fr.none hq) (S1.sub.none hq) (fun b => S1.bh q b hq) upd_same ⟨q, [], rfl, Nat.le_refl _, List.nodup_nil, fun e he => by cases he⟩ (S3.apart hq)) f
/-- if .. and key not in met -/
theorem s_ifM {b : Bool} (hj : Γ[j]? = some (.own (oM K w c))) (h : ET tt Γ b) (hk : b = true → EX tk Γ (kd K dk)) (ht : iT 4 dk = true) (hd : ∃ ds, dk = .tuple ds) (h1 : b = true → SX t Γ P) (h2 : SX v Γ P) : SX (tIfS (tAnd tt (tTest (tOp (rNotInKD K w) tk (tVar j)))) t v) Γ P := fun F B σ N H D S f =>
  h F B σ N H _ S fun N0 H0 S0 e0 => by
    cases b with
    | false => exact h2 F B σ N0 H0 D S0 f
    | true =>
      refine hk rfl F B σ N0 H0 _ S0 fun y N1 H1 S1 e1 r1 => ?_
      obtain ⟨ds, rfl⟩ := hd
      obtain ⟨p, uo, e, a, b, cB, d, dd, xs, rfl, hl, nd, hall⟩ := S1.own hj
      have r0 := r1
      cases r1 with
      | @tup ka vs _ hs ha =>
        refine ⟨_, e, ka, p, dd, xs, _, rfl, rfl, d, fun x hx => (hall x hx).mo S1.sub, nd, ht, dp_mono S1.sub _ _ r0, ?_⟩
        refine ⟨_, rfl, ?_⟩
        cases q : (!(atKey xs (nk (.tuple ds))).isSome) with
        | true => exact h1 rfl F B σ N1 H1 D S1 f
        | false => exact h2 F B σ N1 H1 D S1 f
/-- met[key] = True -/
theorem q_putM (hj : Γ[j]? = some (.own (oM K w c))) (hk : EX tk Γ (kd K dk)) (ht : iT 4 dk = true) (hd : ∃ ds, dk = .tuple ds) (hc : c ≤ 100000) (k : SX u (Γ.set j (.own (oM K w (c + 1)))) P) :
    SX (tSeq (sKDPut K w (tVar j) tk (tC (.bl true))) u) Γ P := fun F B σ N H D S f => by
  obtain ⟨p, uo, e, _⟩ := S.own hj
  refine ⟨_, e, hk F B σ N H _ S fun z N2 H2 S2 e2 r2 => ?_⟩
  obtain ⟨ds, rfl⟩ := hd
  obtain ⟨p', uo', e', a, bb, cB, d, dd, xs, rfl, hl, nd, hall⟩ := S2.own hj
  rw [e] at e'; cases e'
  have r0 := r2
  cases r2 with
  | @tup kb vs _ hs ha =>
    refine ⟨kb, p, dd, xs, _, rfl, rfl, d, fun x hx => (hall x hx).mo S2.sub, nd, ht, dp_mono S2.sub _ _ r0, by rw [sizeLine_eq]; omega, fun ue rv => ?_⟩
    exact k F B σ N2 _ D (S2.write (O' := oM K w (c + 1)) hj e ⟨p, _, rfl, EntsOk.put ⟨hl, nd, hall⟩ r0 ht⟩) f
theorem sx_lessO {O O' : Oc} (hj : Γ[j]? = some (.own O)) (h : ∀ N u, O.p N u → O'.p N u) (k : SX t (Γ.set j (.own O')) P) : SX t Γ P := fun F B σ N H D S f => by
  obtain ⟨p, u, e, a, b, c, d, r⟩ := S.own hj
  have := S.write (O' := O') hj e (h N u r)
  have eH : upd H p u = H := funext fun x => by
    by_cases q : x = p
    · subst q; rw [upd_same, d]
    · rw [upd_ne q]
  rw [eH] at this
  exact k F B σ N H D this f
theorem oM_le {c c' : Nat} (hc : c ≤ c') : ∀ N u, (oM K w c).p N u → (oM K w c').p N u := fun N u ⟨d, xs, h1, h2⟩ => ⟨d, xs, h1, Nat.le_trans h2.1 hc, h2.2⟩
end
theorem iT_M {n : Nat} (M : Fin n → Vec n) : iT 4 (encM M) = true := by
  have hV : ∀ x : Vec n, iT 2 (encV x) = true := fun x => by
    unfold encV fins
    simp only [iT]
    generalize List.finRange n = l
    induction l with
    | nil => rfl
    | cons a l ih => simp only [List.map_cons, iTs, Bool.and_eq_true]; exact ⟨rfl, ih⟩
  have up : ∀ x : Vec n, iT 3 (encV x) = true := fun x => by
    unfold encV fins
    simp only [iT]
    generalize List.finRange n = l
    induction l with
    | nil => rfl
    | cons a l ih => simp only [List.map_cons, iTs, Bool.and_eq_true]; exact ⟨rfl, ih⟩
  unfold encM fins
  simp only [iT]
  generalize List.finRange n = l
  induction l with
  | nil => rfl
  | cons a l ih => simp only [List.map_cons, iTs, Bool.and_eq_true]; exact ⟨up _, ih⟩
/-! ### the lot -/
section
variable {X : Tb}
abbrev Trp (X : Tb) := W X.sys × W X.sys × Int
def encTrp (t : Trp X) : PyData := .tuple [encML (W.img t.1), encML (W.img t.2.1), .int t.2.2]
def Good (u y : W X.sys) (L : Nat) (t : Trp X) : Prop := t.2.1 = y⁻¹ * t.1 ∧ t.2.2 = ((W.len t.2.1 : Nat) : Int) ∧ W.beg u t.1 ∧ W.len t.1 = L
theorem Good.step {u y : W X.sys} {L : Nat} {x v : W X.sys} {k : Int} (h : Good u y L (x, v, k)) {s : Fin X.n} (hs : W.isBack x s = false) : Good u y (L + 1) (x * W.gen s, v * W.gen s, k + (bif W.isBack v s then -1 else 1)) := by
  obtain ⟨h1, h2, h3, h4⟩ := h
  have h1 : v = y⁻¹ * x := h1
  have h2 : k = ((W.len v : Nat) : Int) := h2
  have h3 : W.len x = W.len u + W.len (u⁻¹ * x) := h3
  have h4 : W.len x = L := h4
  have b := W.isBack_no.mp hs
  refine ⟨?_, ?_, ?_, ?_⟩
  · show v * W.gen s = y⁻¹ * (x * W.gen s)
    rw [h1, W.mul_assoc]
  · show k + (bif W.isBack v s then -1 else 1) = ((W.len (v * W.gen s) : Nat) : Int)
    cases q : W.isBack v s with
    | true => have := W.isBack_iff.mp q; show k + -1 = _; omega
    | false => have := W.isBack_no.mp q; show k + 1 = _; omega
  · show W.len (x * W.gen s) = W.len u + W.len (u⁻¹ * (x * W.gen s))
    have l1 := W.len_mul u (u⁻¹ * (x * W.gen s))
    rw [W.mul_inv_left] at l1
    have l2 := W.len_mul (u⁻¹ * x) (W.gen s)
    have l3 := W.len_gen_le (S := X.sys) s
    rw [W.mul_assoc] at l2
    omega
  · show W.len (x * W.gen s) = L + 1
    omega
theorem Good.miss {u y : W X.sys} {L : Nat} {x v : W X.sys} {k : Int} (h : Good u y L (x, v, k)) {m : Int} (hn : ∀ x : W X.sys, W.beg u x → W.beg y x → m < (W.len x : Int)) (hL : (L : Int) ≤ m) : ((W.len y : Nat) : Int) + k ≠ (L : Int) := fun e => by
  obtain ⟨h1, h2, h3, h4⟩ := h
  have h1 : v = y⁻¹ * x := h1
  have h2 : k = ((W.len v : Nat) : Int) := h2
  have h4 : W.len x = L := h4
  have := hn x h3 (show W.len x = W.len y + W.len (y⁻¹ * x) by rw [h1] at h2; omega)
  omega
end
end Wk
namespace Wk
open PySem L2
section
variable {P : Program} {w : World} {K : PySem.W.Frag} {mg : Str → Option Value} {base : Heap}
abbrev s__law_is_none : Stmt := top 134
abbrev Ns__law_is_none : List Str := ["_law_ties_here", "_law_word_here", "_law_other", "_law_most", "_law_rest", "_law_lot", "_law_length", "_law_later", "_law_met", "_law_images_here", "_law_left_here", "_law_many", "_law_s", "_law_further", "_law_step"]
theorem sc__law_is_none : FnScope Ns__law_is_none ["_law_ties_here", "_law_word_here", "_law_other", "_law_most"] (defScope s__law_is_none) := ⟨rfl, rfl, rfl, by decide +kernel, rfl, by decide +kernel, by decide +kernel⟩
def t__law_is_none (K : PySem.W.Frag) (w : World) : TS := (tSeq (tAsg (tCall (pm__law_images K).sp [] E0 (tCons (tVar 0) (tCons (tOp (rCatA K) (tCall (pm__law_undone K).sp [] E0 (tCons (tVar 2) tNil)) (tVar 1)) tNil))) (gName 4))
    (tSeq (tAsg (tLst (tCons (tTup (tCons (tCall (pm__law_images K).sp [] E0 (tCons (tVar 0) (tCons (tVar 1) tNil))) (tCons (tVar 4) (tCons (tCB (rLenSeq K) (tCons (tCall (pm__law_taken K).sp [] E0 (tCons (tVar 0) (tCons (tVar 4) tNil))) tNil)) tNil)))) tNil)) (gName 5))
    (tSeq (tFor (iRng2 (tCons (tCB (rLenSeq K) (tCons (tVar 1) tNil)) (tCons (tOp (rI0 fun i j => .int (i + j)) (tVar 3) (tC (.int 1))) tNil))) (gName 6) (tSeq (tPar 7 8 (tCons (tLst tNil) (tCons (tKDNew w) tNil)))
    (tSeq (tFor (iList K (tVar 5)) (gTup K 3 (gCons (gName 9) (gCons (gName 10) (gCons (gName 11) gNil)))) (tSeq (tIfS (tTest (tOp rEq (tOp (rI0 fun i j => .int (i + j)) (tCB (rLenSeq K) (tCons (tVar 2) tNil)) (tVar 11)) (tVar 6))) (tRet (tC (.bl false))) tNext)
    (tFor (iRng1 (tCons (tCB (rLenSeq K) (tCons (tVar 0) tNil)) tNil)) (gName 12) (tSeq (tAsg (tIf (tTest (tOp (rI0 fun i j => .bl (decide (i < j))) (tVar 6) (tVar 3))) (tCall (pm__law_pressed K).sp [] E0 (tCons (tVar 0) (tCons (tVar 9) (tCons (tVar 12) tNil)))) (tVar 9)) (gName 13))
    (tIfS (tAnd (tNot (tB (tCall (pm__law_is_down K).sp [] E0 (tCons (tOp (rIxL K) (tVar 9) (tVar 12)) tNil)))) (tTest (tOp (rNotInKD K w) (tCall (pm__law_key K).sp [] E0 (tCons (tVar 13) tNil)) (tVar 8)))) (tSeq (sKDPut K w (tVar 8) (tCall (pm__law_key K).sp [] E0 (tCons (tVar 13) tNil)) (tC (.bl true)))
    (tSeq (tAsg (tIf (tB (tCall (pm__law_is_down K).sp [] E0 (tCons (tOp (rIxL K) (tVar 10) (tVar 12)) tNil))) (tUn (rU fun i => .int (-i)) (tC (.int 1))) (tC (.int 1))) (gName 14))
    (tDrop (tBM K "list" rAppend (tVar 7) (tCons (tTup (tCons (tVar 13) (tCons (tCall (pm__law_pressed K).sp [] E0 (tCons (tVar 0) (tCons (tVar 10) (tCons (tVar 12) tNil)))) (tCons (tOp (rI0 fun i j => .int (i + j)) (tVar 11) (tVar 14)) tNil)))) tNil))))) tNext)))))
    (tAsg (tVar 7) (gName 5)))))
    (tRet (tC (.bl true))))))
theorem sx__law_is_none (T : Tx K mg) (T2 : Tn K mg w) : (pm__law_is_none K).body Ns__law_is_none (t__law_is_none K w) := by
  rintro ⟨X, a, b, m⟩ ⟨ra, rb, la, lb, m0, m5, hn⟩
  dsimp only [pm__law_is_none]
  show SX _ [_, _, _, _, _, _, _, _, _, _, _, _, _, _, _] _
  have la : a.length ≤ 3 := la
  have lb : b.length ≤ 3 := lb
  have m0 : 0 ≤ m := m0
  have m5 : m ≤ 5 := m5
  have ga : W.len (W.mk a : W X.sys) = a.length := ra
  have gb : W.len (W.mk b : W X.sys) = b.length := rb
  have hl : W.len ((W.mk b : W X.sys)⁻¹ * W.mk a) ≤ 36 := by
    have h1 := W.len_mul (W.mk b : W X.sys)⁻¹ (W.mk a)
    rw [W.len_inv] at h1
    omega
  refine q_set (R := kd K (encML (W.img ((W.mk b : W X.sys)⁻¹ * W.mk a)))) (ex_pm (pm__law_images K) ⟨X, b.reverse ++ a⟩ (ea_cons (ex_var rfl) (ea_cons (ex_is (ex_cat (ex_pm (pm__law_undone K) ⟨X.n, b⟩ (ea_cons (ex_var rfl) ea_nil) trivial) (ex_var rfl) (by rw [List.length_map, List.length_map]; show b.reverse.length + a.length ≤ 1000; rw [List.length_reverse]; omega)) (by rw [← List.map_append]; rfl)) ea_nil)) (show (b.reverse ++ a).length ≤ 1000 by rw [List.length_append, List.length_reverse]; omega)) ?_
  show SX _ [_, _, _, _, _, _, _, _, _, _, _, _, _, _, _] _
  refine q_set (R := kd K (.list (([(W.mk a, (W.mk b : W X.sys)⁻¹ * W.mk a, ((W.len ((W.mk b : W X.sys)⁻¹ * W.mk a) : Nat) : Int))] : List (Trp X)).map encTrp))) (ex_ofL (exl_lst (ead_cons (ex_tup (ead_cons (ex_pm (pm__law_images K) ⟨X, a⟩ (ea_cons (ex_var rfl) (ea_cons (ex_var rfl) ea_nil)) (by show a.length ≤ 1000; omega)) (ead_cons (ex_var rfl) (ead_cons (ex_is (ex_lenWL (ex_pm (pm__law_taken K) ⟨X, (W.mk b : W X.sys)⁻¹ * W.mk a⟩ (ea_cons (ex_var rfl) (ea_cons (ex_var rfl) ea_nil)) hl)) (by rw [W.taken_len _ ((W.mk b : W X.sys)⁻¹ * W.mk a) rfl])) ead_nil)))) ead_nil))) ?_
  show SX _ [_, _, _, _, _, _, _, _, _, _, _, _, _, _, _] _
  refine q_for (n := (m + 1 - ((a.length : Nat) : Int)).toNat) (fun i Γ => ∃ (ts : List (Trp X)) (s6 s7 s8 s9 s10 s11 s12 s13 s14 : Wk.Slot), (i < (m + 1 - ((a.length : Nat) : Int)).toNat → ts.length ≤ 3 ^ i ∧ ∀ t ∈ ts, Good (W.mk a) (W.mk b) (a.length + i) t) ∧ Γ = [.kn (kd K (encT X.m)), .kn (kd K (encW a)), .kn (kd K (encW b)), .kn (kd K (.int m)), .kn (kd K (encML (W.img ((W.mk b : W X.sys)⁻¹ * W.mk a)))), .kn (kd K (.list (ts.map encTrp))), s6, s7, s8, s9, s10, s11, s12, s13, s14]) (iw_range2 (a := ((a.length : Nat) : Int)) (b := m + 1) (ea_cons (ex_lenW (ex_var rfl)) (ea_cons (ex_add (ex_var rfl) (ex_int (K := K))) ea_nil)) rfl (by omega)) ⟨_, _, _, _, _, _, _, _, _, _, fun _ => ⟨Nat.le_refl _, fun t ht => ?_⟩, rfl⟩ ?_ ?_
  · have e : t = (W.mk a, (W.mk b : W X.sys)⁻¹ * W.mk a, ((W.len ((W.mk b : W X.sys)⁻¹ * W.mk a) : Nat) : Int)) := by simpa using ht
    subst e
    exact ⟨rfl, rfl, W.beg_refl _, ga⟩
  · rintro i Γ hi ⟨ts, s6, s7, s8, s9, s10, s11, s12, s13, s14, hts, rfl⟩
    obtain ⟨tl, tg⟩ := hts hi
    have hiL : ((a.length + i : Nat) : Int) ≤ m := by omega
    have t3 : (3 : Nat) ^ i ≤ 3 ^ 5 := Nat.pow_le_pow_right (by decide) (by omega)
    have t4 : ts.length ≤ 243 := Nat.le_trans tl (Nat.le_trans t3 (by decide))
    refine ⟨_, _, gx_name, ?_⟩
    refine q_parM (K := K) ?_
    show SX _ [_, _, _, _, _, _, _, _, _, _, _, _, _, _, _] _
    refine q_for (n := (ts.map encTrp).length) (fun j Γ => ∃ (es : List (Trp X)) (c : Nat) (s9 s10 s11 s12 s13 s14 : Wk.Slot), es.length ≤ 3 * j ∧ c ≤ 3 * j ∧ (((a.length + i : Nat) : Int) < m → ∀ t ∈ es, Good (W.mk a) (W.mk b) (a.length + i + 1) t) ∧ Γ = [.kn (kd K (encT X.m)), .kn (kd K (encW a)), .kn (kd K (encW b)), .kn (kd K (.int m)), .kn (kd K (encML (W.img ((W.mk b : W X.sys)⁻¹ * W.mk a)))), .kn (kd K (.list (ts.map encTrp))), .kn (kd K (.int (((a.length : Nat) : Int) + (i : Int)))), .own (oL K (es.map encTrp)), .own (oM K w c), s9, s10, s11, s12, s13, s14]) (iw_listK (ex_var rfl)) ⟨[], 0, _, _, _, _, _, _, Nat.le_refl _, Nat.le_refl _, fun _ t ht => (by cases ht), rfl⟩ ?_ ?_
    · rintro j Γ hj ⟨es, c, s9, s10, s11, s12, s13, s14, he, hc, hg, rfl⟩
      rw [List.length_map] at hj
      have mem := List.getElem_mem hj
      have tgo := tg _ mem
      have ek : kdAt K (ts.map encTrp) j = kd K (encTrp ts[j]) := kdAt_of (by rw [List.getElem?_map, List.getElem?_eq_getElem hj]; rfl)
      rw [ek]
      generalize ts[j] = t at tgo
      obtain ⟨x, v, k⟩ := t
      refine ⟨_, _, gx_tup (ds := [encML (W.img x), encML (W.img v), .int k]) (gxs_cons gx_name (gxs_cons gx_name (gxs_cons gx_name gxs_nil))), ?_⟩
      show SX _ [_, _, _, _, _, _, _, _, _, _, _, _, _, _, _] _
      have miss := tgo.miss hn hiL
      rw [gb] at miss
      refine q_if (b := false) (et_is (et_test (ex_eqI (ex_add (ex_lenW (ex_var rfl)) (ex_var rfl)) (ex_var rfl))) (decide_eq_false (by show ¬ ((b.length : Nat) : Int) + k = ((a.length : Nat) : Int) + (i : Int); omega))) (fun e => by cases e) fun _ => sx_pass ?_
      refine x_for (n := X.n) (fun s Γ => ∃ (es : List (Trp X)) (c : Nat) (s12 s13 s14 : Wk.Slot), es.length ≤ 3 * j + s ∧ c ≤ 3 * j + s ∧ (((a.length + i : Nat) : Int) < m → ∀ t ∈ es, Good (W.mk a) (W.mk b) (a.length + i + 1) t) ∧ Γ = [.kn (kd K (encT X.m)), .kn (kd K (encW a)), .kn (kd K (encW b)), .kn (kd K (.int m)), .kn (kd K (encML (W.img ((W.mk b : W X.sys)⁻¹ * W.mk a)))), .kn (kd K (.list (ts.map encTrp))), .kn (kd K (.int (((a.length : Nat) : Int) + (i : Int)))), .own (oL K (es.map encTrp)), .own (oM K w c), .kn (kd K (encML (W.img x))), .kn (kd K (encML (W.img v))), .kn (kd K (.int k)), s12, s13, s14]) (iw_rangeF (ea_cons (ex_lenTi (ex_var rfl)) ea_nil) (by have := X.h3; omega)) ⟨es, c, _, _, _, he, hc, hg, rfl⟩ ?_ ?_
      · rintro s0 Γ hs ⟨es, c, s12, s13, s14, he, hc, hg, rfl⟩
        have h3 := X.h3
        refine ⟨_, _, by rw [kdAt_fin (fun t : Fin X.n => encF t) ⟨s0, hs⟩]; exact gx_name, ?_⟩
        show SX _ [_, _, _, _, _, _, _, _, _, _, _, _, _, _, _] _
        generalize hs0 : (⟨s0, hs⟩ : Fin X.n) = s
        refine q_set (R := kd K (encML (W.img (bif decide (((a.length : Nat) : Int) + (i : Int) < m) then x * W.gen s else x)))) (ex_if (b := decide (((a.length : Nat) : Int) + (i : Int) < m)) (et_test (ex_lt (ex_var rfl) (ex_var rfl))) (fun e => ex_is (ex_pm (pm__law_pressed K) ⟨X, W.img x, s⟩ (ea_cons (ex_var rfl) (ea_cons (ex_var rfl) (ea_cons (ex_var rfl) ea_nil))) trivial) (by rw [e]; show kd K (encML fun t => less (W.img x t) (X.A s t) (W.img x s)) = kd K (encML (W.img (x * W.gen s))); rw [W.img_gen]; rfl)) fun e => ex_is (ex_var rfl) (by rw [e]; rfl)) ?_
        show SX _ [_, _, _, _, _, _, _, _, _, _, _, _, _, _, _] _
        generalize hx : (bif decide (((a.length : Nat) : Int) + (i : Int) < m) then x * W.gen s else x) = x'
        refine s_ifM (dk := encM (W.img x')) (b := !W.isBack x s) (c := c) (j := 8) rfl (et_not (et_B (ex_pm (pm__law_is_down K) ⟨X, x, s⟩ (ea_cons (ex_rowL (ex_var rfl) (ex_var rfl)) ea_nil) trivial))) (fun _ => ex_pm (pm__law_key K) ⟨X, W.img x'⟩ (ea_cons (ex_var rfl) ea_nil) trivial) (iT_M _) ⟨_, rfl⟩ (fun eb => ?_) (sx_nil ⟨es, c, _, _, _, by omega, by omega, hg, rfl⟩)
        have eb : W.isBack x s = false := by simpa using eb
        refine q_putM (dk := encM (W.img x')) (c := c) rfl (ex_pm (pm__law_key K) ⟨X, W.img x'⟩ (ea_cons (ex_var rfl) ea_nil) trivial) (iT_M _) ⟨_, rfl⟩ (by omega) ?_
        show SX _ [_, _, _, _, _, _, _, _, _, _, _, _, _, _, _] _
        refine q_set (R := kd K (.int (bif W.isBack v s then -1 else 1))) (ex_ifI (et_B (ex_pm (pm__law_is_down K) ⟨X, v, s⟩ (ea_cons (ex_rowL (ex_var rfl) (ex_var rfl)) ea_nil) trivial)) (fun _ => ex_neg (ex_int (K := K))) fun _ => ex_int (K := K)) ?_
        show SX _ [_, _, _, _, _, _, _, _, _, _, _, _, _, _, _] _
        refine s_app (d := encTrp (x', v * W.gen s, k + (bif W.isBack v s then -1 else 1))) rfl (ex_tup (ead_cons (ex_var rfl) (ead_cons (ex_is (ex_pm (pm__law_pressed K) ⟨X, W.img v, s⟩ (ea_cons (ex_var rfl) (ea_cons (ex_var rfl) (ea_cons (ex_var rfl) ea_nil))) trivial) (by show kd K (encML fun t => less (W.img v t) (X.A s t) (W.img v s)) = kd K (encML (W.img (v * W.gen s))); rw [W.img_gen]; rfl)) (ead_cons (ex_add (ex_var rfl) (ex_var rfl)) ead_nil)))) (by rw [List.length_map]; omega) ?_
        refine ⟨es ++ [(x', v * W.gen s, k + (bif W.isBack v s then -1 else 1))], c + 1, _, _, _, by rw [List.length_append, List.length_singleton]; omega, by omega, fun hL t ht => ?_, by rw [List.map_append]; rfl⟩
        rcases List.mem_append.mp ht with z | z
        · exact hg hL t z
        · have ex : x' = x * W.gen s := by rw [← hx, decide_eq_true (by omega)]; rfl
          have : t = (x', v * W.gen s, k + (bif W.isBack v s then -1 else 1)) := by simpa using z
          rw [this, ex]
          exact tgo.step eb
      · rintro Γ ⟨es, c, s12, s13, s14, he, hc, hg, rfl⟩
        have h3 := X.h3
        exact ⟨es, c, _, _, _, _, _, _, by omega, by omega, hg, rfl⟩
    · rintro Γ ⟨es, c, s9, s10, s11, s12, s13, s14, he, hc, hg, rfl⟩
      rw [List.length_map] at he hc
      refine sx_frz (j := 7) rfl ?_
      show SX _ [_, _, _, _, _, _, _, _, _, _, _, _, _, _, _] _
      refine s_set (ex_varL rfl) ?_
      refine ⟨es, _, _, _, _, _, _, _, _, _, fun hi2 => ⟨?_, hg (by omega)⟩, rfl⟩
      rw [Nat.pow_succ]
      omega
  · rintro Γ ⟨ts, s6, s7, s8, s9, s10, s11, s12, s13, s14, hts, rfl⟩
    exact sx_ret (ex_bl (K := K))
theorem ok__law_is_none (T : Tx K mg) (T2 : Tn K mg w) (c__law_undone : C8.Cal P w K mg base 1 "_law_undone" (pm__law_undone K).sp []) (c__law_images : C8.Cal P w K mg base 5 "_law_images" (pm__law_images K).sp []) (c__law_taken : C8.Cal P w K mg base 4 "_law_taken" (pm__law_taken K).sp []) (c__law_pressed : C8.Cal P w K mg base 2 "_law_pressed" (pm__law_pressed K).sp []) (c__law_is_down : C8.Cal P w K mg base 2 "_law_is_down" (pm__law_is_down K).sp []) (c__law_key : C8.Cal P w K mg base 1 "_law_key" (pm__law_key K).sp []) {f : Addr} {fd : FuncData} (F : FnP K "_law_is_none" "_law_is_none" s__law_is_none f fd) : FnOk P w K mg base CX0 8 f fd ["_law_ties_here", "_law_word_here", "_law_other", "_law_most"] (pm__law_is_none K).sp := by
  have sc := sc__law_is_none
  refine F.ok sc (fun vs H Q E h => Pm.len (fun _ => rfl) vs H Q E h) (fun cdv A outer s H vs Q E hr h => ⟨t__law_is_none K w, PSs.nox ?_, Pm.go (sx__law_is_none T T2) vs H Q E h⟩)
  exact (pss_cons (ps_set (i := 4) sc.nd rfl (by first | exact Or.inl rfl | exact Or.inr rfl) (C8.pe_c c__law_images hr (by decide) rfl (pa_cons (pv 0) (pa_cons (pe_op op_catA (C8.pe_c c__law_undone hr (by decide) rfl (pa_cons (pv 2) pa_nil)) (pv 1)) pa_nil))))
      (pss_cons (ps_set (i := 5) sc.nd rfl (by first | exact Or.inl rfl | exact Or.inr rfl) (pe_lst (pa_cons (pe_tup (pa_cons (C8.pe_c c__law_images hr (by decide) rfl (pa_cons (pv 0) (pa_cons (pv 1) pa_nil))) (pa_cons (pv 4) (pa_cons (pe_callB call_len_seq rfl T.len_ PySem.boot_len (pa_cons (C8.pe_c c__law_taken hr (by decide) rfl (pa_cons (pv 0) (pa_cons (pv 4) pa_nil))) pa_nil)) pa_nil)))) pa_nil)))
      (pss_cons (ps_for PassesOwn.never rfl (pi_range2 rfl T.range_ (pa_cons (pe_callB call_len_seq rfl T.len_ PySem.boot_len (pa_cons (pv 1) pa_nil)) (pa_cons (pe_op op_add (pv 3) pe_int) pa_nil))) (pg_name (i := 6) sc.nd rfl (by first | exact Or.inl rfl | exact Or.inr rfl)) (pss_cons (ps_par (i := 7) (j := 8) rfl sc.nd rfl rfl (by decide) rfl rfl (pa_cons (pe_lst pa_nil) (pa_cons pe_KDnew pa_nil)) rfl)
      (pss_cons (ps_for PassesOwn.never rfl (pi_list (pv 5)) (pg_tup rfl (pgs_cons (pg_name (i := 9) sc.nd rfl (by first | exact Or.inl rfl | exact Or.inr rfl)) (pgs_cons (pg_name (i := 10) sc.nd rfl (by first | exact Or.inl rfl | exact Or.inr rfl)) (pgs_cons (pg_name (i := 11) sc.nd rfl (by first | exact Or.inl rfl | exact Or.inr rfl)) pgs_nil)))) (pss_cons (ps_if (pt_cmpR op_eq (pe_op op_add (pe_callB call_len_seq rfl T.len_ PySem.boot_len (pa_cons (pv 2) pa_nil)) (pv 11)) (pv 6) (nomark _)) (pss_one (ps_ret pe_bl)) pss_nil)
      (pss_one (ps_for PassesOwn.never rfl (pi_range1 rfl T.range_ (pa_cons (pe_callB call_len_seq rfl T.len_ PySem.boot_len (pa_cons (pv 0) pa_nil)) pa_nil)) (pg_name (i := 12) sc.nd rfl (by first | exact Or.inl rfl | exact Or.inr rfl)) (pss_cons (ps_set (i := 13) sc.nd rfl (by first | exact Or.inl rfl | exact Or.inr rfl) (pe_ifExp (pt_cmpR op_lt (pv 6) (pv 3) (nomark _)) (C8.pe_c c__law_pressed hr (by decide) rfl (pa_cons (pv 0) (pa_cons (pv 9) (pa_cons (pv 12) pa_nil)))) (pv 9)))
      (pss_one (ps_if (PW.pt (pw_and (pt_not (pt_val (C8.pe_c c__law_is_down hr (by decide) rfl (pa_cons (pe_ix ix_list (pv 9) (pv 12) (fun _ _ => rfl)) pa_nil)))) (pw_and1 (pt_cmpR (op_notInKD hr.units) (C8.pe_c c__law_key hr (by decide) rfl (pa_cons (pv 13) pa_nil)) (pv 8) (by with_unfolding_all rfl))))) (pss_cons (ps_KDput hr.units (pv 8) (C8.pe_c c__law_key hr (by decide) rfl (pa_cons (pv 13) pa_nil)) pe_bl (by rfl))
      (pss_cons (ps_set (i := 14) sc.nd rfl (by first | exact Or.inl rfl | exact Or.inr rfl) (pe_ifExp (pt_val (C8.pe_c c__law_is_down hr (by decide) rfl (pa_cons (pe_ix ix_list (pv 10) (pv 12) (fun _ _ => rfl)) pa_nil))) (pe_un un_neg pe_int) pe_int))
      (pss_one (ps_expr (pe_bm PySem.F.plainAttrs_list PySem.F.slot_list_append PySem.F.type_list_append mt_append (pv 7) (pa_cons (pe_tup (pa_cons (pv 13) (pa_cons (C8.pe_c c__law_pressed hr (by decide) rfl (pa_cons (pv 0) (pa_cons (pv 10) (pa_cons (pv 12) pa_nil)))) (pa_cons (pe_op op_add (pv 11) (pv 14)) pa_nil)))) pa_nil)))))) pss_nil)))))))
      (pss_one (ps_set (i := 5) sc.nd rfl (by first | exact Or.inl rfl | exact Or.inr rfl) (pv 7))))))
      (pss_one (ps_ret pe_bl)))))
end
end Wk
namespace Wk
open PySem L2
section
variable {K : PySem.W.Frag} {Γ : List Wk.Slot} {R Ra Rb : Kn} {te ta tb : TE} {targ : TA} {tt : TT} {P : Post} {t u v : TS} {g : TG} {wi : TI}
/-- a + something below m -/
theorem ex_addE {a m : Nat} (ha : EX ta Γ (kd K (.int (a : Int)))) (hb : EX tb Γ (kLt K m)) : EX (tOp (rI0 fun i j => .int (i + j)) ta tb) Γ (kExP (fun n : Nat => a ≤ n ∧ n < a + m) fun n => kd K (.int (n : Int))) :=
  ex_op ha hb fun F B Γ σ N H x y Q S hx hy k => by
    obtain ⟨d, hd, hy⟩ := hy
    have hd : d < m := hd
    have hx : Dp K N x (.int (a : Int)) := hx
    have hy : Dp K N y (.int (d : Int)) := hy
    cases hx; cases hy
    refine ⟨_, _, rfl, rfl, k _ N H S (Ex.refl N) ⟨a + d, ⟨by omega, by omega⟩, ?_⟩⟩
    show Dp K N _ (.int ((a + d : Nat) : Int))
    rw [Int.natCast_add]
    exact .int _
/-- a test whose outcome is left open -/
def ETE (tt : TT) (Γ : List Wk.Slot) : Prop := ∀ F B σ N H (Q : Bool → Hp → Prop), Stt F B Γ σ N H → (∀ b N' H', Stt F B Γ σ N' H' → Ex N N' → Q b H') → tt σ H Q
theorem q_ifE (h : ETE tt Γ) (h1 : SX (tSeq t v) Γ P) (h2 : SX (tSeq u v) Γ P) : SX (tSeq (tIfS tt t u) v) Γ P := fun F B σ N H D S f =>
  h F B σ N H _ S fun b N1 H1 S1 _ => by
    cases b with
    | true => exact h1 F B σ N1 H1 D S1 f
    | false => exact h2 F B σ N1 H1 D S1 f
theorem ete_eq {m : Nat} {i : Int} (h : EX te Γ (kLt K m)) : ETE (tTest (tOp rEq te (tC (.int i)))) Γ := fun F B σ N H Q S k =>
  h F B σ N H _ S fun v N1 H1 S1 e1 r1 => by
    obtain ⟨d, _, r1⟩ := r1
    have r1 : Dp K N1 v (.int (d : Int)) := r1
    cases r1
    exact ⟨rfl, _, rfl, k _ N1 H1 S1 e1⟩
/-- a slice with an open bound -/
def EOE (to : TO) (Γ : List Wk.Slot) (C : Option Int → Prop) : Prop := ∀ F B σ N H (Q : Option Int → Hp → Prop), Stt F B Γ σ N H → (∀ o N' H', C o → Stt F B Γ σ N' H' → Ex N N' → Q o H') → to σ H Q
theorem eoe_some {m : Nat} (h : EX te Γ (kLt K m)) : EOE (tPart te) Γ (fun o => ∃ d : Nat, o = some (d : Int)) := fun F B σ N H Q S k => h F B σ N H _ S fun v N1 H1 S1 e1 r => by
  obtain ⟨d, _, r⟩ := r
  have r : Dp K N1 v (.int (d : Int)) := r
  cases r; exact ⟨_, rfl, k _ N1 H1 ⟨d, rfl⟩ S1 e1⟩
theorem ex_slTE {ds : List PyData} {tl th : TO} {lo : Option Int} {C : Option Int → Prop} (ha : EX ta Γ (kd K (.tuple ds))) (hl : EO tl Γ lo) (hh : EOE th Γ C) : EX (tSl (rSlA K) ta tl th) Γ (kExP C fun hi => kd K (.tuple (cutD ds lo hi))) := fun F B σ N H Q S k =>
  ha F B σ N H _ S fun x N1 H1 S1 e1 r1 => hl F B σ N1 H1 _ S1 fun N2 H2 S2 e2 => hh F B σ N2 H2 _ S2 fun hi N3 H3 hC S3 e3 => by
    cases r1 with
    | @tup a xs _ h1 a1 =>
      have l1 := dpAll_len a1
      have a3 := dpAll_mono (e2.trans e3) _ _ a1
      refine ⟨a, xs, rfl, ex_t ((e2.trans e3).trans S3.sub) h1, fun e => ?_, fun e p hp => ?_⟩
      · have : cutD ds lo hi = ds := by
          unfold cutD
          rw [l1] at e
          rw [e.1, e.2, List.drop_zero, Nat.sub_zero, List.take_length]
        refine k _ N3 H3 S3 ((e1.trans e2).trans e3) ⟨hi, hC, ?_⟩
        show Dp K N3 _ (.tuple (cutD ds lo hi))
        rw [this]
        exact .tup (ex_t (e2.trans e3) h1) a3
      · have hc : DpAll K N3 (cutV xs lo hi) (cutD ds lo hi) := by
          unfold cutV cutD
          rw [l1]
          exact dpAll_take _ (dpAll_drop _ a3)
        exact k _ _ _ (S3.new hp) (((e1.trans e2).trans e3).trans (Ex.new (S3.sub.none hp))) ⟨hi, hC, dp_newT hc (S3.sub.none hp)⟩
/-- words[1] = d, an own list -/
theorem q_setAt {j : Nat} {d0 d1 : PyData} {ds : List PyData} {C : PyData → Prop} (hj : Γ[j]? = some (.own (oL K (d0 :: d1 :: ds)))) (h : EX te Γ (kExP C (kd K))) (k : ∀ d, C d → SX u (Γ.set j (.own (oL K (d0 :: d :: ds)))) P) :
    SX (tSeq (tAsg te (gSub (tVar j) (tC (.int 1)) rSetL)) u) Γ P := fun F B σ N H D S f =>
  h F B σ N H _ S fun v N1 H1 S1 e1 r1 => by
    obtain ⟨d, hd, r1⟩ := r1
    obtain ⟨p, uo, e, _, _, _, hp, vs, rfl, r⟩ := S1.own hj
    cases r with
    | cons q0 r =>
      cases r with
      | cons q1 r =>
        exact ⟨_, e, p, _, 1, 1, rfl, rfl, hp, (by unfold ixN; rw [if_pos (by decide), if_pos (by simp only [List.length_cons]; omega)]; rfl), k d hd F B σ N1 _ D (S1.write (O' := oL K (d0 :: d :: ds)) hj e ⟨_, rfl, .cons q0 (.cons r1 r)⟩) f⟩
/-- a loop over something whose length is open -/
theorem x_forE {C : Nat → (Nat → Kn) → Prop} (I : Nat → List Wk.Slot → Prop) (h : IXE wi Γ C) (h0 : I 0 Γ) (hs : ∀ n R, C n R → ∀ i Γi, i < n → I i Γi → ∃ Γ' js, GX g (R i) Γi Γ' js ∧ SX t Γ' { P with nx := I (i + 1), ct := I (i + 1), bk := P.nx })
    (hd : ∀ n Γn, I n Γn → P.nx Γn) : SX (tFor wi g t) Γ P := fun F B σ N H D S f =>
  h F B σ N H _ S fun J N1 H1 n R hC S1 e1 src => by
    have S2 := S1.keep
    have f2 : Fits (cup F N1) B P D := f.weak cup_l
    have eN : Ex N1 (cup F N1) := cup_r S1.fr S1.sub
    refine ⟨fun i m σ H => m = n - i ∧ i ≤ n ∧ ∃ Γi N', I i Γi ∧ Stt (cup F N1) B Γi σ N' H, ⟨n, by omega, Nat.zero_le _, Γ, N1, h0, S2⟩, ?_⟩
    rintro i m σ H ⟨rfl, hi, Γi, N', hI, S3⟩
    by_cases hlt : i < n
    · refine .inr ⟨src.go i H hlt (eN.trans S3.fr), fun σ' H' => ∃ Γi N', I (i + 1) Γi ∧ Stt (cup F N1) B Γi σ' N' H', fun σ' H' q => ⟨n - (i + 1), by omega, rfl, hlt, q⟩, fun x H3 y => ?_⟩
      have S4 := S3.join eN S1.bl
      obtain ⟨N5, S5, e5, r5⟩ := src.yl i H x H3 hlt y _ _ _ _ _ (cup_r S3.sub (eN.trans S3.fr)) S4
      obtain ⟨Γ', js, hg, hb⟩ := hs n R hC i Γi hlt hI
      refine hg _ _ σ N5 H3 x _ S5 r5 fun σ6 S6 _ => hb _ _ σ6 N5 H3 _ S6 ⟨fun Γ σ N H h S => ⟨Γ, N, h, S⟩, f2.rt, fun Γ σ N H h S => f2.nx Γ σ N H h S, fun Γ σ N H h S => ⟨Γ, N, h, S⟩⟩
    · have e : i = n := by omega
      subst e
      exact .inl ⟨src.stop H (eN.trans S3.fr), f2.nx Γi σ N' H (hd i Γi hI) S3⟩
theorem q_forE {C : Nat → (Nat → Kn) → Prop} (I : Nat → List Wk.Slot → Prop) (h : IXE wi Γ C) (h0 : I 0 Γ) (hs : ∀ n R, C n R → ∀ i Γi, i < n → I i Γi → ∃ Γ' js, GX g (R i) Γi Γ' js ∧ SX t Γ' { P with nx := I (i + 1), ct := I (i + 1), bk := fun Γ => ∃ n, I n Γ })
    (hd : ∀ n Γn, I n Γn → SX u Γn P) : SX (tSeq (tFor wi g t) u) Γ P := sx_seq (fun Γ => ∃ n, I n Γ) (x_forE I h h0 hs fun n _ z => ⟨n, z⟩) fun Γ' ⟨n, z⟩ => hd n Γ' z
/-! ### a new object, given to a def that changes it -/
def EANo (ta : TA) (Γ : List Wk.Slot) (k : Nat) (Rs : List Kn) (O : Oc) : Prop := ∀ F B σ N H (Q : List V → Hp → Prop), Stt F B Γ σ N H → (∀ vs N' H' p u, Stt F B Γ σ N' H' → Ex N N' → All2 N' Rs vs → vs[k]? = some (.ref p) → H' p = some u → O.p N' u → N' p = none → F p = none → ¬ B p →
  (∀ (j : Nat) (γ : Wk.Slot) (q : Addr), Γ[j]? = some γ → γ.holds = true → σ[j]? = some (some (.ref q)) → q ≠ p) → Q vs H') → ta σ H Q
theorem eano_call {E : XK} (Q : PmN) (i : Q.ι) (ha : EA targ Γ (Q.args i)) (hp : Q.pre i) : EANo (tCons (tCall Q.sp [] E targ) tNil) Γ 0 [kAny] (Q.oc i) := fun F B σ N H QQ S c =>
  ha F B σ N H _ S fun vs N1 H1 S1 e1 r1 => by
    rw [List.append_nil]
    exact ⟨i, N1, S1.sub, hp, r1, fun p u N2 H2 a1 a2 a3 a4 hu ho n2 h2 => c [.ref p] N2 H2 p u (S1.grow a2 a1 a3 a4) (e1.trans a2) ⟨trivial, trivial⟩ rfl hu ho n2 (S1.fr.none h2) (fun b => S1.bh p b h2) (S1.apart h2)⟩
theorem ex_pmO {E : XK} {O : Oc} (P : PmH) (i : P.ι) (ha : EANo targ Γ P.k (P.args i) O) (hp : P.pre i) (hO : P.oc i = O) : EX (tCall P.sp [] E targ) Γ (P.res i) := fun F B σ N H Q S c =>
  ha F B σ N H _ S fun vs N1 H1 p u S1 e1 r1 q1 hH ho hN hF hB hA => by
    rw [List.append_nil]
    refine ⟨i, N1, p, _, S1.sub, hp, r1, q1, hN, hH, by rw [hO]; exact ho, fun v N2 H2 u' a1 a2 a3 a4 a5 a6 r2 => c v N2 H2 ?_ (e1.trans a2) r2⟩
    have keep : ∀ x o, x ≠ p → H1 x = some o → H2 x = some o := fun x o q e => a1 x o (by rw [less_ne q]; exact e)
    refine ⟨a3, fun x o e => keep x o (ne_of_none e hF) (S1.fr x o e), fun x bx => a4 x (S1.bh x bx) (S1.bl x bx), fun x bx => ?_, S1.len, fun j γ o hg ho => ?_, S1.ap⟩
    · have q : x ≠ p := fun z => hB (z ▸ bx)
      cases z : H1 x with
      | none => exact absurd z (S1.bh x bx)
      | some o => rw [keep x o q z]; exact Option.some_ne_none _
    · have z := S1.ok j γ o hg ho
      cases γ with
      | un => trivial
      | kn R => obtain ⟨v, e, r⟩ := z; exact ⟨v, e, R.mo _ _ _ a2 r⟩
      | own O2 =>
        obtain ⟨p2, u2, e2, a, b, cc, d2, r⟩ := z
        subst e2
        exact ⟨p2, u2, rfl, a, a4 p2 (by rw [d2]; exact Option.some_ne_none _) b, cc, keep p2 u2 (hA j _ p2 hg rfl ho) d2, O2.mo _ _ _ a2 r⟩
      | hel O2 =>
        obtain ⟨p2, u2, e2, a, b, cc, d2, r⟩ := z
        subst e2
        exact ⟨p2, u2, rfl, a, a4 p2 (by rw [d2]; exact Option.some_ne_none _) b, cc, keep p2 u2 (hA j _ p2 hg rfl ho) d2, O2.mo _ _ _ a2 r⟩
end
theorem three {X : Tb} : ∀ {ds : List PyData}, ds.length = 3 → (∀ d ∈ ds, ∃ w : List (Fin X.n), (Red X w ∧ w.length ≤ 3) ∧ d = encW w) → ∃ a b c : List (Fin X.n), ds = [encW a, encW b, encW c] ∧ (Red X a ∧ a.length ≤ 3) ∧ (Red X b ∧ b.length ≤ 3) ∧ (Red X c ∧ c.length ≤ 3)
  | [x, y, z], _, h => by
    obtain ⟨a, ha, ea⟩ := h x (by simp)
    obtain ⟨b, hb, eb⟩ := h y (by simp)
    obtain ⟨c, hc, ec⟩ := h z (by simp)
    exact ⟨a, b, c, by rw [ea, eb, ec], ha, hb, hc⟩
theorem list_none {ds : List PyData} {K : PySem.W.Frag} (N : Hp) (v : V) (h : Dp K N v (.list ds)) : decide (v = V.non) = false := by cases h; rfl
end Wk
namespace Wk
open PySem L2
section
variable {P : Program} {w : World} {K : PySem.W.Frag} {mg : Str → Option Value} {base : Heap}
abbrev s__law_right : Stmt := top 137
abbrev Ns__law_right : List Str := ["_law_pot_here", "_law_ties_here", "_law_table", "_law_words", "_law_most", "_law_one", "_law_two", "_law_turn"]
theorem sc__law_right : FnScope Ns__law_right ["_law_pot_here"] (defScope s__law_right) := ⟨rfl, rfl, rfl, by decide +kernel, rfl, by decide +kernel, by decide +kernel⟩
def t__law_right (K : PySem.W.Frag) : TS := (tSeq (tAsg (tCall (pm__law_ties K).sp [] E0 (tCons (tVar 0) (tCons (tOp (rI0 fun i j => .int (i + j)) (tC (.int 2)) (tCall (pm__law_take K).sp [] E0 (tCons (tVar 0) (tCons (tC (.int 2)) tNil)))) (tCons (tTup (tCons (tC (.int 2)) (tCons (tC (.int 3)) (tCons (tC (.int 3)) (tCons (tC (.int 4)) (tCons (tC (.int 5)) (tCons (tC (.int 0)) (tCons (tC (.int 3)) (tCons (tC (.int 2)) tNil))))))))) tNil)))) (gName 1))
    (tSeq (tAsg (tMake (He.ga K "Table") (pm_Table_init K).sp [] E0 (tCons (tVar 1) tNil)) (gName 2))
    (tSeq (tAsg (tLc (iRng1 (tCons (tC (.int 3)) tNil)) (gName 7) tYes (tCall (pm__law_first K).sp [] E0 (tCons (tVar 1) (tCons (tCall (pm__law_word K).sp [] E0 (tCons (tVar 0) (tCons (tCB (rLenSeq K) (tCons (tVar 1) tNil)) (tCons (tC (.int 3)) tNil)))) tNil))) [7]) (gName 3))
    (tSeq (tIfS (tTest (tOp rEq (tCall (pm__law_take K).sp [] E0 (tCons (tVar 0) (tCons (tC (.int 3)) tNil))) (tC (.int 0)))) (tAsg (tSl (rSlA K) (tOp (rIxL K) (tVar 3) (tC (.int 0))) tNoPart (tPart (tCall (pm__law_take K).sp [] E0 (tCons (tVar 0) (tCons (tC (.int 4)) tNil))))) (gSub (tVar 3) (tC (.int 1)) rSetL)) tNext)
    (tSeq (tAsg (tOp (rI0 fun i j => .int (i + j)) (tC (.int 3)) (tCall (pm__law_take K).sp [] E0 (tCons (tVar 0) (tCons (tC (.int 7)) tNil)))) (gName 4))
    (tSeq (tIfS (tNot (tB (tCall (pm__law_bracketed K).sp [] E0 (tCons (tVar 2) (tCons (tVar 3) (tCons (tVar 4) tNil)))))) (tRet (tC (.bl false))) tNext)
    (tSeq (tPar 5 6 (tCons (tMake (He.ga K "Change") (pm_Change_init K).sp [.non] E0 (tCons (tVar 2) (tCons (tOp (rIxL K) (tVar 3) (tC (.int 0))) tNil))) (tCons (tMake (He.ga K "Change") (pm_Change_init K).sp [.non] E0 (tCons (tVar 2) (tCons (tOp (rIxL K) (tVar 3) (tC (.int 1))) tNil))) tNil)))
    (tSeq (tIfS (tB (tNotN (tCall (pm__law_left K).sp [] E0 (tCons (tVar 1) (tCons (tOp (rIxL K) (tVar 3) (tC (.int 1))) (tCons (tOp (rIxL K) (tVar 3) (tC (.int 0))) tNil)))))) (tRet (tAndV (tOp (rOwn (He.ga K "Change") (pm_Change_eq K).sp id) (tCall (pm_least_continuation K).sp [] E0 (tCons (tVar 5) (tCons (tVar 6) (tCons (tVar 4) tNil)))) (tVar 5)) (tOp (rOwn (He.ga K "Change") (pm_Change_eq K).sp id) (tCall (pm_common_front K).sp [] E0 (tCons (tVar 5) (tCons (tVar 6) tNil))) (tVar 6)))) tNext)
    (tRet (tOp (rOwn (He.ga K "Change") (pm_Change_eq K).sp id) (tCall (pm_least_continuation K).sp [] E0 (tCons (tVar 5) (tCons (tVar 5) (tCons (tVar 4) tNil)))) (tVar 5)))))))))))
theorem sx__law_right (T : Tx K mg) : (pm__law_right K).body Ns__law_right (t__law_right K) := by
  rintro _ _
  dsimp only [pm__law_right]
  show SX _ [_, _, _, _, _, _, _, _] _
  refine q_set (ex_pmHE (j := 0) (R := kExP (fun X : Tb => True) fun X => kd K (encT X.m)) (pm__law_ties K) (eah_here rfl rfl (ea_cons (ex_addE (a := 2) (m := 2) (ex_int (K := K)) (ex_pmH (pm__law_take K) 2 (eah_here (j := 0) rfl rfl (ea_cons (ex_int (K := K)) ea_nil)) ⟨Nat.le_of_ble_eq_true rfl, Nat.le_of_ble_eq_true rfl⟩ rfl (.inr rfl) rfl)) (ea_cons (ex_is (ex_tup (ead_cons (ex_int (K := K)) (ead_cons (ex_int (K := K)) (ead_cons (ex_int (K := K)) (ead_cons (ex_int (K := K)) (ead_cons (ex_int (K := K)) (ead_cons (ex_int (K := K)) (ead_cons (ex_int (K := K)) (ead_cons (ex_int (K := K)) ead_nil))))))))) (R' := kd K (.tuple menuD)) rfl) ea_nil))) rfl (.inr rfl) (fun _ => ⟨rfl, rfl⟩) fun N vs h => ?_) ?_
  · match vs, h with
    | [x, y, z], ⟨h1, ⟨n, hn, h2⟩, h3, _⟩ =>
      refine ⟨n, ⟨hn.1, by have := hn.2; omega⟩, ⟨h1, h2, h3, trivial⟩, fun v N' _ ⟨m, hm, r⟩ => ?_⟩
      exact ⟨⟨n, m, hn.1, by have := hn.2; omega, hm.diag, hm.sym, hm.ok⟩, trivial, r⟩
  show SX _ [_, _, _, _, _, _, _, _] _
  refine sx_exi (j := 1) rfl fun X _ => ?_
  show SX _ [_, _, _, _, _, _, _, _] _
  refine q_set (ex_mkTable X (ea_cons (ex_var rfl) ea_nil) trivial) ?_
  show SX _ [_, _, _, _, _, _, _, _] _
  have h3 := X.h3
  have h2 := X.h2
  refine q_setLp (K := K) (exl_lcE (K := K) (fun d => ∃ w : List (Fin X.n), (Red X w ∧ w.length ≤ 3) ∧ d = encW w) (IX.toE (iw_range (n := 3) (ea_cons (ex_int (K := K)) ea_nil) (by decide))) (fun n R h => by rw [h.1]; decide) (no_holds (by kernel_rfl)) (js := [7]) (by decide) fun n R hC i hi => ?_) fun ds hds => ?_
  · rw [hC.2]
    refine ⟨_, by kernel_rfl, gx_name, ?_⟩
    refine ex_pmE (pm__law_first K) (ea_cons (ex_var rfl) (ea_cons (ex_pmH (pm__law_word K) ⟨X.n, 3⟩ (eah_here (j := 0) rfl rfl (ea_cons (ex_lenTi (ex_var rfl)) (ea_cons (ex_int (K := K)) ea_nil))) ⟨by show 0 < X.n; omega, h3, by show (3 : Nat) ≤ 100; decide⟩ rfl (.inr rfl) rfl) ea_nil)) fun N vs h => ?_
    match vs, h with
    | [x, y], ⟨h1, ⟨w, hw, h2⟩, _⟩ =>
      have hw : w.length ≤ 3 := hw
      refine ⟨⟨X, w⟩, by show w.length ≤ 36; omega, ⟨h1, h2, trivial⟩, fun v N' _ r => ⟨_, ⟨_, ⟨W.red_first _, ?_⟩, rfl⟩, r⟩⟩
      rw [W.first_len]
      exact Nat.le_trans (W.len_le (S := X.sys) w) hw
  obtain ⟨⟨R0, e3, _⟩, hds⟩ := hds
  obtain ⟨a, b, c, rfl, ⟨ra, la⟩, ⟨rb, lb⟩, ⟨rc, lc⟩⟩ := three e3 hds
  show SX _ [_, _, _, _, _, _, _, _] _
  have main : ∀ b : List (Fin X.n), Red X b → b.length ≤ 3 → SX ((tSeq (tAsg (tOp (rI0 fun i j => .int (i + j)) (tC (.int 3)) (tCall (pm__law_take K).sp [] E0 (tCons (tVar 0) (tCons (tC (.int 7)) tNil)))) (gName 4)) (tSeq (tIfS (tNot (tB (tCall (pm__law_bracketed K).sp [] E0 (tCons (tVar 2) (tCons (tVar 3) (tCons (tVar 4) tNil)))))) (tRet (tC (.bl false))) tNext) (tSeq (tPar 5 6 (tCons (tMake (He.ga K "Change") (pm_Change_init K).sp [.non] E0 (tCons (tVar 2) (tCons (tOp (rIxL K) (tVar 3) (tC (.int 0))) tNil))) (tCons (tMake (He.ga K "Change") (pm_Change_init K).sp [.non] E0 (tCons (tVar 2) (tCons (tOp (rIxL K) (tVar 3) (tC (.int 1))) tNil))) tNil))) (tSeq (tIfS (tB (tNotN (tCall (pm__law_left K).sp [] E0 (tCons (tVar 1) (tCons (tOp (rIxL K) (tVar 3) (tC (.int 1))) (tCons (tOp (rIxL K) (tVar 3) (tC (.int 0))) tNil)))))) (tRet (tAndV (tOp (rOwn (He.ga K "Change") (pm_Change_eq K).sp id) (tCall (pm_least_continuation K).sp [] E0 (tCons (tVar 5) (tCons (tVar 6) (tCons (tVar 4) tNil)))) (tVar 5)) (tOp (rOwn (He.ga K "Change") (pm_Change_eq K).sp id) (tCall (pm_common_front K).sp [] E0 (tCons (tVar 5) (tCons (tVar 6) tNil))) (tVar 6)))) tNext) (tRet (tOp (rOwn (He.ga K "Change") (pm_Change_eq K).sp id) (tCall (pm_least_continuation K).sp [] E0 (tCons (tVar 5) (tCons (tVar 5) (tCons (tVar 4) tNil)))) (tVar 5)))))))) [.hel oPot, .kn (kd K (encT X.m)), .kn (kTab K X), .own (oL K [encW a, encW b, encW c]), .un, .un, .un, .un] { rt := kEnd 0 oPot (kd K (.bool true)), nx := fun Γ => Γ[0]? = some (.hel oPot) ∧ ∀ N, (kd K (.bool true)).p N .non } := by
    intro b rb lb
    refine q_set (ex_addE (a := 3) (m := 7) (ex_int (K := K)) (ex_pmH (pm__law_take K) 7 (eah_here (j := 0) rfl rfl (ea_cons (ex_int (K := K)) ea_nil)) ⟨Nat.le_of_ble_eq_true rfl, Nat.le_of_ble_eq_true rfl⟩ rfl (.inr rfl) rfl)) ?_
    show SX _ [_, _, _, _, _, _, _, _] _
    refine sx_exi (j := 4) rfl fun m hm => ?_
    show SX _ [_, _, _, _, _, _, _, _] _
    have m3 : 3 ≤ m := hm.1
    have m9 : m < 10 := hm.2
    refine sx_frz (j := 3) rfl ?_
    show SX _ [_, _, _, _, _, _, _, _] _
    refine q_if (b := false) (et_is (et_not (a := true) (et_B (ex_pm (pm__law_bracketed K) ⟨X, a, b, c, (m : Int)⟩ (ea_cons (ex_var rfl) (ea_cons (ex_varL rfl) (ea_cons (ex_var rfl) ea_nil))) ⟨ra, rb, rc, la, lb, lc, by show (3 : Int) ≤ (m : Int); omega, by show (m : Int) ≤ 9; omega⟩))) rfl) (fun e => by cases e) fun _ => sx_pass ?_
    have ga : W.len (W.mk a : W X.sys) = a.length := ra
    have gb : W.len (W.mk b : W X.sys) = b.length := rb
    have eaa : eqB (W.mk a : W X.sys) (W.mk a) = true := eqB_iff.mpr rfl
    have ebb : eqB (W.mk b : W X.sys) (W.mk b) = true := eqB_iff.mpr rfl
    refine q_par (R1 := kChg K X (W.mk a)) (R2 := kChg K X (W.mk b)) (ea_cons (ex_mkChange ⟨X, a⟩ (ea_cons (ex_var rfl) (ea_cons (ex_ixL0 (ex_varL rfl)) ea_nil)) (by show a.length ≤ 60; omega)) (ea_cons (ex_mkChange ⟨X, b⟩ (ea_cons (ex_var rfl) (ea_cons (ex_ixL1 (ex_varL rfl)) ea_nil)) (by show b.length ≤ 60; omega)) ea_nil)) ?_
    show SX _ [_, _, _, _, _, _, _, _] _
    cases q : lft X b a with
    | true =>
      have hb : W.beg (W.mk b : W X.sys) (W.mk a) := (lft_iff rb ra).mp q
      refine q_if (b := true) (et_B (ex_notN false list_none (ex_is (ex_pm (pm__law_left K) ⟨X, b, a⟩ (ea_cons (ex_var rfl) (ea_cons (ex_ixL1 (ex_varL rfl)) (ea_cons (ex_ixL0 (ex_varL rfl)) ea_nil))) (by show b.length + a.length ≤ 36; omega)) (by show kd K (lftD X b a) = _; unfold lftD; rw [q]; rfl)))) (fun _ => ?_) fun e => by cases e
      exact q_ret (ex_end (ex_andV (a := true) (b := true) (ex_is (ex_own (pm_Change_eq K) ⟨X, W.mk a, W.mk a⟩ id _ (ex_is (ex_pm (pm_least_continuation K) ⟨X, W.mk a, W.mk b, (m : Int)⟩ (ea_cons (ex_var rfl) (ea_cons (ex_var rfl) (ea_cons (ex_var rfl) ea_nil))) ⟨by show (0 : Int) ≤ (m : Int); omega, by show (m : Int) ≤ 9; omega, by show W.len (W.mk a : W X.sys) ≤ 20; omega, by show W.len (W.mk b : W X.sys) ≤ 20; omega⟩) (congrArg (kOpt K X) (W.told_beg hb (show ((W.len (W.mk a : W X.sys) : Nat) : Int) ≤ (m : Int) by omega)))) (ex_var rfl) rfl rfl trivial) (by rw [eaa]; rfl)) fun _ => ex_is (ex_own (pm_Change_eq K) ⟨X, W.mk b, W.mk b⟩ id _ (ex_pm (pm_common_front K) ⟨X, W.mk b, W.mk a, false⟩ (ea_cons (ex_var rfl) (ea_cons (ex_var rfl) ea_nil)) ⟨hb, by show W.len (W.mk b : W X.sys) ≤ 3; omega, by show W.len (W.mk a : W X.sys) ≤ 30; omega⟩) (ex_var rfl) rfl rfl trivial) (by rw [ebb]; rfl)) rfl)
    | false =>
      refine q_if (b := false) (et_B (ex_notN true non_none (ex_is (ex_pm (pm__law_left K) ⟨X, b, a⟩ (ea_cons (ex_var rfl) (ea_cons (ex_ixL1 (ex_varL rfl)) (ea_cons (ex_ixL0 (ex_varL rfl)) ea_nil))) (by show b.length + a.length ≤ 36; omega)) (by show kd K (lftD X b a) = _; unfold lftD; rw [q]; rfl)))) (fun e => by cases e) fun _ => sx_pass ?_
      exact sx_ret (ex_end (ex_is (ex_own (pm_Change_eq K) ⟨X, W.mk a, W.mk a⟩ id _ (ex_is (ex_pm (pm_least_continuation K) ⟨X, W.mk a, W.mk a, (m : Int)⟩ (ea_cons (ex_var rfl) (ea_cons (ex_var rfl) (ea_cons (ex_var rfl) ea_nil))) ⟨by show (0 : Int) ≤ (m : Int); omega, by show (m : Int) ≤ 9; omega, by show W.len (W.mk a : W X.sys) ≤ 20; omega, by show W.len (W.mk a : W X.sys) ≤ 20; omega⟩) (congrArg (kOpt K X) (W.told_beg (W.beg_refl _) (show ((W.len (W.mk a : W X.sys) : Nat) : Int) ≤ (m : Int) by omega)))) (ex_var rfl) rfl rfl trivial) (by rw [eaa]; rfl)) rfl)
  refine q_ifE (ete_eq (ex_pmH (pm__law_take K) 3 (eah_here (j := 0) rfl rfl (ea_cons (ex_int (K := K)) ea_nil)) ⟨Nat.le_of_ble_eq_true rfl, Nat.le_of_ble_eq_true rfl⟩ rfl (.inr rfl) rfl)) ?_ (sx_pass (main b rb lb))
  refine q_setAt (C := fun d => ∃ k : Nat, d = encW (a.take k)) rfl (ex_weak (ex_slTE (ex_ixO (j := 3) rfl (ex_int (K := K)) (atI_nat (j := 0) rfl)) eo_none (eoe_some (ex_pmH (pm__law_take K) 4 (eah_here (j := 0) rfl rfl (ea_cons (ex_int (K := K)) ea_nil)) ⟨Nat.le_of_ble_eq_true rfl, Nat.le_of_ble_eq_true rfl⟩ rfl (.inr rfl) rfl))) fun N v ⟨o, ⟨k, ek⟩, r⟩ => ?_) fun d ⟨k, ed⟩ => ?_
  · subst ek
    refine ⟨_, ⟨k, rfl⟩, ?_⟩
    have e : cutD (a.map encF) none (some (k : Int)) = (a.take k).map encF := by rw [cutD_to, List.map_take]
    have r : Dp K N v (.tuple (cutD (a.map encF) none (some (k : Int)))) := r
    rw [e] at r
    exact r
  · subst ed
    exact main (a.take k) (W.red_take ra k) (by rw [List.length_take]; omega)
theorem ok__law_right (T : Tx K mg) (c__law_take : C8.Cal P w K mg base 1 "_law_take" (pm__law_take K).sp []) (c__law_ties : C8.Cal P w K mg base 3 "_law_ties" (pm__law_ties K).sp []) (c_Table_init : C8.Mak P w K mg base 4 "Table" (He.ga K "Table") (pm_Table_init K).sp []) (c__law_word : C8.Cal P w K mg base 2 "_law_word" (pm__law_word K).sp []) (c__law_first : C8.Cal P w K mg base 6 "_law_first" (pm__law_first K).sp []) (c__law_bracketed : C8.Cal P w K mg base 32 "_law_bracketed" (pm__law_bracketed K).sp []) (c_Change_init : C8.Mak P w K mg base 5 "Change" (He.ga K "Change") (pm_Change_init K).sp [.non]) (c__law_left : C8.Cal P w K mg base 6 "_law_left" (pm__law_left K).sp []) (c_least_continuation : C8.Cal P w K mg base 30 "least_continuation" (pm_least_continuation K).sp []) (c_Change_eq : EqO P w K mg base 2 (He.ga K "Change") (pm_Change_eq K).sp) (c_common_front : C8.Cal P w K mg base 11 "common_front" (pm_common_front K).sp []) {f : Addr} {fd : FuncData} (F : FnP K "_law_right" "_law_right" s__law_right f fd) : FnOk P w K mg base CX0 33 f fd ["_law_pot_here"] (pm__law_right K).sp := by
  have sc := sc__law_right
  refine F.ok sc (fun vs H Q E h => PmH.len (fun _ => rfl) vs H Q E h) (fun cdv A outer s H vs Q E hr h => ⟨t__law_right K, PSs.nox ?_, PmH.go (sx__law_right T) vs H Q E h⟩)
  exact (pss_cons (ps_set (i := 1) sc.nd rfl (by first | exact Or.inl rfl | exact Or.inr rfl) (C8.pe_c c__law_ties hr (by decide) rfl (pa_cons (pv 0) (pa_cons (pe_op op_add pe_int (C8.pe_c c__law_take hr (by decide) rfl (pa_cons (pv 0) (pa_cons pe_int pa_nil)))) (pa_cons (pe_tup (pa_cons pe_int (pa_cons pe_int (pa_cons pe_int (pa_cons pe_int (pa_cons pe_int (pa_cons pe_int (pa_cons pe_int (pa_cons pe_int pa_nil))))))))) pa_nil)))))
      (pss_cons (ps_set (i := 2) sc.nd rfl (by first | exact Or.inl rfl | exact Or.inr rfl) (C8.pe_mk c_Table_init hr (by decide) rfl (pa_cons (pv 1) pa_nil)))
      (pss_cons (ps_setLc (i := 3) (own := [("_law_turn", 7)]) (g := (gName 7)) (tt := tYes) (te := (tCall (pm__law_first K).sp [] E0 (tCons (tVar 1) (tCons (tCall (pm__law_word K).sp [] E0 (tCons (tVar 0) (tCons (tCB (rLenSeq K) (tCons (tVar 1) tNil)) (tCons (tC (.int 3)) tNil)))) tNil)))) rfl sc.nd rfl rfl (sw_true rfl rfl rfl (by decide +kernel)) (pi_range1 rfl T.range_ (pa_cons pe_int pa_nil)) (blkOk_by (own := [("_law_turn", 7)]) (N := Ns__law_right) (sc := defScope s__law_right) (by decide +kernel)) (fun _ _ _ _ _ => (pg_name (i := 7) sc.nd rfl (by first | exact Or.inl rfl | exact Or.inr rfl))) (fun _ _ _ _ _ => pts_nil) (fun _ _ _ _ _ => (C8.pe_c c__law_first hr (by decide) rfl (pa_cons (pv 1) (pa_cons (C8.pe_c c__law_word hr (by decide) rfl (pa_cons (pv 0) (pa_cons (pe_callB call_len_seq rfl T.len_ PySem.boot_len (pa_cons (pv 1) pa_nil)) (pa_cons pe_int pa_nil)))) pa_nil)))))
      (pss_cons (ps_if (pt_cmpR op_eq (C8.pe_c c__law_take hr (by decide) rfl (pa_cons (pv 0) (pa_cons pe_int pa_nil))) pe_int (nomark _)) (pss_one (ps_asg (pe_slice sl_tupA (pe_ix ix_list (pv 3) pe_int (fun _ _ => rfl)) po_none (po_some (C8.pe_c c__law_take hr (by decide) rfl (pa_cons (pv 0) (pa_cons pe_int pa_nil))))) (pg_sub (pv 3) pe_int set_list))) pss_nil)
      (pss_cons (ps_set (i := 4) sc.nd rfl (by first | exact Or.inl rfl | exact Or.inr rfl) (pe_op op_add pe_int (C8.pe_c c__law_take hr (by decide) rfl (pa_cons (pv 0) (pa_cons pe_int pa_nil)))))
      (pss_cons (ps_if (pt_not (pt_val (C8.pe_c c__law_bracketed hr (by decide) rfl (pa_cons (pv 2) (pa_cons (pv 3) (pa_cons (pv 4) pa_nil)))))) (pss_one (ps_ret pe_bl)) pss_nil)
      (pss_cons (ps_par (i := 5) (j := 6) rfl sc.nd rfl rfl (by decide) rfl rfl (pa_cons (C8.pe_mk c_Change_init hr (by decide) rfl (pa_cons (pv 2) (pa_cons (pe_ix ix_list (pv 3) pe_int (fun _ _ => rfl)) pa_nil))) (pa_cons (C8.pe_mk c_Change_init hr (by decide) rfl (pa_cons (pv 2) (pa_cons (pe_ix ix_list (pv 3) pe_int (fun _ _ => rfl)) pa_nil))) pa_nil)) rfl)
      (pss_cons (ps_if (pt_cmp (pc_notN (C8.pe_c c__law_left hr (by decide) rfl (pa_cons (pv 1) (pa_cons (pe_ix ix_list (pv 3) pe_int (fun _ _ => rfl)) (pa_cons (pe_ix ix_list (pv 3) pe_int (fun _ _ => rfl)) pa_nil)))))) (pss_one (ps_ret (pe_and (pe_cmpR (op_eqO c_Change_eq hr (by decide)) (C8.pe_c c_least_continuation hr (by decide) rfl (pa_cons (pv 5) (pa_cons (pv 6) (pa_cons (pv 4) pa_nil)))) (pv 5) (nomark _)) (pe_one (pe_cmpR (op_eqO c_Change_eq hr (by decide)) (C8.pe_c c_common_front hr (by decide) rfl (pa_cons (pv 5) (pa_cons (pv 6) pa_nil))) (pv 6) (nomark _)))))) pss_nil)
      (pss_one (ps_ret (pe_cmpR (op_eqO c_Change_eq hr (by decide)) (C8.pe_c c_least_continuation hr (by decide) rfl (pa_cons (pv 5) (pa_cons (pv 5) (pa_cons (pv 4) pa_nil)))) (pv 5) (nomark _))))))))))))
abbrev s_law : Stmt := top 138
abbrev Ns_law : List Str := ["_law_script", "_law_spot"]
theorem sc_law : FnScope Ns_law ["_law_script"] (defScope s_law) := ⟨rfl, rfl, rfl, by decide +kernel, rfl, by decide +kernel, by decide +kernel⟩
def t_law (K : PySem.W.Frag) : TS := (tSeq (tFor (iRng1 (tCons (tCall (pm__law_rounds K).sp [] E0 (tCons (tVar 0) tNil)) tNil)) (gName 1) (tIfS (tNot (tB (tCall (pm__law_right K).sp [] E0 (tCons (tCall (pm__law_pot K).sp [] E0 (tCons (tVar 0) (tCons (tVar 1) tNil))) tNil)))) (tRet (tC (.bl false))) tNext))
    (tRet (tC (.bl true))))
theorem sx_law (T : Tx K mg) : (pm_law K).body Ns_law (t_law K) := by
  rintro (ns : List Int) hns
  dsimp only [pm_law]
  show SX _ [_, _] _
  have hns : ns.length ≤ 63 := hns
  refine q_forE (fun i Γ => ∃ s : Wk.Slot, Γ = [.kn (kScript K ns), s]) (ixe_range (C := fun d => d ≤ 3) (ea_cons (ex_pm (pm__law_rounds K) ns (ea_cons (ex_var rfl) ea_nil) hns) ea_nil) fun d hd => by omega) ⟨_, rfl⟩ ?_ ?_
  · rintro n R ⟨hn, hR⟩ i Γ hi ⟨s, rfl⟩
    refine ⟨_, _, by rw [hR]; exact gx_name, ?_⟩
    refine s_if (b := false) (et_is (et_not (a := true) (et_B (ex_pmO (O := oPot) (pm__law_right K) () (eano_call (pm__law_pot K) ⟨ns, i⟩ (ea_cons (ex_var rfl) (ea_cons (ex_var rfl) ea_nil)) ⟨by show i ≤ 3; omega, hns⟩) trivial rfl))) rfl) (fun e => by cases e) fun _ => sx_nil ⟨_, rfl⟩
  · rintro n Γ ⟨s, rfl⟩
    exact sx_ret (ex_bl (K := K))
theorem ok_law (T : Tx K mg) (c__law_rounds : C8.Cal P w K mg base 1 "_law_rounds" (pm__law_rounds K).sp []) (c__law_pot : C8.Cal P w K mg base 1 "_law_pot" (pm__law_pot K).sp []) (c__law_right : C8.Cal P w K mg base 33 "_law_right" (pm__law_right K).sp []) {f : Addr} {fd : FuncData} (F : FnP K "law" "law" s_law f fd) : FnOk P w K mg base CX0 34 f fd ["_law_script"] (pm_law K).sp := by
  have sc := sc_law
  refine F.ok sc (fun vs H Q E h => Pm.len (fun _ => rfl) vs H Q E h) (fun cdv A outer s H vs Q E hr h => ⟨t_law K, PSs.nox ?_, Pm.go (sx_law T) vs H Q E h⟩)
  exact (pss_cons (ps_for PassesOwn.never rfl (pi_range1 rfl T.range_ (pa_cons (C8.pe_c c__law_rounds hr (by decide) rfl (pa_cons (pv 0) pa_nil)) pa_nil)) (pg_name (i := 1) sc.nd rfl (by first | exact Or.inl rfl | exact Or.inr rfl)) (pss_one (ps_if (pt_not (pt_val (C8.pe_c c__law_right hr (by decide) rfl (pa_cons (C8.pe_c c__law_pot hr (by decide) rfl (pa_cons (pv 0) (pa_cons (pv 1) pa_nil))) pa_nil)))) (pss_one (ps_ret pe_bl)) pss_nil)))
      (pss_one (ps_ret pe_bl)))
end
end Wk
namespace Wk
open PySem L2
section
variable {P : Program} {w : World} {K : PySem.W.Frag} {mg : Str → Option Value} {base h : Heap} {j k : Nat} {f : Addr} {fd : FuncData} {ps : List Str} {sp : Sp} {x : Str}
theorem calOf (ok : FnOk P w K mg base C8.CX0 k f fd ps sp) (g : mg x = some (.ref f)) (kp : PySem.W.keepIn K (.ref f) = true) (b : Binds K fd ps []) : C8.Cal P w K mg base k x sp [] := ⟨⟨f, fd, ps, [], ok, g, kp, b, .nil⟩⟩
theorem calUp (c : C8.Cal P w K mg base k x sp []) (e : k ≤ j) : C8.Cal P w K mg base j x sp [] := by
  obtain ⟨f, fd, ps, ds, ok, r⟩ := c.ex
  exact ⟨⟨f, fd, ps, ds, ok.mono e, r⟩⟩
theorem ok_none (p : Pm) (e : ∀ i, ¬ p.pre i) : FnOk P w K mg base C8.CX0 k f fd ps p.sp := ⟨fun vs H Q E ⟨i, N, _, hp, _⟩ => (e i hp).elim, fun A outer s H args us vs Q E _ _ _ _ ⟨i, N, _, hp, _⟩ => (e i hp).elim⟩
theorem ok_noneH (p : PmH) (e : ∀ i, ¬ p.pre i) : FnOk P w K mg base C8.CX0 k f fd ps p.sp := ⟨fun vs H Q E ⟨i, N, _, _, _, hp, _⟩ => (e i hp).elim, fun A outer s H args us vs Q E _ _ _ _ ⟨i, N, _, _, _, hp, _⟩ => (e i hp).elim⟩
theorem SaysW.exx (c : SaysW asks w K) (i : Nat) {b : Bool} (e : (qEx K)[i]? = some b) : b = true := List.all_eq_true.mp (show (qEx K).all id = true from c.bs.2.2) b (List.mem_of_getElem? e)

theorem tx_of (X : K.In h) (G : h.Ns mainGlobals mg) (c : SaysW asks w K) : Tx K mg where
  len_ := He.free_ok X G (c.fact 0 (f := .free "len") rfl)
  tuple_ := He.free_ok X G (c.fact 1 (f := .free "tuple") rfl)
  range_ := He.free_ok X G (c.fact 2 (f := .free "range") rfl)
  zip_ := He.free_ok X G (c.fact 3 (f := .free "zip") rfl)
  enumerate_ := He.free_ok X G (c.fact 4 (f := .free "enumerate") rfl)
  reversed_ := He.free_ok X G (c.fact 5 (f := .free "reversed") rfl)
  isinstance_ := He.free_ok X G (c.fact 6 (f := .free "isinstance") rfl)
  int_ := He.free_ok X G (c.fact 7 (f := .free "int") rfl)
  bool_ := He.free_ok X G (c.fact 8 (f := .free "bool") rfl)
  str_ := He.free_ok X G (c.fact 9 (f := .free "str") rfl)
  abs_ := He.free_ok X G (c.fact 10 (f := .free "abs") rfl)
  max_ := He.free_ok X G (c.fact 11 (f := .free "max") rfl)
  min_ := He.free_ok X G (c.fact 12 (f := .free "min") rfl)
  sorted_ := He.free_ok X G (c.fact 13 (f := .free "sorted") rfl)
  divmod_ := He.free_ok X G (c.fact 14 (f := .free "divmod") rfl)
  cTable := ⟨_, (He.glo_ok X G (c.fact 106 (f := .glo "Table") rfl)), rfl⟩
  isTable := insB_ok (He.cls_ok (c.fact 118 (f := .cls "Table") rfl)) (c.exx 0 rfl)
  cChange := ⟨_, (He.glo_ok X G (c.fact 107 (f := .glo "Change") rfl)), rfl⟩
  isChange := insB_ok (He.cls_ok (c.fact 119 (f := .cls "Change") rfl)) (c.exx 1 rfl)
  t_ties := He.noat_ok (c.fact 124 (f := .noat "Table" "ties") rfl)
  t_size := He.noat_ok (c.fact 125 (f := .noat "Table" "size") rfl)
  t_pairs := He.noat_ok (c.fact 126 (f := .noat "Table" "pairs") rfl)
  t_pieces := He.noat_ok (c.fact 127 (f := .noat "Table" "pieces") rfl)
  t_table := He.noat_ok (c.fact 128 (f := .noat "Change" "table") rfl)
  t_ahead := He.noat_ok (c.fact 129 (f := .noat "Change" "_ahead") rfl)
  t_back := He.noat_ok (c.fact 130 (f := .noat "Change" "_back") rfl)
  cTIES := ⟨_, (He.glo_ok X G (c.fact 108 (f := .glo "TIES") rfl)), rfl⟩
  cLOW := ⟨_, (He.glo_ok X G (c.fact 109 (f := .glo "LOW") rfl)), rfl⟩
  cHIGH := ⟨_, (He.glo_ok X G (c.fact 110 (f := .glo "HIGH") rfl)), rfl⟩
  cNOUGHT := ⟨_, (He.glo_ok X G (c.fact 111 (f := .glo "NOUGHT") rfl)), rfl⟩
  cMOST_WORD := by
    obtain ⟨t, e⟩ := He.int_ok X G (c.fact 116 (f := .int "MOST_WORD" 60) rfl)
    exact ⟨_, e, t, rfl⟩
  cMOST_BUTTONS := by
    obtain ⟨t, e⟩ := He.int_ok X G (c.fact 117 (f := .int "MOST_BUTTONS" 6) rfl)
    exact ⟨_, e, t, rfl⟩
  ties := fun H => tupA_ok (c.exx 7 rfl) H
  nought := fun H => tupA_ok (c.exx 8 rfl) H
  low := fun m hm => by
    rcases hm with e | e | e | e | e <;> subst e
    · exact pairB_ok (K := K) (a := He.ga K "LOW") (i := 0) (x := (-2)) (y := 0) (c.exx 9 rfl)
    · exact pairB_ok (K := K) (a := He.ga K "LOW") (i := 2) (x := 0) (y := 0) (c.exx 10 rfl)
    · exact pairB_ok (K := K) (a := He.ga K "LOW") (i := 3) (x := (-1)) (y := 0) (c.exx 11 rfl)
    · exact pairB_ok (K := K) (a := He.ga K "LOW") (i := 4) (x := (-1)) (y := 0) (c.exx 12 rfl)
    · exact pairB_ok (K := K) (a := He.ga K "LOW") (i := 5) (x := 0) (y := (-1)) (c.exx 13 rfl)
  high := fun m hm => by
    rcases hm with e | e | e | e | e <;> subst e
    · exact pairB_ok (K := K) (a := He.ga K "HIGH") (i := 0) (x := (-2)) (y := 0) (c.exx 14 rfl)
    · exact pairB_ok (K := K) (a := He.ga K "HIGH") (i := 2) (x := 0) (y := 0) (c.exx 15 rfl)
    · exact pairB_ok (K := K) (a := He.ga K "HIGH") (i := 3) (x := (-1)) (y := 0) (c.exx 16 rfl)
    · exact pairB_ok (K := K) (a := He.ga K "HIGH") (i := 4) (x := (-2)) (y := 0) (c.exx 17 rfl)
    · exact pairB_ok (K := K) (a := He.ga K "HIGH") (i := 5) (x := 0) (y := (-1)) (c.exx 18 rfl)
theorem ktb_of {kvs : List (Str × Int)} (e1 : He.dicW K (He.ga K x) = some (He.keysIn w.params (kvs.map (·.1)))) (e2 : He.valsB K (He.ga K x) (kvs.map fun q => (q.1, He.Dv.int q.2)) = true) : KTb K w x kvs where
  dict := He.dicW_ok e1
  val := fun q hq => He.valsB_ok e2 (List.mem_map.mpr ⟨q, hq, rfl⟩)
  keys := keys_of e1
theorem tn_of (X : K.In h) (G : h.Ns mainGlobals mg) (c : SaysW asks w K) : Tn K mg w where
  cLEAST := ⟨_, (He.glo_ok X G (c.fact 112 (f := .glo "LEAST") rfl)), rfl⟩
  least := ktb_of (kvs := leastL) (c.tab 0 rfl) (c.exx 19 rfl)
  cMOST := ⟨_, (He.glo_ok X G (c.fact 113 (f := .glo "MOST") rfl)), rfl⟩
  most := ktb_of (kvs := mostL) (c.tab 1 rfl) (c.exx 20 rfl)
  cFLAT_LEAST := ⟨_, (He.glo_ok X G (c.fact 114 (f := .glo "FLAT_LEAST") rfl)), rfl⟩
  flatLeast := ktb_of (kvs := flatLeastL) (c.tab 2 rfl) (c.exx 21 rfl)
  cFLAT_MOST := ⟨_, (He.glo_ok X G (c.fact 115 (f := .glo "FLAT_MOST") rfl)), rfl⟩
  flatMost := ktb_of (kvs := flatMostL) (c.tab 3 rfl) (c.exx 22 rfl)
theorem b_is_whole (F : FnP K "is_whole" "is_whole" (top 19) f fd) : Binds K fd ["value"] [] := F.bindsN fun _ _ _ _ _ _ us hl => match us, hl with | [_], _ => by kernel_rfl
theorem b_is_between (F : FnP K "is_between" "is_between" (top 20) f fd) : Binds K fd ["value", "low", "high"] [] := F.bindsN fun _ _ _ _ _ _ us hl => match us, hl with | [_, _, _], _ => by kernel_rfl
theorem b_pair_sign (F : FnP K "pair_sign" "pair_sign" (top 22) f fd) : Binds K fd ["pair"] [] := F.bindsN fun _ _ _ _ _ _ us hl => match us, hl with | [_], _ => by kernel_rfl
theorem b_axis_of (F : FnP K "axis_of" "axis_of" (top 23) f fd) : Binds K fd ["size", "button"] [] := F.bindsN fun _ _ _ _ _ _ us hl => match us, hl with | [_, _], _ => by kernel_rfl
theorem b_all_axes (F : FnP K "all_axes" "all_axes" (top 24) f fd) : Binds K fd ["size"] [] := F.bindsN fun _ _ _ _ _ _ us hl => match us, hl with | [_], _ => by kernel_rfl
theorem b_level_at (F : FnP K "level_at" "level_at" (top 26) f fd) : Binds K fd ["weights", "vector", "button"] [] := F.bindsN fun _ _ _ _ _ _ us hl => match us, hl with | [_, _, _], _ => by kernel_rfl
theorem b_turned (F : FnP K "turned" "turned" (top 27) f fd) : Binds K fd ["weights", "vector", "button"] [] := F.bindsN fun _ _ _ _ _ _ us hl => match us, hl with | [_, _, _], _ => by kernel_rfl
theorem b_vector_less (F : FnP K "vector_less" "vector_less" (top 28) f fd) : Binds K fd ["vector", "factor", "other"] [] := F.bindsN fun _ _ _ _ _ _ us hl => match us, hl with | [_, _, _], _ => by kernel_rfl
theorem b_pressed_behind (F : FnP K "pressed_behind" "pressed_behind" (top 30) f fd) : Binds K fd ["weights", "images", "button"] [] := F.bindsN fun _ _ _ _ _ _ us hl => match us, hl with | [_, _, _], _ => by kernel_rfl
theorem b_pressed_front (F : FnP K "pressed_front" "pressed_front" (top 31) f fd) : Binds K fd ["weights", "images", "button"] [] := F.bindsN fun _ _ _ _ _ _ us hl => match us, hl with | [_, _, _], _ => by kernel_rfl
theorem b_images_of (F : FnP K "images_of" "images_of" (top 32) f fd) : Binds K fd ["weights", "word"] [] := F.bindsN fun _ _ _ _ _ _ us hl => match us, hl with | [_, _], _ => by kernel_rfl
theorem b_is_down (F : FnP K "is_down" "is_down" (top 25) f fd) : Binds K fd ["axis"] [] := F.bindsN fun _ _ _ _ _ _ us hl => match us, hl with | [_], _ => by kernel_rfl
theorem b_down_buttons (F : FnP K "down_buttons" "down_buttons" (top 33) f fd) : Binds K fd ["images"] [] := F.bindsN fun _ _ _ _ _ _ us hl => match us, hl with | [_], _ => by kernel_rfl
theorem b_word_by (F : FnP K "word_by" "word_by" (top 34) f fd) : Binds K fd ["weights", "back"] [] := F.bindsN fun _ _ _ _ _ _ us hl => match us, hl with | [_, _], _ => by kernel_rfl
theorem b_led_by (F : FnP K "led_by" "led_by" (top 29) f fd) : Binds K fd ["images", "vector"] [] := F.bindsN fun _ _ _ _ _ _ us hl => match us, hl with | [_, _], _ => by kernel_rfl
theorem b_is_button (F : FnP K "is_button" "is_button" (top 59) f fd) : Binds K fd ["size", "value"] [] := F.bindsN fun _ _ _ _ _ _ us hl => match us, hl with | [_, _], _ => by kernel_rfl
theorem b_is_right_row (F : FnP K "is_right_row" "is_right_row" (top 60) f fd) : Binds K fd ["ties", "place"] [] := F.bindsN fun _ _ _ _ _ _ us hl => match us, hl with | [_, _], _ => by kernel_rfl
theorem b_first_wrong_row (F : FnP K "first_wrong_row" "first_wrong_row" (top 61) f fd) : Binds K fd ["ties"] [] := F.bindsN fun _ _ _ _ _ _ us hl => match us, hl with | [_], _ => by kernel_rfl
theorem b_weight_pairs (F : FnP K "weight_pairs" "weight_pairs" (top 62) f fd) : Binds K fd ["ties"] [] := F.bindsN fun _ _ _ _ _ _ us hl => match us, hl with | [_], _ => by kernel_rfl
theorem b_piece_from (F : FnP K "piece_from" "piece_from" (top 63) f fd) : Binds K fd ["ties", "first"] [] := F.bindsN fun _ _ _ _ _ _ us hl => match us, hl with | [_, _], _ => by kernel_rfl
theorem b_pieces_of (F : FnP K "pieces_of" "pieces_of" (top 64) f fd) : Binds K fd ["ties"] [] := F.bindsN fun _ _ _ _ _ _ us hl => match us, hl with | [_], _ => by kernel_rfl
theorem b_check_table (F : FnP K "check_table" "check_table" (top 66) f fd) : Binds K fd ["value"] [] := F.bindsN fun _ _ _ _ _ _ us hl => match us, hl with | [_], _ => by kernel_rfl
theorem b_wrong_in_room (F : FnP K "wrong_in_room" "wrong_in_room" (top 67) f fd) : Binds K fd ["table", "value"] [] := F.bindsN fun _ _ _ _ _ _ us hl => match us, hl with | [_, _], _ => by kernel_rfl
theorem b_wrong_in_word (F : FnP K "wrong_in_word" "wrong_in_word" (top 72) f fd) : Binds K fd ["table", "value", "most"] [] := F.bindsN fun _ _ _ _ _ _ us hl => match us, hl with | [_, _, _], _ => by kernel_rfl
theorem b_check_word (F : FnP K "check_word" "check_word" (top 73) f fd) : Binds K fd ["table", "value"] [] := F.bindsN fun _ _ _ _ _ _ us hl => match us, hl with | [_, _], _ => by kernel_rfl
theorem b_check_room (F : FnP K "check_room" "check_room" (top 74) f fd) : Binds K fd ["table", "value"] [] := F.bindsN fun _ _ _ _ _ _ us hl => match us, hl with | [_, _], _ => by kernel_rfl
theorem b_check_number (F : FnP K "check_number" "check_number" (top 75) f fd) : Binds K fd ["value", "low", "high"] [] := F.bindsN fun _ _ _ _ _ _ us hl => match us, hl with | [_, _, _], _ => by kernel_rfl
theorem b_part_ties (F : FnP K "part_ties" "part_ties" (top 68) f fd) : Binds K fd ["ties", "room"] [] := F.bindsN fun _ _ _ _ _ _ us hl => match us, hl with | [_, _], _ => by kernel_rfl
theorem b_Table_init (F : FnP K "__init__" "Table.__init__" (s_Table_init) f fd) : Binds K fd ["self", "ties"] [] := F.bindsN fun _ _ _ _ _ _ us hl => match us, hl with | [_, _], _ => by kernel_rfl
theorem b_change_made (F : FnP K "change_made" "change_made" (top 79) f fd) : Binds K fd ["table", "ahead", "back"] [] := F.bindsN fun _ _ _ _ _ _ us hl => match us, hl with | [_, _, _], _ => by kernel_rfl
theorem b_check_change (F : FnP K "check_change" "check_change" (top 80) f fd) : Binds K fd ["value"] [] := F.bindsN fun _ _ _ _ _ _ us hl => match us, hl with | [_], _ => by kernel_rfl
theorem b_check_same_table (F : FnP K "check_same_table" "check_same_table" (top 76) f fd) : Binds K fd ["one", "other"] [] := F.bindsN fun _ _ _ _ _ _ us hl => match us, hl with | [_, _], _ => by kernel_rfl
theorem b_check_both (F : FnP K "check_both" "check_both" (top 100) f fd) : Binds K fd ["change", "other"] [] := F.bindsN fun _ _ _ _ _ _ us hl => match us, hl with | [_, _], _ => by kernel_rfl
theorem b_inverse_of (F : FnP K "inverse_of" "inverse_of" (top 81) f fd) : Binds K fd ["change"] [] := F.bindsN fun _ _ _ _ _ _ us hl => match us, hl with | [_], _ => by kernel_rfl
theorem b_product_of (F : FnP K "product_of" "product_of" (top 82) f fd) : Binds K fd ["one", "other"] [] := F.bindsN fun _ _ _ _ _ _ us hl => match us, hl with | [_, _], _ => by kernel_rfl
theorem b_led_front (F : FnP K "led_front" "led_front" (top 84) f fd) : Binds K fd ["change", "button"] [] := F.bindsN fun _ _ _ _ _ _ us hl => match us, hl with | [_, _], _ => by kernel_rfl
theorem b_plain (F : FnP K "plain" "plain" (top 87) f fd) : Binds K fd ["table"] [] := F.bindsN fun _ _ _ _ _ _ us hl => match us, hl with | [_], _ => by kernel_rfl
theorem b_Change_word (F : FnP K "word" "Change.word" (s_Change_word) f fd) : Binds K fd ["self"] [] := F.bindsN fun _ _ _ _ _ _ us hl => match us, hl with | [_], _ => by kernel_rfl
theorem b_Change_length (F : FnP K "length" "Change.length" (s_Change_length) f fd) : Binds K fd ["self"] [] := F.bindsN fun _ _ _ _ _ _ us hl => match us, hl with | [_], _ => by kernel_rfl
theorem b_Change_fronts (F : FnP K "fronts" "Change.fronts" (s_Change_fronts) f fd) : Binds K fd ["self"] [] := F.bindsN fun _ _ _ _ _ _ us hl => match us, hl with | [_], _ => by kernel_rfl
theorem b_Table_eq (F : FnP K "__eq__" "Table.__eq__" (s_Table_eq) f fd) : Binds K fd ["self", "other"] [] := F.bindsN fun _ _ _ _ _ _ us hl => match us, hl with | [_, _], _ => by kernel_rfl
theorem b_Change_eq (F : FnP K "__eq__" "Change.__eq__" (s_Change_eq) f fd) : Binds K fd ["self", "other"] [] := F.bindsN fun _ _ _ _ _ _ us hl => match us, hl with | [_, _], _ => by kernel_rfl
theorem b_by_turns (F : FnP K "by_turns" "by_turns" (top 98) f fd) : Binds K fd ["one", "other", "many"] [] := F.bindsN fun _ _ _ _ _ _ us hl => match us, hl with | [_, _, _], _ => by kernel_rfl
theorem b_does_begin (F : FnP K "does_begin" "does_begin" (top 102) f fd) : Binds K fd ["change", "other"] [] := F.bindsN fun _ _ _ _ _ _ us hl => match us, hl with | [_, _], _ => by kernel_rfl
theorem b_begins (F : FnP K "begins" "begins" (top 101) f fd) : Binds K fd ["change", "other"] [] := F.bindsN fun _ _ _ _ _ _ us hl => match us, hl with | [_, _], _ => by kernel_rfl
theorem b_top_images (F : FnP K "top_images" "top_images" (top 93) f fd) : Binds K fd ["pairs", "room"] [] := F.bindsN fun _ _ _ _ _ _ us hl => match us, hl with | [_, _], _ => by kernel_rfl
theorem b_top_of (F : FnP K "top_of" "top_of" (top 94) f fd) : Binds K fd ["table", "room"] [] := F.bindsN fun _ _ _ _ _ _ us hl => match us, hl with | [_, _], _ => by kernel_rfl
theorem b_joined_button (F : FnP K "joined_button" "joined_button" (top 105) f fd) : Binds K fd ["change", "button", "most", "kept"] [] := F.bindsN fun _ _ _ _ _ _ us hl => match us, hl with | [_, _, _, _], _ => by kernel_rfl
theorem b_joined_word (F : FnP K "joined_word" "joined_word" (top 106) f fd) : Binds K fd ["change", "word", "most", "kept"] [] := F.bindsN fun _ _ _ _ _ _ us hl => match us, hl with | [_, _, _, _], _ => by kernel_rfl
theorem b_least_continuation (F : FnP K "least_continuation" "least_continuation" (top 107) f fd) : Binds K fd ["change", "other", "most"] [] := F.bindsN fun _ _ _ _ _ _ us hl => match us, hl with | [_, _, _], _ => by kernel_rfl
theorem b_chain_pairs (F : FnP K "chain_pairs" "chain_pairs" (top 48) f fd) : Binds K fd ["ties"] [] := F.bindsN fun _ _ _ _ _ _ us hl => match us, hl with | [_], _ => by kernel_rfl
theorem b_finite_pairs (F : FnP K "finite_pairs" "finite_pairs" (top 50) f fd) : Binds K fd ["letter", "size"] [] := F.bindsN fun _ _ _ _ _ _ us hl => match us, hl with | [_, _], _ => by kernel_rfl
theorem b_tied_rows (F : FnP K "tied_rows" "tied_rows" (top 47) f fd) : Binds K fd ["size", "pairs"] [] := F.bindsN fun _ _ _ _ _ _ us hl => match us, hl with | [_, _], _ => by kernel_rfl
theorem b_named_ties (F : FnP K "named_ties" "named_ties" (top 52) f fd) : Binds K fd ["name"] [] := F.bindsN fun _ _ _ _ _ _ us hl => match us, hl with | [_], _ => by kernel_rfl
theorem b_names_with (F : FnP K "names_with" "names_with" (top 53) f fd) : Binds K fd ["size"] [] := F.bindsN fun _ _ _ _ _ _ us hl => match us, hl with | [_], _ => by kernel_rfl
theorem b_fits_line (F : FnP K "fits_line" "fits_line" (top 70) f fd) : Binds K fd ["ties", "other", "line", "button"] [] := F.bindsN fun _ _ _ _ _ _ us hl => match us, hl with | [_, _, _, _], _ => by kernel_rfl
theorem b_likeness_of (F : FnP K "likeness_of" "likeness_of" (top 69) f fd) : Binds K fd ["ties", "other"] [] := F.bindsN fun _ _ _ _ _ _ us hl => match us, hl with | [_, _], _ => by kernel_rfl
theorem b_name_of (F : FnP K "name_of" "name_of" (top 89) f fd) : Binds K fd ["ties"] [] := F.bindsN fun _ _ _ _ _ _ us hl => match us, hl with | [_], _ => by kernel_rfl
theorem b_kind_of (F : FnP K "kind_of" "kind_of" (top 90) f fd) : Binds K fd ["name"] [] := F.bindsN fun _ _ _ _ _ _ us hl => match us, hl with | [_], _ => by kernel_rfl
theorem b_part_names (F : FnP K "part_names" "part_names" (top 91) f fd) : Binds K fd ["ties", "room"] [] := F.bindsN fun _ _ _ _ _ _ us hl => match us, hl with | [_, _], _ => by kernel_rfl
theorem b_is_finite_part (F : FnP K "is_finite_part" "is_finite_part" (top 92) f fd) : Binds K fd ["ties", "room"] [] := F.bindsN fun _ _ _ _ _ _ us hl => match us, hl with | [_, _], _ => by kernel_rfl
theorem b_check_finite (F : FnP K "check_finite" "check_finite" (top 95) f fd) : Binds K fd ["table", "room"] [] := F.bindsN fun _ _ _ _ _ _ us hl => match us, hl with | [_, _], _ => by kernel_rfl
theorem b_room_top (F : FnP K "room_top" "room_top" (top 96) f fd) : Binds K fd ["table", "room"] [] := F.bindsN fun _ _ _ _ _ _ us hl => match us, hl with | [_, _], _ => by kernel_rfl
theorem b_front_of_both (F : FnP K "front_of_both" "front_of_both" (top 103) f fd) : Binds K fd ["change", "other"] [] := F.bindsN fun _ _ _ _ _ _ us hl => match us, hl with | [_, _], _ => by kernel_rfl
theorem b_common_front (F : FnP K "common_front" "common_front" (top 104) f fd) : Binds K fd ["change", "other"] [] := F.bindsN fun _ _ _ _ _ _ us hl => match us, hl with | [_, _], _ => by kernel_rfl
theorem b__law_plus (F : FnP K "_law_plus" "_law_plus" (top 113) f fd) : Binds K fd ["_law_one", "_law_two"] [] := F.bindsN fun _ _ _ _ _ _ us hl => match us, hl with | [_, _], _ => by kernel_rfl
theorem b__law_less (F : FnP K "_law_less" "_law_less" (top 114) f fd) : Binds K fd ["_law_one", "_law_two"] [] := F.bindsN fun _ _ _ _ _ _ us hl => match us, hl with | [_, _], _ => by kernel_rfl
theorem b__law_times (F : FnP K "_law_times" "_law_times" (top 115) f fd) : Binds K fd ["_law_one", "_law_two"] [] := F.bindsN fun _ _ _ _ _ _ us hl => match us, hl with | [_, _], _ => by kernel_rfl
theorem b__law_sign (F : FnP K "_law_sign" "_law_sign" (top 116) f fd) : Binds K fd ["_law_one"] [] := F.bindsN fun _ _ _ _ _ _ us hl => match us, hl with | [_], _ => by kernel_rfl
theorem b__law_weight (F : FnP K "_law_weight" "_law_weight" (top 118) f fd) : Binds K fd ["_law_ties_here", "_law_s", "_law_t"] [] := F.bindsN fun _ _ _ _ _ _ us hl => match us, hl with | [_, _, _], _ => by kernel_rfl
theorem b__law_level (F : FnP K "_law_level" "_law_level" (top 119) f fd) : Binds K fd ["_law_ties_here", "_law_vector", "_law_s"] [] := F.bindsN fun _ _ _ _ _ _ us hl => match us, hl with | [_, _, _], _ => by kernel_rfl
theorem b__law_bent (F : FnP K "_law_bent" "_law_bent" (top 120) f fd) : Binds K fd ["_law_ties_here", "_law_vector", "_law_s"] [] := F.bindsN fun _ _ _ _ _ _ us hl => match us, hl with | [_, _, _], _ => by kernel_rfl
theorem b__law_led (F : FnP K "_law_led" "_law_led" (top 121) f fd) : Binds K fd ["_law_ties_here", "_law_word_here", "_law_vector"] [] := F.bindsN fun _ _ _ _ _ _ us hl => match us, hl with | [_, _, _], _ => by kernel_rfl
theorem b__law_axis (F : FnP K "_law_axis" "_law_axis" (top 122) f fd) : Binds K fd ["_law_size", "_law_s"] [] := F.bindsN fun _ _ _ _ _ _ us hl => match us, hl with | [_, _], _ => by kernel_rfl
theorem b__law_images (F : FnP K "_law_images" "_law_images" (top 123) f fd) : Binds K fd ["_law_ties_here", "_law_word_here"] [] := F.bindsN fun _ _ _ _ _ _ us hl => match us, hl with | [_, _], _ => by kernel_rfl
theorem b__law_is_down (F : FnP K "_law_is_down" "_law_is_down" (top 124) f fd) : Binds K fd ["_law_vector"] [] := F.bindsN fun _ _ _ _ _ _ us hl => match us, hl with | [_], _ => by kernel_rfl
theorem b__law_pressed (F : FnP K "_law_pressed" "_law_pressed" (top 126) f fd) : Binds K fd ["_law_ties_here", "_law_images_here", "_law_s"] [] := F.bindsN fun _ _ _ _ _ _ us hl => match us, hl with | [_, _, _], _ => by kernel_rfl
theorem b__law_key (F : FnP K "_law_key" "_law_key" (top 127) f fd) : Binds K fd ["_law_images_here"] [] := F.bindsN fun _ _ _ _ _ _ us hl => match us, hl with | [_], _ => by kernel_rfl
theorem b__law_backs (F : FnP K "_law_backs" "_law_backs" (top 128) f fd) : Binds K fd ["_law_images_here"] [] := F.bindsN fun _ _ _ _ _ _ us hl => match us, hl with | [_], _ => by kernel_rfl
theorem b__law_taken (F : FnP K "_law_taken" "_law_taken" (top 129) f fd) : Binds K fd ["_law_ties_here", "_law_images_here"] [] := F.bindsN fun _ _ _ _ _ _ us hl => match us, hl with | [_, _], _ => by kernel_rfl
theorem b__law_undone (F : FnP K "_law_undone" "_law_undone" (top 131) f fd) : Binds K fd ["_law_word_here"] [] := F.bindsN fun _ _ _ _ _ _ us hl => match us, hl with | [_], _ => by kernel_rfl
theorem b__law_first (F : FnP K "_law_first" "_law_first" (top 130) f fd) : Binds K fd ["_law_ties_here", "_law_word_here"] [] := F.bindsN fun _ _ _ _ _ _ us hl => match us, hl with | [_, _], _ => by kernel_rfl
theorem b__law_left (F : FnP K "_law_left" "_law_left" (top 132) f fd) : Binds K fd ["_law_ties_here", "_law_word_here", "_law_told"] [] := F.bindsN fun _ _ _ _ _ _ us hl => match us, hl with | [_, _, _], _ => by kernel_rfl
theorem b__law_is_least_one (F : FnP K "_law_is_least_one" "_law_is_least_one" (top 133) f fd) : Binds K fd ["_law_ties_here", "_law_word_here", "_law_other", "_law_told"] [] := F.bindsN fun _ _ _ _ _ _ us hl => match us, hl with | [_, _, _, _], _ => by kernel_rfl
theorem b__law_pot (F : FnP K "_law_pot" "_law_pot" (top 109) f fd) : Binds K fd ["_law_script", "_law_spot"] [] := F.bindsN fun _ _ _ _ _ _ us hl => match us, hl with | [_, _], _ => by kernel_rfl
theorem b__law_take (F : FnP K "_law_take" "_law_take" (top 110) f fd) : Binds K fd ["_law_pot_here", "_law_many"] [] := F.bindsN fun _ _ _ _ _ _ us hl => match us, hl with | [_, _], _ => by kernel_rfl
theorem b__law_pick (F : FnP K "_law_pick" "_law_pick" (top 111) f fd) : Binds K fd ["_law_pot_here", "_law_some"] [] := F.bindsN fun _ _ _ _ _ _ us hl => match us, hl with | [_, _], _ => by kernel_rfl
theorem b__law_rounds (F : FnP K "_law_rounds" "_law_rounds" (top 112) f fd) : Binds K fd ["_law_script"] [] := F.bindsN fun _ _ _ _ _ _ us hl => match us, hl with | [_], _ => by kernel_rfl
theorem b__law_word (F : FnP K "_law_word" "_law_word" (top 125) f fd) : Binds K fd ["_law_pot_here", "_law_size", "_law_most"] [] := F.bindsN fun _ _ _ _ _ _ us hl => match us, hl with | [_, _, _], _ => by kernel_rfl
theorem b__law_ties (F : FnP K "_law_ties" "_law_ties" (top 117) f fd) : Binds K fd ["_law_pot_here", "_law_size", "_law_menu"] [] := F.bindsN fun _ _ _ _ _ _ us hl => match us, hl with | [_, _, _], _ => by kernel_rfl
theorem b__law_continued (F : FnP K "_law_continued" "_law_continued" (top 135) f fd) : Binds K fd ["_law_table", "_law_words", "_law_most"] [] := F.bindsN fun _ _ _ _ _ _ us hl => match us, hl with | [_, _, _], _ => by kernel_rfl
theorem b__law_bracketed (F : FnP K "_law_bracketed" "_law_bracketed" (top 136) f fd) : Binds K fd ["_law_table", "_law_words", "_law_most"] [] := F.bindsN fun _ _ _ _ _ _ us hl => match us, hl with | [_, _, _], _ => by kernel_rfl
theorem b__law_is_none (F : FnP K "_law_is_none" "_law_is_none" (top 134) f fd) : Binds K fd ["_law_ties_here", "_law_word_here", "_law_other", "_law_most"] [] := F.bindsN fun _ _ _ _ _ _ us hl => match us, hl with | [_, _, _, _], _ => by kernel_rfl
theorem b__law_right (F : FnP K "_law_right" "_law_right" (top 137) f fd) : Binds K fd ["_law_pot_here"] [] := F.bindsN fun _ _ _ _ _ _ us hl => match us, hl with | [_], _ => by kernel_rfl
theorem b_law (F : FnP K "law" "law" (top 138) f fd) : Binds K fd ["_law_script"] [] := F.bindsN fun _ _ _ _ _ _ us hl => match us, hl with | [_], _ => by kernel_rfl
theorem b_fork_pairs (F : FnP K "fork_pairs" "fork_pairs" (top 49) f fd) : Binds K fd ["size"] [] := F.bindsN fun _ _ _ _ _ _ us hl => match us, hl with | [_], _ => by kernel_rfl
theorem b_flat_pairs (F : FnP K "flat_pairs" "flat_pairs" (top 51) f fd) : Binds K fd ["letter", "number"] [] := F.bindsN fun _ _ _ _ _ _ us hl => match us, hl with | [_, _], _ => by kernel_rfl
theorem b_Change_init (F : FunD K "__init__" "Change.__init__" (defArgs s_Change_init) (defBody s_Change_init) (defScope s_Change_init) [.non] [] f fd) : ∃ ds, Vals [.non] ds ∧ Binds K fd ["self", "table", "word", "_parts"] ds :=
  F.binds1 (ps := ["self", "table", "word", "_parts"]) 3 0 (by simp) rfl fun T kV doc pm an cdv ct us its hl hl2 => match us, its, hl, hl2 with | [_, _, _], [_], _, _ => ⟨_, rfl, rfl⟩
theorem b_Change_kw (F : FunD K "__init__" "Change.__init__" (defArgs s_Change_init) (defBody s_Change_init) (defScope s_Change_init) [.non] [] f fd) : ∃ its : List Value, KBn K fd ["self", "table", "word", "_parts"] 3 ["_parts"] (fun us ws => us ++ ws) (fun vs zs => vs ++ zs) := by
  obtain ⟨its, b⟩ := F.kbindsD (ps := ["self", "table", "word", "_parts"]) 3 ["_parts"] (fun us _ ws => us ++ ws) (by simp) (fun r1 _ r3 => r1.append r3) fun T kV doc pm an cdv ct us its ws hl hl2 hl3 => match us, its, ws, hl, hl2, hl3 with | [_, _, _], [_], [_], _, _, _ => ⟨_, rfl, rfl⟩
  exact ⟨its, b⟩
theorem b_least_continuation_kw (F : FnP K "least_continuation" "least_continuation" (top 107) f fd) : KBn K fd ["change", "other", "most"] 0 ["change", "other", "most"] (fun us ws => us ++ ws) (fun vs zs => vs ++ zs) :=
  kbindsK F ["change", "other", "most"] fun kV doc pm an cdv ct ws hl => match ws, hl with | [_, _, _], _ => by kernel_rfl
theorem joined_of (T : Tx K mg) (c_Change_fronts : Prp P w K mg base 4 (He.ga K "Change") "fronts" (pm_Change_fronts K).sp) (c_Change_length : Prp P w K mg base 5 (He.ga K "Change") "length" (pm_Change_length K).sp) (c_led_front : C8.Cal P w K mg base 8 "led_front" (pm_led_front K).sp []) (c_by_turns : C8.Cal P w K mg base 1 "by_turns" (pm_by_turns K).sp []) {fB fW : Addr} {fdB fdW : FuncData} (FB : FnP K "joined_button" "joined_button" (top 105) fB fdB) (FW : FnP K "joined_word" "joined_word" (top 106) fW fdW) (gB : mg "joined_button" = some (.ref fB)) (gW : mg "joined_word" = some (.ref fW)) :
    ∀ M, C8.Cal P w K mg base (9 + 2 * M) "joined_word" (pm_joined_word K w M).sp []
  | 0 => calOf (ok_noneH (pm_joined_word K w 0) fun i e => by
      have h1 := e.1
      have h2 := e.2.1
      omega) gW FW.kp (b_joined_word FW)
  | M + 1 => by
    have c := joined_of T c_Change_fronts c_Change_length c_led_front c_by_turns FB FW gB gW M
    have b : C8.Cal P w K mg base (9 + 2 * M + 1) "joined_button" (pm_joined_button K w (M + 1)).sp [] := calOf (ok_joined_button T M (9 + 2 * M) (by omega) c_Change_fronts c_Change_length c_led_front c_by_turns c FB) gB FB.kp (b_joined_button FB)
    exact calOf (ok_joined_word T M (9 + 2 * M + 1) (by omega) c_Change_length c_led_front b (calUp c (by omega)) FW) gW FW.kp (b_joined_word FW)
theorem law_glo (X : K.In h) (G : h.Ns mainGlobals mg) (c : SaysW asks w K) : mg "law" = some (.ref (He.ga K "law")) := (He.glo_ok X G (c.fact 103 (f := .glo "law") rfl))
theorem eqc_of {C g : Addr} (e : eqB' K C = true) (m : Meth K C "__eq__" g) : EqC K C g := by
  unfold eqB' at e
  rw [Bool.and_eq_true, decide_eq_true_iff] at e
  exact ⟨He.eqO_ok e.1, e.2, m.at_, m.fn⟩
theorem law_ok (T : Tx K mg) (T2 : Tn K mg w) (X : K.In h) (G : h.Ns mainGlobals mg) (c : SaysW asks w K) : ∃ fd, FnP K "law" "law" s_law (He.ga K "law") fd ∧ ∀ base : Heap, FnOk P w K mg base C8.CX0 34 (He.ga K "law") fd ["_law_script"] (pm_law K).sp := by
  obtain ⟨d_is_whole, F_is_whole⟩ : ∃ fd, FnP K "is_whole" "is_whole" (top 19) (He.ga K "is_whole") fd := c.def_ 0 (d := ⟨.g "is_whole", "is_whole", "is_whole", top 19, []⟩) rfl
  obtain ⟨d_is_between, F_is_between⟩ : ∃ fd, FnP K "is_between" "is_between" (top 20) (He.ga K "is_between") fd := c.def_ 1 (d := ⟨.g "is_between", "is_between", "is_between", top 20, []⟩) rfl
  obtain ⟨d_pair_sign, F_pair_sign⟩ : ∃ fd, FnP K "pair_sign" "pair_sign" (top 22) (He.ga K "pair_sign") fd := c.def_ 2 (d := ⟨.g "pair_sign", "pair_sign", "pair_sign", top 22, []⟩) rfl
  obtain ⟨d_axis_of, F_axis_of⟩ : ∃ fd, FnP K "axis_of" "axis_of" (top 23) (He.ga K "axis_of") fd := c.def_ 3 (d := ⟨.g "axis_of", "axis_of", "axis_of", top 23, []⟩) rfl
  obtain ⟨d_all_axes, F_all_axes⟩ : ∃ fd, FnP K "all_axes" "all_axes" (top 24) (He.ga K "all_axes") fd := c.def_ 4 (d := ⟨.g "all_axes", "all_axes", "all_axes", top 24, []⟩) rfl
  obtain ⟨d_level_at, F_level_at⟩ : ∃ fd, FnP K "level_at" "level_at" (top 26) (He.ga K "level_at") fd := c.def_ 5 (d := ⟨.g "level_at", "level_at", "level_at", top 26, []⟩) rfl
  obtain ⟨d_turned, F_turned⟩ : ∃ fd, FnP K "turned" "turned" (top 27) (He.ga K "turned") fd := c.def_ 6 (d := ⟨.g "turned", "turned", "turned", top 27, []⟩) rfl
  obtain ⟨d_vector_less, F_vector_less⟩ : ∃ fd, FnP K "vector_less" "vector_less" (top 28) (He.ga K "vector_less") fd := c.def_ 7 (d := ⟨.g "vector_less", "vector_less", "vector_less", top 28, []⟩) rfl
  obtain ⟨d_pressed_behind, F_pressed_behind⟩ : ∃ fd, FnP K "pressed_behind" "pressed_behind" (top 30) (He.ga K "pressed_behind") fd := c.def_ 8 (d := ⟨.g "pressed_behind", "pressed_behind", "pressed_behind", top 30, []⟩) rfl
  obtain ⟨d_pressed_front, F_pressed_front⟩ : ∃ fd, FnP K "pressed_front" "pressed_front" (top 31) (He.ga K "pressed_front") fd := c.def_ 9 (d := ⟨.g "pressed_front", "pressed_front", "pressed_front", top 31, []⟩) rfl
  obtain ⟨d_images_of, F_images_of⟩ : ∃ fd, FnP K "images_of" "images_of" (top 32) (He.ga K "images_of") fd := c.def_ 10 (d := ⟨.g "images_of", "images_of", "images_of", top 32, []⟩) rfl
  obtain ⟨d_is_down, F_is_down⟩ : ∃ fd, FnP K "is_down" "is_down" (top 25) (He.ga K "is_down") fd := c.def_ 11 (d := ⟨.g "is_down", "is_down", "is_down", top 25, []⟩) rfl
  obtain ⟨d_down_buttons, F_down_buttons⟩ : ∃ fd, FnP K "down_buttons" "down_buttons" (top 33) (He.ga K "down_buttons") fd := c.def_ 12 (d := ⟨.g "down_buttons", "down_buttons", "down_buttons", top 33, []⟩) rfl
  obtain ⟨d_word_by, F_word_by⟩ : ∃ fd, FnP K "word_by" "word_by" (top 34) (He.ga K "word_by") fd := c.def_ 13 (d := ⟨.g "word_by", "word_by", "word_by", top 34, []⟩) rfl
  obtain ⟨d_led_by, F_led_by⟩ : ∃ fd, FnP K "led_by" "led_by" (top 29) (He.ga K "led_by") fd := c.def_ 14 (d := ⟨.g "led_by", "led_by", "led_by", top 29, []⟩) rfl
  obtain ⟨d_is_button, F_is_button⟩ : ∃ fd, FnP K "is_button" "is_button" (top 59) (He.ga K "is_button") fd := c.def_ 15 (d := ⟨.g "is_button", "is_button", "is_button", top 59, []⟩) rfl
  obtain ⟨d_is_right_row, F_is_right_row⟩ : ∃ fd, FnP K "is_right_row" "is_right_row" (top 60) (He.ga K "is_right_row") fd := c.def_ 16 (d := ⟨.g "is_right_row", "is_right_row", "is_right_row", top 60, []⟩) rfl
  obtain ⟨d_first_wrong_row, F_first_wrong_row⟩ : ∃ fd, FnP K "first_wrong_row" "first_wrong_row" (top 61) (He.ga K "first_wrong_row") fd := c.def_ 17 (d := ⟨.g "first_wrong_row", "first_wrong_row", "first_wrong_row", top 61, []⟩) rfl
  obtain ⟨d_weight_pairs, F_weight_pairs⟩ : ∃ fd, FnP K "weight_pairs" "weight_pairs" (top 62) (He.ga K "weight_pairs") fd := c.def_ 18 (d := ⟨.g "weight_pairs", "weight_pairs", "weight_pairs", top 62, []⟩) rfl
  obtain ⟨d_piece_from, F_piece_from⟩ : ∃ fd, FnP K "piece_from" "piece_from" (top 63) (He.ga K "piece_from") fd := c.def_ 19 (d := ⟨.g "piece_from", "piece_from", "piece_from", top 63, []⟩) rfl
  obtain ⟨d_pieces_of, F_pieces_of⟩ : ∃ fd, FnP K "pieces_of" "pieces_of" (top 64) (He.ga K "pieces_of") fd := c.def_ 20 (d := ⟨.g "pieces_of", "pieces_of", "pieces_of", top 64, []⟩) rfl
  obtain ⟨d_check_table, F_check_table⟩ : ∃ fd, FnP K "check_table" "check_table" (top 66) (He.ga K "check_table") fd := c.def_ 21 (d := ⟨.g "check_table", "check_table", "check_table", top 66, []⟩) rfl
  obtain ⟨d_wrong_in_room, F_wrong_in_room⟩ : ∃ fd, FnP K "wrong_in_room" "wrong_in_room" (top 67) (He.ga K "wrong_in_room") fd := c.def_ 22 (d := ⟨.g "wrong_in_room", "wrong_in_room", "wrong_in_room", top 67, []⟩) rfl
  obtain ⟨d_wrong_in_word, F_wrong_in_word⟩ : ∃ fd, FnP K "wrong_in_word" "wrong_in_word" (top 72) (He.ga K "wrong_in_word") fd := c.def_ 23 (d := ⟨.g "wrong_in_word", "wrong_in_word", "wrong_in_word", top 72, []⟩) rfl
  obtain ⟨d_check_word, F_check_word⟩ : ∃ fd, FnP K "check_word" "check_word" (top 73) (He.ga K "check_word") fd := c.def_ 24 (d := ⟨.g "check_word", "check_word", "check_word", top 73, []⟩) rfl
  obtain ⟨d_check_room, F_check_room⟩ : ∃ fd, FnP K "check_room" "check_room" (top 74) (He.ga K "check_room") fd := c.def_ 25 (d := ⟨.g "check_room", "check_room", "check_room", top 74, []⟩) rfl
  obtain ⟨d_check_number, F_check_number⟩ : ∃ fd, FnP K "check_number" "check_number" (top 75) (He.ga K "check_number") fd := c.def_ 26 (d := ⟨.g "check_number", "check_number", "check_number", top 75, []⟩) rfl
  obtain ⟨d_part_ties, F_part_ties⟩ : ∃ fd, FnP K "part_ties" "part_ties" (top 68) (He.ga K "part_ties") fd := c.def_ 27 (d := ⟨.g "part_ties", "part_ties", "part_ties", top 68, []⟩) rfl
  obtain ⟨d_Table_init, F_Table_init⟩ : ∃ fd, FnP K "__init__" "Table.__init__" (s_Table_init) (He.ma K (He.ga K "Table") "__init__") fd := c.def_ 28 (d := ⟨.m "Table" "__init__", "__init__", "Table.__init__", inClass (top 58) 0, []⟩) rfl
  obtain ⟨d_Change_init, F_Change_init⟩ : ∃ fd, FunD K "__init__" "Change.__init__" (defArgs s_Change_init) (defBody s_Change_init) (defScope s_Change_init) [.non] [] (He.ma K (He.ga K "Change") "__init__") fd := c.def_ 29 (d := ⟨.m "Change" "__init__", "__init__", "Change.__init__", inClass (top 78) 0, [.non]⟩) rfl
  obtain ⟨d_change_made, F_change_made⟩ : ∃ fd, FnP K "change_made" "change_made" (top 79) (He.ga K "change_made") fd := c.def_ 30 (d := ⟨.g "change_made", "change_made", "change_made", top 79, []⟩) rfl
  obtain ⟨d_check_change, F_check_change⟩ : ∃ fd, FnP K "check_change" "check_change" (top 80) (He.ga K "check_change") fd := c.def_ 31 (d := ⟨.g "check_change", "check_change", "check_change", top 80, []⟩) rfl
  obtain ⟨d_check_same_table, F_check_same_table⟩ : ∃ fd, FnP K "check_same_table" "check_same_table" (top 76) (He.ga K "check_same_table") fd := c.def_ 32 (d := ⟨.g "check_same_table", "check_same_table", "check_same_table", top 76, []⟩) rfl
  obtain ⟨d_check_both, F_check_both⟩ : ∃ fd, FnP K "check_both" "check_both" (top 100) (He.ga K "check_both") fd := c.def_ 33 (d := ⟨.g "check_both", "check_both", "check_both", top 100, []⟩) rfl
  obtain ⟨d_inverse_of, F_inverse_of⟩ : ∃ fd, FnP K "inverse_of" "inverse_of" (top 81) (He.ga K "inverse_of") fd := c.def_ 34 (d := ⟨.g "inverse_of", "inverse_of", "inverse_of", top 81, []⟩) rfl
  obtain ⟨d_product_of, F_product_of⟩ : ∃ fd, FnP K "product_of" "product_of" (top 82) (He.ga K "product_of") fd := c.def_ 35 (d := ⟨.g "product_of", "product_of", "product_of", top 82, []⟩) rfl
  obtain ⟨d_led_front, F_led_front⟩ : ∃ fd, FnP K "led_front" "led_front" (top 84) (He.ga K "led_front") fd := c.def_ 36 (d := ⟨.g "led_front", "led_front", "led_front", top 84, []⟩) rfl
  obtain ⟨d_plain, F_plain⟩ : ∃ fd, FnP K "plain" "plain" (top 87) (He.ga K "plain") fd := c.def_ 37 (d := ⟨.g "plain", "plain", "plain", top 87, []⟩) rfl
  obtain ⟨d_Change_word, F_Change_word⟩ : ∃ fd, FnP K "word" "Change.word" (s_Change_word) (gtA K "Change" "word") fd := c.def_ 38 (d := ⟨.p "Change" "word", "word", "Change.word", inClass (top 78) 2, []⟩) rfl
  obtain ⟨d_Change_length, F_Change_length⟩ : ∃ fd, FnP K "length" "Change.length" (s_Change_length) (gtA K "Change" "length") fd := c.def_ 39 (d := ⟨.p "Change" "length", "length", "Change.length", inClass (top 78) 3, []⟩) rfl
  obtain ⟨d_Change_fronts, F_Change_fronts⟩ : ∃ fd, FnP K "fronts" "Change.fronts" (s_Change_fronts) (gtA K "Change" "fronts") fd := c.def_ 40 (d := ⟨.p "Change" "fronts", "fronts", "Change.fronts", inClass (top 78) 5, []⟩) rfl
  obtain ⟨d_Table_eq, F_Table_eq⟩ : ∃ fd, FnP K "__eq__" "Table.__eq__" (s_Table_eq) (He.ma K (He.ga K "Table") "__eq__") fd := c.def_ 41 (d := ⟨.m "Table" "__eq__", "__eq__", "Table.__eq__", inClass (top 58) 5, []⟩) rfl
  obtain ⟨d_Change_eq, F_Change_eq⟩ : ∃ fd, FnP K "__eq__" "Change.__eq__" (s_Change_eq) (He.ma K (He.ga K "Change") "__eq__") fd := c.def_ 42 (d := ⟨.m "Change" "__eq__", "__eq__", "Change.__eq__", inClass (top 78) 9, []⟩) rfl
  obtain ⟨d_by_turns, F_by_turns⟩ : ∃ fd, FnP K "by_turns" "by_turns" (top 98) (He.ga K "by_turns") fd := c.def_ 43 (d := ⟨.g "by_turns", "by_turns", "by_turns", top 98, []⟩) rfl
  obtain ⟨d_does_begin, F_does_begin⟩ : ∃ fd, FnP K "does_begin" "does_begin" (top 102) (He.ga K "does_begin") fd := c.def_ 44 (d := ⟨.g "does_begin", "does_begin", "does_begin", top 102, []⟩) rfl
  obtain ⟨d_begins, F_begins⟩ : ∃ fd, FnP K "begins" "begins" (top 101) (He.ga K "begins") fd := c.def_ 45 (d := ⟨.g "begins", "begins", "begins", top 101, []⟩) rfl
  obtain ⟨d_top_images, F_top_images⟩ : ∃ fd, FnP K "top_images" "top_images" (top 93) (He.ga K "top_images") fd := c.def_ 46 (d := ⟨.g "top_images", "top_images", "top_images", top 93, []⟩) rfl
  obtain ⟨d_top_of, F_top_of⟩ : ∃ fd, FnP K "top_of" "top_of" (top 94) (He.ga K "top_of") fd := c.def_ 47 (d := ⟨.g "top_of", "top_of", "top_of", top 94, []⟩) rfl
  obtain ⟨d_joined_button, F_joined_button⟩ : ∃ fd, FnP K "joined_button" "joined_button" (top 105) (He.ga K "joined_button") fd := c.def_ 48 (d := ⟨.g "joined_button", "joined_button", "joined_button", top 105, []⟩) rfl
  obtain ⟨d_joined_word, F_joined_word⟩ : ∃ fd, FnP K "joined_word" "joined_word" (top 106) (He.ga K "joined_word") fd := c.def_ 49 (d := ⟨.g "joined_word", "joined_word", "joined_word", top 106, []⟩) rfl
  obtain ⟨d_least_continuation, F_least_continuation⟩ : ∃ fd, FnP K "least_continuation" "least_continuation" (top 107) (He.ga K "least_continuation") fd := c.def_ 50 (d := ⟨.g "least_continuation", "least_continuation", "least_continuation", top 107, []⟩) rfl
  obtain ⟨d_chain_pairs, F_chain_pairs⟩ : ∃ fd, FnP K "chain_pairs" "chain_pairs" (top 48) (He.ga K "chain_pairs") fd := c.def_ 51 (d := ⟨.g "chain_pairs", "chain_pairs", "chain_pairs", top 48, []⟩) rfl
  obtain ⟨d_finite_pairs, F_finite_pairs⟩ : ∃ fd, FnP K "finite_pairs" "finite_pairs" (top 50) (He.ga K "finite_pairs") fd := c.def_ 52 (d := ⟨.g "finite_pairs", "finite_pairs", "finite_pairs", top 50, []⟩) rfl
  obtain ⟨d_tied_rows, F_tied_rows⟩ : ∃ fd, FnP K "tied_rows" "tied_rows" (top 47) (He.ga K "tied_rows") fd := c.def_ 53 (d := ⟨.g "tied_rows", "tied_rows", "tied_rows", top 47, []⟩) rfl
  obtain ⟨d_named_ties, F_named_ties⟩ : ∃ fd, FnP K "named_ties" "named_ties" (top 52) (He.ga K "named_ties") fd := c.def_ 54 (d := ⟨.g "named_ties", "named_ties", "named_ties", top 52, []⟩) rfl
  obtain ⟨d_names_with, F_names_with⟩ : ∃ fd, FnP K "names_with" "names_with" (top 53) (He.ga K "names_with") fd := c.def_ 55 (d := ⟨.g "names_with", "names_with", "names_with", top 53, []⟩) rfl
  obtain ⟨d_fits_line, F_fits_line⟩ : ∃ fd, FnP K "fits_line" "fits_line" (top 70) (He.ga K "fits_line") fd := c.def_ 56 (d := ⟨.g "fits_line", "fits_line", "fits_line", top 70, []⟩) rfl
  obtain ⟨d_likeness_of, F_likeness_of⟩ : ∃ fd, FnP K "likeness_of" "likeness_of" (top 69) (He.ga K "likeness_of") fd := c.def_ 57 (d := ⟨.g "likeness_of", "likeness_of", "likeness_of", top 69, []⟩) rfl
  obtain ⟨d_name_of, F_name_of⟩ : ∃ fd, FnP K "name_of" "name_of" (top 89) (He.ga K "name_of") fd := c.def_ 58 (d := ⟨.g "name_of", "name_of", "name_of", top 89, []⟩) rfl
  obtain ⟨d_kind_of, F_kind_of⟩ : ∃ fd, FnP K "kind_of" "kind_of" (top 90) (He.ga K "kind_of") fd := c.def_ 59 (d := ⟨.g "kind_of", "kind_of", "kind_of", top 90, []⟩) rfl
  obtain ⟨d_part_names, F_part_names⟩ : ∃ fd, FnP K "part_names" "part_names" (top 91) (He.ga K "part_names") fd := c.def_ 60 (d := ⟨.g "part_names", "part_names", "part_names", top 91, []⟩) rfl
  obtain ⟨d_is_finite_part, F_is_finite_part⟩ : ∃ fd, FnP K "is_finite_part" "is_finite_part" (top 92) (He.ga K "is_finite_part") fd := c.def_ 61 (d := ⟨.g "is_finite_part", "is_finite_part", "is_finite_part", top 92, []⟩) rfl
  obtain ⟨d_check_finite, F_check_finite⟩ : ∃ fd, FnP K "check_finite" "check_finite" (top 95) (He.ga K "check_finite") fd := c.def_ 62 (d := ⟨.g "check_finite", "check_finite", "check_finite", top 95, []⟩) rfl
  obtain ⟨d_room_top, F_room_top⟩ : ∃ fd, FnP K "room_top" "room_top" (top 96) (He.ga K "room_top") fd := c.def_ 63 (d := ⟨.g "room_top", "room_top", "room_top", top 96, []⟩) rfl
  obtain ⟨d_front_of_both, F_front_of_both⟩ : ∃ fd, FnP K "front_of_both" "front_of_both" (top 103) (He.ga K "front_of_both") fd := c.def_ 64 (d := ⟨.g "front_of_both", "front_of_both", "front_of_both", top 103, []⟩) rfl
  obtain ⟨d_common_front, F_common_front⟩ : ∃ fd, FnP K "common_front" "common_front" (top 104) (He.ga K "common_front") fd := c.def_ 65 (d := ⟨.g "common_front", "common_front", "common_front", top 104, []⟩) rfl
  obtain ⟨d__law_plus, F__law_plus⟩ : ∃ fd, FnP K "_law_plus" "_law_plus" (top 113) (He.ga K "_law_plus") fd := c.def_ 66 (d := ⟨.g "_law_plus", "_law_plus", "_law_plus", top 113, []⟩) rfl
  obtain ⟨d__law_less, F__law_less⟩ : ∃ fd, FnP K "_law_less" "_law_less" (top 114) (He.ga K "_law_less") fd := c.def_ 67 (d := ⟨.g "_law_less", "_law_less", "_law_less", top 114, []⟩) rfl
  obtain ⟨d__law_times, F__law_times⟩ : ∃ fd, FnP K "_law_times" "_law_times" (top 115) (He.ga K "_law_times") fd := c.def_ 68 (d := ⟨.g "_law_times", "_law_times", "_law_times", top 115, []⟩) rfl
  obtain ⟨d__law_sign, F__law_sign⟩ : ∃ fd, FnP K "_law_sign" "_law_sign" (top 116) (He.ga K "_law_sign") fd := c.def_ 69 (d := ⟨.g "_law_sign", "_law_sign", "_law_sign", top 116, []⟩) rfl
  obtain ⟨d__law_weight, F__law_weight⟩ : ∃ fd, FnP K "_law_weight" "_law_weight" (top 118) (He.ga K "_law_weight") fd := c.def_ 70 (d := ⟨.g "_law_weight", "_law_weight", "_law_weight", top 118, []⟩) rfl
  obtain ⟨d__law_level, F__law_level⟩ : ∃ fd, FnP K "_law_level" "_law_level" (top 119) (He.ga K "_law_level") fd := c.def_ 71 (d := ⟨.g "_law_level", "_law_level", "_law_level", top 119, []⟩) rfl
  obtain ⟨d__law_bent, F__law_bent⟩ : ∃ fd, FnP K "_law_bent" "_law_bent" (top 120) (He.ga K "_law_bent") fd := c.def_ 72 (d := ⟨.g "_law_bent", "_law_bent", "_law_bent", top 120, []⟩) rfl
  obtain ⟨d__law_led, F__law_led⟩ : ∃ fd, FnP K "_law_led" "_law_led" (top 121) (He.ga K "_law_led") fd := c.def_ 73 (d := ⟨.g "_law_led", "_law_led", "_law_led", top 121, []⟩) rfl
  obtain ⟨d__law_axis, F__law_axis⟩ : ∃ fd, FnP K "_law_axis" "_law_axis" (top 122) (He.ga K "_law_axis") fd := c.def_ 74 (d := ⟨.g "_law_axis", "_law_axis", "_law_axis", top 122, []⟩) rfl
  obtain ⟨d__law_images, F__law_images⟩ : ∃ fd, FnP K "_law_images" "_law_images" (top 123) (He.ga K "_law_images") fd := c.def_ 75 (d := ⟨.g "_law_images", "_law_images", "_law_images", top 123, []⟩) rfl
  obtain ⟨d__law_is_down, F__law_is_down⟩ : ∃ fd, FnP K "_law_is_down" "_law_is_down" (top 124) (He.ga K "_law_is_down") fd := c.def_ 76 (d := ⟨.g "_law_is_down", "_law_is_down", "_law_is_down", top 124, []⟩) rfl
  obtain ⟨d__law_pressed, F__law_pressed⟩ : ∃ fd, FnP K "_law_pressed" "_law_pressed" (top 126) (He.ga K "_law_pressed") fd := c.def_ 77 (d := ⟨.g "_law_pressed", "_law_pressed", "_law_pressed", top 126, []⟩) rfl
  obtain ⟨d__law_key, F__law_key⟩ : ∃ fd, FnP K "_law_key" "_law_key" (top 127) (He.ga K "_law_key") fd := c.def_ 78 (d := ⟨.g "_law_key", "_law_key", "_law_key", top 127, []⟩) rfl
  obtain ⟨d__law_backs, F__law_backs⟩ : ∃ fd, FnP K "_law_backs" "_law_backs" (top 128) (He.ga K "_law_backs") fd := c.def_ 79 (d := ⟨.g "_law_backs", "_law_backs", "_law_backs", top 128, []⟩) rfl
  obtain ⟨d__law_taken, F__law_taken⟩ : ∃ fd, FnP K "_law_taken" "_law_taken" (top 129) (He.ga K "_law_taken") fd := c.def_ 80 (d := ⟨.g "_law_taken", "_law_taken", "_law_taken", top 129, []⟩) rfl
  obtain ⟨d__law_undone, F__law_undone⟩ : ∃ fd, FnP K "_law_undone" "_law_undone" (top 131) (He.ga K "_law_undone") fd := c.def_ 81 (d := ⟨.g "_law_undone", "_law_undone", "_law_undone", top 131, []⟩) rfl
  obtain ⟨d__law_first, F__law_first⟩ : ∃ fd, FnP K "_law_first" "_law_first" (top 130) (He.ga K "_law_first") fd := c.def_ 82 (d := ⟨.g "_law_first", "_law_first", "_law_first", top 130, []⟩) rfl
  obtain ⟨d__law_left, F__law_left⟩ : ∃ fd, FnP K "_law_left" "_law_left" (top 132) (He.ga K "_law_left") fd := c.def_ 83 (d := ⟨.g "_law_left", "_law_left", "_law_left", top 132, []⟩) rfl
  obtain ⟨d__law_is_least_one, F__law_is_least_one⟩ : ∃ fd, FnP K "_law_is_least_one" "_law_is_least_one" (top 133) (He.ga K "_law_is_least_one") fd := c.def_ 84 (d := ⟨.g "_law_is_least_one", "_law_is_least_one", "_law_is_least_one", top 133, []⟩) rfl
  obtain ⟨d__law_pot, F__law_pot⟩ : ∃ fd, FnP K "_law_pot" "_law_pot" (top 109) (He.ga K "_law_pot") fd := c.def_ 85 (d := ⟨.g "_law_pot", "_law_pot", "_law_pot", top 109, []⟩) rfl
  obtain ⟨d__law_take, F__law_take⟩ : ∃ fd, FnP K "_law_take" "_law_take" (top 110) (He.ga K "_law_take") fd := c.def_ 86 (d := ⟨.g "_law_take", "_law_take", "_law_take", top 110, []⟩) rfl
  obtain ⟨d__law_pick, F__law_pick⟩ : ∃ fd, FnP K "_law_pick" "_law_pick" (top 111) (He.ga K "_law_pick") fd := c.def_ 87 (d := ⟨.g "_law_pick", "_law_pick", "_law_pick", top 111, []⟩) rfl
  obtain ⟨d__law_rounds, F__law_rounds⟩ : ∃ fd, FnP K "_law_rounds" "_law_rounds" (top 112) (He.ga K "_law_rounds") fd := c.def_ 88 (d := ⟨.g "_law_rounds", "_law_rounds", "_law_rounds", top 112, []⟩) rfl
  obtain ⟨d__law_word, F__law_word⟩ : ∃ fd, FnP K "_law_word" "_law_word" (top 125) (He.ga K "_law_word") fd := c.def_ 89 (d := ⟨.g "_law_word", "_law_word", "_law_word", top 125, []⟩) rfl
  obtain ⟨d__law_ties, F__law_ties⟩ : ∃ fd, FnP K "_law_ties" "_law_ties" (top 117) (He.ga K "_law_ties") fd := c.def_ 90 (d := ⟨.g "_law_ties", "_law_ties", "_law_ties", top 117, []⟩) rfl
  obtain ⟨d__law_continued, F__law_continued⟩ : ∃ fd, FnP K "_law_continued" "_law_continued" (top 135) (He.ga K "_law_continued") fd := c.def_ 91 (d := ⟨.g "_law_continued", "_law_continued", "_law_continued", top 135, []⟩) rfl
  obtain ⟨d__law_bracketed, F__law_bracketed⟩ : ∃ fd, FnP K "_law_bracketed" "_law_bracketed" (top 136) (He.ga K "_law_bracketed") fd := c.def_ 92 (d := ⟨.g "_law_bracketed", "_law_bracketed", "_law_bracketed", top 136, []⟩) rfl
  obtain ⟨d__law_is_none, F__law_is_none⟩ : ∃ fd, FnP K "_law_is_none" "_law_is_none" (top 134) (He.ga K "_law_is_none") fd := c.def_ 93 (d := ⟨.g "_law_is_none", "_law_is_none", "_law_is_none", top 134, []⟩) rfl
  obtain ⟨d__law_right, F__law_right⟩ : ∃ fd, FnP K "_law_right" "_law_right" (top 137) (He.ga K "_law_right") fd := c.def_ 94 (d := ⟨.g "_law_right", "_law_right", "_law_right", top 137, []⟩) rfl
  obtain ⟨d_law, F_law⟩ : ∃ fd, FnP K "law" "law" (top 138) (He.ga K "law") fd := c.def_ 95 (d := ⟨.g "law", "law", "law", top 138, []⟩) rfl
  obtain ⟨d_fork_pairs, F_fork_pairs⟩ : ∃ fd, FnP K "fork_pairs" "fork_pairs" (top 49) (He.ga K "fork_pairs") fd := c.def_ 96 (d := ⟨.g "fork_pairs", "fork_pairs", "fork_pairs", top 49, []⟩) rfl
  obtain ⟨d_flat_pairs, F_flat_pairs⟩ : ∃ fd, FnP K "flat_pairs" "flat_pairs" (top 51) (He.ga K "flat_pairs") fd := c.def_ 97 (d := ⟨.g "flat_pairs", "flat_pairs", "flat_pairs", top 51, []⟩) rfl
  refine ⟨d_law, F_law, fun base => ?_⟩
  have k_is_whole := ok_is_whole (P := P) (w := w) (base := base) T  F_is_whole
  have c_is_whole := calOf k_is_whole (He.glo_ok X G (c.fact 15 (f := .glo "is_whole") rfl)) F_is_whole.kp (b_is_whole F_is_whole)
  have k_is_between := ok_is_between (P := P) (w := w) (base := base) T c_is_whole F_is_between
  have c_is_between := calOf k_is_between (He.glo_ok X G (c.fact 16 (f := .glo "is_between") rfl)) F_is_between.kp (b_is_between F_is_between)
  have k_pair_sign := ok_pair_sign (P := P) (w := w) (base := base) T  F_pair_sign
  have c_pair_sign := calOf k_pair_sign (He.glo_ok X G (c.fact 17 (f := .glo "pair_sign") rfl)) F_pair_sign.kp (b_pair_sign F_pair_sign)
  have k_axis_of := ok_axis_of (P := P) (w := w) (base := base) T  F_axis_of
  have c_axis_of := calOf k_axis_of (He.glo_ok X G (c.fact 18 (f := .glo "axis_of") rfl)) F_axis_of.kp (b_axis_of F_axis_of)
  have k_all_axes := ok_all_axes (P := P) (w := w) (base := base) T c_axis_of F_all_axes
  have c_all_axes := calOf k_all_axes (He.glo_ok X G (c.fact 19 (f := .glo "all_axes") rfl)) F_all_axes.kp (b_all_axes F_all_axes)
  have k_level_at := ok_level_at (P := P) (w := w) (base := base) T  F_level_at
  have c_level_at := calOf k_level_at (He.glo_ok X G (c.fact 20 (f := .glo "level_at") rfl)) F_level_at.kp (b_level_at F_level_at)
  have k_turned := ok_turned (P := P) (w := w) (base := base) T c_level_at F_turned
  have c_turned := calOf k_turned (He.glo_ok X G (c.fact 21 (f := .glo "turned") rfl)) F_turned.kp (b_turned F_turned)
  have k_vector_less := ok_vector_less (P := P) (w := w) (base := base) T  F_vector_less
  have c_vector_less := calOf k_vector_less (He.glo_ok X G (c.fact 22 (f := .glo "vector_less") rfl)) F_vector_less.kp (b_vector_less F_vector_less)
  have k_pressed_behind := ok_pressed_behind (P := P) (w := w) (base := base) T c_vector_less F_pressed_behind
  have c_pressed_behind := calOf k_pressed_behind (He.glo_ok X G (c.fact 23 (f := .glo "pressed_behind") rfl)) F_pressed_behind.kp (b_pressed_behind F_pressed_behind)
  have k_pressed_front := ok_pressed_front (P := P) (w := w) (base := base) T c_turned F_pressed_front
  have c_pressed_front := calOf k_pressed_front (He.glo_ok X G (c.fact 24 (f := .glo "pressed_front") rfl)) F_pressed_front.kp (b_pressed_front F_pressed_front)
  have k_images_of := ok_images_of (P := P) (w := w) (base := base) T c_all_axes c_pressed_behind F_images_of
  have c_images_of := calOf k_images_of (He.glo_ok X G (c.fact 25 (f := .glo "images_of") rfl)) F_images_of.kp (b_images_of F_images_of)
  have k_is_down := ok_is_down (P := P) (w := w) (base := base) T c_pair_sign F_is_down
  have c_is_down := calOf k_is_down (He.glo_ok X G (c.fact 26 (f := .glo "is_down") rfl)) F_is_down.kp (b_is_down F_is_down)
  have k_down_buttons := ok_down_buttons (P := P) (w := w) (base := base) T c_is_down F_down_buttons
  have c_down_buttons := calOf k_down_buttons (He.glo_ok X G (c.fact 27 (f := .glo "down_buttons") rfl)) F_down_buttons.kp (b_down_buttons F_down_buttons)
  have k_word_by := ok_word_by (P := P) (w := w) (base := base) T c_down_buttons c_pressed_behind F_word_by
  have c_word_by := calOf k_word_by (He.glo_ok X G (c.fact 28 (f := .glo "word_by") rfl)) F_word_by.kp (b_word_by F_word_by)
  have k_led_by := ok_led_by (P := P) (w := w) (base := base) T c_vector_less F_led_by
  have c_led_by := calOf k_led_by (He.glo_ok X G (c.fact 29 (f := .glo "led_by") rfl)) F_led_by.kp (b_led_by F_led_by)
  have k_is_button := ok_is_button (P := P) (w := w) (base := base) T c_is_whole F_is_button
  have c_is_button := calOf k_is_button (He.glo_ok X G (c.fact 30 (f := .glo "is_button") rfl)) F_is_button.kp (b_is_button F_is_button)
  have k_is_right_row := ok_is_right_row (P := P) (w := w) (base := base) T c_is_whole F_is_right_row
  have c_is_right_row := calOf k_is_right_row (He.glo_ok X G (c.fact 31 (f := .glo "is_right_row") rfl)) F_is_right_row.kp (b_is_right_row F_is_right_row)
  have k_first_wrong_row := ok_first_wrong_row (P := P) (w := w) (base := base) T c_is_right_row F_first_wrong_row
  have c_first_wrong_row := calOf k_first_wrong_row (He.glo_ok X G (c.fact 32 (f := .glo "first_wrong_row") rfl)) F_first_wrong_row.kp (b_first_wrong_row F_first_wrong_row)
  have k_weight_pairs := ok_weight_pairs (P := P) (w := w) (base := base) T  F_weight_pairs
  have c_weight_pairs := calOf k_weight_pairs (He.glo_ok X G (c.fact 33 (f := .glo "weight_pairs") rfl)) F_weight_pairs.kp (b_weight_pairs F_weight_pairs)
  have k_piece_from := ok_piece_from (P := P) (w := w) (base := base) T  F_piece_from
  have c_piece_from := calOf k_piece_from (He.glo_ok X G (c.fact 34 (f := .glo "piece_from") rfl)) F_piece_from.kp (b_piece_from F_piece_from)
  have k_pieces_of := ok_pieces_of (P := P) (w := w) (base := base) T c_piece_from F_pieces_of
  have c_pieces_of := calOf k_pieces_of (He.glo_ok X G (c.fact 35 (f := .glo "pieces_of") rfl)) F_pieces_of.kp (b_pieces_of F_pieces_of)
  have k_check_table := ok_check_table (P := P) (w := w) (base := base) T  F_check_table
  have c_check_table := calOf k_check_table (He.glo_ok X G (c.fact 36 (f := .glo "check_table") rfl)) F_check_table.kp (b_check_table F_check_table)
  have k_wrong_in_room := ok_wrong_in_room (P := P) (w := w) (base := base) T c_is_button F_wrong_in_room
  have c_wrong_in_room := calOf k_wrong_in_room (He.glo_ok X G (c.fact 37 (f := .glo "wrong_in_room") rfl)) F_wrong_in_room.kp (b_wrong_in_room F_wrong_in_room)
  have k_wrong_in_word := ok_wrong_in_word (P := P) (w := w) (base := base) T c_is_button F_wrong_in_word
  have c_wrong_in_word := calOf k_wrong_in_word (He.glo_ok X G (c.fact 38 (f := .glo "wrong_in_word") rfl)) F_wrong_in_word.kp (b_wrong_in_word F_wrong_in_word)
  have k_check_word := ok_check_word (P := P) (w := w) (base := base) T c_wrong_in_word F_check_word
  have c_check_word := calOf k_check_word (He.glo_ok X G (c.fact 39 (f := .glo "check_word") rfl)) F_check_word.kp (b_check_word F_check_word)
  have k_check_room := ok_check_room (P := P) (w := w) (base := base) T c_wrong_in_room F_check_room
  have c_check_room := calOf k_check_room (He.glo_ok X G (c.fact 40 (f := .glo "check_room") rfl)) F_check_room.kp (b_check_room F_check_room)
  have k_check_number := ok_check_number (P := P) (w := w) (base := base) T c_is_between F_check_number
  have c_check_number := calOf k_check_number (He.glo_ok X G (c.fact 41 (f := .glo "check_number") rfl)) F_check_number.kp (b_check_number F_check_number)
  have k_part_ties := ok_part_ties (P := P) (w := w) (base := base) T  F_part_ties
  have c_part_ties := calOf k_part_ties (He.glo_ok X G (c.fact 42 (f := .glo "part_ties") rfl)) F_part_ties.kp (b_part_ties F_part_ties)
  have k_Table_init := ok_Table_init (P := P) (w := w) (base := base) T c_first_wrong_row c_weight_pairs c_pieces_of F_Table_init
  have c_Table_init : C8.Mak P w K mg base 4 "Table" (He.ga K "Table") (pm_Table_init K).sp [] := ⟨⟨_, _, _, [], He.mkr_ok (c.fact 120 (f := .mkr "Table") rfl), k_Table_init, (He.glo_ok X G (c.fact 106 (f := .glo "Table") rfl)), b_Table_init F_Table_init, .nil⟩⟩
  have k_Change_init := ok_Change_init (P := P) (w := w) (base := base) T c_check_table c_check_word c_images_of F_Change_init
  obtain ⟨ds0, hv0, hb0⟩ := b_Change_init F_Change_init
  obtain ⟨its0, hk0⟩ := b_Change_kw F_Change_init
  have c_Change_init : C8.Mak P w K mg base 5 "Change" (He.ga K "Change") (pm_Change_init K).sp [.non] := ⟨⟨_, _, _, ds0, He.mkr_ok (c.fact 121 (f := .mkr "Change") rfl), k_Change_init, (He.glo_ok X G (c.fact 107 (f := .glo "Change") rfl)), hb0, hv0⟩⟩
  have c_Change_kw : MakN P w K mg base 5 "Change" (He.ga K "Change") (pm_Change_init K).sp 2 ["_parts"] := ⟨⟨_, _, _, _, He.mkr_ok (c.fact 121 (f := .mkr "Change") rfl), k_Change_init, (He.glo_ok X G (c.fact 107 (f := .glo "Change") rfl)), hk0⟩⟩
  have k_change_made := ok_change_made (P := P) (w := w) (base := base) T c_Change_kw F_change_made
  have c_change_made := calOf k_change_made (He.glo_ok X G (c.fact 43 (f := .glo "change_made") rfl)) F_change_made.kp (b_change_made F_change_made)
  have k_check_change := ok_check_change (P := P) (w := w) (base := base) T  F_check_change
  have c_check_change := calOf k_check_change (He.glo_ok X G (c.fact 44 (f := .glo "check_change") rfl)) F_check_change.kp (b_check_change F_check_change)
  have k_Table_eq := ok_Table_eq (P := P) (w := w) (base := base) T  F_Table_eq
  have c_Table_eq : EqO P w K mg base _ (He.ga K "Table") (pm_Table_eq K).sp := ⟨⟨_, _, _, eqc_of (c.exx 2 rfl) (He.meth_ok (c.fact 122 (f := .meth "Table" "__eq__") rfl)), k_Table_eq, b_Table_eq F_Table_eq⟩⟩
  have k_check_same_table := ok_check_same_table (P := P) (w := w) (base := base) T c_Table_eq F_check_same_table
  have c_check_same_table := calOf k_check_same_table (He.glo_ok X G (c.fact 45 (f := .glo "check_same_table") rfl)) F_check_same_table.kp (b_check_same_table F_check_same_table)
  have k_check_both := ok_check_both (P := P) (w := w) (base := base) T c_check_change c_check_same_table F_check_both
  have c_check_both := calOf k_check_both (He.glo_ok X G (c.fact 46 (f := .glo "check_both") rfl)) F_check_both.kp (b_check_both F_check_both)
  have k_inverse_of := ok_inverse_of (P := P) (w := w) (base := base) T c_change_made F_inverse_of
  have c_inverse_of := calOf k_inverse_of (He.glo_ok X G (c.fact 47 (f := .glo "inverse_of") rfl)) F_inverse_of.kp (b_inverse_of F_inverse_of)
  have k_product_of := ok_product_of (P := P) (w := w) (base := base) T c_led_by c_change_made F_product_of
  have c_product_of := calOf k_product_of (He.glo_ok X G (c.fact 48 (f := .glo "product_of") rfl)) F_product_of.kp (b_product_of F_product_of)
  have k_led_front := ok_led_front (P := P) (w := w) (base := base) T c_pressed_front c_pressed_behind c_change_made F_led_front
  have c_led_front := calOf k_led_front (He.glo_ok X G (c.fact 49 (f := .glo "led_front") rfl)) F_led_front.kp (b_led_front F_led_front)
  have k_plain := ok_plain (P := P) (w := w) (base := base) T c_check_table c_Change_init F_plain
  have c_plain := calOf k_plain (He.glo_ok X G (c.fact 50 (f := .glo "plain") rfl)) F_plain.kp (b_plain F_plain)
  have k_Change_word := ok_Change_word (P := P) (w := w) (base := base) T c_word_by F_Change_word
  have c_Change_word : Prp P w K mg base _ (He.ga K "Change") "word" (pm_Change_word K).sp := ⟨⟨_, _, _, _, He.cls_ok (c.fact 119 (f := .cls "Change") rfl), prB_ok (c.exx 4 rfl), k_Change_word, b_Change_word F_Change_word⟩⟩
  have k_Change_length := ok_Change_length (P := P) (w := w) (base := base) T c_word_by F_Change_length
  have c_Change_length : Prp P w K mg base _ (He.ga K "Change") "length" (pm_Change_length K).sp := ⟨⟨_, _, _, _, He.cls_ok (c.fact 119 (f := .cls "Change") rfl), prB_ok (c.exx 5 rfl), k_Change_length, b_Change_length F_Change_length⟩⟩
  have k_Change_fronts := ok_Change_fronts (P := P) (w := w) (base := base) T c_down_buttons F_Change_fronts
  have c_Change_fronts : Prp P w K mg base _ (He.ga K "Change") "fronts" (pm_Change_fronts K).sp := ⟨⟨_, _, _, _, He.cls_ok (c.fact 119 (f := .cls "Change") rfl), prB_ok (c.exx 6 rfl), k_Change_fronts, b_Change_fronts F_Change_fronts⟩⟩
  have k_Change_eq := ok_Change_eq (P := P) (w := w) (base := base) T c_Table_eq F_Change_eq
  have c_Change_eq : EqO P w K mg base _ (He.ga K "Change") (pm_Change_eq K).sp := ⟨⟨_, _, _, eqc_of (c.exx 3 rfl) (He.meth_ok (c.fact 123 (f := .meth "Change" "__eq__") rfl)), k_Change_eq, b_Change_eq F_Change_eq⟩⟩
  have k_by_turns := ok_by_turns (P := P) (w := w) (base := base) T  F_by_turns
  have c_by_turns := calOf k_by_turns (He.glo_ok X G (c.fact 51 (f := .glo "by_turns") rfl)) F_by_turns.kp (b_by_turns F_by_turns)
  have k_does_begin := ok_does_begin (P := P) (w := w) (base := base) T c_Change_length c_inverse_of c_product_of F_does_begin
  have c_does_begin := calOf k_does_begin (He.glo_ok X G (c.fact 52 (f := .glo "does_begin") rfl)) F_does_begin.kp (b_does_begin F_does_begin)
  have k_begins := ok_begins (P := P) (w := w) (base := base) T c_check_both c_does_begin F_begins
  have c_begins := calOf k_begins (He.glo_ok X G (c.fact 53 (f := .glo "begins") rfl)) F_begins.kp (b_begins F_begins)
  have k_top_images := ok_top_images (P := P) (w := w) (base := base) T c_all_axes c_pressed_behind c_pressed_front c_down_buttons F_top_images
  have c_top_images := calOf k_top_images (He.glo_ok X G (c.fact 54 (f := .glo "top_images") rfl)) F_top_images.kp (b_top_images F_top_images)
  have k_top_of := ok_top_of (P := P) (w := w) (base := base) T c_top_images c_change_made F_top_of
  have c_top_of := calOf k_top_of (He.glo_ok X G (c.fact 55 (f := .glo "top_of") rfl)) F_top_of.kp (b_top_of F_top_of)
  have c_joined_word := joined_of (base := base) T c_Change_fronts c_Change_length c_led_front c_by_turns F_joined_button F_joined_word (He.glo_ok X G (c.fact 56 (f := .glo "joined_button") rfl)) (He.glo_ok X G (c.fact 57 (f := .glo "joined_word") rfl)) 10
  have k_least_continuation := ok_least_continuation (P := P) (w := w) (base := base) T 29 (by omega) c_check_change c_check_number c_check_same_table c_Change_word c_Change_length c_joined_word F_least_continuation
  have c_least_continuation := calOf k_least_continuation (He.glo_ok X G (c.fact 58 (f := .glo "least_continuation") rfl)) F_least_continuation.kp (b_least_continuation F_least_continuation)
  have c_least_continuation_kw : CalK P w K mg base 30 "least_continuation" (pm_least_continuation K).sp ["change", "other", "most"] := ⟨⟨_, _, _, k_least_continuation, (He.glo_ok X G (c.fact 58 (f := .glo "least_continuation") rfl)), F_least_continuation.kp, b_least_continuation_kw F_least_continuation⟩⟩
  have c_fork_pairs : C8.Cal P w K mg base 1 "fork_pairs" (pm_fork_pairs K).sp [] := calOf (ok_none (pm_fork_pairs K) fun i e => e) (He.glo_ok X G (c.fact 104 (f := .glo "fork_pairs") rfl)) F_fork_pairs.kp (b_fork_pairs F_fork_pairs)
  have c_flat_pairs : C8.Cal P w K mg base 1 "flat_pairs" (pm_flat_pairs K).sp [] := calOf (ok_none (pm_flat_pairs K) fun i e => e) (He.glo_ok X G (c.fact 105 (f := .glo "flat_pairs") rfl)) F_flat_pairs.kp (b_flat_pairs F_flat_pairs)
  have k_chain_pairs := ok_chain_pairs (P := P) (w := w) (base := base) T  F_chain_pairs
  have c_chain_pairs := calOf k_chain_pairs (He.glo_ok X G (c.fact 59 (f := .glo "chain_pairs") rfl)) F_chain_pairs.kp (b_chain_pairs F_chain_pairs)
  have k_finite_pairs := ok_finite_pairs (P := P) (w := w) (base := base) T c_chain_pairs c_fork_pairs F_finite_pairs
  have c_finite_pairs := calOf k_finite_pairs (He.glo_ok X G (c.fact 60 (f := .glo "finite_pairs") rfl)) F_finite_pairs.kp (b_finite_pairs F_finite_pairs)
  have k_tied_rows := ok_tied_rows (P := P) (w := w) (base := base) T  F_tied_rows
  have c_tied_rows := calOf k_tied_rows (He.glo_ok X G (c.fact 61 (f := .glo "tied_rows") rfl)) F_tied_rows.kp (b_tied_rows F_tied_rows)
  have k_named_ties := ok_named_ties (P := P) (w := w) (base := base) T T2 c_flat_pairs c_tied_rows c_finite_pairs F_named_ties
  have c_named_ties := calOf k_named_ties (He.glo_ok X G (c.fact 62 (f := .glo "named_ties") rfl)) F_named_ties.kp (b_named_ties F_named_ties)
  have k_names_with := ok_names_with (P := P) (w := w) (base := base) T T2  F_names_with
  have c_names_with := calOf k_names_with (He.glo_ok X G (c.fact 63 (f := .glo "names_with") rfl)) F_names_with.kp (b_names_with F_names_with)
  have k_fits_line := ok_fits_line (P := P) (w := w) (base := base) T  F_fits_line
  have c_fits_line := calOf k_fits_line (He.glo_ok X G (c.fact 64 (f := .glo "fits_line") rfl)) F_fits_line.kp (b_fits_line F_fits_line)
  have k_likeness_of := ok_likeness_of (P := P) (w := w) (base := base) T c_fits_line F_likeness_of
  have c_likeness_of := calOf k_likeness_of (He.glo_ok X G (c.fact 65 (f := .glo "likeness_of") rfl)) F_likeness_of.kp (b_likeness_of F_likeness_of)
  have k_name_of := ok_name_of (P := P) (w := w) (base := base) T c_names_with c_named_ties c_likeness_of F_name_of
  have c_name_of := calOf k_name_of (He.glo_ok X G (c.fact 66 (f := .glo "name_of") rfl)) F_name_of.kp (b_name_of F_name_of)
  have k_kind_of := ok_kind_of (P := P) (w := w) (base := base) T  F_kind_of
  have c_kind_of := calOf k_kind_of (He.glo_ok X G (c.fact 67 (f := .glo "kind_of") rfl)) F_kind_of.kp (b_kind_of F_kind_of)
  have k_part_names := ok_part_names (P := P) (w := w) (base := base) T c_part_ties c_pieces_of c_name_of F_part_names
  have c_part_names := calOf k_part_names (He.glo_ok X G (c.fact 68 (f := .glo "part_names") rfl)) F_part_names.kp (b_part_names F_part_names)
  have k_is_finite_part := ok_is_finite_part (P := P) (w := w) (base := base) T c_part_names c_kind_of F_is_finite_part
  have c_is_finite_part := calOf k_is_finite_part (He.glo_ok X G (c.fact 69 (f := .glo "is_finite_part") rfl)) F_is_finite_part.kp (b_is_finite_part F_is_finite_part)
  have k_check_finite := ok_check_finite (P := P) (w := w) (base := base) T c_is_finite_part F_check_finite
  have c_check_finite := calOf k_check_finite (He.glo_ok X G (c.fact 70 (f := .glo "check_finite") rfl)) F_check_finite.kp (b_check_finite F_check_finite)
  have k_room_top := ok_room_top (P := P) (w := w) (base := base) T c_check_table c_check_room c_check_finite c_top_of F_room_top
  have c_room_top := calOf k_room_top (He.glo_ok X G (c.fact 71 (f := .glo "room_top") rfl)) F_room_top.kp (b_room_top F_room_top)
  have k_front_of_both := ok_front_of_both (P := P) (w := w) (base := base) T c_plain c_Change_fronts c_room_top c_product_of F_front_of_both
  have c_front_of_both := calOf k_front_of_both (He.glo_ok X G (c.fact 72 (f := .glo "front_of_both") rfl)) F_front_of_both.kp (b_front_of_both F_front_of_both)
  have k_common_front := ok_common_front (P := P) (w := w) (base := base) T c_check_both c_front_of_both F_common_front
  have c_common_front := calOf k_common_front (He.glo_ok X G (c.fact 73 (f := .glo "common_front") rfl)) F_common_front.kp (b_common_front F_common_front)
  have k__law_plus := ok__law_plus (P := P) (w := w) (base := base) T  F__law_plus
  have c__law_plus := calOf k__law_plus (He.glo_ok X G (c.fact 74 (f := .glo "_law_plus") rfl)) F__law_plus.kp (b__law_plus F__law_plus)
  have k__law_less := ok__law_less (P := P) (w := w) (base := base) T  F__law_less
  have c__law_less := calOf k__law_less (He.glo_ok X G (c.fact 75 (f := .glo "_law_less") rfl)) F__law_less.kp (b__law_less F__law_less)
  have k__law_times := ok__law_times (P := P) (w := w) (base := base) T  F__law_times
  have c__law_times := calOf k__law_times (He.glo_ok X G (c.fact 76 (f := .glo "_law_times") rfl)) F__law_times.kp (b__law_times F__law_times)
  have k__law_sign := ok__law_sign (P := P) (w := w) (base := base) T  F__law_sign
  have c__law_sign := calOf k__law_sign (He.glo_ok X G (c.fact 77 (f := .glo "_law_sign") rfl)) F__law_sign.kp (b__law_sign F__law_sign)
  have k__law_weight := ok__law_weight (P := P) (w := w) (base := base) T  F__law_weight
  have c__law_weight := calOf k__law_weight (He.glo_ok X G (c.fact 78 (f := .glo "_law_weight") rfl)) F__law_weight.kp (b__law_weight F__law_weight)
  have k__law_level := ok__law_level (P := P) (w := w) (base := base) T c__law_weight c__law_times c__law_plus F__law_level
  have c__law_level := calOf k__law_level (He.glo_ok X G (c.fact 79 (f := .glo "_law_level") rfl)) F__law_level.kp (b__law_level F__law_level)
  have k__law_bent := ok__law_bent (P := P) (w := w) (base := base) T c__law_level c__law_less F__law_bent
  have c__law_bent := calOf k__law_bent (He.glo_ok X G (c.fact 80 (f := .glo "_law_bent") rfl)) F__law_bent.kp (b__law_bent F__law_bent)
  have k__law_led := ok__law_led (P := P) (w := w) (base := base) T c__law_bent F__law_led
  have c__law_led := calOf k__law_led (He.glo_ok X G (c.fact 81 (f := .glo "_law_led") rfl)) F__law_led.kp (b__law_led F__law_led)
  have k__law_axis := ok__law_axis (P := P) (w := w) (base := base) T  F__law_axis
  have c__law_axis := calOf k__law_axis (He.glo_ok X G (c.fact 82 (f := .glo "_law_axis") rfl)) F__law_axis.kp (b__law_axis F__law_axis)
  have k__law_images := ok__law_images (P := P) (w := w) (base := base) T c__law_axis c__law_led F__law_images
  have c__law_images := calOf k__law_images (He.glo_ok X G (c.fact 83 (f := .glo "_law_images") rfl)) F__law_images.kp (b__law_images F__law_images)
  have k__law_is_down := ok__law_is_down (P := P) (w := w) (base := base) T c__law_sign F__law_is_down
  have c__law_is_down := calOf k__law_is_down (He.glo_ok X G (c.fact 84 (f := .glo "_law_is_down") rfl)) F__law_is_down.kp (b__law_is_down F__law_is_down)
  have k__law_pressed := ok__law_pressed (P := P) (w := w) (base := base) T c__law_weight c__law_times c__law_less F__law_pressed
  have c__law_pressed := calOf k__law_pressed (He.glo_ok X G (c.fact 85 (f := .glo "_law_pressed") rfl)) F__law_pressed.kp (b__law_pressed F__law_pressed)
  have k__law_key := ok__law_key (P := P) (w := w) (base := base) T  F__law_key
  have c__law_key := calOf k__law_key (He.glo_ok X G (c.fact 86 (f := .glo "_law_key") rfl)) F__law_key.kp (b__law_key F__law_key)
  have k__law_backs := ok__law_backs (P := P) (w := w) (base := base) T c__law_is_down F__law_backs
  have c__law_backs := calOf k__law_backs (He.glo_ok X G (c.fact 87 (f := .glo "_law_backs") rfl)) F__law_backs.kp (b__law_backs F__law_backs)
  have k__law_taken := ok__law_taken (P := P) (w := w) (base := base) T c__law_backs c__law_pressed F__law_taken
  have c__law_taken := calOf k__law_taken (He.glo_ok X G (c.fact 88 (f := .glo "_law_taken") rfl)) F__law_taken.kp (b__law_taken F__law_taken)
  have k__law_undone := ok__law_undone (P := P) (w := w) (base := base) T  F__law_undone
  have c__law_undone := calOf k__law_undone (He.glo_ok X G (c.fact 89 (f := .glo "_law_undone") rfl)) F__law_undone.kp (b__law_undone F__law_undone)
  have k__law_first := ok__law_first (P := P) (w := w) (base := base) T c__law_undone c__law_images c__law_taken F__law_first
  have c__law_first := calOf k__law_first (He.glo_ok X G (c.fact 90 (f := .glo "_law_first") rfl)) F__law_first.kp (b__law_first F__law_first)
  have k__law_left := ok__law_left (P := P) (w := w) (base := base) T c__law_undone c__law_images c__law_taken F__law_left
  have c__law_left := calOf k__law_left (He.glo_ok X G (c.fact 91 (f := .glo "_law_left") rfl)) F__law_left.kp (b__law_left F__law_left)
  have k__law_is_least_one := ok__law_is_least_one (P := P) (w := w) (base := base) T c__law_left c__law_backs F__law_is_least_one
  have c__law_is_least_one := calOf k__law_is_least_one (He.glo_ok X G (c.fact 92 (f := .glo "_law_is_least_one") rfl)) F__law_is_least_one.kp (b__law_is_least_one F__law_is_least_one)
  have k__law_pot := ok__law_pot (P := P) (w := w) (base := base) T  F__law_pot
  have c__law_pot := calOf k__law_pot (He.glo_ok X G (c.fact 93 (f := .glo "_law_pot") rfl)) F__law_pot.kp (b__law_pot F__law_pot)
  have k__law_take := ok__law_take (P := P) (w := w) (base := base) T  F__law_take
  have c__law_take := calOf k__law_take (He.glo_ok X G (c.fact 94 (f := .glo "_law_take") rfl)) F__law_take.kp (b__law_take F__law_take)
  have k__law_pick := ok__law_pick (P := P) (w := w) (base := base) T c__law_take F__law_pick
  have c__law_pick := calOf k__law_pick (He.glo_ok X G (c.fact 95 (f := .glo "_law_pick") rfl)) F__law_pick.kp (b__law_pick F__law_pick)
  have k__law_rounds := ok__law_rounds (P := P) (w := w) (base := base) T  F__law_rounds
  have c__law_rounds := calOf k__law_rounds (He.glo_ok X G (c.fact 96 (f := .glo "_law_rounds") rfl)) F__law_rounds.kp (b__law_rounds F__law_rounds)
  have k__law_word := ok__law_word (P := P) (w := w) (base := base) T c__law_take F__law_word
  have c__law_word := calOf k__law_word (He.glo_ok X G (c.fact 97 (f := .glo "_law_word") rfl)) F__law_word.kp (b__law_word F__law_word)
  have k__law_ties := ok__law_ties (P := P) (w := w) (base := base) T c__law_pick F__law_ties
  have c__law_ties := calOf k__law_ties (He.glo_ok X G (c.fact 98 (f := .glo "_law_ties") rfl)) F__law_ties.kp (b__law_ties F__law_ties)
  have k__law_is_none := ok__law_is_none (P := P) (w := w) (base := base) T T2 c__law_undone c__law_images c__law_taken c__law_pressed c__law_is_down c__law_key F__law_is_none
  have c__law_is_none := calOf k__law_is_none (He.glo_ok X G (c.fact 101 (f := .glo "_law_is_none") rfl)) F__law_is_none.kp (b__law_is_none F__law_is_none)
  have k__law_continued := ok__law_continued (P := P) (w := w) (base := base) T c_Change_init c_least_continuation c_least_continuation_kw c__law_is_none c_Change_eq c_Change_length c_Change_word c__law_is_least_one c_common_front c_begins F__law_continued
  have c__law_continued := calOf k__law_continued (He.glo_ok X G (c.fact 99 (f := .glo "_law_continued") rfl)) F__law_continued.kp (b__law_continued F__law_continued)
  have k__law_bracketed := ok__law_bracketed (P := P) (w := w) (base := base) T c__law_continued c_Change_init c_least_continuation c_Change_eq c_begins F__law_bracketed
  have c__law_bracketed := calOf k__law_bracketed (He.glo_ok X G (c.fact 100 (f := .glo "_law_bracketed") rfl)) F__law_bracketed.kp (b__law_bracketed F__law_bracketed)
  have k__law_right := ok__law_right (P := P) (w := w) (base := base) T c__law_take c__law_ties c_Table_init c__law_word c__law_first c__law_bracketed c_Change_init c__law_left c_least_continuation c_Change_eq c_common_front F__law_right
  have c__law_right := calOf k__law_right (He.glo_ok X G (c.fact 102 (f := .glo "_law_right") rfl)) F__law_right.kp (b__law_right F__law_right)
  have k_law := ok_law (P := P) (w := w) (base := base) T c__law_rounds c__law_pot c__law_right F_law
  exact k_law
end
end Wk
open PySem PySem.W PySem.Calls PyProof.Rows
theorem PySem.Challenge.cw_wallwalks_k17_whole_continuations_bracke_holds : PySem.Challenge.rw_wallwalks_k17_whole_continuations_bracke.Holds := by
  w_on; o_law
  refine HandSHeadRun.head_any (r := WkRun.R) (q := WkRun.qv) (H := WkRun.hk) (ob := WkRun.ob) (M := 15000) (loose := WkRun.nms) (d := HandSHeadRun.topDef WkRun.R.prog 138) (kwd := []) WkRun.ob_eq
    (by kernel_rfl) (fun s => by kernel_rfl) WkRun.run (by kernel_rfl) (by kernel_rfl) (by kernel_rfl) (by rfl) (by first | assumption | decide +kernel) (by decide +kernel) ⟨rfl, rfl, rfl, rfl, rfl, by decide +kernel⟩ ?hw ?hc
  case hw => w_witness2
  case hc =>
    refine L2.walk_ofE (l := PySem.Challenge.rw_wallwalks_k17_whole_continuations_bracke) (n := 63) (k := 34) (x := "_law_script") (CX := C8.CX0) rfl (by decide) (by kernel_rfl) ⟨rfl, by decide, by decide⟩ ?F (fun _ _ _ _ z => z)
    intro w mg fa h Y G hmg0
    obtain ⟨K, KX, c⟩ := Y
    have e : (HandSHeadRun.topDef WkRun.R.prog 138).name = ("law" : PySem.Str) := by kernel_rfl
    have hmg : mg ("law" : PySem.Str) = some (.ref fa) := by rw [← e]; exact hmg0
    obtain ⟨fd, F, ok⟩ := Wk.law_ok (P := PySem.Challenge.rw_wallwalks_k17_whole_continuations_bracke.prog) (w := w) (Wk.tx_of KX G c) (Wk.tn_of KX G c) KX G c
    have e2 := hmg.symm.trans (Wk.law_glo KX G c)
    cases e2
    have b := L2.FunD.bindsA (ps := ["_law_script"]) F fun _ _ _ _ _ _ us hl => match us, hl with | [_], _ => by kernel_rfl
    exact ⟨K, fd, (Wk.pm_law K).sp, KX, fun s v => b s [v] rfl, fun H a ns hl _ hS => ⟨ns, H, Wk.Ex.refl H, hl, ⟨.lst hS (Wk.ints_dpAll ns), trivial⟩, fun v N' H' _ _ _ _ r => by cases r; rfl⟩, fun base _ _ => ok base⟩
