import PyProof.Rows.All
import Wide.All
import OpenK.AllK
import Wide.FinOn
import KE.KStateDown
import Lean
import HandS.Codes
import HandS.Property
import HandS.ExcOwn
import HandS.ExcInit
import HandS.ExcField
import HandS.ExcIs
import KE.KExcIs
import HandS.Head0
import HandS.Head1
import HandS.Head2
import HandS.HeadHook1
import HandS.HeadHook2
import HandS.Words
import PySem.Challenge.RW_stampsheets_k71_plain_inks_whole
import HandS.ForMost
import HandS.IsInst
import HandS.Walk
import HandS.Style
import HandS.Defaults
import KE.GoesEnum
import PyProof.EnumMake
import HandS.Dict
import HandS.NoneIn
import HandS.OwnEq
import PyProof.P3Eq
import PyProof.ReprRoads
import PyProof.ReprLen
import HandS.Deep
import HandS.Ends
import HandS.HeadEnd
import HandS.Exc
import HandS.HotCalls
import HandS.WordsExc
set_option Elab.async false
set_option linter.all false
set_option maxRecDepth 100000
set_option maxHeartbeats 4000000
section
namespace K71
open PySem PySem.Spec PyProof.Rows L2
def top (i : Nat) : Stmt := PySem.Challenge.pw_stampsheets_k71_plain_inks_whole.main.body.getD i (.Pass ⟨0, 0, 0, 0⟩)
/-! ### the head's facts -/
def gdef (i : Nat) (n : Str) : He.DefD := ⟨(n, none), n, n, defArgs (top i), defBody (top i), defScope (top i), [], []⟩
def cmeth (c : Str) (i j : Nat) (qual n : Str) : He.DefD := ⟨(c, some n), n, qual, defArgs (inClass (top i) j), defBody (inClass (top i) j), defScope (inClass (top i) j), [], []⟩
def hdFn : List He.DefD := [gdef 11 "is_layer", gdef 12 "empty_layer", gdef 13 "press", gdef 14 "frozen", gdef 19 "is_name", gdef 20 "is_stamp", gdef 22 "known_names", gdef 27 "has_colour", gdef 28 "is_digit", gdef 29 "is_ink_item", gdef 30 "changes_some", gdef 31 "is_ink_stamp", gdef 32 "after_item", gdef 33 "ink_press", gdef 35 "row_stamps", gdef 36 "ink_pressed", gdef 39 "colour_signs", gdef 40 "colours_with", gdef 41 "plain_layer", gdef 42 "ink_sign", gdef 43 "ink_reading", gdef 44 "plain_item", gdef 45 "plain_stamp", gdef 46 "plain_stock", gdef 48 "row_layers", gdef 49 "press_all", gdef 50 "net_of", gdef 51 "pressed", gdef 52 "net_stamp", gdef 54 "ink_net", gdef 56 "_law_kind", gdef 57 "_law_cell", gdef 58 "_law_digits", gdef 59 "_law_ink_names", gdef 60 "_law_ink_stamp", gdef 61 "_law_inks", gdef 62 "_law_given", gdef 63 "_law_ink_after", gdef 64 "_law_ink_press", gdef 65 "_law_ink_row", gdef 66 "_law_ink_dashed", gdef 67 "_law_plain_item", gdef 68 "_law_plain", gdef 69 "_law_read", gdef 70 "_law_same_text", gdef 71 "_law_press", gdef 72 "_law_spoilt", gdef 73 "_law_read_right", gdef 74 "_law_stock_right", gdef 75 "_law_plain_right", gdef 76 "_law_effects", gdef 77 "_law_ink_net", gdef 78 "_law_unknown", gdef 79 "_law_other", gdef 80 "_law_pairs_right", gdef 81 "_law_by_net", gdef 82 "_law_parting", gdef 83 "_law_nets_right", gdef 84 "law", cmeth "Stock" 21 0 "Stock.__init__" "__init__", cmeth "Stock" 21 5 "Stock.__eq__" "__eq__", cmeth "Stock" 21 7 "Stock.place" "place", cmeth "Stock" 21 8 "Stock.stamp" "stamp", cmeth "InkStock" 34 0 "InkStock.__init__" "__init__", cmeth "InkStock" 34 3 "InkStock.place" "place", cmeth "UnknownName" 7 0 "UnknownName.__init__" "__init__"]
def hdFa : List He.Fa := [.free "len", .free "range", .free "zip", .free "enumerate", .free "int", .free "str", .free "bool", .free "list", .free "tuple", .free "sum", .free "isinstance", .free "repr", .free "ValueError", .str "SIGNS" "-.abcdefghijklmnopqrstuvwxyz", .str "LETTERS" "abcdefghijklmnopqrstuvwxyz", .str "DIGITS" "0123456789", .str "UNREAD" "---", .int "MOST_CELLS" 30, .int "LONGEST_NAME" 8, .int "ALL_COLOURS" 7, .glo "is_layer", .glo "empty_layer", .glo "press", .glo "frozen", .glo "is_name", .glo "is_stamp", .glo "known_names", .glo "has_colour", .glo "is_digit", .glo "is_ink_item", .glo "changes_some", .glo "is_ink_stamp", .glo "after_item", .glo "ink_press", .glo "row_stamps", .glo "ink_pressed", .glo "colour_signs", .glo "colours_with", .glo "plain_layer", .glo "ink_sign", .glo "ink_reading", .glo "plain_item", .glo "plain_stamp", .glo "plain_stock", .glo "row_layers", .glo "press_all", .glo "net_of", .glo "pressed", .glo "net_stamp", .glo "ink_net", .glo "_law_kind", .glo "_law_cell", .glo "_law_digits", .glo "_law_ink_names", .glo "_law_ink_stamp", .glo "_law_inks", .glo "_law_given", .glo "_law_ink_after", .glo "_law_ink_press", .glo "_law_ink_row", .glo "_law_ink_dashed", .glo "_law_plain_item", .glo "_law_plain", .glo "_law_read", .glo "_law_same_text", .glo "_law_press", .glo "_law_spoilt", .glo "_law_read_right", .glo "_law_stock_right", .glo "_law_plain_right", .glo "_law_effects", .glo "_law_ink_net", .glo "_law_unknown", .glo "_law_other", .glo "_law_pairs_right", .glo "_law_by_net", .glo "_law_parting", .glo "_law_nets_right", .glo "law", .glo "Stock", .glo "InkStock", .glo "UnknownName", .glo "BadName", .glo "BadStamp", .glo "NameTaken", .glo "StampError", .glo "COLOURS", .glo "DEEDS", .cls "Stock", .cls "InkStock", .mkr "Stock", .mkr "InkStock", .noat "InkStock" "size", .noat "InkStock" "stamps", .noat "InkStock" "numbers", .noat "Stock" "size", .noat "Stock" "stamps", .noat "Stock" "numbers", .noat "Stock" "layers", .noat "UnknownName" "name", .meth "Stock" "place", .meth "Stock" "stamp", .meth "InkStock" "place", .meth "Stock" "__eq__", .exm "UnknownName" "UnknownName" true]
/-- a function at an address -/
def fnAt (K : PySem.W.Frag) (a : Addr) : He.FnW := match K.lookup a with
  | some ⟨_, _, .func fd, _⟩ => some (fd.name, fd.qualname, fd.params, fd.body, fd.scope, fd.globals, fd.closure, fd.builtins)
  | _ => none
def fnAtB (K : PySem.W.Frag) (a : Addr) (q : Str) : Bool := PySem.W.keepIn K (.ref a) && (match K.lookup a with
  | some ⟨_, _, .func fd, _⟩ => PySem.W.codeIn K fd.code q && (He.dflB K fd.defaults [] && He.kwdB K fd.kwdefaults [])
  | _ => false)
theorem fnAt_ok {K : PySem.W.Frag} {a : Addr} {nm q : Str} {ps : Arguments} {body : List Stmt} {sc : Scope} (e : fnAt K a = some (nm, q, ps, .stmts body, sc, mainGlobals, [], builtinsNs)) (c : fnAtB K a q = true) : ∃ fd, FunD K nm q ps body sc [] [] a fd := by
  obtain ⟨kp, c2⟩ := He.ba c
  unfold fnAt at e
  cases z : K.lookup a with
  | none =>
    rw [z] at c2
    cases c2
  | some o =>
    obtain ⟨oc, od, dt, osl⟩ := o
    rw [z] at c2 e
    cases dt with
    | func fd =>
      obtain ⟨n1, n2, n3, n4, n5, n6, n7, n8, n9, n10, n11, n12, n13, n14, n15⟩ := fd
      have e2 : (some (n1, n2, n3, n4, n5, n6, n7, n15) : He.FnW) = some (nm, q, ps, .stmts body, sc, mainGlobals, [], builtinsNs) := e
      simp only [Option.some.injEq, Prod.mk.injEq] at e2
      obtain ⟨h1, h2, h3, h4, h5, h6, h7, h8⟩ := e2
      subst h1 h2 h3 h4 h5 h6 h7 h8
      have c3 : (PySem.W.codeIn K n13 n2 && (He.dflB K n8 [] && He.kwdB K n9 [])) = true := c2
      obtain ⟨k1, k2⟩ := He.ba c3
      obtain ⟨k3, k4⟩ := He.ba k2
      exact ⟨_, ⟨oc, od, n8, n9, n10, n11, n12, n13, n14, osl, rfl, z, k1, He.dflB_ok k3, He.kwdB_ok k4⟩, kp⟩
    | _ => cases c2
/-- the property's object, its getter -/
def prA (K : PySem.W.Frag) : Addr := He.ma K (He.ga K "Stock") "names"
def prG (K : PySem.W.Frag) : Addr := match PySem.W.recIn K (prA K) "property" with
  | some (.ref g :: _) => g
  | _ => 0
def prB (K : PySem.W.Frag) : Bool := He.eqO (PySem.W.findIn K (.ref (He.ga K "Stock")) "names") (some (some (.ref (prA K)))) && (He.eqO (PySem.W.specialIn K (.ref (prA K)) "__get__") (some (some (.builtin "property.__get__"))) && (decide (PySem.W.takesIn K (.ref (prA K)) = some true) && (match PySem.W.recIn K (prA K) "property" with
  | some (.ref _ :: _) => true
  | _ => false)))
theorem prB_ok {K : PySem.W.Frag} (h : prB K = true) : PropOf K (He.ga K "Stock") "names" (prA K) (prG K) := by
  obtain ⟨h1, h⟩ := He.ba h
  obtain ⟨h2, h⟩ := He.ba h
  obtain ⟨h3, h4⟩ := He.ba h
  refine ⟨He.eqO_ok h1, He.eqO_ok h2, of_decide_eq_true h3, ?_⟩
  unfold prG
  split at h4
  · rename_i g r e
    rw [e]
    exact ⟨r, rfl⟩
  · cases h4
def oexB (K : PySem.W.Frag) (C : Addr) : Bool := (match K.lookup C with
  | some ⟨.type t, _, .cls ⟨_, _, mro, _, _, hd, _, _, _, _, del⟩, sl⟩ => (match mro, sl.toList with
    | .ref C' :: bm, [_, _, _, _, some (.builtin n), _] => decide (t = "type") && (decide (C' = C) && (decide (n = "ValueError.__new__") && (!del && (hd && PySem.HandSPX.refsVE bm))))
    | _, _ => false)
  | _ => false) && (He.eqO (PySem.W.findIn K (.ref C) "__setattr__") (some (some (.builtin "object.__setattr__"))) && (decide (PySem.W.subIn K (.ref C) (.type "BaseException") = some true) && (decide (PySem.W.typeIn K (.ref C) = some (.type "type")) && PySem.W.keepIn K (.ref C))))
theorem oexB_ok {K : PySem.W.Frag} {C : Addr} (h : oexB K C = true) : OexC K C := by
  obtain ⟨h0, h⟩ := He.ba h
  obtain ⟨h1, h⟩ := He.ba h
  obtain ⟨h2, h⟩ := He.ba h
  obtain ⟨h3, h4⟩ := He.ba h
  refine ⟨?_, He.eqO_ok h1, of_decide_eq_true h2, of_decide_eq_true h3, h4⟩
  split at h0
  · rename_i t dd nm bs mro N q hd sn sub ab col del sl ho
    split at h0
    · rename_i C' bm k0 k1 k2 k3 n k5 hs
      obtain ⟨a1, h0⟩ := He.ba h0
      obtain ⟨a2, h0⟩ := He.ba h0
      obtain ⟨a3, h0⟩ := He.ba h0
      obtain ⟨a4, h0⟩ := He.ba h0
      obtain ⟨a5, a6⟩ := He.ba h0
      have b1 := of_decide_eq_true a1
      have b2 := of_decide_eq_true a2
      have b3 := of_decide_eq_true a3
      have b4 : del = false := by
        cases del with
        | false => rfl
        | true => cases a4
      subst b1 b2 b3 b4 a5
      have hsl : sl = #[k0, k1, k2, k3, some (.builtin "ValueError.__new__"), k5] := by
        obtain ⟨l⟩ := sl
        simp only at hs
        rw [hs]
      subst hsl
      exact ⟨nm, q, N, bs, bm, sn, sub, ab, col, dd, k0, k1, k2, k3, k5, ho, a6⟩
    · cases h0
  · cases h0
def insB (K : PySem.W.Frag) (C : Addr) : Bool := He.eqO (PySem.W.findIn K (.ref C) "__class__") (some (some (.builtin "object.__class__"))) && (He.eqO (PySem.W.specialIn K (.builtin "object.__class__") "__get__") (some (some (.builtin "getset_descriptor.__get__"))) && (decide (PySem.W.takesIn K (.builtin "object.__class__") = some true) && (decide (PySem.W.mroIn K C (.type "object") = some true) && decide (PySem.W.kitOne K (.ref C) (.ref C) = some true))))
theorem insB_ok {K : PySem.W.Frag} {C : Addr} (c : Cls K C) (h : insB K C = true) : C8.InsC K C := by
  obtain ⟨h1, h⟩ := He.ba h
  obtain ⟨h2, h⟩ := He.ba h
  obtain ⟨h3, h⟩ := He.ba h
  obtain ⟨h4, h5⟩ := He.ba h
  exact ⟨c, He.eqO_ok h1, He.eqO_ok h2, of_decide_eq_true h3, of_decide_eq_true h4, of_decide_eq_true h5⟩
def xcB (K : PySem.W.Frag) (C : Addr) : Bool := He.eqO (PySem.W.findIn K (.ref C) "__class__") (some (some (.builtin "object.__class__"))) && (He.eqO (PySem.W.specialIn K (.builtin "object.__class__") "__get__") (some (some (.builtin "getset_descriptor.__get__"))) && (decide (PySem.W.takesIn K (.builtin "object.__class__") = some true) && decide (PySem.W.mroIn K C (.type "object") = some true)))
theorem xcB_ok {K : PySem.W.Frag} {C : Addr} (x : XfC K C) (h : xcB K C = true) : ExcC K C := by
  obtain ⟨h1, h⟩ := He.ba h
  obtain ⟨h2, h⟩ := He.ba h
  obtain ⟨h3, h4⟩ := He.ba h
  exact ⟨x.ga, x.gg, x.exC, x.hdC, He.eqO_ok h1, He.eqO_ok h2, of_decide_eq_true h3, of_decide_eq_true h4⟩
def kitB1 (K : PySem.W.Frag) (y : Str) (b : Bool) : Bool := decide (PySem.W.kitOne K (.ref (He.ga K "UnknownName")) (.ref (He.ga K y)) = some b)
def uB (K : PySem.W.Frag) : Bool := He.eqO (PySem.W.findIn K (.ref (He.ga K "UnknownName")) "__init__") (some (some (.ref (He.ma K (He.ga K "UnknownName") "__init__")))) && decide (PySem.W.typeIn K (.ref (He.ma K (He.ga K "UnknownName") "__init__")) = some (.type "function"))
def exB (K : PySem.W.Frag) : Bool := prB K && (fnAtB K (prG K) "Stock.names" && (oexB K (He.ga K "UnknownName") && (insB K (He.ga K "Stock") && (xcB K (He.ga K "UnknownName") && (L2.xfB K (He.ga K "UnknownName") && (kitB1 K "BadName" false && (kitB1 K "BadStamp" false && (kitB1 K "NameTaken" false && (kitB1 K "StampError" true && (decide (PySem.W.kitOne K (.ref (He.ga K "UnknownName")) (.type "ValueError") = some true) && (uB K && (He.tupB K "COLOURS" [.int 1, .int 2, .int 4] && He.tupB K "DEEDS" [.str "set", .str "add", .str "bleach"]))))))))))))
/-! ### the hook -/
abbrev AlK : Type := He.AlD × Bool × He.FnW
def prV : He.FnW := some ("names", "Stock.names", defArgs (inClass (top 21) 1), .stmts (defBody (inClass (top 21) 1)), defScope (inClass (top 21) 1), mainGlobals, [], builtinsNs)
def obsK (K : PySem.W.Frag) : AlK := (He.obsD hdFa hdFn K, exB K, fnAt K (prG K))
def valK : AlK := (He.valD hdFn, true, prV)
structure SaysK (K : PySem.W.Frag) : Prop where
  c1 : He.SaysD hdFa hdFn K
  c2 : exB K = true
  c3 : fnAt K (prG K) = prV
/-- what the module's names reach in n steps; no look for doubles (He.asD's costs 3 GB in the kernel here) -/
def lev (g : Addr → Option Obj) : Nat → List Addr → List Addr
  | 0, as => as
  | n + 1, as => as ++ lev g n (as.flatMap fun a => match g a with
    | some o => He.refsD o
    | none => [])
def obsKG (g : Addr → Option Obj) : AlK := obsK (He.frG g (lev g 5 [mainGlobals]))
def hdHook : PySem.W.Hook where
  α := AlK
  obs := fun s => obsKG s.heap.get?
  val := fun _ => valK
  says := fun _ h => ∃ K : PySem.W.Frag, K.In h ∧ SaysK K
  of := fun _ _ e => ⟨_, He.frG_in, congrArg (fun z : AlK => z.1) e, congrArg (fun z : AlK => z.2.1) e, congrArg (fun z : AlK => z.2.2) e⟩
  keeps := fun _ _ _ ⟨K, hK, c⟩ k => ⟨K, PySem.W.Frag.In.keeps hK k, c⟩
theorem obsKG_eq {g : Addr → Option Obj} {s : Shared} (h : ∀ a, g a = s.heap.get? a) : obsKG g = hdHook.obs s := by
  have e : g = s.heap.get? := funext h
  rw [e] <;> rfl
end K71
end
section
set_option maxHeartbeats 0
namespace K71
open PySem PySem.W PySem.Calls PyProof.Rows HandSHeadRun L2
abbrev hdR : OpenRow := OpenLaw.row PySem.Challenge.rw_stampsheets_k71_plain_inks_whole
abbrev hdQ : Program := view hdR.prog [84]
def hdNames : List PySem.Str := ((hdR.prog.main.scope.names.map (·.1)).filter fun x => !(x == "law") && !(x == "__name__"))
def hdOb (s : PySem.W.SharedT) : AlK := obsKG (HandSHeadRun.getT s)
theorem hdOb_eq (s : PySem.W.SharedT) : hdOb s = hdHook.obs s.abs := obsKG_eq (HandSHeadRun.getT_eq s)
theorem hdRun (w : World) : HandSHeadRun.RunEq hdR hdQ hdHook hdOb 20000 hdNames w := by
  intro os
  kernel_rfl
end K71
end
section
/-! KD: a data layer over the readings. A slot holds a kind; an expression under slots gives a kind. -/
namespace KD
open PySem PySem.Spec PyProof.Rows L2

/-! ### growing heaps -/
/-- S: what stands still (no list that is still filled); H: all that is tracked -/
structure Grow (S H S' H' : Hp) : Prop where
  s : Same S S'
  h : Same H H'
  sh : Same S' H'
  nw : ∀ a, S a = none → H a ≠ none → S' a = none
theorem Grow.refl {S H : Hp} (e : Same S H) : Grow S H S H := ⟨Same.refl _, Same.refl _, e, fun _ h _ => h⟩
theorem Grow.trans {S H S1 H1 S2 H2 : Hp} (a : Grow S H S1 H1) (b : Grow S1 H1 S2 H2) : Grow S H S2 H2 :=
  ⟨a.s.trans b.s, a.h.trans b.h, b.sh, fun x h1 h2 => b.nw x (a.nw x h1 h2) fun h3 => by
    cases e : H x with
    | none => exact h2 e
    | some o => rw [a.h x o e] at h3; cases h3⟩
theorem same_none {S H : Hp} (e : Same S H) {p : Addr} (h : H p = none) : S p = none := by
  cases q : S p with
  | none => rfl
  | some o => rw [e p o q] at h; cases h
theorem Same.upd2 {S H : Hp} (e : Same S H) (p : Addr) (o : HO) : Same (upd S p o) (upd H p o) := fun b x h => by
  by_cases hb : b = p
  · subst hb; rw [upd_same] at h ⊢; exact h
  · rw [upd_ne hb] at h ⊢; exact e b x h
theorem Same.new {H : Hp} {p : Addr} {o : HO} (h : H p = none) : Same H (upd H p o) := fun b x e => by
  rw [upd_ne (ne_of_none e h)]; exact e
/-- a new object -/
theorem Grow.new {S H : Hp} (e : Same S H) {p : Addr} (o : HO) (h : H p = none) : Grow S H (upd S p o) (upd H p o) :=
  ⟨Same.new (same_none e h), Same.new h, Same.upd2 e p o, fun a h1 h2 => by
    rw [upd_ne (fun q => h2 (by rw [q]; exact h))]; exact h1⟩
/-- a new object that is not held (an iterator's pair that nobody keeps) -/
theorem Grow.drop {S H : Hp} (e : Same S H) {p : Addr} (o : HO) (h : H p = none) : Grow S H S (upd H p o) :=
  ⟨Same.refl _, Same.new h, e.trans (Same.new h), fun a h1 _ => h1⟩

/-! ### kinds -/
structure Kd where
  p : Hp → V → Prop
  mono : ∀ {S S' : Hp} {v : V}, Same S S' → p S v → p S' v
theorem same_rd {H H' : Hp} {a : Addr} {u : HO} (e : Same H H') (h : Rd H a u) : Rd H' a u := by
  rcases h with h | ⟨o, h⟩
  · exact .inl (e a _ h)
  · exact .inr ⟨o, e a _ h⟩
theorem same_l {K : PySem.W.Frag} {H H' : Hp} {a : Addr} {xs : List V} (e : Same H H') (h : SqL K H a xs) : SqL K H' a xs := by
  rcases h with h | h
  · exact .inl (same_rd e h)
  · exact .inr h
theorem same_t {K : PySem.W.Frag} {H H' : Hp} {a : Addr} {xs : List V} (e : Same H H') (h : SqT K H a xs) : SqT K H' a xs := by
  rcases h with h | h
  · exact .inl (same_rd e h)
  · exact .inr h
mutual
/-- a value that is this data: lists that are tracked (or known), tuples of any kind -/
inductive Dq (K : PySem.W.Frag) (H : Hp) : V → PyData → Prop
  | non : Dq K H .non .none
  | bl (b : Bool) : Dq K H (.bl b) (.bool b)
  | int (i : Int) : Dq K H (.int i) (.int i)
  | str (x : Str) : Dq K H (.str x) (.str x)
  | lst {a : Addr} {xs : List V} {ds : List PyData} : Rd H a (.lst xs) → DqAll K H xs ds → Dq K H (.ref a) (.list ds)
  | tup {a : Addr} {xs : List V} {ds : List PyData} : SqT K H a xs → DqAll K H xs ds → Dq K H (.ref a) (.tuple ds)
inductive DqAll (K : PySem.W.Frag) (H : Hp) : List V → List PyData → Prop
  | nil : DqAll K H [] []
  | cons {v : V} {vs : List V} {d : PyData} {ds : List PyData} : Dq K H v d → DqAll K H vs ds → DqAll K H (v :: vs) (d :: ds)
end
mutual
theorem Dq.dp {K : PySem.W.Frag} {H : Hp} : ∀ {v : V} {d : PyData}, Dq K H v d → Dp K H v d
  | _, _, .non => .non
  | _, _, .bl b => .bl b
  | _, _, .int i => .int i
  | _, _, .str x => .str x
  | _, _, .lst h t => .lst (.inl h) (DqAll.dp t)
  | _, _, .tup h t => .tup h (DqAll.dp t)
theorem DqAll.dp {K : PySem.W.Frag} {H : Hp} : ∀ {vs : List V} {ds : List PyData}, DqAll K H vs ds → DpAll K H vs ds
  | _, _, .nil => .nil
  | _, _, .cons h t => .cons (Dq.dp h) (DqAll.dp t)
end
mutual
theorem dp_mono {K : PySem.W.Frag} {H H' : Hp} (e : Same H H') : ∀ {v : V} {d : PyData}, Dq K H v d → Dq K H' v d
  | _, _, .non => .non
  | _, _, .bl b => .bl b
  | _, _, .int i => .int i
  | _, _, .str x => .str x
  | _, _, .lst h t => .lst (same_rd e h) (dpAll_mono e t)
  | _, _, .tup h t => .tup (same_t e h) (dpAll_mono e t)
theorem dpAll_mono {K : PySem.W.Frag} {H H' : Hp} (e : Same H H') : ∀ {vs : List V} {ds : List PyData}, DqAll K H vs ds → DqAll K H' vs ds
  | _, _, .nil => .nil
  | _, _, .cons h t => .cons (dp_mono e h) (dpAll_mono e t)
end
theorem dpAll_len {K : PySem.W.Frag} {H : Hp} : ∀ {vs : List V} {ds : List PyData}, DqAll K H vs ds → vs.length = ds.length
  | _, _, .nil => rfl
  | _, _, .cons _ t => congrArg (· + 1) (dpAll_len t)
theorem dpAll_get {K : PySem.W.Frag} {H : Hp} : ∀ {vs : List V} {ds : List PyData} {i : Nat} {d : PyData}, DqAll K H vs ds → ds[i]? = some d → ∃ v, vs[i]? = some v ∧ Dq K H v d
  | _, _, i, _, .nil, h => by simp at h
  | _, _, 0, _, .cons a t, h => by
    have e := Option.some.inj h
    subst e
    exact ⟨_, rfl, a⟩
  | _, _, i + 1, _, .cons a t, h => by
    obtain ⟨v, h1, h2⟩ := dpAll_get (i := i) t (by simpa using h)
    exact ⟨v, by simpa using h1, h2⟩
theorem dpAll_app {K : PySem.W.Frag} {H : Hp} : ∀ {vs ws : List V} {ds es : List PyData}, DqAll K H vs ds → DqAll K H ws es → DqAll K H (vs ++ ws) (ds ++ es)
  | _, _, _, _, .nil, h => h
  | _, _, _, _, .cons a t, h => .cons a (dpAll_app t h)
theorem dpAll_take {K : PySem.W.Frag} {H : Hp} : ∀ (n : Nat) {vs : List V} {ds : List PyData}, DqAll K H vs ds → DqAll K H (vs.take n) (ds.take n)
  | 0, _, _, _ => .nil
  | n + 1, _, _, .nil => .nil
  | n + 1, _, _, .cons a t => .cons a (dpAll_take n t)
theorem dpAll_drop {K : PySem.W.Frag} {H : Hp} : ∀ (n : Nat) {vs : List V} {ds : List PyData}, DqAll K H vs ds → DqAll K H (vs.drop n) (ds.drop n)
  | 0, _, _, h => h
  | n + 1, _, _, .nil => .nil
  | n + 1, _, _, .cons a t => dpAll_drop n t
theorem dpAll_set {K : PySem.W.Frag} {H : Hp} {v : V} {d : PyData} (h : Dq K H v d) : ∀ (i : Nat) {vs : List V} {ds : List PyData}, DqAll K H vs ds → DqAll K H (vs.set i v) (ds.set i d)
  | _, _, _, .nil => .nil
  | 0, _, _, .cons a t => .cons h t
  | i + 1, _, _, .cons a t => .cons a (dpAll_set h i t)
theorem dpAll_rep {K : PySem.W.Frag} {H : Hp} {vs : List V} {ds : List PyData} (h : DqAll K H vs ds) : ∀ n : Nat, DqAll K H (List.replicate n vs).flatten (List.replicate n ds).flatten
  | 0 => .nil
  | n + 1 => by
    rw [List.replicate_succ, List.replicate_succ]
    exact dpAll_app h (dpAll_rep h n)
theorem dpAll_ints {K : PySem.W.Frag} {H : Hp} : ∀ {ns : List Int} {vs : List V}, DqAll K H vs (ns.map PyData.int) → vs = ns.map V.int
  | [], _, .nil => rfl
  | n :: r, _, .cons a t => by
    cases a
    exact congrArg _ (dpAll_ints t)
theorem dpAll_of_ints {K : PySem.W.Frag} {H : Hp} : ∀ ns : List Int, DqAll K H (ns.map V.int) (ns.map PyData.int)
  | [] => .nil
  | n :: r => .cons (.int n) (dpAll_of_ints r)
theorem dpAll_strs {K : PySem.W.Frag} {H : Hp} : ∀ {ns : List Str} {vs : List V}, DqAll K H vs (ns.map PyData.str) → vs = ns.map V.str
  | [], _, .nil => rfl
  | n :: r, _, .cons a t => by
    cases a
    exact congrArg _ (dpAll_strs t)
/-- data -/
def dt (K : PySem.W.Frag) (d : PyData) : Kd := ⟨fun S v => Dq K S v d, fun e h => dp_mono e h⟩
/-- a value as it is (a class, a type) -/
def vk (v : V) : Kd := ⟨fun _ u => u = v, fun _ h => h⟩
abbrev kI (K : PySem.W.Frag) (i : Int) : Kd := dt K (.int i)
abbrev kS (K : PySem.W.Frag) (x : Str) : Kd := dt K (.str x)
abbrev kB (K : PySem.W.Frag) (b : Bool) : Kd := dt K (.bool b)
abbrev kN (K : PySem.W.Frag) : Kd := dt K .none
abbrev kL (K : PySem.W.Frag) (ds : List PyData) : Kd := dt K (.list ds)
abbrev kT (K : PySem.W.Frag) (ds : List PyData) : Kd := dt K (.tuple ds)
section
variable {K : PySem.W.Frag} {S : Hp} {v : V}
theorem dp_int {i : Int} (h : Dq K S v (.int i)) : v = .int i := by cases h; rfl
theorem dp_str {x : Str} (h : Dq K S v (.str x)) : v = .str x := by cases h; rfl
theorem dp_bl {b : Bool} (h : Dq K S v (.bool b)) : v = .bl b := by cases h; rfl
theorem dp_non (h : Dq K S v .none) : v = .non := by cases h; rfl
theorem dp_list {ds : List PyData} (h : Dq K S v (.list ds)) : ∃ a xs, v = .ref a ∧ Rd S a (.lst xs) ∧ DqAll K S xs ds := by cases h; exact ⟨_, _, rfl, ‹_›, ‹_›⟩
theorem dp_tup {ds : List PyData} (h : Dq K S v (.tuple ds)) : ∃ a xs, v = .ref a ∧ SqT K S a xs ∧ DqAll K S xs ds := by cases h; exact ⟨_, _, rfl, ‹_›, ‹_›⟩
end

/-! ### slots -/
/-- what a thing that is still changed holds -/
structure Ow where
  p : Hp → Addr → HO → Prop
  mono : ∀ {S S' : Hp} {a : Addr} {u : HO}, Same S S' → p S a u → p S' a u
/-- a list that is filled -/
def oL (K : PySem.W.Frag) (ds : List PyData) : Ow := ⟨fun S _ u => ∃ vs, u = .lst vs ∧ DqAll K S vs ds, fun e ⟨vs, h, hd⟩ => ⟨vs, h, dpAll_mono e hd⟩⟩
inductive Sl where
  | un
  | k (κ : Kd)
  | own (w : Ow)
def SlOk (K : PySem.W.Frag) (H0 S H : Hp) (o : Option (Option V)) : Sl → Prop
  | .un => True
  | .k κ => ∃ v, o = some (some v) ∧ κ.p S v
  | .own w => ∃ p u, o = some (some (.ref p)) ∧ H0 p = none ∧ S p = none ∧ H p = some u ∧ w.p S p u
structure En (K : PySem.W.Frag) (S0 H0 S H : Hp) (σ : L2.St) (ρ : List Sl) : Prop where
  g : Grow S0 H0 S H
  len : σ.length = ρ.length
  ok : ∀ (i : Nat) (sl : Sl), ρ[i]? = some sl → SlOk K H0 S H σ[i]? sl
  sep : ∀ (i j : Nat) (ds es : Ow) (p : Addr), ρ[i]? = some (.own ds) → ρ[j]? = some (.own es) → σ[i]? = some (some (.ref p)) → σ[j]? = some (some (.ref p)) → i = j
section
variable {K : PySem.W.Frag} {S0 H0 S H S' H' : Hp} {σ : L2.St} {ρ : List Sl}
theorem SlOk.grow {o : Option (Option V)} (g : Grow S H S' H') : ∀ {sl : Sl}, SlOk K H0 S H o sl → SlOk K H0 S' H' o sl
  | .un, _ => trivial
  | .k κ, ⟨v, e, h⟩ => ⟨v, e, κ.mono g.s h⟩
  | .own w, ⟨p, u, e, h0, hS, hH, hd⟩ => ⟨p, u, e, h0, g.nw p hS (by rw [hH]; exact fun z => nomatch z), g.h p _ hH, w.mono g.s hd⟩
theorem En.grow (E : En K S0 H0 S H σ ρ) (g : Grow S H S' H') : En K S0 H0 S' H' σ ρ := ⟨E.g.trans g, E.len, fun i sl h => (E.ok i sl h).grow g, E.sep⟩
theorem En.same (E : En K S0 H0 S H σ ρ) : Same S H := E.g.sh
theorem En.var (E : En K S0 H0 S H σ ρ) {i : Nat} {κ : Kd} (h : ρ[i]? = some (.k κ)) : ∃ v, σ[i]? = some (some v) ∧ κ.p S v := E.ok i _ h
/-- a slot is written with a kind -/
theorem En.set (E : En K S0 H0 S H σ ρ) (i : Nat) {v : V} {κ : Kd} (h : κ.p S v) : En K S0 H0 S H (σ.set i (some v)) (ρ.set i (.k κ)) := by
  refine ⟨E.g, by rw [List.length_set, List.length_set, E.len], fun j sl hj => ?_, fun a b ds es p ha hb sa sb => ?_⟩
  · by_cases e : i = j
    · subst e
      have hl : i < ρ.length := by
        have := (List.getElem?_eq_some_iff.mp hj).1
        rwa [List.length_set] at this
      rw [List.getElem?_set_self hl] at hj
      cases hj
      exact ⟨v, List.getElem?_set_self (by rw [E.len]; exact hl), h⟩
    · rw [List.getElem?_set_ne e] at hj ⊢
      exact E.ok j sl hj
  · have na : i ≠ a := fun e => by
      subst e
      have hl := (List.getElem?_eq_some_iff.mp ha).1
      rw [List.length_set] at hl
      rw [List.getElem?_set_self hl] at ha
      cases ha
    have nb : i ≠ b := fun e => by
      subst e
      have hl := (List.getElem?_eq_some_iff.mp hb).1
      rw [List.length_set] at hl
      rw [List.getElem?_set_self hl] at hb
      cases hb
    rw [List.getElem?_set_ne na] at ha sa
    rw [List.getElem?_set_ne nb] at hb sb
    exact E.sep a b ds es p ha hb sa sb
/-- less is known of some slots -/
def Le (ρ' ρ : List Sl) : Prop := ρ'.length = ρ.length ∧ ∀ (i : Nat) (sl : Sl), ρ'[i]? = some sl → sl = Sl.un ∨ ρ[i]? = some sl
theorem Le.refl (ρ : List Sl) : Le ρ ρ := ⟨rfl, fun _ _ h => .inr h⟩
theorem Le.nil : Le [] [] := Le.refl _
theorem Le.keep {s : Sl} {a b : List Sl} (h : Le a b) : Le (s :: a) (s :: b) := ⟨by rw [List.length_cons, List.length_cons, h.1], fun i sl e => by
  cases i with
  | zero => exact .inr e
  | succ i => exact h.2 i sl (by simpa using e)⟩
theorem Le.drop {s : Sl} {a b : List Sl} (h : Le a b) : Le (.un :: a) (s :: b) := ⟨by rw [List.length_cons, List.length_cons, h.1], fun i sl e => by
  cases i with
  | zero => exact .inl (Option.some.inj e).symm
  | succ i => exact h.2 i sl (by simpa using e)⟩
theorem En.weak {ρ' : List Sl} (E : En K S0 H0 S H σ ρ) (h : Le ρ' ρ) : En K S0 H0 S H σ ρ' := ⟨E.g, E.len.trans h.1.symm, fun i sl e => by
  rcases h.2 i sl e with z | z
  · subst z; trivial
  · exact E.ok i sl z, fun i j ds es p hi hj => by
  rcases h.2 i _ hi with z | z
  · cases z
  · rcases h.2 j _ hj with y | y
    · cases y
    · exact E.sep i j ds es p z y⟩
/-- the filled list stands still from here on -/
theorem En.freeze (E : En K S0 H0 S H σ ρ) {i : Nat} {w : Ow} {κ : Kd} (h : ρ[i]? = some (.own w)) (hκ : ∀ S p u, w.p S p u → S p = some u → κ.p S (.ref p)) : ∃ S', Same S S' ∧ En K S0 H0 S' H σ (ρ.set i (.k κ)) := by
  obtain ⟨p, u, e, h0, hS, hH, hd⟩ := E.ok i _ h
  have g : Same S (upd S p u) := Same.new hS
  have hi : i < ρ.length := (List.getElem?_eq_some_iff.mp h).1
  refine ⟨upd S p u, g, ⟨E.g.s.trans g, E.g.h, fun b o q => ?_, fun a h1 h2 => ?_⟩, by rw [List.length_set]; exact E.len, fun j sl hj => ?_, fun a b as bs q ha hb sa sb => ?_⟩
  · by_cases hb : b = p
    · subst hb; rw [upd_same] at q; cases q; exact hH
    · rw [upd_ne hb] at q; exact E.g.sh b o q
  · have ne : a ≠ p := fun z => by subst z; exact h2 h0
    rw [upd_ne ne]; exact E.g.nw a h1 h2
  · by_cases ij : i = j
    · subst ij
      rw [List.getElem?_set_self hi] at hj
      cases hj
      exact ⟨.ref p, e, hκ _ p u (w.mono g hd) upd_same⟩
    · rw [List.getElem?_set_ne ij] at hj
      have z := E.ok j sl hj
      cases sl with
      | un => trivial
      | k κ => obtain ⟨v, a, b⟩ := z; exact ⟨v, a, κ.mono g b⟩
      | own es =>
        obtain ⟨q, ws, a, b0, bS, bH, bd⟩ := z
        have nq : q ≠ p := fun z => by
          subst z
          exact ij (E.sep i j w es q h hj e a)
        exact ⟨q, ws, a, b0, by rw [upd_ne nq]; exact bS, bH, es.mono g bd⟩
  · have nx : ∀ {c : Nat} {cs : Ow}, (ρ.set i (.k κ))[c]? = some (.own cs) → ρ[c]? = some (.own cs) := fun {c cs} hc => by
      by_cases ic : i = c
      · subst ic; rw [List.getElem?_set_self hi] at hc; cases hc
      · rwa [List.getElem?_set_ne ic] at hc
    exact E.sep a b as bs q (nx ha) (nx hb) sa sb
/-- a new empty list, to be filled -/
theorem En.fresh (E : En K S0 H0 S H σ ρ) {i : Nat} (hi : i < ρ.length) {p : Addr} {u : HO} {w : Ow} (hp : H p = none) (hd : w.p S p u) :
    En K S0 H0 S (upd H p u) (σ.set i (some (.ref p))) (ρ.set i (.own w)) := by
  have g : Grow S H S (upd H p u) := Grow.drop E.same _ hp
  refine ⟨E.g.trans g, by rw [List.length_set, List.length_set, E.len], fun j sl hj => ?_, fun a b as bs q ha hb sa sb => ?_⟩
  · by_cases ij : i = j
    · subst ij
      rw [List.getElem?_set_self hi] at hj
      cases hj
      exact ⟨p, u, List.getElem?_set_self (by rw [E.len]; exact hi), same_none E.g.h hp, same_none E.same hp, upd_same, hd⟩
    · rw [List.getElem?_set_ne ij] at hj ⊢
      exact (E.ok j sl hj).grow g
  · have old : ∀ {c : Nat} {cs : Ow}, i ≠ c → (ρ.set i (.own w))[c]? = some (.own cs) → ∀ q, (σ.set i (some (.ref p)))[c]? = some (some (.ref q)) → ρ[c]? = some (.own cs) ∧ σ[c]? = some (some (.ref q)) ∧ q ≠ p := fun {c cs} ic hc q sc => by
      rw [List.getElem?_set_ne ic] at hc sc
      obtain ⟨q', _, e, _, _, hH, _⟩ := E.ok c _ hc
      rw [sc] at e
      cases e
      exact ⟨hc, sc, fun z => by subst z; rw [hp] at hH; cases hH⟩
    by_cases ia : i = a
    · subst ia
      by_cases ib : i = b
      · exact ib
      · obtain ⟨_, _, nq⟩ := old ib hb q sb
        rw [List.getElem?_set_self (by rw [E.len]; exact hi)] at sa
        cases sa
        exact absurd rfl nq
    · obtain ⟨a1, a2, na⟩ := old ia ha q sa
      by_cases ib : i = b
      · subst ib
        rw [List.getElem?_set_self (by rw [E.len]; exact hi)] at sb
        cases sb
        exact absurd rfl na
      · obtain ⟨b1, b2, _⟩ := old ib hb q sb
        exact E.sep a b as bs q a1 b1 a2 b2
/-- the filled list is written -/
theorem En.write (E : En K S0 H0 S H σ ρ) {i : Nat} {w w' : Ow} {p : Addr} {u : HO} (h : ρ[i]? = some (.own w)) (hp : σ[i]? = some (some (.ref p))) (hd : w'.p S p u) :
    En K S0 H0 S (upd H p u) σ (ρ.set i (.own w')) := by
  obtain ⟨p', vs, e, h0, hS, hH, _⟩ := E.ok i _ h
  rw [hp] at e
  cases e
  have hi : i < ρ.length := (List.getElem?_eq_some_iff.mp h).1
  refine ⟨⟨E.g.s, fun b o q => ?_, fun b o q => ?_, E.g.nw⟩, by rw [List.length_set, E.len], fun j sl hj => ?_, fun a b as bs q ha hb sa sb => ?_⟩
  · rw [upd_ne (ne_of_none q h0)]; exact E.g.h b o q
  · rw [upd_ne (ne_of_none q hS)]; exact E.g.sh b o q
  · by_cases ij : i = j
    · subst ij
      rw [List.getElem?_set_self hi] at hj
      cases hj
      exact ⟨p, u, hp, h0, hS, upd_same, hd⟩
    · rw [List.getElem?_set_ne ij] at hj
      have z := E.ok j sl hj
      cases sl with
      | un => trivial
      | k κ => exact z
      | own cs =>
        obtain ⟨q, us, a, b0, bS, bH, bd⟩ := z
        have nq : q ≠ p := fun z => by
          subst z
          exact ij (E.sep i j w cs q h hj hp a)
        exact ⟨q, us, a, b0, bS, by rw [upd_ne nq]; exact bH, bd⟩
  · have nx : ∀ {c : Nat} {cs : Ow}, (ρ.set i (.own w'))[c]? = some (.own cs) → ∃ cs', ρ[c]? = some (.own cs') := fun {c cs} hc => by
      by_cases ic : i = c
      · subst ic; exact ⟨_, h⟩
      · rw [List.getElem?_set_ne ic] at hc; exact ⟨_, hc⟩
    obtain ⟨_, a1⟩ := nx ha
    obtain ⟨_, b1⟩ := nx hb
    exact E.sep a b _ _ q a1 b1 sa sb
end
end KD
end
section
namespace KD
open PySem PySem.Spec PyProof.Rows L2

/-! ### the judgements -/
def rdE (K : PySem.W.Frag) (ρ : List Sl) (κ : Kd) : TE := fun σ H Q => ∃ S0 H0 S, En K S0 H0 S H σ ρ ∧ ∀ v S' H', Grow S H S' H' → κ.p S' v → Q v H'
def EK (X : Cx) (e : Expr) (ρ : List Sl) (κ : Kd) : Prop := PE X e (rdE X.K ρ κ)
def rdT (K : PySem.W.Frag) (ρ : List Sl) (b : Bool) : TT := fun σ H Q => ∃ S0 H0 S, En K S0 H0 S H σ ρ ∧ ∀ S' H', Grow S H S' H' → Q b H'
def TK (X : Cx) (e : Expr) (ρ : List Sl) (b : Bool) : Prop := PT X e (rdT X.K ρ b)
def WK (X : Cx) (e : Expr) (ρ : List Sl) (b : Bool) : Prop := PW X e (rdT X.K ρ b)
def AllK (S : Hp) : List Kd → List V → Prop
  | [], [] => True
  | κ :: κs, v :: vs => κ.p S v ∧ AllK S κs vs
  | _, _ => False
theorem AllK.mono {S S' : Hp} (e : Same S S') : ∀ {κs : List Kd} {vs : List V}, AllK S κs vs → AllK S' κs vs
  | [], [], _ => trivial
  | κ :: _, _ :: _, ⟨a, b⟩ => ⟨κ.mono e a, AllK.mono e b⟩
  | [], _ :: _, h => h.elim
  | _ :: _, [], h => h.elim
theorem AllK.len {S : Hp} : ∀ {κs : List Kd} {vs : List V}, AllK S κs vs → vs.length = κs.length
  | [], [], _ => rfl
  | _ :: _, _ :: _, ⟨_, b⟩ => congrArg (· + 1) (AllK.len b)
  | [], _ :: _, h => h.elim
  | _ :: _, [], h => h.elim
theorem AllK.data {K : PySem.W.Frag} {S : Hp} : ∀ {ds : List PyData} {vs : List V}, AllK S (ds.map (dt K)) vs → DqAll K S vs ds
  | [], [], _ => .nil
  | _ :: _, _ :: _, ⟨a, b⟩ => .cons a (AllK.data b)
  | [], _ :: _, h => h.elim
  | _ :: _, [], h => h.elim
def rdA (K : PySem.W.Frag) (ρ : List Sl) (κs : List Kd) : TA := fun σ H Q => ∃ S0 H0 S, En K S0 H0 S H σ ρ ∧ ∀ vs S' H', Grow S H S' H' → AllK S' κs vs → Q vs H'
def AK (X : Cx) (es : List Expr) (ρ : List Sl) (κs : List Kd) : Prop := PA X es (rdA X.K ρ κs)

section
variable {X : Cx} {e a b c : Expr} {ρ : List Sl} {κ κa κb κc : Kd} {pos : Pos}
theorem PE.imp {t t' : TE} (h : PE X e t) (i : ∀ σ H Q, t' σ H Q → t σ H Q) : PE X e t' := ⟨fun pins s σ H Q I q => h.run pins s σ H Q I (i σ H Q q)⟩
theorem PT.imp {t t' : TT} (h : PT X e t) (i : ∀ σ H Q, t' σ H Q → t σ H Q) : PT X e t' := ⟨fun pins s σ H Q I q => h.run pins s σ H Q I (i σ H Q q)⟩
theorem PW.imp {t t' : TT} (h : PW X e t) (i : ∀ σ H Q, t' σ H Q → t σ H Q) : PW X e t' := ⟨fun wh pins s σ H Q I q => h.run wh pins s σ H Q I (i σ H Q q)⟩
theorem PA.imp {es : List Expr} {t t' : TA} (h : PA X es t) (i : ∀ σ H Q, t' σ H Q → t σ H Q) : PA X es t' := ⟨fun p pins s σ H Q I q => h.run p pins s σ H Q I (i σ H Q q)⟩
theorem EK.of {t : TE} (h : PE X e t) (ht : ∀ S0 H0 S H σ (Q : VK), En X.K S0 H0 S H σ ρ → (∀ v S' H', Grow S H S' H' → κ.p S' v → Q v H') → t σ H Q) : EK X e ρ κ :=
  PE.imp h fun σ H Q ⟨S0, H0, S, E, q⟩ => ht S0 H0 S H σ Q E q
theorem ek_run {K : PySem.W.Frag} {S0 H0 S H : Hp} {σ : L2.St} {Q : VK} (E : En K S0 H0 S H σ ρ) (f : ∀ v S' H', Grow S H S' H' → En K S0 H0 S' H' σ ρ → κ.p S' v → Q v H') : rdE K ρ κ σ H Q :=
  ⟨S0, H0, S, E, fun v S' H' g h => f v S' H' g (E.grow g) h⟩
theorem tk_run {K : PySem.W.Frag} {S0 H0 S H : Hp} {σ : L2.St} {b : Bool} {Q : Bool → Hp → Prop} (E : En K S0 H0 S H σ ρ) (f : ∀ S' H', Grow S H S' H' → En K S0 H0 S' H' σ ρ → Q b H') : rdT K ρ b σ H Q :=
  ⟨S0, H0, S, E, fun S' H' g => f S' H' g (E.grow g)⟩
theorem ak_run {K : PySem.W.Frag} {S0 H0 S H : Hp} {σ : L2.St} {κs : List Kd} {Q : List V → Hp → Prop} (E : En K S0 H0 S H σ ρ) (f : ∀ vs S' H', Grow S H S' H' → En K S0 H0 S' H' σ ρ → AllK S' κs vs → Q vs H') : rdA K ρ κs σ H Q :=
  ⟨S0, H0, S, E, fun v S' H' g h => f v S' H' g (E.grow g) h⟩
theorem EK.sub (h : EK X e ρ κ) (i : ∀ S v, κ.p S v → κa.p S v) : EK X e ρ κa := PE.imp h fun σ H Q ⟨S0, H0, S, E, q⟩ => ⟨S0, H0, S, E, fun v S' H' g hv => q v S' H' g (i S' v hv)⟩
theorem EK.to {d d' : PyData} (h : EK X e ρ (dt X.K d)) (i : d = d') : EK X e ρ (dt X.K d') := i ▸ h
theorem TK.to {b b' : Bool} (h : TK X e ρ b) (i : b = b') : TK X e ρ b' := i ▸ h

/-! ### names, constants -/
theorem ek_var (i : Nat) {x : Str} (hN : X.N[i]? = some x := by rfl) (hρ : ρ[i]? = some (.k κ) := by rfl) (hv : Vis X.env.scope x := by first | exact Or.inl rfl | exact Or.inr (Or.inl rfl) | exact Or.inr (Or.inr rfl)) (hd : (x == ("__debug__" : Str)) = false := by decide)
    (hcd : (x == ("__classdict__" : Str)) = false := by decide) : EK X (.Name x pos) ρ κ :=
  EK.of (pe_var hN hv hd hcd) fun S0 H0 S H σ Q E q => by
    obtain ⟨v, h1, h2⟩ := E.var hρ
    exact ⟨v, h1, q v S H (Grow.refl E.same) h2⟩
theorem ek_c {v : V} (h : PE X e (tC v)) (hk : ∀ S, κ.p S v) : EK X e ρ κ := EK.of h fun S0 H0 S H σ Q E q => q v S H (Grow.refl E.same) (hk S)
theorem ek_int {i j} : EK X (.Constant (.int i) j pos) ρ (kI X.K i) := ek_c pe_int fun _ => .int i
theorem ek_bl {i j} : EK X (.Constant (.bool i) j pos) ρ (kB X.K i) := ek_c pe_bl fun _ => .bl i
theorem ek_non {j} : EK X (.Constant .none j pos) ρ (kN X.K) := ek_c pe_non fun _ => .non
theorem ek_str {i j} : EK X (.Constant (.str i) j pos) ρ (kS X.K i) := ek_c pe_str fun _ => .str i
theorem ek_glob {x : Str} {v : V} {u : Value} (hm : X.mg x = some u) (r : RelV v u) (hk : ∀ S, κ.p S v) (hg : Gl X x := by rfl) (hd : (x == ("__debug__" : Str)) = false := by decide) : EK X (.Name x pos) ρ κ := ek_c (pe_glob hg hm r hd) hk
theorem ek_gint {x : Str} {i : Int} {t : Tok} (hm : X.mg x = some (.int i t)) (hg : Gl X x := by rfl) (hd : (x == ("__debug__" : Str)) = false := by decide) : EK X (.Name x pos) ρ (kI X.K i) := ek_glob hm ⟨t, rfl⟩ (v := .int i) (fun _ => .int i) hg hd
theorem ek_gstr {x : Str} {i : Str} {t : Tok} (hm : X.mg x = some (.str i t)) (hg : Gl X x := by rfl) (hd : (x == ("__debug__" : Str)) = false := by decide) : EK X (.Name x pos) ρ (kS X.K i) := ek_glob hm ⟨t, rfl⟩ (v := .str i) (fun _ => .str i) hg hd
theorem ek_cls {x : Str} {C : Addr} (hm : X.mg x = some (.ref C)) (hg : Gl X x := by rfl) (hd : (x == ("__debug__" : Str)) = false := by decide) : EK X (.Name x pos) ρ (vk (.ref C)) := ek_glob hm (v := .ref C) rfl (fun _ => rfl) hg hd
theorem ek_ty {x : Str} {T : String} (hm : X.mg x = none) (hv : bootBuiltins x = some (.type T)) (hg : Gl X x := by rfl) (hn : x ≠ "__name__" := by decide) (hd : (x == ("__debug__" : Str)) = false := by decide) : EK X (.Name x pos) ρ (vk (.ty T)) :=
  ek_c (pe_bltn hg hm hv (v := .ty T) rfl hn hd) fun _ => rfl

/-! ### two places -/
def RK (r : R2) (κa κb κ : Kd) : Prop := ∀ S H x y (Q : VK), Same S H → κa.p S x → κb.p S y → (∀ v S' H', Grow S H S' H' → κ.p S' v → Q v H') → r x y H Q
theorem ek_two {r : R2} (h : PE X e (tOp r (rdE X.K ρ κa) (rdE X.K ρ κb))) (hr : RK r κa κb κ) : EK X e ρ κ :=
  EK.of h fun S0 H0 S H σ Q E q => ek_run E fun x S1 H1 g1 E1 hx => ek_run E1 fun y S2 H2 g2 E2 hy =>
    hr S2 H2 x y Q E2.same (κa.mono g2.s hx) hy fun v S3 H3 g3 hv => q v S3 H3 ((g1.trans g2).trans g3) hv
theorem ek_op {op : Operator} {r : R2} (ho : OpR X (binaryOp op) r) (hr : RK r κa κb κ) (ha : EK X a ρ κa) (hb : EK X b ρ κb) : EK X (.BinOp a op b pos) ρ κ := ek_two (pe_op ho ha hb) hr
theorem ek_cmp {op : CmpOp} {r : R2} (ho : OpR X (compareOp op) r) (hr : RK r κa κb κ) (ha : EK X a ρ κa) (hb : EK X b ρ κb) (hm : behindInMarks op b = false) : EK X (.Compare a [op] [b] pos) ρ κ := ek_two (pe_cmpR ho ha hb hm) hr
theorem rk_pure {r : R2} (h : ∀ S H x y (Q : VK), Same S H → κa.p S x → κb.p S y → (∀ v, κ.p S v → Q v H) → r x y H Q) : RK r κa κb κ := fun S H x y Q s hx hy q => h S H x y Q s hx hy fun v hv => q v S H (Grow.refl s) hv
theorem rk_I0 {K : PySem.W.Frag} {f : Int → Int → Int} {i j : Int} : RK (rI0 fun i j => .int (f i j)) (kI K i) (kI K j) (kI K (f i j)) := rk_pure fun S H x y Q s hx hy q => ⟨i, j, dp_int hx, dp_int hy, q _ (.int _)⟩
theorem rk_I {K : PySem.W.Frag} {C : Int → Int → Prop} {f : Int → Int → Int} {i j : Int} (h : C i j) : RK (rI C fun i j => .int (f i j)) (kI K i) (kI K j) (kI K (f i j)) := rk_pure fun S H x y Q s hx hy q => ⟨i, j, dp_int hx, dp_int hy, h, q _ (.int _)⟩
theorem rk_B0 {K : PySem.W.Frag} {f : Int → Int → Bool} {i j : Int} : RK (rI0 fun i j => .bl (f i j)) (kI K i) (kI K j) (kB K (f i j)) := rk_pure fun S H x y Q s hx hy q => ⟨i, j, dp_int hx, dp_int hy, q _ (.bl _)⟩
variable {i j : Int} {x y : Str} {k l : Bool} {ds es : List PyData} {d d' : PyData}
theorem ek_add (ha : EK X a ρ (kI X.K i)) (hb : EK X b ρ (kI X.K j)) : EK X (.BinOp a .Add b pos) ρ (kI X.K (i + j)) := ek_op op_add rk_I0 ha hb
theorem ek_sub (ha : EK X a ρ (kI X.K i)) (hb : EK X b ρ (kI X.K j)) : EK X (.BinOp a .Sub b pos) ρ (kI X.K (i - j)) := ek_op op_sub rk_I0 ha hb
theorem ek_mul (ha : EK X a ρ (kI X.K i)) (hb : EK X b ρ (kI X.K j)) (h : CMul i j) : EK X (.BinOp a .Mult b pos) ρ (kI X.K (i * j)) := ek_op op_mul (rk_I h) ha hb
theorem ek_fdiv (ha : EK X a ρ (kI X.K i)) (hb : EK X b ρ (kI X.K j)) (h : CDiv j j) : EK X (.BinOp a .FloorDiv b pos) ρ (kI X.K (i / j)) := ek_op op_fdiv (rk_I h) ha hb
theorem ek_mod (ha : EK X a ρ (kI X.K i)) (hb : EK X b ρ (kI X.K j)) (h : 0 < j) : EK X (.BinOp a .Mod b pos) ρ (kI X.K (i % j)) := ek_op op_mod (rk_I h) ha hb
theorem ek_pow (ha : EK X a ρ (kI X.K i)) (hb : EK X b ρ (kI X.K j)) (h : CPow i j) : EK X (.BinOp a .Pow b pos) ρ (kI X.K (i ^ j.toNat)) := ek_op op_pow (rk_I h) ha hb
theorem ek_band (ha : EK X a ρ (kI X.K i)) (hb : EK X b ρ (kI X.K j)) : EK X (.BinOp a .BitAnd b pos) ρ (kI X.K (Builtin.bitAnd i j)) := ek_op op_and rk_I0 ha hb
theorem ek_adds (ha : EK X a ρ (kS X.K x)) (hb : EK X b ρ (kS X.K y)) (h : x.length + y.length ≤ 16777216) : EK X (.BinOp a .Add b pos) ρ (kS X.K (x ++ y)) :=
  ek_op op_add_str (rk_pure fun S H u v Q s hx hy q => ⟨x, y, dp_str hx, dp_str hy, by rw [sizeLine_eq]; exact h, q _ (.str _)⟩) ha hb
theorem ek_lt (ha : EK X a ρ (kI X.K i)) (hb : EK X b ρ (kI X.K j)) : EK X (.Compare a [.Lt] [b] pos) ρ (kB X.K (decide (i < j))) := ek_cmp op_lt rk_B0 ha hb (nomark _)
theorem ek_le (ha : EK X a ρ (kI X.K i)) (hb : EK X b ρ (kI X.K j)) : EK X (.Compare a [.LtE] [b] pos) ρ (kB X.K (decide (i ≤ j))) := ek_cmp op_le rk_B0 ha hb (nomark _)
theorem ek_gt (ha : EK X a ρ (kI X.K i)) (hb : EK X b ρ (kI X.K j)) : EK X (.Compare a [.Gt] [b] pos) ρ (kB X.K (decide (j < i))) := ek_cmp op_gt rk_B0 ha hb (nomark _)
theorem ek_ge (ha : EK X a ρ (kI X.K i)) (hb : EK X b ρ (kI X.K j)) : EK X (.Compare a [.GtE] [b] pos) ρ (kB X.K (decide (j ≤ i))) := ek_cmp op_ge rk_B0 ha hb (nomark _)
theorem dec_i : decide (V.int i = V.int j) = decide (i = j) := by rw [decide_eq_decide]; exact ⟨V.int.inj, congrArg _⟩
theorem dec_s : decide (V.str x = V.str y) = decide (x = y) := by rw [decide_eq_decide]; exact ⟨V.str.inj, congrArg _⟩
theorem dec_b : decide (V.bl k = V.bl l) = decide (k = l) := by rw [decide_eq_decide]; exact ⟨V.bl.inj, congrArg _⟩
theorem ek_eqI (ha : EK X a ρ (kI X.K i)) (hb : EK X b ρ (kI X.K j)) : EK X (.Compare a [.Eq] [b] pos) ρ (kB X.K (decide (i = j))) :=
  ek_cmp op_eq (rk_pure fun S H u v Q s hx hy q => by rw [dp_int hx, dp_int hy]; exact ⟨rfl, q _ (by rw [dec_i]; exact .bl _)⟩) ha hb (nomark _)
theorem ek_neI (ha : EK X a ρ (kI X.K i)) (hb : EK X b ρ (kI X.K j)) : EK X (.Compare a [.NotEq] [b] pos) ρ (kB X.K (!decide (i = j))) :=
  ek_cmp op_ne (rk_pure fun S H u v Q s hx hy q => by rw [dp_int hx, dp_int hy]; exact ⟨rfl, q _ (by rw [dec_i]; exact .bl _)⟩) ha hb (nomark _)
theorem ek_eqS (ha : EK X a ρ (kS X.K x)) (hb : EK X b ρ (kS X.K y)) : EK X (.Compare a [.Eq] [b] pos) ρ (kB X.K (decide (x = y))) :=
  ek_cmp op_eq (rk_pure fun S H u v Q s hx hy q => by rw [dp_str hx, dp_str hy]; exact ⟨rfl, q _ (by rw [dec_s]; exact .bl _)⟩) ha hb (nomark _)
theorem ek_neS (ha : EK X a ρ (kS X.K x)) (hb : EK X b ρ (kS X.K y)) : EK X (.Compare a [.NotEq] [b] pos) ρ (kB X.K (!decide (x = y))) :=
  ek_cmp op_ne (rk_pure fun S H u v Q s hx hy q => by rw [dp_str hx, dp_str hy]; exact ⟨rfl, q _ (by rw [dec_s]; exact .bl _)⟩) ha hb (nomark _)
theorem ek_eqB (ha : EK X a ρ (kB X.K k)) (hb : EK X b ρ (kB X.K l)) : EK X (.Compare a [.Eq] [b] pos) ρ (kB X.K (decide (k = l))) :=
  ek_cmp op_eq (rk_pure fun S H u v Q s hx hy q => by rw [dp_bl hx, dp_bl hy]; exact ⟨rfl, q _ (by rw [dec_b]; exact .bl _)⟩) ha hb (nomark _)
theorem ek_neB (ha : EK X a ρ (kB X.K k)) (hb : EK X b ρ (kB X.K l)) : EK X (.Compare a [.NotEq] [b] pos) ρ (kB X.K (!decide (k = l))) :=
  ek_cmp op_ne (rk_pure fun S H u v Q s hx hy q => by rw [dp_bl hx, dp_bl hy]; exact ⟨rfl, q _ (by rw [dec_b]; exact .bl _)⟩) ha hb (nomark _)
/-- deep -/
theorem ek_eqD (hu : X.A.units + 64 < cLine) (ha : EK X a ρ (dt X.K d)) (hb : EK X b ρ (dt X.K d')) (h1 : SeqAt.shaped d = true) (h2 : SeqAt.shaped d' = true) : EK X (.Compare a [.Eq] [b] pos) ρ (kB X.K (PyData.eqv d d')) :=
  ek_cmp (op_eqD hu) (rk_pure fun S H u v Q s hx hy q => ⟨d, d', (dp_mono s hx).dp, (dp_mono s hy).dp, h1, h2, q _ (.bl _)⟩) ha hb (nomark _)
theorem ek_neD (hu : X.A.units + 64 < cLine) (ha : EK X a ρ (dt X.K d)) (hb : EK X b ρ (dt X.K d')) (h1 : SeqAt.shaped d = true) (h2 : SeqAt.shaped d' = true) : EK X (.Compare a [.NotEq] [b] pos) ρ (kB X.K (!PyData.eqv d d')) :=
  ek_cmp (op_neD hu) (rk_pure fun S H u v Q s hx hy q => ⟨d, d', (dp_mono s hx).dp, (dp_mono s hy).dp, h1, h2, q _ (.bl _)⟩) ha hb (nomark _)
/-- is None -/
def isNon : PyData → Bool
  | .none => true
  | _ => false
theorem dq_isNon {K : PySem.W.Frag} {S : Hp} {v : V} : ∀ {d : PyData}, Dq K S v d → decide (v = .non) = isNon d
  | _, .non => rfl
  | _, .bl _ => rfl
  | _, .int _ => rfl
  | _, .str _ => rfl
  | _, .lst _ _ => rfl
  | _, .tup _ _ => rfl
theorem ek_isN {j} {p : Pos} (ha : EK X a ρ (dt X.K d)) : EK X (.Compare a [.Is] [.Constant .none j p] pos) ρ (kB X.K (isNon d)) :=
  ek_cmp op_isN (rk_pure fun S H u v Q s hx hy q => ⟨dp_non hy, q _ (by rw [dq_isNon hx]; exact .bl _)⟩) ha ek_non (nomark _)
theorem ek_notN {j} {p : Pos} (ha : EK X a ρ (dt X.K d)) : EK X (.Compare a [.IsNot] [.Constant .none j p] pos) ρ (kB X.K (!isNon d)) :=
  ek_cmp op_notN (rk_pure fun S H u v Q s hx hy q => ⟨dp_non hy, q _ (by rw [dq_isNon hx]; exact .bl _)⟩) ha ek_non (nomark _)
/-- one sign in a text -/
theorem ek_in {c : Nat} (ha : EK X a ρ (kS X.K ⟨#[c]⟩)) (hb : EK X b ρ (kS X.K y)) (hm : behindInMarks .In b = false := by rfl) : EK X (.Compare a [.In] [b] pos) ρ (kB X.K (decide (c ∈ y.cps.toList))) :=
  ek_cmp op_in_sign (rk_pure fun S H u v Q s hx hy q => ⟨c, y, dp_str hx, dp_str hy, q _ (.bl _)⟩) ha hb hm
theorem ek_notIn {c : Nat} (ha : EK X a ρ (kS X.K ⟨#[c]⟩)) (hb : EK X b ρ (kS X.K y)) (hm : behindInMarks .NotIn b = false := by rfl) : EK X (.Compare a [.NotIn] [b] pos) ρ (kB X.K (!decide (c ∈ y.cps.toList))) :=
  ek_cmp op_notIn_sign (rk_pure fun S H u v Q s hx hy q => ⟨c, y, dp_str hx, dp_str hy, q _ (.bl _)⟩) ha hb hm

/-! ### tests -/
theorem TK.of {t : TT} (h : PT X e t) (ht : ∀ S0 H0 S H σ (Q : Bool → Hp → Prop), En X.K S0 H0 S H σ ρ → (∀ S' H', Grow S H S' H' → Q k H') → t σ H Q) : TK X e ρ k :=
  PT.imp h fun σ H Q ⟨S0, H0, S, E, q⟩ => ht S0 H0 S H σ Q E q
theorem tk_val (h : EK X e ρ (kB X.K k)) (he : ∀ whole, isTrue e X.env whole = (do let v ← whole; standAt e.pos; holding [v] (truthy v)) := by intro _; rfl) : TK X e ρ k :=
  TK.of (pt_val h he) fun S0 H0 S H σ Q E q => ek_run E fun v S1 H1 g E1 hv => ⟨k, dp_bl hv, q S1 H1 g⟩
theorem wk_and1 (ha : TK X a ρ k) : WK X (.BoolOp .And [a] pos) ρ k := pw_and1 ha
theorem wk_or1 (ha : TK X a ρ k) : WK X (.BoolOp .Or [a] pos) ρ k := pw_or1 ha
/-- the first is true; false -/
theorem tt_and {K : PySem.W.Frag} {ρ : List Sl} {k l : Bool} {t : TT} {σ : L2.St} {H : Hp} {Q : Bool → Hp → Prop} {S0 H0 S : Hp} (E : En K S0 H0 S H σ ρ) (ht : k = true → ∀ S' H', Grow S H S' H' → En K S0 H0 S' H' σ ρ → (∀ S2 H2, Grow S' H' S2 H2 → Q l H2) → t σ H' Q) (q : ∀ S' H', Grow S H S' H' → Q (k && l) H') : tAnd (rdT K ρ k) t σ H Q :=
  tk_run E fun S1 H1 g E1 => by
    cases k with
    | true => exact (if_pos rfl).mpr (ht rfl S1 H1 g E1 fun S2 H2 g2 => q S2 H2 (g.trans g2))
    | false => exact (if_neg Bool.false_ne_true).mpr (q S1 H1 g)
theorem tt_or {K : PySem.W.Frag} {ρ : List Sl} {k l : Bool} {t : TT} {σ : L2.St} {H : Hp} {Q : Bool → Hp → Prop} {S0 H0 S : Hp} (E : En K S0 H0 S H σ ρ) (ht : k = false → ∀ S' H', Grow S H S' H' → En K S0 H0 S' H' σ ρ → (∀ S2 H2, Grow S' H' S2 H2 → Q l H2) → t σ H' Q) (q : ∀ S' H', Grow S H S' H' → Q (k || l) H') : tOr (rdT K ρ k) t σ H Q :=
  tk_run E fun S1 H1 g E1 => by
    cases k with
    | false => exact (if_neg Bool.false_ne_true).mpr (ht rfl S1 H1 g E1 fun S2 H2 g2 => q S2 H2 (g.trans g2))
    | true => exact (if_pos rfl).mpr (q S1 H1 g)
variable {rest : List Expr}
/-- a piece of code that the proof never comes to -/
theorem pt_never : PT X e (fun _ _ _ => False) := ⟨fun _ _ _ _ _ _ h => h.elim⟩
theorem pw_never : PW X e (fun _ _ _ => False) := ⟨fun _ _ _ _ _ _ _ h => h.elim⟩
theorem pe_never : PE X e (fun _ _ _ => False) := ⟨fun _ _ _ _ _ _ h => h.elim⟩
theorem wk_and (ha : TK X a ρ k) (hb : k = true → WK X (.BoolOp .And (b :: rest) pos) ρ l) : WK X (.BoolOp .And (a :: b :: rest) pos) ρ (k && l) := by
  cases k with
  | true => exact PW.imp (pw_and ha (hb rfl)) fun σ H Q ⟨S0, H0, S, E, q⟩ => tt_and E (fun _ S1 H1 g E1 q2 => tk_run E1 fun S2 H2 g2 _ => q2 S2 H2 g2) q
  | false => exact PW.imp (pw_and ha pw_never) fun σ H Q ⟨S0, H0, S, E, q⟩ => tt_and E (fun h => nomatch h) q
theorem wk_or (ha : TK X a ρ k) (hb : k = false → WK X (.BoolOp .Or (b :: rest) pos) ρ l) : WK X (.BoolOp .Or (a :: b :: rest) pos) ρ (k || l) := by
  cases k with
  | false => exact PW.imp (pw_or ha (hb rfl)) fun σ H Q ⟨S0, H0, S, E, q⟩ => tt_or E (fun _ S1 H1 g E1 q2 => tk_run E1 fun S2 H2 g2 _ => q2 S2 H2 g2) q
  | true => exact PW.imp (pw_or ha pw_never) fun σ H Q ⟨S0, H0, S, E, q⟩ => tt_or E (fun h => nomatch h) q
theorem tk_w (h : WK X e ρ k) : TK X e ρ k := PW.pt h
theorem tk_and2 (ha : TK X a ρ k) (hb : k = true → TK X b ρ l) : TK X (.BoolOp .And [a, b] pos) ρ (k && l) := tk_w (wk_and ha fun h => wk_and1 (hb h))
theorem tk_or2 (ha : TK X a ρ k) (hb : k = false → TK X b ρ l) : TK X (.BoolOp .Or [a, b] pos) ρ (k || l) := tk_w (wk_or ha fun h => wk_or1 (hb h))
theorem tk_not (ha : TK X a ρ k) : TK X (.UnaryOp .Not a pos) ρ (!k) := TK.of (pt_not ha) fun S0 H0 S H σ Q E q => tk_run E fun S1 H1 g E1 => q S1 H1 g
/-- as values -/
theorem ek_and (ha : EK X a ρ (kB X.K k)) (hb : k = true → EK X (.BoolOp .And (b :: rest) pos) ρ (kB X.K l)) : EK X (.BoolOp .And (a :: b :: rest) pos) ρ (kB X.K (k && l)) := by
  cases k with
  | true => exact EK.of (pe_and ha (hb rfl)) fun S0 H0 S H σ Q E q => ek_run E fun v S1 H1 g E1 hv => ⟨true, dp_bl hv, (if_pos rfl).mpr (ek_run E1 fun u S2 H2 g2 _ hu => q u S2 H2 (g.trans g2) hu)⟩
  | false => exact EK.of (pe_and ha pe_never) fun S0 H0 S H σ Q E q => ek_run E fun v S1 H1 g E1 hv => ⟨false, dp_bl hv, (if_neg Bool.false_ne_true).mpr (q _ S1 H1 g (.bl _))⟩
theorem ek_or (ha : EK X a ρ (kB X.K k)) (hb : k = false → EK X (.BoolOp .Or (b :: rest) pos) ρ (kB X.K l)) : EK X (.BoolOp .Or (a :: b :: rest) pos) ρ (kB X.K (k || l)) := by
  cases k with
  | false => exact EK.of (pe_or ha (hb rfl)) fun S0 H0 S H σ Q E q => ek_run E fun v S1 H1 g E1 hv => ⟨false, dp_bl hv, (if_neg Bool.false_ne_true).mpr (ek_run E1 fun u S2 H2 g2 _ hu => q u S2 H2 (g.trans g2) hu)⟩
  | true => exact EK.of (pe_or ha pe_never) fun S0 H0 S H σ Q E q => ek_run E fun v S1 H1 g E1 hv => ⟨true, dp_bl hv, (if_pos rfl).mpr (q _ S1 H1 g (.bl _))⟩
theorem ek_one {op} (h : EK X a ρ κ) : EK X (.BoolOp op [a] pos) ρ κ := pe_one h
theorem ek_and2 (ha : EK X a ρ (kB X.K k)) (hb : k = true → EK X b ρ (kB X.K l)) : EK X (.BoolOp .And [a, b] pos) ρ (kB X.K (k && l)) := ek_and ha fun h => ek_one (hb h)
theorem ek_or2 (ha : EK X a ρ (kB X.K k)) (hb : k = false → EK X b ρ (kB X.K l)) : EK X (.BoolOp .Or [a, b] pos) ρ (kB X.K (k || l)) := ek_or ha fun h => ek_one (hb h)
theorem ek_and3 {m : Bool} (ha : EK X a ρ (kB X.K k)) (hb : k = true → EK X b ρ (kB X.K l)) (hc : k = true → l = true → EK X c ρ (kB X.K m)) : EK X (.BoolOp .And [a, b, c] pos) ρ (kB X.K (k && (l && m))) := ek_and ha fun h => ek_and (hb h) fun h2 => ek_one (hc h h2)
theorem ek_not (ha : EK X a ρ (kB X.K k)) : EK X (.UnaryOp .Not a pos) ρ (kB X.K (!k)) := EK.of (pe_not ha) fun S0 H0 S H σ Q E q => ek_run E fun v S1 H1 g E1 hv => ⟨k, dp_bl hv, q _ S1 H1 g (.bl _)⟩
theorem ek_if (hc : TK X c ρ k) (ha : k = true → EK X a ρ κ) (hb : k = false → EK X b ρ κ) : EK X (.IfExp c a b pos) ρ κ := by
  cases k with
  | true => exact EK.of (pe_ifExp hc (ha rfl) pe_never) fun S0 H0 S H σ Q E q => tk_run E fun S1 H1 g E1 => (if_pos rfl).mpr (ek_run E1 fun u S2 H2 g2 _ hu => q u S2 H2 (g.trans g2) hu)
  | false => exact EK.of (pe_ifExp hc pe_never (hb rfl)) fun S0 H0 S H σ Q E q => tk_run E fun S1 H1 g E1 => (if_neg Bool.false_ne_true).mpr (ek_run E1 fun u S2 H2 g2 _ hu => q u S2 H2 (g.trans g2) hu)
/-- a op b op c, ints -/
theorem ek_chain {op op' : CmpOp} {r r' : R2} {m : Int} (ho : OpR X (compareOp op) r) (ho' : OpR X (compareOp op') r') (hr : RK r (kI X.K i) (kI X.K j) (kB X.K k)) (hr' : RK r' (kI X.K j) (kI X.K m) (kB X.K l)) (ha : EK X a ρ (kI X.K i)) (hb : EK X b ρ (kI X.K j)) (hc : EK X c ρ (kI X.K m))
    (hm : lastMarks [op, op'] [b, c] = false := by with_unfolding_all rfl) : EK X (.Compare a [op, op'] [b, c] pos) ρ (kB X.K (k && l)) :=
  EK.of (pe_chain ho ho' ha hb hc hm) fun S0 H0 S H σ Q E q => ek_run E fun x S1 H1 g1 E1 hx => ek_run E1 fun y S2 H2 g2 E2 hy =>
    hr S2 H2 x y _ E2.same ((kI X.K i).mono g2.s hx) hy fun v S3 H3 g3 hv => ⟨k, dp_bl hv, by
      cases k with
      | true => exact (if_pos rfl).mpr (ek_run (E2.grow g3) fun z S4 H4 g4 E4 hz => hr' S4 H4 y z Q E4.same ((kI X.K j).mono (g3.trans g4).s hy) hz fun u S5 H5 g5 hu => q u S5 H5 ((((g1.trans g2).trans g3).trans g4).trans g5) hu)
      | false => exact (if_neg Bool.false_ne_true).mpr (q _ S3 H3 ((g1.trans g2).trans g3) (.bl _))⟩
theorem tk_chain {op op' : CmpOp} {r r' : R2} {m : Int} (ho : OpR X (compareOp op) r) (ho' : OpR X (compareOp op') r') (hr : RK r (kI X.K i) (kI X.K j) (kB X.K k)) (hr' : RK r' (kI X.K j) (kI X.K m) (kB X.K l)) (ha : EK X a ρ (kI X.K i)) (hb : EK X b ρ (kI X.K j)) (hc : EK X c ρ (kI X.K m))
    (hm : lastMarks [op, op'] [b, c] = false := by with_unfolding_all rfl) : TK X (.Compare a [op, op'] [b, c] pos) ρ (k && l) :=
  TK.of (pt_chain ho ho' ha hb hc hm) fun S0 H0 S H σ Q E q => ek_run E fun x S1 H1 g1 E1 hx => ek_run E1 fun y S2 H2 g2 E2 hy =>
    hr S2 H2 x y _ E2.same ((kI X.K i).mono g2.s hx) hy fun v S3 H3 g3 hv => ⟨k, dp_bl hv, by
      cases k with
      | true => exact (if_pos rfl).mpr (ek_run (E2.grow g3) fun z S4 H4 g4 E4 hz => hr' S4 H4 y z _ E4.same ((kI X.K j).mono (g3.trans g4).s hy) hz fun u S5 H5 g5 hu => ⟨l, dp_bl hu, q S5 H5 ((((g1.trans g2).trans g3).trans g4).trans g5)⟩)
      | false => exact (if_neg Bool.false_ne_true).mpr ⟨false, rfl, q S3 H3 ((g1.trans g2).trans g3)⟩⟩

/-! ### argument lists, displays -/
theorem ak_nil : AK X [] ρ [] := PA.imp pa_nil fun σ H Q ⟨S0, H0, S, E, q⟩ => q [] S H (Grow.refl E.same) trivial
theorem ak_cons {es : List Expr} {κs : List Kd} (he : EK X e ρ κ) (hr : AK X es ρ κs) (hs : starEach (e :: es) X.env = (false, eval e X.env) :: starEach es X.env := by rfl) : AK X (e :: es) ρ (κ :: κs) :=
  PA.imp (pa_cons he hr hs) fun σ H Q ⟨S0, H0, S, E, q⟩ => ek_run E fun v S1 H1 g E1 hv => ak_run E1 fun vs S2 H2 g2 _ hvs => q (v :: vs) S2 H2 (g.trans g2) ⟨κ.mono g2.s hv, hvs⟩
theorem sz1000 {n : Nat} (h : n ≤ 1000) : n ≤ sizeLine := Nat.le_trans h (by decide)
end
end KD
end
section
namespace KD
open PySem PySem.Spec PyProof.Rows L2

section
variable {X : Cx} {e a b c : Expr} {ρ : List Sl} {κ κa κb κc : Kd} {pos : Pos} {i j : Int} {x y : Str} {k l : Bool} {ds es : List PyData} {d d' : PyData} {ees : List Expr} {κs : List Kd}

/-! ### lists that may be known to the object: + and * -/
theorem lstR {pins : List (Addr × Obj)} {σ : L2.St} {H : Hp} {s : Shared} {l : Addr} {xs : List V} (I : Inv X pins σ H s) (h : Rd H l (.lst xs)) : xs.length ≤ sizeLine ∧ ∃ (its : List Value) (n : Nat), Vals xs its ∧ xs.length = its.length ∧ s.heap.get? l = some { cls := .type "list", data := .seq its.toArray n } := by
  obtain ⟨z, its, n, r, e⟩ := h.ok I.hok
  exact ⟨z, its, n, r, r.length, e⟩
def rCatR : R2 := fun x y H Q => ∃ l b xs zs, x = .ref l ∧ y = .ref b ∧ Rd H l (.lst xs) ∧ Rd H b (.lst zs) ∧ xs.length + zs.length ≤ sizeLine ∧ ∀ p, H p = none → Q (.ref p) (upd H p (.lst (xs ++ zs)))
theorem op_catR : OpR X (binaryOp .Add) rCatR := by
  intro pins s σ H x y v u Q I rx ry h
  obtain ⟨l, b, xs, zs, rfl, rfl, hH, hB, hz, q⟩ := h
  cases rx
  cases ry
  obtain ⟨z, its, n, r, hl, e⟩ := lstR I hH
  obtain ⟨z2, its2, n2, r2, hl2, e2⟩ := lstR I hB
  refine PySem.P.add_list e e2 ?_ (by rw [List.size_toArray, List.size_toArray]; omega)
  have ea : its.toArray ++ its2.toArray = (its ++ its2).toArray := by simp
  rw [ea]
  exact ⟨.ref _, _, I.lnew (t' := s.toks) (r.append r2) (by rw [List.length_append]; omega), rfl, q _ I.fresh⟩
/-- a new list of data -/
theorem new_list {S H : Hp} {K : PySem.W.Frag} {ds : List PyData} {vs : List V} {Q : VK} (s : Same S H) (h : DqAll K S vs ds) (q : ∀ v S' H', Grow S H S' H' → (kL K ds).p S' v → Q v H') : ∀ p, H p = none → Q (.ref p) (upd H p (.lst vs)) := fun p hp => by
  have g := Grow.new s (.lst vs) hp
  exact q _ _ _ g (.lst (.inl upd_same) (dpAll_mono g.s h))
theorem new_tup {S H : Hp} {K : PySem.W.Frag} {ds : List PyData} {vs : List V} {Q : VK} (s : Same S H) (h : DqAll K S vs ds) (q : ∀ v S' H', Grow S H S' H' → (kT K ds).p S' v → Q v H') : ∀ p, H p = none → Q (.ref p) (upd H p (.tup vs)) := fun p hp => by
  have g := Grow.new s (.tup vs) hp
  exact q _ _ _ g (.tup (.inl (.inl upd_same)) (dpAll_mono g.s h))
theorem ek_catL (ha : EK X a ρ (kL X.K ds)) (hb : EK X b ρ (kL X.K es)) (h : ds.length + es.length ≤ 1000) : EK X (.BinOp a .Add b pos) ρ (kL X.K (ds ++ es)) :=
  ek_op op_catR (fun S H u v Q s hx hy q => by
    obtain ⟨l, xs, rfl, h1, h2⟩ := dp_list hx
    obtain ⟨m, ys, rfl, h3, h4⟩ := dp_list hy
    exact ⟨l, m, xs, ys, rfl, rfl, same_rd s h1, same_rd s h3, by rw [dpAll_len h2, dpAll_len h4]; exact sz1000 h, new_list s (dpAll_app h2 h4) q⟩) ha hb
/-- displays -/
theorem ek_lst (ha : AK X ees ρ (ds.map (dt X.K))) (hz : ds.length ≤ 1000 := by exact Nat.le_of_ble_eq_true rfl) : EK X (.List ees pos) ρ (kL X.K ds) :=
  EK.of (pe_lst ha) fun S0 H0 S H σ Q E q => ak_run E fun vs S1 H1 g E1 h => ⟨by rw [dpAll_len h.data]; exact sz1000 hz, new_list E1.same h.data fun v S2 H2 g2 hv => q v S2 H2 (g.trans g2) hv⟩
theorem ek_tup {x1} (ha : AK X ees ρ (ds.map (dt X.K))) (hz : ds.length ≤ 1000 := by exact Nat.le_of_ble_eq_true rfl) : EK X (.Tuple ees x1 pos) ρ (kT X.K ds) :=
  EK.of (pe_tup ha) fun S0 H0 S H σ Q E q => ak_run E fun vs S1 H1 g E1 h => ⟨by rw [dpAll_len h.data]; exact sz1000 hz, new_tup E1.same h.data fun v S2 H2 g2 hv => q v S2 H2 (g.trans g2) hv⟩
/-- a display, times an int -/
theorem ek_repL {p2 : Pos} (ha : AK X ees ρ (ds.map (dt X.K))) (hb : EK X b ρ (kI X.K i)) (hz : ds.length ≤ 1000 ∧ 0 ≤ i ∧ i ≤ 1000 ∧ ds.length * i.toNat ≤ 1000) : EK X (.BinOp (.List ees p2) .Mult b pos) ρ (kL X.K (List.replicate i.toNat ds).flatten) :=
  EK.of (pe_op op_rep (pe_lst ha) hb) fun S0 H0 S H σ Q E q => ak_run E fun vs S1 H1 g E1 h => ⟨by rw [dpAll_len h.data]; exact sz1000 hz.1, fun p hp => by
    have g2 := Grow.new E1.same (.lst vs) hp
    refine ek_run (E1.grow g2) fun u S3 H3 g3 E3 hu => ?_
    refine ⟨p, i, vs, rfl, dp_int hu, g3.h _ _ upd_same, by omega, by omega, by rw [dpAll_len h.data]; exact sz1000 hz.2.2.2, ?_⟩
    exact new_list E3.same (dpAll_mono (g2.s.trans g3.s) (dpAll_rep h.data _)) fun v S4 H4 g4 hv => q v S4 H4 (((g.trans g2).trans g3).trans g4) hv⟩
/-- a text, times an int -/
def strRep (x : Str) (n : Nat) : Str := ⟨((List.replicate n x.cps.toList).flatten).toArray⟩
theorem strRep_eq (x : Str) (n : Nat) : (⟨(List.replicate n x.cps).foldl (· ++ ·) #[]⟩ : Str) = strRep x n := by
  have h : ∀ (n : Nat) (acc : Array Nat), ((List.replicate n x.cps).foldl (· ++ ·) acc).toList = acc.toList ++ (List.replicate n x.cps.toList).flatten := by
    intro n
    induction n with
    | zero => intro acc; simp
    | succ n ih => intro acc; rw [List.replicate_succ, List.foldl_cons, ih, List.replicate_succ]; simp
  have e := h n #[]
  unfold strRep
  congr 1
  apply Array.toList_inj.mp
  rw [e]
  simp
theorem strRep_zero (x : Str) : strRep x 0 = Str.empty := by
  unfold strRep; simp; rfl
theorem strRep_one (x : Str) : strRep x 1 = x := by
  unfold strRep; simp
theorem strRep_nil {x : Str} (h : x.length = 0) (n : Nat) : strRep x n = x := by
  have e : x.cps.toList = [] := List.eq_nil_of_length_eq_zero (by rw [Array.length_toList]; exact h)
  unfold strRep
  rw [e]
  have e2 : x = ⟨#[]⟩ := by
    obtain ⟨c⟩ := x
    have : c = #[] := by simpa using e
    rw [this]
  rw [e2]; simp
theorem strRep_len (x : Str) (n : Nat) : (strRep x n).length = n * x.length := by
  show (((List.replicate n x.cps.toList).flatten).toArray).size = n * x.cps.size
  simp
def rMulS : R2 := fun x y H Q => ∃ (z : Str) (i : Int), x = .str z ∧ y = .int i ∧ -1000 ≤ i ∧ i ≤ 1000 ∧ z.length ≤ 1000 ∧ Q (.str (strRep z i.toNat)) H
theorem op_mulS : OpR X (binaryOp .Mult) rMulS := by
  intro pins s σ H x y v u Q I rx ry h
  obtain ⟨z, i, rfl, rfl, h1, h2, h3, q⟩ := h
  obtain ⟨t, rfl⟩ := rx
  obtain ⟨t', rfl⟩ := ry
  have n1 : z.length * i.toNat ≤ 1000 * 1000 := Nat.mul_le_mul h3 (by omega)
  have done : ∀ (x' : Str) (tk : Nat) (t : Tok), x' = strRep z i.toNat → EP X pins σ Q (.str x' t) { s with toks := tk } := fun x' tk t e => by
    subst e
    exact ⟨.str _, H, I.tok _, ⟨t, rfl⟩, q⟩
  refine PySem.P.mul_str ?_ (fun a b => ?_) (fun a b => ?_) ?_
  · rw [decide_eq_false (by omega), decide_eq_false (by omega)]; rfl
  · have c : (z.length : Int) ≤ 1000 := by omega
    have e : (2 ^ 63 - 1 : Int) / 1000 ≤ (2 ^ 63 - 1) / i := by
      rw [Int.le_ediv_iff_mul_le (by omega)]
      have m : ((2 ^ 63 - 1 : Int) / 1000) * i ≤ ((2 ^ 63 - 1 : Int) / 1000) * 1000 := Int.mul_le_mul_of_nonneg_left h2 (by decide)
      omega
    omega
  · exact decide_eq_false (by rw [sizeLine_eq]; omega)
  · by_cases c1 : i < 1
    · rw [if_pos c1]
      refine ⟨by decide, done _ _ _ ?_⟩
      rw [show i.toNat = 0 by omega, strRep_zero]
    · rw [if_neg c1]
      by_cases c2 : (i == 1 || z.length == 0) = true
      · rw [if_pos c2]
        refine done z s.toks t ?_
        rcases Bool.or_eq_true_iff.mp c2 with w | w
        · rw [show i.toNat = 1 by have := of_decide_eq_true w; omega, strRep_one]
        · rw [strRep_nil (by simpa using w)]
      · rw [if_neg c2]
        refine ⟨?_, done _ _ _ (strRep_eq z i.toNat)⟩
        rw [strRep_eq, strRep_len, sizeLine_eq, Nat.mul_comm]; omega
theorem ek_mulS (ha : EK X a ρ (kS X.K x)) (hb : EK X b ρ (kI X.K i)) (hz : x.length ≤ 1000 ∧ -1000 ≤ i ∧ i ≤ 1000) : EK X (.BinOp a .Mult b pos) ρ (kS X.K (strRep x i.toNat)) :=
  ek_op op_mulS (rk_pure fun S H u v Q s hx hy q => ⟨x, i, dp_str hx, dp_int hy, hz.2.1, hz.2.2, hz.1, q _ (.str _)⟩) ha hb
/-- is True, is not True -/
theorem ek_isB (ha : EK X a ρ (kB X.K k)) (hb : EK X b ρ (kB X.K l)) : EK X (.Compare a [.Is] [b] pos) ρ (kB X.K (decide (k = l))) :=
  ek_cmp op_isBl (rk_pure fun S H u v Q s hx hy q => ⟨k, l, dp_bl hx, dp_bl hy, q _ (.bl _)⟩) ha hb (nomark _)
theorem ek_notB (ha : EK X a ρ (kB X.K k)) (hb : EK X b ρ (kB X.K l)) : EK X (.Compare a [.IsNot] [b] pos) ρ (kB X.K (!decide (k = l))) :=
  ek_cmp op_notBl (rk_pure fun S H u v Q s hx hy q => ⟨k, l, dp_bl hx, dp_bl hy, q _ (.bl _)⟩) ha hb (nomark _)

/-! ### places -/
theorem ek_ix {r : R2} (hr : IxR X r) (hk : RK r κa κb κ) (ha : EK X a ρ κa) (hb : EK X b ρ κb) (hs : PlainIx b := by intro _ _; rfl) : EK X (.Subscript a b pos) ρ κ := ek_two (pe_ix hr ha hb hs) hk
theorem atD {α β : Type} {xs : List α} {ys : List β} (h : xs.length = ys.length) {i : Int} {d : β} (hd : atI ys i = some d) : ∃ j : Nat, ys[j]? = some d ∧ ∀ v, xs[j]? = some v → atI xs i = some v := by
  unfold atI at hd ⊢
  rw [← h] at hd
  cases e : ixN xs.length i with
  | none => rw [e] at hd; cases hd
  | some j => rw [e] at hd; exact ⟨j, hd, fun v hv => hv⟩
theorem ek_ixL (ha : EK X a ρ (kL X.K ds)) (hb : EK X b ρ (kI X.K i)) (h : atI ds i = some d) (hs : PlainIx b := by intro _ _; rfl) : EK X (.Subscript a b pos) ρ (dt X.K d) :=
  ek_ix ix_list (rk_pure fun S H u v Q s hx hy q => by
    obtain ⟨p, xs, rfl, h1, h2⟩ := dp_list hx
    obtain ⟨j, hj, f⟩ := atD (dpAll_len h2) h
    obtain ⟨w, hw, hd⟩ := dpAll_get h2 hj
    exact ⟨p, xs, i, w, rfl, dp_int hy, .inl (same_rd s h1), f w hw, q w hd⟩) ha hb hs
theorem ek_ixT (ha : EK X a ρ (kT X.K ds)) (hb : EK X b ρ (kI X.K i)) (h : atI ds i = some d) (hs : PlainIx b := by intro _ _; rfl) : EK X (.Subscript a b pos) ρ (dt X.K d) :=
  ek_ix ix_tup (rk_pure fun S H u v Q s hx hy q => by
    obtain ⟨p, xs, rfl, h1, h2⟩ := dp_tup hx
    obtain ⟨j, hj, f⟩ := atD (dpAll_len h2) h
    obtain ⟨w, hw, hd⟩ := dpAll_get h2 hj
    exact ⟨p, xs, i, w, rfl, dp_int hy, same_t s h1, f w hw, q w hd⟩) ha hb hs
theorem ek_ixS {c : Nat} (ha : EK X a ρ (kS X.K x)) (hb : EK X b ρ (kI X.K i)) (h : atI x.cps.toList i = some c) (hz : x.length ≤ 1000) (hs : PlainIx b := by intro _ _; rfl) : EK X (.Subscript a b pos) ρ (kS X.K ⟨#[c]⟩) :=
  ek_ix ix_str (rk_pure fun S H u v Q s hx hy q => ⟨x, i, c, dp_str hx, dp_int hy, sz1000 hz, h, q _ (.str _)⟩) ha hb hs
/-- a slice's part -/
def rdO (K : PySem.W.Frag) (ρ : List Sl) (o : Option Int) : TO := fun σ H Q => ∃ S0 H0 S, En K S0 H0 S H σ ρ ∧ ∀ S' H', Grow S H S' H' → Q o H'
def OK (X : Cx) (e : Option Expr) (ρ : List Sl) (o : Option Int) : Prop := PO X e (rdO X.K ρ o)
theorem PO.imp {e : Option Expr} {t t' : TO} (h : PO X e t) (i : ∀ σ H Q, t' σ H Q → t σ H Q) : PO X e t' := ⟨fun pins s σ H Q I q => h.run pins s σ H Q I (i σ H Q q)⟩
theorem ok_none : OK X none ρ none := PO.imp po_none fun σ H Q ⟨S0, H0, S, E, q⟩ => q S H (Grow.refl E.same)
theorem ok_some (h : EK X e ρ (kI X.K i)) : OK X (some e) ρ (some i) := PO.imp (po_some h) fun σ H Q ⟨S0, H0, S, E, q⟩ => ek_run E fun v S1 H1 g E1 hv => ⟨i, dp_int hv, q S1 H1 g⟩
variable {lo hi : Option Expr} {ol oh : Option Int} {p2 : Pos}
theorem ek_slice {r : V → Option Int → Option Int → Hp → VK → Prop} (hr : SlR X r) (hk : ∀ S H x (Q : VK), Same S H → κa.p S x → (∀ v S' H', Grow S H S' H' → κ.p S' v → Q v H') → r x ol oh H Q) (ha : EK X a ρ κa) (hl : OK X lo ρ ol) (hh : OK X hi ρ oh) : EK X (.Subscript a (.Slice lo hi none p2) pos) ρ κ :=
  EK.of (pe_slice hr ha hl hh) fun S0 H0 S H σ Q E q => ek_run E fun x S1 H1 g1 E1 hx => ⟨S0, H0, S1, E1, fun S2 H2 g2 => ⟨S0, H0, S2, E1.grow g2, fun S3 H3 g3 =>
    hk S3 H3 x Q ((E1.grow g2).grow g3).same (κa.mono (g2.s.trans g3.s) hx) fun v S4 H4 g4 hv => q v S4 H4 (((g1.trans g2).trans g3).trans g4) hv⟩⟩
theorem ek_slS (ha : EK X a ρ (kS X.K x)) (hl : OK X lo ρ ol) (hh : OK X hi ρ oh) (hz : x.length ≤ 1000) : EK X (.Subscript a (.Slice lo hi none p2) pos) ρ (kS X.K (cutS x ol oh)) :=
  ek_slice sl_str (fun S H u Q s hx q => ⟨x, dp_str hx, sz1000 hz, q _ S H (Grow.refl s) (.str _)⟩) ha hl hh
def cutD (xs : List PyData) (lo hi : Option Int) : List PyData := (xs.drop (HT.sIx xs.length 0 lo)).take (HT.sIx xs.length xs.length hi - HT.sIx xs.length 0 lo)
theorem ek_slL (ha : EK X a ρ (kL X.K ds)) (hl : OK X lo ρ ol) (hh : OK X hi ρ oh) : EK X (.Subscript a (.Slice lo hi none p2) pos) ρ (kL X.K (cutD ds ol oh)) :=
  ek_slice sl_list (fun S H u Q s hx q => by
    obtain ⟨p, xs, rfl, h1, h2⟩ := dp_list hx
    refine ⟨p, xs, rfl, .inl (same_rd s h1), ?_⟩
    have e : DqAll X.K S (cutV xs ol oh) (cutD ds ol oh) := by
      unfold cutV cutD
      rw [dpAll_len h2]
      exact dpAll_take _ (dpAll_drop _ h2)
    exact new_list s e q) ha hl hh
end
end KD
end
section
namespace KD
open PySem PySem.Spec PyProof.Rows L2

section
variable {X : Cx} {e a b c : Expr} {ρ : List Sl} {κ κa κb κc : Kd} {pos p apos : Pos} {i j : Int} {x y : Str} {k l : Bool} {ds es : List PyData} {d d' : PyData} {ees : List Expr} {κs : List Kd} {id T : String}

/-! ### built-ins -/
def CK (r : List V → Hp → VK → Prop) (κs : List Kd) (κ : Kd) : Prop := ∀ S H vs (Q : VK), Same S H → AllK S κs vs → (∀ v S' H', Grow S H S' H' → κ.p S' v → Q v H') → r vs H Q
theorem ck_pure {r : List V → Hp → VK → Prop} (h : ∀ S H vs (Q : VK), Same S H → AllK S κs vs → (∀ v, κ.p S v → Q v H) → r vs H Q) : CK r κs κ := fun S H vs Q s hv q => h S H vs Q s hv fun v hk => q v S H (Grow.refl s) hk
theorem cb_run {r : List V → Hp → VK → Prop} (h : PE X e (tCB r (rdA X.K ρ κs))) (hk : CK r κs κ) : EK X e ρ κ :=
  EK.of h fun S0 H0 S H σ Q E q => ak_run E fun vs S1 H1 g E1 hv => hk S1 H1 vs Q E1.same hv fun v S2 H2 g2 hv2 => q v S2 H2 (g.trans g2) hv2
theorem ek_cb {r : List V → Hp → VK → Prop} (hc : CallR X (.builtin id) r) (hk : CK r κs κ) (hm : X.mg x = none) (hv : bootBuiltins x = some (.builtin id)) (ha : AK X (e :: ees) ρ κs) (hg : Gl X x := by rfl) (hn : x ≠ "__name__" := by decide) (hdb : (x == ("__debug__" : Str)) = false := by decide)
    (he : starEach (e :: ees) X.env = (false, eval e X.env) :: starEach ees X.env := by rfl) (hpl : (backTo pos (starEach ees X.env)).any (·.1) = false := by rfl) : EK X (.Call (.Name x p) (e :: ees) [] pos) ρ κ := cb_run (pe_callB hc hg hm hv ha hn hdb he hpl) hk
theorem ek_ct {r : List V → Hp → VK → Prop} (hc : CallR X (.type T) r) (hk : CK r κs κ) (hm : X.mg x = none) (hv : bootBuiltins x = some (.type T)) (ha : AK X (e :: ees) ρ κs) (hg : Gl X x := by rfl) (hn : x ≠ "__name__" := by decide) (hdb : (x == ("__debug__" : Str)) = false := by decide)
    (he : starEach (e :: ees) X.env = (false, eval e X.env) :: starEach ees X.env := by rfl) (hpl : (backTo pos (starEach ees X.env)).any (·.1) = false := by rfl) : EK X (.Call (.Name x p) (e :: ees) [] pos) ρ κ := cb_run (pe_callTy hc hg hm hv ha hn hdb he hpl) hk
theorem all1 {S : Hp} {vs : List V} (h : AllK S [κ] vs) : ∃ v, vs = [v] ∧ κ.p S v := by
  match vs, h with
  | [v], ⟨a, _⟩ => exact ⟨v, rfl, a⟩
theorem all2 {S : Hp} {vs : List V} (h : AllK S [κ, κa] vs) : ∃ v u, vs = [v, u] ∧ κ.p S v ∧ κa.p S u := by
  match vs, h with
  | [v, u], ⟨a, b, _⟩ => exact ⟨v, u, rfl, a, b⟩
theorem all3 {S : Hp} {vs : List V} (h : AllK S [κ, κa, κb] vs) : ∃ v u w, vs = [v, u, w] ∧ κ.p S v ∧ κa.p S u ∧ κb.p S w := by
  match vs, h with
  | [v, u, w], ⟨a, b, c, _⟩ => exact ⟨v, u, w, rfl, a, b, c⟩
/-- len -/
def lenD : PyData → Option Nat
  | .str x => some x.length
  | .list ds => some ds.length
  | .tuple ds => some ds.length
  | _ => none
theorem ek_len {n : Nat} (hm : X.mg "len" = none) (ha : EK X e ρ (dt X.K d)) (hl : lenD d = some n) (hz : n ≤ 1000) (hg : Gl X "len" := by rfl) (he : starEach (e :: []) X.env = (false, eval e X.env) :: starEach [] X.env := by rfl) (hpl : (backTo pos (starEach [] X.env)).any (·.1) = false := by rfl) :
    EK X (.Call (.Name "len" p) [e] [] pos) ρ (kI X.K n) :=
  ek_cb call_len (ck_pure fun S H vs Q s hv q => by
    obtain ⟨v, rfl, h⟩ := all1 hv
    refine ⟨v, n, rfl, ?_, q _ (.int _)⟩
    cases h with
    | non => cases hl
    | bl _ => cases hl
    | int _ => cases hl
    | str y => cases hl; exact ⟨sz1000 hz, rfl⟩
    | lst h1 h2 => cases hl; exact .inl ⟨_, .inl (same_rd s h1), (dpAll_len h2).symm⟩
    | tup h1 h2 => cases hl; exact .inr ⟨_, same_t s h1, (dpAll_len h2).symm⟩) hm boot_len (ak_cons ha ak_nil he) hg (by decide) (by decide) he hpl
/-- int(n), int(flag), int(text) -/
theorem ek_toI (hm : X.mg "int" = none) (ha : EK X e ρ (kI X.K i)) (hg : Gl X "int" := by rfl) (he : starEach (e :: []) X.env = (false, eval e X.env) :: starEach [] X.env := by rfl) (hpl : (backTo pos (starEach [] X.env)).any (·.1) = false := by rfl) : EK X (.Call (.Name "int" p) [e] [] pos) ρ (kI X.K i) :=
  ek_ct call_int1 (ck_pure fun S H vs Q s hv q => by
    obtain ⟨v, rfl, h⟩ := all1 hv
    exact .inl ⟨i, by rw [dp_int h], q _ (.int _)⟩) hm boot_int (ak_cons ha ak_nil he) hg (by decide) (by decide) he hpl
theorem ek_toIB (hm : X.mg "int" = none) (ha : EK X e ρ (kB X.K k)) (hg : Gl X "int" := by rfl) (he : starEach (e :: []) X.env = (false, eval e X.env) :: starEach [] X.env := by rfl) (hpl : (backTo pos (starEach [] X.env)).any (·.1) = false := by rfl) : EK X (.Call (.Name "int" p) [e] [] pos) ρ (kI X.K (if k then 1 else 0)) :=
  ek_ct call_int1 (ck_pure fun S H vs Q s hv q => by
    obtain ⟨v, rfl, h⟩ := all1 hv
    exact .inr ⟨k, by rw [dp_bl h], q _ (.int _)⟩) hm boot_int (ak_cons ha ak_nil he) hg (by decide) (by decide) he hpl
theorem ek_toIS (hm : X.mg "int" = none) (ha : EK X e ρ (kS X.K x)) (h : PySem.intText? x = some i) (hz : x.length ≤ 640) (hg : Gl X "int" := by rfl) (he : starEach (e :: []) X.env = (false, eval e X.env) :: starEach [] X.env := by rfl) (hpl : (backTo pos (starEach [] X.env)).any (·.1) = false := by rfl) : EK X (.Call (.Name "int" p) [e] [] pos) ρ (kI X.K i) :=
  ek_ct call_int_str (ck_pure fun S H vs Q s hv q => by
    obtain ⟨v, rfl, h1⟩ := all1 hv
    exact ⟨x, i, by rw [dp_str h1], h, hz, q _ (.int _)⟩) hm boot_int (ak_cons ha ak_nil he) hg (by decide) (by decide) he hpl
/-- str(n) -/
theorem ek_str1 (hm : X.mg "str" = none) (ha : EK X e ρ (kI X.K i)) (h : i.natAbs.log2 < 1920) (hg : Gl X "str" := by rfl) (he : starEach (e :: []) X.env = (false, eval e X.env) :: starEach [] X.env := by rfl) (hpl : (backTo pos (starEach [] X.env)).any (·.1) = false := by rfl) : EK X (.Call (.Name "str" p) [e] [] pos) ρ (kS X.K (toString i)) :=
  ek_ct call_str_int (ck_pure fun S H vs Q s hv q => by
    obtain ⟨v, rfl, h1⟩ := all1 hv
    exact ⟨i, by rw [dp_int h1], h, q _ (.str _)⟩) hm boot_str (ak_cons ha ak_nil he) hg (by decide) (by decide) he hpl
/-- sum of ints -/
theorem ek_sum {ns : List Int} (hc : X.calm = true) (hm : X.mg "sum" = none) (ha : EK X e ρ (kL X.K (ns.map PyData.int))) (hg : Gl X "sum" := by rfl) (he : starEach (e :: []) X.env = (false, eval e X.env) :: starEach [] X.env := by rfl) (hpl : (backTo pos (starEach [] X.env)).any (·.1) = false := by rfl) : EK X (.Call (.Name "sum" p) [e] [] pos) ρ (kI X.K ns.sum) :=
  ek_cb (cr_sum hc) (ck_pure fun S H vs Q s hv q => by
    obtain ⟨v, rfl, h1⟩ := all1 hv
    obtain ⟨l, xs, rfl, h2, h3⟩ := dp_list h1
    rw [dpAll_ints h3] at h2
    exact ⟨l, ns, rfl, .inl (same_rd s h2), q _ (.int _)⟩) hm PyProof.Rows.boot_sum (ak_cons ha ak_nil he) hg (by decide) (by decide) he hpl
/-- list(..), tuple(..) of data -/
def itemsD : PyData → Option (List PyData)
  | .list ds => some ds
  | .tuple ds => some ds
  | _ => none
theorem ek_list1 (hm : X.mg "list" = none) (ha : EK X e ρ (dt X.K d)) (h : itemsD d = some ds) (hg : Gl X "list" := by rfl) (he : starEach (e :: []) X.env = (false, eval e X.env) :: starEach [] X.env := by rfl) (hpl : (backTo pos (starEach [] X.env)).any (·.1) = false := by rfl) : EK X (.Call (.Name "list" p) [e] [] pos) ρ (kL X.K ds) :=
  ek_ct call_list_of (fun S H vs Q s hv q => by
    obtain ⟨v, rfl, h1⟩ := all1 hv
    cases h1 with
    | non => cases h
    | bl _ => cases h
    | int _ => cases h
    | str y => cases h
    | lst h1 h2 => cases h; exact ⟨_, _, rfl, .inl (.inl (same_rd s h1)), new_list s h2 q⟩
    | tup h1 h2 => cases h; exact ⟨_, _, rfl, .inr (same_t s h1), new_list s h2 q⟩) hm boot_list (ak_cons ha ak_nil he) hg (by decide) (by decide) he hpl
theorem ek_tuple1 (hm : X.mg "tuple" = none) (ha : EK X e ρ (dt X.K d)) (h : itemsD d = some ds) (hg : Gl X "tuple" := by rfl) (he : starEach (e :: []) X.env = (false, eval e X.env) :: starEach [] X.env := by rfl) (hpl : (backTo pos (starEach [] X.env)).any (·.1) = false := by rfl) : EK X (.Call (.Name "tuple" p) [e] [] pos) ρ (kT X.K ds) :=
  ek_ct call_tuple_of (fun S H vs Q s hv q => by
    obtain ⟨v, rfl, h1⟩ := all1 hv
    cases h1 with
    | non => cases h
    | bl _ => cases h
    | int _ => cases h
    | str y => cases h
    | lst h1 h2 => cases h; exact ⟨_, _, rfl, .inl ⟨.inl (same_rd s h1), new_tup s h2 q⟩⟩
    | tup h1 h2 => cases h; exact ⟨_, _, rfl, .inr ⟨same_t s h1, q _ S H (Grow.refl s) (.tup h1 h2)⟩⟩) hm boot_tuple (ak_cons ha ak_nil he) hg (by decide) (by decide) he hpl
/-- isinstance -/
def tyD : PyData → String
  | .none => "NoneType"
  | .bool _ => "bool"
  | .int _ => "int"
  | .str _ => "str"
  | .list _ => "list"
  | .tuple _ => "tuple"
  | .dict _ => "dict"
theorem dq_ty {S : Hp} {v : V} {H : Hp} (s : Same S H) (h : Dq X.K S v d) : TyX X.K H v (.type (tyD d)) := by
  cases h with
  | non => exact .base .non
  | bl b => exact .base (.bl b)
  | int i => exact .base (.int i)
  | str y => exact .base (.str y)
  | lst h1 _ =>
    rcases same_rd s h1 with h | ⟨o, h⟩
    · exact .base (.lst h)
    · exact .base (.frz h)
  | tup h1 _ =>
    rcases same_t s h1 with (h | ⟨o, h⟩) | ⟨o, _, _, h, hc, _⟩
    · exact .base (.tup h)
    · exact .fTuple h
    · exact .kTuple h hc
theorem ek_isi (hm : X.mg "isinstance" = none) (ha : EK X e ρ (dt X.K d)) (hb : EK X b ρ (vk (.ty T))) (h : kitB (tyD d) T = some k) (hg : Gl X "isinstance" := by rfl) (he : starEach (e :: [b]) X.env = (false, eval e X.env) :: starEach [b] X.env := by rfl) (hpl : (backTo pos (starEach [b] X.env)).any (·.1) = false := by rfl) (he2 : starEach (b :: []) X.env = (false, eval b X.env) :: starEach [] X.env := by rfl) : EK X (.Call (.Name "isinstance" p) [e, b] [] pos) ρ (kB X.K k) :=
  ek_cb call_isi (ck_pure fun S H vs Q s hv q => by
    obtain ⟨v, u, rfl, h1, h2⟩ := all2 hv
    have h3 : u = .ty T := h2
    subst h3
    exact ⟨v, _, _, _, k, rfl, .ty T, dq_ty s h1, kit_ty h, q _ (.bl _)⟩) hm boot_isinstance (ak_cons ha (ak_cons hb ak_nil he2) he) hg (by decide) (by decide) he hpl
theorem ek_isi2 {T1 T2 : String} {l k' : Bool} {c : Expr} {x1} {p3 : Pos} (hm : X.mg "isinstance" = none) (ha : EK X e ρ (dt X.K d)) (hb : EK X b ρ (vk (.ty T1))) (hc : EK X c ρ (vk (.ty T2))) (h : kitB (tyD d) T1 = some k) (h2 : kitB (tyD d) T2 = some l) (hk : k' = (k || l)) (hg : Gl X "isinstance" := by rfl) (he : starEach (e :: [.Tuple [b, c] x1 p3]) X.env = (false, eval e X.env) :: starEach [.Tuple [b, c] x1 p3] X.env := by rfl) (hpl : (backTo pos (starEach [.Tuple [b, c] x1 p3] X.env)).any (·.1) = false := by rfl)
    (he2 : starEach (b :: [c]) X.env = (false, eval b X.env) :: starEach [c] X.env := by rfl) (he3 : starEach (c :: []) X.env = (false, eval c X.env) :: starEach [] X.env := by rfl) (he4 : starEach (.Tuple [b, c] x1 p3 :: []) X.env = (false, eval (.Tuple [b, c] x1 p3) X.env) :: starEach [] X.env := by rfl) :
    EK X (.Call (.Name "isinstance" p) [e, .Tuple [b, c] x1 p3] [] pos) ρ (kB X.K k') :=
  EK.of (pe_callB call_isiT hg hm boot_isinstance (pa_cons ha (pa_cons (pe_tup (ak_cons hb (ak_cons hc ak_nil he3) he2)) pa_nil he4) he) (by decide) (by decide) he hpl) fun S0 H0 S H σ Q E q =>
    ek_run E fun v S1 H1 g1 E1 hv => ak_run E1 fun vs S2 H2 g2 E2 hvs => by
      obtain ⟨u, w, rfl, hu, hw⟩ := all2 hvs
      have h3 : u = .ty T1 := hu
      have h4 : w = .ty T2 := hw
      subst h3 h4
      refine ⟨by show 2 ≤ sizeLine; decide, fun tp htp => ?_⟩
      have g3 := Grow.drop E2.same (.tup [.ty T1, .ty T2]) htp
      refine ⟨v, tp, [.ty T1, .ty T2], _, [.type T1, .type T2], k', rfl, upd_same, .cons (.ty T1) (.cons (.ty T2) .nil), dq_ty (g2.s.trans (E2.grow g3).same) hv, ?_, q _ S2 _ ((g1.trans g2).trans g3) (.bl _)⟩
      refine kitAny_cons (kit_ty h) (fun z => ?_) (fun z => by rw [hk, z]; rfl)
      refine kitAny_cons (kit_ty h2) (fun z2 => ?_) (fun z2 => by rw [hk, z2, Bool.or_true])
      rw [hk, z, z2]; exact kitAny_nil
/-! ### methods of texts and lists -/
/-- sep.join(list) -/
theorem ek_join {ss : List Str} (ho : EK X b ρ (kS X.K x)) (ha : EK X e ρ (kL X.K (ss.map PyData.str))) (hz : (ss.map (·.length)).sum + ss.length * x.length ≤ 16777216) (hs : starEach [e] X.env = [(false, eval e X.env)] := by rfl) (hbase : attributeBase b "join" X.env (eval b X.env) = eval b X.env := by rfl) (hline : (apos.endLine == pos.line) = true := by rfl) :
    EK X (.Call (.Attribute b "join" apos) [e] [] pos) ρ (kS X.K (Txt.join x ss)) :=
  EK.of (pe_join ho ha hs hbase hline) fun S0 H0 S H σ Q E q => ek_run E fun v S1 H1 g1 E1 hv => by
    obtain rfl := dp_str hv
    refine ⟨⟨_, rfl⟩, ek_run E1 fun u S2 H2 g2 E2 hu => ?_⟩
    obtain ⟨l, xs, rfl, h2, h3⟩ := dp_list hu
    rw [dpAll_strs h3] at h2
    exact ⟨x, l, ss, rfl, rfl, .inl (.inl (same_rd E2.same h2)), hz, q _ S2 H2 (g1.trans g2) (.str _)⟩
/-- list.index of texts -/
theorem ek_index {ss : List Str} {n : Nat} (ho : EK X b ρ (kL X.K (ss.map PyData.str))) (ha : EK X e ρ (kS X.K x)) (hn : ss[n]? = some x) (hb : ∀ m z, m < n → ss[m]? = some z → z ≠ x)
    (hbase : attributeBase b "index" X.env (eval b X.env) = eval b X.env := by rfl)
    (hfew : ((backTo pos (starEach (e :: []) X.env)).all (fun x => !x.1) && (backToKw pos (keywordEach [] X.env)).all (fun x => x.1.isSome)
      && decide ((e :: []).length + ([] : List Keyword).length + (if ([] : List Keyword).isEmpty then 0 else 1) < 30)) = true := by rfl)
    (hline : (apos.endLine == pos.line) = true := by rfl) (hs : starEach (e :: []) X.env = (false, eval e X.env) :: starEach [] X.env := by rfl) (hplain : (backTo pos (starEach [] X.env)).any (·.1) = false := by rfl) :
    EK X (.Call (.Attribute b "index" apos) [e] [] pos) ρ (kI X.K n) :=
  EK.of (pe_bm PySem.F.plainAttrs_list PySem.F.slot_list_index PySem.F.type_list_index mt_index ho (ak_cons ha ak_nil hs) hbase hfew hline hs hplain) fun S0 H0 S H σ Q E q => ek_run E fun v S1 H1 g1 E1 hv => by
    obtain ⟨l, xs, rfl, h2, h3⟩ := dp_list hv
    have ex := dpAll_strs h3
    subst ex
    refine ⟨.inl ⟨rfl, _, .inl (same_rd E1.same h2)⟩, ak_run E1 fun us S2 H2 g2 E2 hus => ?_⟩
    obtain ⟨u, rfl, hu⟩ := all1 hus
    have hu' := dp_str hu
    subst hu'
    refine ⟨l, ss.map V.str, .str x, n, .str x, rfl, rfl, .inl (same_rd (g2.s.trans E2.same) h2), rfl, ?_, ?_, by simp [eqV], fun m z' hm hz' => ?_, q _ S2 H2 (g1.trans g2) (.int _)⟩
    · rw [List.all_map]; exact List.all_eq_true.mpr fun _ _ => rfl
    · rw [List.getElem?_map, hn]; rfl
    · rw [List.getElem?_map] at hz'
      cases ez : ss[m]? with
      | none => rw [ez] at hz'; cases hz'
      | some w =>
        rw [ez] at hz'
        cases hz'
        have := hb m w hm ez
        simpa [eqV] using this
end

/-! ### calls of the text's own defs -/
/-- a def's promise by kinds -/
def spF (R : List Kd → Kd → Prop) : Sp := fun vs H Q _ => ∃ S κs κ, Same S H ∧ R κs κ ∧ AllK S κs vs ∧ ∀ v S' H', Grow S H S' H' → κ.p S' v → Q v H'
/-- keywords that are just the parameters, in their order -/
def KB0 (K : PySem.W.Frag) (fd : FuncData) (ps : List Str) : Prop := ∀ (s : Shared) (us : List Value), K.In s.heap → us.length = ps.length → BindsTo s fd ⟨[], ps.zip us⟩ (ps.zip us)
structure Df (P : Program) (w : World) (K : PySem.W.Frag) (mg : Str → Option Value) (base : Heap) (k : Nat) (x : Str) (ps : List Str) (R : List Kd → Kd → Prop) : Prop where
  ex : ∃ f fd, FnOk P w K mg base CX0 k f fd ps (spF R) ∧ mg x = some (.ref f) ∧ PySem.W.keepIn K (.ref f) = true ∧ Binds K fd ps [] ∧ KB0 K fd ps
section
variable {X : Cx} {e a b c : Expr} {ρ : List Sl} {κ κa κb κc : Kd} {pos p apos : Pos} {ees : List Expr} {κs : List Kd} {x : Str} {ps : List Str} {R : List Kd → Kd → Prop} {k : Nat} {kws : List Keyword}
theorem call_run {S0 H0 S H : Hp} {σ : L2.St} {Q : VK} {E' : XK} (E : En X.K S0 H0 S H σ ρ) (hR : R κs κ) (q : ∀ v S' H', Grow S H S' H' → κ.p S' v → Q v H') : rdA X.K ρ κs σ H fun vs H1 => spF R (vs ++ []) H1 Q E' :=
  ak_run E fun vs S1 H1 g E1 hv => ⟨S1, κs, κ, E1.same, hR, by rw [List.append_nil]; exact hv, fun v S2 H2 g2 h2 => q v S2 H2 (g.trans g2) h2⟩
theorem ek_call (D : Df X.prog X.w X.K X.mg X.base k x ps R) (hr : Room k X.A) (ha : AK X (e :: ees) ρ κs) (hR : R κs κ) (hg : Gl X x := by rfl) (hdb : (x == ("__debug__" : Str)) = false := by decide) (he : starEach (e :: ees) X.env = (false, eval e X.env) :: starEach ees X.env := by rfl)
    (hpl : (backTo pos (starEach ees X.env)).any (·.1) = false := by rfl) : EK X (.Call (.Name x p) (e :: ees) [] pos) ρ κ := by
  obtain ⟨f, fd, F, hm, hk, hb, _⟩ := D.ex
  exact EK.of (pe_call (E := E0) F hr hg hm hk hb .nil pass0 ha hdb he hpl) fun S0 H0 S H σ Q E q => call_run E hR q
/-- keywords alone -/
def rdKw (K : PySem.W.Frag) (ρ : List Sl) (κs : List Kd) : TA := rdA K ρ κs
def KwK (X : Cx) (kws : List Keyword) (ρ : List Sl) (κs : List Kd) : Prop := PK X kws (rdA X.K ρ κs)
theorem pe_callK0 {f : Addr} {fd : FuncData} {sp : Sp} {tk : TA} (F : FnOk X.prog X.w X.K X.mg X.base CX0 k f fd ps sp) (hr : Room k X.A) (hg : Gl X x) (hm : X.mg x = some (.ref f)) (hk : PySem.W.keepIn X.K (.ref f) = true) (hb : KB0 X.K fd ps) (hkw : PK X kws tk)
    (hall : (backToKw pos (keywordEach kws X.env)).all (·.1.isSome) = true) (hks : (backToKw pos (keywordEach kws X.env)).filterMap (·.1) = ps) (hdb : (x == ("__debug__" : Str)) = false)
    (hpl : ((backTo pos (starEach [] X.env)).any (·.1) || (backToKw pos (keywordEach kws X.env)).any (·.1.isNone)) = false) : PE X (.Call (.Name x p) [] kws pos) (tCall sp [] E0 tk) := by
  refine ⟨fun pins s σ H Q I h => ?_⟩
  refine wpAny_Call_Name_kw (ld_glob I hg hm ?_ hdb)
  refine PySem.W.callWith_KW0 (h₀ := X.base) I.ok.mod.kin hk hall (thn (hkw.run pos pins s σ H _ I h) fun ws s2 ⟨zs, H2, I2, rz, q2⟩ => ⟨I2.kIn, ?_⟩) hpl
  rw [hks]
  have q2 : sp zs H2 Q E0 := by
    have z : sp (zs ++ []) H2 Q E0 := q2
    rwa [List.append_nil] at z
  have hl : ws.length = ps.length := by rw [← rz.length]; exact F.len _ _ _ _ q2
  refine wpAny_call (codeAny_mono (F.run X.A X.stack s2 H2 ⟨[], ps.zip ws⟩ ws zs Q E0 hr I2.env0 (hb s2 ws I2.kIn hl) rz q2) fun r s' hq => ?_)
  cases r with
  | error e => exact hq.elim
  | ok fl =>
    cases fl with
    | ret u => exact I2.after hq
    | next => exact False.elim hq
    | brk => exact False.elim hq
    | cont => exact False.elim hq
theorem ek_callK (D : Df X.prog X.w X.K X.mg X.base k x ps R) (hr : Room k X.A) (ha : KwK X kws ρ κs) (hR : R κs κ) (hg : Gl X x := by rfl) (hdb : (x == ("__debug__" : Str)) = false := by decide)
    (hall : (backToKw pos (keywordEach kws X.env)).all (·.1.isSome) = true := by rfl) (hks : (backToKw pos (keywordEach kws X.env)).filterMap (·.1) = ps := by rfl)
    (hpl : ((backTo pos (starEach [] X.env)).any (·.1) || (backToKw pos (keywordEach kws X.env)).any (·.1.isNone)) = false := by rfl) : EK X (.Call (.Name x p) [] kws pos) ρ κ := by
  obtain ⟨f, fd, F, hm, hk, _, hb⟩ := D.ex
  exact EK.of (pe_callK0 F hr hg hm hk hb ha hall hks hdb hpl) fun S0 H0 S H σ Q E q => call_run E hR q
end
end KD
end
section
namespace KD
open PySem PySem.Spec PyProof.Rows L2

/-! ### statements -/
inductive Out where
  | nx (ρ : List Sl)
  | rt (κ : Kd)
  | ex (J : List Sl → Prop)
def OutP (K : PySem.W.Frag) (D : Ends) (S0 H0 S : Hp) : Out → Prop
  | .nx ρ' => ∀ S' H' σ', Same S S' → En K S0 H0 S' H' σ' ρ' → D.nx σ' H'
  | .rt κ => ∀ S' H' v, Grow S0 H0 S' H' → κ.p S' v → D.rt v H'
  | .ex J => ∀ S' H' σ' ρ', J ρ' → Same S S' → En K S0 H0 S' H' σ' ρ' → D.nx σ' H'
def rdS (K : PySem.W.Frag) (ρ : List Sl) (o : Out) : TS := fun D σ H => ∃ S0 H0 S, En K S0 H0 S H σ ρ ∧ OutP K D S0 H0 S o
def SK (X : Cx) (st : Stmt) (ρ : List Sl) (o : Out) : Prop := PS X st (rdS X.K ρ o)
def SsK (X : Cx) (sts : List Stmt) (ρ : List Sl) (o : Out) : Prop := PSs X sts (rdS X.K ρ o)
theorem OutP.mono {K : PySem.W.Frag} {D : Ends} {S0 H0 S S' : Hp} (e : Same S S') : ∀ {o : Out}, OutP K D S0 H0 S o → OutP K D S0 H0 S' o
  | .nx _, h => fun S2 H2 σ2 e2 E => h S2 H2 σ2 (e.trans e2) E
  | .rt _, h => h
  | .ex _, h => fun S2 H2 σ2 ρ2 hJ e2 E => h S2 H2 σ2 ρ2 hJ (e.trans e2) E
section
variable {X : Cx} {e a b c : Expr} {ρ ρ1 ρ' : List Sl} {κ κa κb κc : Kd} {pos p apos : Pos} {i j : Int} {ds es : List PyData} {d d' : PyData} {ees : List Expr} {κs : List Kd} {st : Stmt} {sts rest : List Stmt} {o : Out} {k : Bool}
theorem PS.imp {t t' : TS} (h : PS X st t) (i : ∀ D σ H, t' D σ H → t D σ H) : PS X st t' := ⟨fun pins s σ H D I q => h.run pins s σ H D I (i D σ H q)⟩
theorem PSs.imp {t t' : TS} (h : PSs X sts t) (i : ∀ D σ H, t' D σ H → t D σ H) : PSs X sts t' := ⟨fun pins s σ H D I q => h.run pins s σ H D I (i D σ H q)⟩
theorem SK.of {t : TS} (h : PS X st t) (ht : ∀ S0 H0 S H σ D, En X.K S0 H0 S H σ ρ → OutP X.K D S0 H0 S o → t D σ H) : SK X st ρ o := PS.imp h fun D σ H ⟨S0, H0, S, E, q⟩ => ht S0 H0 S H σ D E q
theorem SsK.of {t : TS} (h : PSs X sts t) (ht : ∀ S0 H0 S H σ D, En X.K S0 H0 S H σ ρ → OutP X.K D S0 H0 S o → t D σ H) : SsK X sts ρ o := PSs.imp h fun D σ H ⟨S0, H0, S, E, q⟩ => ht S0 H0 S H σ D E q
theorem ss_nil : SsK X [] ρ (.nx ρ) := SsK.of pss_nil fun S0 H0 S H σ D E q => q S H σ (Same.refl _) E
theorem ss_one (h : SK X st ρ o) : SsK X [st] ρ o := pss_one h
theorem outNx {K : PySem.W.Frag} {D : Ends} {S0 H0 S : Hp} (h : ∀ S' H' σ', Same S S' → En K S0 H0 S' H' σ' ρ' → D.nx σ' H') : OutP K D S0 H0 S (.nx ρ') := h
theorem outCons {K : PySem.W.Frag} {D : Ends} {S0 H0 S : Hp} (q : OutP K D S0 H0 S o) : OutP K { D with nx := rdS K ρ1 o D } S0 H0 S (.nx ρ1) := fun S' H' σ' e E => ⟨S0, H0, S', E, q.mono e⟩
theorem ss_cons (h : SK X st ρ (.nx ρ1)) (hr : SsK X rest ρ1 o) : SsK X (st :: rest) ρ o := SsK.of (pss_cons h hr) fun S0 H0 S H σ D E q => ⟨S0, H0, S, E, outCons q⟩
/-- what is known behind a statement: one of many -/
theorem ss_consX {J : List Sl → Prop} (h : SK X st ρ (.ex J)) (hr : ∀ ρ', J ρ' → SsK X rest ρ' o) : SsK X (st :: rest) ρ o := SsK.of (pss_cons h ⟨fun pins s σ H D I (q : ∃ ρ', J ρ' ∧ rdS X.K ρ' o D σ H) => by
    obtain ⟨ρ', hJ, S0, H0, S, E, q⟩ := q
    exact (hr ρ' hJ).run pins s σ H D I ⟨S0, H0, S, E, q⟩⟩) fun S0 H0 S H σ D E q => ⟨S0, H0, S, E, fun S' H' σ' ρ' hJ e E' => ⟨ρ', hJ, S0, H0, S', E', q.mono e⟩⟩
theorem ss_done {J : List Sl → Prop} (h : J ρ) : SsK X [] ρ (.ex J) := SsK.of pss_nil fun S0 H0 S H σ D E q => q S H σ ρ h (Same.refl _) E
theorem ss_toX {J : List Sl → Prop} (h : SsK X sts ρ (.nx ρ1)) (l : Le ρ' ρ1) (hJ : J ρ') : SsK X sts ρ (.ex J) := SsK.of h fun S0 H0 S H σ D E q => ⟨S0, H0, S, E, fun S' H' σ' e E' => q S' H' σ' ρ' hJ e (E'.weak l)⟩
theorem sk_toX {J : List Sl → Prop} (h : SK X st ρ (.nx ρ1)) (l : Le ρ' ρ1) (hJ : J ρ') : SK X st ρ (.ex J) := SK.of h fun S0 H0 S H σ D E q => ⟨S0, H0, S, E, fun S' H' σ' e E' => q S' H' σ' ρ' hJ e (E'.weak l)⟩
theorem ss_ret (h : SK X st ρ (.rt κ)) : SsK X (st :: rest) ρ (.rt κ) := SsK.of (pss_cons h pss_never) fun S0 H0 S H σ D E q => ⟨S0, H0, S, E, q⟩
theorem ss_freezeW (i : Nat) {w : Ow} (h : ρ[i]? = some (.own w)) (hκ : ∀ S p u, w.p S p u → S p = some u → κ.p S (.ref p)) (hr : SsK X sts (ρ.set i (.k κ)) o) : SsK X sts ρ o := SsK.of hr fun S0 H0 S H σ D E q => by
  obtain ⟨S', e, E'⟩ := E.freeze h hκ
  exact ⟨S0, H0, S', E', q.mono e⟩
theorem oL_kL (K : PySem.W.Frag) (ds : List PyData) : ∀ S p u, (oL K ds).p S p u → S p = some u → (kL K ds).p S (.ref p) := fun S p u ⟨vs, e, hd⟩ h => by
  subst e
  exact .lst (.inl h) hd
theorem ss_freeze (i : Nat) (h : ρ[i]? = some (.own (oL X.K ds))) (hr : SsK X sts (ρ.set i (.k (kL X.K ds))) o) : SsK X sts ρ o := ss_freezeW i h (oL_kL _ _) hr
theorem ss_weak (h : Le ρ' ρ) (hr : SsK X sts ρ' o) : SsK X sts ρ o := SsK.of hr fun S0 H0 S H σ D E q => ⟨S0, H0, S, E.weak h, q⟩
theorem sk_weakO (h : SK X st ρ (.nx ρ1)) (l : Le ρ' ρ1) : SK X st ρ (.nx ρ') := SK.of h fun S0 H0 S H σ D E q => ⟨S0, H0, S, E, fun S' H' σ' e E' => q S' H' σ' e (E'.weak l)⟩
theorem ss_weakO (h : SsK X sts ρ (.nx ρ1)) (l : Le ρ' ρ1) : SsK X sts ρ (.nx ρ') := SsK.of h fun S0 H0 S H σ D E q => ⟨S0, H0, S, E, fun S' H' σ' e E' => q S' H' σ' e (E'.weak l)⟩
theorem sk_subR (h : SK X st ρ (.rt κ)) (l : ∀ S v, κ.p S v → κa.p S v) : SK X st ρ (.rt κa) := SK.of h fun S0 H0 S H σ D E q => ⟨S0, H0, S, E, fun S' H' v g hv => q S' H' v g (l S' v hv)⟩
theorem ss_subR (h : SsK X sts ρ (.rt κ)) (l : ∀ S v, κ.p S v → κa.p S v) : SsK X sts ρ (.rt κa) := SsK.of h fun S0 H0 S H σ D E q => ⟨S0, H0, S, E, fun S' H' v g hv => q S' H' v g (l S' v hv)⟩
theorem SK.to {o' : Out} (h : SK X st ρ o) (e : o = o') : SK X st ρ o' := e ▸ h
theorem SsK.to {o' : Out} (h : SsK X sts ρ o) (e : o = o') : SsK X sts ρ o' := e ▸ h

/-! ### targets -/
def rdG (K : PySem.W.Frag) (κ : Kd) (ρ ρ' : List Sl) : TG := fun v σ H Q => ∃ S0 H0 S, En K S0 H0 S H σ ρ ∧ κ.p S v ∧ ∀ σ', En K S0 H0 S H σ' ρ' → Q σ' H
def GK (X : Cx) (tg : Expr) (κ : Kd) (ρ ρ' : List Sl) : Prop := PG X tg (rdG X.K κ ρ ρ')
theorem PG.imp {tg : Expr} {t t' : TG} (h : PG X tg t) (i : ∀ v σ H Q, t' v σ H Q → t v σ H Q) : PG X tg t' := ⟨fun pins s σ H v u Q I r q => h.run pins s σ H v u Q I r (i v σ H Q q)⟩
theorem gk_name (i : Nat) {x : Str} (hN : X.N.Nodup) (hi : X.N[i]? = some x := by rfl) (hx : Loc X.env.scope x := by first | exact Or.inl rfl | exact Or.inr rfl) (hf : X.fn x = true ∨ X.env.scope.names.lookup x = some .local := by first | exact .inl rfl | exact .inr rfl | assumption) : GK X (.Name x pos) κ ρ (ρ.set i (.k κ)) :=
  PG.imp (pg_name hN hi hx hf) fun v σ H Q ⟨S0, H0, S, E, hv, q⟩ => q _ (E.set i hv)
theorem gk_tup2 (i j : Nat) {x y : Str} {p1 p2 : Pos} {kk : Nat} (hN : X.N.Nodup) (hc : X.calm = true) (hi : X.N[i]? = some x := by rfl) (hj : X.N[j]? = some y := by rfl) (hx : Loc X.env.scope x := by first | exact Or.inl rfl | exact Or.inr rfl) (hy : Loc X.env.scope y := by first | exact Or.inl rfl | exact Or.inr rfl)
    (hf : X.fn x = true ∨ X.env.scope.names.lookup x = some .local := by first | exact .inl rfl | exact .inr rfl | assumption) (hg : X.fn y = true ∨ X.env.scope.names.lookup y = some .local := by first | exact .inl rfl | exact .inr rfl | assumption) :
    GK X (.Tuple [.Name x p1, .Name y p2] kk pos) (kT X.K [d, d']) ρ ((ρ.set i (.k (dt X.K d))).set j (.k (dt X.K d'))) :=
  PG.imp (pg_tup hc (pgs_cons (pg_name hN hi hx hf) (pgs_cons (pg_name hN hj hy hg) pgs_nil))) fun v σ H Q ⟨S0, H0, S, E, hv, q⟩ => by
    obtain ⟨t, xs, rfl, h1, h2⟩ := dp_tup hv
    cases h2 with
    | cons a1 t1 =>
      cases t1 with
      | cons a2 t2 =>
        cases t2
        exact ⟨t, _, rfl, same_t E.same h1, rfl, _, _, rfl, _, _, rfl, rfl, q _ ((E.set i a1).set j a2)⟩

/-! ### small statements -/
theorem sk_set (i : Nat) {x : Str} {pos' : Pos} (hN : X.N.Nodup) (he : EK X e ρ κ) (hi : X.N[i]? = some x := by rfl) (hx : Loc X.env.scope x := by first | exact Or.inl rfl | exact Or.inr rfl) (hs : swapsWith e (some (.Name x pos')) pos.line X.env = pure false := by rfl) (hf : X.fn x = true ∨ X.env.scope.names.lookup x = some .local := by first | exact .inl rfl | exact .inr rfl | assumption) :
    SK X (.Assign [.Name x pos'] e pos) ρ (.nx (ρ.set i (.k κ))) :=
  SK.of (ps_set hN hi hx he hs hf) fun S0 H0 S H σ D E q => ek_run E fun v S1 H1 g E1 hv => q S1 H1 _ g.s (E1.set i hv)
theorem sk_asg {tg : Expr} (he : EK X e ρ κ) (hg : GK X tg κ ρ ρ') (hs : swapsWithSole [tg] e pos.line X.env = pure false := by rfl) (hw : swappedStores [tg] e X.env = pure none := by rfl) (h1 : (assignEach [tg] X.env).map (·.2) = [assign tg X.env] := by rfl) : SK X (.Assign [tg] e pos) ρ (.nx ρ') :=
  SK.of (ps_asg he hg hs hw h1) fun S0 H0 S H σ D E q => ek_run E fun v S1 H1 g E1 hv => ⟨S0, H0, S1, E1, hv, fun σ' E' => q S1 H1 σ' g.s E'⟩
/-- x = [], a list that is to be filled -/
theorem sk_new (i : Nat) {x : Str} {pos' p2 : Pos} (hN : X.N.Nodup) (hl : i < ρ.length) (hi : X.N[i]? = some x := by rfl) (hx : Loc X.env.scope x := by first | exact Or.inl rfl | exact Or.inr rfl) (hs : swapsWith (.List [] p2) (some (.Name x pos')) pos.line X.env = pure false := by rfl) (hf : X.fn x = true ∨ X.env.scope.names.lookup x = some .local := by first | exact .inl rfl | exact .inr rfl | assumption) :
    SK X (.Assign [.Name x pos'] (.List [] p2) pos) ρ (.nx (ρ.set i (.own (oL X.K [])))) :=
  SK.of (ps_set hN hi hx (pe_lst pa_nil) hs hf) fun S0 H0 S H σ D E q => ⟨Nat.zero_le _, fun p hp => q S _ _ (Same.refl _) (E.fresh hl hp ⟨[], rfl, .nil⟩)⟩
/-- x = list(y), a list that is to be filled further -/
theorem sk_newL (i : Nat) {x : Str} {pos' p2 p3 : Pos} (hN : X.N.Nodup) (hl : i < ρ.length) (hm : X.mg "list" = none) (ha : EK X e ρ (kL X.K ds)) (hi : X.N[i]? = some x := by rfl) (hx : Loc X.env.scope x := by first | exact Or.inl rfl | exact Or.inr rfl) (hs : swapsWith (.Call (.Name "list" p2) [e] [] p3) (some (.Name x pos')) pos.line X.env = pure false := by rfl) (hf : X.fn x = true ∨ X.env.scope.names.lookup x = some .local := by first | exact .inl rfl | exact .inr rfl | assumption)
    (hg : Gl X "list" := by rfl) (he : starEach (e :: []) X.env = (false, eval e X.env) :: starEach [] X.env := by rfl) (hpl : (backTo p3 (starEach [] X.env)).any (·.1) = false := by rfl) :
    SK X (.Assign [.Name x pos'] (.Call (.Name "list" p2) [e] [] p3) pos) ρ (.nx (ρ.set i (.own (oL X.K ds)))) :=
  SK.of (ps_set hN hi hx (pe_callTy call_list_of hg hm boot_list (ak_cons ha ak_nil he) (by decide) (by decide) he hpl) hs hf) fun S0 H0 S H σ D E q => ak_run E fun vs S1 H1 g E1 hv => by
    obtain ⟨v, rfl, h1⟩ := all1 hv
    obtain ⟨l, xs, rfl, h2, h3⟩ := dp_list h1
    exact ⟨l, xs, rfl, .inl (.inl (same_rd E1.same h2)), fun p hp => q S1 _ _ g.s (E1.fresh hl hp ⟨xs, rfl, h3⟩)⟩
/-- xs.append(e) -/
theorem sk_app (i : Nat) {x : Str} {p1 cpos : Pos} (hρ : ρ[i]? = some (.own (oL X.K ds))) (ha : EK X e ρ (dt X.K d)) (hz : ds.length ≤ 1000) (hN : X.N[i]? = some x := by rfl) (hv : Vis X.env.scope x := by first | exact Or.inl rfl | exact Or.inr (Or.inl rfl) | exact Or.inr (Or.inr rfl)) (hd : (x == ("__debug__" : Str)) = false := by decide)
    (hcd : (x == ("__classdict__" : Str)) = false := by decide) (hbase : attributeBase (.Name x p1) "append" X.env (eval (.Name x p1) X.env) = eval (.Name x p1) X.env := by rfl)
    (hfew : ((backTo cpos (starEach (e :: []) X.env)).all (fun x => !x.1) && (backToKw cpos (keywordEach [] X.env)).all (fun x => x.1.isSome)
      && decide ((e :: []).length + ([] : List Keyword).length + (if ([] : List Keyword).isEmpty then 0 else 1) < 30)) = true := by rfl)
    (hline : (apos.endLine == cpos.line) = true := by rfl) (hs : starEach (e :: []) X.env = (false, eval e X.env) :: starEach [] X.env := by rfl) (hplain : (backTo cpos (starEach [] X.env)).any (·.1) = false := by rfl)
    (hsw : swapsWith (.Call (.Attribute (.Name x p1) "append" apos) [e] [] cpos) none pos.line X.env = pure false := by rfl) :
    SK X (.Expr (.Call (.Attribute (.Name x p1) "append" apos) [e] [] cpos) pos) ρ (.nx (ρ.set i (.own (oL X.K (ds ++ [d]))))) :=
  SK.of (ps_expr (pe_bm PySem.F.plainAttrs_list PySem.F.slot_list_append PySem.F.type_list_append mt_append (pe_var hN hv hd hcd) (ak_cons ha ak_nil hs) hbase hfew hline hs hplain) hsw) fun S0 H0 S H σ D E q => by
    obtain ⟨l, _, e1, h0, hS, hH, vs, rfl, hd⟩ := E.ok i _ hρ
    refine ⟨.ref l, e1, .inl ⟨rfl, _, SqL.of hH⟩, ak_run E fun us S1 H1 g E1 hu => ?_⟩
    obtain ⟨u, rfl, hu1⟩ := all1 hu
    have hd1 : DqAll X.K S1 (vs ++ [u]) (ds ++ [d]) := dpAll_app (dpAll_mono g.s hd) (.cons hu1 .nil)
    exact ⟨l, vs, u, rfl, rfl, g.h _ _ hH, by rw [dpAll_len hd]; exact Nat.lt_of_le_of_lt hz (by decide), q S1 _ _ g.s (E1.write hρ e1 ⟨_, rfl, hd1⟩)⟩
/-- xs[i] = e of a list that is being filled -/
theorem sk_setI (i : Nat) {x : Str} {p1 p2 : Pos} {n : Nat} {z : Int} (hρ : ρ[i]? = some (.own (oL X.K ds))) (he : EK X e ρ (dt X.K d)) (hb : EK X b ρ (kI X.K z)) (hz : ixN ds.length z = some n) (hN : X.N[i]? = some x := by rfl) (hv : Vis X.env.scope x := by first | exact Or.inl rfl | exact Or.inr (Or.inl rfl) | exact Or.inr (Or.inr rfl)) (hd : (x == ("__debug__" : Str)) = false := by decide)
    (hcd : (x == ("__classdict__" : Str)) = false := by decide)
    (hs : swapsWithSole [.Subscript (.Name x p1) b p2] e pos.line X.env = pure false := by rfl) (hw : swappedStores [.Subscript (.Name x p1) b p2] e X.env = pure none := by rfl) (h1 : (assignEach [.Subscript (.Name x p1) b p2] X.env).map (·.2) = [assign (.Subscript (.Name x p1) b p2) X.env] := by rfl)
    (hasg : ∀ v, assign (.Subscript (.Name x p1) b p2) X.env v = (do
      let ov ← holding [v] (eval (.Name x p1) X.env)
      let iv ← holding [v, ov] (eval b X.env)
      standAt p2
      holding [v, ov, iv] (setItem ov iv v)
      release [v, ov, iv] []) := by intro _; rfl) :
    SK X (.Assign [.Subscript (.Name x p1) b p2] e pos) ρ (.nx (ρ.set i (.own (oL X.K (ds.set n d))))) :=
  SK.of (ps_asg he (pg_sub (pe_var hN hv hd hcd) hb set_list hasg) hs hw h1) fun S0 H0 S H σ D E q => ek_run E fun v S1 H1 g E1 hv => by
    obtain ⟨l, _, e1, h0, hS, hH, vs, rfl, hd⟩ := E1.ok i _ hρ
    refine ⟨.ref l, e1, ek_run E1 fun u S2 H2 g2 E2 hu => ?_⟩
    have hd2 : DqAll X.K S2 (vs.set n v) (ds.set n d) := dpAll_set (dp_mono g2.s hv) n (dpAll_mono g2.s hd)
    exact ⟨l, vs, z, n, rfl, dp_int hu, g2.h _ _ hH, by rw [dpAll_len hd]; exact hz, q S2 _ _ (g.s.trans g2.s) (E2.write hρ e1 ⟨_, rfl, hd2⟩)⟩
theorem sk_ret (he : EK X e ρ κ) : SK X (.Return (some e) pos) ρ (.rt κ) := SK.of (ps_ret he) fun S0 H0 S H σ D E q => ek_run E fun v S1 H1 g E1 hv => q S1 H1 v E1.g hv
theorem sk_pass : SK X (.Pass pos) ρ (.nx ρ) := SK.of ps_pass fun S0 H0 S H σ D E q => q S H σ (Same.refl _) E
theorem sk_if {sa sb : List Stmt} (hc : TK X c ρ k) (ha : k = true → SsK X sa ρ o) (hb : k = false → SsK X sb ρ o) : SK X (.If c sa sb pos) ρ o := by
  cases k with
  | true => exact SK.of (ps_if hc (ha rfl) pss_never) fun S0 H0 S H σ D E q => tk_run E fun S1 H1 g E1 => (if_pos rfl).mpr ⟨S0, H0, S1, E1, q.mono g.s⟩
  | false => exact SK.of (ps_if hc pss_never (hb rfl)) fun S0 H0 S H σ D E q => tk_run E fun S1 H1 g E1 => (if_neg Bool.false_ne_true).mpr ⟨S0, H0, S1, E1, q.mono g.s⟩
theorem sk_ifT {sa sb : List Stmt} (hc : TK X c ρ true) (ha : SsK X sa ρ o) : SK X (.If c sa sb pos) ρ o := sk_if hc (fun _ => ha) (fun h => nomatch h)
theorem sk_ifF {sa sb : List Stmt} (hc : TK X c ρ false) (hb : SsK X sb ρ o) : SK X (.If c sa sb pos) ρ o := sk_if hc (fun h => nomatch h) (fun _ => hb)

/-! ### what is walked -/
/-- whoever walks J from S on meets the data ks -/
def ItOk (K : PySem.W.Frag) (S : Hp) (J : It) (ks : List PyData) : Prop :=
  (∀ i S2 H2, Same S S2 → Same S2 H2 → i < ks.length → J.go i H2) ∧ (∀ S2 H2, Same S S2 → Same S2 H2 → J.stop ks.length H2) ∧
  ∀ i S2 H2 v H3, Same S S2 → Same S2 H2 → i < ks.length → J.yld i H2 v H3 → ∃ S3 d, Grow S2 H2 S3 H3 ∧ ks[i]? = some d ∧ Dq K S3 v d
theorem ItOk.mono {K : PySem.W.Frag} {S S' : Hp} {J : It} {ks : List PyData} (e : Same S S') (h : ItOk K S J ks) : ItOk K S' J ks :=
  ⟨fun i S2 H2 e2 e3 hi => h.1 i S2 H2 (e.trans e2) e3 hi, fun S2 H2 e2 e3 => h.2.1 S2 H2 (e.trans e2) e3, fun i S2 H2 v H3 e2 e3 hi y => h.2.2 i S2 H2 v H3 (e.trans e2) e3 hi y⟩
def rdI (K : PySem.W.Frag) (ρ : List Sl) (ks : List PyData) : TI := fun σ H R => ∃ S0 H0 S, En K S0 H0 S H σ ρ ∧ ∀ S' H' J, Grow S H S' H' → ItOk K S' J ks → R J H'
def IK (X : Cx) (tg iter : Expr) (ρ : List Sl) (ks : List PyData) : Prop := PI X tg iter (rdI X.K ρ ks)
theorem PI.imp {tg iter : Expr} {t t' : TI} (h : PI X tg iter t) (i : ∀ σ H R, t' σ H R → t σ H R) : PI X tg iter t' := ⟨fun pins s σ H R I q => h.run pins s σ H R I (i σ H R q)⟩
variable {tg : Expr}
theorem ik_list (h : EK X e ρ (kL X.K ds)) : IK X tg e ρ ds := PI.imp (pi_list h) fun σ H R ⟨S0, H0, S, E, q⟩ => ek_run E fun v S1 H1 g E1 hv => by
  obtain ⟨l, xs, rfl, h1, h2⟩ := dp_list hv
  have len := dpAll_len h2
  have at_ : ∀ S2 H2, Same S1 S2 → Same S2 H2 → SqL X.K H2 l xs := fun S2 H2 e2 e3 => .inl (same_rd (e2.trans e3) h1)
  refine ⟨l, rfl, ⟨xs, at_ S1 H1 (Same.refl _) E1.same⟩, q S1 H1 _ g ⟨fun i S2 H2 e2 e3 hi => ?_, fun S2 H2 e2 e3 => ⟨xs, at_ S2 H2 e2 e3, by omega⟩, fun i S2 H2 v H3 e2 e3 hi y => ?_⟩⟩
  · exact ⟨xs, xs[i]'(by omega), at_ S2 H2 e2 e3, List.getElem?_eq_getElem (by omega)⟩
  · obtain ⟨rfl, f⟩ := y
    obtain ⟨d, hd⟩ : ∃ d, ds[i]? = some d := ⟨_, List.getElem?_eq_getElem hi⟩
    obtain ⟨w, hw, hq⟩ := dpAll_get h2 hd
    have ev := (f xs (at_ S2 H3 e2 e3)).symm.trans hw
    cases ev
    exact ⟨S2, d, Grow.refl e3, hd, dp_mono e2 hq⟩
theorem ik_tup (h : EK X e ρ (kT X.K ds)) : IK X tg e ρ ds := PI.imp (pi_tup h) fun σ H R ⟨S0, H0, S, E, q⟩ => ek_run E fun v S1 H1 g E1 hv => by
  obtain ⟨l, xs, rfl, h1, h2⟩ := dp_tup hv
  have len := dpAll_len h2
  have at_ : ∀ S2 H2, Same S1 S2 → Same S2 H2 → SqT X.K H2 l xs := fun S2 H2 e2 e3 => same_t (e2.trans e3) h1
  refine ⟨l, rfl, ⟨xs, at_ S1 H1 (Same.refl _) E1.same⟩, q S1 H1 _ g ⟨fun i S2 H2 e2 e3 hi => ?_, fun S2 H2 e2 e3 => ⟨xs, at_ S2 H2 e2 e3, by omega⟩, fun i S2 H2 v H3 e2 e3 hi y => ?_⟩⟩
  · exact ⟨xs, xs[i]'(by omega), at_ S2 H2 e2 e3, List.getElem?_eq_getElem (by omega)⟩
  · obtain ⟨rfl, f⟩ := y
    obtain ⟨d, hd⟩ : ∃ d, ds[i]? = some d := ⟨_, List.getElem?_eq_getElem hi⟩
    obtain ⟨w, hw, hq⟩ := dpAll_get h2 hd
    have ev := (f xs (at_ S2 H3 e2 e3)).symm.trans hw
    cases ev
    exact ⟨S2, d, Grow.refl e3, hd, dp_mono e2 hq⟩
/-- the signs of a text -/
def signsD (x : Str) : List PyData := x.cps.toList.map fun c => .str ⟨#[c]⟩
theorem signsD_len (x : Str) : (signsD x).length = x.length := by unfold signsD; rw [List.length_map, Array.length_toList]; rfl
theorem signsD_get (x : Str) (i : Nat) : (signsD x)[i]? = (x.cps[i]?).map fun c => .str ⟨#[c]⟩ := by unfold signsD; rw [List.getElem?_map, Array.getElem?_toList]
theorem ik_str {x : Str} (h : EK X e ρ (kS X.K x)) : IK X tg e ρ (signsD x) := PI.imp (pi_str h) fun σ H R ⟨S0, H0, S, E, q⟩ => ek_run E fun v S1 H1 g E1 hv => by
  obtain rfl := dp_str hv
  refine ⟨x, rfl, q S1 H1 _ g ⟨fun i S2 H2 e2 e3 hi => ?_, fun S2 H2 e2 e3 => ?_, fun i S2 H2 v H3 e2 e3 hi y => ?_⟩⟩
  · rw [signsD_len] at hi; exact hi
  · rw [signsD_len]; exact Nat.le_refl _
  · obtain ⟨rfl, c, hc, rfl⟩ := y
    exact ⟨S2, _, Grow.refl e3, by rw [signsD_get, hc] <;> rfl, .str _⟩
/-- lo, lo + c, .. -/
def rangeD (lo c : Int) (n : Nat) : List PyData := (List.range n).map fun (k : Nat) => .int (lo + (k : Int) * c)
theorem rangeD_len (lo c : Int) (n : Nat) : (rangeD lo c n).length = n := by unfold rangeD; rw [List.length_map, List.length_range]
theorem rangeD_get {lo c : Int} {n i : Nat} (h : i < n) : (rangeD lo c n)[i]? = some (.int (lo + (i : Int) * c)) := by
  unfold rangeD; rw [List.getElem?_map, List.getElem?_range h]; rfl
theorem ik_range {p2 : Pos} (hm : X.mg "range" = none) (h : EK X e ρ (kI X.K i)) (hz : -1000 ≤ i ∧ i ≤ 1000) (hg : Gl X "range" := by rfl) (hs : starEach [e] X.env = [(false, eval e X.env)] := by rfl) : IK X tg (.Call (.Name "range" p2) [e] [] pos) ρ (rangeD 0 1 i.toNat) :=
  PI.imp (pi_range1 hg hm (ak_cons h ak_nil hs) hs) fun σ H R ⟨S0, H0, S, E, q⟩ => ak_run E fun vs S1 H1 g E1 hv => by
    obtain ⟨v, rfl, h1⟩ := all1 hv
    refine ⟨i, by rw [dp_int h1], by omega, by omega, q S1 H1 _ g ⟨fun k S2 H2 e2 e3 hi => ?_, fun S2 H2 e2 e3 => ?_, fun k S2 H2 v H3 e2 e3 hi y => ?_⟩⟩
    · rw [rangeD_len] at hi; exact hi
    · rw [rangeD_len]; exact Nat.le_refl _
    · rw [rangeD_len] at hi
      obtain ⟨rfl, rfl⟩ := y
      exact ⟨S2, _, Grow.refl e3, rangeD_get hi, by rw [Int.mul_one]; exact .int _⟩
/-- range(a, b, c) -/
theorem ik_range3 {p2 : Pos} {n : Nat} {z : Int} (hm : X.mg "range" = none) (ha : EK X a ρ (kI X.K i)) (hb : EK X b ρ (kI X.K j)) (hc : EK X c ρ (kI X.K z)) (hz : RgC i j z n) (hg : Gl X "range" := by rfl) (hs : starEach [a, b, c] X.env = (false, eval a X.env) :: starEach [b, c] X.env := by rfl) (hs2 : starEach [b, c] X.env = (false, eval b X.env) :: starEach [c] X.env := by rfl) (hs3 : starEach [c] X.env = (false, eval c X.env) :: starEach [] X.env := by rfl) (hpl : (backTo pos (starEach [b, c] X.env)).any (·.1) = false := by rfl) :
    IK X tg (.Call (.Name "range" p2) [a, b, c] [] pos) ρ (rangeD i z n) :=
  PI.imp (pi_range3 hg hm (ak_cons ha (ak_cons hb (ak_cons hc ak_nil hs3) hs2) hs) hs hpl) fun σ H R ⟨S0, H0, S, E, q⟩ => ak_run E fun vs S1 H1 g E1 hv => by
    obtain ⟨v, u, w, rfl, h1, h2, h3⟩ := all3 hv
    refine ⟨i, j, z, n, by rw [dp_int h1, dp_int h2, dp_int h3], hz, q S1 H1 _ g ⟨fun k S2 H2 e2 e3 hi => ?_, fun S2 H2 e2 e3 => ?_, fun k S2 H2 v H3 e2 e3 hi y => ?_⟩⟩
    · rw [rangeD_len] at hi; exact hi
    · rw [rangeD_len]; exact Nat.le_refl _
    · rw [rangeD_len] at hi
      obtain ⟨rfl, rfl⟩ := y
      exact ⟨S2, _, Grow.refl e3, rangeD_get hi, .int _⟩

/-! ### for -/
/-- any reading that holds of a block, a target -/
def uS (X : Cx) (sts : List Stmt) : TS := fun D σ H => ∃ t, PSs X sts t ∧ t D σ H
theorem pss_u : PSs X sts (uS X sts) := ⟨fun pins s σ H D I ⟨t, h, q⟩ => h.run pins s σ H D I q⟩
def uG (X : Cx) (tg : Expr) : TG := fun v σ H Q => ∃ t, PG X tg t ∧ t v σ H Q
theorem pg_u : PG X tg (uG X tg) := ⟨fun pins s σ H v u Q I r ⟨t, h, q⟩ => h.run pins s σ H v u Q I r q⟩
def uE (X : Cx) (e : Expr) : TE := fun σ H Q => ∃ t, PE X e t ∧ t σ H Q
theorem pe_u : PE X e (uE X e) := ⟨fun pins s σ H Q I ⟨t, h, q⟩ => h.run pins s σ H Q I q⟩
/-- f: what is known ahead of each turn; m turns go through; then the end, or a turn that returns -/
theorem sk_forG {iter : Expr} {body : List Stmt} {ks : List PyData} (hp : PassesOwn (model X.prog X.w) X.A X.env X.xe) (hc : X.calm = true) (hi : IK X tg iter ρ ks) (f : Nat → List Sl) (m : Nat) (h0 : Le (f 0) ρ) (hm : m ≤ ks.length)
    (hs : ∀ i d, i < m → ks[i]? = some d → ∃ ρ1, GK X tg (dt X.K d) (f i) ρ1 ∧ SsK X body ρ1 (.nx (f (i + 1))))
    (hd : (m = ks.length ∧ o = .nx (f m)) ∨ ∃ κ d ρ1, ks[m]? = some d ∧ o = .rt κ ∧ GK X tg (dt X.K d) (f m) ρ1 ∧ SsK X body ρ1 (.rt κ))
    (hx : ∀ x, foldedSetIterable iter X.env x = pure x := by intro _; rfl) : SK X (.For tg iter body [] pos) ρ o :=
  SK.of (ps_for hp hc hi pg_u pss_u hx) fun S0 H0 S H σ D E q => by
    refine ⟨S0, H0, S, E, fun S1 H1 J g J1 => ?_⟩
    refine ⟨fun i n σ' H' => i + n = ks.length ∧ i ≤ m ∧ ∃ S', Same S1 S' ∧ En X.K S0 H0 S' H' σ' (f i), ⟨ks.length, by omega, Nat.zero_le _, S1, Same.refl _, (E.grow g).weak h0⟩, ?_⟩
    rintro i n σ' H' ⟨hn, hle, S', e', E'⟩
    by_cases hlt : i < m
    · refine .inr ⟨J1.1 i S' H' e' E'.same (by omega), fun σ2 H2 => ∃ S2, Same S1 S2 ∧ En X.K S0 H0 S2 H2 σ2 (f (i + 1)), fun σ2 H2 ⟨S2, e2, E2⟩ => ⟨n - 1, by omega, by omega, by omega, S2, e2, E2⟩, fun v H2 y => ?_⟩
      obtain ⟨S2, d, g2, hd2, hv⟩ := J1.2.2 i S' H' v H2 e' E'.same (by omega) y
      obtain ⟨ρ1, hg, hb⟩ := hs i d hlt hd2
      refine ⟨_, hg, S0, H0, S2, E'.grow g2, hv, fun σ3 E3 => ⟨_, hb, S0, H0, S2, E3, fun S3 H3 σ4 e3 E4 => ⟨S3, (e'.trans g2.s).trans e3, E4⟩⟩⟩
    · have him : i = m := by omega
      subst him
      rcases hd with ⟨hl, rfl⟩ | ⟨κ, d, ρ1, hk, rfl, hg, hb⟩
      · subst hl
        exact .inl ⟨J1.2.1 S' H' e' E'.same, q S' H' σ' (g.s.trans e') E'⟩
      · have hlt2 : i < ks.length := (List.getElem?_eq_some_iff.mp hk).1
        refine .inr ⟨J1.1 i S' H' e' E'.same hlt2, fun _ _ => False, fun _ _ z => z.elim, fun v H2 y => ?_⟩
        obtain ⟨S2, d2, g2, hd2, hv⟩ := J1.2.2 i S' H' v H2 e' E'.same hlt2 y
        rw [hk] at hd2
        cases hd2
        exact ⟨_, hg, S0, H0, S2, E'.grow g2, hv, fun σ3 E3 => ⟨_, hb, S0, H0, S2, E3, q⟩⟩
theorem sk_for {iter : Expr} {body : List Stmt} {ks : List PyData} (hp : PassesOwn (model X.prog X.w) X.A X.env X.xe) (hc : X.calm = true) (hi : IK X tg iter ρ ks) (f : Nat → List Sl) (h0 : Le (f 0) ρ)
    (hs : ∀ i d, ks[i]? = some d → ∃ ρ1, GK X tg (dt X.K d) (f i) ρ1 ∧ SsK X body ρ1 (.nx (f (i + 1))))
    (hx : ∀ x, foldedSetIterable iter X.env x = pure x := by intro _; rfl) : SK X (.For tg iter body [] pos) ρ (.nx (f ks.length)) :=
  sk_forG hp hc hi f ks.length h0 (Nat.le_refl _) (fun i d _ h => hs i d h) (.inl ⟨rfl, rfl⟩) hx
theorem sk_forR {iter : Expr} {body : List Stmt} {ks : List PyData} (hp : PassesOwn (model X.prog X.w) X.A X.env X.xe) (hc : X.calm = true) (hi : IK X tg iter ρ ks) (f : Nat → List Sl) (m : Nat) (h0 : Le (f 0) ρ) (hm : m < ks.length)
    (hs : ∀ i d, i < m → ks[i]? = some d → ∃ ρ1, GK X tg (dt X.K d) (f i) ρ1 ∧ SsK X body ρ1 (.nx (f (i + 1))))
    (hd : ∀ d, ks[m]? = some d → ∃ ρ1, GK X tg (dt X.K d) (f m) ρ1 ∧ SsK X body ρ1 (.rt κ))
    (hx : ∀ x, foldedSetIterable iter X.env x = pure x := by intro _; rfl) : SK X (.For tg iter body [] pos) ρ (.rt κ) := by
  obtain ⟨ρ1, h1, h2⟩ := hd _ (List.getElem?_eq_getElem hm)
  exact sk_forG hp hc hi f m h0 (Nat.le_of_lt hm) hs (.inr ⟨κ, _, ρ1, List.getElem?_eq_getElem hm, rfl, h1, h2⟩) hx
end
end KD
end
section
namespace KD
open PySem PySem.Spec PyProof.Rows L2

/-! ### comprehensions -/
def wipeS (ρ : List Sl) : List Nat → List Sl
  | [] => ρ
  | v :: vs => (wipeS ρ vs).set v .un
theorem en_wipe1 {K : PySem.W.Frag} {S0 H0 S H : Hp} {σ : L2.St} {ρ : List Sl} (E : En K S0 H0 S H σ ρ) (v : Nat) : En K S0 H0 S H (σ.set v none) (ρ.set v .un) := by
  refine ⟨E.g, by rw [List.length_set, List.length_set, E.len], fun j sl hj => ?_, fun a b ds es p ha hb sa sb => ?_⟩
  · by_cases e : v = j
    · subst e
      have hl : v < ρ.length := by
        have := (List.getElem?_eq_some_iff.mp hj).1
        rwa [List.length_set] at this
      rw [List.getElem?_set_self hl] at hj
      cases hj
      trivial
    · rw [List.getElem?_set_ne e] at hj ⊢
      exact E.ok j sl hj
  · have nx : ∀ {c : Nat} {cs : Ow}, (ρ.set v .un)[c]? = some (.own cs) → v ≠ c := fun {c cs} hc e => by
      subst e
      have hl := (List.getElem?_eq_some_iff.mp hc).1
      rw [List.length_set] at hl
      rw [List.getElem?_set_self hl] at hc
      cases hc
    have na := nx ha
    have nb := nx hb
    rw [List.getElem?_set_ne na] at ha sa
    rw [List.getElem?_set_ne nb] at hb sb
    exact E.sep a b ds es p ha hb sa sb
theorem en_wipe {K : PySem.W.Frag} {S0 H0 S H : Hp} {σ : L2.St} {ρ : List Sl} (E : En K S0 H0 S H σ ρ) : ∀ vs : List Nat, En K S0 H0 S H (wipe σ vs) (wipeS ρ vs)
  | [] => E
  | v :: vs => en_wipe1 (en_wipe E vs) v
theorem wipe_get (σ : L2.St) : ∀ (vs : List Nat) (i : Nat), (wipe σ vs)[i]? = if i ∈ vs then (if i < σ.length then some none else none) else σ[i]?
  | [], i => by simp [wipe]
  | v :: vs, i => by
    show ((wipe σ vs).set v none)[i]? = _
    by_cases e : v = i
    · subst e
      rw [if_pos List.mem_cons_self]
      by_cases hl : v < σ.length
      · rw [if_pos hl, List.getElem?_set_self (by rw [wipe_length]; exact hl)]
      · rw [if_neg hl]; exact List.getElem?_eq_none (by rw [List.length_set, wipe_length]; omega)
    · rw [List.getElem?_set_ne e, wipe_get σ vs i]
      by_cases h : i ∈ vs
      · rw [if_pos h, if_pos (List.mem_cons_of_mem _ h)]
      · rw [if_neg h, if_neg (fun z => by rcases List.mem_cons.mp z with z | z; exact e z.symm; exact h z)]
theorem wipe_set {σ : L2.St} {vs : List Nat} {j : Nat} (hj : j ∈ vs) (o : Option V) : wipe (σ.set j o) vs = wipe σ vs := by
  apply List.ext_getElem?
  intro i
  rw [wipe_get, wipe_get, List.length_set]
  by_cases h : i ∈ vs
  · rw [if_pos h, if_pos h]
  · rw [if_neg h, if_neg h, List.getElem?_set_ne (fun e => h (by rw [← e]; exact hj))]
theorem wipe_wipe (σ : L2.St) (vs : List Nat) : wipe (wipe σ vs) vs = wipe σ vs := by
  apply List.ext_getElem?
  intro i
  rw [wipe_get, wipe_get, wipe_length]
  by_cases h : i ∈ vs
  · rw [if_pos h, if_pos h]
  · rw [if_neg h, if_neg h]
/-- a comprehension's target: it writes names of the block alone -/
def rdB (K : PySem.W.Frag) (vs : List Nat) (κ : Kd) (ρ ρ' : List Sl) : TG := fun v σ H Q => ∃ S0 H0 S, En K S0 H0 S H σ ρ ∧ κ.p S v ∧ ∀ σ', wipe σ' vs = wipe σ vs → En K S0 H0 S H σ' ρ' → Q σ' H
def BG (X : Cx) (tg : Expr) (vs : List Nat) (κ : Kd) (ρ ρ' : List Sl) : Prop := PG X tg (rdB X.K vs κ ρ ρ')
/-- the clause's tests -/
def FK (X : Cx) (ifs : List Expr) (ρ : List Sl) (b : Bool) : Prop := PTs X ifs (rdT X.K ρ b)
section
variable {X : Cx} {e a b c : Expr} {ρ ρ1 ρ' : List Sl} {κ κa κb κc : Kd} {pos p apos : Pos} {i j : Int} {ds es : List PyData} {d d' : PyData} {tg : Expr} {vs : List Nat} {ifs : List Expr}
theorem PTs.imp {t t' : TT} (h : PTs X ifs t) (i : ∀ σ H Q, t' σ H Q → t σ H Q) : PTs X ifs t' := ⟨fun pins s σ H Q I q => h.run pins s σ H Q I (i σ H Q q)⟩
theorem bg_name (i : Nat) {x : Str} (hv : i ∈ vs) (hN : X.N.Nodup) (hi : X.N[i]? = some x := by rfl) (hx : Loc X.env.scope x := by first | exact Or.inl rfl | exact Or.inr rfl) (hf : X.fn x = true ∨ X.env.scope.names.lookup x = some .local := by first | exact .inl rfl | exact .inr rfl | assumption) : BG X (.Name x pos) vs κ ρ (ρ.set i (.k κ)) :=
  PG.imp (pg_name hN hi hx hf) fun v σ H Q ⟨S0, H0, S, E, hv2, q⟩ => q _ (wipe_set hv _) (E.set i hv2)
theorem bg_tup2 (i j : Nat) {x y : Str} {p1 p2 : Pos} {kk : Nat} (h1 : i ∈ vs) (h2 : j ∈ vs) (hN : X.N.Nodup) (hc : X.calm = true) (hi : X.N[i]? = some x := by rfl) (hj : X.N[j]? = some y := by rfl) (hx : Loc X.env.scope x := by first | exact Or.inl rfl | exact Or.inr rfl) (hy : Loc X.env.scope y := by first | exact Or.inl rfl | exact Or.inr rfl)
    (hf : X.fn x = true ∨ X.env.scope.names.lookup x = some .local := by first | exact .inl rfl | exact .inr rfl | assumption) (hg : X.fn y = true ∨ X.env.scope.names.lookup y = some .local := by first | exact .inl rfl | exact .inr rfl | assumption) :
    BG X (.Tuple [.Name x p1, .Name y p2] kk pos) vs (kT X.K [d, d']) ρ ((ρ.set i (.k (dt X.K d))).set j (.k (dt X.K d'))) :=
  PG.imp (pg_tup hc (pgs_cons (pg_name hN hi hx hf) (pgs_cons (pg_name hN hj hy hg) pgs_nil))) fun v σ H Q ⟨S0, H0, S, E, hv, q⟩ => by
    obtain ⟨t, xs, rfl, g1, g2⟩ := dp_tup hv
    cases g2 with
    | cons a1 t1 =>
      cases t1 with
      | cons a2 t2 =>
        cases t2
        exact ⟨t, _, rfl, same_t E.same g1, rfl, _, _, rfl, _, _, rfl, rfl, q _ ((wipe_set h2 _).trans (wipe_set h1 _)) ((E.set i a1).set j a2)⟩
theorem fk_nil : FK X [] ρ true := PTs.imp pts_nil fun σ H Q ⟨S0, H0, S, E, q⟩ => q S H (Grow.refl E.same)
theorem fk_one {k : Bool} (h : TK X c ρ k) : FK X [c] ρ k := pts_one h
def uT (X : Cx) (ifs : List Expr) : TT := fun σ H Q => ∃ t, PTs X ifs t ∧ t σ H Q
theorem pts_u : PTs X ifs (uT X ifs) := ⟨fun pins s σ H Q I ⟨t, h, q⟩ => h.run pins s σ H Q I q⟩
/-- which turns give, and what -/
def giv (n : Nat) (b : Nat → Bool) (r : Nat → PyData) : List PyData := ((List.range n).filter b).map r
theorem giv_yes {n : Nat} {b : Nat → Bool} {r : Nat → PyData} (h : b n = true) : giv (n + 1) b r = giv n b r ++ [r n] := by
  unfold giv
  rw [List.range_succ, List.filter_append, List.map_append]
  simp [h]
theorem giv_no {n : Nat} {b : Nat → Bool} {r : Nat → PyData} (h : b n = false) : giv (n + 1) b r = giv n b r := by
  unfold giv
  rw [List.range_succ, List.filter_append, List.map_append]
  simp [h]
theorem giv_len (n : Nat) (b : Nat → Bool) (r : Nat → PyData) : (giv n b r).length ≤ n := by
  unfold giv
  rw [List.length_map]
  exact Nat.le_trans (List.length_filter_le _ _) (by rw [List.length_range]; exact Nat.le_refl _)
theorem giv_map {es : List PyData} {r : Nat → PyData} (h : ∀ i d, es[i]? = some d → r i = d) : giv es.length (fun _ => true) r = es := by
  unfold giv
  rw [List.filter_eq_self.mpr (fun _ _ => rfl)]
  apply List.ext_getElem?
  intro i
  rw [List.getElem?_map]
  by_cases hi : i < es.length
  · rw [List.getElem?_range hi, List.getElem?_eq_getElem hi]
    exact congrArg some (h i _ (List.getElem?_eq_getElem hi))
  · rw [List.getElem?_eq_none (by rw [List.length_range]; omega), List.getElem?_eq_none (by omega)]; rfl
/-- the context of the block, whatever its start -/
abbrev Blk (X : Cx) (scope : Scope) (s : Shared) (H : Hp) (C : Addr) (cl : List (Str × Addr)) (fp : List Addr) : Cx := X.blk s H scope (compEnvC scope cl C X.env) fp
/-- all readings of the block's parts, whatever its start -/
def wG (X : Cx) (scope : Scope) (tg : Expr) : TG := fun v σ H Q => ∃ t, (∀ s H C cl fp, PG (Blk X scope s H C cl fp) tg t) ∧ t v σ H Q
def wT (X : Cx) (scope : Scope) (ifs : List Expr) : TT := fun σ H Q => ∃ t, (∀ s H C cl fp, PTs (Blk X scope s H C cl fp) ifs t) ∧ t σ H Q
def wE (X : Cx) (scope : Scope) (e : Expr) : TE := fun σ H Q => ∃ t, (∀ s H C cl fp, PE (Blk X scope s H C cl fp) e t) ∧ t σ H Q
theorem lc_reads {scope : Scope} {elt iter : Expr} {ks : List PyData} {S0 H0 S H : Hp} {σ : L2.St} {Q : VK} (E : En X.K S0 H0 S H σ ρ) (t : Nat → Bool) (r : Nat → PyData) (g1 : Nat → List Sl)
    (hz : ks.length ≤ 1000)
    (hg : ∀ i d, ks[i]? = some d → ∀ s H C cl fp, BG (Blk X scope s H C cl fp) tg vs (dt X.K d) (wipeS ρ vs) (g1 i))
    (hf : ∀ i d, ks[i]? = some d → ∀ s H C cl fp, FK (Blk X scope s H C cl fp) ifs (g1 i) (t i))
    (he : ∀ i d, ks[i]? = some d → t i = true → ∀ s H C cl fp, EK (Blk X scope s H C cl fp) elt (g1 i) (dt X.K (r i)))
    (q : ∀ v S' H', Grow S H S' H' → (kL X.K (giv ks.length t r)).p S' v → Q v H') :
    tLc (rdI X.K ρ ks) (wG X scope tg) (wT X scope ifs) (wE X scope elt) vs σ H Q := by
  refine ⟨S0, H0, S, E, fun S1 H1 J g J1 => fun D hD => ?_⟩
  have E1 := E.grow g
  have D0 : S1 D = none := same_none E1.same hD
  refine ⟨fun i n H' => i + n = ks.length ∧ ∃ S' acc, Grow S1 H1 S' H' ∧ S' D = none ∧ H' D = some (.lst acc) ∧ DqAll X.K S' acc (giv i t r), ⟨ks.length, by omega, S1, [], Grow.drop E1.same _ hD, D0, upd_same, .nil⟩, ?_⟩
  rintro i n H' ⟨hn, S', acc, gr, dS, dH, dd⟩
  have E2 := E1.grow gr
  by_cases hlt : i < ks.length
  · refine .inr ⟨J1.1 i S' H' gr.s E2.same hlt, fun H2 => ∃ S2 acc2, Grow S1 H1 S2 H2 ∧ S2 D = none ∧ H2 D = some (.lst acc2) ∧ DqAll X.K S2 acc2 (giv (i + 1) t r), fun H2 ⟨S2, acc2, a, b, c, d⟩ => ⟨n - 1, by omega, by omega, S2, acc2, a, b, c, d⟩, fun v H2 y => ?_⟩
    obtain ⟨S2, d, g2, hd2, hv⟩ := J1.2.2 i S' H' v H2 gr.s E2.same hlt y
    have E3 := (E2.grow g2)
    refine ⟨rdB X.K vs (dt X.K d) (wipeS ρ vs) (g1 i), hg i d hd2, S0, H0, S2, en_wipe E3 vs, hv, fun σ2 hw E4 => ⟨hw.trans (wipe_wipe _ _), rdT X.K (g1 i) (t i), hf i d hd2, S0, H0, S2, E4, fun S3 H3 g3 => ?_⟩⟩
    have E5 := E4.grow g3
    have dS3 : S3 D = none := (g2.trans g3).nw D dS (by rw [dH]; exact fun z => nomatch z)
    have dH3 : H3 D = some (.lst acc) := (g2.trans g3).h _ _ dH
    have gr3 := gr.trans (g2.trans g3)
    cases ht : t i with
    | false => exact (if_neg Bool.false_ne_true).mpr ⟨S3, acc, gr3, dS3, dH3, by rw [giv_no ht]; exact dpAll_mono (g2.trans g3).s dd⟩
    | true =>
      refine (if_pos rfl).mpr ⟨rdE X.K (g1 i) (dt X.K (r i)), he i d hd2 ht, S0, H0, S3, E5, fun u S4 H4 g4 hu => ?_⟩
      have dS4 : S4 D = none := g4.nw D dS3 (by rw [dH3]; exact fun z => nomatch z)
      have dH4 : H4 D = some (.lst acc) := g4.h _ _ dH3
      have gr4 := gr3.trans g4
      have hd4 : DqAll X.K S4 (acc ++ [u]) (giv (i + 1) t r) := by
        rw [giv_yes ht]
        exact dpAll_app (dpAll_mono ((g2.trans g3).trans g4).s dd) (.cons hu .nil)
      refine ⟨acc, dH4, ?_, S4, _, ⟨gr4.s, fun x o e => ?_, fun x o e => ?_, gr4.nw⟩, dS4, upd_same, hd4⟩
      · rw [dpAll_len dd]
        exact Nat.lt_of_le_of_lt (Nat.le_trans (giv_len _ _ _) (Nat.le_trans (Nat.le_of_lt hlt) hz)) (by decide)
      · rw [upd_ne (ne_of_none e hD)]; exact gr4.h x o e
      · rw [upd_ne (ne_of_none e dS4)]; exact gr4.sh x o e
  · have hil : i = ks.length := by omega
    subst hil
    refine .inl ⟨J1.2.1 S' H' gr.s E2.same, ?_⟩
    have g5 : Grow S1 H1 (upd S' D (.lst acc)) H' := ⟨gr.s.trans (Same.new dS), gr.h, fun x o e => by
      by_cases hx : x = D
      · subst hx; rw [upd_same] at e; cases e; exact dH
      · rw [upd_ne hx] at e; exact gr.sh x o e, fun x h1 h2 => by
      rw [upd_ne (fun z => h2 (by rw [z]; exact hD))]; exact gr.nw x h1 h2⟩
    exact q _ _ _ (g.trans g5) (.lst (.inl upd_same) (dpAll_mono (Same.new dS) dd))
/-- [elt for tg in iter if ..] -/
theorem ek_lcG {scope : Scope} {elt iter : Expr} {own : List (Str × Nat)} {ks : List PyData} (hc : X.calm = true) (hN : X.N.Nodup) (hi : IK X tg iter ρ ks) (ok : BlkOk X.N X.env.scope scope own) (t : Nat → Bool) (r : Nat → PyData) (g1 : Nat → List Sl) (hz : ks.length ≤ 1000)
    (hg : ∀ i d, ks[i]? = some d → ∀ s H C cl fp, BG (Blk X scope s H C cl fp) tg (own.map (·.2)) (dt X.K d) (wipeS ρ (own.map (·.2))) (g1 i))
    (hf : ∀ i d, ks[i]? = some d → ∀ s H C cl fp, FK (Blk X scope s H C cl fp) ifs (g1 i) (t i))
    (he : ∀ i d, ks[i]? = some d → t i = true → ∀ s H C cl fp, EK (Blk X scope s H C cl fp) elt (g1 i) (dt X.K (r i)))
    (hs : ∀ x, foldedSetIterable iter X.env x = pure x := by intro _; rfl) : EK X (.ListComp elt [⟨tg, iter, ifs, 0⟩] scope pos) ρ (kL X.K (giv ks.length t r)) :=
  EK.of (pe_lc (g := wG X scope tg) (tt := wT X scope ifs) (te := wE X scope elt) hc hN hi ok (fun s H C cl fp => ⟨fun pins s2 σ H v u Q I rv ⟨t, h, q⟩ => (h s _ C cl fp).run pins s2 σ H v u Q I rv q⟩) (fun s H C cl fp => ⟨fun pins s2 σ H Q I ⟨t, h, q⟩ => (h s _ C cl fp).run pins s2 σ H Q I q⟩) (fun s H C cl fp => ⟨fun pins s2 σ H Q I ⟨t, h, q⟩ => (h s _ C cl fp).run pins s2 σ H Q I q⟩) hs)
    fun S0 H0 S H σ Q E q => lc_reads (iter := iter) E t r g1 hz hg hf he q
/-- without a test -/
theorem ek_lc {scope : Scope} {elt iter : Expr} {own : List (Str × Nat)} {ks : List PyData} (es : List PyData) (hc : X.calm = true) (hN : X.N.Nodup) (hi : IK X tg iter ρ ks) (ok : BlkOk X.N X.env.scope scope own) (g1 : Nat → List Sl) (hl : es.length = ks.length) (hz : ks.length ≤ 1000)
    (hg : ∀ i d, ks[i]? = some d → ∀ s H C cl fp, BG (Blk X scope s H C cl fp) tg (own.map (·.2)) (dt X.K d) (wipeS ρ (own.map (·.2))) (g1 i))
    (he : ∀ i d e', ks[i]? = some d → es[i]? = some e' → ∀ s H C cl fp, EK (Blk X scope s H C cl fp) elt (g1 i) (dt X.K e'))
    (hs : ∀ x, foldedSetIterable iter X.env x = pure x := by intro _; rfl) : EK X (.ListComp elt [⟨tg, iter, [], 0⟩] scope pos) ρ (kL X.K es) := by
  have h := ek_lcG (pos := pos) hc hN hi ok (fun _ => true) (fun i => (es[i]?).getD .none) g1 hz hg (fun i d _ s H C cl fp => fk_nil) (fun i d hd _ s H C cl fp => by
    have hi : i < es.length := by rw [hl]; exact (List.getElem?_eq_some_iff.mp hd).1
    rw [List.getElem?_eq_getElem hi]
    exact he i d _ hd (List.getElem?_eq_getElem hi) s H C cl fp) hs
  rw [← hl, giv_map (fun i d hd => by rw [hd]; rfl)] at h
  exact h
/-- y = [..], a statement of its own -/
theorem sk_setLcG {scope : Scope} {elt iter : Expr} {own : List (Str × Nat)} {ks : List PyData} {y : Str} {py spos : Pos} (n : Nat) (hc : X.calm = true) (hN : X.N.Nodup) (hi : IK X tg iter ρ ks) (ok : BlkOk X.N X.env.scope scope own) (t : Nat → Bool) (r : Nat → PyData) (g1 : Nat → List Sl) (hz : ks.length ≤ 1000)
    (hg : ∀ i d, ks[i]? = some d → ∀ s H C cl fp, BG (Blk X scope s H C cl fp) tg (own.map (·.2)) (dt X.K d) (wipeS ρ (own.map (·.2))) (g1 i))
    (hf : ∀ i d, ks[i]? = some d → ∀ s H C cl fp, FK (Blk X scope s H C cl fp) ifs (g1 i) (t i))
    (he : ∀ i d, ks[i]? = some d → t i = true → ∀ s H C cl fp, EK (Blk X scope s H C cl fp) elt (g1 i) (dt X.K (r i)))
    (hsw : swapsWith (.ListComp elt [⟨tg, iter, ifs, 0⟩] scope pos) (some (.Name y py)) spos.line X.env = pure true)
    (hy : X.N[n]? = some y := by rfl) (hyl : X.env.scope.names.lookup y = some .local := by rfl)
    (hs : ∀ x, foldedSetIterable iter X.env x = pure x := by intro _; rfl) : SK X (.Assign [.Name y py] (.ListComp elt [⟨tg, iter, ifs, 0⟩] scope pos) spos) ρ (.nx (ρ.set n (.k (kL X.K (giv ks.length t r))))) :=
  SK.of (ps_setLc (g := wG X scope tg) (tt := wT X scope ifs) (te := wE X scope elt) hc hN hy hyl hsw hi ok (fun s H C cl fp => ⟨fun pins s2 σ H v u Q I rv ⟨t, h, q⟩ => (h s _ C cl fp).run pins s2 σ H v u Q I rv q⟩) (fun s H C cl fp => ⟨fun pins s2 σ H Q I ⟨t, h, q⟩ => (h s _ C cl fp).run pins s2 σ H Q I q⟩) (fun s H C cl fp => ⟨fun pins s2 σ H Q I ⟨t, h, q⟩ => (h s _ C cl fp).run pins s2 σ H Q I q⟩) hs)
    fun S0 H0 S H σ D E q => lc_reads (iter := iter) E t r g1 hz hg hf he fun v S' H' g hv => q S' H' _ g.s ((E.grow g).set n hv)
theorem sk_setLc {scope : Scope} {elt iter : Expr} {own : List (Str × Nat)} {ks : List PyData} {y : Str} {py spos : Pos} (n : Nat) (es : List PyData) (hc : X.calm = true) (hN : X.N.Nodup) (hi : IK X tg iter ρ ks) (ok : BlkOk X.N X.env.scope scope own) (g1 : Nat → List Sl) (hl : es.length = ks.length) (hz : ks.length ≤ 1000)
    (hg : ∀ i d, ks[i]? = some d → ∀ s H C cl fp, BG (Blk X scope s H C cl fp) tg (own.map (·.2)) (dt X.K d) (wipeS ρ (own.map (·.2))) (g1 i))
    (he : ∀ i d e', ks[i]? = some d → es[i]? = some e' → ∀ s H C cl fp, EK (Blk X scope s H C cl fp) elt (g1 i) (dt X.K e'))
    (hsw : swapsWith (.ListComp elt [⟨tg, iter, [], 0⟩] scope pos) (some (.Name y py)) spos.line X.env = pure true)
    (hy : X.N[n]? = some y := by rfl) (hyl : X.env.scope.names.lookup y = some .local := by rfl)
    (hs : ∀ x, foldedSetIterable iter X.env x = pure x := by intro _; rfl) : SK X (.Assign [.Name y py] (.ListComp elt [⟨tg, iter, [], 0⟩] scope pos) spos) ρ (.nx (ρ.set n (.k (kL X.K es)))) := by
  have h := sk_setLcG (pos := pos) n hc hN hi ok (fun _ => true) (fun i => (es[i]?).getD .none) g1 hz hg (fun i d _ s H C cl fp => fk_nil) (fun i d hd _ s H C cl fp => by
    have hi : i < es.length := by rw [hl]; exact (List.getElem?_eq_some_iff.mp hd).1
    rw [List.getElem?_eq_getElem hi]
    exact he i d _ hd (List.getElem?_eq_getElem hi) s H C cl fp) hsw hy hyl hs
  rw [← hl, giv_map (fun i d hd => by rw [hd]; rfl)] at h
  exact h
end
end KD
end
section
namespace KD
open PySem PySem.Spec PyProof.Rows L2

/-! ### zip and enumerate over texts and tuples -/
inductive Sr where
  | txt (x : Str) (t : Tok)
  | tup (a : Addr)
def Sr.fp (it : Addr) : Sr → List Addr
  | .txt _ _ => [it]
  | .tup a => [it, a]
def Sr.st (it : Addr) : Sr → Nat → Heap → Prop
  | .txt x t => fun i h => h.IsStrIter it (strIterType x) x t i
  | .tup a => fun i h => h.IsTupleIter it a i
def Sr.at_ (K : PySem.W.Frag) (H : Hp) : Sr → List V → Prop
  | .txt x _, xs => xs = x.cps.toList.map fun c => .str ⟨#[c]⟩
  | .tup a, xs => SqT K H a xs
def Sr.ne (b : Addr) : Sr → Prop
  | .txt _ _ => True
  | .tup a => a ≠ b
theorem Sr.mem {it : Addr} : ∀ r : Sr, it ∈ r.fp it
  | .txt _ _ => by simp [Sr.fp]
  | .tup a => by simp [Sr.fp]
theorem Sr.notIn {it b : Addr} : ∀ {r : Sr}, b ≠ it → r.ne b → b ∉ r.fp it
  | .txt _ _, h, _ => by simpa [Sr.fp] using h
  | .tup a, h, h2 => by simpa [Sr.fp] using ⟨h, fun e => h2 e.symm⟩
theorem Sr.st_at {it : Addr} {i : Nat} {h h' : Heap} : ∀ {r : Sr}, r.st it i h → (∀ o, h.get? it = some o → h'.get? it = some o) → r.st it i h'
  | .txt x t, ⟨o, ho, r⟩, k => ⟨o, k o ho, r⟩
  | .tup a, s, k => Heap.IsTupleIter.at s k
theorem Sr.st_obj {it : Addr} {i : Nat} {h : Heap} : ∀ {r : Sr}, r.st it i h → ∃ o, h.get? it = some o ∧ ∀ v, o.data ≠ .cell v
  | .txt x t, ⟨o, ho, _, hd⟩ => ⟨o, ho, fun v z => by rw [hd] at z; cases z⟩
  | .tup a, ⟨o, ho, _, hd⟩ => ⟨o, ho, fun v z => by rw [hd] at z; cases z⟩
theorem Sr.draws {X : Cx} {pins : List (Addr × Obj)} {σ : L2.St} {H : Hp} {s : Shared} {A : Around} (I : Inv X pins σ H s) (hh : A.handled = none) {it : Addr} {xs : List V} : ∀ {r : Sr}, r.at_ X.K H xs → r.ne it →
    ∃ (P : Nat → Value → Prop) (St : Nat → Heap → Prop), Draws X.prog X.w A it (r.fp it) xs.length P St ∧ (∀ i, r.st it i s.heap → St i s.heap) ∧ (∀ i h, St i h → r.st it i h) ∧ ∀ i v, P i v → ∃ x, xs[i]? = some x ∧ RelV x v
  | .txt x t, e, _ => by
    have e' : xs = x.cps.toList.map fun c => V.str ⟨#[c]⟩ := e
    subst e'
    refine ⟨_, _, by rw [List.length_map, Array.length_toList]; exact Draws.text hh it x t, fun _ h => h, fun _ _ h => h, fun i v hv => ?_⟩
    obtain ⟨c, u, hc, rfl⟩ := hv
    exact ⟨.str ⟨#[c]⟩, by rw [List.getElem?_map, Array.getElem?_toList, hc]; rfl, u, rfl⟩
  | .tup a, h, hne => by
    obtain ⟨its, rv, p, _⟩ := I.tuple h
    have hl : its.toArray.size = xs.length := by rw [List.size_toArray, rv.length]
    have D := Draws.tuple (prog := X.prog) (w := X.w) hh it a hne its.toArray
    rw [hl] at D
    refine ⟨_, _, D, fun _ h => ⟨h, p⟩, fun _ _ h => h.1, fun i v hv => ?_⟩
    have hi : i < xs.length := by
      rw [← hl]
      exact (Array.getElem?_eq_some_iff.mp hv).1
    obtain ⟨u, hu, ru⟩ := rv.get (List.getElem?_eq_getElem hi)
    have e : its.toArray[i]? = some u := by simpa using hu
    rw [hv] at e
    cases e
    exact ⟨_, List.getElem?_eq_getElem hi, ru⟩
/-- the two stand as they stood; the items in new pairs -/
def Ity (K : PySem.W.Frag) (r1 r2 : Sr) (xs ys : List V) : It :=
  ⟨fun i H => r1.at_ K H xs ∧ r2.at_ K H ys ∧ i < xs.length ∧ i < ys.length,
    fun i H v H' => ∃ T x y, v = .ref T ∧ H T = none ∧ H' = upd H T (.tup [x, y]) ∧ xs[i]? = some x ∧ ys[i]? = some y,
    fun i H => r1.at_ K H xs ∧ r2.at_ K H ys ∧ i ≤ xs.length ∧ i ≤ ys.length ∧ (i = xs.length ∨ i = ys.length)⟩
/-- the cells of a zip lie apart from each other and from what is walked -/
structure Ap (z TI TO i1 i2 : Addr) (r1 r2 : Sr) : Prop where
  s : ZipSep2 z TI TO i1 i2 (r1.fp i1) (r2.fp i2)
  i1z : i1 ≠ z
  i2z : i2 ≠ z
  n1 : r1.ne i1
  n2 : r2.ne i2
theorem turn_y {P : Program} {w : World} {K : PySem.W.Frag} {elts : List Expr} {kk : Nat} {tpos : Pos} {z TI TO i1 i2 : Addr} {r1 r2 : Sr} {xs ys : List V} (D : Ap z TI TO i1 i2 r1 r2) :
    Turn P w K (.Tuple elts kk tpos) (Ity K r1 r2 xs ys) [z, TI, TO, i1, i2] z (fun i h => IsZip h z TI TO .none ∧ IsPair h TI (.ref i1) (.ref i2) ∧ (∃ x y, IsPair h TO x y) ∧ r1.st i1 i h ∧ r2.st i2 i h) where
  mem := List.mem_cons_self
  obj := fun i h st c hc => by
    obtain ⟨hz, hTI, ⟨x, y, hTO⟩, s1, s2⟩ := st
    have e' : c = z ∨ c = TI ∨ c = TO ∨ c = i1 ∨ c = i2 := by simpa using hc
    rcases e' with rfl | rfl | rfl | rfl | rfl
    · exact ⟨_, hz, fun v q => nomatch q⟩
    · exact ⟨_, hTI, fun v q => nomatch q⟩
    · exact ⟨_, hTO, fun v q => nomatch q⟩
    · exact Sr.st_obj s1
    · exact Sr.st_obj s2
  keep := fun i h h' st k => by
    obtain ⟨hz, hTI, ⟨x, y, hTO⟩, s1, s2⟩ := st
    exact ⟨k z (by simp) _ hz, k TI (by simp) _ hTI, ⟨x, y, k TO (by simp) _ hTO⟩, Sr.st_at s1 fun o q => k i1 (by simp) o q, Sr.st_at s2 fun o q => k i2 (by simp) o q⟩
  item := by
    intro X hP hw hK hc i pins s σ H E I hf st hg
    subst hP hw hK
    obtain ⟨hz, hTI, ⟨x0, y0, hTO⟩, s1, s2⟩ := st
    obtain ⟨g1, g2, l1, l2⟩ := hg
    obtain ⟨P1, St1, D1, a1, b1, c1⟩ := Sr.draws (A := X.A.in1) I (I.ok.hd hc) g1 D.n1
    obtain ⟨P2, St2, D2, a2, b2, c2⟩ := Sr.draws (A := X.A.in1) I (I.ok.hd hc) g2 D.n2
    have hzl : z < s.heap.objs.size := Heap.lt_size hz
    refine wpAny_pyNext_zipD2_item D.s D1 D2 hz hTI hTO (a1 i s1) (a2 i s2) l1 l2 fun v1 v2 h' tk p1 p2 z' TO' s1' s2' hT hsz hk => ?_
    obtain ⟨x, hx, rx⟩ := c1 i v1 p1
    obtain ⟨y, hy, ry⟩ := c2 i v2 p2
    refine ⟨_, rfl, wpAny_letOwnedTupleGo_zip (s := { s with heap := h', toks := tk }) z' fun h'' z'' sb => ?_⟩
    have hT2 : h''.get? s.heap.objs.size = some { cls := .type "tuple", data := .seq #[v1, v2] } := (sb.2 _ (Nat.ne_of_gt hzl)).trans hT
    have new : ObjOk X.prog X.w (upd H s.heap.objs.size (.tup [x, y])) h'' s.heap.objs.size (.tup [x, y]) :=
      ⟨by show 2 ≤ sizeLine; decide, [v1, v2], .cons rx (.cons ry .nil), ⟨_, hT2, rfl, _, rfl⟩⟩
    have I1 : Inv X pins σ (upd H s.heap.objs.size (.tup [x, y])) { s with heap := h'', toks := tk } :=
      I.turnedNew (t' := tk) (ch := [z, TI, TO, i1, i2]) (fun c o hb q => by
        have n : c ≠ z ∧ c ≠ TI ∧ c ≠ TO ∧ c ≠ i1 ∧ c ≠ i2 := by simpa using hb
        exact (sb.2 c n.1).trans (hk c o n.1 n.2.2.1 n.2.2.2.1 n.2.2.2.2 q)) hf (Nat.le_refl _) new
    refine ⟨.ref s.heap.objs.size, _, I1, rfl, ⟨_, x, y, rfl, I.hok.fresh (Nat.le_refl _), rfl, hx, hy⟩, ⟨z'', ?_, ⟨v1, v2, ?_⟩, ?_, ?_⟩, fun c hcm => ?_⟩
    · exact (sb.2 _ D.s.TIz).trans (hk _ _ D.s.TIz D.s.TITO D.s.TIi1 D.s.TIi2 hTI)
    · exact (sb.2 _ D.s.TOz).trans TO'
    · exact Sr.st_at (b1 _ _ s1') fun o q => (sb.2 _ D.i1z).trans q
    · exact Sr.st_at (b2 _ _ s2') fun o q => (sb.2 _ D.i2z).trans q
    · have hlt : c < s.heap.objs.size := by
        have e' : c = z ∨ c = TI ∨ c = TO ∨ c = i1 ∨ c = i2 := by simpa using hcm
        rcases e' with rfl | rfl | rfl | rfl | rfl
        · exact hzl
        · exact Heap.lt_size hTI
        · exact Heap.lt_size hTO
        · obtain ⟨_, e1, _⟩ := Sr.st_obj s1; exact Heap.lt_size e1
        · obtain ⟨_, e1, _⟩ := Sr.st_obj s2; exact Heap.lt_size e1
      rw [upd_ne (Nat.ne_of_lt hlt)]
      exact (hf c hcm).1
  done := by
    intro X hP hw hK hc i pins s σ H E I hf st hg
    subst hP hw hK
    obtain ⟨hz, hTI, ⟨x0, y0, hTO⟩, s1, s2⟩ := st
    obtain ⟨g1, g2, l1, l2, le⟩ := hg
    obtain ⟨P1, St1, D1, a1, b1, c1⟩ := Sr.draws (A := X.A.in1) I (I.ok.hd hc) g1 D.n1
    obtain ⟨P2, St2, D2, a2, b2, c2⟩ := Sr.draws (A := X.A.in1) I (I.ok.hd hc) g2 D.n2
    exact wpAny_pyNext_zipD2_end D.s D1 D2 hz hTI hTO (a1 i s1) (a2 i s2) l1 l2 le fun h' tk hk => ⟨rfl, I.turnedL (t' := tk) (ch := [z, TI, TO, i1, i2]) (fun c o hb q => by
      have n : c ≠ z ∧ c ≠ TI ∧ c ≠ TO ∧ c ≠ i1 ∧ c ≠ i2 := by simpa using hb
      exact hk c o n.1 n.2.2.1 n.2.2.2.1 n.2.2.2.2 q) hf⟩
  self := fun A i s Q E st h => wpAny_pyIter_zip st.1 h

/-- how a source stands behind its value -/
def SrV (K : PySem.W.Frag) (S : Hp) (v : V) (xs : List V) : Prop := (∃ x, v = .str x ∧ xs = x.cps.toList.map fun c => .str ⟨#[c]⟩) ∨ ∃ a, v = .ref a ∧ SqT K S a xs
theorem srv_begins {X : Cx} {pins : List (Addr × Obj)} {σ : L2.St} {H : Hp} {s : Shared} (I : Inv X pins σ H s) {v : V} {u : Value} {xs : List V} (h : SrV X.K H v xs) (ru : RelV v u) : ∃ (r : Sr) (o : Obj) (G : Heap → Prop), Begins u o G ∧ G s.heap ∧ r.at_ X.K H xs ∧ (∀ b, s.heap.objs.size ≤ b → r.ne b) ∧
    (∀ (h' : Heap) (it : Addr), h'.get? it = some o → r.st it 0 h') ∧ ∀ S2, SrV X.K S2 v xs → r.at_ X.K S2 xs := by
  rcases h with ⟨x, rfl, rfl⟩ | ⟨a, rfl, h⟩
  · obtain ⟨t, rfl⟩ := ru
    exact ⟨.txt x t, _, _, begins_text x t, trivial, rfl, fun _ _ => trivial, fun h' it e => ⟨_, e, rfl, rfl⟩, fun _ _ => rfl⟩
  · cases ru
    obtain ⟨its, rv, p, _⟩ := I.tuple h
    obtain ⟨o, ho, _⟩ := id p
    exact ⟨.tup a, _, _, begins_tuple a its.toArray, p, h, fun b hb => Nat.ne_of_lt (Nat.lt_of_lt_of_le (Heap.lt_size ho) hb), fun h' it e => ⟨_, e, rfl, rfl⟩, fun S2 k => by
      rcases k with ⟨x, e, _⟩ | ⟨a', e, h'⟩
      · cases e
      · cases e; exact h'⟩
def iZipY (K : PySem.W.Frag) (ta : TA) : TI := fun σ H R => ta σ H fun vs H1 => ∃ v1 v2 xs ys, vs = [v1, v2] ∧ SrV K H1 v1 xs ∧ SrV K H1 v2 ys ∧ ∀ r1 r2 : Sr, r1.at_ K H1 xs → r2.at_ K H1 ys → (∀ S2, SrV K S2 v1 xs → r1.at_ K S2 xs) → (∀ S2, SrV K S2 v2 ys → r2.at_ K S2 ys) → R (Ity K r1 r2 xs ys) H1
theorem addr5 (n : Nat) : n + 2 ≠ n + 4 ∧ n + 3 ≠ n + 4 ∧ n + 2 ≠ n + 3 ∧ n + 2 ≠ n ∧ n + 2 ≠ n + 1 ∧ n + 4 ≠ n ∧ n + 4 ≠ n + 1 ∧ n + 3 ≠ n ∧ n + 3 ≠ n + 1 ∧ n ≠ n + 1 ∧ n + 1 ≠ n ∧ n ≠ n + 4 ∧ n + 1 ≠ n + 4 := by omega
theorem le5 (n : Nat) : n ≤ n ∧ n ≤ n + 1 ∧ n ≤ n + 2 ∧ n ≤ n + 3 ∧ n ≤ n + 4 := by omega
theorem pi_zipY {X : Cx} {e e2 : Expr} {ta : TA} {p pos tpos : Pos} {elts : List Expr} {kk : Nat} (hg : Gl X "zip") (hm : X.mg "zip" = none) (ha : PA X [e, e2] ta)
    (hs : starEach [e, e2] X.env = (false, eval e X.env) :: starEach [e2] X.env) (hpl : (backTo pos (starEach [e2] X.env)).any (·.1) = false) :
    PI X (.Tuple elts kk tpos) (.Call (.Name "zip" p) [e, e2] [] pos) (iZipY X.K ta) := by
  refine ⟨fun pins s σ H R I h => ?_⟩
  refine Call_ (ld_blt I hg hm PyProof.Rows.boot_zip (PyProof.Rows.callWith_type1 (thn (ha.run pos pins s σ H _ I h) fun us s1 ⟨vs, H1, I1, r1, q1⟩ => ?_) hs hpl))
  obtain ⟨v1, v2, xs, ys, rfl, w1, w2, q⟩ := q1
  cases r1 with
  | cons ra rr =>
    cases rr with
    | cons rb rr =>
      cases rr
      obtain ⟨r1, o1, G1, B1, g1, at1, ne1, st1, mv1⟩ := srv_begins I1 w1 ra
      obtain ⟨r2, o2, G2, B2, g2, at2, ne2, st2, mv2⟩ := srv_begins I1 w2 rb
      refine zip_begins2 B1 B2 g1 g2 fun h' hz hTI hTO hi1 hi2 hsz hk => wpAny_pyIter_zip hz ?_
      have I2 : Inv X pins σ H1 { s1 with heap := h' } := I1.kept (t' := s1.toks) hk
      have n5 := addr5 s1.heap.objs.size
      have l5 := le5 s1.heap.objs.size
      have D : Ap (s1.heap.objs.size + 4) (s1.heap.objs.size + 2) (s1.heap.objs.size + 3) s1.heap.objs.size (s1.heap.objs.size + 1) r1 r2 :=
        ⟨⟨n5.1, n5.2.1, n5.2.2.1, n5.2.2.2.1, Sr.mem _, Sr.notIn n5.2.2.2.2.2.1 (ne1 _ l5.2.2.2.2), Sr.notIn n5.2.2.2.2.2.2.2.1 (ne1 _ l5.2.2.2.1), n5.2.2.2.2.1, Sr.mem _, Sr.notIn n5.2.2.2.2.2.2.1 (ne2 _ l5.2.2.2.2), Sr.notIn n5.2.2.2.2.2.2.2.2.1 (ne2 _ l5.2.2.2.1), Sr.notIn n5.2.2.2.2.2.2.2.2.2.1 (ne2 _ l5.1), Sr.notIn n5.2.2.2.2.2.2.2.2.2.2.1 (ne1 _ l5.2.1)⟩,
          n5.2.2.2.2.2.2.2.2.2.2.2.1, n5.2.2.2.2.2.2.2.2.2.2.2.2, ne1 _ l5.1, ne2 _ l5.2.1⟩
      refine ⟨s1.heap.objs.size + 4, [s1.heap.objs.size + 4, s1.heap.objs.size + 2, s1.heap.objs.size + 3, s1.heap.objs.size, s1.heap.objs.size + 1], _, _, H1, rfl, I2, turn_y D, ⟨hz, hTI, ⟨_, _, hTO⟩, st1 _ _ hi1, st2 _ _ hi2⟩, fun c hcm => ?_, q r1 r2 at1 at2 mv1 mv2⟩
      have hle : s1.heap.objs.size ≤ c := by
        have e' : c = s1.heap.objs.size + 4 ∨ c = s1.heap.objs.size + 2 ∨ c = s1.heap.objs.size + 3 ∨ c = s1.heap.objs.size ∨ c = s1.heap.objs.size + 1 := by simpa using hcm
        rcases e' with rfl | rfl | rfl | rfl | rfl
        · exact l5.2.2.2.2
        · exact l5.2.2.1
        · exact l5.2.2.2.1
        · exact l5.1
        · exact l5.2.1
      exact I1.fpOk hle (I1.hok.fresh hle)
/-- the items of a text, of a tuple -/
def seqD : PyData → Option (List PyData)
  | .str x => some (signsD x)
  | .tuple ds => some ds
  | _ => none
theorem srv_of {K : PySem.W.Frag} {S : Hp} {v : V} {d : PyData} {ks : List PyData} (h : Dq K S v d) (e : seqD d = some ks) : ∃ xs, SrV K S v xs ∧ DqAll K S xs ks := by
  cases h with
  | non => cases e
  | bl _ => cases e
  | int _ => cases e
  | lst _ _ => cases e
  | str x =>
    cases e
    refine ⟨_, .inl ⟨x, rfl, rfl⟩, ?_⟩
    unfold signsD
    generalize x.cps.toList = l
    induction l with
    | nil => exact .nil
    | cons c r ih => exact .cons (.str _) ih
  | tup h1 h2 => cases e; exact ⟨_, .inr ⟨_, rfl, h1⟩, h2⟩
theorem srv_mono {K : PySem.W.Frag} {S S' : Hp} {v : V} {xs : List V} (e : Same S S') (h : SrV K S v xs) : SrV K S' v xs := by
  rcases h with h | ⟨a, h1, h2⟩
  · exact .inl h
  · exact .inr ⟨a, h1, same_t e h2⟩
def zipD (ks ls : List PyData) : List PyData := List.zipWith (fun x y => .tuple [x, y]) ks ls
theorem zipD_len (ks ls : List PyData) : (zipD ks ls).length = min ks.length ls.length := List.length_zipWith
theorem zipD_get {ks ls : List PyData} {i : Nat} {x y : PyData} (h1 : ks[i]? = some x) (h2 : ls[i]? = some y) : (zipD ks ls)[i]? = some (.tuple [x, y]) := by
  unfold zipD
  rw [List.getElem?_zipWith, h1, h2]
section
variable {X : Cx} {a b : Expr} {ρ : List Sl} {pos p tpos : Pos} {d d' : PyData} {ks ls : List PyData} {elts : List Expr} {kk : Nat}
theorem ik_zip (hm : X.mg "zip" = none) (ha : EK X a ρ (dt X.K d)) (hb : EK X b ρ (dt X.K d')) (h1 : seqD d = some ks) (h2 : seqD d' = some ls) (hg : Gl X "zip" := by rfl)
    (hs : starEach [a, b] X.env = (false, eval a X.env) :: starEach [b] X.env := by rfl) (hs2 : starEach [b] X.env = (false, eval b X.env) :: starEach [] X.env := by rfl) (hpl : (backTo pos (starEach [b] X.env)).any (·.1) = false := by rfl) :
    IK X (.Tuple elts kk tpos) (.Call (.Name "zip" p) [a, b] [] pos) ρ (zipD ks ls) :=
  PI.imp (pi_zipY hg hm (ak_cons ha (ak_cons hb ak_nil hs2) hs) hs hpl) fun σ H R ⟨S0, H0, S, E, q⟩ => ak_run E fun vs S1 H1 g E1 hv => by
    obtain ⟨v, u, rfl, q1, q2⟩ := all2 hv
    obtain ⟨xs, w1, dx⟩ := srv_of q1 h1
    obtain ⟨ys, w2, dy⟩ := srv_of q2 h2
    have lx := dpAll_len dx
    have ly := dpAll_len dy
    refine ⟨v, u, xs, ys, rfl, srv_mono E1.same w1, srv_mono E1.same w2, fun r1 r2 a1 a2 m1 m2 => q S1 H1 _ g ?_⟩
    have st1 : ∀ S2 H2, Same S1 S2 → Same S2 H2 → r1.at_ X.K H2 xs := fun S2 H2 e2 e3 => m1 H2 (srv_mono (e2.trans e3) w1)
    have st2 : ∀ S2 H2, Same S1 S2 → Same S2 H2 → r2.at_ X.K H2 ys := fun S2 H2 e2 e3 => m2 H2 (srv_mono (e2.trans e3) w2)
    have lz := zipD_len ks ls
    refine ⟨fun i S2 H2 e2 e3 hi => ⟨st1 S2 H2 e2 e3, st2 S2 H2 e2 e3, by omega, by omega⟩, fun S2 H2 e2 e3 => ⟨st1 S2 H2 e2 e3, st2 S2 H2 e2 e3, by omega, by omega, by omega⟩, fun i S2 H2 w H3 e2 e3 hi y => ?_⟩
    obtain ⟨T, x, z, rfl, hT, rfl, hx, hz⟩ := y
    obtain ⟨dx', hdx⟩ : ∃ d, ks[i]? = some d := ⟨_, List.getElem?_eq_getElem (by omega)⟩
    obtain ⟨dz', hdz⟩ : ∃ d, ls[i]? = some d := ⟨_, List.getElem?_eq_getElem (by omega)⟩
    obtain ⟨x', hx', qx⟩ := dpAll_get dx hdx
    obtain ⟨z', hz', qz⟩ := dpAll_get dy hdz
    rw [hx] at hx'
    rw [hz] at hz'
    cases hx'
    cases hz'
    have g2 := Grow.new e3 (.tup [x, z]) hT
    exact ⟨_, _, g2, zipD_get hdx hdz, .tup (.inl (.inl upd_same)) (dpAll_mono (e2.trans g2.s) (.cons qx (.cons qz .nil)))⟩

/-! ### enumerate of a tuple -/
def IteT (K : PySem.W.Frag) (a : Addr) : It :=
  ⟨fun i H => ∃ (xs : List V) (x : V), SqT K H a xs ∧ xs[i]? = some x, fun i H v H' => ∃ T x, v = .ref T ∧ H T = none ∧ H' = upd H T (.tup [.int (i : Nat), x]) ∧ ∀ xs, SqT K H a xs → xs[i]? = some x, fun i H => ∃ xs : List V, SqT K H a xs ∧ i = xs.length⟩
theorem turn_enumT {P : Program} {w : World} {K : PySem.W.Frag} (aa ee it : Addr) (n1 : aa ≠ it) (n2 : ee ≠ aa) :
    Turn P w K (.Tuple elts kk tpos) (IteT K aa) [ee, it] ee (fun i h => (∃ old, IsEnum h ee it ((i : Nat) : Int) old) ∧ h.IsTupleIter it aa i ∧ ee ≠ it) where
  mem := List.mem_cons_self
  obj := fun i h st b hb => by
    obtain ⟨⟨old, he⟩, ⟨o, ho, hc, hd⟩, _⟩ := st
    have e' : b = ee ∨ b = it := by simpa using hb
    rcases e' with rfl | rfl
    · exact ⟨_, he, fun v q => nomatch q⟩
    · exact ⟨o, ho, fun v q => by rw [hd] at q; cases q⟩
  keep := fun i h h' st k => let ⟨⟨old, he⟩, hi, hne⟩ := st; ⟨⟨old, k ee (by simp) _ he⟩, hi.at fun o q => k it (by simp) o q, hne⟩
  item := by
    intro X hP hw hK hc i pins s σ H E I hf st hg
    subst hP hw hK
    obtain ⟨⟨old, he⟩, hit, hne⟩ := st
    obtain ⟨xs, x, hq, hx⟩ := hg
    obtain ⟨its, rv, p, _⟩ := I.tuple hq
    obtain ⟨u, hu, ru⟩ := rv.get hx
    have hel : ee < s.heap.objs.size := Heap.lt_size he
    have hil : it < s.heap.objs.size := by obtain ⟨_, q, _⟩ := hit; exact Heap.lt_size q
    have hsz : its.toArray.size = xs.length := by rw [List.size_toArray, rv.length]
    have D := Draws.tuple (prog := X.prog) (w := X.w) (A := X.A.in1) (I.ok.hd hc) it aa n1 its.toArray
    refine wpAny_pyNext_enum_itemC D he ⟨hit, p⟩ (by rw [hsz]; exact (List.getElem?_eq_some_iff.mp hx).1) hne (by simp; exact ⟨hne, n2⟩) fun x' h' tk hP ho hit' hT hsz2 hk => ?_
    have e : its.toArray[i]? = some u := by simpa using hu
    rw [hP] at e
    cases e
    refine ⟨_, rfl, wpAny_letOwnedTupleGo_enum (s := { s with heap := h', toks := tk + 1 }) ho fun h'' he' sb => ?_⟩
    have hT2 : h''.get? s.heap.objs.size = some { cls := .type "tuple", data := .seq #[.int i tk, u] } := (sb.2 _ (Nat.ne_of_gt hel)).trans hT
    have new : ObjOk X.prog X.w (upd H s.heap.objs.size (.tup [.int (i : Nat), x])) h'' s.heap.objs.size (.tup [.int (i : Nat), x]) :=
      ⟨by show 2 ≤ sizeLine; decide, [.int i tk, u], .cons ⟨_, rfl⟩ (.cons ru .nil), ⟨_, hT2, rfl, _, rfl⟩⟩
    have I1 : Inv X pins σ (upd H s.heap.objs.size (.tup [.int (i : Nat), x])) { s with heap := h'', toks := tk + 1 } :=
      I.turnedNew (ch := [ee, it]) (fun b ob hb q => by
        have n : b ≠ ee ∧ b ≠ it := by simpa using hb
        exact (sb.2 b n.1).trans (hk b ob n.1 n.2 q)) hf (Nat.le_refl _) new
    refine ⟨.ref s.heap.objs.size, _, I1, rfl, ⟨_, x, rfl, I.hok.fresh (Nat.le_refl _), rfl, fun ys hy => by rw [I.tuple_inj hy hq]; exact hx⟩, ⟨⟨u, ?_⟩, hit'.1.at fun o q => (sb.2 it (Ne.symm hne)).trans q, hne⟩, fun b hb => ?_⟩
    · rw [Int.natCast_succ]; exact he'
    · have hb' : b < s.heap.objs.size := by
        have e' : b = ee ∨ b = it := by simpa using hb
        rcases e' with rfl | rfl
        · exact hel
        · exact hil
      rw [upd_ne (Nat.ne_of_lt hb')]
      exact (hf b hb).1
  done := by
    intro X hP hw hK hc i pins s σ H E I hf st hg
    subst hP hw hK
    obtain ⟨⟨old, he⟩, hit, hne⟩ := st
    obtain ⟨xs, hq, hx⟩ := hg
    obtain ⟨its, rv, p, _⟩ := I.tuple hq
    have hsz : its.toArray.size = xs.length := by rw [List.size_toArray, rv.length]
    have D := Draws.tuple (prog := X.prog) (w := X.w) (A := X.A.in1) (I.ok.hd hc) it aa n1 its.toArray
    have he2 : IsEnum s.heap ee it ((its.toArray.size : Nat) : Int) old := by rw [hsz, ← hx]; exact he
    exact wpAny_pyNext_enum_endD D he2 ⟨by rw [hsz, ← hx]; exact hit, p⟩ fun h' eb => ⟨rfl, I.turnedL (t' := s.toks) (ch := [ee, it]) (fun b o hb q => eb b o (fun z => hb (by simp [z])) q) hf⟩
  self := fun A i s Q E st h => let ⟨⟨_, he⟩, _⟩ := st; wpAny_pyIter_enum he h
def iEnumT (K : PySem.W.Frag) (ta : TA) : TI := fun σ H R => ta σ H fun vs H1 => ∃ a xs, vs = [.ref a] ∧ SqT K H1 a xs ∧ R (IteT K a) H1
end
/-- enumerate(v) of whatever begins -/
theorem made_enum {v : Value} {o : Obj} {G : Heap → Prop} (B : Begins v o G) :
    Meets (Builtin.«enumerate.__new__» ⟨[.type "enumerate", v], []⟩) (fun _ R s => G s.heap ∧
      R (.ok (.ret (.ref (s.heap.push o).objs.size))) { s with heap := (s.heap.push o).push { cls := .type "enumerate", data := .fields #[.none, .bool false, .ref s.heap.objs.size, rawInt 0, .none, .none] } }) :=
  .of_wp fun prog w A R s h => by
    obtain ⟨hp, gs, dr, tk, os⟩ := s
    obtain ⟨h1, h⟩ := h
    have hsub := sub_enumerate
    have q1 : ∀ {A' : Around} {E : Value → Shared → Prop} {Q : Value → Shared → Prop}, Q (.ref hp.objs.size) ⟨hp.push o, gs, dr, tk, os⟩ → wpAny (model prog w) A' (pyIter v) Q E ⟨hp, gs, dr, tk, os⟩ :=
      fun q => B.iter prog w _ _ ⟨hp, gs, dr, tk, os⟩ _ h1 q
    wp_walk using q1
    refine wpAny_stack_any fun st => wpAny_pure ?_
    split
    · rename_i c _ _ _ _ _
      cases (c == Value.type "enumerate") <;> (wp_walk using q1; exact ⟨_, rfl, h⟩)
    · wp_walk using q1
      exact ⟨_, rfl, h⟩
theorem call_enum1 {prog : Program} {w : World} {A : Around} {E : Value → Shared → Prop} {s : Shared} {v : Value} {o : Obj} {G : Heap → Prop} {Q : Value → Shared → Prop} (B : Begins v o G) (h1 : G s.heap)
    (h : ∀ h', IsEnum h' (s.heap.objs.size + 1) s.heap.objs.size 0 .none → h'.get? s.heap.objs.size = some o → (∀ b o, s.heap.get? b = some o → h'.get? b = some o) → Q (.ref (s.heap.objs.size + 1)) { s with heap := h' }) :
    wpAny (model prog w) A (call (.type "enumerate") [v]) Q E s := by
  refine callType_new F.called_enumerate (by decide) (F.typeCall_enumerate_1 _) (F.newCall_enumerate_1 _) (fun obj => F.args_object_init_2 obj _) F.entry_enumerate_new (made_enum B) ⟨h1, ?_⟩
  have hz : (s.heap.push o).objs.size = s.heap.objs.size + 1 := Heap.size_push ..
  have he : IsEnum ((s.heap.push o).push { cls := .type "enumerate", data := .fields #[.none, .bool false, .ref s.heap.objs.size, rawInt 0, .none, .none] }) (s.heap.objs.size + 1) s.heap.objs.size 0 .none := by
    have e := Heap.get?_push_size (s.heap.push o) (o := { cls := .type "enumerate", data := .fields #[.none, .bool false, .ref s.heap.objs.size, rawInt 0, .none, .none] }) rfl
    rwa [hz] at e
  show _ ∧ _
  rw [hz]
  exact ⟨⟨_, he, rfl⟩, h _ he (Heap.get?_push_of_some _ (Heap.get?_push_size _ B.free)) fun b o x => Heap.get?_push_of_some _ (Heap.get?_push_of_some _ x)⟩
theorem pi_enumT {X : Cx} {e : Expr} {ta : TA} {p pos tpos : Pos} {elts : List Expr} {kk : Nat} (hg : Gl X "enumerate") (hm : X.mg "enumerate" = none) (ha : PA X [e] ta) (hs : starEach [e] X.env = [(false, eval e X.env)]) :
    PI X (.Tuple elts kk tpos) (.Call (.Name "enumerate" p) [e] [] pos) (iEnumT X.K ta) := by
  refine ⟨fun pins s σ H R I h => ?_⟩
  refine Call_ (ld_blt I hg hm PyProof.Rows.boot_enumerate (PyProof.Rows.callWith_type1 (thn (ha.run pos pins s σ H _ I h) fun us s1 ⟨vs, H1, I1, r1, q1⟩ => ?_) hs rfl))
  obtain ⟨a, xs, rfl, hq, q⟩ := q1
  cases r1 with
  | cons r rr =>
    cases rr
    cases r
    obtain ⟨its, rv, p', _⟩ := I1.tuple hq
    obtain ⟨o, ho, _⟩ := id p'
    have hlt : a < s1.heap.objs.size := Heap.lt_size ho
    refine call_enum1 (begins_tuple a its.toArray) p' fun h' he hit hk => wpAny_pyIter_enum he ?_
    have I2 : Inv X pins σ H1 { s1 with heap := h' } := I1.kept (t' := s1.toks) hk
    refine ⟨s1.heap.objs.size + 1, [s1.heap.objs.size + 1, s1.heap.objs.size], _, _, H1, rfl, I2, turn_enumT a (s1.heap.objs.size + 1) s1.heap.objs.size (Nat.ne_of_lt hlt) (Nat.ne_of_gt (Nat.lt_succ_of_lt hlt)), ⟨⟨.none, he⟩, ⟨_, hit, rfl, rfl⟩, Nat.succ_ne_self _⟩, fun b hb => ?_, q⟩
    have hle : s1.heap.objs.size ≤ b := by
      have e' : b = s1.heap.objs.size + 1 ∨ b = s1.heap.objs.size := by simpa using hb
      rcases e' with rfl | rfl
      · exact Nat.le_succ _
      · exact Nat.le_refl _
    exact I1.fpOk hle (I1.hok.fresh hle)
def enumD (ks : List PyData) : List PyData := ks.zipIdx.map fun p => .tuple [.int (p.2 : Nat), p.1]
theorem enumD_len (ks : List PyData) : (enumD ks).length = ks.length := by unfold enumD; simp
theorem enumD_get {ks : List PyData} {i : Nat} {x : PyData} (h : ks[i]? = some x) : (enumD ks)[i]? = some (.tuple [.int (i : Nat), x]) := by
  unfold enumD
  rw [List.getElem?_map, List.getElem?_zipIdx, h]
  simp
theorem ik_enum {X : Cx} {e : Expr} {ρ : List Sl} {pos p tpos : Pos} {ds : List PyData} {elts : List Expr} {kk : Nat} (hm : X.mg "enumerate" = none) (ha : EK X e ρ (kT X.K ds)) (hg : Gl X "enumerate" := by rfl) (hs : starEach [e] X.env = [(false, eval e X.env)] := by rfl) :
    IK X (.Tuple elts kk tpos) (.Call (.Name "enumerate" p) [e] [] pos) ρ (enumD ds) :=
  PI.imp (pi_enumT hg hm (ak_cons ha ak_nil hs) hs) fun σ H R ⟨S0, H0, S, E, q⟩ => ak_run E fun vs S1 H1 g E1 hv => by
    obtain ⟨v, rfl, h⟩ := all1 hv
    obtain ⟨l, xs, rfl, h1, h2⟩ := dp_tup h
    have len := dpAll_len h2
    have lz := enumD_len ds
    have at_ : ∀ S2 H2, Same S1 S2 → Same S2 H2 → SqT X.K H2 l xs := fun S2 H2 e2 e3 => same_t (e2.trans e3) h1
    refine ⟨l, xs, rfl, at_ S1 H1 (Same.refl _) E1.same, q S1 H1 _ g ⟨fun i S2 H2 e2 e3 hi => ⟨xs, xs[i]'(by omega), at_ S2 H2 e2 e3, List.getElem?_eq_getElem (by omega)⟩, fun S2 H2 e2 e3 => ⟨xs, at_ S2 H2 e2 e3, by omega⟩, fun i S2 H2 w H3 e2 e3 hi y => ?_⟩⟩
    obtain ⟨T, x, rfl, hT, rfl, f⟩ := y
    obtain ⟨dx, hdx⟩ : ∃ d, ds[i]? = some d := ⟨_, List.getElem?_eq_getElem (by omega)⟩
    obtain ⟨x', hx', qx⟩ := dpAll_get h2 hdx
    have ex := (f xs (at_ S2 H2 e2 e3)).symm.trans hx'
    cases ex
    have g2 := Grow.new e3 (.tup [.int (i : Nat), x]) hT
    exact ⟨_, _, g2, enumD_get hdx, .tup (.inl (.inl upd_same)) (.cons (.int _) (.cons (dp_mono (e2.trans g2.s) qx) .nil))⟩
end KD
end
section
namespace KD
open PySem PySem.Spec PyProof.Rows L2

/-! ### a def keeps its promise by kinds -/
def startS (N : List Str) (κs : List Kd) : List Sl := κs.map .k ++ List.replicate (N.length - κs.length) .un
theorem en_start {K : PySem.W.Frag} {S H : Hp} {N : List Str} {κs : List Kd} {vs : List V} (s : Same S H) (h : AllK S κs vs) : En K S H S H (L2.start N vs) (startS N κs) := by
  have l := h.len
  refine ⟨Grow.refl s, by unfold L2.start startS; simp [l], fun i sl hi => ?_, fun i j ds es p hi => ?_⟩
  · unfold startS at hi
    unfold L2.start
    by_cases c : i < κs.length
    · rw [List.getElem?_append_left (by rw [List.length_map]; exact c)] at hi
      rw [List.getElem?_append_left (by rw [List.length_map, l]; exact c)]
      rw [List.getElem?_map] at hi ⊢
      have q : ∀ {κs : List Kd} {vs : List V} (i : Nat) (κ : Kd), AllK S κs vs → κs[i]? = some κ → ∃ v, vs[i]? = some v ∧ κ.p S v := by
        intro κs
        induction κs with
        | nil => intro vs i κ _ e; simp at e
        | cons a r ih =>
          intro vs i κ hv e
          match vs, hv with
          | v :: vs, ⟨h1, h2⟩ =>
            cases i with
            | zero => simp at e; subst e; exact ⟨v, rfl, h1⟩
            | succ i => obtain ⟨u, hu, hp⟩ := ih i κ h2 (by simpa using e); exact ⟨u, by simpa using hu, hp⟩
      cases e : κs[i]? with
      | none => rw [e] at hi; cases hi
      | some κ =>
        rw [e] at hi
        cases hi
        obtain ⟨v, hv, hp⟩ := q i κ h e
        exact ⟨v, by rw [hv]; rfl, hp⟩
    · rw [List.getElem?_append_right (by rw [List.length_map]; omega)] at hi
      have : sl = .un := (List.mem_replicate.mp (List.mem_of_getElem? hi)).2
      subst this
      trivial
  · unfold startS at hi
    have := List.mem_of_getElem? hi
    rcases List.mem_append.mp this with z | z
    · obtain ⟨_, _, e⟩ := List.mem_map.mp z; cases e
    · have := (List.mem_replicate.mp z).2; cases this
section
variable {P : Program} {w : World} {K : PySem.W.Frag} {mg : Str → Option Value} {base : Heap} {x qual : Str} {params : Arguments} {body : List Stmt} {scope : Scope} {f : Addr} {fd : FuncData} {N ps : List Str} {k : Nat} {R : List Kd → Kd → Prop}
abbrev Bx (P : Program) (w : World) (K : PySem.W.Frag) (mg : Str → Option Value) (base : Heap) (N : List Str) (qual : Str) (scope : Scope) (f : Addr) (cdv : Value) (A : Around) (outer : List PySem.Env) (s : Shared) (H : Hp) (E : XK) : Cx := (cxOf CX0 P w K mg base N qual scope f cdv A outer s H E).nox
theorem def_ok (F : FunD K x qual params body scope [] [] f fd) (S : FnScope N ps scope) (len : ∀ κs κ, R κs κ → κs.length = ps.length)
    (hb : ∀ cdv A outer s H E κs κ, Room k (A.deeper (envOfC qual scope s.heap.objs.size f cdv)) → R κs κ → SsK (Bx P w K mg base N qual scope f cdv A outer s H E) body (startS N κs) (.rt κ)) : FnOk P w K mg base CX0 (k + 1) f fd ps (spF R) := by
  refine F.ok S (fun vs H Q E ⟨S, κs, κ, _, hR, hv, _⟩ => hv.len.trans (len κs κ hR)) fun cdv A outer s H vs Q E hr ⟨S, κs, κ, ss, hR, hv, q⟩ => ?_
  exact ⟨_, (hb cdv A outer s H E κs κ hr hR).nox, S, H, S, en_start ss hv, fun S' H' v g hk => q v S' H' g hk⟩
/-- all that a caller asks -/
theorem df_mk (F : FunD K x qual params body scope [] [] f fd) (G : FnOk P w K mg base CX0 k f fd ps (spF R)) (hm : mg x = some (.ref f))
    (h : ∀ (kV doc pm : Value) (an : Option Addr) (cdv ct : Value) (us : List Value), us.length = ps.length → bindArgs (PySem.W.fnOf x qual params body scope .none kV doc pm an cdv ct) ⟨us, []⟩ = pure (ps.zip us))
    (h2 : ∀ (kV doc pm : Value) (an : Option Addr) (cdv ct : Value) (us : List Value), us.length = ps.length → bindArgs (PySem.W.fnOf x qual params body scope .none kV doc pm an cdv ct) ⟨[], ps.zip us⟩ = pure (ps.zip us)) : Df P w K mg base k x ps R := by
  refine ⟨f, fd, G, hm, F.kp, F.bindsN h, fun s us hK hl => ?_⟩
  obtain ⟨oc, od, dV, kV, doc, pm, an, cdv, ct, osl, rfl, lk, hcd, hD, hK⟩ := F.ex
  rcases hD with ⟨_, rfl⟩ | ⟨e, _⟩
  · exact .of_eq (h2 kV doc pm an cdv ct us hl)
  · exact absurd rfl e
end
theorem hu1 {k : Nat} {A : Around} (hr : Room k A) : A.units + 1 < cLine := by have := hr.un; omega
theorem hu64 {k : Nat} {A : Around} (hr : Room k A) : A.units + 64 < cLine := by have := hr.un; omega
/-! ### if c: x = e -/
section
variable {X : Cx} {e c : Expr} {ρ : List Sl} {pos : Pos} {d0 d1 : PyData} {k : Bool}
theorem set_same {ρ : List Sl} {i : Nat} {s : Sl} (h : ρ[i]? = some s) : ρ.set i s = ρ := by
  apply List.ext_getElem?
  intro j
  by_cases e : i = j
  · subst e
    rw [List.getElem?_set_self (List.getElem?_eq_some_iff.mp h).1, h]
  · rw [List.getElem?_set_ne e]
theorem sk_ifSet (i : Nat) {x : Str} {pos' p2 : Pos} (hN : X.N.Nodup) (hc : TK X c ρ k) (he : k = true → EK X e ρ (dt X.K d1)) (hρ : ρ[i]? = some (.k (dt X.K d0)) := by rfl) (hi : X.N[i]? = some x := by rfl) (hx : Loc X.env.scope x := by first | exact Or.inl rfl | exact Or.inr rfl) (hs : swapsWith e (some (.Name x pos')) p2.line X.env = pure false := by rfl) (hf : X.fn x = true ∨ X.env.scope.names.lookup x = some .local := by first | exact .inl rfl | exact .inr rfl | assumption) :
    SK X (.If c [.Assign [.Name x pos'] e p2] [] pos) ρ (.nx (ρ.set i (.k (dt X.K (if k then d1 else d0))))) := by
  cases k with
  | true => exact sk_ifT hc (ss_one (sk_set i hN (he rfl) hi hx hs hf))
  | false =>
    refine sk_ifF hc (ss_nil.to ?_)
    rw [show (if false = true then d1 else d0) = d0 from rfl, set_same hρ]
end
/-! ### keywords -/
section
variable {X : Cx} {e : Expr} {ρ : List Sl} {κ : Kd} {κs : List Kd} {nm : Option Str} {kpos : Pos} {kws : List Keyword}
theorem PK.imp {t t' : TA} (h : PK X kws t) (i : ∀ σ H Q, t' σ H Q → t σ H Q) : PK X kws t' := ⟨fun p pins s σ H Q I q => h.run p pins s σ H Q I (i σ H Q q)⟩
theorem kw_nil : KwK X [] ρ [] := PK.imp pk_nil fun σ H Q ⟨S0, H0, S, E, q⟩ => q [] S H (Grow.refl E.same) trivial
theorem kw_cons (he : EK X e ρ κ) (hr : KwK X kws ρ κs) : KwK X (⟨nm, e, kpos⟩ :: kws) ρ (κ :: κs) :=
  PK.imp (pk_cons he hr) fun σ H Q ⟨S0, H0, S, E, q⟩ => ek_run E fun v S1 H1 g E1 hv => ak_run E1 fun vs S2 H2 g2 _ hvs => q (v :: vs) S2 H2 (g.trans g2) ⟨κ.mono g2.s hv, hvs⟩
end
end KD

/-! ### the text -/
namespace K71
open PySem PySem.Spec PyProof.Rows L2 KD
abbrev FnG (K : PySem.W.Frag) (x : Str) (st : Stmt) (f : Addr) (fd : FuncData) : Prop := FunD K x x (defArgs st) (defBody st) (defScope st) [] [] f fd
/-- what the module's names stand for -/
structure Tx (K : PySem.W.Frag) (mg : Str → Option Value) : Prop where
  len : mg "len" = none
  range : mg "range" = none
  zip : mg "zip" = none
  enumerate : mg "enumerate" = none
  int : mg "int" = none
  str : mg "str" = none
  bool : mg "bool" = none
  list : mg "list" = none
  tuple : mg "tuple" = none
  sum : mg "sum" = none
  isinstance : mg "isinstance" = none
  repr : mg "repr" = none
  signs : ∃ t, mg "SIGNS" = some (.str "-.abcdefghijklmnopqrstuvwxyz" t)
  letters : ∃ t, mg "LETTERS" = some (.str "abcdefghijklmnopqrstuvwxyz" t)
  digits : ∃ t, mg "DIGITS" = some (.str "0123456789" t)
  unread : ∃ t, mg "UNREAD" = some (.str "---" t)
  most : ∃ t, mg "MOST_CELLS" = some (.int 30 t)
  longest : ∃ t, mg "LONGEST_NAME" = some (.int 8 t)
  all : ∃ t, mg "ALL_COLOURS" = some (.int 7 t)
  colours : ∃ a, mg "COLOURS" = some (.ref a) ∧ ∀ H, SqT K H a [.int 1, .int 2, .int 4]
  deeds : ∃ a, mg "DEEDS" = some (.ref a) ∧ ∀ H, SqT K H a [.str "set", .str "add", .str "bleach"]
section
variable {X : Cx} {ρ : List Sl} {pos : Pos}
theorem Tx.e_SIGNS (T : Tx X.K X.mg) (hg : Gl X "SIGNS" := by rfl) : EK X (.Name "SIGNS" pos) ρ (kS X.K "-.abcdefghijklmnopqrstuvwxyz") := let ⟨_, h⟩ := T.signs; ek_gstr h hg
theorem Tx.e_LETTERS (T : Tx X.K X.mg) (hg : Gl X "LETTERS" := by rfl) : EK X (.Name "LETTERS" pos) ρ (kS X.K "abcdefghijklmnopqrstuvwxyz") := let ⟨_, h⟩ := T.letters; ek_gstr h hg
theorem Tx.e_DIGITS (T : Tx X.K X.mg) (hg : Gl X "DIGITS" := by rfl) : EK X (.Name "DIGITS" pos) ρ (kS X.K "0123456789") := let ⟨_, h⟩ := T.digits; ek_gstr h hg
theorem Tx.e_UNREAD (T : Tx X.K X.mg) (hg : Gl X "UNREAD" := by rfl) : EK X (.Name "UNREAD" pos) ρ (kS X.K "---") := let ⟨_, h⟩ := T.unread; ek_gstr h hg
theorem Tx.e_MOST_CELLS (T : Tx X.K X.mg) (hg : Gl X "MOST_CELLS" := by rfl) : EK X (.Name "MOST_CELLS" pos) ρ (kI X.K 30) := let ⟨_, h⟩ := T.most; ek_gint h hg
theorem Tx.e_LONGEST_NAME (T : Tx X.K X.mg) (hg : Gl X "LONGEST_NAME" := by rfl) : EK X (.Name "LONGEST_NAME" pos) ρ (kI X.K 8) := let ⟨_, h⟩ := T.longest; ek_gint h hg
theorem Tx.e_ALL_COLOURS (T : Tx X.K X.mg) (hg : Gl X "ALL_COLOURS" := by rfl) : EK X (.Name "ALL_COLOURS" pos) ρ (kI X.K 7) := let ⟨_, h⟩ := T.all; ek_gint h hg
theorem Tx.e_COLOURS (T : Tx X.K X.mg) (hg : Gl X "COLOURS" := by rfl) : EK X (.Name "COLOURS" pos) ρ (kT X.K [.int 1, .int 2, .int 4]) := let ⟨a, h, ht⟩ := T.colours; ek_glob h (v := .ref a) rfl (fun S => .tup (ht S) (.cons (.int _) (.cons (.int _) (.cons (.int _) .nil)))) hg
theorem Tx.e_DEEDS (T : Tx X.K X.mg) (hg : Gl X "DEEDS" := by rfl) : EK X (.Name "DEEDS" pos) ρ (kT X.K [.str "set", .str "add", .str "bleach"]) := let ⟨a, h, ht⟩ := T.deeds; ek_glob h (v := .ref a) rfl (fun S => .tup (ht S) (.cons (.str _) (.cons (.str _) (.cons (.str _) .nil)))) hg
end
end K71
end
section
namespace KD
open PySem PySem.Spec PyProof.Rows L2

/-! ### texts as lists of codes -/
def ofL (l : List Nat) : Str := ⟨l.toArray⟩
theorem ofL_toList (l : List Nat) : (ofL l).cps.toList = l := rfl
theorem ofL_len (l : List Nat) : (ofL l).length = l.length := rfl
theorem ofL_of (x : Str) : ofL x.cps.toList = x := rfl
theorem ofL_inj {a b : List Nat} (h : ofL a = ofL b) : a = b := by
  have : (ofL a).cps.toList = (ofL b).cps.toList := by rw [h]
  exact this
theorem ofL_eq {a b : List Nat} : decide (ofL a = ofL b) = decide (a = b) := by
  rw [decide_eq_decide]
  exact ⟨ofL_inj, congrArg _⟩
theorem ofL_app (a b : List Nat) : ofL a ++ ofL b = ofL (a ++ b) := by
  apply TL.ext_tl
  rw [TL.tl_append]
  rfl
theorem ofL_rep (a : List Nat) (n : Nat) : strRep (ofL a) n = ofL (List.replicate n a).flatten := rfl
theorem signs_ofL (l : List Nat) : signsD (ofL l) = l.map fun c => .str (ofL [c]) := rfl
theorem join_flat : ∀ ls : List (List Nat), TL.joinL [] ls = ls.flatten
  | [] => rfl
  | [p] => by show p = _; simp
  | p :: q :: r => by
    show p ++ ([] ++ TL.joinL [] (q :: r)) = _
    rw [join_flat (q :: r)]
    simp
theorem join_ofL (ls : List (List Nat)) : Txt.join (ofL []) (ls.map ofL) = ofL ls.flatten := by
  apply TL.ext_tl
  rw [TL.join_eq, TL.tl_join]
  have : (ls.map ofL).map TL.tl = ls := by
    rw [List.map_map]
    exact (List.map_congr_left fun x _ => rfl).trans (List.map_id _)
  rw [this]
  exact join_flat ls
/-- a slice's bounds, as places -/
theorem cut_ofL (l : List Nat) (lo hi : Option Int) : cutS (ofL l) lo hi = ofL ((l.drop (HT.sIx l.length 0 lo)).take (HT.sIx l.length l.length hi - HT.sIx l.length 0 lo)) := rfl
theorem sIx_some {n d : Nat} {i : Int} (h : 0 ≤ i) : HT.sIx n d (some i) = min i.toNat n := by
  unfold HT.sIx
  exact if_neg (by omega)
theorem cut_mid {l : List Nat} {i j : Int} (h : 0 ≤ i) (h2 : 0 ≤ j) : cutS (ofL l) (some i) (some j) = ofL ((l.drop i.toNat).take (j.toNat - i.toNat)) := by
  rw [cut_ofL, sIx_some h, sIx_some h2]
  congr 1
  by_cases c : i.toNat ≤ l.length
  · rw [Nat.min_eq_left c]
    by_cases c2 : j.toNat ≤ l.length
    · rw [Nat.min_eq_left c2]
    · rw [Nat.min_eq_right (a := j.toNat) (by omega), List.take_of_length_le (by rw [List.length_drop]; omega), List.take_of_length_le (by rw [List.length_drop]; omega)]
  · rw [Nat.min_eq_right (a := i.toNat) (by omega), List.drop_eq_nil_of_le (Nat.le_refl _), List.drop_eq_nil_of_le (as := l) (i := i.toNat) (by omega)]
    simp
theorem cut_take {l : List Nat} {j : Int} (h : 0 ≤ j) : cutS (ofL l) none (some j) = ofL (l.take j.toNat) := by
  rw [cut_ofL, HT.sIx_none, sIx_some h, List.drop_zero, Nat.sub_zero]
  congr 1
  by_cases c : j.toNat ≤ l.length
  · rw [Nat.min_eq_left c]
  · rw [Nat.min_eq_right (by omega), List.take_of_length_le (Nat.le_refl _), List.take_of_length_le (by omega)]
theorem cut_drop {l : List Nat} {i : Int} (h : 0 ≤ i) : cutS (ofL l) (some i) none = ofL (l.drop i.toNat) := by
  rw [cut_ofL, HT.sIx_none, sIx_some h]
  congr 1
  by_cases c : i.toNat ≤ l.length
  · rw [Nat.min_eq_left c, List.take_of_length_le (by rw [List.length_drop]; omega)]
  · rw [Nat.min_eq_right (by omega), List.drop_eq_nil_of_le (by omega), List.drop_eq_nil_of_le (by omega)]; simp
theorem cutD_mid {l : List PyData} {i j : Int} (h : 0 ≤ i) (h2 : 0 ≤ j) : cutD l (some i) (some j) = (l.drop i.toNat).take (j.toNat - i.toNat) := by
  unfold cutD
  rw [sIx_some h, sIx_some h2]
  by_cases c : i.toNat ≤ l.length
  · rw [Nat.min_eq_left c]
    by_cases c2 : j.toNat ≤ l.length
    · rw [Nat.min_eq_left c2]
    · rw [Nat.min_eq_right (a := j.toNat) (by omega), List.take_of_length_le (by rw [List.length_drop]; omega), List.take_of_length_le (by rw [List.length_drop]; omega)]
  · rw [Nat.min_eq_right (a := i.toNat) (by omega), List.drop_eq_nil_of_le (Nat.le_refl _), List.drop_eq_nil_of_le (as := l) (i := i.toNat) (by omega)]
    simp
theorem cutD_take {l : List PyData} {j : Int} (h : 0 ≤ j) : cutD l none (some j) = l.take j.toNat := by
  unfold cutD
  rw [HT.sIx_none, sIx_some h, List.drop_zero, Nat.sub_zero]
  by_cases c : j.toNat ≤ l.length
  · rw [Nat.min_eq_left c]
  · rw [Nat.min_eq_right (by omega), List.take_of_length_le (Nat.le_refl _), List.take_of_length_le (by omega)]
theorem cutD_drop {l : List PyData} {i : Int} (h : 0 ≤ i) : cutD l (some i) none = l.drop i.toNat := by
  unfold cutD
  rw [HT.sIx_none, sIx_some h]
  by_cases c : i.toNat ≤ l.length
  · rw [Nat.min_eq_left c, List.take_of_length_le (by rw [List.length_drop]; omega)]
  · rw [Nat.min_eq_right (by omega), List.drop_eq_nil_of_le (by omega), List.drop_eq_nil_of_le (by omega)]; simp
theorem at_nat {α : Type} {l : List α} {n : Nat} {x : α} (h : l[n]? = some x) : atI l (n : Int) = some x := atI_nat h
theorem at_int {α : Type} {l : List α} {i : Int} {x : α} (h0 : 0 ≤ i) (h : l[i.toNat]? = some x) : atI l i = some x := by
  have e : i = (i.toNat : Int) := by omega
  rw [e]
  exact atI_nat h
/-- the code of a digit -/
theorem str_digit : ∀ n : Nat, n < 10 → (toString (n : Int) : Str) = ofL [48 + n] := by
  intro n hn
  apply TL.ext_tl
  have h := TL.tl_num n
  rw [TL.numL_lt hn] at h
  exact h
theorem int_digit : ∀ n : Nat, n < 10 → PySem.intText? (ofL [48 + n]) = some (n : Int) := by
  intro n hn
  rw [← str_digit n hn]
  have := TL.int_num (n := n) (by rw [TL.numL_lt hn]; show 1 ≤ 4300; decide)
  exact this

/-! ### comparisons as tests -/
section
variable {X : Cx} {a b : Expr} {ρ : List Sl} {κa κb : Kd} {pos : Pos} {i j : Int} {x y : Str} {k l : Bool} {d d' : PyData}
theorem tk_cmp {op : CmpOp} {r : R2} (ho : OpR X (compareOp op) r) (hr : RK r κa κb (kB X.K k)) (ha : EK X a ρ κa) (hb : EK X b ρ κb) (hm : behindInMarks op b = false) : TK X (.Compare a [op] [b] pos) ρ k :=
  TK.of (pt_cmpR ho ha hb hm) fun S0 H0 S H σ Q E q => ek_run E fun x S1 H1 g1 E1 hx => ek_run E1 fun y S2 H2 g2 E2 hy =>
    hr S2 H2 x y _ E2.same (κa.mono g2.s hx) hy fun v S3 H3 g3 hv => ⟨k, dp_bl hv, q S3 H3 ((g1.trans g2).trans g3)⟩
theorem tk_lt (ha : EK X a ρ (kI X.K i)) (hb : EK X b ρ (kI X.K j)) : TK X (.Compare a [.Lt] [b] pos) ρ (decide (i < j)) := tk_cmp op_lt rk_B0 ha hb (nomark _)
theorem tk_le (ha : EK X a ρ (kI X.K i)) (hb : EK X b ρ (kI X.K j)) : TK X (.Compare a [.LtE] [b] pos) ρ (decide (i ≤ j)) := tk_cmp op_le rk_B0 ha hb (nomark _)
theorem tk_gt (ha : EK X a ρ (kI X.K i)) (hb : EK X b ρ (kI X.K j)) : TK X (.Compare a [.Gt] [b] pos) ρ (decide (j < i)) := tk_cmp op_gt rk_B0 ha hb (nomark _)
theorem tk_ge (ha : EK X a ρ (kI X.K i)) (hb : EK X b ρ (kI X.K j)) : TK X (.Compare a [.GtE] [b] pos) ρ (decide (j ≤ i)) := tk_cmp op_ge rk_B0 ha hb (nomark _)
theorem tk_eqI (ha : EK X a ρ (kI X.K i)) (hb : EK X b ρ (kI X.K j)) : TK X (.Compare a [.Eq] [b] pos) ρ (decide (i = j)) :=
  tk_cmp op_eq (rk_pure fun S H u v Q s hx hy q => by rw [dp_int hx, dp_int hy]; exact ⟨rfl, q _ (by rw [dec_i]; exact .bl _)⟩) ha hb (nomark _)
theorem tk_neI (ha : EK X a ρ (kI X.K i)) (hb : EK X b ρ (kI X.K j)) : TK X (.Compare a [.NotEq] [b] pos) ρ (!decide (i = j)) :=
  tk_cmp op_ne (rk_pure fun S H u v Q s hx hy q => by rw [dp_int hx, dp_int hy]; exact ⟨rfl, q _ (by rw [dec_i]; exact .bl _)⟩) ha hb (nomark _)
theorem tk_eqS (ha : EK X a ρ (kS X.K x)) (hb : EK X b ρ (kS X.K y)) : TK X (.Compare a [.Eq] [b] pos) ρ (decide (x = y)) :=
  tk_cmp op_eq (rk_pure fun S H u v Q s hx hy q => by rw [dp_str hx, dp_str hy]; exact ⟨rfl, q _ (by rw [dec_s]; exact .bl _)⟩) ha hb (nomark _)
theorem tk_neS (ha : EK X a ρ (kS X.K x)) (hb : EK X b ρ (kS X.K y)) : TK X (.Compare a [.NotEq] [b] pos) ρ (!decide (x = y)) :=
  tk_cmp op_ne (rk_pure fun S H u v Q s hx hy q => by rw [dp_str hx, dp_str hy]; exact ⟨rfl, q _ (by rw [dec_s]; exact .bl _)⟩) ha hb (nomark _)
theorem tk_eqB (ha : EK X a ρ (kB X.K k)) (hb : EK X b ρ (kB X.K l)) : TK X (.Compare a [.Eq] [b] pos) ρ (decide (k = l)) :=
  tk_cmp op_eq (rk_pure fun S H u v Q s hx hy q => by rw [dp_bl hx, dp_bl hy]; exact ⟨rfl, q _ (by rw [dec_b]; exact .bl _)⟩) ha hb (nomark _)
theorem tk_neB (ha : EK X a ρ (kB X.K k)) (hb : EK X b ρ (kB X.K l)) : TK X (.Compare a [.NotEq] [b] pos) ρ (!decide (k = l)) :=
  tk_cmp op_ne (rk_pure fun S H u v Q s hx hy q => by rw [dp_bl hx, dp_bl hy]; exact ⟨rfl, q _ (by rw [dec_b]; exact .bl _)⟩) ha hb (nomark _)
theorem tk_eqD (hu : X.A.units + 64 < cLine) (ha : EK X a ρ (dt X.K d)) (hb : EK X b ρ (dt X.K d')) (h1 : SeqAt.shaped d = true) (h2 : SeqAt.shaped d' = true) : TK X (.Compare a [.Eq] [b] pos) ρ (PyData.eqv d d') :=
  tk_cmp (op_eqD hu) (rk_pure fun S H u v Q s hx hy q => ⟨d, d', (dp_mono s hx).dp, (dp_mono s hy).dp, h1, h2, q _ (.bl _)⟩) ha hb (nomark _)
theorem tk_neD (hu : X.A.units + 64 < cLine) (ha : EK X a ρ (dt X.K d)) (hb : EK X b ρ (dt X.K d')) (h1 : SeqAt.shaped d = true) (h2 : SeqAt.shaped d' = true) : TK X (.Compare a [.NotEq] [b] pos) ρ (!PyData.eqv d d') :=
  tk_cmp (op_neD hu) (rk_pure fun S H u v Q s hx hy q => ⟨d, d', (dp_mono s hx).dp, (dp_mono s hy).dp, h1, h2, q _ (.bl _)⟩) ha hb (nomark _)
theorem tk_isN {j} {p : Pos} (ha : EK X a ρ (dt X.K d)) : TK X (.Compare a [.Is] [.Constant .none j p] pos) ρ (isNon d) :=
  tk_cmp op_isN (rk_pure fun S H u v Q s hx hy q => ⟨dp_non hy, q _ (by rw [dq_isNon hx]; exact .bl _)⟩) ha ek_non (nomark _)
theorem tk_notN {j} {p : Pos} (ha : EK X a ρ (dt X.K d)) : TK X (.Compare a [.IsNot] [.Constant .none j p] pos) ρ (!isNon d) :=
  tk_cmp op_notN (rk_pure fun S H u v Q s hx hy q => ⟨dp_non hy, q _ (by rw [dq_isNon hx]; exact .bl _)⟩) ha ek_non (nomark _)
theorem tk_isB (ha : EK X a ρ (kB X.K k)) (hb : EK X b ρ (kB X.K l)) : TK X (.Compare a [.Is] [b] pos) ρ (decide (k = l)) :=
  tk_cmp op_isBl (rk_pure fun S H u v Q s hx hy q => ⟨k, l, dp_bl hx, dp_bl hy, q _ (.bl _)⟩) ha hb (nomark _)
theorem tk_notB (ha : EK X a ρ (kB X.K k)) (hb : EK X b ρ (kB X.K l)) : TK X (.Compare a [.IsNot] [b] pos) ρ (!decide (k = l)) :=
  tk_cmp op_notBl (rk_pure fun S H u v Q s hx hy q => ⟨k, l, dp_bl hx, dp_bl hy, q _ (.bl _)⟩) ha hb (nomark _)
theorem tk_in {c : Nat} (ha : EK X a ρ (kS X.K ⟨#[c]⟩)) (hb : EK X b ρ (kS X.K y)) (hm : behindInMarks .In b = false := by rfl) : TK X (.Compare a [.In] [b] pos) ρ (decide (c ∈ y.cps.toList)) :=
  tk_cmp op_in_sign (rk_pure fun S H u v Q s hx hy q => ⟨c, y, dp_str hx, dp_str hy, q _ (.bl _)⟩) ha hb hm
theorem tk_notIn {c : Nat} (ha : EK X a ρ (kS X.K ⟨#[c]⟩)) (hb : EK X b ρ (kS X.K y)) (hm : behindInMarks .NotIn b = false := by rfl) : TK X (.Compare a [.NotIn] [b] pos) ρ (!decide (c ∈ y.cps.toList)) :=
  tk_cmp op_notIn_sign (rk_pure fun S H u v Q s hx hy q => ⟨c, y, dp_str hx, dp_str hy, q _ (.bl _)⟩) ha hb hm
end
/-! ### small things of lists -/
theorem flat_one (l : List Nat) : (l.map fun c => [c]).flatten = l := by
  induction l with
  | nil => rfl
  | cons x r ih => rw [List.map_cons, List.flatten_cons, ih]; rfl
theorem joinOne (l : List Nat) : Txt.join (ofL []) (l.map fun c => ofL [c]) = ofL l := by
  have h := join_ofL (l.map fun c => [c])
  rw [List.map_map, flat_one] at h
  exact h
theorem getD_of {α : Type} {l : List α} {i : Nat} {x d : α} (h : l[i]? = some x) : l.getD i d = x := by rw [List.getD_eq_getElem?_getD, h]; rfl
theorem get_lt {α : Type} {l : List α} {i : Nat} (h : i < l.length) : ∃ x, l[i]? = some x := ⟨_, List.getElem?_eq_getElem h⟩
theorem lt_get {α : Type} {l : List α} {i : Nat} {x : α} (h : l[i]? = some x) : i < l.length := (List.getElem?_eq_some_iff.mp h).1
theorem map_get {α β : Type} {l : List α} {f : α → β} {i : Nat} {y : β} (h : (l.map f)[i]? = some y) : ∃ x, l[i]? = some x ∧ y = f x := by
  rw [List.getElem?_map] at h
  cases e : l[i]? with
  | none => rw [e] at h; cases h
  | some x => rw [e] at h; exact ⟨x, rfl, (Option.some.inj h).symm⟩
/-- the sum of the lengths of one-sign texts -/
theorem sum_le {l : List Nat} {m : Nat} (h : ∀ x ∈ l, x ≤ m) : l.sum ≤ l.length * m := by
  induction l with
  | nil => exact Nat.zero_le _
  | cons x r ih =>
    rw [List.sum_cons, List.length_cons, Nat.succ_mul]
    have h1 := h x List.mem_cons_self
    have h2 := ih fun y hy => h y (List.mem_cons_of_mem _ hy)
    omega
theorem join_sz {ss : List Str} {m n : Nat} (h : ∀ x ∈ ss, x.length ≤ m) (hl : ss.length ≤ n) (hn : n * m ≤ 16777216) : (ss.map (·.length)).sum + ss.length * (ofL []).length ≤ 16777216 := by
  have h1 : (ss.map (·.length)).sum ≤ (ss.map (·.length)).length * m := sum_le fun x hx => by
    obtain ⟨y, hy, rfl⟩ := List.mem_map.mp hx
    exact h y hy
  rw [List.length_map] at h1
  have h2 : ss.length * m ≤ n * m := Nat.mul_le_mul_right m hl
  show _ + ss.length * 0 ≤ _
  omega
end KD
end
section
namespace K71
open PySem PySem.Spec PyProof.Rows L2 KD
local macro_rules | `(tactic| walk_at "sz") => `(tactic| first | omega | decide | (simp only [ofL_len, List.length_map, List.length_append, List.length_cons, List.length_nil]; omega))
section
variable {P : Program} {w : World} {K : PySem.W.Frag} {mg : Str → Option Value} {base : Heap} {f : Addr} {fd : FuncData}

/-! ### press -/
def pressL (a b : List Nat) : List Nat := List.zipWith (fun x y => if y = 45 then x else y) a b
theorem pressL_len {a b : List Nat} (h : a.length = b.length) : (pressL a b).length = a.length := by unfold pressL; rw [List.length_zipWith]; omega
def R_press (K : PySem.W.Frag) (κs : List Kd) (κ : Kd) : Prop := ∃ a b : List Nat, a.length = b.length ∧ a.length ≤ 30 ∧ κs = [kS K (ofL a), kS K (ofL b)] ∧ κ = kS K (ofL (pressL a b))
theorem sc_press : FnScope ["one", "two", "below", "above"] ["one", "two"] (defScope (top 13)) := ⟨rfl, rfl, rfl, by decide +kernel, rfl, by decide +kernel, by decide +kernel⟩
theorem ok_press (F : FnG K "press" (top 13) f fd) (T : Tx K mg) : FnOk P w K mg base CX0 1 f fd ["one", "two"] (spF (R_press K)) := by
  refine def_ok F sc_press (fun κs κ ⟨a, b, _, _, e, _⟩ => by rw [e]; rfl) fun cdv A outer s H E κs κ hr h => ?_
  obtain ⟨a, b, hl, h30, rfl, rfl⟩ := h
  have nd := sc_press.nd
  have hp : (pressL a b).length = a.length := pressL_len hl
  have key : ∀ i d, (zipD (signsD (ofL a)) (signsD (ofL b)))[i]? = some d → ∃ x y, a[i]? = some x ∧ b[i]? = some y ∧ d = PyData.tuple [PyData.str (ofL [x]), PyData.str (ofL [y])] := fun i d hd => by
    have hi := lt_get hd
    rw [zipD_len, signsD_len, signsD_len, ofL_len, ofL_len] at hi
    obtain ⟨x, hx⟩ := get_lt (l := a) (i := i) (by omega)
    obtain ⟨y, hy⟩ := get_lt (l := b) (i := i) (by omega)
    rw [zipD_get (x := .str (ofL [x])) (y := .str (ofL [y])) (by rw [signs_ofL, List.getElem?_map, hx]; rfl) (by rw [signs_ofL, List.getElem?_map, hy]; rfl)] at hd
    exact ⟨x, y, hx, hy, (Option.some.inj hd).symm⟩
  rw [← joinOne (pressL a b)]
  refine ss_one (sk_ret (ek_join ek_str (ek_lc _ rfl nd (ik_zip T.zip (ek_var 0) (ek_var 1) rfl rfl) (blkOk_by (N := ["one", "two", "below", "above"]) (sc := defScope (top 13)) (own := [("below", 2), ("above", 3)]) (by decide +kernel)) (fun i => [.k (kS K (ofL a)), .k (kS K (ofL b)), .k (kS K (ofL [a.getD i 0])), .k (kS K (ofL [b.getD i 0]))]) ?hl ?hz (fun i d hd s H C cl fp => ?bg) (fun i d e hd he s H C cl fp => ?el)) ?sz))
  case hl => rw [List.length_map, List.length_map, zipD_len, signsD_len, signsD_len, ofL_len, ofL_len]; omega
  case hz => rw [zipD_len, signsD_len, signsD_len, ofL_len, ofL_len]; omega
  case bg =>
    obtain ⟨x, y, hx, hy, rfl⟩ := key i d hd
    rw [getD_of hx, getD_of hy]
    exact bg_tup2 2 3 (by decide) (by decide) nd rfl
  case el =>
    obtain ⟨x, y, hx, hy, rfl⟩ := key i d hd
    rw [getD_of hx, getD_of hy]
    obtain ⟨z, hz, rfl⟩ := map_get he
    obtain ⟨c, hc, rfl⟩ := map_get hz
    unfold pressL at hc
    rw [List.getElem?_zipWith, hx, hy] at hc
    have hc := Option.some.inj hc
    subst hc
    refine ek_if (tk_eqS (ek_var 3) ek_str) (fun h => ?_) (fun h => ?_)
    · rw [if_pos (show y = 45 by simpa using ofL_inj (b := [45]) (of_decide_eq_true h))]
      exact ek_var 2
    · rw [if_neg (show ¬ y = 45 from fun z => by subst z; exact of_decide_eq_false h rfl)]
      exact ek_var 3
  case sz => exact join_sz (m := 1) (n := 30) (fun x hx => by obtain ⟨c, _, rfl⟩ := List.mem_map.mp hx; exact Nat.le_refl _) (by rw [List.length_map]; omega) (by decide)
end
end K71
end
section
namespace KD
open PySem PySem.Spec PyProof.Rows L2

/-! ### one of many kinds -/
def xk {α : Type} (P : α → Prop) (f : α → Kd) : Kd := ⟨fun S v => ∃ a, P a ∧ (f a).p S v, fun e ⟨a, h, q⟩ => ⟨a, h, (f a).mono e q⟩⟩
section
variable {X : Cx} {e a b c : Expr} {ρ ρ1 ρ' : List Sl} {κ κa κb κc κo : Kd} {pos p apos cpos : Pos} {i j : Int} {x m : Str} {ds es : List PyData} {d d' : PyData} {ees : List Expr} {κs κs' : List Kd} {st : Stmt} {sts rest : List Stmt} {o : Out} {k : Bool} {n : Nat} {C : Addr} {f : Str}
theorem En.open {K : PySem.W.Frag} {S0 H0 S H : Hp} {σ : L2.St} {α : Type} {P : α → Prop} {g : α → Kd} {i : Nat} (E : En K S0 H0 S H σ ρ) (h : ρ[i]? = some (.k (xk P g))) : ∃ a, P a ∧ En K S0 H0 S H σ (ρ.set i (.k (g a))) := by
  obtain ⟨v, e, a, ha, hp⟩ := E.var h
  have hi : i < σ.length := (List.getElem?_eq_some_iff.mp e).1
  have es : σ.set i (some v) = σ := by
    apply List.ext_getElem?
    intro j
    by_cases c : i = j
    · subst c; rw [List.getElem?_set_self hi, e]
    · rw [List.getElem?_set_ne c]
  have E2 := E.set i hp
  rw [es] at E2
  exact ⟨a, ha, E2⟩
theorem ss_open {α : Type} {P : α → Prop} {g : α → Kd} (i : Nat) (h : ρ[i]? = some (.k (xk P g))) (hr : ∀ a, P a → SsK X sts (ρ.set i (.k (g a))) o) : SsK X sts ρ o := ⟨fun pins s σ H D I ⟨S0, H0, S, E, q⟩ => by
  obtain ⟨a, ha, E2⟩ := E.open h
  exact (hr a ha).run pins s σ H D I ⟨S0, H0, S, E2, q⟩⟩
theorem ek_open {α : Type} {P : α → Prop} {g : α → Kd} (i : Nat) (h : ρ[i]? = some (.k (xk P g))) (hr : ∀ a, P a → EK X e (ρ.set i (.k (g a))) κ) : EK X e ρ κ := ⟨fun pins s σ H D I ⟨S0, H0, S, E, q⟩ => by
  obtain ⟨a, ha, E2⟩ := E.open h
  exact (hr a ha).run pins s σ H D I ⟨S0, H0, S, E2, q⟩⟩
theorem ek_x {α : Type} {P : α → Prop} {g : α → Kd} {z : α} (h : EK X e ρ (g z)) (hz : P z) : EK X e ρ (xk P g) := h.sub fun S v hv => ⟨z, hz, hv⟩
/-- a call, where the arguments' kinds are unfolded first -/
theorem callX_run {R : List Kd → Kd → Prop} {S0 H0 S H : Hp} {σ : L2.St} {Q : VK} {E' : XK} (E : En X.K S0 H0 S H σ ρ) (hR : ∀ S vs, AllK S κs vs → ∃ κs', R κs' κ ∧ AllK S κs' vs) (q : ∀ v S' H', Grow S H S' H' → κ.p S' v → Q v H') : rdA X.K ρ κs σ H fun vs H1 => spF R (vs ++ []) H1 Q E' :=
  ak_run E fun vs S1 H1 g E1 hv => by
    obtain ⟨κs', h1, h2⟩ := hR S1 vs hv
    exact ⟨S1, κs', κ, E1.same, h1, by rw [List.append_nil]; exact h2, fun v S2 H2 g2 h2 => q v S2 H2 (g.trans g2) h2⟩
theorem ek_callX {R : List Kd → Kd → Prop} {k : Nat} {ps : List Str} (D : Df X.prog X.w X.K X.mg X.base k x ps R) (hr : Room k X.A) (ha : AK X (e :: ees) ρ κs) (hR : ∀ S vs, AllK S κs vs → ∃ κs', R κs' κ ∧ AllK S κs' vs) (hg : Gl X x := by rfl) (hdb : (x == ("__debug__" : Str)) = false := by decide) (he : starEach (e :: ees) X.env = (false, eval e X.env) :: starEach ees X.env := by rfl)
    (hpl : (backTo pos (starEach ees X.env)).any (·.1) = false := by rfl) : EK X (.Call (.Name x p) (e :: ees) [] pos) ρ κ := by
  obtain ⟨f, fd, F, hm, hk, hb, _⟩ := D.ex
  exact EK.of (pe_call (E := E0) F hr hg hm hk hb .nil pass0 ha hdb he hpl) fun S0 H0 S H σ Q E q => callX_run E hR q

/-! ### for, with what is known ahead of each turn -/
theorem ss_forI {tg iter : Expr} {body : List Stmt} {ks : List PyData} (hp : PassesOwn (model X.prog X.w) X.A X.env X.xe) (hc : X.calm = true) (hi : IK X tg iter ρ ks) (I : Nat → List Sl → Prop) (h0 : I 0 ρ)
    (hs : ∀ i d ρ, i < ks.length → ks[i]? = some d → I i ρ → ∃ ρ1, GK X tg (dt X.K d) ρ ρ1 ∧ SsK X body ρ1 (.ex (I (i + 1))))
    (hn : ∀ ρ, I ks.length ρ → SsK X rest ρ o)
    (hx : ∀ x, foldedSetIterable iter X.env x = pure x := by intro _; rfl) : SsK X (.For tg iter body [] pos :: rest) ρ o := by
  refine SsK.of (pss_cons (ps_for hp hc hi pg_u pss_u hx) (pss_u (sts := rest))) fun S0 H0 S H σ D E q => ?_
  refine ⟨S0, H0, S, E, fun S1 H1 J g J1 => ?_⟩
  refine ⟨fun i n σ' H' => i + n = ks.length ∧ ∃ ρ', I i ρ' ∧ ∃ S', Same S1 S' ∧ En X.K S0 H0 S' H' σ' ρ', ⟨ks.length, by omega, ρ, h0, S1, Same.refl _, E.grow g⟩, ?_⟩
  rintro i n σ' H' ⟨hn', ρ', hI, S', e', E'⟩
  by_cases hlt : i < ks.length
  · refine .inr ⟨J1.1 i S' H' e' E'.same (by omega), fun σ2 H2 => ∃ ρ2, I (i + 1) ρ2 ∧ ∃ S2, Same S1 S2 ∧ En X.K S0 H0 S2 H2 σ2 ρ2, fun σ2 H2 ⟨ρ2, hI2, S2, e2, E2⟩ => ⟨n - 1, by omega, by omega, ρ2, hI2, S2, e2, E2⟩, fun v H2 y => ?_⟩
    obtain ⟨S2, d, g2, hd2, hv⟩ := J1.2.2 i S' H' v H2 e' E'.same (by omega) y
    obtain ⟨ρ1, hg, hb⟩ := hs i d ρ' hlt hd2 hI
    exact ⟨_, hg, S0, H0, S2, E'.grow g2, hv, fun σ3 E3 => ⟨_, hb, S0, H0, S2, E3, fun S3 H3 σ4 ρ2 hI2 e3 E4 => ⟨ρ2, hI2, S3, (e'.trans g2.s).trans e3, E4⟩⟩⟩
  · have him : i = ks.length := by omega
    subst him
    exact .inl ⟨J1.2.1 S' H' e' E'.same, _, hn ρ' hI, S0, H0, S', E', q.mono (g.s.trans e')⟩

theorem all_open {S : Hp} {α : Type} {P : α → Prop} {g : α → Kd} {κs : List Kd} {vs : List V} (h : AllK S (xk P g :: κs) vs) : ∃ a, P a ∧ AllK S (g a :: κs) vs := by
  match vs, h with
  | v :: vs, ⟨⟨a, ha, hp⟩, t⟩ => exact ⟨a, ha, hp, t⟩
/-- xs.append(e), e one of many -/
theorem sk_appX {α : Type} {P : α → Prop} {g : α → PyData} (i : Nat) {x : Str} {p1 cpos : Pos} (hρ : ρ[i]? = some (.own (oL X.K ds))) (ha : EK X e ρ (xk P fun a => dt X.K (g a))) (hz : ds.length ≤ 1000) (hN : X.N[i]? = some x := by rfl) (hv : Vis X.env.scope x := by first | exact Or.inl rfl | exact Or.inr (Or.inl rfl) | exact Or.inr (Or.inr rfl)) (hd : (x == ("__debug__" : Str)) = false := by decide)
    (hcd : (x == ("__classdict__" : Str)) = false := by decide) (hbase : attributeBase (.Name x p1) "append" X.env (eval (.Name x p1) X.env) = eval (.Name x p1) X.env := by rfl)
    (hfew : ((backTo cpos (starEach (e :: []) X.env)).all (fun x => !x.1) && (backToKw cpos (keywordEach [] X.env)).all (fun x => x.1.isSome)
      && decide ((e :: []).length + ([] : List Keyword).length + (if ([] : List Keyword).isEmpty then 0 else 1) < 30)) = true := by rfl)
    (hline : (apos.endLine == cpos.line) = true := by rfl) (hs : starEach (e :: []) X.env = (false, eval e X.env) :: starEach [] X.env := by rfl) (hplain : (backTo cpos (starEach [] X.env)).any (·.1) = false := by rfl)
    (hsw : swapsWith (.Call (.Attribute (.Name x p1) "append" apos) [e] [] cpos) none pos.line X.env = pure false := by rfl) :
    SK X (.Expr (.Call (.Attribute (.Name x p1) "append" apos) [e] [] cpos) pos) ρ (.ex fun ρ' => ∃ a, P a ∧ ρ' = ρ.set i (.own (oL X.K (ds ++ [g a])))) :=
  SK.of (ps_expr (pe_bm PySem.F.plainAttrs_list PySem.F.slot_list_append PySem.F.type_list_append mt_append (pe_var hN hv hd hcd) (ak_cons ha ak_nil hs) hbase hfew hline hs hplain) hsw) fun S0 H0 S H σ D E q => by
    obtain ⟨l, _, e1, h0, hS, hH, vs, rfl, hd⟩ := E.ok i _ hρ
    refine ⟨.ref l, e1, .inl ⟨rfl, _, SqL.of hH⟩, ak_run E fun us S1 H1 g1 E1 hu => ?_⟩
    obtain ⟨u, rfl, z, hz2, hu1⟩ := all1 hu
    have hd1 : DqAll X.K S1 (vs ++ [u]) (ds ++ [g z]) := dpAll_app (dpAll_mono g1.s hd) (.cons hu1 .nil)
    exact ⟨l, vs, u, rfl, rfl, g1.h _ _ hH, by rw [dpAll_len hd]; exact Nat.lt_of_le_of_lt hz (by decide), q S1 _ _ _ ⟨z, hz2, rfl⟩ g1.s (E1.write hρ e1 ⟨_, rfl, hd1⟩)⟩

/-! ### reading a list that is being filled -/
theorem ek_ixOwn (i : Nat) {z : Int} {p1 : Pos} (hρ : ρ[i]? = some (.own (oL X.K ds))) (hb : EK X b ρ (kI X.K z)) (h : atI ds z = some d) (hs : PlainIx b := by intro _ _; rfl) (hN : X.N[i]? = some x := by rfl) (hv : Vis X.env.scope x := by first | exact Or.inl rfl | exact Or.inr (Or.inl rfl) | exact Or.inr (Or.inr rfl)) (hd : (x == ("__debug__" : Str)) = false := by decide)
    (hcd : (x == ("__classdict__" : Str)) = false := by decide) : EK X (.Subscript (.Name x p1) b pos) ρ (dt X.K d) :=
  EK.of (pe_ix ix_list (pe_var hN hv hd hcd) hb hs) fun S0 H0 S H σ Q E q => by
    obtain ⟨l, _, e1, h0, hS, hH, vs, rfl, hd⟩ := E.ok i _ hρ
    refine ⟨.ref l, e1, ek_run E fun u S1 H1 g E1 hu => ?_⟩
    obtain ⟨j, hj, f⟩ := atD (dpAll_len hd) h
    obtain ⟨w, hw, hdd⟩ := dpAll_get hd hj
    exact ⟨l, vs, z, w, rfl, dp_int hu, .inl (.inl (g.h _ _ hH)), f w hw, q w S1 H1 g (dp_mono g.s hdd)⟩

/-! ### a, b = a list -/
theorem gk_lst2 (i j : Nat) {x y : Str} {p1 p2 : Pos} {kk : Nat} (hN : X.N.Nodup) (hc : X.calm = true) (hi : X.N[i]? = some x := by rfl) (hj : X.N[j]? = some y := by rfl) (hx : Loc X.env.scope x := by first | exact Or.inl rfl | exact Or.inr rfl) (hy : Loc X.env.scope y := by first | exact Or.inl rfl | exact Or.inr rfl)
    (hf : X.fn x = true ∨ X.env.scope.names.lookup x = some .local := by first | exact .inl rfl | exact .inr rfl | assumption) (hg : X.fn y = true ∨ X.env.scope.names.lookup y = some .local := by first | exact .inl rfl | exact .inr rfl | assumption) :
    GK X (.Tuple [.Name x p1, .Name y p2] kk pos) (kL X.K [d, d']) ρ ((ρ.set i (.k (dt X.K d))).set j (.k (dt X.K d'))) :=
  PG.imp (pg_unl (n := 2) hc (pgs_cons (pg_name hN hi hx hf) (pgs_cons (pg_name hN hj hy hg) pgs_nil))) fun v σ H Q ⟨S0, H0, S, E, hv, q⟩ => by
    obtain ⟨t, xs, rfl, h1, h2⟩ := dp_list hv
    cases h2 with
    | cons a1 t1 =>
      cases t1 with
      | cons a2 t2 =>
        cases t2
        exact ⟨t, _, rfl, .inl (same_rd E.same h1), rfl, _, _, rfl, _, _, rfl, rfl, q _ ((E.set i a1).set j a2)⟩

/-! ### a text among texts -/
theorem inV_str : ∀ {ss : List Str} {x : Str}, inV (.str x) (ss.map V.str) = decide (x ∈ ss)
  | [], x => rfl
  | y :: r, x => by
    have ih := inV_str (ss := r) (x := x)
    unfold inV at ih ⊢
    rw [List.map_cons, List.any_cons, ih]
    have e : eqV (.str y) (.str x) = decide (x = y) := by
      by_cases c : x = y
      · subst c; simp [eqV]
      · rw [decide_eq_false c]; simpa [eqV] using fun z : y = x => c z.symm
    rw [e]
    by_cases c : x = y
    · subst c; simp
    · simp [c]
theorem ek_inT {ss : List Str} {y : Str} (ha : EK X a ρ (kS X.K y)) (hb : EK X b ρ (kT X.K (ss.map PyData.str))) (hm : behindInMarks .In b = false := by rfl) : EK X (.Compare a [.In] [b] pos) ρ (kB X.K (decide (y ∈ ss))) :=
  ek_cmp op_in_seq (rk_pure fun S H u v Q s hx hy q => by
    obtain ⟨p, xs, rfl, h1, h2⟩ := dp_tup hy
    have e := dpAll_strs h2
    subst e
    rw [dp_str hx]
    refine ⟨p, _, rfl, .inr (same_t s h1), rfl, by rw [List.all_map]; exact List.all_eq_true.mpr fun _ _ => rfl, ?_⟩
    rw [inV_str]
    exact q _ (.bl _)) ha hb hm
end
end KD
end
section
namespace KD
open PySem PySem.Spec PyProof.Rows L2

/-! ### instances -/
def FsOk (S : Hp) (kfs : List (Str × Kd)) (fs : List (Str × V)) : Prop := (∀ f κ, kfs.lookup f = some κ → ∃ v, fs.lookup f = some v ∧ κ.p S v) ∧ (∀ f, kfs.lookup f = none → fs.lookup f = none) ∧ fs.length ≤ kfs.length
theorem FsOk.mono {S S' : Hp} {kfs : List (Str × Kd)} {fs : List (Str × V)} (e : Same S S') (h : FsOk S kfs fs) : FsOk S' kfs fs := ⟨fun f κ l => let ⟨v, a, b⟩ := h.1 f κ l; ⟨v, a, κ.mono e b⟩, h.2⟩
theorem look_app {α : Type} {f g : Str} {a : α} : ∀ {l : List (Str × α)}, l.lookup g = none → (l ++ [(g, a)]).lookup f = if f = g then some a else l.lookup f
  | [], _ => by
    by_cases c : f = g
    · simp [List.lookup, c]
    · have : (f == g) = false := beq_eq_false_iff_ne.mpr c
      simp [List.lookup, this, c]
  | (x, y) :: r, h => by
    by_cases c : g = x
    · subst c; simp [List.lookup] at h
    · have gx : (g == x) = false := beq_eq_false_iff_ne.mpr c
      have hr : r.lookup g = none := by simpa [List.lookup, gx] using h
      have ih := look_app (f := f) (a := a) hr
      by_cases d : f = x
      · subst d
        have : ¬ f = g := fun z => c z.symm
        simp [List.lookup, this]
      · have fx : (f == x) = false := beq_eq_false_iff_ne.mpr d
        rw [List.cons_append]
        show (match f == x with | true => some y | false => (r ++ [(g, a)]).lookup f) = if f = g then some a else (match f == x with | true => some y | false => r.lookup f)
        rw [fx]
        exact ih
theorem FsOk.put {S : Hp} {kfs : List (Str × Kd)} {fs : List (Str × V)} {f : Str} {κ : Kd} {v : V} (h : FsOk S kfs fs) (hf : kfs.lookup f = none) (hv : κ.p S v) : FsOk S (kfs ++ [(f, κ)]) (putF f v fs) := by
  refine ⟨fun g κ' l => ?_, fun g l => ?_, ?_⟩
  · rw [look_app hf] at l
    rw [lookup_putF]
    by_cases c : g = f
    · rw [if_pos c] at l ⊢; cases l; exact ⟨v, rfl, hv⟩
    · rw [if_neg c] at l ⊢; exact h.1 g κ' l
  · rw [look_app hf] at l
    rw [lookup_putF]
    by_cases c : g = f
    · rw [if_pos c] at l; cases l
    · rw [if_neg c] at l ⊢; exact h.2.1 g l
  · have := length_putF f v fs
    rw [List.length_append]
    have := h.2.2
    simp only [List.length_cons, List.length_nil]; omega
/-- an instance that stands still -/
def kO (C : Addr) (kfs : List (Str × Kd)) : Kd := ⟨fun S v => ∃ a dx fs, v = .ref a ∧ S a = some (.ins C dx fs) ∧ FsOk S kfs fs, fun e ⟨a, dx, fs, h1, h2, h3⟩ => ⟨a, dx, fs, h1, e _ _ h2, h3.mono e⟩⟩
/-- one that is being made -/
def oI (C x : Addr) (kfs : List (Str × Kd)) : Ow := ⟨fun S a u => a = x ∧ ∃ dx fs, u = .ins C dx fs ∧ FsOk S kfs fs, fun e ⟨h0, dx, fs, h1, h2⟩ => ⟨h0, dx, fs, h1, h2.mono e⟩⟩
/-- at that address -/
def kAt (x : Addr) (κ : Kd) : Kd := ⟨fun S v => v = .ref x ∧ κ.p S v, fun e ⟨h1, h2⟩ => ⟨h1, κ.mono e h2⟩⟩
theorem oI_kO (C x : Addr) (kfs : List (Str × Kd)) : ∀ S p u, (oI C x kfs).p S p u → S p = some u → (kAt x (kO C kfs)).p S (.ref p) := fun S p u ⟨h0, dx, fs, e, h⟩ hs => by
  subst e h0
  exact ⟨rfl, p, dx, fs, rfl, hs, h⟩
/-- a dict from texts to ints -/
def dkv (kvs : List (Str × Int)) : List (Key × V) := kvs.map fun q => (.inr q.1, .int q.2)
def kD (kvs : List (Str × Int)) : Kd := ⟨fun S v => ∃ a, v = .ref a ∧ S a = some (.dK (dkv kvs)), fun e ⟨a, h1, h2⟩ => ⟨a, h1, e _ _ h2⟩⟩
def oD (kvs : List (Str × Int)) : Ow := ⟨fun S _ u => u = .dK (dkv kvs), fun _ h => h⟩
theorem oD_kD (kvs : List (Str × Int)) : ∀ S p u, (oD kvs).p S p u → S p = some u → (kD kvs).p S (.ref p) := fun S p u h hs => by
  have e : u = .dK (dkv kvs) := h
  subst e
  exact ⟨p, rfl, hs⟩
def lookI (kvs : List (Str × Int)) (x : Str) : Option Int := kvs.lookup x
theorem val_dkv (x : Str) : ∀ kvs : List (Str × Int), valV (dkv kvs) (.inr x) = (lookI kvs x).map V.int
  | [] => rfl
  | (y, i) :: r => by
    show valV ((.inr y, .int i) :: dkv r) (.inr x) = _
    unfold lookI
    by_cases c : y = x
    · subst c
      rw [valV_pos rfl]
      simp [List.lookup]
    · have : (x == y) = false := beq_eq_false_iff_ne.mpr fun z => c z.symm
      rw [valV_neg (fun z => c (Sum.inr.inj z)), val_dkv x r]
      simp [List.lookup, this, lookI]
theorem put_dkv {x : Str} {i : Int} {kvs : List (Str × Int)} (h : lookI kvs x = none) : putK (dkv kvs) (.inr x) (.int i) = dkv (kvs ++ [(x, i)]) := by
  have hn : ((dkv kvs).any fun kv => decide (kv.1 = (.inr x : Key))) = false := by
    have hv := val_dkv x kvs
    rw [h] at hv
    unfold valV at hv
    rw [List.any_eq_false]
    intro kv hk
    have h2 : (dkv kvs).find? (fun kv => decide (kv.1 = (.inr x : Key))) = none := by simpa using hv
    have := List.find?_eq_none.mp h2 kv hk
    exact this
  unfold putK
  rw [hn, if_neg Bool.false_ne_true]
  unfold dkv
  rw [List.map_append]
  rfl
section
variable {X : Cx} {e a b c : Expr} {ρ ρ1 ρ' : List Sl} {κ κa κb κc κo : Kd} {pos p apos cpos : Pos} {i j : Int} {x y m : Str} {ds es : List PyData} {d d' : PyData} {ees : List Expr} {κs κs' : List Kd} {st : Stmt} {sts rest : List Stmt} {o : Out} {k : Nat} {n : Nat} {C : Addr} {f : Str} {kfs : List (Str × Kd)} {kvs : List (Str × Int)} {xa : Addr} {R : List Kd → Kd → Prop} {ps : List Str}
/-- e.f -/
theorem ek_fld (he : EK X e ρ (kO C kfs)) (hc : Cls X.K C) (hn : NoAttr X.K C f) (hl : kfs.lookup f = some κ := by rfl) (hb : attributeBase e f X.env (eval e X.env) = eval e X.env := by rfl) : EK X (.Attribute e f pos) ρ κ :=
  EK.of (pe_fld he hb) fun S0 H0 S H σ Q E q => ek_run E fun v S1 H1 g E1 ⟨a, dx, fs, h1, h2, h3⟩ => by
    obtain ⟨u, l, hu⟩ := h3.1 f κ hl
    exact ⟨a, C, dx, fs, u, h1, E1.same _ _ h2, hc, hn, l, q u S1 H1 g hu⟩
/-- x.f = e, of the instance that is being made -/
theorem sk_fld (i : Nat) {pos' p1 : Pos} (hρ : ρ[i]? = some (.own (oI C xa kfs))) (he : EK X e ρ κ) (hc : Cls X.K C) (hn : NoAttr X.K C f) (hl : kfs.lookup f = none := by rfl) (hz : kfs.length ≤ 900 := by exact Nat.le_of_ble_eq_true rfl) (hN : X.N[i]? = some x := by rfl) (hv : Vis X.env.scope x := by first | exact Or.inl rfl | exact Or.inr (Or.inl rfl) | exact Or.inr (Or.inr rfl)) (hd : (x == ("__debug__" : Str)) = false := by decide)
    (hcd : (x == ("__classdict__" : Str)) = false := by decide) (hs : swapsWith e (some (.Attribute (.Name x p1) f pos')) pos.line X.env = pure false := by rfl) :
    SK X (.Assign [.Attribute (.Name x p1) f pos'] e pos) ρ (.nx (ρ.set i (.own (oI C xa (kfs ++ [(f, κ)]))))) :=
  SK.of (ps_fld (pe_var hN hv hd hcd) he hs) fun S0 H0 S H σ D E q => ek_run E fun v S1 H1 g E1 hv => by
    obtain ⟨l, _, e1, h0, hS, hH, h00, dx, fs, rfl, hf⟩ := E1.ok i _ hρ
    exact ⟨.ref l, e1, l, C, dx, fs, rfl, hH, hc, hn, by have := hf.2.2; omega, q S1 _ _ g.s (E1.write hρ e1 ⟨h00, dx, _, rfl, hf.put hl hv⟩)⟩
/-- x = {} -/
theorem sk_newD (i : Nat) {pos' p2 : Pos} (hN : X.N.Nodup) (hl : i < ρ.length) (hi : X.N[i]? = some x := by rfl) (hx : Loc X.env.scope x := by first | exact Or.inl rfl | exact Or.inr rfl) (hs : swapsWith (.Dict [] [] p2) (some (.Name x pos')) pos.line X.env = pure false := by rfl) (hf : X.fn x = true ∨ X.env.scope.names.lookup x = some .local := by first | exact .inl rfl | exact .inr rfl | assumption) :
    SK X (.Assign [.Name x pos'] (.Dict [] [] p2) pos) ρ (.nx (ρ.set i (.own (oD [])))) :=
  SK.of (ps_set hN hi hx pe_dnewK hs hf) fun S0 H0 S H σ D E q => fun p hp => q S _ _ (Same.refl _) (E.fresh hl hp rfl)
/-- e in x, the dict that is filled -/
theorem tk_inD (i : Nat) {p1 : Pos} (hu : X.A.units + 1 < cLine) (he : EK X e ρ (kS X.K y)) (hρ : ρ[i]? = some (.own (oD kvs)) := by rfl) (hN : X.N[i]? = some x := by rfl) (hv : Vis X.env.scope x := by first | exact Or.inl rfl | exact Or.inr (Or.inl rfl) | exact Or.inr (Or.inr rfl)) (hd : (x == ("__debug__" : Str)) = false := by decide)
    (hcd : (x == ("__classdict__" : Str)) = false := by decide) (hm : behindInMarks .In (.Name x p1) = false := by rfl) : TK X (.Compare e [.In] [.Name x p1] pos) ρ (lookI kvs y).isSome :=
  TK.of (pt_cmp (pc_din hu he (pe_var hN hv hd hcd)) hm) fun S0 H0 S H σ Q E q => ek_run E fun v S1 H1 g E1 hv => by
    obtain ⟨l, u, e1, h0, hS, hH, hw⟩ := E1.ok i _ hρ
    have hw' : u = .dK (dkv kvs) := hw
    subst hw'
    refine ⟨.ref l, e1, l, valV (dkv kvs) (.inr y), rfl, ?_, ⟨_, rfl, ?_⟩⟩
    · rw [dp_str hv]
      exact DGet.k (k := .inr y) hH
    · rw [val_dkv, Option.isSome_map]
      exact q S1 H1 g
/-- x[e] = v -/
theorem sk_putD (i : Nat) {v : Expr} {p1 pos' : Pos} (hu : X.A.units + 1 < cLine) (hρ : ρ[i]? = some (.own (oD kvs))) (he : EK X e ρ (kS X.K y)) (hv : EK X v ρ (kI X.K j)) (hl : lookI kvs y = none) (hz : kvs.length ≤ 1000) (hN : X.N[i]? = some x := by rfl) (hvi : Vis X.env.scope x := by first | exact Or.inl rfl | exact Or.inr (Or.inl rfl) | exact Or.inr (Or.inr rfl)) (hd : (x == ("__debug__" : Str)) = false := by decide)
    (hcd : (x == ("__classdict__" : Str)) = false := by decide) (hs : swapsWith v (some (.Subscript (.Name x p1) e pos')) pos.line X.env = pure false := by rfl) :
    SK X (.Assign [.Subscript (.Name x p1) e pos'] v pos) ρ (.nx (ρ.set i (.own (oD (kvs ++ [(y, j)]))))) :=
  SK.of (ps_dput hu (pe_var hN hvi hd hcd) he hv hs) fun S0 H0 S H σ D E q => ek_run E fun w S1 H1 g E1 hw => by
    obtain ⟨l, u, e1, h0, hS, hH, hq⟩ := E1.ok i _ hρ
    have hq' : u = .dK (dkv kvs) := hq
    subst hq'
    refine ⟨.ref l, e1, ek_run E1 fun z S2 H2 g2 E2 hz2 => ?_⟩
    rw [dp_int hw, dp_str hz2]
    refine ⟨l, _, rfl, DPut.k (k := .inr y) (g2.h _ _ hH) (by unfold dkv; rw [List.length_map]; exact Nat.lt_of_le_of_lt hz (by decide)), ?_⟩
    rw [put_dkv hl]
    exact q S2 _ _ (g.s.trans g2.s) (E2.write hρ e1 rfl)
/-- d.get(e) -/
def optD (o : Option Int) : PyData := match o with
  | some i => .int i
  | none => .none
theorem ek_getD (hu : X.A.units + 1 < cLine) (ho : EK X a ρ (kD kvs)) (he : EK X e ρ (kS X.K y)) (m : M1 X a "get" apos e cpos := by exact ⟨rfl, rfl, rfl, rfl⟩) : EK X (.Call (.Attribute a "get" apos) [e] [] cpos) ρ (dt X.K (optD (lookI kvs y))) :=
  EK.of (pe_dget1 hu ho he m) fun S0 H0 S H σ Q E q => ek_run E fun v S1 H1 g E1 ⟨l, h1, h2⟩ => by
    subst h1
    refine ⟨l, rfl, .inl ⟨_, .inl (E1.same _ _ h2)⟩, ek_run E1 fun z S2 H2 g2 E2 hz => ?_⟩
    rw [dp_str hz]
    refine ⟨_, DGet.k (k := .inr y) (E2.same _ _ (g2.s _ _ h2)), q _ S2 H2 (g.trans g2) ?_⟩
    rw [val_dkv]
    cases lookI kvs y with
    | none => exact .non
    | some i => exact .int i
/-! ### methods, makers -/
structure DfM (P : Program) (w : World) (K : PySem.W.Frag) (mg : Str → Option Value) (base : Heap) (k : Nat) (C : Addr) (m : Str) (ps : List Str) (R : List Kd → Kd → Prop) : Prop where
  ex : ∃ f fd, FnOk P w K mg base CX0 k f fd ps (spF R) ∧ Meth K C m f ∧ Binds K fd ps []
def IsI (C : Addr) (m : Str) (κ : Kd) : Prop := ∀ S v, κ.p S v → ∃ a dx fs, v = .ref a ∧ S a = some (.ins C dx fs) ∧ fs.lookup m = none
theorem isI_kO (h : kfs.lookup m = none) : IsI C m (kO C kfs) := fun S v ⟨a, dx, fs, h1, h2, h3⟩ => ⟨a, dx, fs, h1, h2, h3.2.1 m h⟩
theorem ek_meth {pl : Sem Bool} (D : DfM X.prog X.w X.K X.mg X.base k C m ps R) (hr : Room k X.A) (hc : Cls X.K C) (ho : EK X a ρ κo) (hi : IsI C m κo) (ha : AK X (e :: ees) ρ κs) (hR : R (κo :: κs) κ)
    (hst : starEach (e :: ees) X.env = (false, eval e X.env) :: starEach ees X.env := by rfl) (hpl : (backTo cpos (starEach ees X.env)).any (·.1) = false := by rfl)
    (ht : eval (.Call (.Attribute a m apos) (e :: ees) [] cpos) X.env = (do
      let ov ← eval a X.env
      standAt apos.atName
      let (f, first) ← holding [ov] (getMethod ov m pl)
      callWith cpos f first (backTo cpos (starEach (e :: ees) X.env)) (backToKw cpos (keywordEach [] X.env))) := by rfl) : EK X (.Call (.Attribute a m apos) (e :: ees) [] cpos) ρ κ := by
  obtain ⟨f, fd, F, hm, hb⟩ := D.ex
  exact EK.of (pe_meth (E := E0) (pl := pl) ho hc hm F hr hb .nil pass0 ha hst hpl ht) fun S0 H0 S H σ Q E q => ek_run E fun v S1 H1 g E1 hv => by
    obtain ⟨l, dx, fs, h1, h2, h3⟩ := hi S1 v hv
    refine ⟨l, dx, fs, h1, E1.same _ _ h2, h3, ak_run E1 fun vs S2 H2 g2 E2 hvs => ?_⟩
    refine ⟨S2, κo :: κs, κ, E2.same, hR, ?_, fun u S3 H3 g3 hu => q u S3 H3 ((g.trans g2).trans g3) hu⟩
    rw [List.append_nil]
    exact ⟨κo.mono g2.s hv, hvs⟩
/-- what an __init__ promises -/
def spI (C : Addr) (R : List Kd → Kd → Prop) : Sp := fun vs H Q _ => ∃ x dx H1 S κs κ ws, vs = .ref x :: ws ∧ H = upd (upd H1 dx (.own x)) x (.ins C dx []) ∧ H1 x = none ∧ H1 dx = none ∧ dx ≠ x ∧ Same S H1 ∧ R κs κ ∧ AllK S κs ws ∧
  ∀ S' H', Grow S H1 S' H' → κ.p S' (.ref x) → Q .non H'
structure DfI (P : Program) (w : World) (K : PySem.W.Frag) (mg : Str → Option Value) (base : Heap) (k : Nat) (C : Addr) (nm : Str) (ps : List Str) (R : List Kd → Kd → Prop) : Prop where
  ex : ∃ f fd, FnOk P w K mg base CX0 k f fd ps (spI C R) ∧ Mk K C f ∧ Binds K fd ps [] ∧ mg nm = some (.ref C)
theorem ek_make (D : DfI X.prog X.w X.K X.mg X.base k C x ps R) (hr : Room (k + 1) X.A) (ha : AK X (e :: ees) ρ κs) (hR : R κs κ) (hg : Gl X x := by rfl) (hdb : (x == ("__debug__" : Str)) = false := by decide) (he : starEach (e :: ees) X.env = (false, eval e X.env) :: starEach ees X.env := by rfl)
    (hpl : (backTo pos (starEach ees X.env)).any (·.1) = false := by rfl) : EK X (.Call (.Name x p) (e :: ees) [] pos) ρ κ := by
  obtain ⟨f, fd, F, M, hb, hm⟩ := D.ex
  exact EK.of (pe_make (E := E0) M F hr hg hm hb .nil pass0 ha hdb he hpl) fun S0 H0 S H σ Q E q => ak_run E fun vs S1 H1 g E1 hvs => fun y dx hy hdx hne => by
    refine ⟨y, dx, H1, S1, κs, κ, vs, by rw [List.append_nil], rfl, hy, hdx, hne, E1.same, hR, hvs, fun S2 H2 g2 h2 => ⟨rfl, q _ S2 H2 (g.trans g2) h2⟩⟩
/-- an __init__ is walked: self stands in slot 0 -/
theorem def_okI {P : Program} {w : World} {K : PySem.W.Frag} {mg : Str → Option Value} {base : Heap} {x qual : Str} {params : Arguments} {body : List Stmt} {scope : Scope} {f : Addr} {fd : FuncData} {N ps : List Str} {k : Nat} {R : List Kd → Kd → Prop} {C : Addr}
    (F : FunD K x qual params body scope [] [] f fd) (S : FnScope N ps scope) (len : ∀ κs κ, R κs κ → κs.length + 1 = ps.length)
    (hb : ∀ cdv A outer s H E κs κ xa, Room k (A.deeper (envOfC qual scope s.heap.objs.size f cdv)) → R κs κ → ∃ ρ', ρ'[0]? = some (.k (kAt xa κ)) ∧ SsK (Bx P w K mg base N qual scope f cdv A outer s H E) body ((startS N (kN K :: κs)).set 0 (.own (oI C xa []))) (.nx ρ')) : FnOk P w K mg base CX0 (k + 1) f fd ps (spI C R) := by
  refine F.ok S (fun vs H Q E h => ?_) fun cdv A outer s H vs Q E hr h => ?_
  · obtain ⟨x, dx, H1, S, κs, κ, ws, rfl, _, _, _, _, _, hR, hv, _⟩ := h
    have := hv.len
    have := len κs κ hR
    simp only [List.length_cons]; omega
  · obtain ⟨x, dx, H1, S1, κs, κ, ws, rfl, rfl, hx, hdx, hne, ss, hR, hv, q⟩ := h
    obtain ⟨ρ', hρ, hb'⟩ := hb cdv A outer s (upd (upd H1 dx (.own x)) x (.ins C dx [])) E κs κ x hr hR
    refine ⟨_, hb'.nox, S1, H1, S1, ?_, fun S2 H2 σ2 e2 E2 => ?_⟩
    · have base : En K S1 H1 S1 H1 (L2.start N (.non :: ws)) (startS N (kN K :: κs)) := en_start ss ⟨.non, hv⟩
      have g1 : Grow S1 H1 S1 (upd H1 dx (.own x)) := Grow.drop ss _ hdx
      have base2 := base.grow g1
      have hl : 0 < (startS N (kN K :: κs)).length := by unfold startS; simp
      have := base2.fresh (i := 0) (p := x) (u := .ins C dx []) (w := oI C x []) hl (by rw [upd_ne hne.symm]; exact hx) ⟨rfl, dx, [], rfl, ⟨fun f κ l => (by cases l), fun f _ => rfl, Nat.le_refl _⟩⟩
      exact this
    · obtain ⟨v, hv2, h1, h2⟩ := E2.var hρ
      subst h1
      exact q S2 H2 E2.g h2
end
end KD
end
section
namespace KD
open PySem PySem.Spec PyProof.Rows L2
theorem FnOk.imp {P : Program} {w : World} {K : PySem.W.Frag} {mg : Str → Option Value} {base : Heap} {CX : CXT} {k : Nat} {f : Addr} {fd : FuncData} {ps : List Str} {sp sp' : Sp} (F : FnOk P w K mg base CX k f fd ps sp) (h : ∀ vs H Q E, sp' vs H Q E → sp vs H Q E) : FnOk P w K mg base CX k f fd ps sp' where
  len := fun vs H Q E q => F.len vs H Q E (h vs H Q E q)
  run := fun A outer s H a us vs Q E hr e b r q => F.run A outer s H a us vs Q E hr e b r (h vs H Q E q)
structure DfP (P : Program) (w : World) (K : PySem.W.Frag) (mg : Str → Option Value) (base : Heap) (k : Nat) (C : Addr) (m : Str) (R : List Kd → Kd → Prop) : Prop where
  ex : ∃ p g fd ps, FnOk P w K mg base CX0 k g fd ps (spF R) ∧ PropOf K C m p g ∧ Binds K fd ps []
section
variable {X : Cx} {e a b c : Expr} {ρ ρ1 ρ' : List Sl} {κ κa κb κc κo : Kd} {pos p apos cpos : Pos} {x y m : Str} {κs : List Kd} {k : Nat} {n : Nat} {C : Addr} {f : Str} {R : List Kd → Kd → Prop} {ps : List Str}
theorem ek_prop (D : DfP X.prog X.w X.K X.mg X.base k C m R) (hr : Room (k + 1) X.A) (hc : Cls X.K C) (ho : EK X e ρ κo) (hi : ∀ S v, κo.p S v → ∃ a dx fs, v = .ref a ∧ S a = some (.ins C dx fs)) (hR : R [κo] κ) (hb : attributeBase e m X.env (eval e X.env) = eval e X.env := by rfl) : EK X (.Attribute e m pos) ρ κ := by
  obtain ⟨p, g, fd, ps, F, hp, hbi⟩ := D.ex
  exact EK.of (pe_prop (E := E0) ho hc hp F hr hbi .nil pass0 hb) fun S0 H0 S H σ Q E q => ek_run E fun v S1 H1 g E1 hv => by
    obtain ⟨l, dx, fs, h1, h2⟩ := hi S1 v hv
    subst h1
    exact ⟨l, dx, fs, rfl, E1.same _ _ h2, S1, [κo], κ, E1.same, hR, ⟨hv, trivial⟩, fun u S3 H3 g3 hu => q u S3 H3 (g.trans g3) hu⟩
theorem ek_isC (ic : C8.InsC X.K C) (hm : X.mg "isinstance" = none) (ha : EK X e ρ κa) (hi : ∀ S v, κa.p S v → ∃ a dx fs, v = .ref a ∧ S a = some (.ins C dx fs)) (hb : EK X b ρ (vk (.ref C))) (hg : Gl X "isinstance" := by rfl) (he : starEach (e :: [b]) X.env = (false, eval e X.env) :: starEach [b] X.env := by rfl) (hpl : (backTo pos (starEach [b] X.env)).any (·.1) = false := by rfl) (he2 : starEach (b :: []) X.env = (false, eval b X.env) :: starEach [] X.env := by rfl) : EK X (.Call (.Name "isinstance" p) [e, b] [] pos) ρ (kB X.K true) :=
  ek_cb (C8.call_isC ic) (ck_pure fun S H vs Q s hv q => by
    obtain ⟨v, u, rfl, h1, h2⟩ := all2 hv
    have h3 : u = .ref C := h2
    subst h3
    obtain ⟨l, dx, fs, rfl, h4⟩ := hi S v h1
    exact ⟨l, dx, fs, rfl, s _ _ h4, q _ (.bl _)⟩) hm boot_isinstance (ak_cons ha (ak_cons hb ak_nil he2) he) hg (by decide) (by decide) he hpl
/-- what an own == needs -/
structure DfE (P : Program) (w : World) (K : PySem.W.Frag) (mg : Str → Option Value) (base : Heap) (k : Nat) (C : Addr) (κ : Kd) : Prop where
  ex : ∃ f fd ps, FnOk P w K mg base CX0 k f fd ps (spF fun κs κ' => κs = [κ, κ] ∧ κ' = kB K true) ∧ PySem.W.findIn K (.ref C) "__eq__" = some (some (.ref f)) ∧ PySem.W.isFn K (.ref f) = true ∧ Binds K fd ps []
theorem op_ownEq (D : DfE X.prog X.w X.K X.mg X.base k C κ) (hr : Room k X.A) (hi : ∀ S v, κ.p S v → ∃ a dx fs, v = .ref a ∧ S a = some (.ins C dx fs)) : ∃ r, OpR X (compareOp .Eq) r ∧ RK r κ κ (kB X.K true) := by
  obtain ⟨f, fd, ps, F, hs, hf, hb⟩ := D.ex
  let Rr : Addr → Addr → Hp → Prop := fun a b H => ∃ S, Same S H ∧ κ.p S (.ref a) ∧ κ.p S (.ref b)
  have F2 : FnOk X.prog X.w X.K X.mg X.base CX0 k f fd ps (spEq Rr) := FnOk.imp F fun vs H Q E ⟨a, b, e, ⟨S, s, h1, h2⟩, q⟩ => ⟨S, [κ, κ], kB X.K true, s, ⟨rfl, rfl⟩, by rw [e]; exact ⟨h1, h2, trivial⟩, fun v S2 H2 g hv => by rw [dp_bl hv]; exact q H2 g.h⟩
  refine ⟨_, op_eqG (n := k) (D := DIns C Rr) (rcG_ins (E := E0) F2 hs hf hb pass0) hr, fun S H x y Q s hx hy q => ?_⟩
  obtain ⟨a, dx, fs, rfl, ha⟩ := hi S x hx
  obtain ⟨b, dy, gs, rfl, hb⟩ := hi S y hy
  refine ⟨⟨a, b, dx, dy, fs, gs, rfl, rfl, s _ _ ha, s _ _ hb, S, s, hx, hy⟩, fun H' e => ?_⟩
  exact q _ S H' ⟨Same.refl _, e, s.trans e, fun x h _ => h⟩ (.bl _)
theorem ek_ownEq (D : DfE X.prog X.w X.K X.mg X.base k C κ) (hr : Room k X.A) (hi : ∀ S v, κ.p S v → ∃ a dx fs, v = .ref a ∧ S a = some (.ins C dx fs)) (ha : EK X a ρ κ) (hb : EK X b ρ κ) : EK X (.Compare a [.Eq] [b] pos) ρ (kB X.K true) := by
  obtain ⟨r, h1, h2⟩ := op_ownEq D hr hi
  exact ek_cmp h1 h2 ha hb (nomark _)
end
end KD
end
section
namespace KD
open PySem PySem.Spec PyProof.Rows L2
section
variable {X : Cx} {c : Expr} {ρ : List Sl} {pos : Pos} {k : Bool} {o : Out} {sa sb rest : List Stmt} {κ : Kd}
theorem sk_T (hc : TK X c ρ k) (hk : k = true) (ha : SsK X sa ρ o) : SK X (.If c sa sb pos) ρ o := sk_ifT (hc.to hk) ha
theorem sk_F (hc : TK X c ρ k) (hk : k = false) (hb : SsK X sb ρ o) : SK X (.If c sa sb pos) ρ o := sk_ifF (hc.to hk) hb
/-- a test that does not hold, and nothing else -/
theorem ss_F (hc : TK X c ρ k) (hk : k = false) (hr : SsK X rest ρ o) : SsK X (.If c sa [] pos :: rest) ρ o := ss_cons (sk_F hc hk ss_nil) hr
/-- a test that holds, and its return -/
theorem ss_T (hc : TK X c ρ k) (hk : k = true) (ha : SsK X sa ρ (.rt κ)) : SsK X (.If c sa sb pos :: rest) ρ (.rt κ) := ss_ret (sk_T hc hk ha)
end
theorem kit_int_int : kitB "int" "int" = some true := by decide +kernel
theorem kit_int_bool : kitB "int" "bool" = some false := by decide +kernel
theorem kit_str_str : kitB "str" "str" = some true := by decide +kernel
theorem kit_non_str : kitB "NoneType" "str" = some false := by decide +kernel
theorem kit_tup_tup : kitB "tuple" "tuple" = some true := by decide +kernel
theorem kit_tup_lst : kitB "tuple" "list" = some false := by decide +kernel
theorem kit_lst_tup : kitB "list" "tuple" = some false := by decide +kernel
theorem kit_lst_lst : kitB "list" "list" = some true := by decide +kernel
theorem kit_str_tup : kitB "str" "tuple" = some false := by decide +kernel
theorem kit_str_lst : kitB "str" "list" = some false := by decide +kernel
theorem kit_int_tup : kitB "int" "tuple" = some false := by decide +kernel
theorem kit_int_lst : kitB "int" "list" = some false := by decide +kernel
theorem kit_non_tup : kitB "NoneType" "tuple" = some false := by decide +kernel
theorem kit_non_lst : kitB "NoneType" "list" = some false := by decide +kernel
end KD
namespace K71
open PySem PySem.Spec PyProof.Rows L2 KD

/-! ### the plain things -/
def cols : List Nat := [1, 2, 4]
def hb (n c : Nat) : Bool := n / c % 2 == 1
inductive Dd where
  | set | add | bl
deriving DecidableEq
def Dd.s : Dd → Str
  | .set => "set"
  | .add => "add"
  | .bl => "bleach"
/-- an item: nothing, or a deed and a digit -/
abbrev Itm := Option (Dd × Nat)
def iok : Itm → Prop
  | none => True
  | some (_, n) => n < 8
def itD (t : Bool) : Itm → PyData
  | none => .none
  | some (d, n) => if t then .tuple [.str d.s, .int n] else .list [.str d.s, .int n]
def chg : Itm → Bool
  | none => false
  | some (.set, _) => true
  | some (_, n) => decide (0 < n)
/-- 0: away, 1: there, 2: not touched -/
def v1 (it : Itm) (c : Nat) : Nat := match it with
  | none => 2
  | some (.set, n) => n / c % 2
  | some (.add, n) => if n / c % 2 = 1 then 1 else 2
  | some (.bl, n) => if n / c % 2 = 1 then 0 else 2
def eff3 (it : Itm) : List Nat := cols.map (v1 it)
def pr (x y : Nat) : Nat := if y = 2 then x else y
def sc : Nat → Nat
  | 0 => 46
  | 1 => 97
  | _ => 45
def layT (v : List Nat) : Str := ofL (v.map sc)
def bits3 (d : Nat) : List Nat := cols.map fun c => d / c % 2
def sg (n x y : Nat) : List Nat := cols.map fun c => if hb n c then x else y
def aft (d : Nat) : Itm → Nat
  | none => d
  | some (.set, n) => n
  | some (.add, n) => d + n - (d &&& n)
  | some (.bl, n) => d - (d &&& n)
def dc (d : Nat) : Nat := 48 + d
def digT (p : List Nat) : Str := ofL (p.map dc)
def rc : Option Nat → Nat
  | none => 45
  | some d => 48 + d
def rdT (r : List (Option Nat)) : Str := ofL (r.map rc)
def pl3 : Option Nat → List Nat
  | none => [2, 2, 2]
  | some d => bits3 d
def d8 (p : List Nat) : Prop := ∀ d ∈ p, d < 8
def r8 (r : List (Option Nat)) : Prop := ∀ d, some d ∈ r → d < 8
def iall (its : List Itm) : Prop := ∀ it ∈ its, iok it
theorem sg_len (n x y : Nat) : (sg n x y).length = 3 := rfl
/-! finite facts -/
theorem fin_hb : ∀ n : Nat, n < 8 → ∀ c ∈ cols, (!decide (Builtin.bitAnd (n : Int) (c : Int) = 0)) = hb n c := by decide +kernel
theorem fin_and : ∀ n : Nat, n < 8 → ∀ m : Nat, m < 8 → Builtin.bitAnd (n : Int) (m : Int) = ((n &&& m : Nat) : Int) := by decide +kernel
theorem fin_and_le : ∀ n : Nat, n < 8 → ∀ m : Nat, m < 8 → (n &&& m) ≤ n ∧ n + m - (n &&& m) < 8 := by decide +kernel
theorem aft_lt {d : Nat} (hd : d < 8) : ∀ {it : Itm}, iok it → aft d it < 8
  | none, _ => hd
  | some (.set, n), h => h
  | some (.add, n), h => (fin_and_le d hd n h).2
  | some (.bl, n), h => Nat.lt_of_le_of_lt (Nat.sub_le _ _) hd
theorem fin_aft : ∀ d : Nat, d < 8 → ∀ n : Nat, n < 8 → bits3 (d + n - (d &&& n)) = List.zipWith pr (bits3 d) (eff3 (some (.add, n))) ∧ bits3 (d - (d &&& n)) = List.zipWith pr (bits3 d) (eff3 (some (.bl, n))) ∧ bits3 n = List.zipWith pr (bits3 d) (eff3 (some (.set, n))) := by decide +kernel
theorem bits_aft {d : Nat} (hd : d < 8) : ∀ {it : Itm}, iok it → bits3 (aft d it) = List.zipWith pr (bits3 d) (eff3 it)
  | none, _ => rfl
  | some (.set, n), h => (fin_aft d hd n h).2.2
  | some (.add, n), h => (fin_aft d hd n h).1
  | some (.bl, n), h => (fin_aft d hd n h).2.1
theorem fin_sg : ∀ n : Nat, n < 8 → sg n 97 46 = (bits3 n).map sc ∧ sg n 97 46 = (eff3 (some (.set, n))).map sc ∧ sg n 97 45 = (eff3 (some (.add, n))).map sc ∧ sg n 46 45 = (eff3 (some (.bl, n))).map sc := by decide +kernel
theorem digT_len (p : List Nat) : (digT p).length = p.length := by unfold digT; rw [ofL_len, List.length_map]
theorem layT_len (p : List Nat) : (layT p).length = p.length := by unfold layT; rw [ofL_len, List.length_map]
theorem rdT_len (p : List (Option Nat)) : (rdT p).length = p.length := by unfold rdT; rw [ofL_len, List.length_map]
theorem rdT_some (p : List Nat) : rdT (p.map some) = digT p := by unfold rdT digT; rw [List.map_map]; rfl
end K71
end
section
namespace K71
open PySem PySem.Spec PyProof.Rows L2 KD
local macro_rules | `(tactic| walk_at "sz") => `(tactic| first | omega | decide | (simp only [ofL_len, digT_len, layT_len, rdT_len, List.length_map, List.length_append, List.length_cons, List.length_nil]; omega))
section
variable {P : Program} {w : World} {K : PySem.W.Frag} {mg : Str → Option Value} {base : Heap} {f : Addr} {fd : FuncData}

/-! ### has_colour -/
def R_has_colour (K : PySem.W.Frag) (κs : List Kd) (κ : Kd) : Prop := ∃ n c : Nat, n < 8 ∧ c ∈ cols ∧ κs = [kI K n, kI K c] ∧ κ = kB K (hb n c)
theorem sc_has_colour : FnScope ["digit", "colour"] ["digit", "colour"] (defScope (top 27)) := ⟨rfl, rfl, rfl, by decide +kernel, rfl, by decide +kernel, by decide +kernel⟩
theorem ok_has_colour (F : FnG K "has_colour" (top 27) f fd) : FnOk P w K mg base CX0 1 f fd ["digit", "colour"] (spF (R_has_colour K)) := by
  refine def_ok F sc_has_colour (fun κs κ ⟨_, _, _, _, e, _⟩ => by rw [e]; rfl) fun cdv A outer s H E κs κ hr h => ?_
  obtain ⟨n, c, hn, hc, rfl, rfl⟩ := h
  exact ss_one (sk_ret ((ek_neI (ek_band (ek_var 0) (ek_var 1)) ek_int).to (congrArg PyData.bool (fin_hb n hn c hc))))

/-! ### is_digit -/
def R_is_digit (K : PySem.W.Frag) (κs : List Kd) (κ : Kd) : Prop := ∃ n : Nat, n < 8 ∧ κs = [kI K n] ∧ κ = kB K true
theorem sc_is_digit : FnScope ["value"] ["value"] (defScope (top 28)) := ⟨rfl, rfl, rfl, by decide +kernel, rfl, by decide +kernel, by decide +kernel⟩
theorem ok_is_digit (F : FnG K "is_digit" (top 28) f fd) (T : Tx K mg) : FnOk P w K mg base CX0 1 f fd ["value"] (spF (R_is_digit K)) := by
  refine def_ok F sc_is_digit (fun κs κ ⟨_, _, e, _⟩ => by rw [e]; rfl) fun cdv A outer s H E κs κ hr h => ?_
  obtain ⟨n, hn, rfl, rfl⟩ := h
  refine ss_one (sk_ret (EK.to (ek_and (ek_isi T.isinstance (ek_var 0) (ek_ty T.int boot_int) (by exact kit_int_int)) (fun h => (ek_and (ek_not (ek_isi T.isinstance (ek_var 0) (ek_ty T.bool boot_bool) (by exact kit_int_bool))) (fun h => (ek_one (ek_chain op_le op_le rk_B0 rk_B0 ek_int (ek_var 0) (T.e_ALL_COLOURS))))))) ?_))
  rw [decide_eq_true (show (0 : Int) ≤ n by omega), decide_eq_true (show (n : Int) ≤ 7 by omega)]
  rfl

/-! ### is_ink_item, of what was frozen -/
def R_is_ink_item (K : PySem.W.Frag) (κs : List Kd) (κ : Kd) : Prop := ∃ it : Itm, iok it ∧ κs = [dt K (itD true it)] ∧ κ = kB K true
theorem sc_is_ink_item : FnScope ["item"] ["item"] (defScope (top 29)) := ⟨rfl, rfl, rfl, by decide +kernel, rfl, by decide +kernel, by decide +kernel⟩
theorem dd_in (d : Dd) : decide (d.s ∈ ([ "set", "add", "bleach"] : List Str)) = true := by cases d <;> decide +kernel
theorem ok_is_ink_item (F : FnG K "is_ink_item" (top 29) f fd) (T : Tx K mg) (D_is_digit : Df P w K mg base 1 "is_digit" ["value"] (R_is_digit K)) : FnOk P w K mg base CX0 2 f fd ["item"] (spF (R_is_ink_item K)) := by
  refine def_ok F sc_is_ink_item (fun κs κ ⟨_, _, e, _⟩ => by rw [e]; rfl) fun cdv A outer s H E κs κ hr h => ?_
  obtain ⟨it, hi, rfl, rfl⟩ := h
  match it, hi with
  | none, _ => exact ss_T (tk_isN (ek_var 0)) rfl (ss_one (sk_ret ek_bl))
  | some (d, n), hn =>
    refine ss_F (tk_isN (ek_var 0)) rfl ?_
    refine ss_F (tk_w (wk_or (tk_not (tk_val (ek_isi2 T.isinstance (ek_var 0) (ek_ty T.list boot_list) (ek_ty T.tuple boot_tuple) (by exact kit_tup_lst) (by exact kit_tup_tup) (by rfl)))) (fun h => (wk_or1 (tk_neI (ek_len (n := 2) T.len (ek_var 0) rfl (by decide)) ek_int))))) rfl ?_
    refine ss_one (sk_ret (EK.to (ek_and (ek_inT (ss := ["set", "add", "bleach"]) (ek_ixT (ek_var 0) ek_int (at_nat (n := 0) rfl)) (T.e_DEEDS)) (fun h => (ek_one (ek_call D_is_digit (hr.mono (by decide)) (ak_cons (ek_ixT (ek_var 0) ek_int (at_nat (n := 1) rfl)) ak_nil) ⟨n, hn, rfl, rfl⟩)))) ?_))
    rw [dd_in]
    rfl

/-! ### changes_some -/
def R_changes_some (K : PySem.W.Frag) (κs : List Kd) (κ : Kd) : Prop := ∃ it : Itm, κs = [dt K (itD true it)] ∧ κ = kB K (chg it)
theorem sc_changes_some : FnScope ["item"] ["item"] (defScope (top 30)) := ⟨rfl, rfl, rfl, by decide +kernel, rfl, by decide +kernel, by decide +kernel⟩
theorem dd_set (d : Dd) : decide (d.s = ("set" : Str)) = decide (d = .set) := by cases d <;> decide +kernel
theorem dd_add (d : Dd) : decide (d.s = ("add" : Str)) = decide (d = .add) := by cases d <;> decide +kernel
theorem dd_bl (d : Dd) : decide (d.s = ("bleach" : Str)) = decide (d = .bl) := by cases d <;> decide +kernel
theorem ok_changes_some (F : FnG K "changes_some" (top 30) f fd) : FnOk P w K mg base CX0 1 f fd ["item"] (spF (R_changes_some K)) := by
  refine def_ok F sc_changes_some (fun κs κ ⟨_, e, _⟩ => by rw [e]; rfl) fun cdv A outer s H E κs κ hr h => ?_
  obtain ⟨it, rfl, rfl⟩ := h
  cases it with
  | none => exact ss_one (sk_ret (EK.to (ek_and (l := false) (ek_notN (ek_var 0)) (fun h => by exact nomatch h)) rfl))
  | some q =>
    obtain ⟨d, n⟩ := q
    refine ss_one (sk_ret (EK.to (ek_and (ek_notN (ek_var 0)) (fun h => (ek_one (ek_or (ek_eqS (ek_ixT (ek_var 0) ek_int (at_nat (n := 0) rfl)) ek_str) (fun h => (ek_one (ek_gt (ek_ixT (ek_var 0) ek_int (at_nat (n := 1) rfl)) ek_int))))))) ?_))
    rw [dd_set]
    cases d with
    | set => rfl
    | add => show PyData.bool (decide ((0 : Int) < (n : Int))) = PyData.bool (decide (0 < n)); congr 1; rw [decide_eq_decide]; omega
    | bl => show PyData.bool (decide ((0 : Int) < (n : Int))) = PyData.bool (decide (0 < n)); congr 1; rw [decide_eq_decide]; omega

/-! ### is_ink_stamp -/
def R_is_ink_stamp (K : PySem.W.Frag) (κs : List Kd) (κ : Kd) : Prop := ∃ its : List Itm, iall its ∧ its.length ≤ 30 ∧ its.any chg = true ∧ κs = [kT K (its.map (itD true)), kI K its.length] ∧ κ = kB K true
theorem sc_is_ink_stamp : FnScope ["value", "size", "changing", "item"] ["value", "size"] (defScope (top 31)) := ⟨rfl, rfl, rfl, by decide +kernel, rfl, by decide +kernel, by decide +kernel⟩
theorem any_take {α : Type} (q : α → Bool) (l : List α) (i : Nat) {x : α} (h : l[i]? = some x) : (l.take (i + 1)).any q = ((l.take i).any q || q x) := by
  rw [List.take_add_one, h, List.any_append]
  simp
theorem ok_is_ink_stamp (F : FnG K "is_ink_stamp" (top 31) f fd) (T : Tx K mg) (D_is_ink_item : Df P w K mg base 2 "is_ink_item" ["item"] (R_is_ink_item K)) (D_changes_some : Df P w K mg base 1 "changes_some" ["item"] (R_changes_some K)) : FnOk P w K mg base CX0 3 f fd ["value", "size"] (spF (R_is_ink_stamp K)) := by
  refine def_ok F sc_is_ink_stamp (fun κs κ ⟨_, _, _, _, e, _⟩ => by rw [e]; rfl) fun cdv A outer s H E κs κ hr h => ?_
  obtain ⟨its, hi, h30, hc, rfl, rfl⟩ := h
  have nd := sc_is_ink_stamp.nd
  refine ss_F (tk_w (wk_or (tk_not (tk_val (ek_isi2 T.isinstance (ek_var 0) (ek_ty T.list boot_list) (ek_ty T.tuple boot_tuple) (by exact kit_tup_lst) (by exact kit_tup_tup) (by rfl)))) (fun h => (wk_or1 (tk_neI (ek_len (n := its.length) T.len (ek_var 0) (by show some _ = _; rw [List.length_map]) (by omega)) (ek_var 1)))))) (by simp) ?_
  refine ss_cons (sk_set 2 nd ek_bl) ?_
  refine ss_cons (sk_for PassesOwn.never rfl (ik_tup (ek_var 0)) (fun i => [.k (kT K (its.map (itD true))), .k (kI K its.length), .k (kB K ((its.take i).any chg)), .un]) (.keep (.keep (.keep (.keep .nil)))) (fun i d hd => ⟨_, gk_name 3 nd, ?_⟩)) ?_
  · obtain ⟨it, hit, rfl⟩ := map_get hd
    refine ss_F (tk_not (tk_val (ek_call D_is_ink_item (hr.mono (by decide)) (ak_cons (ek_var 3) ak_nil) ⟨it, hi it (List.mem_of_getElem? hit), rfl, rfl⟩))) rfl ?_
    rw [any_take chg its i hit]
    refine ss_one (sk_weakO (SK.to (o' := .nx [.k (kT K (its.map (itD true))), .k (kI K its.length), .k (kB K ((its.take i).any chg || chg it)), .k (dt K (itD true it))]) (sk_ifSet (d0 := .bool ((its.take i).any chg)) (d1 := .bool true) 2 nd (tk_val (ek_call D_changes_some (hr.mono (by decide)) (ak_cons (ek_var 3) ak_nil) ⟨it, rfl, rfl⟩)) (fun _ => ek_bl)) ?_) (.keep (.keep (.keep (.drop .nil)))))
    generalize (its.take i).any chg = z
    cases chg it <;> cases z <;> rfl
  · refine ss_one (sk_ret (EK.to (ek_var 2) ?_))
    rw [List.length_map, List.take_length, hc]
end
end K71
end
section
namespace KD
open PySem PySem.Spec PyProof.Rows L2
theorem zip_key {ks ls : List PyData} {i : Nat} {d : PyData} (hd : (zipD ks ls)[i]? = some d) : ∃ x y, ks[i]? = some x ∧ ls[i]? = some y ∧ d = .tuple [x, y] := by
  have hi := lt_get hd
  rw [zipD_len] at hi
  obtain ⟨x, hx⟩ := get_lt (l := ks) (i := i) (by omega)
  obtain ⟨y, hy⟩ := get_lt (l := ls) (i := i) (by omega)
  rw [zipD_get hx hy] at hd
  exact ⟨x, y, hx, hy, (Option.some.inj hd).symm⟩
theorem signs_key {l : List Nat} {i : Nat} {d : PyData} (hd : (signsD (ofL l))[i]? = some d) : ∃ c, l[i]? = some c ∧ d = .str (ofL [c]) := by
  obtain ⟨c, h1, h2⟩ := map_get (l := l) hd
  exact ⟨c, h1, h2⟩
theorem map_at {α β : Type} {l : List α} {f : α → β} {i : Nat} {x : α} (h : l[i]? = some x) : (l.map f)[i]? = some (f x) := by rw [List.getElem?_map, h]; rfl
theorem zw_get {α β γ : Type} {f : α → β → γ} {as : List α} {bs : List β} {i : Nat} {x : α} {y : β} (h1 : as[i]? = some x) (h2 : bs[i]? = some y) : (List.zipWith f as bs)[i]? = some (f x y) := by rw [List.getElem?_zipWith, h1, h2]
end KD
namespace K71
open PySem PySem.Spec PyProof.Rows L2 KD
local macro_rules | `(tactic| walk_at "sz") => `(tactic| first | omega | decide | (simp only [ofL_len, digT_len, layT_len, rdT_len, List.length_map, List.length_append, List.length_cons, List.length_nil]; omega))
section
variable {P : Program} {w : World} {K : PySem.W.Frag} {mg : Str → Option Value} {base : Heap} {f : Addr} {fd : FuncData}

/-! ### after_item, of what was frozen -/
def R_after_item (K : PySem.W.Frag) (κs : List Kd) (κ : Kd) : Prop := ∃ (d : Nat) (it : Itm), d < 8 ∧ iok it ∧ κs = [kI K d, dt K (itD true it)] ∧ κ = kI K (aft d it)
theorem sc_after_item : FnScope ["digit", "item", "deed", "colours", "both"] ["digit", "item"] (defScope (top 32)) := ⟨rfl, rfl, rfl, by decide +kernel, rfl, by decide +kernel, by decide +kernel⟩
theorem ok_after_item (F : FnG K "after_item" (top 32) f fd) : FnOk P w K mg base CX0 1 f fd ["digit", "item"] (spF (R_after_item K)) := by
  refine def_ok F sc_after_item (fun κs κ ⟨_, _, _, _, e, _⟩ => by rw [e]; rfl) fun cdv A outer s H E κs κ hr h => ?_
  obtain ⟨d, it, hd, hi, rfl, rfl⟩ := h
  have nd := sc_after_item.nd
  cases it with
  | none => exact ss_T (tk_isN (ek_var 1)) rfl (ss_one (sk_ret (ek_var 0)))
  | some q =>
    obtain ⟨dd, n⟩ := q
    have hn : n < 8 := hi
    refine ss_F (tk_isN (ek_var 1)) rfl ?_
    refine ss_cons (sk_asg (κ := kT K [.str dd.s, .int n]) (ek_var 1) (gk_tup2 2 3 nd rfl)) ?_
    have hle := fin_and_le d hd n hn
    cases dd with
    | set => exact ss_T (tk_eqS (ek_var 2) ek_str) (by decide +kernel) (ss_one (sk_ret (ek_var 3)))
    | add =>
      refine ss_F (tk_eqS (ek_var 2) ek_str) (by decide +kernel) ?_
      refine ss_cons (sk_set 4 nd (ek_band (ek_var 0) (ek_var 3))) ?_
      refine ss_T (tk_eqS (ek_var 2) ek_str) (by decide +kernel) (ss_one (sk_ret (EK.to (ek_sub (ek_add (ek_var 0) (ek_var 3)) (ek_var 4)) ?_)))
      rw [fin_and d hd n hn]
      show PyData.int _ = PyData.int ((d + n - (d &&& n) : Nat) : Int)
      congr 1
      omega
    | bl =>
      refine ss_F (tk_eqS (ek_var 2) ek_str) (by decide +kernel) ?_
      refine ss_cons (sk_set 4 nd (ek_band (ek_var 0) (ek_var 3))) ?_
      refine ss_F (tk_eqS (ek_var 2) ek_str) (by decide +kernel) ?_
      refine ss_one (sk_ret (EK.to (ek_sub (ek_var 0) (ek_var 4)) ?_))
      rw [fin_and d hd n hn]
      show PyData.int _ = PyData.int ((d - (d &&& n) : Nat) : Int)
      congr 1
      omega

/-! ### ink_press -/
def R_ink_press (K : PySem.W.Frag) (κs : List Kd) (κ : Kd) : Prop := ∃ (p : List Nat) (its : List Itm), p.length = its.length ∧ p.length ≤ 30 ∧ d8 p ∧ iall its ∧ κs = [kS K (digT p), kT K (its.map (itD true))] ∧ κ = kS K (digT (List.zipWith aft p its))
theorem sc_ink_press : FnScope ["sheet", "stamp", "sign", "item"] ["sheet", "stamp"] (defScope (top 33)) := ⟨rfl, rfl, rfl, by decide +kernel, rfl, by decide +kernel, by decide +kernel⟩
theorem one_sz {l : List Nat} (h : l.length ≤ 1000) : (((l.map fun c => ofL [c]) : List Str).map (·.length)).sum + (l.map fun c => ofL [c]).length * (ofL []).length ≤ 16777216 :=
  join_sz (m := 1) (n := 1000) (fun x hx => by obtain ⟨c, _, rfl⟩ := List.mem_map.mp hx; exact Nat.le_refl _) (by rw [List.length_map]; omega) (by decide)
theorem int_dc {d : Nat} (h : d < 8) : PySem.intText? (ofL [dc d]) = some (d : Int) := int_digit d (by omega)
theorem str_dc {d : Nat} (h : d < 8) : (toString (d : Int) : Str) = ofL [dc d] := str_digit d (by omega)
theorem log_lt {n : Nat} (h : n < 1000) : ((n : Int).natAbs).log2 < 1920 := by
  show n.log2 < 1920
  exact Nat.lt_of_le_of_lt (Nat.log2_le_self n) (by omega)
theorem ok_ink_press (F : FnG K "ink_press" (top 33) f fd) (T : Tx K mg) (D_after_item : Df P w K mg base 1 "after_item" ["digit", "item"] (R_after_item K)) : FnOk P w K mg base CX0 2 f fd ["sheet", "stamp"] (spF (R_ink_press K)) := by
  refine def_ok F sc_ink_press (fun κs κ ⟨_, _, _, _, _, _, e, _⟩ => by rw [e]; rfl) fun cdv A outer s H E κs κ hr h => ?_
  obtain ⟨p, its, hl, h30, hp, hi, rfl, rfl⟩ := h
  have nd := sc_ink_press.nd
  have hlen : (List.zipWith aft p its).length = p.length := by rw [List.length_zipWith]; omega
  have key : ∀ i d, (zipD (signsD (digT p)) (its.map (itD true)))[i]? = some d → ∃ x y, p[i]? = some x ∧ its[i]? = some y ∧ d = PyData.tuple [PyData.str (ofL [dc x]), itD true y] := fun i d hd => by
    obtain ⟨x, y, h1, h2, rfl⟩ := zip_key hd
    obtain ⟨c, h3, rfl⟩ := signs_key h1
    obtain ⟨z, h4, rfl⟩ := map_get h3
    obtain ⟨it, h5, rfl⟩ := map_get h2
    exact ⟨z, it, h4, h5, rfl⟩
  show SsK _ _ _ (.rt (kS K (ofL ((List.zipWith aft p its).map dc))))
  rw [← joinOne ((List.zipWith aft p its).map dc)]
  refine ss_one (sk_ret (ek_join ek_str (ek_lc _ rfl nd (ik_zip T.zip (ek_var 0) (ek_var 1) rfl rfl) (blkOk_by (N := ["sheet", "stamp", "sign", "item"]) (sc := defScope (top 33)) (own := [("sign", 2), ("item", 3)]) (by decide +kernel)) (fun i => [.k (kS K (digT p)), .k (kT K (its.map (itD true))), .k (kS K (ofL [dc (p.getD i 0)])), .k (dt K (itD true (its.getD i none)))]) ?hl ?hz (fun i d hd s H C cl fp => ?bg) (fun i d e hd he s H C cl fp => ?el)) ?sz))
  case hl => rw [List.length_map, List.length_map, List.length_map, zipD_len, signsD_len, digT_len, List.length_map]; omega
  case hz => rw [zipD_len, signsD_len, digT_len, List.length_map]; omega
  case bg =>
    obtain ⟨x, y, hx, hy, rfl⟩ := key i d hd
    rw [getD_of hx, getD_of hy]
    exact bg_tup2 2 3 (by decide) (by decide) nd rfl
  case el =>
    obtain ⟨x, y, hx, hy, rfl⟩ := key i d hd
    rw [getD_of hx, getD_of hy]
    obtain ⟨z, hz, rfl⟩ := map_get he
    obtain ⟨c, hc, rfl⟩ := map_get hz
    obtain ⟨v, hv, rfl⟩ := map_get hc
    rw [zw_get hx hy] at hv
    cases hv
    have hx8 := hp x (List.mem_of_getElem? hx)
    have hy8 := hi y (List.mem_of_getElem? hy)
    refine EK.to (ek_str1 T.str (ek_call D_after_item (hr.mono (by decide)) (ak_cons (ek_toIS T.int (ek_var 2) (int_dc hx8) (by show (1 : Nat) ≤ 640; decide)) (ak_cons (ek_var 3) ak_nil)) ⟨x, y, hx8, hy8, rfl, rfl⟩) (log_lt (by have := aft_lt hx8 hy8; omega))) ?_
    rw [str_dc (aft_lt hx8 hy8)]
  case sz => exact one_sz (by rw [List.length_map, hlen]; omega)

/-! ### colour_signs -/
def R_colour_signs (K : PySem.W.Frag) (κs : List Kd) (κ : Kd) : Prop := ∃ n x y : Nat, n < 8 ∧ κs = [kI K n, kS K (ofL [x]), kS K (ofL [y])] ∧ κ = kS K (ofL (sg n x y))
theorem sc_colour_signs : FnScope ["digit", "there", "away", "colour"] ["digit", "there", "away"] (defScope (top 39)) := ⟨rfl, rfl, rfl, by decide +kernel, rfl, by decide +kernel, by decide +kernel⟩
theorem ok_colour_signs (F : FnG K "colour_signs" (top 39) f fd) (T : Tx K mg) (D_has_colour : Df P w K mg base 1 "has_colour" ["digit", "colour"] (R_has_colour K)) : FnOk P w K mg base CX0 2 f fd ["digit", "there", "away"] (spF (R_colour_signs K)) := by
  refine def_ok F sc_colour_signs (fun κs κ ⟨_, _, _, _, e, _⟩ => by rw [e]; rfl) fun cdv A outer s H E κs κ hr h => ?_
  obtain ⟨n, x, y, hn, rfl, rfl⟩ := h
  have nd := sc_colour_signs.nd
  rw [← joinOne (sg n x y)]
  refine ss_one (sk_ret (ek_join ek_str (ek_lc _ rfl nd (ik_tup (T.e_COLOURS)) (blkOk_by (N := ["digit", "there", "away", "colour"]) (sc := defScope (top 39)) (own := [("colour", 3)]) (by decide +kernel)) (fun i => [.k (kI K n), .k (kS K (ofL [x])), .k (kS K (ofL [y])), .k (kI K ((cols.getD i 0 : Nat) : Int))]) ?hl ?hz (fun i d hd s H C cl fp => ?bg) (fun i d e hd he s H C cl fp => ?el)) ?sz))
  case hl => rw [List.length_map, List.length_map, sg_len]; rfl
  case hz => show 3 ≤ 1000; decide
  case bg =>
    obtain ⟨c, hc, rfl⟩ := map_get (l := cols) (f := fun c : Nat => PyData.int c) hd
    rw [getD_of hc]
    exact bg_name 3 (by decide) nd
  case el =>
    obtain ⟨c, hc, rfl⟩ := map_get (l := cols) (f := fun c : Nat => PyData.int c) hd
    rw [getD_of hc]
    obtain ⟨z, hz, rfl⟩ := map_get he
    obtain ⟨u, hu, rfl⟩ := map_get hz
    unfold sg at hu
    rw [map_at hc] at hu
    cases hu
    refine ek_if (tk_val (ek_call D_has_colour (hr.mono (by decide)) (ak_cons (ek_var 0) (ak_cons (ek_var 3) ak_nil)) ⟨n, c, hn, List.mem_of_getElem? hc, rfl, rfl⟩)) (fun h => ?_) (fun h => ?_)
    · rw [if_pos h]; exact ek_var 1
    · rw [h]; exact ek_var 2
  case sz => exact one_sz (by rw [sg_len]; decide)

/-! ### plain_item: of lists and of tuples -/
def R_plain_item (K : PySem.W.Frag) (κs : List Kd) (κ : Kd) : Prop := ∃ (b : Bool) (it : Itm), iok it ∧ κs = [dt K (itD b it)] ∧ κ = kS K (layT (eff3 it))
theorem sc_plain_item : FnScope ["item", "deed", "digit"] ["item"] (defScope (top 44)) := ⟨rfl, rfl, rfl, by decide +kernel, rfl, by decide +kernel, by decide +kernel⟩
theorem ok_plain_item (F : FnG K "plain_item" (top 44) f fd) (T : Tx K mg) (D_colour_signs : Df P w K mg base 2 "colour_signs" ["digit", "there", "away"] (R_colour_signs K)) : FnOk P w K mg base CX0 3 f fd ["item"] (spF (R_plain_item K)) := by
  refine def_ok F sc_plain_item (fun κs κ ⟨_, _, _, e, _⟩ => by rw [e]; rfl) fun cdv A outer s H E κs κ hr h => ?_
  obtain ⟨b, it, hi, rfl, rfl⟩ := h
  have nd := sc_plain_item.nd
  cases it with
  | none => exact ss_T (tk_isN (ek_var 0)) rfl (ss_one (sk_ret (T.e_UNREAD)))
  | some q =>
    obtain ⟨dd, n⟩ := q
    have hn : n < 8 := hi
    obtain ⟨_, f1, f2, f3⟩ := fin_sg n hn
    refine ss_F (tk_isN (ek_var 0)) (by cases b <;> rfl) ?_
    have go : SsK (Bx P w K mg base ["item", "deed", "digit"] "plain_item" (defScope (top 44)) f cdv A outer s H E) ((defBody (top 44)).drop 2) [.k (dt K (itD b (some (dd, n)))), .k (kS K dd.s), .k (kI K n)] (.rt (kS K (layT (eff3 (some (dd, n)))))) := by
      unfold layT
      cases dd with
      | set =>
        rw [← f1]
        exact ss_T (tk_eqS (ek_var 1) ek_str) (by decide +kernel) (ss_one (sk_ret (ek_call D_colour_signs (hr.mono (by decide)) (ak_cons (ek_var 2) (ak_cons ek_str (ak_cons ek_str ak_nil))) ⟨n, 97, 46, hn, rfl, rfl⟩)))
      | add =>
        rw [← f2]
        refine ss_F (tk_eqS (ek_var 1) ek_str) (by decide +kernel) ?_
        exact ss_T (tk_eqS (ek_var 1) ek_str) (by decide +kernel) (ss_one (sk_ret (ek_call D_colour_signs (hr.mono (by decide)) (ak_cons (ek_var 2) (ak_cons ek_str (ak_cons ek_str ak_nil))) ⟨n, 97, 45, hn, rfl, rfl⟩)))
      | bl =>
        rw [← f3]
        refine ss_F (tk_eqS (ek_var 1) ek_str) (by decide +kernel) ?_
        refine ss_F (tk_eqS (ek_var 1) ek_str) (by decide +kernel) ?_
        exact ss_one (sk_ret (ek_call D_colour_signs (hr.mono (by decide)) (ak_cons (ek_var 2) (ak_cons ek_str (ak_cons ek_str ak_nil))) ⟨n, 46, 45, hn, rfl, rfl⟩))
    cases b with
    | true => exact ss_cons (sk_asg (κ := kT K [.str dd.s, .int n]) (ek_var 0) (gk_tup2 1 2 nd rfl)) go
    | false => exact ss_cons (sk_asg (κ := kL K [.str dd.s, .int n]) (ek_var 0) (gk_lst2 1 2 nd rfl)) go
end
end K71
end
section
namespace KD
open PySem PySem.Spec PyProof.Rows L2
def sqD (b : Bool) (ds : List PyData) : PyData := if b then .tuple ds else .list ds
theorem ik_seq {X : Cx} {tg e : Expr} {ρ : List Sl} {b : Bool} {ds : List PyData} (h : EK X e ρ (dt X.K (sqD b ds))) : IK X tg e ρ ds := by
  cases b with
  | true => exact ik_tup h
  | false => exact ik_list h
theorem len_sq (b : Bool) (ds : List PyData) : lenD (sqD b ds) = some ds.length := by cases b <;> rfl
theorem items_sq (b : Bool) (ds : List PyData) : itemsD (sqD b ds) = some ds := by cases b <;> rfl
end KD
namespace K71
open PySem PySem.Spec PyProof.Rows L2 KD
/-- the first place where p fails -/
theorem first_bad (p : Nat → Bool) (n : Nat) : (∀ i, i < n → p i = true) ∨ ∃ m, m < n ∧ p m = false ∧ ∀ i, i < m → p i = true := by
  induction n with
  | zero => exact .inl fun i h => absurd h (Nat.not_lt_zero i)
  | succ n ih =>
    rcases ih with h | ⟨m, h1, h2, h3⟩
    · by_cases e : p n = true
      · refine .inl fun i hi => ?_
        rcases Nat.lt_or_ge i n with c | c
        · exact h i c
        · have : i = n := by omega
          rw [this, e]
      · exact .inr ⟨n, Nat.lt_succ_self n, by simpa using e, h⟩
    · exact .inr ⟨m, Nat.lt_succ_of_lt h1, h2, h3⟩
/-- the sum of the colours whose sign is x -/
def cw (l : List Nat) (x : Nat) : Nat := (if l.getD 0 0 = x then 1 else 0) + (if l.getD 1 0 = x then 2 else 0) + (if l.getD 2 0 = x then 4 else 0)
theorem cw_lt (l : List Nat) (x : Nat) : cw l x < 8 := by unfold cw; split <;> split <;> split <;> decide
def okc (c : Nat) : Bool := decide (c ∈ ([46, 97] : List Nat))
def sgn (l : List Nat) : Option (Option Nat) := if l = [45, 45, 45] then some none else if l.all okc then some (some (cw l 97)) else none
def optS : Option (Option Nat) → PyData
  | none => .none
  | some o => .str (ofL [rc o])
def cell (l : List Nat) (i : Nat) : List Nat := (l.drop (3 * i)).take 3
def readL (l : List Nat) : Option (List (Option Nat)) := if l.length % 3 = 0 ∧ ∀ i, i < l.length / 3 → (sgn (cell l i)).isSome = true then some ((List.range (l.length / 3)).map fun i => (sgn (cell l i)).getD none) else none
def optR : Option (List (Option Nat)) → PyData
  | none => .none
  | some r => .str (rdT r)
theorem cell_len {l : List Nat} {i : Nat} (h : 3 * i + 3 ≤ l.length) : (cell l i).length = 3 := by
  unfold cell
  rw [List.length_take, List.length_drop]
  omega
theorem sgn_rc {l : List Nat} : ∀ o, sgn l = some o → ∀ d, o = some d → d < 8 := by
  intro o h d hd
  subst hd
  unfold sgn at h
  split at h
  · cases h
  · split at h
    · cases h; exact cw_lt _ _
    · cases h
/-! frozen -/
def flatD : PyData → Bool
  | .none => true
  | .int _ => true
  | .str _ => true
  | _ => false
def Frz : Nat → PyData → PyData → Prop
  | 0, d, e => flatD d = true ∧ e = d
  | n + 1, d, e => (flatD d = true ∧ e = d) ∨ ∃ ds es, (d = .list ds ∨ d = .tuple ds) ∧ e = .tuple es ∧ ds.length = es.length ∧ ds.length ≤ 1000 ∧ ∀ (i : Nat) x y, ds[i]? = some x → es[i]? = some y → Frz n x y
/-! names -/
def letB (c : Nat) : Bool := decide (97 ≤ c ∧ c ≤ 122)
def digB (c : Nat) : Bool := decide (48 ≤ c ∧ c ≤ 57)
def nameB (l : List Nat) : Bool := decide (1 ≤ l.length ∧ l.length ≤ 8) && letB (l.getD 0 0) && l.all fun c => letB c || digB c
end K71
end
section
namespace K71
open PySem PySem.Spec PyProof.Rows L2 KD
local macro_rules | `(tactic| walk_at "sz") => `(tactic| first | omega | decide | (simp only [ofL_len, digT_len, layT_len, rdT_len, List.length_map, List.length_append, List.length_cons, List.length_nil]; omega))
section
variable {P : Program} {w : World} {K : PySem.W.Frag} {mg : Str → Option Value} {base : Heap} {f : Addr} {fd : FuncData}

/-! ### plain_stamp: of lists and of tuples -/
def R_plain_stamp (K : PySem.W.Frag) (κs : List Kd) (κ : Kd) : Prop := ∃ (b c : Bool) (its : List Itm), iall its ∧ its.length ≤ 30 ∧ κs = [dt K (sqD b (its.map (itD c)))] ∧ κ = kS K (layT (its.flatMap eff3))
theorem sc_plain_stamp : FnScope ["stamp", "item"] ["stamp"] (defScope (top 45)) := ⟨rfl, rfl, rfl, by decide +kernel, rfl, by decide +kernel, by decide +kernel⟩
theorem ok_plain_stamp (F : FnG K "plain_stamp" (top 45) f fd) (T : Tx K mg) (D_plain_item : Df P w K mg base 3 "plain_item" ["item"] (R_plain_item K)) : FnOk P w K mg base CX0 4 f fd ["stamp"] (spF (R_plain_stamp K)) := by
  refine def_ok F sc_plain_stamp (fun κs κ ⟨_, _, _, _, _, e, _⟩ => by rw [e]; rfl) fun cdv A outer s H E κs κ hr h => ?_
  obtain ⟨b, c, its, hi, h30, rfl, rfl⟩ := h
  have nd := sc_plain_stamp.nd
  have e1 : layT (its.flatMap eff3) = Txt.join (ofL []) ((its.map fun it => (eff3 it).map sc).map ofL) := by
    rw [join_ofL]
    unfold layT
    rw [← List.flatMap_def, ← List.map_flatMap]
  rw [e1]
  refine ss_one (sk_ret (ek_join ek_str (ek_lc _ rfl nd (ik_seq (ek_var 0)) (blkOk_by (N := ["stamp", "item"]) (sc := defScope (top 45)) (own := [("item", 1)]) (by decide +kernel)) (fun i => [.k (dt K (sqD b (its.map (itD c)))), .k (dt K (itD c (its.getD i none)))]) ?hl ?hz (fun i d hd s H C cl fp => ?bg) (fun i d e hd he s H C cl fp => ?el)) ?sz))
  case hl => rw [List.length_map, List.length_map, List.length_map, List.length_map]
  case hz => rw [List.length_map]; omega
  case bg =>
    obtain ⟨x, hx, rfl⟩ := map_get hd
    rw [getD_of hx]
    exact bg_name 1 (by decide) nd
  case el =>
    obtain ⟨x, hx, rfl⟩ := map_get hd
    rw [getD_of hx]
    rw [map_at (map_at (map_at hx))] at he
    cases he
    exact ek_call D_plain_item (hr.mono (by decide)) (ak_cons (ek_var 1) ak_nil) ⟨c, x, hi x (List.mem_of_getElem? hx), rfl, rfl⟩
  case sz => exact join_sz (m := 3) (n := 30) (fun x hx => by
    obtain ⟨y, hy, rfl⟩ := List.mem_map.mp hx
    obtain ⟨z, hz, rfl⟩ := List.mem_map.mp hy
    exact Nat.le_refl 3) (by rw [List.length_map, List.length_map]; omega) (by decide)

/-! ### colours_with -/
def R_colours_with (K : PySem.W.Frag) (κs : List Kd) (κ : Kd) : Prop := ∃ (l : List Nat) (x : Nat), l.length = 3 ∧ κs = [kS K (ofL l), kS K (ofL [x])] ∧ κ = kI K (cw l x)
theorem sc_colours_with : FnScope ["signs", "sign", "colour", "found"] ["signs", "sign"] (defScope (top 40)) := ⟨rfl, rfl, rfl, by decide +kernel, rfl, by decide +kernel, by decide +kernel⟩
theorem one_eq {a b : Nat} : decide (ofL [a] = ofL [b]) = decide (a = b) := by
  rw [ofL_eq, decide_eq_decide]
  exact ⟨fun h => (List.cons.inj h).1, fun h => by rw [h]⟩
theorem cw_sum {l : List Nat} (x : Nat) : ((((List.range 3).filter fun i => decide (l.getD i 0 = x)).map fun i => ((cols.getD i 0 : Nat) : Int)) : List Int).sum = (cw l x : Nat) := by
  show (((([0, 1, 2] : List Nat).filter fun i => decide (l.getD i 0 = x)).map fun i => ((cols.getD i 0 : Nat) : Int)) : List Int).sum = (cw l x : Nat)
  unfold cw
  by_cases h0 : l.getD 0 0 = x <;> by_cases h1 : l.getD 1 0 = x <;> by_cases h2 : l.getD 2 0 = x <;> simp only [List.filter_cons, List.filter_nil, h0, h1, h2, decide_true, decide_false, if_true, if_false, Bool.false_eq_true] <;> rfl
theorem ok_colours_with (F : FnG K "colours_with" (top 40) f fd) (T : Tx K mg) : FnOk P w K mg base CX0 1 f fd ["signs", "sign"] (spF (R_colours_with K)) := by
  refine def_ok F sc_colours_with (fun κs κ ⟨_, _, _, e, _⟩ => by rw [e]; rfl) fun cdv A outer s H E κs κ hr h => ?_
  obtain ⟨l, x, hl, rfl, rfl⟩ := h
  have nd := sc_colours_with.nd
  rw [← cw_sum]
  have key : ∀ i d, (zipD [PyData.int 1, PyData.int 2, PyData.int 4] (signsD (ofL l)))[i]? = some d → ∃ y, l[i]? = some y ∧ d = PyData.tuple [.int ((cols.getD i 0 : Nat) : Int), PyData.str (ofL [y])] := fun i d hd => by
    obtain ⟨y, z, h1, h2, rfl⟩ := zip_key hd
    obtain ⟨c, h3, rfl⟩ := signs_key h2
    obtain ⟨u, hu, rfl⟩ := map_get (l := cols) (f := fun c : Nat => PyData.int c) h1
    exact ⟨c, h3, by rw [getD_of hu]⟩
  refine ss_one (sk_ret (ek_sum rfl T.sum (EK.to (ek_lcG rfl nd (ik_zip T.zip (T.e_COLOURS) (ek_var 0) rfl rfl) (blkOk_by (N := ["signs", "sign", "colour", "found"]) (sc := defScope (top 40)) (own := [("colour", 2), ("found", 3)]) (by decide +kernel)) (fun i => decide (l.getD i 0 = x)) (fun i => .int ((cols.getD i 0 : Nat) : Int)) (fun i => [.k (kS K (ofL l)), .k (kS K (ofL [x])), .k (kI K ((cols.getD i 0 : Nat) : Int)), .k (kS K (ofL [l.getD i 0]))]) ?hz (fun i d hd s H C cl fp => ?bg) (fun i d hd s H C cl fp => ?tst) (fun i d hd ht s H C cl fp => ek_var 2)) ?eq)))
  case hz => rw [zipD_len, signsD_len, ofL_len, hl]; decide
  case bg =>
    obtain ⟨y, hy, rfl⟩ := key i d hd
    rw [getD_of hy]
    exact bg_tup2 2 3 (by decide) (by decide) nd rfl
  case tst =>
    exact fk_one (TK.to (tk_eqS (ek_var 3) (ek_var 1)) one_eq)
  case eq =>
    rw [zipD_len, signsD_len, ofL_len, hl, List.map_map]
    rfl

/-! ### plain_layer -/
def R_plain_layer (K : PySem.W.Frag) (κs : List Kd) (κ : Kd) : Prop := ∃ r : List (Option Nat), r8 r ∧ r.length ≤ 30 ∧ κs = [kS K (rdT r)] ∧ κ = kS K (layT (r.flatMap pl3))
theorem sc_plain_layer : FnScope ["reading", "sign"] ["reading"] (defScope (top 41)) := ⟨rfl, rfl, rfl, by decide +kernel, rfl, by decide +kernel, by decide +kernel⟩
theorem rc_dash (o : Option Nat) (h : ∀ d, o = some d → d < 8) : decide (ofL [rc o] = ofL [45]) = decide (o = none) := by
  rw [one_eq, decide_eq_decide]
  cases o with
  | none => exact ⟨fun _ => rfl, fun _ => rfl⟩
  | some d => exact ⟨fun h => by have : 48 + d = 45 := h; omega, fun h => nomatch h⟩
theorem ok_plain_layer (F : FnG K "plain_layer" (top 41) f fd) (T : Tx K mg) (D_colour_signs : Df P w K mg base 2 "colour_signs" ["digit", "there", "away"] (R_colour_signs K)) : FnOk P w K mg base CX0 3 f fd ["reading"] (spF (R_plain_layer K)) := by
  refine def_ok F sc_plain_layer (fun κs κ ⟨_, _, _, e, _⟩ => by rw [e]; rfl) fun cdv A outer s H E κs κ hr h => ?_
  obtain ⟨r, h8, h30, rfl, rfl⟩ := h
  have nd := sc_plain_layer.nd
  have e1 : layT (r.flatMap pl3) = Txt.join (ofL []) ((r.map fun o => (pl3 o).map sc).map ofL) := by
    rw [join_ofL]
    unfold layT
    rw [← List.flatMap_def, ← List.map_flatMap]
  rw [e1]
  refine ss_one (sk_ret (ek_join ek_str (ek_lc _ rfl nd (ik_str (ek_var 0)) (blkOk_by (N := ["reading", "sign"]) (sc := defScope (top 41)) (own := [("sign", 1)]) (by decide +kernel)) (fun i => [.k (kS K (rdT r)), .k (kS K (ofL [rc (r.getD i none)]))]) ?hl ?hz (fun i d hd s H C cl fp => ?bg) (fun i d e hd he s H C cl fp => ?el)) ?sz))
  case hl => rw [List.length_map, List.length_map, List.length_map, signsD_len, rdT_len]
  case hz => rw [signsD_len, rdT_len]; omega
  case bg =>
    obtain ⟨c, hc, rfl⟩ := signs_key hd
    obtain ⟨o, ho, rfl⟩ := map_get hc
    rw [getD_of ho]
    exact bg_name 1 (by decide) nd
  case el =>
    obtain ⟨c, hc, rfl⟩ := signs_key hd
    obtain ⟨o, ho, rfl⟩ := map_get hc
    rw [getD_of ho]
    rw [map_at (map_at (map_at ho))] at he
    cases he
    have hm := List.mem_of_getElem? ho
    have h8' : ∀ d, o = some d → d < 8 := fun d e => h8 d (e ▸ hm)
    refine ek_if (TK.to (tk_eqS (ek_var 1) ek_str) (rc_dash o h8')) (fun h => ?_) (fun h => ?_)
    · have ho : o = none := of_decide_eq_true h
      subst ho
      exact T.e_UNREAD
    · cases o with
      | none => exact absurd rfl (of_decide_eq_false h)
      | some d =>
        have hd8 := h8' d rfl
        obtain ⟨f0, _⟩ := fin_sg d hd8
        show EK _ _ _ (kS K (ofL ((bits3 d).map sc)))
        rw [← f0]
        exact ek_call D_colour_signs (hr.mono (by decide)) (ak_cons (ek_toIS T.int (ek_var 1) (int_dc hd8) (by show (1 : Nat) ≤ 640; decide)) (ak_cons ek_str (ak_cons ek_str ak_nil))) ⟨d, 97, 46, hd8, rfl, rfl⟩
  case sz => exact join_sz (m := 3) (n := 30) (fun x hx => by
    obtain ⟨y, hy, rfl⟩ := List.mem_map.mp hx
    obtain ⟨z, hz, rfl⟩ := List.mem_map.mp hy
    cases z <;> exact Nat.le_refl 3) (by rw [List.length_map, List.length_map]; omega) (by decide)
end
end K71
end
section
namespace K71
open PySem PySem.Spec PyProof.Rows L2 KD
section
variable {P : Program} {w : World} {K : PySem.W.Frag} {mg : Str → Option Value} {base : Heap} {f : Addr} {fd : FuncData}

/-! ### ink_sign -/
def R_ink_sign (K : PySem.W.Frag) (κs : List Kd) (κ : Kd) : Prop := ∃ l : List Nat, l.length = 3 ∧ κs = [kS K (ofL l)] ∧ κ = dt K (optS (sgn l))
theorem sc_ink_sign : FnScope ["signs", "sign"] ["signs"] (defScope (top 42)) := ⟨rfl, rfl, rfl, by decide +kernel, rfl, by decide +kernel, by decide +kernel⟩
theorem ok_ink_sign (F : FnG K "ink_sign" (top 42) f fd) (T : Tx K mg) (D_colours_with : Df P w K mg base 1 "colours_with" ["signs", "sign"] (R_colours_with K)) : FnOk P w K mg base CX0 2 f fd ["signs"] (spF (R_ink_sign K)) := by
  refine def_ok F sc_ink_sign (fun κs κ ⟨_, _, e, _⟩ => by rw [e]; rfl) fun cdv A outer s H E κs κ hr h => ?_
  obtain ⟨l, hl, rfl, rfl⟩ := h
  have nd := sc_ink_sign.nd
  have hun : decide (ofL l = ("---" : Str)) = decide (l = [45, 45, 45]) := ofL_eq (b := [45, 45, 45])
  by_cases h1 : l = [45, 45, 45]
  · refine ss_T (tk_eqS (ek_var 0) T.e_UNREAD) (by rw [hun]; exact decide_eq_true h1) (ss_one (sk_ret (EK.to ek_str ?_)))
    unfold sgn
    rw [if_pos h1]
    rfl
  · refine ss_F (tk_eqS (ek_var 0) T.e_UNREAD) (by rw [hun]; exact decide_eq_false h1) ?_
    rcases first_bad (fun i => okc (l.getD i 0)) l.length with hall | ⟨m, hm, hbad, hpre⟩
    · refine ss_cons (sk_for PassesOwn.never rfl (ik_str (ek_var 0)) (fun i => [.k (kS K (ofL l)), .un]) (.keep (.drop .nil)) (fun i d hd => ⟨_, gk_name 1 nd, ?_⟩)) ?_
      · obtain ⟨c, hc, rfl⟩ := signs_key hd
        have hi := hall i (lt_get hc)
        rw [getD_of hc] at hi
        exact ss_F (tk_notIn (ek_var 1) ek_str) (by show (!okc c) = false; rw [hi]; rfl) (ss_weakO ss_nil (.keep (.drop .nil)))
      · refine ss_one (sk_ret (EK.to (ek_str1 T.str (ek_call D_colours_with (hr.mono (by decide)) (ak_cons (ek_var 0) (ak_cons ek_str ak_nil)) ⟨l, 97, hl, rfl, rfl⟩) (log_lt (by have := cw_lt l 97; omega))) ?_))
        have ha : l.all okc = true := by
          rw [List.all_eq_true]
          intro x hx
          obtain ⟨i, hi⟩ := List.mem_iff_getElem?.mp hx
          have := hall i (lt_get hi)
          rwa [getD_of hi] at this
        unfold sgn
        rw [if_neg h1, if_pos ha, str_dc (cw_lt l 97)]
        rfl
    · refine ss_ret (sk_forR PassesOwn.never rfl (ik_str (ek_var 0)) (fun i => [.k (kS K (ofL l)), .un]) m (.keep (.drop .nil)) (by rw [signsD_len]; exact hm) (fun i d hi hd => ⟨_, gk_name 1 nd, ?_⟩) (fun d hd => ⟨_, gk_name 1 nd, ?_⟩))
      · obtain ⟨c, hc, rfl⟩ := signs_key hd
        have hi := hpre i hi
        rw [getD_of hc] at hi
        exact ss_F (tk_notIn (ek_var 1) ek_str) (by show (!okc c) = false; rw [hi]; rfl) (ss_weakO ss_nil (.keep (.drop .nil)))
      · obtain ⟨c, hc, rfl⟩ := signs_key hd
        rw [getD_of hc] at hbad
        refine ss_T (tk_notIn (ek_var 1) ek_str) (by show (!okc c) = true; rw [hbad]; rfl) (ss_one (sk_ret (EK.to ek_non ?_)))
        have ha : ¬ l.all okc = true := fun z => by
          have := List.all_eq_true.mp z c (List.mem_of_getElem? hc)
          rw [hbad] at this
          cases this
        unfold sgn
        rw [if_neg h1, if_neg ha]
        rfl

/-! ### ink_reading -/
def R_ink_reading (K : PySem.W.Frag) (κs : List Kd) (κ : Kd) : Prop := ∃ l : List Nat, l.length ≤ 90 ∧ κs = [kS K (ofL l)] ∧ κ = dt K (optR (readL l))
theorem sc_ink_reading : FnScope ["layer", "found", "cell", "sign"] ["layer"] (defScope (top 43)) := ⟨rfl, rfl, rfl, by decide +kernel, rfl, by decide +kernel, by decide +kernel⟩
def rdAt (l : List Nat) (i : Nat) : Option Nat := (sgn (cell l i)).getD none
theorem readL_some {l : List Nat} (h : l.length % 3 = 0) (h2 : ∀ i, i < l.length / 3 → (sgn (cell l i)).isSome = true) : readL l = some ((List.range (l.length / 3)).map (rdAt l)) := by
  unfold readL
  rw [if_pos ⟨h, h2⟩]
  rfl
theorem readL_none {l : List Nat} {m : Nat} (h : m < l.length / 3) (h2 : (sgn (cell l m)).isSome = false) : readL l = none := by
  unfold readL
  exact if_neg fun ⟨_, z⟩ => by have := z m h; rw [h2] at this; cases this
theorem readL_mod {l : List Nat} (h : ¬ l.length % 3 = 0) : readL l = none := by
  unfold readL
  exact if_neg fun ⟨z, _⟩ => h z
theorem fin_rg : ∀ n : Nat, n < 91 → n % 3 = 0 → Builtin.Range.small 0 (n : Int) 3 = true ∧ Builtin.Range.rangeSize 0 (n : Int) 3 = ((n / 3 : Nat) : Int) := by decide +kernel
theorem range_at {n i : Nat} (h : i < n) : (List.range n)[i]? = some i := List.getElem?_range h
theorem map_range_succ {α : Type} (f : Nat → α) (n : Nat) : (List.range (n + 1)).map f = (List.range n).map f ++ [f n] := by rw [List.range_succ, List.map_append]; rfl
theorem ok_ink_reading (F : FnG K "ink_reading" (top 43) f fd) (T : Tx K mg) (D_ink_sign : Df P w K mg base 2 "ink_sign" ["signs"] (R_ink_sign K)) : FnOk P w K mg base CX0 3 f fd ["layer"] (spF (R_ink_reading K)) := by
  refine def_ok F sc_ink_reading (fun κs κ ⟨_, _, e, _⟩ => by rw [e]; rfl) fun cdv A outer s H E κs κ hr h => ?_
  obtain ⟨l, hl, rfl, rfl⟩ := h
  have nd := sc_ink_reading.nd
  have hmod : (!decide ((l.length : Int) % 3 = 0)) = !decide (l.length % 3 = 0) := by
    congr 1
    rw [decide_eq_decide]; omega
  by_cases h3 : l.length % 3 = 0
  · refine ss_F (tk_neI (ek_mod (ek_len (n := l.length) T.len (ek_var 0) rfl (by omega)) ek_int (by decide)) ek_int) (by rw [hmod, decide_eq_true h3]; rfl) ?_
    refine ss_cons (sk_new 1 nd (by show 1 < 4; decide)) ?_
    have hrg : RgC 0 (l.length : Int) 3 (l.length / 3) := ⟨by decide, by decide, (fin_rg l.length (by omega) h3).1, (fin_rg l.length (by omega) h3).2⟩
    have turn : ∀ i d, i < l.length / 3 → (rangeD 0 3 (l.length / 3))[i]? = some d → d = PyData.int (3 * i : Nat) := fun i d hi hd => by
      rw [rangeD_get hi] at hd
      cases hd
      congr 1
      omega
    have cellOk : ∀ i, i < l.length / 3 → cutS (ofL l) (some ((3 * i : Nat) : Int)) (some (((3 * i : Nat) : Int) + 3)) = ofL (cell l i) := fun i hi => by
      rw [cut_mid (by omega) (by omega)]
      unfold cell
      rw [show (((3 * i : Nat) : Int)).toNat = 3 * i by omega, show (((3 * i : Nat) : Int) + 3).toNat - 3 * i = 3 by omega]
    rcases first_bad (fun i => (sgn (cell l i)).isSome) (l.length / 3) with hall | ⟨m, hm, hbad, hpre⟩
    · refine ss_cons (sk_for PassesOwn.never rfl (ik_range3 T.range ek_int (ek_len (n := l.length) T.len (ek_var 0) rfl (by omega)) ek_int hrg) (fun i => [.k (kS K (ofL l)), .own (oL K ((List.range i).map fun j => .str (ofL [rc (rdAt l j)]))), .un, .un]) (.keep (.keep (.keep (.keep .nil)))) (fun i d hd => ⟨_, gk_name 2 nd, ?_⟩)) ?_
      · have hi := lt_get hd
        rw [rangeD_len] at hi
        obtain rfl := turn i d hi hd
        refine ss_cons (sk_set 3 nd (EK.to (ek_call D_ink_sign (hr.mono (by decide)) (ak_cons (EK.to (ek_slS (ek_var 0) (ok_some (ek_var 2)) (ok_some (ek_add (ek_var 2) ek_int)) (by rw [ofL_len]; omega)) (congrArg PyData.str (cellOk i hi))) ak_nil) ⟨cell l i, cell_len (by omega), rfl, rfl⟩) (d' := .str (ofL [rc (rdAt l i)])) ?_)) ?_
        · have := hall i hi
          unfold rdAt
          cases e : sgn (cell l i) with
          | none => rw [e] at this; cases this
          | some o => rfl
        refine ss_F (tk_isN (ek_var 3)) rfl ?_
        show SsK _ _ _ (.nx [_, .own (oL K ((List.range (i + 1)).map _)), .un, .un])
        rw [map_range_succ]
        exact ss_one (sk_weakO (sk_app 1 rfl (ek_var 3) (by rw [List.length_map, List.length_range]; omega)) (.keep (.keep (.drop (.drop .nil)))))
      · rw [rangeD_len]
        refine ss_freeze 1 rfl ?_
        rw [readL_some h3 hall]
        have e1 : rdT ((List.range (l.length / 3)).map (rdAt l)) = Txt.join (ofL []) ((List.range (l.length / 3)).map fun j => ofL [rc (rdAt l j)]) := by
          have := joinOne (((List.range (l.length / 3)).map (rdAt l)).map rc)
          rw [List.map_map, List.map_map] at this
          exact this.symm
        show SsK _ _ _ (.rt (kS K (rdT _)))
        rw [e1]
        refine ss_one (sk_ret (ek_join ek_str (EK.to (ek_var 1) ?_) ?_))
        · rw [List.map_map]
          rfl
        · exact join_sz (m := 1) (n := 1000) (fun x hx => by obtain ⟨c, _, rfl⟩ := List.mem_map.mp hx; exact Nat.le_refl _) (by rw [List.length_map, List.length_range]; omega) (by decide)
    · rw [readL_none hm hbad]
      refine ss_ret (sk_forR PassesOwn.never rfl (ik_range3 T.range ek_int (ek_len (n := l.length) T.len (ek_var 0) rfl (by omega)) ek_int hrg) (fun i => [.k (kS K (ofL l)), .own (oL K ((List.range i).map fun j => .str (ofL [rc (rdAt l j)]))), .un, .un]) m (.keep (.keep (.keep (.keep .nil)))) (by rw [rangeD_len]; exact hm) (fun i d hi hd => ⟨_, gk_name 2 nd, ?_⟩) (fun d hd => ⟨_, gk_name 2 nd, ?_⟩))
      · have hi2 : i < l.length / 3 := by omega
        obtain rfl := turn i d hi2 hd
        refine ss_cons (sk_set 3 nd (EK.to (ek_call D_ink_sign (hr.mono (by decide)) (ak_cons (EK.to (ek_slS (ek_var 0) (ok_some (ek_var 2)) (ok_some (ek_add (ek_var 2) ek_int)) (by rw [ofL_len]; omega)) (congrArg PyData.str (cellOk i hi2))) ak_nil) ⟨cell l i, cell_len (by omega), rfl, rfl⟩) (d' := .str (ofL [rc (rdAt l i)])) ?_)) ?_
        · have := hpre i hi
          unfold rdAt
          cases e : sgn (cell l i) with
          | none => rw [e] at this; cases this
          | some o => rfl
        refine ss_F (tk_isN (ek_var 3)) rfl ?_
        show SsK _ _ _ (.nx [_, .own (oL K ((List.range (i + 1)).map _)), .un, .un])
        rw [map_range_succ]
        exact ss_one (sk_weakO (sk_app 1 rfl (ek_var 3) (by rw [List.length_map, List.length_range]; omega)) (.keep (.keep (.drop (.drop .nil)))))
      · obtain rfl := turn m d hm hd
        refine ss_cons (sk_set 3 nd (EK.to (ek_call D_ink_sign (hr.mono (by decide)) (ak_cons (EK.to (ek_slS (ek_var 0) (ok_some (ek_var 2)) (ok_some (ek_add (ek_var 2) ek_int)) (by rw [ofL_len]; omega)) (congrArg PyData.str (cellOk m hm))) ak_nil) ⟨cell l m, cell_len (by omega), rfl, rfl⟩) (d' := .none) ?_)) ?_
        · cases e : sgn (cell l m) with
          | none => rfl
          | some o => rw [e] at hbad; cases hbad
        exact ss_T (tk_isN (ek_var 3)) rfl (ss_one (sk_ret ek_non))
  · rw [readL_mod h3]
    exact ss_T (tk_neI (ek_mod (ek_len (n := l.length) T.len (ek_var 0) rfl (by omega)) ek_int (by decide)) ek_int) (by rw [hmod, decide_eq_false h3]; rfl) (ss_one (sk_ret ek_non))

/-! ### empty_layer, is_layer, is_stamp, is_name: of what is right -/
def R_empty_layer (K : PySem.W.Frag) (κs : List Kd) (κ : Kd) : Prop := ∃ n : Nat, n ≤ 1000 ∧ κs = [kI K n] ∧ κ = kS K (ofL (List.replicate n 45))
theorem sc_empty_layer : FnScope ["size"] ["size"] (defScope (top 12)) := ⟨rfl, rfl, rfl, by decide +kernel, rfl, by decide +kernel, by decide +kernel⟩
theorem flat_rep (n c : Nat) : (List.replicate n [c]).flatten = List.replicate n c := by
  induction n with
  | zero => rfl
  | succ n ih => rw [List.replicate_succ, List.flatten_cons, ih, List.replicate_succ]; rfl
theorem ok_empty_layer (F : FnG K "empty_layer" (top 12) f fd) : FnOk P w K mg base CX0 1 f fd ["size"] (spF (R_empty_layer K)) := by
  refine def_ok F sc_empty_layer (fun κs κ ⟨_, _, e, _⟩ => by rw [e]; rfl) fun cdv A outer s H E κs κ hr h => ?_
  obtain ⟨n, hn, rfl, rfl⟩ := h
  refine ss_one (sk_ret (EK.to (ek_mulS (x := ofL [45]) ek_str (ek_var 0) ⟨by decide, by omega, by omega⟩) ?_))
  rw [ofL_rep, Int.toNat_natCast, flat_rep]
def layB (l : List Nat) : Prop := 1 ≤ l.length ∧ l.length ≤ 30 ∧ ∀ c ∈ l, c ∈ ([45, 46, 97] : List Nat)
def R_is_layer (K : PySem.W.Frag) (κs : List Kd) (κ : Kd) : Prop := ∃ l : List Nat, layB l ∧ κs = [kS K (ofL l)] ∧ κ = kB K true
theorem sc_is_layer : FnScope ["value", "sign"] ["value"] (defScope (top 11)) := ⟨rfl, rfl, rfl, by decide +kernel, rfl, by decide +kernel, by decide +kernel⟩
theorem fin_signs : ∀ c ∈ ([45, 46, 97] : List Nat), (!decide (c ∈ ("-.abcdefghijklmnopqrstuvwxyz" : Str).cps.toList)) = false := by decide +kernel
theorem ok_is_layer (F : FnG K "is_layer" (top 11) f fd) (T : Tx K mg) : FnOk P w K mg base CX0 1 f fd ["value"] (spF (R_is_layer K)) := by
  refine def_ok F sc_is_layer (fun κs κ ⟨_, _, e, _⟩ => by rw [e]; rfl) fun cdv A outer s H E κs κ hr h => ?_
  obtain ⟨l, ⟨h1, h30, hc⟩, rfl, rfl⟩ := h
  have nd := sc_is_layer.nd
  refine ss_F (tk_not (tk_val (ek_isi T.isinstance (ek_var 0) (ek_ty T.str boot_str) (by exact kit_str_str)))) rfl ?_
  refine ss_F (tk_not (tk_chain op_le op_le rk_B0 rk_B0 ek_int (ek_len (n := l.length) T.len (ek_var 0) rfl (by omega)) (T.e_MOST_CELLS))) ?_ ?_
  · rw [decide_eq_true (show (1 : Int) ≤ l.length by omega), decide_eq_true (show (l.length : Int) ≤ 30 by omega)]; rfl
  refine ss_cons (sk_for PassesOwn.never rfl (ik_str (ek_var 0)) (fun i => [.k (kS K (ofL l)), .un]) (.keep (.drop .nil)) (fun i d hd => ⟨_, gk_name 1 nd, ?_⟩)) (ss_one (sk_ret ek_bl))
  obtain ⟨c, hc2, rfl⟩ := signs_key hd
  exact ss_F (tk_notIn (ek_var 1) T.e_SIGNS) (fin_signs c (hc c (List.mem_of_getElem? hc2))) (ss_weakO ss_nil (.keep (.drop .nil)))
def R_is_stamp (K : PySem.W.Frag) (κs : List Kd) (κ : Kd) : Prop := ∃ l : List Nat, layB l ∧ l ≠ List.replicate l.length 45 ∧ κs = [kS K (ofL l), kI K l.length] ∧ κ = kB K true
theorem sc_is_stamp : FnScope ["value", "size"] ["value", "size"] (defScope (top 20)) := ⟨rfl, rfl, rfl, by decide +kernel, rfl, by decide +kernel, by decide +kernel⟩
theorem ok_is_stamp (F : FnG K "is_stamp" (top 20) f fd) (T : Tx K mg) (D_is_layer : Df P w K mg base 1 "is_layer" ["value"] (R_is_layer K)) (D_empty_layer : Df P w K mg base 1 "empty_layer" ["size"] (R_empty_layer K)) : FnOk P w K mg base CX0 2 f fd ["value", "size"] (spF (R_is_stamp K)) := by
  refine def_ok F sc_is_stamp (fun κs κ ⟨_, _, _, e, _⟩ => by rw [e]; rfl) fun cdv A outer s H E κs κ hr h => ?_
  obtain ⟨l, hb, hne, rfl, rfl⟩ := h
  have h30 := hb.2.1
  refine ss_one (sk_ret (EK.to (ek_and (ek_call D_is_layer (hr.mono (by decide)) (ak_cons (ek_var 0) ak_nil) ⟨l, hb, rfl, rfl⟩) (fun h => (ek_and (ek_eqI (ek_len (n := l.length) T.len (ek_var 0) rfl (by omega)) (ek_var 1)) (fun h => (ek_one (ek_neS (ek_var 0) (ek_call D_empty_layer (hr.mono (by decide)) (ak_cons (ek_var 1) ak_nil) ⟨l.length, by omega, rfl, rfl⟩))))))) ?_))
  rw [ofL_eq, decide_eq_true rfl, decide_eq_false hne]
  rfl
def R_is_name (K : PySem.W.Frag) (κs : List Kd) (κ : Kd) : Prop := ∃ l : List Nat, nameB l = true ∧ κs = [kS K (ofL l)] ∧ κ = kB K true
theorem sc_is_name : FnScope ["value", "sign"] ["value"] (defScope (top 19)) := ⟨rfl, rfl, rfl, by decide +kernel, rfl, by decide +kernel, by decide +kernel⟩
theorem fin_let : ∀ c : Nat, c < 123 → 97 ≤ c → (!decide (c ∈ ("abcdefghijklmnopqrstuvwxyz" : Str).cps.toList)) = false := by decide +kernel
theorem fin_dig : ∀ c : Nat, c < 58 → 48 ≤ c → (!decide (c ∈ ("0123456789" : Str).cps.toList)) = false := by decide +kernel
theorem ok_is_name (F : FnG K "is_name" (top 19) f fd) (T : Tx K mg) : FnOk P w K mg base CX0 1 f fd ["value"] (spF (R_is_name K)) := by
  refine def_ok F sc_is_name (fun κs κ ⟨_, _, e, _⟩ => by rw [e]; rfl) fun cdv A outer s H E κs κ hr h => ?_
  obtain ⟨l, hn, rfl, rfl⟩ := h
  have nd := sc_is_name.nd
  unfold nameB at hn
  rw [Bool.and_eq_true, Bool.and_eq_true, decide_eq_true_eq] at hn
  obtain ⟨⟨⟨h1, h8⟩, h0⟩, ha⟩ := hn
  obtain ⟨c0, hc0⟩ := get_lt (l := l) (i := 0) (by omega)
  rw [getD_of hc0] at h0
  have h0 := of_decide_eq_true h0
  refine ss_F (tk_not (tk_val (ek_isi T.isinstance (ek_var 0) (ek_ty T.str boot_str) (by exact kit_str_str)))) rfl ?_
  refine ss_F (tk_w (wk_or (tk_not (tk_chain op_le op_le rk_B0 rk_B0 ek_int (ek_len (n := l.length) T.len (ek_var 0) rfl (by omega)) (T.e_LONGEST_NAME))) (fun h => (wk_or1 (tk_notIn (ek_ixS (c := c0) (ek_var 0) ek_int (at_nat (n := 0) hc0) (by rw [ofL_len]; omega)) (T.e_LETTERS)))))) ?_ ?_
  · rw [decide_eq_true (show (1 : Int) ≤ l.length by omega), decide_eq_true (show (l.length : Int) ≤ 8 by omega), fin_let c0 (by omega) h0.1]; rfl
  refine ss_cons (sk_for PassesOwn.never rfl (ik_str (ek_var 0)) (fun i => [.k (kS K (ofL l)), .un]) (.keep (.drop .nil)) (fun i d hd => ⟨_, gk_name 1 nd, ?_⟩)) (ss_one (sk_ret ek_bl))
  obtain ⟨c, hc2, rfl⟩ := signs_key hd
  have hx := List.all_eq_true.mp ha c (List.mem_of_getElem? hc2)
  refine ss_F (tk_w (wk_and (tk_notIn (ek_var 1) (T.e_LETTERS)) (fun h => (wk_and1 (tk_notIn (ek_var 1) (T.e_DIGITS)))))) ?_ (ss_weakO ss_nil (.keep (.drop .nil)))
  rcases Bool.or_eq_true_iff.mp hx with z | z
  · have z := of_decide_eq_true z
    rw [fin_let c (by omega) z.1]; rfl
  · have z := of_decide_eq_true z
    rw [fin_dig c (by omega) z.1, Bool.and_false]
end
end K71
end
section
namespace K71
open PySem PySem.Spec PyProof.Rows L2 KD
section
variable {P : Program} {w : World} {K : PySem.W.Frag} {mg : Str → Option Value} {base : Heap} {f : Addr} {fd : FuncData}

/-! ### frozen -/
def R_frozen (n : Nat) (K : PySem.W.Frag) (κs : List Kd) (κ : Kd) : Prop := ∃ d e, Frz n d e ∧ κs = [dt K d] ∧ κ = dt K e
theorem sc_frozen : FnScope ["value", "part"] ["value"] (defScope (top 14)) := ⟨rfl, rfl, rfl, by decide +kernel, rfl, by decide +kernel, by decide +kernel⟩
theorem b1_frozen : ∀ (kV doc pm : Value) (an : Option Addr) (cdv ct : Value) (us : List Value), us.length = ["value"].length → bindArgs (PySem.W.fnOf "frozen" "frozen" (defArgs (top 14)) (defBody (top 14)) (defScope (top 14)) .none kV doc pm an cdv ct) ⟨us, []⟩ = pure ((["value"] : List Str).zip us) := fun kV doc pm an cdv ct us hl => by
  match us, hl with
  | [u], _ => rfl
theorem b2_frozen : ∀ (kV doc pm : Value) (an : Option Addr) (cdv ct : Value) (us : List Value), us.length = ["value"].length → bindArgs (PySem.W.fnOf "frozen" "frozen" (defArgs (top 14)) (defBody (top 14)) (defScope (top 14)) .none kV doc pm an cdv ct) ⟨[], (["value"] : List Str).zip us⟩ = pure ((["value"] : List Str).zip us) := fun kV doc pm an cdv ct us hl => by
  match us, hl with
  | [u], _ => rfl
theorem ok_frozen (F : FnG K "frozen" (top 14) f fd) (T : Tx K mg) (hm : mg "frozen" = some (.ref f)) : ∀ n, FnOk P w K mg base CX0 (n + 1) f fd ["value"] (spF (R_frozen n K)) := by
  intro n
  induction n with
  | zero =>
    refine def_ok F sc_frozen (fun κs κ ⟨_, _, _, e, _⟩ => by rw [e]; rfl) fun cdv A outer s H E κs κ hr h => ?_
    obtain ⟨d, e, ⟨hf, rfl⟩, rfl, rfl⟩ := h
    cases e with
    | none => exact ss_F (tk_val (ek_isi2 T.isinstance (ek_var 0) (ek_ty T.list boot_list) (ek_ty T.tuple boot_tuple) (by exact kit_non_lst) (by exact kit_non_tup) (by rfl))) rfl (ss_one (sk_ret (ek_var 0)))
    | int i => exact ss_F (tk_val (ek_isi2 T.isinstance (ek_var 0) (ek_ty T.list boot_list) (ek_ty T.tuple boot_tuple) (by exact kit_int_lst) (by exact kit_int_tup) (by rfl))) rfl (ss_one (sk_ret (ek_var 0)))
    | str x => exact ss_F (tk_val (ek_isi2 T.isinstance (ek_var 0) (ek_ty T.list boot_list) (ek_ty T.tuple boot_tuple) (by exact kit_str_lst) (by exact kit_str_tup) (by rfl))) rfl (ss_one (sk_ret (ek_var 0)))
    | bool _ => cases hf
    | list _ => cases hf
    | tuple _ => cases hf
    | dict _ => cases hf
  | succ n ih =>
    have D : Df P w K mg base (n + 1) "frozen" ["value"] (R_frozen n K) := df_mk F ih hm b1_frozen b2_frozen
    refine def_ok F sc_frozen (fun κs κ ⟨_, _, _, e, _⟩ => by rw [e]; rfl) fun cdv A outer s H E κs κ hr h => ?_
    have nd := sc_frozen.nd
    obtain ⟨d, e, h, rfl, rfl⟩ := h
    rcases h with ⟨hf, rfl⟩ | ⟨ds, es, hd, rfl, hl, hz, hi⟩
    · cases e with
      | none => exact ss_F (tk_val (ek_isi2 T.isinstance (ek_var 0) (ek_ty T.list boot_list) (ek_ty T.tuple boot_tuple) (by exact kit_non_lst) (by exact kit_non_tup) (by rfl))) rfl (ss_one (sk_ret (ek_var 0)))
      | int i => exact ss_F (tk_val (ek_isi2 T.isinstance (ek_var 0) (ek_ty T.list boot_list) (ek_ty T.tuple boot_tuple) (by exact kit_int_lst) (by exact kit_int_tup) (by rfl))) rfl (ss_one (sk_ret (ek_var 0)))
      | str x => exact ss_F (tk_val (ek_isi2 T.isinstance (ek_var 0) (ek_ty T.list boot_list) (ek_ty T.tuple boot_tuple) (by exact kit_str_lst) (by exact kit_str_tup) (by rfl))) rfl (ss_one (sk_ret (ek_var 0)))
      | bool _ => cases hf
      | list _ => cases hf
      | tuple _ => cases hf
      | dict _ => cases hf
    · obtain ⟨b, rfl⟩ : ∃ b, d = sqD b ds := by rcases hd with rfl | rfl; exact ⟨false, rfl⟩; exact ⟨true, rfl⟩
      have go : SsK (Bx P w K mg base ["value", "part"] "frozen" (defScope (top 14)) f cdv A outer s H E) (match (defBody (top 14)).head? with | some (.If _ a _ _) => a | _ => []) (startS ["value", "part"] [dt K (sqD b ds)]) (.rt (kT K es)) := by
        refine ss_one (sk_ret (ek_tuple1 (d := .list es) T.tuple (ek_lc es rfl nd (ik_seq (ek_var 0)) (blkOk_by (N := ["value", "part"]) (sc := defScope (top 14)) (own := [("part", 1)]) (by decide +kernel)) (fun i => [.k (dt K (sqD b ds)), .k (dt K (ds.getD i .none))]) hl.symm hz (fun i d hd s H C cl fp => ?bg) (fun i d e hd he s H C cl fp => ?el)) rfl))
        case bg =>
          rw [getD_of hd]
          exact bg_name 1 (by decide) nd
        case el =>
          rw [getD_of hd]
          exact ek_call D (hr.mono (Nat.le_refl _)) (ak_cons (ek_var 1) ak_nil) ⟨_, _, hi i d e hd he, rfl, rfl⟩
      cases b with
      | true => exact ss_T (tk_val (ek_isi2 T.isinstance (ek_var 0) (ek_ty T.list boot_list) (ek_ty T.tuple boot_tuple) (by exact kit_tup_lst) (by exact kit_tup_tup) (by rfl))) rfl go
      | false => exact ss_T (tk_val (ek_isi2 T.isinstance (ek_var 0) (ek_ty T.list boot_list) (ek_ty T.tuple boot_tuple) (by exact kit_lst_lst) (by exact kit_lst_tup) (by rfl))) rfl go
end
end K71
end
section
namespace K71
open PySem PySem.Spec PyProof.Rows L2 KD
/-! ### stocks -/
abbrev FnM (K : PySem.W.Frag) (x qual : Str) (st : Stmt) (f : Addr) (fd : FuncData) : Prop := FunD K x qual (defArgs st) (defBody st) (defScope st) [] [] f fd
/-- names and stamps -/
abbrev Wld := List (List Nat × List Itm)
structure Wd (w : Nat) (st : Wld) : Prop where
  w1 : 1 ≤ w
  w10 : w ≤ 10
  n10 : st.length ≤ 10
  nm : ∀ q ∈ st, nameB q.1 = true
  ln : ∀ q ∈ st, q.2.length = w
  it : ∀ q ∈ st, iall q.2
  ch : ∀ q ∈ st, q.2.any chg = true
  nd : (st.map (·.1)).Nodup
def pairsI (st : Wld) : List PyData := st.map fun q => .tuple [.str (ofL q.1), .tuple (q.2.map (itD true))]
def numbF : Nat → List (List Nat) → List (Str × Int)
  | _, [] => []
  | k, n :: r => (ofL n, (k : Int)) :: numbF (k + 1) r
theorem numbF_app : ∀ (l : List (List Nat)) (k : Nat) (e : List Nat), numbF k (l ++ [e]) = numbF k l ++ [(ofL e, ((k + l.length : Nat) : Int))]
  | [], k, e => rfl
  | n :: r, k, e => by
    show (ofL n, (k : Int)) :: numbF (k + 1) (r ++ [e]) = (ofL n, (k : Int)) :: (numbF (k + 1) r ++ _)
    rw [numbF_app r (k + 1) e]
    congr 3
    simp only [List.length_cons]
    congr 2
    omega
theorem numbF_len : ∀ (l : List (List Nat)) (k : Nat), (numbF k l).length = l.length
  | [], _ => rfl
  | _ :: r, k => by show (numbF (k + 1) r).length + 1 = _; rw [numbF_len r]; rfl
theorem look_none : ∀ {l : List (List Nat)} {n : List Nat} (k : Nat), n ∉ l → lookI (numbF k l) (ofL n) = none
  | [], _, _, _ => rfl
  | m :: r, n, k, h => by
    have e : (ofL n == ofL m) = false := beq_eq_false_iff_ne.mpr fun z => h (by rw [ofL_inj z]; exact List.mem_cons_self)
    unfold lookI numbF
    simp only [List.lookup, e]
    exact look_none (k + 1) fun z => h (List.mem_cons_of_mem _ z)
theorem look_some : ∀ {l : List (List Nat)} {n : List Nat} {j : Nat} (k : Nat), l.Nodup → l[j]? = some n → lookI (numbF k l) (ofL n) = some ((k + j : Nat) : Int)
  | [], _, _, _, _, h => by simp at h
  | m :: r, n, 0, k, _, h => by
    cases (Option.some.inj h : m = n)
    unfold lookI numbF
    simp [List.lookup]
  | m :: r, n, j + 1, k, hn, h => by
    have h' : r[j]? = some n := by simpa using h
    have e : (ofL n == ofL m) = false := beq_eq_false_iff_ne.mpr fun z => (List.nodup_cons.mp hn).1 (by rw [← ofL_inj z]; exact List.mem_of_getElem? h')
    have ih := look_some (k + 1) (List.nodup_cons.mp hn).2 h'
    unfold lookI at ih ⊢
    unfold numbF
    simp only [List.lookup, e]
    rw [ih]
    congr 2
    omega
theorem take_get {α : Type} {l : List α} {i : Nat} {x : α} (h : l[i]? = some x) : l.take (i + 1) = l.take i ++ [x] := by rw [List.take_add_one, h]; rfl
theorem nodup_notIn {α : Type} {l : List α} {i : Nat} {x : α} (hn : l.Nodup) (h : l[i]? = some x) : x ∉ l.take i := fun z => by
  obtain ⟨j, hj⟩ := List.mem_iff_getElem?.mp z
  have hji : j < i := by have := lt_get hj; rw [List.length_take] at this; omega
  rw [List.getElem?_take, if_pos hji] at hj
  have h1 := lt_get hj
  have h2 := lt_get h
  have e : l[j] = l[i] := by
    rw [List.getElem?_eq_getElem h1] at hj
    rw [List.getElem?_eq_getElem h2] at h
    rw [Option.some.inj hj, Option.some.inj h]
  have := (List.getElem_inj hn).mp e
  omega
/-- what the two classes have -/
structure Cc (K : PySem.W.Frag) (mg : Str → Option Value) (Ci Cs : Addr) : Prop where
  mI : mg "InkStock" = some (.ref Ci)
  mS : mg "Stock" = some (.ref Cs)
  cI : Cls K Ci
  cS : Cls K Cs
  iC : C8.InsC K Cs
  i1 : NoAttr K Ci "size"
  i2 : NoAttr K Ci "stamps"
  i3 : NoAttr K Ci "numbers"
  s1 : NoAttr K Cs "size"
  s2 : NoAttr K Cs "stamps"
  s3 : NoAttr K Cs "numbers"
  s4 : NoAttr K Cs "layers"
def kInk (K : PySem.W.Frag) (Ci : Addr) (w : Nat) (st : Wld) : Kd := kO Ci [("size", kI K w), ("stamps", kT K (pairsI st)), ("numbers", kD (numbF 0 (st.map (·.1))))]
/-- names and layers -/
abbrev Pls := List (List Nat × List Nat)
structure Pd (w : Nat) (ss : Pls) : Prop where
  w1 : 1 ≤ w
  w10 : w ≤ 10
  n10 : ss.length ≤ 10
  nm : ∀ q ∈ ss, nameB q.1 = true
  ln : ∀ q ∈ ss, q.2.length = 3 * w
  v3 : ∀ q ∈ ss, ∀ x ∈ q.2, x < 3
  ch : ∀ q ∈ ss, ∃ x ∈ q.2, x ≠ 2
  nd : (ss.map (·.1)).Nodup
def pairsS (ss : Pls) : List PyData := ss.map fun q => .tuple [.str (ofL q.1), .str (layT q.2)]
def kSt (K : PySem.W.Frag) (Cs : Addr) (w : Nat) (ss : Pls) : Kd := kO Cs [("size", kI K (3 * w : Nat)), ("stamps", kT K (pairsS ss)), ("layers", kT K (ss.map fun q => .str (layT q.2))), ("numbers", kD (numbF 0 (ss.map (·.1))))]
section
variable {P : Program} {w : World} {K : PySem.W.Frag} {mg : Str → Option Value} {base : Heap} {f : Addr} {fd : FuncData} {Ci Cs : Addr}

/-! ### InkStock.__init__ -/
def R_mkI (Ci : Addr) (K : PySem.W.Frag) (κs : List Kd) (κ : Kd) : Prop := ∃ (w : Nat) (st : Wld) (d : PyData), Wd w st ∧ Frz 4 d (.tuple (pairsI st)) ∧ κs = [kI K w, dt K d] ∧ κ = kInk K Ci w st
abbrev nmI : List Str := ["self", "size", "stamps", "pairs", "numbers", "index", "pair"]
theorem sc_mkI : FnScope nmI ["self", "size", "stamps"] (defScope (inClass (top 34) 0)) := ⟨rfl, rfl, rfl, by decide +kernel, rfl, by decide +kernel, by decide +kernel⟩
theorem ok_mkI (F : FnM K "__init__" "InkStock.__init__" (inClass (top 34) 0) f fd) (T : Tx K mg) (Z : Cc K mg Ci Cs) (D_frozen : Df P w K mg base 5 "frozen" ["value"] (R_frozen 4 K)) (D_is_name : Df P w K mg base 1 "is_name" ["value"] (R_is_name K)) (D_is_ink_stamp : Df P w K mg base 3 "is_ink_stamp" ["value", "size"] (R_is_ink_stamp K)) :
    FnOk P w K mg base CX0 6 f fd ["self", "size", "stamps"] (spI Ci (R_mkI Ci K)) := by
  refine def_okI F sc_mkI (fun κs κ ⟨_, _, _, _, _, e, _⟩ => by rw [e]; rfl) fun cdv A outer s H E κs κ xa hr h => ?_
  obtain ⟨n, st, d, hw, hf, rfl, rfl⟩ := h
  have nd := sc_mkI.nd
  refine ⟨[.k (kAt xa (kInk K Ci n st)), .k (kI K n), .k (dt K d), .k (kT K (pairsI st)), .k (kD (numbF 0 (st.map (·.1)))), .un, .un], rfl, ?_⟩
  refine ss_cons (sk_set 3 nd (ek_call D_frozen (hr.mono (by decide)) (ak_cons (ek_var 2) ak_nil) ⟨d, _, hf, rfl, rfl⟩)) ?_
  refine ss_cons (sk_newD 4 nd (by show 4 < 7; decide)) ?_
  refine ss_cons (sk_for PassesOwn.never rfl (ik_enum T.enumerate (ek_var 3)) (fun i => [.own (oI Ci xa []), .k (kI K n), .k (dt K d), .k (kT K (pairsI st)), .own (oD (numbF 0 ((st.map (·.1)).take i))), .un, .un]) (.refl _) (fun i dd hd => ?_)) ?_
  · have hi := lt_get hd
    rw [enumD_len] at hi
    unfold pairsI at hi
    rw [List.length_map] at hi
    obtain ⟨q, hq⟩ := get_lt (l := st) hi
    rw [enumD_get (x := .tuple [.str (ofL q.1), .tuple (q.2.map (itD true))]) (by unfold pairsI; exact map_at hq)] at hd
    cases hd
    have hm := List.mem_of_getElem? hq
    have hn := map_at (f := fun q : List Nat × List Itm => q.1) hq
    have hx := nodup_notIn hw.nd hn
    refine ⟨_, gk_tup2 5 6 nd rfl, ?_⟩
    refine ss_F (tk_not (tk_val (ek_call D_is_name (hr.mono (by decide)) (ak_cons (ek_ixT (ek_var 6) ek_int (at_nat (n := 0) rfl)) ak_nil) ⟨q.1, hw.nm q hm, rfl, rfl⟩))) rfl ?_
    refine ss_F (tk_not (tk_val (ek_call D_is_ink_stamp (hr.mono (by decide)) (ak_cons (ek_ixT (ek_var 6) ek_int (at_nat (n := 1) rfl)) (ak_cons (ek_var 1) ak_nil)) ⟨q.2, hw.it q hm, by rw [hw.ln q hm]; have := hw.w10; omega, hw.ch q hm, by rw [hw.ln q hm]; rfl, rfl⟩))) rfl ?_
    refine ss_F (tk_inD 4 (hu1 hr) (ek_ixT (ek_var 6) ek_int (at_nat (n := 0) rfl))) (by rw [look_none 0 hx]; rfl) ?_
    show SsK _ _ _ (.nx [_, _, _, _, .own (oD (numbF 0 ((st.map (·.1)).take (i + 1)))), .un, .un])
    rw [take_get hn, numbF_app]
    have hlen : ((st.map (·.1)).take i).length = i := by rw [List.length_take, List.length_map]; omega
    rw [hlen, Nat.zero_add]
    exact ss_one (sk_weakO (sk_putD 4 (hu1 hr) rfl (ek_ixT (ek_var 6) ek_int (at_nat (n := 0) rfl)) (ek_var 5) (look_none 0 hx) (by rw [numbF_len, hlen]; have := hw.n10; omega)) (.keep (.keep (.keep (.keep (.keep (.drop (.drop .nil))))))))
  · rw [enumD_len, show (pairsI st).length = (st.map (·.1)).length by unfold pairsI; rw [List.length_map, List.length_map], List.take_length]
    refine ss_freezeW 4 rfl (oD_kD _) ?_
    refine ss_cons (sk_fld 0 rfl (ek_var 1) Z.cI Z.i1) ?_
    refine ss_cons (sk_fld 0 rfl (ek_var 3) Z.cI Z.i2) ?_
    refine ss_cons (sk_fld 0 rfl (ek_var 4) Z.cI Z.i3) ?_
    refine ss_freezeW 0 rfl (oI_kO _ _ _) ?_
    exact ss_weakO ss_nil (.keep (.keep (.keep (.keep (.keep (.drop (.drop .nil)))))))
end
end K71
end
section
namespace KD
open PySem PySem.Spec PyProof.Rows L2
/-! ### shapes -/
def Shp (n : Nat) (d : PyData) : Prop := d.canLay0 = true ∧ d.depth ≤ n
theorem shp_all {n : Nat} {xs : List PyData} (h : ∀ x ∈ xs, Shp n x) : PyData.canLayAll0 xs = true ∧ PyData.depthAll xs ≤ n := by
  induction xs with
  | nil => exact ⟨rfl, Nat.zero_le _⟩
  | cons x r ih =>
    obtain ⟨a, b⟩ := ih fun y hy => h y (List.mem_cons_of_mem _ hy)
    obtain ⟨c, d⟩ := h x List.mem_cons_self
    refine ⟨?_, ?_⟩
    · rw [PyData.canLayAll0, c, a]; rfl
    · rw [PyData.depthAll]; omega
theorem shp_lst {n : Nat} {xs : List PyData} (h : ∀ x ∈ xs, Shp n x) : Shp (n + 1) (.list xs) := by
  obtain ⟨a, b⟩ := shp_all h
  exact ⟨by rw [PyData.canLay0]; exact a, by rw [PyData.depth]; omega⟩
theorem shp_tup {n : Nat} {xs : List PyData} (h : ∀ x ∈ xs, Shp n x) : Shp (n + 1) (.tuple xs) := by
  obtain ⟨a, b⟩ := shp_all h
  exact ⟨by rw [PyData.canLay0]; exact a, by rw [PyData.depth]; omega⟩
theorem shp_int (n : Nat) (i : Int) : Shp n (.int i) := ⟨by rw [PyData.canLay0], by rw [PyData.depth]; exact Nat.zero_le _⟩
theorem shp_str (n : Nat) {i : Str} (h : PyData.strOk i = true) : Shp n (.str i) := ⟨by rw [PyData.canLay0]; exact h, by rw [PyData.depth]; exact Nat.zero_le _⟩
theorem shp_non (n : Nat) : Shp n .none := ⟨by rw [PyData.canLay0], by rw [PyData.depth]; exact Nat.zero_le _⟩
theorem shp_sh {n : Nat} {d : PyData} (h : Shp n d) (hn : n ≤ 64 := by decide) : SeqAt.shaped d = true := by
  unfold SeqAt.shaped
  rw [h.1, decide_eq_true (Nat.le_trans h.2 hn)]
  rfl
theorem eqv_self {n : Nat} {d : PyData} (h : Shp n d) : PyData.eqv d d = true := SeqAt.eqv_refl d h.1
theorem shp_ints (l : List Nat) : Shp 1 (.list (l.map fun d : Nat => .int d)) := shp_lst fun x hx => by
  obtain ⟨y, _, rfl⟩ := List.mem_map.mp hx
  exact shp_int _ _
theorem eqv_ints : ∀ a b : List Nat, PyData.eqvAll (a.map fun d : Nat => .int d) (b.map fun d : Nat => .int d) = decide (a = b)
  | [], [] => rfl
  | [], _ :: _ => rfl
  | _ :: _, [] => rfl
  | x :: a, y :: b => by
    show (PyData.eqv (.int x) (.int y) && PyData.eqvAll (a.map _) (b.map _)) = _
    rw [eqv_ints a b, PyData.eqv]
    by_cases h1 : x = y
    · subst h1
      by_cases h2 : a = b
      · subst h2; simp
      · simp [h2]
    · have : ((x : Int) == (y : Int)) = false := beq_eq_false_iff_ne.mpr (by omega)
      rw [this]
      simp [h1]
/-- pairs of numbers -/
def k71D (q : Nat × Nat) : PyData := .tuple [.int q.1, .int q.2]
theorem eqv_pairs : ∀ a b : List (Nat × Nat), PyData.eqvAll (a.map k71D) (b.map k71D) = decide (a = b)
  | [], [] => rfl
  | [], _ :: _ => rfl
  | _ :: _, [] => rfl
  | x :: a, y :: b => by
    show (PyData.eqv (k71D x) (k71D y) && PyData.eqvAll (a.map k71D) (b.map k71D)) = _
    rw [eqv_pairs a b]
    have e : PyData.eqv (k71D x) (k71D y) = decide (x = y) := by
      have h := eqv_ints [x.1, x.2] [y.1, y.2]
      show PyData.eqvAll [.int x.1, .int x.2] [.int y.1, .int y.2] = _
      refine h.trans ?_
      rw [decide_eq_decide]
      obtain ⟨x1, x2⟩ := x
      obtain ⟨y1, y2⟩ := y
      simp
    rw [e]
    by_cases h1 : x = y
    · subst h1
      by_cases h2 : a = b
      · subst h2; simp
      · simp [h2]
    · simp [h1]
theorem shp_pair (q : Nat × Nat) : Shp 1 (k71D q) := shp_tup fun x hx => by
  rcases List.mem_cons.mp hx with rfl | hx
  · exact shp_int _ _
  · rcases List.mem_cons.mp hx with rfl | hx
    · exact shp_int _ _
    · cases hx
theorem shp_pairs (l : List (Nat × Nat)) : Shp 2 (.tuple (l.map k71D)) := shp_tup fun x hx => by
  obtain ⟨y, _, rfl⟩ := List.mem_map.mp hx
  exact shp_pair _
end KD
namespace K71
open PySem PySem.Spec PyProof.Rows L2 KD
theorem ok_ofL {l : List Nat} (h : ∀ c ∈ l, c < 200) : PyData.strOk (ofL l) = true := by
  show (l.toArray).all (fun c => decide (c < 0x110000)) = true
  rw [List.all_toArray, List.all_eq_true]
  intro c hc
  have := h c hc
  exact decide_eq_true (by omega)
theorem sc_lt (v : Nat) : sc v < 200 := by unfold sc; split <;> decide
theorem ok_layT (v : List Nat) : PyData.strOk (layT v) = true := ok_ofL fun c hc => by
  obtain ⟨x, _, rfl⟩ := List.mem_map.mp hc
  exact sc_lt x
theorem name_lt {l : List Nat} (h : nameB l = true) : ∀ c ∈ l, c < 200 := fun c hc => by
  unfold nameB at h
  rw [Bool.and_eq_true, Bool.and_eq_true] at h
  have := List.all_eq_true.mp h.2 c hc
  rcases Bool.or_eq_true_iff.mp this with z | z
  · have := of_decide_eq_true z; omega
  · have := of_decide_eq_true z; omega
theorem ok_name {l : List Nat} (h : nameB l = true) : PyData.strOk (ofL l) = true := ok_ofL (name_lt h)
theorem shp_pairS {q : List Nat × List Nat} (h : nameB q.1 = true) : Shp 1 (.tuple [.str (ofL q.1), .str (layT q.2)]) := shp_tup fun x hx => by
  rcases List.mem_cons.mp hx with rfl | hx
  · exact shp_str _ (ok_name h)
  · rcases List.mem_cons.mp hx with rfl | hx
    · exact shp_str _ (ok_layT _)
    · cases hx
theorem shp_pairsS {ss : Pls} (h : ∀ q ∈ ss, nameB q.1 = true) : Shp 2 (.tuple (pairsS ss)) := shp_tup fun x hx => by
  unfold pairsS at hx
  obtain ⟨y, hy, rfl⟩ := List.mem_map.mp hx
  exact shp_pairS (h y hy)
end K71
end
section
namespace K71
open PySem PySem.Spec PyProof.Rows L2 KD
section
variable {P : Program} {w : World} {K : PySem.W.Frag} {mg : Str → Option Value} {base : Heap} {f : Addr} {fd : FuncData} {Ci Cs : Addr}

/-! ### Stock.__init__ -/
def R_mkS (Cs : Addr) (K : PySem.W.Frag) (κs : List Kd) (κ : Kd) : Prop := ∃ (w : Nat) (ss : Pls) (d : PyData), Pd w ss ∧ Frz 2 d (.tuple (pairsS ss)) ∧ κs = [kI K (3 * w : Nat), dt K d] ∧ κ = kSt K Cs w ss
abbrev nmS : List Str := ["self", "size", "stamps", "pairs", "numbers", "index", "pair"]
theorem sc_mkS : FnScope nmS ["self", "size", "stamps"] (defScope (inClass (top 21) 0)) := ⟨rfl, rfl, rfl, by decide +kernel, rfl, by decide +kernel, by decide +kernel⟩
theorem layB_of {w : Nat} {ss : Pls} (hw : Pd w ss) {q : List Nat × List Nat} (hq : q ∈ ss) : layB (q.2.map sc) ∧ q.2.map sc ≠ List.replicate (q.2.map sc).length 45 := by
  have h1 := hw.ln q hq
  have := hw.w1
  have := hw.w10
  refine ⟨⟨by rw [List.length_map]; omega, by rw [List.length_map]; omega, fun c hc => ?_⟩, fun e => ?_⟩
  · obtain ⟨x, hx, rfl⟩ := List.mem_map.mp hc
    have h3 := hw.v3 q hq x hx
    match x, h3 with
    | 0, _ => decide
    | 1, _ => decide
    | 2, _ => decide
  · obtain ⟨x, hx, h2⟩ := hw.ch q hq
    have h3 := hw.v3 q hq x hx
    have : sc x ∈ q.2.map sc := List.mem_map.mpr ⟨x, hx, rfl⟩
    rw [e] at this
    have := (List.mem_replicate.mp this).2
    match x, h3 with
    | 0, _ => exact absurd this (by decide)
    | 1, _ => exact absurd this (by decide)
    | 2, _ => exact h2 rfl
theorem ok_mkS (F : FnM K "__init__" "Stock.__init__" (inClass (top 21) 0) f fd) (T : Tx K mg) (Z : Cc K mg Ci Cs) (D_frozen : Df P w K mg base 3 "frozen" ["value"] (R_frozen 2 K)) (D_is_name : Df P w K mg base 1 "is_name" ["value"] (R_is_name K)) (D_is_stamp : Df P w K mg base 2 "is_stamp" ["value", "size"] (R_is_stamp K)) :
    FnOk P w K mg base CX0 4 f fd ["self", "size", "stamps"] (spI Cs (R_mkS Cs K)) := by
  refine def_okI F sc_mkS (fun κs κ ⟨_, _, _, _, _, e, _⟩ => by rw [e]; rfl) fun cdv A outer s H E κs κ xa hr h => ?_
  obtain ⟨n, st, d, hw, hf, rfl, rfl⟩ := h
  have nd := sc_mkS.nd
  refine ⟨[.k (kAt xa (kSt K Cs n st)), .k (kI K (3 * n : Nat)), .k (dt K d), .k (kT K (pairsS st)), .k (kD (numbF 0 (st.map (·.1)))), .un, .un], rfl, ?_⟩
  refine ss_cons (sk_set 3 nd (ek_call D_frozen (hr.mono (by decide)) (ak_cons (ek_var 2) ak_nil) ⟨d, _, hf, rfl, rfl⟩)) ?_
  refine ss_cons (sk_newD 4 nd (by show 4 < 7; decide)) ?_
  refine ss_cons (sk_for PassesOwn.never rfl (ik_enum T.enumerate (ek_var 3)) (fun i => [.own (oI Cs xa []), .k (kI K (3 * n : Nat)), .k (dt K d), .k (kT K (pairsS st)), .own (oD (numbF 0 ((st.map (·.1)).take i))), .un, .un]) (.refl _) (fun i dd hd => ?_)) ?_
  · have hi := lt_get hd
    rw [enumD_len] at hi
    unfold pairsS at hi
    rw [List.length_map] at hi
    obtain ⟨q, hq⟩ := get_lt (l := st) hi
    rw [enumD_get (x := .tuple [.str (ofL q.1), .str (layT q.2)]) (by unfold pairsS; exact map_at hq)] at hd
    cases hd
    have hm := List.mem_of_getElem? hq
    have hn := map_at (f := fun q : List Nat × List Nat => q.1) hq
    have hx := nodup_notIn hw.nd hn
    obtain ⟨hb1, hb2⟩ := layB_of hw hm
    refine ⟨_, gk_tup2 5 6 nd rfl, ?_⟩
    refine ss_F (tk_not (tk_val (ek_call D_is_name (hr.mono (by decide)) (ak_cons (ek_ixT (ek_var 6) ek_int (at_nat (n := 0) rfl)) ak_nil) ⟨q.1, hw.nm q hm, rfl, rfl⟩))) rfl ?_
    refine ss_F (tk_not (tk_val (ek_call D_is_stamp (hr.mono (by decide)) (ak_cons (ek_ixT (ek_var 6) ek_int (at_nat (n := 1) rfl)) (ak_cons (ek_var 1) ak_nil)) ⟨q.2.map sc, hb1, hb2, by rw [List.length_map, hw.ln q hm]; rfl, rfl⟩))) rfl ?_
    refine ss_F (tk_inD 4 (hu1 hr) (ek_ixT (ek_var 6) ek_int (at_nat (n := 0) rfl))) (by rw [look_none 0 hx]; rfl) ?_
    show SsK _ _ _ (.nx [_, _, _, _, .own (oD (numbF 0 ((st.map (·.1)).take (i + 1)))), .un, .un])
    rw [take_get hn, numbF_app]
    have hlen : ((st.map (·.1)).take i).length = i := by rw [List.length_take, List.length_map]; omega
    rw [hlen, Nat.zero_add]
    exact ss_one (sk_weakO (sk_putD 4 (hu1 hr) rfl (ek_ixT (ek_var 6) ek_int (at_nat (n := 0) rfl)) (ek_var 5) (look_none 0 hx) (by rw [numbF_len, hlen]; have := hw.n10; omega)) (.keep (.keep (.keep (.keep (.keep (.drop (.drop .nil))))))))
  · rw [enumD_len, show (pairsS st).length = (st.map (·.1)).length by unfold pairsS; rw [List.length_map, List.length_map], List.take_length]
    refine ss_freezeW 4 rfl (oD_kD _) ?_
    refine ss_cons (sk_fld 0 rfl (ek_var 1) Z.cS Z.s1) ?_
    refine ss_cons (sk_fld 0 rfl (ek_var 3) Z.cS Z.s2) ?_
    refine ss_cons (sk_fld 0 rfl (κ := kT K (st.map fun q => .str (layT q.2))) (ek_tuple1 (d := .list (st.map fun q => .str (layT q.2))) T.tuple (ek_lc _ rfl nd (ik_tup (ek_var 3)) (blkOk_by (N := nmS) (sc := defScope (inClass (top 21) 0)) (own := [("pair", 6)]) (by decide +kernel)) (fun i => [.own (oI Cs xa [("size", kI K (3 * n : Nat)), ("stamps", kT K (pairsS st))]), .k (kI K (3 * n : Nat)), .k (dt K d), .k (kT K (pairsS st)), .k (kD (numbF 0 (st.map (·.1)))), .un, .k (dt K ((pairsS st).getD i .none))]) ?hl ?hz (fun i d hd s H C cl fp => ?bg) (fun i d e hd he s H C cl fp => ?el)) rfl) Z.cS Z.s4) ?_
    case hl => unfold pairsS; rw [List.length_map, List.length_map]
    case hz => unfold pairsS; rw [List.length_map]; have := hw.n10; omega
    case bg => rw [getD_of hd]; exact bg_name 6 (by decide) nd
    case el =>
      rw [getD_of hd]
      unfold pairsS at hd
      obtain ⟨q, hq, rfl⟩ := map_get hd
      rw [map_at hq] at he
      cases he
      exact ek_ixT (ek_var 6) ek_int (at_nat (n := 1) rfl)
    refine ss_cons (sk_fld 0 rfl (ek_var 4) Z.cS Z.s3) ?_
    refine ss_freezeW 0 rfl (oI_kO _ _ _) ?_
    exact ss_weakO ss_nil (.keep (.keep (.keep (.keep (.keep (.drop (.drop .nil)))))))

/-! ### place -/
def R_place (C : Addr) (K : PySem.W.Frag) (κs : List Kd) (κ : Kd) : Prop := ∃ (kfs : List (Str × Kd)) (kvs : List (Str × Int)) (y : Str), kfs.lookup ("numbers" : Str) = some (kD kvs) ∧ κs = [kO C kfs, kS K y] ∧ κ = dt K (optD (lookI kvs y))
theorem sc_placeI : FnScope ["self", "name"] ["self", "name"] (defScope (inClass (top 34) 3)) := ⟨rfl, rfl, rfl, by decide +kernel, rfl, by decide +kernel, by decide +kernel⟩
theorem ok_placeI (F : FnM K "place" "InkStock.place" (inClass (top 34) 3) f fd) (Z : Cc K mg Ci Cs) : FnOk P w K mg base CX0 1 f fd ["self", "name"] (spF (R_place Ci K)) := by
  refine def_ok F sc_placeI (fun κs κ ⟨_, _, _, _, e, _⟩ => by rw [e]; rfl) fun cdv A outer s H E κs κ hr h => ?_
  obtain ⟨kfs, kvs, y, hl, rfl, rfl⟩ := h
  exact ss_one (sk_ret (ek_getD (hu1 hr) (ek_fld (ek_var 0) Z.cI Z.i3 hl) (ek_var 1)))
theorem sc_placeS : FnScope ["self", "name"] ["self", "name"] (defScope (inClass (top 21) 7)) := ⟨rfl, rfl, rfl, by decide +kernel, rfl, by decide +kernel, by decide +kernel⟩
theorem ok_placeS (F : FnM K "place" "Stock.place" (inClass (top 21) 7) f fd) (Z : Cc K mg Ci Cs) : FnOk P w K mg base CX0 1 f fd ["self", "name"] (spF (R_place Cs K)) := by
  refine def_ok F sc_placeS (fun κs κ ⟨_, _, _, _, e, _⟩ => by rw [e]; rfl) fun cdv A outer s H E κs κ hr h => ?_
  obtain ⟨kfs, kvs, y, hl, rfl, rfl⟩ := h
  exact ss_one (sk_ret (ek_getD (hu1 hr) (ek_fld (ek_var 0) Z.cS Z.s3 hl) (ek_var 1)))

/-! ### Stock.stamp, names, == -/
def R_stamp (Cs : Addr) (K : PySem.W.Frag) (κs : List Kd) (κ : Kd) : Prop := ∃ (w : Nat) (ss : Pls) (j : Nat) (q : List Nat × List Nat), Pd w ss ∧ ss[j]? = some q ∧ κs = [kSt K Cs w ss, kS K (ofL q.1)] ∧ κ = kS K (layT q.2)
theorem sc_stamp : FnScope ["self", "name", "number"] ["self", "name"] (defScope (inClass (top 21) 8)) := ⟨rfl, rfl, rfl, by decide +kernel, rfl, by decide +kernel, by decide +kernel⟩
theorem place_S {w : Nat} {ss : Pls} {j : Nat} {q : List Nat × List Nat} (hw : Pd w ss) (hq : ss[j]? = some q) : R_place Cs K [kSt K Cs w ss, kS K (ofL q.1)] (kI K j) :=
  ⟨_, _, _, rfl, rfl, by rw [look_some 0 hw.nd (map_at hq), Nat.zero_add]; rfl⟩
theorem ok_stamp (F : FnM K "stamp" "Stock.stamp" (inClass (top 21) 8) f fd) (Z : Cc K mg Ci Cs) (D_place : DfM P w K mg base 1 Cs "place" ["self", "name"] (R_place Cs K)) : FnOk P w K mg base CX0 2 f fd ["self", "name"] (spF (R_stamp Cs K)) := by
  refine def_ok F sc_stamp (fun κs κ ⟨_, _, _, _, _, _, e, _⟩ => by rw [e]; rfl) fun cdv A outer s H E κs κ hr h => ?_
  obtain ⟨n, ss, j, q, hw, hq, rfl, rfl⟩ := h
  have nd := sc_stamp.nd
  refine ss_cons (sk_set 2 nd (ek_meth D_place (hr.mono (by decide)) Z.cS (ek_var 0) (isI_kO rfl) (ak_cons (ek_var 1) ak_nil) (place_S hw hq))) ?_
  refine ss_F (tk_isN (ek_var 2)) rfl ?_
  exact ss_one (sk_ret (ek_ixT (ek_fld (κ := kT K (ss.map fun q => .str (layT q.2))) (ek_var 0) Z.cS Z.s4 rfl) (ek_var 2) (at_nat (map_at hq))))
def R_names (Cs : Addr) (K : PySem.W.Frag) (κs : List Kd) (κ : Kd) : Prop := ∃ (w : Nat) (ss : Pls), Pd w ss ∧ κs = [kSt K Cs w ss] ∧ κ = kT K (ss.map fun q => .str (ofL q.1))
theorem sc_names : FnScope ["self", "pair"] ["self"] (defScope (inClass (top 21) 1)) := ⟨rfl, rfl, rfl, by decide +kernel, rfl, by decide +kernel, by decide +kernel⟩
theorem ok_names (F : FnM K "names" "Stock.names" (inClass (top 21) 1) f fd) (T : Tx K mg) (Z : Cc K mg Ci Cs) : FnOk P w K mg base CX0 1 f fd ["self"] (spF (R_names Cs K)) := by
  refine def_ok F sc_names (fun κs κ ⟨_, _, _, e, _⟩ => by rw [e]; rfl) fun cdv A outer s H E κs κ hr h => ?_
  obtain ⟨n, ss, hw, rfl, rfl⟩ := h
  have nd := sc_names.nd
  refine ss_one (sk_ret (ek_tuple1 (d := .list (ss.map fun q => .str (ofL q.1))) T.tuple (ek_lc _ rfl nd (ik_tup (ek_fld (κ := kT K (pairsS ss)) (ek_var 0) Z.cS Z.s2 rfl)) (blkOk_by (N := ["self", "pair"]) (sc := defScope (inClass (top 21) 1)) (own := [("pair", 1)]) (by decide +kernel)) (fun i => [.k (kSt K Cs n ss), .k (dt K ((pairsS ss).getD i .none))]) ?hl ?hz (fun i d hd s H C cl fp => ?bg) (fun i d e hd he s H C cl fp => ?el)) rfl))
  case hl => unfold pairsS; rw [List.length_map, List.length_map]
  case hz => unfold pairsS; rw [List.length_map]; have := hw.n10; omega
  case bg => rw [getD_of hd]; exact bg_name 1 (by decide) nd
  case el =>
    rw [getD_of hd]
    unfold pairsS at hd
    obtain ⟨q, hq, rfl⟩ := map_get hd
    rw [map_at hq] at he
    cases he
    exact ek_ixT (ek_var 1) ek_int (at_nat (n := 0) rfl)
def R_eqS (Cs : Addr) (K : PySem.W.Frag) (κs : List Kd) (κ : Kd) : Prop := ∃ (w : Nat) (ss : Pls), Pd w ss ∧ κs = [kSt K Cs w ss, kSt K Cs w ss] ∧ κ = kB K true
theorem sc_eqS : FnScope ["self", "other"] ["self", "other"] (defScope (inClass (top 21) 5)) := ⟨rfl, rfl, rfl, by decide +kernel, rfl, by decide +kernel, by decide +kernel⟩
theorem isO (C : Addr) (kfs : List (Str × Kd)) : ∀ S v, (kO C kfs).p S v → ∃ a dx fs, v = .ref a ∧ S a = some (.ins C dx fs) := fun S v ⟨a, dx, fs, h1, h2, _⟩ => ⟨a, dx, fs, h1, h2⟩
theorem ok_eqS (F : FnM K "__eq__" "Stock.__eq__" (inClass (top 21) 5) f fd) (T : Tx K mg) (Z : Cc K mg Ci Cs) : FnOk P w K mg base CX0 1 f fd ["self", "other"] (spF (R_eqS Cs K)) := by
  refine def_ok F sc_eqS (fun κs κ ⟨_, _, _, e, _⟩ => by rw [e]; rfl) fun cdv A outer s H E κs κ hr h => ?_
  obtain ⟨n, ss, hw, rfl, rfl⟩ := h
  have hs := shp_sh (shp_pairsS hw.nm)
  refine ss_one (sk_ret (EK.to (ek_and (ek_isC Z.iC T.isinstance (ek_var 1) (isO _ _) (ek_cls Z.mS)) (fun _ => ek_and (ek_eqI (ek_fld (κ := kI K (3 * n : Nat)) (ek_var 0) Z.cS Z.s1 rfl) (ek_fld (κ := kI K (3 * n : Nat)) (ek_var 1) Z.cS Z.s1 rfl)) (fun _ => ek_one (ek_eqD (hu64 hr) (ek_fld (κ := kT K (pairsS ss)) (ek_var 0) Z.cS Z.s2 rfl) (ek_fld (κ := kT K (pairsS ss)) (ek_var 1) Z.cS Z.s2 rfl) hs hs)))) ?_))
  rw [eqv_self (shp_pairsS hw.nm), decide_eq_true rfl]
  rfl
end
end K71
end
section
namespace K71
open PySem PySem.Spec PyProof.Rows L2 KD
/-! ### rows: places of names -/
def rowD (ns : List (List Nat)) (J : List Nat) : List PyData := J.map fun j => .str (ofL (ns.getD j []))
def Jok (n : Nat) (J : List Nat) : Prop := J.length ≤ 100 ∧ ∀ j ∈ J, j < n
theorem frz_row (b : Bool) (ns : List (List Nat)) {J : List Nat} (h : J.length ≤ 100) : Frz 1 (sqD b (rowD ns J)) (.tuple (rowD ns J)) := by
  refine .inr ⟨rowD ns J, rowD ns J, by cases b; exact .inl rfl; exact .inr rfl, rfl, rfl, by unfold rowD; rw [List.length_map]; omega, fun i x y hx hy => ?_⟩
  rw [hx] at hy
  cases hy
  unfold rowD at hx
  obtain ⟨j, _, rfl⟩ := map_get hx
  exact ⟨rfl, rfl⟩
theorem frz_mono : ∀ {n : Nat} {d e : PyData}, Frz n d e → Frz (n + 1) d e
  | 0, d, e, h => .inl h
  | n + 1, d, e, h => by
    rcases h with h | ⟨ds, es, h1, h2, h3, h4, h5⟩
    · exact .inl h
    · exact .inr ⟨ds, es, h1, h2, h3, h4, fun i x y hx hy => frz_mono (h5 i x y hx hy)⟩
def pressV (v u : List Nat) : List Nat := List.zipWith pr v u
theorem pressV_len {v u : List Nat} (h : v.length = u.length) : (pressV v u).length = v.length := by unfold pressV; rw [List.length_zipWith]; omega
def l3 (v : List Nat) : Prop := ∀ x ∈ v, x < 3
theorem sc_two {y : Nat} (h : y < 3) : sc y = 45 ↔ y = 2 := by
  match y, h with
  | 0, _ => exact ⟨fun z => absurd z (by decide), fun z => nomatch z⟩
  | 1, _ => exact ⟨fun z => absurd z (by decide), fun z => nomatch z⟩
  | 2, _ => exact ⟨fun _ => rfl, fun _ => rfl⟩
theorem press_map : ∀ {v u : List Nat}, l3 u → pressL (v.map sc) (u.map sc) = (pressV v u).map sc
  | [], _, _ => rfl
  | _ :: _, [], _ => rfl
  | x :: v, y :: u, h => by
    have ih := press_map (v := v) (u := u) fun z hz => h z (List.mem_cons_of_mem _ hz)
    have hy := h y List.mem_cons_self
    unfold pressL pressV at ih ⊢
    rw [List.map_cons, List.map_cons, List.zipWith_cons_cons, List.zipWith_cons_cons, List.map_cons, ih]
    congr 1
    unfold pr
    by_cases c : y = 2
    · rw [if_pos ((sc_two hy).mpr c), if_pos c]
    · rw [if_neg (fun z => c ((sc_two hy).mp z)), if_neg c]
theorem pr_lt {x y : Nat} (hx : x < 3) (hy : y < 3) : pr x y < 3 := by unfold pr; split; exact hx; exact hy
theorem l3_press {v u : List Nat} (hv : l3 v) (hu : l3 u) : l3 (pressV v u) := fun x hx => by
  unfold pressV at hx
  obtain ⟨i, hi⟩ := List.mem_iff_getElem?.mp hx
  rw [List.getElem?_zipWith] at hi
  cases e1 : v[i]? with
  | none => rw [e1] at hi; cases hi
  | some a =>
    cases e2 : u[i]? with
    | none => rw [e1, e2] at hi; cases hi
    | some b =>
      rw [e1, e2] at hi
      cases hi
      exact pr_lt (hv a (List.mem_of_getElem? e1)) (hu b (List.mem_of_getElem? e2))
theorem v1_lt (it : Itm) (c : Nat) : v1 it c < 3 := by
  unfold v1
  split
  · decide
  · omega
  · split <;> decide
  · split <;> decide
theorem l3_eff (it : Itm) : l3 (eff3 it) := fun x hx => by
  obtain ⟨c, _, rfl⟩ := List.mem_map.mp hx
  exact v1_lt it c
def effs (its : List Itm) : List Nat := its.flatMap eff3
theorem l3_effs (its : List Itm) : l3 (effs its) := fun x hx => by
  obtain ⟨it, _, h⟩ := List.mem_flatMap.mp hx
  exact l3_eff it x h
theorem effs_len : ∀ its : List Itm, (effs its).length = 3 * its.length
  | [] => rfl
  | it :: r => by
    show (eff3 it ++ effs r).length = _
    rw [List.length_append, effs_len r, List.length_cons, show (eff3 it).length = 3 from rfl]
    omega
theorem fin_chg : ∀ n : Nat, n < 8 → 0 < n → (∃ x ∈ eff3 (some (.add, n)), x ≠ 2) ∧ ∃ x ∈ eff3 (some (.bl, n)), x ≠ 2 := by decide +kernel
theorem chg_eff {it : Itm} (hi : iok it) (h : chg it = true) : ∃ x ∈ eff3 it, x ≠ 2 := by
  match it, hi, h with
  | some (.set, n), _, _ => exact ⟨n / 1 % 2, List.mem_cons_self, by omega⟩
  | some (.add, n), hi, h => exact (fin_chg n hi (of_decide_eq_true h)).1
  | some (.bl, n), hi, h => exact (fin_chg n hi (of_decide_eq_true h)).2
def plainS (st : Wld) : Pls := st.map fun q => (q.1, effs q.2)
theorem plainS_names (st : Wld) : (plainS st).map (·.1) = st.map (·.1) := by unfold plainS; rw [List.map_map]; rfl
theorem pd_plain {w : Nat} {st : Wld} (h : Wd w st) : Pd w (plainS st) where
  w1 := h.w1
  w10 := h.w10
  n10 := by unfold plainS; rw [List.length_map]; exact h.n10
  nm := fun q hq => by obtain ⟨p, hp, rfl⟩ := List.mem_map.mp hq; exact h.nm p hp
  ln := fun q hq => by obtain ⟨p, hp, rfl⟩ := List.mem_map.mp hq; rw [effs_len, h.ln p hp]
  v3 := fun q hq => by obtain ⟨p, hp, rfl⟩ := List.mem_map.mp hq; exact l3_effs p.2
  ch := fun q hq => by
    obtain ⟨p, hp, rfl⟩ := List.mem_map.mp hq
    obtain ⟨it, hi, hc⟩ := List.any_eq_true.mp (h.ch p hp)
    obtain ⟨x, hx, h2⟩ := chg_eff (h.it p hp it hi) hc
    exact ⟨x, List.mem_flatMap.mpr ⟨it, hi, hx⟩, h2⟩
  nd := by rw [plainS_names]; exact h.nd
/-- what the rows do -/
def layAt (ss : Pls) (j : Nat) : List Nat := (ss.getD j ([], [])).2
def itAt (st : Wld) (j : Nat) : List Itm := (st.getD j ([], [])).2
def runV (ss : Pls) (v : List Nat) (J : List Nat) : List Nat := J.foldl (fun v j => pressV v (layAt ss j)) v
def runP (st : Wld) (p : List Nat) (J : List Nat) : List Nat := J.foldl (fun p j => List.zipWith aft p (itAt st j)) p
def netV (w : Nat) (ss : Pls) (J : List Nat) : List Nat := runV ss (List.replicate (3 * w) 2) J
def pairsN (w : Nat) (v : List Nat) : List (Nat × Nat) := (List.range w).map fun i => (cw (cell (v.map sc) i) 97, cw (cell (v.map sc) i) 46)
theorem get_at {ss : Pls} {j : Nat} (h : j < ss.length) : ∃ q, ss[j]? = some q ∧ layAt ss j = q.2 := by
  obtain ⟨q, hq⟩ := get_lt h
  exact ⟨q, hq, by unfold layAt; rw [getD_of hq]⟩
theorem get_it {st : Wld} {j : Nat} (h : j < st.length) : ∃ q, st[j]? = some q ∧ itAt st j = q.2 := by
  obtain ⟨q, hq⟩ := get_lt h
  exact ⟨q, hq, by unfold itAt; rw [getD_of hq]⟩
theorem Jok.drop {n j : Nat} {J : List Nat} (h : Jok n (j :: J)) : Jok n J := ⟨by have := h.1; rw [List.length_cons] at this; omega, fun x hx => h.2 x (List.mem_cons_of_mem _ hx)⟩
theorem runV_ok {w : Nat} {ss : Pls} (hw : Pd w ss) : ∀ {J : List Nat} {v : List Nat}, Jok ss.length J → v.length = 3 * w → l3 v → (runV ss v J).length = 3 * w ∧ l3 (runV ss v J)
  | [], v, _, h1, h2 => ⟨h1, h2⟩
  | j :: J, v, hJ, h1, h2 => by
    obtain ⟨q, hq, e⟩ := get_at (hJ.2 j List.mem_cons_self)
    have hm := List.mem_of_getElem? hq
    have hl := hw.ln q hm
    have h3 : l3 q.2 := hw.v3 q hm
    exact runV_ok hw hJ.drop (v := pressV v (layAt ss j)) (by rw [e, pressV_len (by omega)]; exact h1) (by rw [e]; exact l3_press h2 h3)
theorem runP_ok {w : Nat} {st : Wld} (hw : Wd w st) : ∀ {J : List Nat} {p : List Nat}, Jok st.length J → p.length = w → d8 p → (runP st p J).length = w ∧ d8 (runP st p J)
  | [], v, _, h1, h2 => ⟨h1, h2⟩
  | j :: J, p, hJ, h1, h2 => by
    obtain ⟨q, hq, e⟩ := get_it (hJ.2 j List.mem_cons_self)
    have hm := List.mem_of_getElem? hq
    have hl := hw.ln q hm
    refine runP_ok hw hJ.drop (p := List.zipWith aft p (itAt st j)) (by rw [e, List.length_zipWith]; omega) fun d hd => ?_
    rw [e] at hd
    obtain ⟨i, hi⟩ := List.mem_iff_getElem?.mp hd
    rw [List.getElem?_zipWith] at hi
    cases e1 : p[i]? with
    | none => rw [e1] at hi; cases hi
    | some a =>
      cases e2 : q.2[i]? with
      | none => rw [e1, e2] at hi; cases hi
      | some b =>
        rw [e1, e2] at hi
        cases hi
        exact aft_lt (h2 a (List.mem_of_getElem? e1)) (hw.it q hm b (List.mem_of_getElem? e2))
end K71
end
section
namespace K71
open PySem PySem.Spec PyProof.Rows L2 KD
section
variable {P : Program} {w : World} {K : PySem.W.Frag} {mg : Str → Option Value} {base : Heap} {f : Addr} {fd : FuncData} {Ci Cs : Addr}
theorem row_get {ns : List (List Nat)} {J : List Nat} {i : Nat} {d : PyData} (hd : (rowD ns J)[i]? = some d) : ∃ j, J[i]? = some j ∧ d = .str (ofL (ns.getD j [])) := by
  unfold rowD at hd
  obtain ⟨j, h1, h2⟩ := map_get hd
  exact ⟨j, h1, h2⟩
theorem row_len (ns : List (List Nat)) (J : List Nat) : (rowD ns J).length = J.length := by unfold rowD; rw [List.length_map]
theorem name_at {α : Type} {ss : List (List Nat × α)} {j : Nat} {q : List Nat × α} (h : ss[j]? = some q) : (ss.map (·.1)).getD j [] = q.1 := getD_of (map_at h)

/-! ### known_names -/
def R_known (Cs : Addr) (K : PySem.W.Frag) (κs : List Kd) (κ : Kd) : Prop := ∃ (w : Nat) (ss : Pls) (b : Bool) (J : List Nat), Pd w ss ∧ Jok ss.length J ∧ κs = [kSt K Cs w ss, dt K (sqD b (rowD (ss.map (·.1)) J))] ∧ κ = kT K (rowD (ss.map (·.1)) J)
theorem sc_known : FnScope ["stock", "names", "row", "name"] ["stock", "names"] (defScope (top 22)) := ⟨rfl, rfl, rfl, by decide +kernel, rfl, by decide +kernel, by decide +kernel⟩
theorem ok_known (F : FnG K "known_names" (top 22) f fd) (T : Tx K mg) (Z : Cc K mg Ci Cs) (D_frozen : Df P w K mg base 2 "frozen" ["value"] (R_frozen 1 K)) (D_place : DfM P w K mg base 1 Cs "place" ["self", "name"] (R_place Cs K)) : FnOk P w K mg base CX0 3 f fd ["stock", "names"] (spF (R_known Cs K)) := by
  refine def_ok F sc_known (fun κs κ ⟨_, _, _, _, _, _, e, _⟩ => by rw [e]; rfl) fun cdv A outer s H E κs κ hr h => ?_
  obtain ⟨n, ss, b, J, hw, hJ, rfl, rfl⟩ := h
  have nd := sc_known.nd
  refine ss_cons (sk_set 2 nd (ek_call D_frozen (hr.mono (by decide)) (ak_cons (ek_var 1) ak_nil) ⟨_, _, frz_row b _ hJ.1, rfl, rfl⟩)) ?_
  refine ss_cons (sk_for PassesOwn.never rfl (ik_tup (ek_var 2)) (fun i => [.k (kSt K Cs n ss), .k (dt K (sqD b (rowD (ss.map (·.1)) J))), .k (kT K (rowD (ss.map (·.1)) J)), .un]) (.keep (.keep (.keep (.keep .nil)))) (fun i d hd => ⟨_, gk_name 3 nd, ?_⟩)) (ss_one (sk_ret (ek_var 2)))
  obtain ⟨j, hj, rfl⟩ := row_get hd
  obtain ⟨q, hq, _⟩ := get_at (hJ.2 j (List.mem_of_getElem? hj))
  rw [name_at hq]
  exact ss_F (tk_isN (ek_meth D_place (hr.mono (by decide)) Z.cS (ek_var 0) (isI_kO rfl) (ak_cons (ek_var 3) ak_nil) (place_S hw hq))) rfl (ss_weakO ss_nil (.keep (.keep (.keep (.drop .nil)))))

/-! ### row_stamps, ink_pressed -/
theorem place_I {w : Nat} {st : Wld} {j : Nat} {q : List Nat × List Itm} (hw : Wd w st) (hq : st[j]? = some q) : R_place Ci K [kInk K Ci w st, kS K (ofL q.1)] (kI K j) :=
  ⟨_, _, _, rfl, rfl, by rw [look_some 0 hw.nd (map_at hq), Nat.zero_add]; rfl⟩
def R_row_stamps (Ci : Addr) (K : PySem.W.Frag) (κs : List Kd) (κ : Kd) : Prop := ∃ (w : Nat) (st : Wld) (b : Bool) (J : List Nat), Wd w st ∧ Jok st.length J ∧ κs = [kInk K Ci w st, dt K (sqD b (rowD (st.map (·.1)) J))] ∧ κ = kT K (J.map fun j => .tuple ((itAt st j).map (itD true)))
theorem sc_row_stamps : FnScope ["inks", "row", "found", "name", "number"] ["inks", "row"] (defScope (top 35)) := ⟨rfl, rfl, rfl, by decide +kernel, rfl, by decide +kernel, by decide +kernel⟩
theorem ok_row_stamps (F : FnG K "row_stamps" (top 35) f fd) (T : Tx K mg) (Z : Cc K mg Ci Cs) (D_place : DfM P w K mg base 1 Ci "place" ["self", "name"] (R_place Ci K)) : FnOk P w K mg base CX0 2 f fd ["inks", "row"] (spF (R_row_stamps Ci K)) := by
  refine def_ok F sc_row_stamps (fun κs κ ⟨_, _, _, _, _, _, e, _⟩ => by rw [e]; rfl) fun cdv A outer s H E κs κ hr h => ?_
  obtain ⟨n, st, b, J, hw, hJ, rfl, rfl⟩ := h
  have nd := sc_row_stamps.nd
  refine ss_cons (sk_new 2 nd (by show 2 < 5; decide)) ?_
  refine ss_cons (sk_for PassesOwn.never rfl (ik_seq (ek_var 1)) (fun i => [.k (kInk K Ci n st), .k (dt K (sqD b (rowD (st.map (·.1)) J))), .own (oL K ((J.map fun j => PyData.tuple ((itAt st j).map (itD true))).take i)), .un, .un]) (.refl _) (fun i d hd => ⟨_, gk_name 3 nd, ?_⟩)) ?_
  · obtain ⟨j, hj, rfl⟩ := row_get hd
    obtain ⟨q, hq, eq⟩ := get_it (hJ.2 j (List.mem_of_getElem? hj))
    rw [name_at hq]
    refine ss_cons (sk_set 4 nd (ek_meth D_place (hr.mono (by decide)) Z.cI (ek_var 0) (isI_kO rfl) (ak_cons (ek_var 3) ak_nil) (place_I hw hq))) ?_
    refine ss_F (tk_isN (ek_var 4)) rfl ?_
    show SsK _ _ _ (.nx [_, _, .own (oL K ((J.map fun j => PyData.tuple ((itAt st j).map (itD true))).take (i + 1))), .un, .un])
    rw [take_get (map_at hj), eq]
    refine ss_one (sk_weakO (sk_app 2 rfl (ek_ixT (d := .tuple (q.2.map (itD true))) (ek_ixT (d := .tuple [.str (ofL q.1), .tuple (q.2.map (itD true))]) (ek_fld (κ := kT K (pairsI st)) (ek_var 0) Z.cI Z.i2 rfl) (ek_var 4) (at_nat (by unfold pairsI; exact map_at hq))) ek_int (at_nat (n := 1) rfl)) ?_) (.keep (.keep (.keep (.drop (.drop .nil))))))
    rw [List.length_take, List.length_map]
    have := hJ.1
    omega
  · rw [row_len, show J.length = (J.map fun j => PyData.tuple ((itAt st j).map (itD true))).length by rw [List.length_map], List.take_length]
    refine ss_freeze 2 rfl ?_
    exact ss_one (sk_ret (ek_tuple1 T.tuple (ek_var 2) rfl))
def R_ink_pressed (Ci : Addr) (K : PySem.W.Frag) (κs : List Kd) (κ : Kd) : Prop := ∃ (w : Nat) (st : Wld) (p : List Nat) (b : Bool) (J : List Nat), Wd w st ∧ p.length = w ∧ d8 p ∧ Jok st.length J ∧ κs = [kInk K Ci w st, kS K (digT p), dt K (sqD b (rowD (st.map (·.1)) J))] ∧ κ = kS K (digT (runP st p J))
theorem sc_ink_pressed : FnScope ["inks", "sheet", "row", "now", "stamp"] ["inks", "sheet", "row"] (defScope (top 36)) := ⟨rfl, rfl, rfl, by decide +kernel, rfl, by decide +kernel, by decide +kernel⟩
theorem jok_take {n : Nat} {J : List Nat} (h : Jok n J) (i : Nat) : Jok n (J.take i) := ⟨by rw [List.length_take]; have := h.1; omega, fun j hj => h.2 j (List.mem_of_mem_take hj)⟩
theorem runP_snoc (st : Wld) (p J : List Nat) (j : Nat) : runP st p (J ++ [j]) = List.zipWith aft (runP st p J) (itAt st j) := by unfold runP; rw [List.foldl_append]; rfl
theorem runV_snoc (ss : Pls) (v J : List Nat) (j : Nat) : runV ss v (J ++ [j]) = pressV (runV ss v J) (layAt ss j) := by unfold runV; rw [List.foldl_append]; rfl
theorem ok_ink_pressed (F : FnG K "ink_pressed" (top 36) f fd) (D_row_stamps : Df P w K mg base 2 "row_stamps" ["inks", "row"] (R_row_stamps Ci K)) (D_ink_press : Df P w K mg base 2 "ink_press" ["sheet", "stamp"] (R_ink_press K)) : FnOk P w K mg base CX0 3 f fd ["inks", "sheet", "row"] (spF (R_ink_pressed Ci K)) := by
  refine def_ok F sc_ink_pressed (fun κs κ ⟨_, _, _, _, _, _, _, _, _, e, _⟩ => by rw [e]; rfl) fun cdv A outer s H E κs κ hr h => ?_
  obtain ⟨n, st, p, b, J, hw, hp, h8, hJ, rfl, rfl⟩ := h
  have nd := sc_ink_pressed.nd
  refine ss_cons (sk_set 3 nd (ek_var 1)) ?_
  refine ss_cons (sk_for PassesOwn.never rfl (ik_tup (ek_call D_row_stamps (hr.mono (by decide)) (ak_cons (ek_var 0) (ak_cons (ek_var 2) ak_nil)) ⟨n, st, b, J, hw, hJ, rfl, rfl⟩)) (fun i => [.k (kInk K Ci n st), .k (kS K (digT p)), .k (dt K (sqD b (rowD (st.map (·.1)) J))), .k (kS K (digT (runP st p (J.take i)))), .un]) (.refl _) (fun i d hd => ⟨_, gk_name 4 nd, ?_⟩)) ?_
  · obtain ⟨j, hj, rfl⟩ := map_get hd
    obtain ⟨q, hq, eq⟩ := get_it (hJ.2 j (List.mem_of_getElem? hj))
    have hm := List.mem_of_getElem? hq
    obtain ⟨r1, r2⟩ := runP_ok hw (jok_take hJ i) hp h8
    rw [take_get hj, runP_snoc, eq]
    exact ss_one (sk_weakO (sk_set 3 nd (ek_call D_ink_press (hr.mono (by decide)) (ak_cons (ek_var 3) (ak_cons (ek_var 4) ak_nil)) ⟨_, q.2, by rw [r1, hw.ln q hm], by rw [r1]; have := hw.w10; omega, r2, hw.it q hm, rfl, rfl⟩)) (.keep (.keep (.keep (.keep (.drop .nil))))))
  · refine ss_one (sk_ret (EK.to (ek_var 3) ?_))
    rw [List.length_map, List.take_length]

/-! ### row_layers, press_all, net_of, pressed, net_stamp -/
def R_row_layers (Cs : Addr) (K : PySem.W.Frag) (κs : List Kd) (κ : Kd) : Prop := ∃ (w : Nat) (ss : Pls) (b : Bool) (J : List Nat), Pd w ss ∧ Jok ss.length J ∧ κs = [kSt K Cs w ss, dt K (sqD b (rowD (ss.map (·.1)) J))] ∧ κ = kT K (J.map fun j => .str (layT (layAt ss j)))
theorem sc_row_layers : FnScope ["stock", "row", "name"] ["stock", "row"] (defScope (top 48)) := ⟨rfl, rfl, rfl, by decide +kernel, rfl, by decide +kernel, by decide +kernel⟩
theorem ok_row_layers (F : FnG K "row_layers" (top 48) f fd) (T : Tx K mg) (Z : Cc K mg Ci Cs) (D_known : Df P w K mg base 3 "known_names" ["stock", "names"] (R_known Cs K)) (D_stamp : DfM P w K mg base 2 Cs "stamp" ["self", "name"] (R_stamp Cs K)) : FnOk P w K mg base CX0 4 f fd ["stock", "row"] (spF (R_row_layers Cs K)) := by
  refine def_ok F sc_row_layers (fun κs κ ⟨_, _, _, _, _, _, e, _⟩ => by rw [e]; rfl) fun cdv A outer s H E κs κ hr h => ?_
  obtain ⟨n, ss, b, J, hw, hJ, rfl, rfl⟩ := h
  have nd := sc_row_layers.nd
  refine ss_one (sk_ret (ek_tuple1 (d := .list (J.map fun j => .str (layT (layAt ss j)))) T.tuple (ek_lc _ rfl nd (ik_tup (ek_call D_known (hr.mono (by decide)) (ak_cons (ek_var 0) (ak_cons (ek_var 1) ak_nil)) ⟨n, ss, b, J, hw, hJ, rfl, rfl⟩)) (blkOk_by (N := ["stock", "row", "name"]) (sc := defScope (top 48)) (own := [("name", 2)]) (by decide +kernel)) (fun i => [.k (kSt K Cs n ss), .k (dt K (sqD b (rowD (ss.map (·.1)) J))), .k (dt K ((rowD (ss.map (·.1)) J).getD i .none))]) ?hl ?hz (fun i d hd s H C cl fp => ?bg) (fun i d e hd he s H C cl fp => ?el)) rfl))
  case hl => rw [row_len, List.length_map]
  case hz => rw [row_len]; have := hJ.1; omega
  case bg => rw [getD_of hd]; exact bg_name 2 (by decide) nd
  case el =>
    rw [getD_of hd]
    obtain ⟨j, hj, rfl⟩ := row_get hd
    rw [map_at hj] at he
    cases he
    obtain ⟨q, hq, eq⟩ := get_at (hJ.2 j (List.mem_of_getElem? hj))
    rw [name_at hq, eq]
    exact ek_meth D_stamp (hr.mono (by decide)) Z.cS (ek_var 0) (isI_kO rfl) (ak_cons (ek_var 2) ak_nil) ⟨n, ss, j, q, hw, hq, rfl, rfl⟩
def R_press_all (K : PySem.W.Frag) (κs : List Kd) (κ : Kd) : Prop := ∃ (w : Nat) (ss : Pls) (v J : List Nat), Pd w ss ∧ Jok ss.length J ∧ v.length = 3 * w ∧ l3 v ∧ κs = [kS K (layT v), kT K (J.map fun j => .str (layT (layAt ss j)))] ∧ κ = kS K (layT (runV ss v J))
theorem sc_press_all : FnScope ["layer", "layers", "now", "above"] ["layer", "layers"] (defScope (top 49)) := ⟨rfl, rfl, rfl, by decide +kernel, rfl, by decide +kernel, by decide +kernel⟩
theorem ok_press_all (F : FnG K "press_all" (top 49) f fd) (D_press : Df P w K mg base 1 "press" ["one", "two"] (R_press K)) : FnOk P w K mg base CX0 2 f fd ["layer", "layers"] (spF (R_press_all K)) := by
  refine def_ok F sc_press_all (fun κs κ ⟨_, _, _, _, _, _, _, _, e, _⟩ => by rw [e]; rfl) fun cdv A outer s H E κs κ hr h => ?_
  obtain ⟨n, ss, v, J, hw, hJ, hv, h3, rfl, rfl⟩ := h
  have nd := sc_press_all.nd
  refine ss_cons (sk_set 2 nd (ek_var 0)) ?_
  refine ss_cons (sk_for PassesOwn.never rfl (ik_tup (ek_var 1)) (fun i => [.k (kS K (layT v)), .k (kT K (J.map fun j => .str (layT (layAt ss j)))), .k (kS K (layT (runV ss v (J.take i)))), .un]) (.refl _) (fun i d hd => ⟨_, gk_name 3 nd, ?_⟩)) ?_
  · obtain ⟨j, hj, rfl⟩ := map_get hd
    obtain ⟨q, hq, eq⟩ := get_at (hJ.2 j (List.mem_of_getElem? hj))
    have hm := List.mem_of_getElem? hq
    obtain ⟨r1, r2⟩ := runV_ok hw (jok_take hJ i) hv h3
    have hl := hw.ln q hm
    have := hw.w10
    have hq3 : l3 q.2 := hw.v3 q hm
    rw [take_get hj, runV_snoc, eq]
    refine ss_one (sk_weakO (sk_set 2 nd (EK.to (d' := .str (layT (pressV (runV ss v (J.take i)) q.2))) (ek_call D_press (hr.mono (by decide)) (ak_cons (ek_var 2) (ak_cons (ek_var 3) ak_nil)) ⟨(runV ss v (J.take i)).map sc, q.2.map sc, by rw [List.length_map, List.length_map]; omega, by rw [List.length_map]; omega, by rw [← eq]; rfl, rfl⟩) ?_)) (.keep (.keep (.keep (.drop .nil)))))
    rw [press_map hq3]
    rfl
  · refine ss_one (sk_ret (EK.to (ek_var 2) ?_))
    rw [List.length_map, List.take_length]
def R_net_of (K : PySem.W.Frag) (κs : List Kd) (κ : Kd) : Prop := ∃ (w : Nat) (ss : Pls) (J : List Nat), Pd w ss ∧ Jok ss.length J ∧ κs = [kI K (3 * w : Nat), kT K (J.map fun j => .str (layT (layAt ss j)))] ∧ κ = kS K (layT (netV w ss J))
theorem sc_net_of : FnScope ["size", "layers"] ["size", "layers"] (defScope (top 50)) := ⟨rfl, rfl, rfl, by decide +kernel, rfl, by decide +kernel, by decide +kernel⟩
theorem lay_empty (n : Nat) : ofL (List.replicate n 45) = layT (List.replicate n 2) := by unfold layT; rw [List.map_replicate]; rfl
theorem l3_rep (n : Nat) : l3 (List.replicate n 2) := fun x hx => by rw [(List.mem_replicate.mp hx).2]; decide
theorem ok_net_of (F : FnG K "net_of" (top 50) f fd) (D_press_all : Df P w K mg base 2 "press_all" ["layer", "layers"] (R_press_all K)) (D_empty : Df P w K mg base 1 "empty_layer" ["size"] (R_empty_layer K)) : FnOk P w K mg base CX0 3 f fd ["size", "layers"] (spF (R_net_of K)) := by
  refine def_ok F sc_net_of (fun κs κ ⟨_, _, _, _, _, e, _⟩ => by rw [e]; rfl) fun cdv A outer s H E κs κ hr h => ?_
  obtain ⟨n, ss, J, hw, hJ, rfl, rfl⟩ := h
  have := hw.w10
  exact ss_one (sk_ret (ek_call D_press_all (hr.mono (by decide)) (ak_cons (ek_call D_empty (hr.mono (by decide)) (ak_cons (ek_var 0) ak_nil) ⟨3 * n, by omega, rfl, rfl⟩) (ak_cons (ek_var 1) ak_nil)) ⟨n, ss, _, J, hw, hJ, List.length_replicate, l3_rep _, by rw [lay_empty], rfl⟩))
def R_pressed (Cs : Addr) (K : PySem.W.Frag) (κs : List Kd) (κ : Kd) : Prop := ∃ (w : Nat) (ss : Pls) (v : List Nat) (b : Bool) (J : List Nat), Pd w ss ∧ Jok ss.length J ∧ v.length = 3 * w ∧ l3 v ∧ κs = [kSt K Cs w ss, kS K (layT v), dt K (sqD b (rowD (ss.map (·.1)) J))] ∧ κ = kS K (layT (runV ss v J))
theorem sc_pressed : FnScope ["stock", "layer", "row"] ["stock", "layer", "row"] (defScope (top 51)) := ⟨rfl, rfl, rfl, by decide +kernel, rfl, by decide +kernel, by decide +kernel⟩
theorem ok_pressed (F : FnG K "pressed" (top 51) f fd) (D_press_all : Df P w K mg base 2 "press_all" ["layer", "layers"] (R_press_all K)) (D_row_layers : Df P w K mg base 4 "row_layers" ["stock", "row"] (R_row_layers Cs K)) : FnOk P w K mg base CX0 5 f fd ["stock", "layer", "row"] (spF (R_pressed Cs K)) := by
  refine def_ok F sc_pressed (fun κs κ ⟨_, _, _, _, _, _, _, _, _, e, _⟩ => by rw [e]; rfl) fun cdv A outer s H E κs κ hr h => ?_
  obtain ⟨n, ss, v, b, J, hw, hJ, hv, h3, rfl, rfl⟩ := h
  exact ss_one (sk_ret (ek_call D_press_all (hr.mono (by decide)) (ak_cons (ek_var 1) (ak_cons (ek_call D_row_layers (hr.mono (by decide)) (ak_cons (ek_var 0) (ak_cons (ek_var 2) ak_nil)) ⟨n, ss, b, J, hw, hJ, rfl, rfl⟩) ak_nil)) ⟨n, ss, v, J, hw, hJ, hv, h3, rfl, rfl⟩))
def R_net_stamp (Cs : Addr) (K : PySem.W.Frag) (κs : List Kd) (κ : Kd) : Prop := ∃ (w : Nat) (ss : Pls) (b : Bool) (J : List Nat), Pd w ss ∧ Jok ss.length J ∧ κs = [kSt K Cs w ss, dt K (sqD b (rowD (ss.map (·.1)) J))] ∧ κ = kS K (layT (netV w ss J))
theorem sc_net_stamp : FnScope ["stock", "row"] ["stock", "row"] (defScope (top 52)) := ⟨rfl, rfl, rfl, by decide +kernel, rfl, by decide +kernel, by decide +kernel⟩
theorem ok_net_stamp (F : FnG K "net_stamp" (top 52) f fd) (Z : Cc K mg Ci Cs) (D_net_of : Df P w K mg base 3 "net_of" ["size", "layers"] (R_net_of K)) (D_row_layers : Df P w K mg base 4 "row_layers" ["stock", "row"] (R_row_layers Cs K)) : FnOk P w K mg base CX0 5 f fd ["stock", "row"] (spF (R_net_stamp Cs K)) := by
  refine def_ok F sc_net_stamp (fun κs κ ⟨_, _, _, _, _, _, e, _⟩ => by rw [e]; rfl) fun cdv A outer s H E κs κ hr h => ?_
  obtain ⟨n, ss, b, J, hw, hJ, rfl, rfl⟩ := h
  exact ss_one (sk_ret (ek_call D_net_of (hr.mono (by decide)) (ak_cons (ek_fld (κ := kI K (3 * n : Nat)) (ek_var 0) Z.cS Z.s1 rfl) (ak_cons (ek_call D_row_layers (hr.mono (by decide)) (ak_cons (ek_var 0) (ak_cons (ek_var 1) ak_nil)) ⟨n, ss, b, J, hw, hJ, rfl, rfl⟩) ak_nil)) ⟨n, ss, J, hw, hJ, rfl, rfl⟩))
end
end K71
end
section
namespace K71
open PySem PySem.Spec PyProof.Rows L2 KD
section
variable {P : Program} {w : World} {K : PySem.W.Frag} {mg : Str → Option Value} {base : Heap} {f : Addr} {fd : FuncData} {Ci Cs : Addr}

/-! ### plain_stock -/
def R_plain_stock (Ci Cs : Addr) (K : PySem.W.Frag) (κs : List Kd) (κ : Kd) : Prop := ∃ (w : Nat) (st : Wld), Wd w st ∧ κs = [kInk K Ci w st] ∧ κ = kSt K Cs w (plainS st)
theorem sc_plain_stock : FnScope ["inks", "name", "stamp"] ["inks"] (defScope (top 46)) := ⟨rfl, rfl, rfl, by decide +kernel, rfl, by decide +kernel, by decide +kernel⟩
theorem frz_pairs (ss : Pls) (h : ss.length ≤ 1000) (b : Bool) : Frz 2 (sqD b (pairsS ss)) (.tuple (pairsS ss)) := by
  refine .inr ⟨pairsS ss, pairsS ss, by cases b; exact .inl rfl; exact .inr rfl, rfl, rfl, by unfold pairsS; rw [List.length_map]; omega, fun i x y hx hy => ?_⟩
  rw [hx] at hy
  cases hy
  unfold pairsS at hx
  obtain ⟨q, _, rfl⟩ := map_get hx
  refine .inr ⟨_, _, .inr rfl, rfl, rfl, by show 2 ≤ 1000; decide, fun i x y hx hy => ?_⟩
  rw [hx] at hy
  cases hy
  match i, hx with
  | 0, hx => cases hx; exact ⟨rfl, rfl⟩
  | 1, hx => cases hx; exact ⟨rfl, rfl⟩
  | i + 2, hx => simp at hx
theorem ok_plain_stock (F : FnG K "plain_stock" (top 46) f fd) (Z : Cc K mg Ci Cs) (D_mkS : DfI P w K mg base 4 Cs "Stock" ["self", "size", "stamps"] (R_mkS Cs K)) (D_plain_stamp : Df P w K mg base 4 "plain_stamp" ["stamp"] (R_plain_stamp K)) : FnOk P w K mg base CX0 6 f fd ["inks"] (spF (R_plain_stock Ci Cs K)) := by
  refine def_ok F sc_plain_stock (fun κs κ ⟨_, _, _, e, _⟩ => by rw [e]; rfl) fun cdv A outer s H E κs κ hr h => ?_
  obtain ⟨n, st, hw, rfl, rfl⟩ := h
  have nd := sc_plain_stock.nd
  have hpd := pd_plain hw
  have h10 := hw.n10
  have w10 := hw.w10
  have lp : (pairsS (plainS st)).length = st.length := by unfold pairsS plainS; rw [List.length_map, List.length_map]
  refine ss_one (sk_ret (ek_make D_mkS (hr.mono (by decide)) (ak_cons (EK.to (d' := .int (3 * n : Nat)) (ek_mul (ek_fld (κ := kI K n) (ek_var 0) Z.cI Z.i1 rfl) ek_int (.inr (by decide))) (by congr 1; omega)) (ak_cons (ek_lc (pairsS (plainS st)) rfl nd (ik_tup (ek_fld (κ := kT K (pairsI st)) (ek_var 0) Z.cI Z.i2 rfl)) (blkOk_by (N := ["inks", "name", "stamp"]) (sc := defScope (top 46)) (own := [("name", 1), ("stamp", 2)]) (by decide +kernel)) (fun i => [.k (kInk K Ci n st), .k (kS K (ofL ((st.getD i ([], [])).1))), .k (kT K ((itAt st i).map (itD true)))]) ?hl ?hz (fun i d hd s H C cl fp => ?bg) (fun i d e hd he s H C cl fp => ?el)) ak_nil)) ⟨n, plainS st, _, hpd, frz_pairs _ (by unfold plainS; rw [List.length_map]; omega) false, rfl, rfl⟩))
  case hl => rw [lp]; unfold pairsI; rw [List.length_map]
  case hz => unfold pairsI; rw [List.length_map]; omega
  case bg =>
    unfold pairsI at hd
    obtain ⟨q, hq, rfl⟩ := map_get hd
    unfold itAt
    rw [getD_of hq]
    exact bg_tup2 1 2 (by decide) (by decide) nd rfl
  case el =>
    unfold pairsI at hd
    obtain ⟨q, hq, rfl⟩ := map_get hd
    unfold pairsS plainS at he
    rw [map_at (map_at hq)] at he
    cases he
    unfold itAt
    rw [getD_of hq]
    have hm := List.mem_of_getElem? hq
    exact ek_tup (ds := [.str (ofL q.1), .str (layT (effs q.2))]) (ak_cons (ek_var 1) (ak_cons (ek_call D_plain_stamp (hr.mono (by decide)) (ak_cons (ek_var 2) ak_nil) ⟨true, true, q.2, hw.it q hm, by rw [hw.ln q hm]; omega, rfl, rfl⟩) ak_nil))

/-! ### ink_net -/
def R_ink_net (Ci : Addr) (K : PySem.W.Frag) (κs : List Kd) (κ : Kd) : Prop := ∃ (w : Nat) (st : Wld) (b : Bool) (J : List Nat), Wd w st ∧ Jok st.length J ∧ κs = [kInk K Ci w st, dt K (sqD b (rowD (st.map (·.1)) J))] ∧ κ = kT K ((pairsN w (netV w (plainS st) J)).map k71D)
theorem sc_ink_net : FnScope ["inks", "row", "net", "parts", "cell", "signs"] ["inks", "row"] (defScope (top 54)) := ⟨rfl, rfl, rfl, by decide +kernel, rfl, by decide +kernel, by decide +kernel⟩
theorem cut_cell {l : List Nat} {i : Nat} : cutS (ofL l) (some ((3 * i : Nat) : Int)) (some (((3 * i : Nat) : Int) + 3)) = ofL (cell l i) := by
  rw [cut_mid (by omega) (by omega)]
  unfold cell
  rw [show (((3 * i : Nat) : Int)).toNat = 3 * i by omega, show (((3 * i : Nat) : Int) + 3).toNat - 3 * i = 3 by omega]
theorem plainS_len (st : Wld) : (plainS st).length = st.length := by unfold plainS; rw [List.length_map]
theorem ok_ink_net (F : FnG K "ink_net" (top 54) f fd) (T : Tx K mg) (D_plain_stock : Df P w K mg base 6 "plain_stock" ["inks"] (R_plain_stock Ci Cs K)) (D_net_stamp : Df P w K mg base 5 "net_stamp" ["stock", "row"] (R_net_stamp Cs K)) (D_colours_with : Df P w K mg base 1 "colours_with" ["signs", "sign"] (R_colours_with K)) : FnOk P w K mg base CX0 7 f fd ["inks", "row"] (spF (R_ink_net Ci K)) := by
  refine def_ok F sc_ink_net (fun κs κ ⟨_, _, _, _, _, _, e, _⟩ => by rw [e]; rfl) fun cdv A outer s H E κs κ hr h => ?_
  obtain ⟨n, st, b, J, hw, hJ, rfl, rfl⟩ := h
  have nd := sc_ink_net.nd
  have hpd := pd_plain hw
  have w10 := hw.w10
  have hJ' : Jok (plainS st).length J := by rw [plainS_len]; exact hJ
  refine ss_cons (sk_set 2 nd (ek_call D_net_stamp (hr.mono (by decide)) (ak_cons (ek_call D_plain_stock (hr.mono (by decide)) (ak_cons (ek_var 0) ak_nil) ⟨n, st, hw, rfl, rfl⟩) (ak_cons (ek_var 1) ak_nil)) ⟨n, plainS st, b, J, hpd, hJ', by rw [plainS_names], rfl⟩)) ?_
  obtain ⟨r1, r2⟩ := runV_ok hpd hJ' (v := List.replicate (3 * n) 2) List.length_replicate (l3_rep _)
  have hv : (netV n (plainS st) J).length = 3 * n := r1
  generalize netV n (plainS st) J = v at hv
  have hT : (layT v).length = 3 * n := by rw [layT_len, hv]
  have hm3 : (v.map sc).length = 3 * n := by rw [List.length_map, hv]
  refine ss_cons (sk_setLc 3 ((List.range n).map fun i => .str (ofL (cell (v.map sc) i))) rfl nd (ik_range3 T.range ek_int (ek_len (n := 3 * n) T.len (ek_var 2) (by exact congrArg some hT) (by omega)) ek_int (n := n) ⟨by decide, by decide, (fin_rg (3 * n) (by omega) (by omega)).1, by rw [(fin_rg (3 * n) (by omega) (by omega)).2]; congr 1; omega⟩) (blkOk_by (N := ["inks", "row", "net", "parts", "cell", "signs"]) (sc := defScope (top 54)) (own := [("cell", 4)]) (by decide +kernel)) (fun i => [.k (kInk K Ci n st), .k (dt K (sqD b (rowD (st.map (·.1)) J))), .k (kS K (layT v)), .un, .k (kI K ((3 * i : Nat) : Int)), .un]) ?hl ?hz (fun i d hd s H C cl fp => ?bg) (fun i d e hd he s H C cl fp => ?el) (sw_true rfl rfl rfl (by decide +kernel))) ?_
  case hl => rw [rangeD_len, List.length_map, List.length_range]
  case hz => rw [rangeD_len]; omega
  case bg =>
    have hi := lt_get hd
    rw [rangeD_len] at hi
    rw [rangeD_get hi] at hd
    cases hd
    rw [show ((0 : Int) + (i : Int) * 3) = ((3 * i : Nat) : Int) by omega]
    exact bg_name 4 (by decide) nd
  case el =>
    have hi := lt_get hd
    rw [rangeD_len] at hi
    rw [map_at (range_at hi)] at he
    cases he
    exact EK.to (ek_slS (ek_var 2) (ok_some (ek_var 4)) (ok_some (ek_add (ek_var 4) ek_int)) (by rw [ofL_len, hm3]; omega)) (congrArg PyData.str cut_cell)
  refine ss_one (sk_ret (ek_tuple1 (d := .list ((pairsN n v).map k71D)) T.tuple (ek_lc _ rfl nd (ik_list (ek_var 3)) (blkOk_by (N := ["inks", "row", "net", "parts", "cell", "signs"]) (sc := defScope (top 54)) (own := [("signs", 5)]) (by decide +kernel)) (fun i => [.k (kInk K Ci n st), .k (dt K (sqD b (rowD (st.map (·.1)) J))), .k (kS K (layT v)), .k (kL K ((List.range n).map fun i => .str (ofL (cell (v.map sc) i)))), .un, .k (kS K (ofL (cell (v.map sc) i)))]) ?hl2 ?hz2 (fun i d hd s H C cl fp => ?bg2) (fun i d e hd he s H C cl fp => ?el2)) rfl))
  case hl2 => unfold pairsN; rw [List.length_map, List.length_map, List.length_map]
  case hz2 => rw [List.length_map, List.length_range]; omega
  case bg2 =>
    have hi := lt_get hd
    rw [List.length_map, List.length_range] at hi
    rw [map_at (range_at hi)] at hd
    cases hd
    exact bg_name 5 (by decide) nd
  case el2 =>
    have hi := lt_get hd
    rw [List.length_map, List.length_range] at hi
    unfold pairsN at he
    rw [map_at (map_at (range_at hi))] at he
    cases he
    have hc : (cell (v.map sc) i).length = 3 := cell_len (by omega)
    exact ek_tup (ds := [.int (cw (cell (v.map sc) i) 97), .int (cw (cell (v.map sc) i) 46)]) (ak_cons (ek_call D_colours_with (hr.mono (by decide)) (ak_cons (ek_var 5) (ak_cons ek_str ak_nil)) ⟨_, 97, hc, rfl, rfl⟩) (ak_cons (ek_call D_colours_with (hr.mono (by decide)) (ak_cons (ek_var 5) (ak_cons ek_str ak_nil)) ⟨_, 46, hc, rfl, rfl⟩) ak_nil))
end
end K71
end
section
namespace K71
open PySem PySem.Spec PyProof.Rows L2 KD
/-! ### numbers -/
def numD (ds : List Nat) : List PyData := ds.map fun d : Nat => .int d
theorem num_len (ds : List Nat) : (numD ds).length = ds.length := by unfold numD; rw [List.length_map]
theorem num_at {ds : List Nat} {i d : Nat} (h : ds[i]? = some d) : (numD ds)[i]? = some (.int d) := by unfold numD; exact map_at h
theorem num_get {ds : List Nat} {i : Nat} {x : PyData} (h : (numD ds)[i]? = some x) : ∃ d, ds[i]? = some d ∧ x = .int (d : Nat) := by unfold numD at h; exact map_get h
theorem num_app (ds : List Nat) (d : Nat) : numD ds ++ [.int d] = numD (ds ++ [d]) := by unfold numD; rw [List.map_append]; rfl
theorem num_rep (n m : Nat) : (List.replicate n [PyData.int m]).flatten = numD (List.replicate n m) := by
  unfold numD
  induction n with
  | zero => rfl
  | succ n ih => rw [List.replicate_succ, List.flatten_cons, ih]; rfl
/-- digits below bounds -/
def Dg (ms ds : List Nat) : Prop := ds.length = ms.length ∧ ∀ (i d m : Nat), ds[i]? = some d → ms[i]? = some m → d < m
theorem Dg.nil : Dg [] [] := ⟨rfl, fun i d m h => by simp at h⟩
theorem Dg.snoc {ms ds : List Nat} {m d : Nat} (h : Dg ms ds) (hd : d < m) : Dg (ms ++ [m]) (ds ++ [d]) := by
  refine ⟨by rw [List.length_append, List.length_append, h.1]; rfl, fun i x y hx hy => ?_⟩
  by_cases c : i < ds.length
  · rw [List.getElem?_append_left c] at hx
    rw [List.getElem?_append_left (by rw [← h.1]; exact c)] at hy
    exact h.2 i x y hx hy
  · rw [List.getElem?_append_right (by omega)] at hx
    rw [List.getElem?_append_right (by rw [← h.1]; omega), ← h.1] at hy
    cases e : i - ds.length with
    | zero => rw [e] at hx hy; cases hx; cases hy; exact hd
    | succ k => rw [e] at hx; simp at hx
theorem Dg.at_ {ms ds : List Nat} (h : Dg ms ds) {i m : Nat} (hm : ms[i]? = some m) : ∃ d, ds[i]? = some d ∧ d < m := by
  have hi := lt_get hm
  obtain ⟨d, hd⟩ := get_lt (l := ds) (i := i) (by rw [h.1]; exact hi)
  exact ⟨d, hd, h.2 i d m hd hm⟩
theorem rep_at {n m i : Nat} (h : i < n) : (List.replicate n m)[i]? = some m := by rw [List.getElem?_replicate, if_pos h]
theorem Dg.rep {n m : Nat} {ds : List Nat} (h : Dg (List.replicate n m) ds) : ds.length = n ∧ ∀ d ∈ ds, d < m := by
  refine ⟨by rw [h.1, List.length_replicate], fun d hd => ?_⟩
  obtain ⟨i, hi⟩ := List.mem_iff_getElem?.mp hd
  have := lt_get hi
  rw [h.1, List.length_replicate] at this
  exact h.2 i d m hi (rep_at this)
theorem mod_dig (z : Int) {m : Nat} (h : 0 < m) : ∃ d : Nat, d < m ∧ z % (m : Int) = d := by
  have h1 := Int.emod_nonneg z (show (m : Int) ≠ 0 by omega)
  have h2 := Int.emod_lt_of_pos z (show (0 : Int) < m by omega)
  exact ⟨(z % (m : Int)).toNat, by omega, by omega⟩
def kNum (K : PySem.W.Frag) (ds : List Nat) : Kd := kL K (numD ds)
/-! the menus -/
def menu1 : List (List Nat) := [[120], [98, 101, 116, 97], [121, 50], [109, 115], [113], [99, 111, 112, 121, 49, 48], [122], [97, 108, 112, 104, 97, 49], [108, 111, 110, 103, 110, 97, 109, 101], [98, 57]]
def menu2 : List (List Nat) := [[97, 97, 97, 97, 97, 97, 97, 97], [97, 97, 97, 97, 98, 97, 97, 97], [97, 97, 97, 97, 97, 97, 97, 98], [97, 97, 97, 97, 97, 97, 97], [98, 97, 97, 97, 97, 97, 97, 97], [97, 97, 97, 97, 97, 97, 97, 49], [97], [97, 97], [97, 49, 97, 97, 97, 97, 97, 97], [97, 97, 97, 97, 97, 97, 97, 48]]
def nmL (d many : Nat) : List (List Nat) := (List.range many).map fun k => (if 10 ≤ d then menu2 else menu1).getD ((d + k) % 10) []
def sBe : List Nat := [98, 101]
def sZz : List Nat := [122, 122, 57]
def sNope : List Nat := [110, 111, 112, 101]
def sXx : List Nat := [120, 120]
def goodN (n : List Nat) : Bool := nameB n && (!decide (n = sBe) && (!decide (n = sZz) && (!decide (n = sNope) && !decide (n = sXx))))
def distB : List (List Nat) → Bool
  | [] => true
  | x :: r => (!r.contains x) && distB r
theorem distB_nd : ∀ {l : List (List Nat)}, distB l = true → l.Nodup
  | [], _ => List.nodup_nil
  | x :: r, h => by
    unfold distB at h
    rw [Bool.and_eq_true] at h
    refine List.nodup_cons.mpr ⟨fun z => ?_, distB_nd h.2⟩
    have := List.contains_iff_mem.mpr z
    rw [this] at h
    exact absurd h.1 (by decide)
theorem fin_names : ∀ d : Nat, d < 20 → ∀ many : Nat, many < 11 → (distB (nmL d many) && (nmL d many).all goodN) = true := by decide +kernel
theorem goodN_of {n : List Nat} (h : goodN n = true) : nameB n = true ∧ n ≠ sBe ∧ n ≠ sZz ∧ n ≠ sNope ∧ n ≠ sXx := by
  unfold goodN at h
  simp only [Bool.and_eq_true, Bool.not_eq_true', decide_eq_false_iff_not] at h
  exact h
/-! items -/
def menu8 : List Str := ["", "", "set", "add", "add", "bleach", "bleach", "set"]
theorem fin_deed : ∀ e : Nat, e < 8 → menu8[e]? = some "" ∨ ∃ dd ∈ [Dd.set, Dd.add, Dd.bl], menu8[e]? = some dd.s := by decide +kernel
def menu3 : List Str := ["set", "add", "bleach"]
theorem fin_deed3 : ∀ e : Nat, e < 3 → ∃ dd ∈ [Dd.set, Dd.add, Dd.bl], menu3[e]? = some dd.s := by decide +kernel
theorem dd_ne (dd : Dd) : decide (dd.s = ("" : Str)) = false := by cases dd <;> decide +kernel
def wldD (K : PySem.W.Frag) (q : Nat × Wld) : Kd := kL K [.int q.1, .list (q.2.map fun p => .str (ofL p.1)), .list (q.2.map fun p => .list (p.2.map (itD false)))]
/-- a world: right, and without four names -/
structure Wo (q : Nat × Wld) : Prop where
  wd : Wd q.1 q.2
  nn : ∀ p ∈ q.2, p.1 ≠ sBe ∧ p.1 ≠ sZz ∧ p.1 ≠ sNope ∧ p.1 ≠ sXx
end K71
end
section
namespace KD
open PySem PySem.Spec PyProof.Rows L2
/-! ### comprehensions over one of many, of ones of many -/
def rdIX {α : Type} (K : PySem.W.Frag) (ρ : List Sl) (P : α → Prop) (ks : α → List PyData) : TI := fun σ H R => ∃ S0 H0 S, En K S0 H0 S H σ ρ ∧ ∀ a, P a → ∀ S' H' J, Grow S H S' H' → ItOk K S' J (ks a) → R J H'
def IKX {α : Type} (X : Cx) (tg iter : Expr) (ρ : List Sl) (P : α → Prop) (ks : α → List PyData) : Prop := PI X tg iter (rdIX X.K ρ P ks)
section
variable {X : Cx} {e a b c : Expr} {ρ ρ1 ρ' : List Sl} {κ : Kd} {pos p apos : Pos} {ds es : List PyData} {d d' : PyData} {tg : Expr} {vs : List Nat} {α β : Type} {x : Str}
theorem ikx_list {P : α → Prop} {ks : α → List PyData} (h : EK X e ρ (xk P fun a => kL X.K (ks a))) : IKX X tg e ρ P ks := PI.imp (pi_list h) fun σ H R ⟨S0, H0, S, E, q⟩ => ek_run E fun v S1 H1 g E1 ⟨z, hz, hv⟩ => by
  obtain ⟨l, xs, rfl, h1, h2⟩ := dp_list hv
  have len := dpAll_len h2
  have at_ : ∀ S2 H2, Same S1 S2 → Same S2 H2 → SqL X.K H2 l xs := fun S2 H2 e2 e3 => .inl (same_rd (e2.trans e3) h1)
  refine ⟨l, rfl, ⟨xs, at_ S1 H1 (Same.refl _) E1.same⟩, q z hz S1 H1 _ g ⟨fun i S2 H2 e2 e3 hi => ⟨xs, xs[i]'(by omega), at_ S2 H2 e2 e3, List.getElem?_eq_getElem (by omega)⟩, fun S2 H2 e2 e3 => ⟨xs, at_ S2 H2 e2 e3, by omega⟩, fun i S2 H2 v H3 e2 e3 hi y => ?_⟩⟩
  obtain ⟨rfl, f⟩ := y
  obtain ⟨w, hw, hq⟩ := dpAll_get h2 (List.getElem?_eq_getElem hi)
  have ev := (f xs (at_ S2 H3 e2 e3)).symm.trans hw
  cases ev
  exact ⟨S2, _, Grow.refl e3, List.getElem?_eq_getElem hi, dp_mono e2 hq⟩
theorem ikx_of {iter : Expr} {ks : List PyData} (h : IK X tg iter ρ ks) : IKX X tg iter ρ (fun _ : Unit => True) fun _ => ks := PI.imp h fun σ H R ⟨S0, H0, S, E, q⟩ => ⟨S0, H0, S, E, fun S' H' J g j => q () trivial S' H' J g j⟩
/-- the turns so far gave these -/
def Gives (Pe : Nat → β → Prop) (bs : List β) : Prop := ∀ i b, bs[i]? = some b → Pe i b
theorem Gives.snoc {Pe : Nat → β → Prop} {bs : List β} {b : β} (h : Gives Pe bs) (hb : Pe bs.length b) : Gives Pe (bs ++ [b]) := fun i y hy => by
  by_cases c : i < bs.length
  · rw [List.getElem?_append_left c] at hy; exact h i y hy
  · rw [List.getElem?_append_right (by omega)] at hy
    cases e : i - bs.length with
    | zero =>
      rw [e] at hy
      cases hy
      rw [show i = bs.length by omega]
      exact hb
    | succ k => rw [e] at hy; simp at hy
theorem ek_lcX {scope : Scope} {elt iter : Expr} {own : List (Str × Nat)} {P : α → Prop} {ks : α → List PyData} {Pe : α → Nat → β → Prop} {g : β → PyData} (hc : X.calm = true) (hN : X.N.Nodup) (hi : IKX X tg iter ρ P ks) (ok : BlkOk X.N X.env.scope scope own) (g1 : α → Nat → List Sl)
    (hz : ∀ a, P a → (ks a).length ≤ 1000)
    (hg : ∀ a, P a → ∀ i d, (ks a)[i]? = some d → ∀ s H C cl fp, BG (Blk X scope s H C cl fp) tg (own.map (·.2)) (dt X.K d) (wipeS ρ (own.map (·.2))) (g1 a i))
    (he : ∀ a, P a → ∀ i d, (ks a)[i]? = some d → ∀ s H C cl fp, EK (Blk X scope s H C cl fp) elt (g1 a i) (xk (Pe a i) fun b => dt X.K (g b)))
    (hs : ∀ x, foldedSetIterable iter X.env x = pure x := by intro _; rfl) : EK X (.ListComp elt [⟨tg, iter, [], 0⟩] scope pos) ρ (xk (fun bs : List β => ∃ a, P a ∧ bs.length = (ks a).length ∧ Gives (Pe a) bs) fun bs => kL X.K (bs.map g)) :=
  EK.of (pe_lc (g := wG X scope tg) (tt := wT X scope []) (te := wE X scope elt) hc hN hi ok (fun s H C cl fp => ⟨fun pins s2 σ H v u Q I rv ⟨t, h, q⟩ => (h s _ C cl fp).run pins s2 σ H v u Q I rv q⟩) (fun s H C cl fp => ⟨fun pins s2 σ H Q I ⟨t, h, q⟩ => (h s _ C cl fp).run pins s2 σ H Q I q⟩) (fun s H C cl fp => ⟨fun pins s2 σ H Q I ⟨t, h, q⟩ => (h s _ C cl fp).run pins s2 σ H Q I q⟩) hs)
    fun S0 H0 S H σ Q E q => by
      refine ⟨S0, H0, S, E, fun a ha S1 H1 J gr0 J1 => fun D hD => ?_⟩
      have E1 := E.grow gr0
      have D0 : S1 D = none := same_none E1.same hD
      refine ⟨fun i n H' => i + n = (ks a).length ∧ ∃ S' acc bs, Grow S1 H1 S' H' ∧ S' D = none ∧ H' D = some (.lst acc) ∧ bs.length = i ∧ Gives (Pe a) bs ∧ DqAll X.K S' acc (bs.map g), ⟨(ks a).length, by omega, S1, [], [], Grow.drop E1.same _ hD, D0, upd_same, rfl, (fun i b h => by simp at h), .nil⟩, ?_⟩
      rintro i n H' ⟨hn, S', acc, bs, gr, dS, dH, hbl, hb, dd⟩
      have E2 := E1.grow gr
      by_cases hlt : i < (ks a).length
      · refine .inr ⟨J1.1 i S' H' gr.s E2.same hlt, fun H2 => ∃ S2 acc2 bs2, Grow S1 H1 S2 H2 ∧ S2 D = none ∧ H2 D = some (.lst acc2) ∧ bs2.length = i + 1 ∧ Gives (Pe a) bs2 ∧ DqAll X.K S2 acc2 (bs2.map g), fun H2 ⟨S2, acc2, bs2, h⟩ => ⟨n - 1, by omega, by omega, S2, acc2, bs2, h⟩, fun v H2 y => ?_⟩
        obtain ⟨S2, d, g2, hd2, hv⟩ := J1.2.2 i S' H' v H2 gr.s E2.same hlt y
        have E3 := (E2.grow g2)
        refine ⟨rdB X.K (own.map Prod.snd) (dt X.K d) (wipeS ρ (own.map Prod.snd)) (g1 a i), hg a ha i d hd2, S0, H0, S2, en_wipe E3 _, hv, fun σ2 hw E4 => ⟨hw.trans (wipe_wipe _ _), rdT X.K (g1 a i) true, fun s H C cl fp => fk_nil, S0, H0, S2, E4, fun S3 H3 g3 => ?_⟩⟩
        have E5 := E4.grow g3
        have dS3 : S3 D = none := (g2.trans g3).nw D dS (by rw [dH]; exact fun z => nomatch z)
        have dH3 : H3 D = some (.lst acc) := (g2.trans g3).h _ _ dH
        have gr3 := gr.trans (g2.trans g3)
        refine (if_pos rfl).mpr ⟨rdE X.K (g1 a i) (xk (Pe a i) fun b => dt X.K (g b)), he a ha i d hd2, S0, H0, S3, E5, fun u S4 H4 g4 ⟨z, hz2, hu⟩ => ?_⟩
        have dS4 : S4 D = none := g4.nw D dS3 (by rw [dH3]; exact fun z => nomatch z)
        have dH4 : H4 D = some (.lst acc) := g4.h _ _ dH3
        have gr4 := gr3.trans g4
        have hd4 : DqAll X.K S4 (acc ++ [u]) ((bs ++ [z]).map g) := by
          rw [List.map_append]
          exact dpAll_app (dpAll_mono ((g2.trans g3).trans g4).s dd) (.cons hu .nil)
        have hz3 := hz a ha
        refine ⟨acc, dH4, ?_, S4, _, bs ++ [z], ⟨gr4.s, fun x o e => ?_, fun x o e => ?_, gr4.nw⟩, dS4, upd_same, by rw [List.length_append, hbl]; rfl, hb.snoc (by rw [hbl]; exact hz2), hd4⟩
        · rw [dpAll_len dd, List.length_map, hbl]
          exact Nat.lt_of_le_of_lt (Nat.le_trans (Nat.le_of_lt hlt) hz3) (by decide)
        · rw [upd_ne (ne_of_none e hD)]; exact gr4.h x o e
        · rw [upd_ne (ne_of_none e dS4)]; exact gr4.sh x o e
      · have hil : i = (ks a).length := by omega
        subst hil
        refine .inl ⟨J1.2.1 S' H' gr.s E2.same, ?_⟩
        have g5 : Grow S1 H1 (upd S' D (.lst acc)) H' := ⟨gr.s.trans (Same.new dS), gr.h, fun x o e => by
          by_cases hx : x = D
          · subst hx; rw [upd_same] at e; cases e; exact dH
          · rw [upd_ne hx] at e; exact gr.sh x o e, fun x h1 h2 => by
          rw [upd_ne (fun z => h2 (by rw [z]; exact hD))]; exact gr.nw x h1 h2⟩
        exact q _ _ _ (gr0.trans g5) ⟨bs, ⟨a, ha, hbl, hb⟩, .lst (.inl upd_same) (dpAll_mono (Same.new dS) dd)⟩
/-- sep.join(one of many) -/
theorem ek_joinX {P : α → Prop} {ss : α → List Str} (ho : EK X b ρ (kS X.K x)) (ha : EK X e ρ (xk P fun a => kL X.K ((ss a).map PyData.str))) (hz : ∀ a, P a → ((ss a).map (·.length)).sum + (ss a).length * x.length ≤ 16777216) (hs : starEach [e] X.env = [(false, eval e X.env)] := by rfl) (hbase : attributeBase b "join" X.env (eval b X.env) = eval b X.env := by rfl) (hline : (apos.endLine == pos.line) = true := by rfl) :
    EK X (.Call (.Attribute b "join" apos) [e] [] pos) ρ (xk P fun a => kS X.K (Txt.join x (ss a))) :=
  EK.of (pe_join ho ha hs hbase hline) fun S0 H0 S H σ Q E q => ek_run E fun v S1 H1 g1 E1 hv => by
    obtain rfl := dp_str hv
    refine ⟨⟨_, rfl⟩, ek_run E1 fun u S2 H2 g2 E2 ⟨a, ha, hu⟩ => ?_⟩
    obtain ⟨l, xs, rfl, h2, h3⟩ := dp_list hu
    rw [dpAll_strs h3] at h2
    exact ⟨x, l, ss a, rfl, rfl, .inl (.inl (same_rd E2.same h2)), hz a ha, q _ S2 H2 (g1.trans g2) ⟨a, ha, .str _⟩⟩
theorem xk_imp {P : α → Prop} {Q : β → Prop} {f : α → Kd} {h : β → Kd} (hi : ∀ a, P a → ∃ b, Q b ∧ f a = h b) (he : EK X e ρ (xk P f)) : EK X e ρ (xk Q h) := he.sub fun S v ⟨a, ha, hv⟩ => by
  obtain ⟨b, hb, e⟩ := hi a ha
  exact ⟨b, hb, e ▸ hv⟩
end
end KD
end
section
namespace KD
open PySem PySem.Spec PyProof.Rows L2
/-! ### the script: a list of numbers, it may be an object of the text -/
def kScr (K : PySem.W.Frag) (ns : List Int) : Kd := ⟨fun S v => ∃ a, v = .ref a ∧ SqL K S a (ns.map V.int), fun e ⟨a, h, q⟩ => ⟨a, h, same_l e q⟩⟩
section
variable {X : Cx} {e a b c : Expr} {ρ ρ1 ρ' : List Sl} {κ : Kd} {pos p apos : Pos} {ns : List Int} {tg : Expr} {i x : Int}
theorem ek_lenZ (hm : X.mg "len" = none) (ha : EK X e ρ (kScr X.K ns)) (hg : Gl X "len" := by rfl) (he : starEach (e :: []) X.env = (false, eval e X.env) :: starEach [] X.env := by rfl) (hpl : (backTo pos (starEach [] X.env)).any (·.1) = false := by rfl) :
    EK X (.Call (.Name "len" p) [e] [] pos) ρ (kI X.K ns.length) :=
  ek_cb call_len (ck_pure fun S H vs Q s hv q => by
    obtain ⟨v, rfl, a, rfl, h⟩ := all1 hv
    exact ⟨.ref a, ns.length, rfl, .inl ⟨_, same_l s h, (List.length_map _).symm⟩, q _ (.int _)⟩) hm boot_len (ak_cons ha ak_nil he) hg (by decide) (by decide) he hpl
theorem ek_ixZ (ha : EK X a ρ (kScr X.K ns)) (hb : EK X b ρ (kI X.K i)) (h : atI ns i = some x) (hs : PlainIx b := by intro _ _; rfl) : EK X (.Subscript a b pos) ρ (kI X.K x) :=
  ek_ix ix_list (rk_pure fun S H u v Q s hx hy q => by
    obtain ⟨p, rfl, h1⟩ := hx
    obtain ⟨j, hj, f⟩ := atD (xs := ns.map V.int) (ys := ns) (List.length_map _) h
    exact ⟨p, ns.map V.int, i, .int x, rfl, dp_int hy, same_l s h1, f _ (by rw [List.getElem?_map, hj]; rfl), q _ (.int _)⟩) ha hb hs
theorem ik_scr (h : EK X e ρ (kScr X.K ns)) : IK X tg e ρ (ns.map PyData.int) := PI.imp (pi_list h) fun σ H R ⟨S0, H0, S, E, q⟩ => ek_run E fun v S1 H1 g E1 hv => by
  obtain ⟨l, rfl, h1⟩ := hv
  have at_ : ∀ S2 H2, Same S1 S2 → Same S2 H2 → SqL X.K H2 l (ns.map V.int) := fun S2 H2 e2 e3 => same_l (e2.trans e3) h1
  have len : (ns.map V.int).length = (ns.map PyData.int).length := by rw [List.length_map, List.length_map]
  refine ⟨l, rfl, ⟨_, at_ S1 H1 (Same.refl _) E1.same⟩, q S1 H1 _ g ⟨fun i S2 H2 e2 e3 hi => ?_, fun S2 H2 e2 e3 => ⟨_, at_ S2 H2 e2 e3, by omega⟩, fun i S2 H2 v H3 e2 e3 hi y => ?_⟩⟩
  · exact ⟨_, (ns.map V.int)[i]'(by omega), at_ S2 H2 e2 e3, List.getElem?_eq_getElem (by omega)⟩
  · obtain ⟨rfl, f⟩ := y
    have hi' : i < ns.length := by rwa [List.length_map] at hi
    have hd : ns[i]? = some (ns[i]'hi') := List.getElem?_eq_getElem hi'
    have ev := (f _ (at_ S2 H3 e2 e3)).symm.trans (show (ns.map V.int)[i]? = some (V.int (ns[i]'hi')) by rw [List.getElem?_map, hd]; rfl)
    cases ev
    exact ⟨S2, .int (ns[i]'hi'), Grow.refl e3, by rw [List.getElem?_map, hd]; rfl, .int _⟩
end
end KD
end
section
namespace K71
open PySem PySem.Spec PyProof.Rows L2 KD
section
variable {P : Program} {w : World} {K : PySem.W.Frag} {mg : Str → Option Value} {base : Heap} {f : Addr} {fd : FuncData} {Ci Cs : Addr}

/-! ### _law_kind -/
def R_kind (K : PySem.W.Frag) (κs : List Kd) (κ : Kd) : Prop := ∃ i : Int, κs = [kI K i] ∧ κ = kB K true
theorem sc_kind : FnScope ["_law_thing"] ["_law_thing"] (defScope (top 56)) := ⟨rfl, rfl, rfl, by decide +kernel, rfl, by decide +kernel, by decide +kernel⟩
theorem ok_kind (F : FnG K "_law_kind" (top 56) f fd) (T : Tx K mg) : FnOk P w K mg base CX0 1 f fd ["_law_thing"] (spF (R_kind K)) := by
  refine def_ok F sc_kind (fun κs κ ⟨_, e, _⟩ => by rw [e]; rfl) fun cdv A outer s H E κs κ hr h => ?_
  obtain ⟨i, rfl, rfl⟩ := h
  exact ss_one (sk_ret (EK.to (ek_and (ek_isi T.isinstance (ek_var 0) (ek_ty T.int boot_int) (by exact kit_int_int)) (fun h => (ek_one (ek_not (ek_isi T.isinstance (ek_var 0) (ek_ty T.bool boot_bool) (by exact kit_int_bool)))))) rfl))

/-! ### _law_cell -/
def R_cell (K : PySem.W.Frag) (κs : List Kd) (κ : Kd) : Prop := ∃ (ns : List Int) (k : Nat), ns.length ≤ 63 ∧ k ≤ 100 ∧ κs = [kScr K ns, kI K k] ∧ κ = xk (fun _ : Int => True) fun c => kI K c
theorem sc_cell : FnScope ["_law_script", "_law_k", "_law_seed", "_law_cell_here"] ["_law_script", "_law_k"] (defScope (top 57)) := ⟨rfl, rfl, rfl, by decide +kernel, rfl, by decide +kernel, by decide +kernel⟩
theorem ok_cell (F : FnG K "_law_cell" (top 57) f fd) (T : Tx K mg) : FnOk P w K mg base CX0 1 f fd ["_law_script", "_law_k"] (spF (R_cell K)) := by
  refine def_ok F sc_cell (fun κs κ ⟨_, _, _, _, e, _⟩ => by rw [e]; rfl) fun cdv A outer s H E κs κ hr h => ?_
  obtain ⟨ns, k, hn, hk, rfl, rfl⟩ := h
  have nd := sc_cell.nd
  by_cases c : k < ns.length
  · obtain ⟨x, hx⟩ := get_lt c
    exact ss_T (tk_lt (ek_var 1) (ek_lenZ (ns := ns) T.len (ek_var 0))) (decide_eq_true (by omega)) (ss_one (sk_ret (ek_x (z := x) (ek_ixZ (ns := ns) (ek_var 0) (ek_var 1) (at_nat hx)) trivial)))
  · refine ss_F (tk_lt (ek_var 1) (ek_lenZ (ns := ns) T.len (ek_var 0))) (decide_eq_false (by omega)) ?_
    refine ss_cons (sk_set 2 nd ek_int) ?_
    refine ss_forI PassesOwn.never rfl (ik_scr (ns := ns) (ek_var 0)) (fun i ρ => ∃ z : Int, ρ = [.k (kScr K ns), .k (kI K k), .k (kI K z), .un]) ⟨17, rfl⟩ (fun i d ρ hi hd hI => ?_) (fun ρ hI => ?_)
    · obtain ⟨z, rfl⟩ := hI
      obtain ⟨x, hx, rfl⟩ := map_get hd
      exact ⟨_, gk_name 3 nd, ss_toX (ss_one (sk_set 2 nd (ek_mod (ek_toI T.int (ek_add (ek_mul (ek_var 2) ek_int (.inr (by decide))) (ek_mod (ek_toI T.int (ek_var 3)) ek_int (by decide)))) ek_int (by decide)))) (.keep (.keep (.keep (.drop .nil)))) ⟨_, rfl⟩⟩
    · obtain ⟨z, rfl⟩ := hI
      exact ss_one (sk_ret (ek_x (ek_mod (ek_toI T.int (ek_mul (ek_mul (ek_add (ek_var 2) ek_int) (ek_add (ek_var 1) ek_int) (.inr ⟨by omega, by omega⟩)) ek_int (.inr (by decide)))) ek_int (by decide)) trivial))

/-! ### _law_digits -/
def R_digits (K : PySem.W.Frag) (κs : List Kd) (κ : Kd) : Prop := ∃ (c : Int) (ms : List Nat), ms.length ≤ 60 ∧ (∀ m ∈ ms, 0 < m ∧ m < 1000) ∧ κs = [kI K c, kNum K ms] ∧ κ = xk (Dg ms) (kNum K)
abbrev nmD : List Str := ["_law_cell_here", "_law_sizes", "_law_found", "_law_rest", "_law_most", "_law_seed", "_law_k", "_law_twice"]
theorem sc_digits : FnScope nmD ["_law_cell_here", "_law_sizes"] (defScope (top 58)) := ⟨rfl, rfl, rfl, by decide +kernel, rfl, by decide +kernel, by decide +kernel⟩
theorem ok_digits (F : FnG K "_law_digits" (top 58) f fd) (T : Tx K mg) : FnOk P w K mg base CX0 1 f fd ["_law_cell_here", "_law_sizes"] (spF (R_digits K)) := by
  refine def_ok F sc_digits (fun κs κ ⟨_, _, _, _, e, _⟩ => by rw [e]; rfl) fun cdv A outer s H E κs κ hr h => ?_
  obtain ⟨c, ms, hl, hm, rfl, rfl⟩ := h
  have nd := sc_digits.nd
  refine ss_cons (sk_new 2 nd (by show 2 < 8; decide)) ?_
  refine ss_cons (sk_set 3 nd (ek_toI T.int (ek_var 0))) ?_
  by_cases h18 : (10 : Int) ^ (18 : Int).toNat ≤ c
  · refine ss_T (tk_ge (ek_var 3) (ek_pow ek_int ek_int ⟨by decide, by decide, by decide⟩)) (decide_eq_true h18) ?_
    refine ss_cons (sk_set 3 nd (ek_sub (ek_var 3) (ek_pow ek_int ek_int ⟨by decide, by decide, by decide⟩))) ?_
    refine ss_forI PassesOwn.never rfl (ik_list (ek_var 1)) (fun i ρ => ∃ (z : Int) (ds : List Nat), Dg (ms.take i) ds ∧ ρ = [.k (kI K c), .k (kNum K ms), .own (oL K (numD ds)), .k (kI K z), .un, .un, .un, .un]) ⟨_, [], by rw [List.take_zero]; exact Dg.nil, rfl⟩ (fun i d ρ hi hd hI => ?_) (fun ρ hI => ?_)
    · obtain ⟨z, ds, hD, rfl⟩ := hI
      obtain ⟨m, hm2, rfl⟩ := num_get hd
      obtain ⟨m1, m2⟩ := hm m (List.mem_of_getElem? hm2)
      obtain ⟨e, he, hz⟩ := mod_dig z m1
      have hdl := hD.1
      rw [List.length_take] at hdl
      refine ⟨_, gk_name 4 nd, ?_⟩
      refine ss_cons (sk_app 2 rfl (EK.to (d' := .int e) (ek_mod (ek_toI T.int (ek_var 3)) (ek_var 4) (by omega)) (by rw [hz])) (by rw [num_len]; omega)) ?_
      rw [num_app]
      refine ss_toX (ss_one (sk_set 3 nd (ek_fdiv (ek_toI T.int (ek_var 3)) (ek_var 4) ⟨by omega, by omega⟩))) (.keep (.keep (.keep (.keep (.drop (.keep (.keep (.keep .nil)))))))) ⟨_, ds ++ [e], ?_, rfl⟩
      rw [take_get hm2]
      exact hD.snoc he
    · obtain ⟨z, ds, hD, rfl⟩ := hI
      refine ss_freeze 2 rfl ?_
      refine ss_one (sk_ret (ek_x (z := ds) (ek_var 2) ?_))
      rw [num_len, List.take_length] at hD
      exact hD
  · refine ss_F (tk_ge (ek_var 3) (ek_pow ek_int ek_int ⟨by decide, by decide, by decide⟩)) (decide_eq_false h18) ?_
    refine ss_cons (sk_set 5 nd (ek_mod (ek_toI T.int (ek_var 3)) ek_int (by decide))) ?_
    refine ss_forI PassesOwn.never rfl (ik_range T.range (ek_len (n := ms.length) T.len (ek_var 1) (by exact congrArg some (num_len ms)) (by omega)) ⟨by omega, by omega⟩) (fun i ρ => ∃ (z : Int) (ds : List Nat), 0 ≤ z ∧ z < 2147483647 ∧ Dg (ms.take i) ds ∧ ρ = [.k (kI K c), .k (kNum K ms), .own (oL K (numD ds)), .k (kI K c), .un, .k (kI K z), .un, .un]) ⟨_, [], ?_, ?_, by rw [List.take_zero]; exact Dg.nil, rfl⟩ (fun i d ρ hi hd hI => ?_) (fun ρ hI => ?_)
    · exact Int.emod_nonneg _ (by decide)
    · have := Int.emod_lt_of_pos c (show (0 : Int) < 2147483629 by decide)
      omega
    · obtain ⟨z, ds, z1, z2, hD, rfl⟩ := hI
      rw [rangeD_len, Int.toNat_natCast] at hi
      rw [rangeD_get (by rw [Int.toNat_natCast]; exact hi)] at hd
      cases hd
      obtain ⟨m, hm2⟩ := get_lt (l := ms) hi
      obtain ⟨m1, m2⟩ := hm m (List.mem_of_getElem? hm2)
      have hdl := hD.1
      rw [List.length_take] at hdl
      refine ⟨_, gk_name 6 nd, ?_⟩
      refine ss_cons (sk_set 5 nd (ek_mod (ek_toI T.int (ek_add (ek_add (ek_mul (ek_var 5) ek_int (.inr (by decide))) (ek_mul ek_int (ek_var 6) (.inl (by decide)))) ek_int)) ek_int (by decide))) ?_
      generalize hz' : (z * 48271 + 974711 * (0 + (i : Int) * 1) + 12345) % 2147483647 = z'
      have z1' : 0 ≤ z' := by rw [← hz']; exact Int.emod_nonneg _ (by decide)
      have z2' : z' < 2147483647 := by rw [← hz']; exact Int.emod_lt_of_pos _ (by decide)
      refine ss_cons (sk_set 7 nd (ek_mod (ek_toI T.int (ek_mul (ek_var 5) (ek_add (ek_fdiv (ek_var 5) ek_int ⟨by decide, by decide⟩) ek_int) (.inl ⟨by omega, by omega⟩))) ek_int (by decide))) ?_
      obtain ⟨e, he, hz⟩ := mod_dig (z' * (z' / 65537 + 3) % 2147483629 / 19) m1
      refine ss_toX (ss_one (sk_app 2 rfl (EK.to (d' := .int e) (ek_mod (ek_fdiv (ek_var 7) ek_int ⟨by decide, by decide⟩) (ek_ixL (ek_var 1) (ek_var 6) (at_int (by omega) (by rw [show (0 + (i : Int) * 1).toNat = i by omega]; exact num_at hm2))) (by omega)) (by rw [hz])) (by rw [num_len]; omega))) (.keep (.keep (.keep (.keep (.keep (.keep (.drop (.drop .nil)))))))) ⟨z', ds ++ [e], z1', z2', ?_, ?_⟩
      · rw [take_get hm2]
        exact hD.snoc he
      · rw [← num_app]; rfl
    · obtain ⟨z, ds, _, _, hD, rfl⟩ := hI
      refine ss_freeze 2 rfl ?_
      refine ss_one (sk_ret (ek_x (z := ds) (ek_var 2) ?_))
      rw [rangeD_len, Int.toNat_natCast, List.take_length] at hD
      exact hD
end
end K71
end
section
namespace K71
open PySem PySem.Spec PyProof.Rows L2 KD
section
variable {P : Program} {w : World} {K : PySem.W.Frag} {mg : Str → Option Value} {base : Heap} {f : Addr} {fd : FuncData} {Ci Cs : Addr}
def namesD (ns : List (List Nat)) : List PyData := ns.map fun n => .str (ofL n)
theorem range_get {n i : Nat} {d : PyData} (hd : (rangeD 0 1 (n : Int).toNat)[i]? = some d) : i < n ∧ d = .int (i : Nat) := by
  have hi := lt_get hd
  rw [rangeD_len, Int.toNat_natCast] at hi
  rw [rangeD_get (by rw [Int.toNat_natCast]; exact hi)] at hd
  cases hd
  exact ⟨hi, by congr 1; omega⟩
theorem rlen (n : Nat) : (rangeD 0 1 (n : Int).toNat).length = n := by rw [rangeD_len, Int.toNat_natCast]

/-! ### _law_ink_names -/
def R_ink_names (K : PySem.W.Frag) (κs : List Kd) (κ : Kd) : Prop := ∃ d many : Nat, d < 20 ∧ many < 11 ∧ κs = [kI K d, kI K many] ∧ κ = kL K (namesD (nmL d many))
abbrev nmN : List Str := ["_law_digit", "_law_many", "_law_menu", "_law_k"]
theorem sc_ink_names : FnScope nmN ["_law_digit", "_law_many"] (defScope (top 59)) := ⟨rfl, rfl, rfl, by decide +kernel, rfl, by decide +kernel, by decide +kernel⟩
theorem menu_at : ∀ e : Nat, e < 10 → (menu1[e]? = some (menu1.getD e [])) ∧ menu2[e]? = some (menu2.getD e []) := by decide +kernel
theorem ok_ink_names (F : FnG K "_law_ink_names" (top 59) f fd) (T : Tx K mg) : FnOk P w K mg base CX0 1 f fd ["_law_digit", "_law_many"] (spF (R_ink_names K)) := by
  refine def_ok F sc_ink_names (fun κs κ ⟨_, _, _, _, e, _⟩ => by rw [e]; rfl) fun cdv A outer s H E κs κ hr h => ?_
  obtain ⟨d, many, hd, hm, rfl, rfl⟩ := h
  have nd := sc_ink_names.nd
  have go : ∀ menu : List (List Nat), (∀ e : Nat, e < 10 → menu[e]? = some (menu.getD e [])) → (if 10 ≤ d then menu2 else menu1) = menu → SsK (Bx P w K mg base nmN "_law_ink_names" (defScope (top 59)) f cdv A outer s H E) ((defBody (top 59)).drop 2) [.k (kI K d), .k (kI K many), .k (kL K (namesD menu)), .un] (.rt (kL K (namesD (nmL d many)))) := fun menu hmenu hmod => by
    refine ss_one (sk_ret (ek_lc _ rfl nd (ik_range T.range (ek_var 1) ⟨by omega, by omega⟩) (blkOk_by (N := nmN) (sc := defScope (top 59)) (own := [("_law_k", 3)]) (by decide +kernel)) (fun i => [.k (kI K d), .k (kI K many), .k (kL K (namesD menu)), .k (kI K (i : Nat))]) ?hl ?hz (fun i x hd s H C cl fp => ?bg) (fun i x e hd he s H C cl fp => ?el)))
    case hl => rw [rlen]; unfold namesD nmL; rw [List.length_map, List.length_map, List.length_range]
    case hz => rw [rlen]; omega
    case bg =>
      obtain ⟨hi, rfl⟩ := range_get hd
      exact bg_name 3 (by decide) nd
    case el =>
      obtain ⟨hi, rfl⟩ := range_get hd
      unfold namesD nmL at he
      rw [map_at (map_at (range_at hi))] at he
      cases he
      refine EK.to (ek_ixL (d := .str (ofL (menu.getD ((d + i) % 10) []))) (ek_var 2) (ek_mod (ek_toI T.int (ek_add (ek_var 0) (ek_var 3))) ek_int (by decide)) (at_int (Int.emod_nonneg _ (by decide)) ?_)) ?_
      · rw [show (((d : Int) + (i : Int)) % 10).toNat = (d + i) % 10 by omega]
        exact map_at (hmenu _ (by omega))
      · rw [hmod]
  by_cases c : 10 ≤ d
  · refine ss_cons (sk_set 2 nd (ek_lst (ds := namesD menu1) (ak_cons ek_str (ak_cons ek_str (ak_cons ek_str (ak_cons ek_str (ak_cons ek_str (ak_cons ek_str (ak_cons ek_str (ak_cons ek_str (ak_cons ek_str (ak_cons ek_str ak_nil)))))))))))) ?_
    refine ss_cons (sk_T (tk_ge (ek_var 0) ek_int) (decide_eq_true (by omega)) (ss_one (sk_set 2 nd (ek_lst (ds := namesD menu2) (ak_cons ek_str (ak_cons ek_str (ak_cons ek_str (ak_cons ek_str (ak_cons ek_str (ak_cons ek_str (ak_cons ek_str (ak_cons ek_str (ak_cons ek_str (ak_cons ek_str ak_nil)))))))))))))) ?_
    exact go menu2 (fun e he => (menu_at e he).2) (if_pos c)
  · refine ss_cons (sk_set 2 nd (ek_lst (ds := namesD menu1) (ak_cons ek_str (ak_cons ek_str (ak_cons ek_str (ak_cons ek_str (ak_cons ek_str (ak_cons ek_str (ak_cons ek_str (ak_cons ek_str (ak_cons ek_str (ak_cons ek_str ak_nil)))))))))))) ?_
    refine ss_F (tk_ge (ek_var 0) ek_int) (decide_eq_false (by omega)) ?_
    exact go menu1 (fun e he => (menu_at e he).1) (if_neg c)

/-! ### _law_ink_stamp -/
def itsD (its : List Itm) : List PyData := its.map (itD false)
theorem its_app (its : List Itm) (it : Itm) : itsD its ++ [itD false it] = itsD (its ++ [it]) := by unfold itsD; rw [List.map_append]; rfl
theorem its_len (its : List Itm) : (itsD its).length = its.length := by unfold itsD; rw [List.length_map]
def GoodM (wide : Nat) (its : List Itm) : Prop := its.length = wide ∧ iall its ∧ its.any chg = true
def R_ink_stamp (K : PySem.W.Frag) (κs : List Kd) (κ : Kd) : Prop := ∃ (ds : List Nat) (wide : Nat), 1 ≤ wide ∧ wide ≤ 10 ∧ ds.length = 2 * wide ∧ d8 ds ∧ κs = [kNum K ds, kI K wide] ∧ κ = xk (GoodM wide) fun its => kL K (itsD its)
abbrev nmStp : List Str := ["_law_digits_here", "_law_wide", "_law_items", "_law_live", "_law_k", "_law_deed", "_law_at"]
theorem sc_ink_stamp : FnScope nmStp ["_law_digits_here", "_law_wide"] (defScope (top 60)) := ⟨rfl, rfl, rfl, by decide +kernel, rfl, by decide +kernel, by decide +kernel⟩
def cntC (its : List Itm) : Nat := (its.filter chg).length
theorem cnt_app (its : List Itm) (it : Itm) : cntC (its ++ [it]) = cntC its + (if chg it then 1 else 0) := by
  unfold cntC
  rw [List.filter_append, List.length_append]
  cases h : chg it <;> simp [h]
theorem cnt_any {its : List Itm} (h : cntC its ≠ 0) : its.any chg = true := by
  unfold cntC at h
  rw [List.any_eq_true]
  cases e : its.filter chg with
  | nil => rw [e] at h; exact absurd rfl h
  | cons x r =>
    have : x ∈ its.filter chg := by rw [e]; exact List.mem_cons_self
    exact ⟨x, (List.mem_filter.mp this).1, (List.mem_filter.mp this).2⟩
theorem chg_val (dd : Dd) (n : Nat) : ((decide (dd.s = ("set" : Str))) || decide ((0 : Int) < (n : Int))) = chg (some (dd, n)) := by
  rw [dd_set]
  cases dd with
  | set => rfl
  | add => show decide ((0 : Int) < (n : Int)) = decide (0 < n); rw [decide_eq_decide]; omega
  | bl => show decide ((0 : Int) < (n : Int)) = decide (0 < n); rw [decide_eq_decide]; omega
theorem iall_app {its : List Itm} {it : Itm} (h : iall its) (h2 : iok it) : iall (its ++ [it]) := fun x hx => by
  rcases List.mem_append.mp hx with z | z
  · exact h x z
  · rw [List.mem_singleton.mp z]; exact h2
theorem ok_ink_stamp (F : FnG K "_law_ink_stamp" (top 60) f fd) (T : Tx K mg) : FnOk P w K mg base CX0 1 f fd ["_law_digits_here", "_law_wide"] (spF (R_ink_stamp K)) := by
  refine def_ok F sc_ink_stamp (fun κs κ ⟨_, _, _, _, _, _, e, _⟩ => by rw [e]; rfl) fun cdv A outer s H E κs κ hr h => ?_
  obtain ⟨ds, wide, w1, w10, hl, h8, rfl, rfl⟩ := h
  have nd := sc_ink_stamp.nd
  refine ss_cons (sk_new 2 nd (by show 2 < 7; decide)) ?_
  refine ss_cons (sk_set 3 nd ek_int) ?_
  refine ss_forI PassesOwn.never rfl (ik_range T.range (ek_var 1) ⟨by omega, by omega⟩) (fun i ρ => ∃ its : List Itm, its.length = i ∧ iall its ∧ ρ = [.k (kNum K ds), .k (kI K wide), .own (oL K (itsD its)), .k (kI K (cntC its)), .un, .un, .un]) ⟨[], rfl, (fun x hx => absurd hx List.not_mem_nil), rfl⟩ (fun i d ρ hi hd hI => ?_) (fun ρ hI => ?_)
  · obtain ⟨its, hlen, hia, rfl⟩ := hI
    obtain ⟨hi2, rfl⟩ := range_get hd
    obtain ⟨e, he⟩ := get_lt (l := ds) (i := 2 * i) (by omega)
    obtain ⟨n, hn⟩ := get_lt (l := ds) (i := 2 * i + 1) (by omega)
    have he8 := h8 e (List.mem_of_getElem? he)
    have hn8 := h8 n (List.mem_of_getElem? hn)
    have at1 : atI (numD ds) (2 * (i : Int)) = some (.int e) := at_int (by omega) (by rw [show (2 * (i : Int)).toNat = 2 * i by omega]; exact num_at he)
    have at2 : atI (numD ds) (2 * (i : Int) + 1) = some (.int n) := at_int (by omega) (by rw [show (2 * (i : Int) + 1).toNat = 2 * i + 1 by omega]; exact num_at hn)
    refine ⟨_, gk_name 4 nd, ?_⟩
    rcases fin_deed e he8 with hm | ⟨dd, _, hm⟩
    · refine ss_cons (sk_set 5 nd (ek_ixL (d := .str "") (ek_lst (ds := menu8.map PyData.str) (ak_cons ek_str (ak_cons ek_str (ak_cons ek_str (ak_cons ek_str (ak_cons ek_str (ak_cons ek_str (ak_cons ek_str (ak_cons ek_str ak_nil))))))))) (ek_toI T.int (ek_ixL (ek_var 0) (ek_mul ek_int (ek_var 4) (.inl (by decide))) at1)) (at_nat (map_at hm)))) ?_
      refine ss_one (sk_T (tk_eqS (ek_var 5) ek_str) (by decide +kernel) (ss_toX (ss_one (sk_app 2 rfl ek_non (by rw [its_len]; omega))) (.keep (.keep (.keep (.keep (.drop (.drop (.keep .nil))))))) ⟨its ++ [none], by rw [List.length_append, hlen]; rfl, iall_app hia trivial, ?_⟩))
      rw [← its_app, cnt_app]
      rfl
    · refine ss_cons (sk_set 5 nd (ek_ixL (d := .str dd.s) (ek_lst (ds := menu8.map PyData.str) (ak_cons ek_str (ak_cons ek_str (ak_cons ek_str (ak_cons ek_str (ak_cons ek_str (ak_cons ek_str (ak_cons ek_str (ak_cons ek_str ak_nil))))))))) (ek_toI T.int (ek_ixL (ek_var 0) (ek_mul ek_int (ek_var 4) (.inl (by decide))) at1)) (at_nat (map_at hm)))) ?_
      refine ss_one (sk_F (tk_eqS (ek_var 5) ek_str) (dd_ne dd) ?_)
      refine ss_cons (sk_app 2 rfl (ek_lst (ds := [.str dd.s, .int n]) (ak_cons (ek_var 5) (ak_cons (ek_toI T.int (ek_ixL (ek_var 0) (ek_add (ek_mul ek_int (ek_var 4) (.inl (by decide))) ek_int) at2)) ak_nil))) (by rw [its_len]; omega)) ?_
      refine ss_toX (ss_one (sk_set 3 nd (EK.to (d' := .int (cntC (its ++ [some (dd, n)]))) (ek_add (ek_var 3) (ek_toIB T.int (ek_or (ek_eqS (ek_var 5) ek_str) (fun h => (ek_one (ek_gt (ek_toI T.int (ek_ixL (ek_var 0) (ek_add (ek_mul ek_int (ek_var 4) (.inl (by decide))) ek_int) at2)) ek_int)))))) ?_))) (.keep (.keep (.keep (.keep (.drop (.drop (.keep .nil))))))) ⟨its ++ [some (dd, n)], by rw [List.length_append, hlen]; rfl, iall_app hia hn8, ?_⟩
      · rw [cnt_app, chg_val]
        cases chg (some (dd, n)) <;> rfl
      · rw [← its_app]
        rfl
  · obtain ⟨its, hlen, hia, rfl⟩ := hI
    rw [rlen] at hlen
    by_cases hc : cntC its = 0
    · have d0 := get_lt (l := ds) (i := 0) (by omega)
      have d1 := get_lt (l := ds) (i := 1) (by omega)
      obtain ⟨x0, hx0⟩ := d0
      obtain ⟨x1, hx1⟩ := d1
      have h80 := h8 x1 (List.mem_of_getElem? hx1)
      have esum : numD ds = (ds.map fun d : Nat => (d : Int)).map PyData.int := by unfold numD; rw [List.map_map]; rfl
      obtain ⟨at_, hat, hz⟩ := mod_dig (ds.map fun d : Nat => (d : Int)).sum (m := wide) (by omega)
      obtain ⟨dd, _, hdd⟩ := fin_deed3 (x0 % 3) (Nat.mod_lt _ (by decide))
      refine ss_cons (sk_T (tk_eqI (ek_var 3) ek_int) (decide_eq_true (by rw [hc]; rfl)) (ss_cons (sk_set 6 nd (EK.to (d' := .int at_) (ek_mod (ek_toI T.int (ek_sum rfl T.sum (EK.to (ek_var 0) (congrArg PyData.list esum)))) (ek_var 1) (by omega)) (by rw [hz]))) (ss_one (sk_setI 2 (n := at_) rfl (ek_lst (ds := [.str dd.s, .int (1 + x1 % 7 : Nat)]) (ak_cons (ek_ixL (d := .str dd.s) (ek_lst (ds := menu3.map PyData.str) (ak_cons ek_str (ak_cons ek_str (ak_cons ek_str ak_nil)))) (ek_mod (ek_toI T.int (ek_ixL (ek_var 0) ek_int (at_nat (n := 0) (num_at hx0)))) ek_int (by decide)) (at_int (Int.emod_nonneg _ (by decide)) (by rw [show ((x0 : Int) % 3).toNat = x0 % 3 by omega]; exact map_at hdd))) (ak_cons (EK.to (d' := .int (1 + x1 % 7 : Nat)) (ek_add ek_int (ek_mod (ek_toI T.int (ek_ixL (ek_var 0) ek_int (at_nat (n := 1) (num_at hx1)))) ek_int (by decide))) (by congr 1)) ak_nil))) (ek_var 6) ?_)))) ?_
      · unfold ixN
        rw [its_len, hlen]
        split <;> first | omega | (rw [if_pos (by omega)]; congr 1)
      · refine ss_freeze 2 rfl ?_
        refine ss_one (sk_ret (ek_x (z := its.set at_ (some (dd, 1 + x1 % 7))) (EK.to (ek_var 2) ?_) ⟨by rw [List.length_set]; exact hlen, fun x hx => ?_, ?_⟩))
        · show PyData.list ((itsD its).set at_ (itD false (some (dd, 1 + x1 % 7)))) = _
          unfold itsD
          rw [List.map_set]
        · rcases List.mem_or_eq_of_mem_set hx with z | z
          · exact hia x z
          · rw [z]; show 1 + x1 % 7 < 8; omega
        · rw [List.any_eq_true]
          refine ⟨some (dd, 1 + x1 % 7), ?_, by cases dd <;> first | rfl | exact decide_eq_true (by omega)⟩
          exact List.mem_set (by rw [hlen]; exact hat) _
    · refine ss_F (tk_eqI (ek_var 3) ek_int) (decide_eq_false (by omega)) ?_
      refine ss_freeze 2 rfl ?_
      exact ss_one (sk_ret (ek_x (z := its) (ek_var 2) ⟨hlen, hia, cnt_any hc⟩))
end
end K71
end
section
namespace K71
open PySem PySem.Spec PyProof.Rows L2 KD
section
variable {P : Program} {w : World} {K : PySem.W.Frag} {mg : Str → Option Value} {base : Heap} {f : Addr} {fd : FuncData} {Ci Cs : Addr}

/-! ### _law_inks -/
def menuW : List Nat := [3, 2, 4, 1, 3, 2, 4, 5, 6, 7, 8, 9, 10, 3, 1, 2]
def menuM : List Nat := [3, 2, 4, 5, 1, 6, 7, 8, 9, 10, 4, 0]
theorem menuW_at : ∀ e : Nat, e < 16 → menuW[e]? = some (menuW.getD e 0) ∧ 1 ≤ menuW.getD e 0 ∧ menuW.getD e 0 ≤ 10 := by decide +kernel
theorem menuM_at : ∀ e : Nat, e < 12 → menuM[e]? = some (menuM.getD e 0) ∧ menuM.getD e 0 ≤ 10 := by decide +kernel
def headM : List Nat := [16, 12, 20, 4, 10, 10]
def R_inks (K : PySem.W.Frag) (κs : List Kd) (κ : Kd) : Prop := ∃ ns : List Int, ns.length ≤ 63 ∧ κs = [kScr K ns, kI K 0] ∧ κ = xk Wo (wldD K)
abbrev nmInk : List Str := ["_law_script", "_law_at", "_law_head", "_law_wide", "_law_many", "_law_moulds", "_law_k"]
theorem sc_inks : FnScope nmInk ["_law_script", "_law_at"] (defScope (top 61)) := ⟨rfl, rfl, rfl, by decide +kernel, rfl, by decide +kernel, by decide +kernel⟩
def mldD (ms : List (List Itm)) : List PyData := ms.map fun m => .list (itsD m)
theorem mld_len (ms : List (List Itm)) : (mldD ms).length = ms.length := by unfold mldD; rw [List.length_map]
theorem zip_fst {α β : Type} : ∀ {as : List α} {bs : List β}, as.length = bs.length → (as.zip bs).map (·.1) = as
  | [], _, _ => by simp
  | a :: as, [], h => nomatch h
  | a :: as, b :: bs, h => by
    rw [List.zip_cons_cons, List.map_cons, zip_fst (by simpa using h)]
theorem zip_snd {α β : Type} : ∀ {as : List α} {bs : List β}, as.length = bs.length → (as.zip bs).map (·.2) = bs
  | [], [], _ => by simp
  | [], _ :: _, h => nomatch h
  | a :: as, [], h => nomatch h
  | a :: as, b :: bs, h => by
    rw [List.zip_cons_cons, List.map_cons, zip_snd (by simpa using h)]
theorem wo_mk {wide d many : Nat} {ms : List (List Itm)} (w1 : 1 ≤ wide) (w10 : wide ≤ 10) (hd : d < 20) (hm : many ≤ 10) (hl : ms.length = many) (hg : ∀ m ∈ ms, GoodM wide m) : Wo (wide, (nmL d many).zip ms) := by
  have hb := fin_names d hd many (by omega)
  rw [Bool.and_eq_true] at hb
  have hn := distB_nd hb.1
  have ha := List.all_eq_true.mp hb.2
  have hlen : (nmL d many).length = many := by unfold nmL; rw [List.length_map, List.length_range]
  have e1 : ((nmL d many).zip ms).map (·.1) = nmL d many := zip_fst (by rw [hlen, hl])
  have mem : ∀ q ∈ (nmL d many).zip ms, goodN q.1 = true ∧ GoodM wide q.2 := fun q hq => ⟨ha _ (List.of_mem_zip (a := q.1) (b := q.2) hq).1, hg _ (List.of_mem_zip (a := q.1) (b := q.2) hq).2⟩
  exact ⟨⟨w1, w10, by show ((nmL d many).zip ms).length ≤ 10; rw [List.length_zip]; omega, fun q hq => (goodN_of (mem q hq).1).1, fun q hq => (mem q hq).2.1, fun q hq => (mem q hq).2.2.1, fun q hq => (mem q hq).2.2.2, by show (((nmL d many).zip ms).map (·.1)).Nodup; rw [e1]; exact hn⟩, fun q hq => (goodN_of (mem q hq).1).2⟩
theorem wld_eq {wide d many : Nat} {ms : List (List Itm)} (hl : ms.length = many) : wldD K (wide, (nmL d many).zip ms) = kL K [.int wide, .list (namesD (nmL d many)), .list (mldD ms)] := by
  have hlen : (nmL d many).length = many := by unfold nmL; rw [List.length_map, List.length_range]
  have e1 : ((nmL d many).zip ms).map (·.1) = nmL d many := zip_fst (by rw [hlen, hl])
  have e2 : ((nmL d many).zip ms).map (·.2) = ms := zip_snd (by rw [hlen, hl])
  unfold wldD namesD mldD
  have a1 : ((nmL d many).zip ms).map (fun p => PyData.str (ofL p.1)) = (nmL d many).map fun n => PyData.str (ofL n) := by
    rw [← e1, List.map_map]
    rw [e1]
    rfl
  have a2 : ((nmL d many).zip ms).map (fun p => PyData.list (p.2.map (itD false))) = ms.map fun m => PyData.list (itsD m) := by
    conv => rhs; rw [← e2]
    rw [List.map_map]
    rfl
  show kL K [.int wide, .list (((nmL d many).zip ms).map (fun p => PyData.str (ofL p.1))), .list (((nmL d many).zip ms).map (fun p => PyData.list (p.2.map (itD false))))] = _
  rw [a1, a2]
theorem ok_inks (F : FnG K "_law_inks" (top 61) f fd) (T : Tx K mg) (D_digits : Df P w K mg base 1 "_law_digits" ["_law_cell_here", "_law_sizes"] (R_digits K)) (D_cell : Df P w K mg base 1 "_law_cell" ["_law_script", "_law_k"] (R_cell K)) (D_ink_stamp : Df P w K mg base 1 "_law_ink_stamp" ["_law_digits_here", "_law_wide"] (R_ink_stamp K)) (D_ink_names : Df P w K mg base 1 "_law_ink_names" ["_law_digit", "_law_many"] (R_ink_names K)) :
    FnOk P w K mg base CX0 2 f fd ["_law_script", "_law_at"] (spF (R_inks K)) := by
  refine def_ok F sc_inks (fun κs κ ⟨_, _, e, _⟩ => by rw [e]; rfl) fun cdv A outer s H E κs κ hr h => ?_
  obtain ⟨ns, hns, rfl, rfl⟩ := h
  have nd := sc_inks.nd
  refine ss_cons (sk_set 2 nd (ek_callX (κ := xk (Dg headM) (kNum K)) D_digits (hr.mono (by decide)) (ak_cons (ek_call D_cell (hr.mono (by decide)) (ak_cons (ek_var 0) (ak_cons (ek_var 1) ak_nil)) ⟨ns, 0, hns, by decide, rfl, rfl⟩) (ak_cons (ek_lst (ds := numD headM) (ak_cons ek_int (ak_cons ek_int (ak_cons ek_int (ak_cons ek_int (ak_cons ek_int (ak_cons ek_int ak_nil))))))) ak_nil)) (fun S vs hv => by
    obtain ⟨c, _, hv⟩ := all_open hv
    exact ⟨_, ⟨c, headM, by decide, by decide, rfl, rfl⟩, hv⟩))) ?_
  refine ss_open 2 rfl fun hd hD => ?_
  obtain ⟨h0, e0, l0⟩ := hD.at_ (i := 0) rfl
  obtain ⟨h1, e1, l1⟩ := hD.at_ (i := 1) rfl
  obtain ⟨h2, e2, l2⟩ := hD.at_ (i := 2) rfl
  obtain ⟨h3, e3, l3⟩ := hD.at_ (i := 3) rfl
  obtain ⟨h4, e4, l4⟩ := hD.at_ (i := 4) rfl
  obtain ⟨h5, e5, l5⟩ := hD.at_ (i := 5) rfl
  obtain ⟨hW, w1, w10⟩ := menuW_at h0 l0
  obtain ⟨hM, m10⟩ := menuM_at h1 l1
  refine ss_cons (sk_set 3 nd (ek_ixL (d := .int (menuW.getD h0 0 : Nat)) (ek_lst (ds := numD menuW) (ak_cons ek_int (ak_cons ek_int (ak_cons ek_int (ak_cons ek_int (ak_cons ek_int (ak_cons ek_int (ak_cons ek_int (ak_cons ek_int (ak_cons ek_int (ak_cons ek_int (ak_cons ek_int (ak_cons ek_int (ak_cons ek_int (ak_cons ek_int (ak_cons ek_int (ak_cons ek_int ak_nil))))))))))))))))) (ek_ixL (ek_var 2) ek_int (at_nat (n := 0) (num_at e0))) (at_nat (num_at hW)))) ?_
  refine ss_cons (sk_set 4 nd (ek_ixL (d := .int (menuM.getD h1 0 : Nat)) (ek_lst (ds := numD menuM) (ak_cons ek_int (ak_cons ek_int (ak_cons ek_int (ak_cons ek_int (ak_cons ek_int (ak_cons ek_int (ak_cons ek_int (ak_cons ek_int (ak_cons ek_int (ak_cons ek_int (ak_cons ek_int (ak_cons ek_int ak_nil))))))))))))) (ek_ixL (ek_var 2) ek_int (at_nat (n := 1) (num_at e1))) (at_nat (num_at hM)))) ?_
  generalize menuW.getD h0 0 = wide at w1 w10
  generalize menuM.getD h1 0 = many at m10
  refine ss_cons (sk_new 5 nd (by show 5 < 7; decide)) ?_
  refine ss_forI PassesOwn.never rfl (ik_range T.range (ek_var 4) ⟨by omega, by omega⟩) (fun i ρ => ∃ ms : List (List Itm), ms.length = i ∧ (∀ m ∈ ms, GoodM wide m) ∧ ρ = [.k (kScr K ns), .k (kI K 0), .k (kNum K hd), .k (kI K wide), .k (kI K many), .own (oL K (mldD ms)), .un]) ⟨[], rfl, (fun x hx => absurd hx List.not_mem_nil), rfl⟩ (fun i d ρ hi hdd hI => ?_) (fun ρ hI => ?_)
  · obtain ⟨ms, hlen, hg, rfl⟩ := hI
    obtain ⟨hi2, rfl⟩ := range_get hdd
    refine ⟨_, gk_name 6 nd, ?_⟩
    refine ss_consX (sk_appX (P := GoodM wide) (g := fun m => .list (itsD m)) 5 rfl (ek_callX D_ink_stamp (hr.mono (by decide)) (ak_cons (ek_callX (κ := xk (Dg (List.replicate (2 * wide) 8)) (kNum K)) D_digits (hr.mono (by decide)) (ak_cons (ek_call D_cell (hr.mono (by decide)) (ak_cons (ek_var 0) (ak_cons (ek_add (ek_add (ek_var 1) ek_int) (ek_var 6)) ak_nil)) ⟨ns, 1 + i, hns, by omega, by congr 3, rfl⟩) (ak_cons (ek_repL (ds := [.int 8]) (ak_cons ek_int ak_nil) (ek_mul ek_int (ek_var 3) (.inl (by decide))) ⟨by decide, by omega, by omega, by show 1 * _ ≤ 1000; omega⟩) ak_nil)) (fun S vs hv => by
      obtain ⟨c, _, hv⟩ := all_open hv
      exact ⟨_, ⟨c, List.replicate (2 * wide) 8, by rw [List.length_replicate]; omega, fun m hm => by rw [(List.mem_replicate.mp hm).2]; decide, by rw [show (2 * (wide : Int)).toNat = 2 * wide by omega]; rw [show ([PyData.int 8] : List PyData) = [PyData.int (8 : Nat)] from rfl, num_rep]; rfl, rfl⟩, hv⟩)) (ak_cons (ek_var 3) ak_nil)) (fun S vs hv => by
      obtain ⟨ds, hds, hv⟩ := all_open hv
      obtain ⟨a, b⟩ := hds.rep
      exact ⟨_, ⟨ds, wide, w1, w10, a, b, rfl, rfl⟩, hv⟩)) (by rw [mld_len]; omega)) (fun ρ' hρ => ?_)
    obtain ⟨m, hm, rfl⟩ := hρ
    refine ss_toX ss_nil (.keep (.keep (.keep (.keep (.keep (.keep (.drop .nil))))))) ⟨ms ++ [m], by rw [List.length_append, hlen]; rfl, fun x hx => ?_, ?_⟩
    · rcases List.mem_append.mp hx with z | z
      · exact hg x z
      · rw [List.mem_singleton.mp z]; exact hm
    · unfold mldD; rw [List.map_append]; rfl
  · obtain ⟨ms, hlen, hg, rfl⟩ := hI
    rw [rlen] at hlen
    have fin : ∀ ms : List (List Itm), ms.length = many → (∀ m ∈ ms, GoodM wide m) → SsK (Bx P w K mg base nmInk "_law_inks" (defScope (top 61)) f cdv A outer s H E) ((defBody (top 61)).drop 6) [.k (kScr K ns), .k (kI K 0), .k (kNum K hd), .k (kI K wide), .k (kI K many), .own (oL K (mldD ms)), .un] (.rt (xk Wo (wldD K))) := fun ms hlen hg => by
      refine ss_freeze 5 rfl ?_
      refine ss_one (sk_ret (ek_x (z := (wide, (nmL h2 many).zip ms)) ?_ (wo_mk w1 w10 l2 m10 hlen hg)))
      rw [wld_eq hlen]
      exact ek_lst (ds := [.int wide, .list (namesD (nmL h2 many)), .list (mldD ms)]) (ak_cons (ek_var 3) (ak_cons (ek_call D_ink_names (hr.mono (by decide)) (ak_cons (ek_ixL (ek_var 2) ek_int (at_nat (n := 2) (num_at e2))) (ak_cons (ek_var 4) ak_nil)) ⟨h2, many, l2, by omega, rfl, rfl⟩) (ak_cons (ek_var 5) ak_nil)))
    by_cases hc : h3 = 0 ∧ 1 < many
    · obtain ⟨m5, hm5⟩ := get_lt (l := ms) (i := h5 % many) (by rw [hlen]; exact Nat.mod_lt _ (by omega))
      refine ss_cons (sk_T (tk_w (wk_and (tk_eqI (ek_ixL (ek_var 2) ek_int (at_nat (n := 3) (num_at e3))) ek_int) (fun h => (wk_and1 (tk_gt (ek_var 4) ek_int))))) ?_ (ss_one (sk_setI 5 (n := h4 % many) (d := .list (itsD m5)) rfl (ek_list1 T.list (ek_ixOwn (d := .list (itsD m5)) 5 rfl (ek_mod (ek_toI T.int (ek_ixL (ek_var 2) ek_int (at_nat (n := 5) (num_at e5)))) (ek_var 4) (by omega)) (at_int (by omega) (by rw [show ((h5 : Int) % (many : Int)).toNat = h5 % many by omega]; exact map_at hm5))) rfl) (ek_mod (ek_toI T.int (ek_ixL (ek_var 2) ek_int (at_nat (n := 4) (num_at e4)))) (ek_var 4) (by omega)) ?_))) ?_
      · rw [decide_eq_true (show ((h3 : Nat) : Int) = 0 by omega), decide_eq_true (show (1 : Int) < (many : Int) by omega)]; rfl
      · have hlt : h4 % many < many := Nat.mod_lt _ (by omega)
        unfold ixN
        rw [mld_len, hlen]
        split <;> first | omega | (rw [if_pos (by omega)]; congr 1)
      · have e : (mldD ms).set (h4 % many) (.list (itsD m5)) = mldD (ms.set (h4 % many) m5) := by unfold mldD; rw [List.map_set]
        rw [e]
        refine fin (ms.set (h4 % many) m5) (by rw [List.length_set]; exact hlen) fun m hm => ?_
        rcases List.mem_or_eq_of_mem_set hm with z | z
        · exact hg m z
        · rw [z]; exact hg m5 (List.mem_of_getElem? hm5)
    · refine ss_F (tk_w (wk_and (tk_eqI (ek_ixL (ek_var 2) ek_int (at_nat (n := 3) (num_at e3))) ek_int) (fun h => (wk_and1 (tk_gt (ek_var 4) ek_int))))) ?_ (fin ms hlen hg)
      by_cases c3 : h3 = 0
      · rw [decide_eq_false (show ¬ (1 : Int) < (many : Int) by omega), Bool.and_false]
      · rw [decide_eq_false (show ¬ ((h3 : Nat) : Int) = 0 by omega)]; rfl
end
end K71
end
section
namespace K71
open PySem PySem.Spec PyProof.Rows L2 KD
section
variable {P : Program} {w : World} {K : PySem.W.Frag} {mg : Str → Option Value} {base : Heap} {f : Addr} {fd : FuncData} {Ci Cs : Addr}

/-! ### _law_given -/
def givD (k : Nat) (its : List Itm) : PyData := sqD (decide (2 ≤ k)) (its.map (itD (decide (k % 2 = 1))))
def R_given (K : PySem.W.Frag) (κs : List Kd) (κ : Kd) : Prop := ∃ (its : List Itm) (k : Nat), its.length ≤ 30 ∧ κs = [kL K (itsD its), kI K k] ∧ κ = dt K (givD k its)
theorem sc_given : FnScope ["_law_mould", "_law_kind_here", "_law_items", "_law_item"] ["_law_mould", "_law_kind_here"] (defScope (top 62)) := ⟨rfl, rfl, rfl, by decide +kernel, rfl, by decide +kernel, by decide +kernel⟩
theorem ok_given (F : FnG K "_law_given" (top 62) f fd) (T : Tx K mg) : FnOk P w K mg base CX0 1 f fd ["_law_mould", "_law_kind_here"] (spF (R_given K)) := by
  refine def_ok F sc_given (fun κs κ ⟨_, _, _, e, _⟩ => by rw [e]; rfl) fun cdv A outer s H E κs κ hr h => ?_
  obtain ⟨its, k, h30, rfl, rfl⟩ := h
  have nd := sc_given.nd
  refine ss_cons (sk_new 2 nd (by show 2 < 4; decide)) ?_
  refine ss_cons (sk_for PassesOwn.never rfl (ik_list (ek_var 0)) (fun i => [.k (kL K (itsD its)), .k (kI K k), .own (oL K ((its.map (itD (decide (k % 2 = 1)))).take i)), .un]) (.refl _) (fun i d hd => ⟨_, gk_name 3 nd, ?_⟩)) ?_
  · obtain ⟨it, hit, rfl⟩ := map_get hd
    show SsK _ _ _ (.nx [_, _, .own (oL K ((its.map (itD (decide (k % 2 = 1)))).take (i + 1))), .un])
    rw [take_get (map_at hit)]
    have hz : ((its.map (itD (decide (k % 2 = 1)))).take i).length ≤ 1000 := by rw [List.length_take, List.length_map]; omega
    cases it with
    | none =>
      refine ss_one (sk_T (tk_isN (ek_var 3)) rfl (ss_one (sk_weakO (sk_app 2 rfl ek_non hz) (.keep (.keep (.keep (.drop .nil)))))))
    | some q =>
      obtain ⟨dd, n⟩ := q
      refine ss_one (sk_F (tk_isN (ek_var 3)) rfl ?_)
      by_cases c : k % 2 = 1
      · rw [decide_eq_true c] at hz ⊢
        exact ss_one (sk_F (tk_eqI (ek_mod (ek_toI T.int (ek_var 1)) ek_int (by decide)) ek_int) (decide_eq_false (by omega)) (ss_one (sk_weakO (sk_app 2 rfl (ek_tup (ds := [.str dd.s, .int n]) (ak_cons (ek_ixL (ek_var 3) ek_int (at_nat (n := 0) rfl)) (ak_cons (ek_ixL (ek_var 3) ek_int (at_nat (n := 1) rfl)) ak_nil))) hz) (.keep (.keep (.keep (.drop .nil)))))))
      · rw [decide_eq_false c] at hz ⊢
        exact ss_one (sk_T (tk_eqI (ek_mod (ek_toI T.int (ek_var 1)) ek_int (by decide)) ek_int) (decide_eq_true (by omega)) (ss_one (sk_weakO (sk_app 2 rfl (ek_lst (ds := [.str dd.s, .int n]) (ak_cons (ek_ixL (ek_var 3) ek_int (at_nat (n := 0) rfl)) (ak_cons (ek_ixL (ek_var 3) ek_int (at_nat (n := 1) rfl)) ak_nil))) hz) (.keep (.keep (.keep (.drop .nil)))))))
  · rw [its_len, show its.length = (its.map (itD (decide (k % 2 = 1)))).length by rw [List.length_map], List.take_length]
    refine ss_freeze 2 rfl ?_
    unfold givD
    by_cases c : 2 ≤ k
    · rw [decide_eq_true c]
      exact ss_T (tk_ge (ek_var 1) ek_int) (decide_eq_true (by omega)) (ss_one (sk_ret (ek_tuple1 T.tuple (ek_var 2) rfl)))
    · rw [decide_eq_false c]
      exact ss_F (tk_ge (ek_var 1) ek_int) (decide_eq_false (by omega)) (ss_one (sk_ret (ek_var 2)))

/-! ### _law_ink_after -/
def R_ink_after (K : PySem.W.Frag) (κs : List Kd) (κ : Kd) : Prop := ∃ (d : Nat) (it : Itm), d < 8 ∧ iok it ∧ κs = [kI K d, dt K (itD false it)] ∧ κ = kI K (aft d it)
abbrev nmAf : List Str := ["_law_digit", "_law_item", "_law_total", "_law_colour", "_law_there", "_law_named"]
theorem sc_ink_after : FnScope nmAf ["_law_digit", "_law_item"] (defScope (top 63)) := ⟨rfl, rfl, rfl, by decide +kernel, rfl, by decide +kernel, by decide +kernel⟩
def totA (d : Nat) (it : Itm) (i : Nat) : Nat := ((cols.take i).map fun c => c * pr (d / c % 2) (v1 it c)).sum
theorem fin_tot : ∀ d : Nat, d < 8 → ∀ n : Nat, n < 8 → totA d (some (.set, n)) 3 = n ∧ totA d (some (.add, n)) 3 = d + n - (d &&& n) ∧ totA d (some (.bl, n)) 3 = d - (d &&& n) ∧ totA d none 3 = d := by decide +kernel
theorem tot_aft {d : Nat} (hd : d < 8) : ∀ {it : Itm}, iok it → totA d it 3 = aft d it
  | none, _ => (fin_tot d hd 0 (by decide)).2.2.2
  | some (.set, n), h => (fin_tot d hd n h).1
  | some (.add, n), h => (fin_tot d hd n h).2.1
  | some (.bl, n), h => (fin_tot d hd n h).2.2.1
theorem tot_snoc {d : Nat} {it : Itm} {i c : Nat} (h : cols[i]? = some c) : totA d it (i + 1) = totA d it i + c * pr (d / c % 2) (v1 it c) := by
  unfold totA
  rw [take_get h, List.map_append, List.sum_append]
  rfl
def ib (n c : Nat) : Bool := decide (((n : Int) / (c : Int)) % 2 = 1)
theorem fin_ib : ∀ d : Nat, d < 8 → ∀ n : Nat, n < 8 → ∀ c ∈ cols, (if ib n c then 1 else 0) = pr (d / c % 2) (v1 (some (.set, n)) c) ∧ (if (ib d c || ib n c) then 1 else 0) = pr (d / c % 2) (v1 (some (.add, n)) c) ∧ (if (ib d c && !ib n c) then 1 else 0) = pr (d / c % 2) (v1 (some (.bl, n)) c) ∧ (if ib d c then 1 else 0) = pr (d / c % 2) (v1 none c) := by decide +kernel
theorem if_cast (b : Bool) (c m : Nat) (h : (if b then 1 else 0) = m) (t : Nat) : (t : Int) + (c : Int) * (if b then 1 else 0 : Int) = ((t + c * m : Nat) : Int) := by
  subst h
  cases b with
  | true => show (t : Int) + (c : Int) * 1 = ((t + c * 1 : Nat) : Int); omega
  | false => show (t : Int) + (c : Int) * 0 = ((t + c * 0 : Nat) : Int); omega
theorem col_lt {c : Nat} (h : c ∈ cols) : 0 < c ∧ c < 5 := by
  have : ∀ c ∈ cols, 0 < c ∧ c < 5 := by decide
  exact this c h
theorem ok_ink_after (F : FnG K "_law_ink_after" (top 63) f fd) (T : Tx K mg) : FnOk P w K mg base CX0 1 f fd ["_law_digit", "_law_item"] (spF (R_ink_after K)) := by
  refine def_ok F sc_ink_after (fun κs κ ⟨_, _, _, _, e, _⟩ => by rw [e]; rfl) fun cdv A outer s H E κs κ hr h => ?_
  obtain ⟨d, it, hd, hi, rfl, rfl⟩ := h
  have nd := sc_ink_after.nd
  refine ss_cons (sk_set 2 nd ek_int) ?_
  refine ss_cons (sk_for PassesOwn.never rfl (ik_list (ek_lst (ds := numD cols) (ak_cons ek_int (ak_cons ek_int (ak_cons ek_int ak_nil))))) (fun i => [.k (kI K d), .k (dt K (itD false it)), .k (kI K (totA d it i)), .un, .un, .un]) (.refl _) (fun i x hx => ⟨_, gk_name 3 nd, ?_⟩)) ?_
  · obtain ⟨c, hc, rfl⟩ := num_get hx
    have hm := List.mem_of_getElem? hc
    obtain ⟨c1, c2⟩ := col_lt hm
    refine ss_cons (sk_set 4 nd (ek_eqI (ek_mod (ek_toI T.int (ek_fdiv (ek_var 0) (ek_var 3) ⟨by omega, by omega⟩)) ek_int (by decide)) ek_int)) ?_
    have fin : ∀ (b : Bool) (s5 : Sl), (if b then 1 else 0) = pr (d / c % 2) (v1 it c) → SsK (Bx P w K mg base nmAf "_law_ink_after" (defScope (top 63)) f cdv A outer s H E) [(((match (defBody (top 63)).drop 1 with | (.For _ _ b _ _) :: _ => b | _ => []).getD 2 (.Pass ⟨0, 0, 0, 0⟩)))] [.k (kI K d), .k (dt K (itD false it)), .k (kI K (totA d it i)), .k (kI K c), .k (kB K b), s5] (.nx [.k (kI K d), .k (dt K (itD false it)), .k (kI K (totA d it (i + 1))), .un, .un, .un]) := fun b s5 hb => by
      refine ss_one (sk_weakO (sk_set 2 nd (EK.to (d' := .int (totA d it (i + 1))) (ek_add (ek_var 2) (ek_mul (ek_var 3) (ek_toIB T.int (ek_var 4)) (.inl ⟨by omega, by omega⟩))) ?_)) (.keep (.keep (.keep (.drop (.drop (.drop .nil)))))))
      rw [tot_snoc hc, if_cast b c _ hb]
    cases it with
    | none =>
      refine ss_F (tk_notN (ek_var 1)) rfl (fin (ib d c) .un ?_)
      exact (fin_ib d hd 0 (by decide) c hm).2.2.2
    | some q =>
      obtain ⟨dd, n⟩ := q
      have hn : n < 8 := hi
      obtain ⟨f1, f2, f3, _⟩ := fin_ib d hd n hn c hm
      cases dd with
      | set =>
        refine ss_cons (sk_T (o := .nx [.k (kI K d), .k (dt K (itD false (some (.set, n)))), .k (kI K (totA d (some (.set, n)) i)), .k (kI K c), .k (kB K (ib n c)), .k (kB K (ib n c))]) (tk_notN (ek_var 1)) rfl ?_) (fin (ib n c) _ f1)
        refine ss_cons (sk_set 5 nd (ek_eqI (ek_mod (ek_toI T.int (ek_fdiv (ek_ixL (ek_var 1) ek_int (at_nat (n := 1) rfl)) (ek_var 3) ⟨by omega, by omega⟩)) ek_int (by decide)) ek_int)) ?_
        refine ss_cons (sk_T (tk_eqS (ek_ixL (ek_var 1) ek_int (at_nat (n := 0) rfl)) ek_str) (by decide +kernel) (ss_one (sk_set 4 nd (ek_var 5)))) ?_
        refine ss_F (tk_eqS (ek_ixL (ek_var 1) ek_int (at_nat (n := 0) rfl)) ek_str) (by decide +kernel) ?_
        exact ss_F (tk_eqS (ek_ixL (ek_var 1) ek_int (at_nat (n := 0) rfl)) ek_str) (by decide +kernel) ss_nil
      | add =>
        refine ss_cons (sk_T (o := .nx [.k (kI K d), .k (dt K (itD false (some (.add, n)))), .k (kI K (totA d (some (.add, n)) i)), .k (kI K c), .k (kB K (ib d c || ib n c)), .k (kB K (ib n c))]) (tk_notN (ek_var 1)) rfl ?_) (fin (ib d c || ib n c) _ f2)
        refine ss_cons (sk_set 5 nd (ek_eqI (ek_mod (ek_toI T.int (ek_fdiv (ek_ixL (ek_var 1) ek_int (at_nat (n := 1) rfl)) (ek_var 3) ⟨by omega, by omega⟩)) ek_int (by decide)) ek_int)) ?_
        refine ss_F (tk_eqS (ek_ixL (ek_var 1) ek_int (at_nat (n := 0) rfl)) ek_str) (by decide +kernel) ?_
        refine ss_cons (sk_T (tk_eqS (ek_ixL (ek_var 1) ek_int (at_nat (n := 0) rfl)) ek_str) (by decide +kernel) (ss_one (sk_set 4 nd (ek_or (ek_var 4) (fun h => (ek_one (ek_var 5))))))) ?_
        exact ss_F (tk_eqS (ek_ixL (ek_var 1) ek_int (at_nat (n := 0) rfl)) ek_str) (by decide +kernel) ss_nil
      | bl =>
        refine ss_cons (sk_T (o := .nx [.k (kI K d), .k (dt K (itD false (some (.bl, n)))), .k (kI K (totA d (some (.bl, n)) i)), .k (kI K c), .k (kB K (ib d c && !ib n c)), .k (kB K (ib n c))]) (tk_notN (ek_var 1)) rfl ?_) (fin (ib d c && !ib n c) _ f3)
        refine ss_cons (sk_set 5 nd (ek_eqI (ek_mod (ek_toI T.int (ek_fdiv (ek_ixL (ek_var 1) ek_int (at_nat (n := 1) rfl)) (ek_var 3) ⟨by omega, by omega⟩)) ek_int (by decide)) ek_int)) ?_
        refine ss_F (tk_eqS (ek_ixL (ek_var 1) ek_int (at_nat (n := 0) rfl)) ek_str) (by decide +kernel) ?_
        refine ss_F (tk_eqS (ek_ixL (ek_var 1) ek_int (at_nat (n := 0) rfl)) ek_str) (by decide +kernel) ?_
        exact ss_one (sk_T (tk_eqS (ek_ixL (ek_var 1) ek_int (at_nat (n := 0) rfl)) ek_str) (by decide +kernel) (ss_one (sk_set 4 nd (ek_and (ek_var 4) (fun h => (ek_one (ek_not (ek_var 5))))))))
  · refine ss_one (sk_ret (EK.to (ek_var 2) ?_))
    rw [num_len]
    exact congrArg (fun z : Nat => PyData.int z) (tot_aft hd hi)

/-! ### _law_ink_press -/
def R_law_ink_press (K : PySem.W.Frag) (κs : List Kd) (κ : Kd) : Prop := ∃ (p : List Nat) (its : List Itm), p.length = its.length ∧ p.length ≤ 30 ∧ d8 p ∧ iall its ∧ κs = [kS K (digT p), kL K (itsD its)] ∧ κ = kS K (digT (List.zipWith aft p its))
theorem sc_law_ink_press : FnScope ["_law_page", "_law_mould", "_law_k"] ["_law_page", "_law_mould"] (defScope (top 64)) := ⟨rfl, rfl, rfl, by decide +kernel, rfl, by decide +kernel, by decide +kernel⟩
theorem ok_law_ink_press (F : FnG K "_law_ink_press" (top 64) f fd) (T : Tx K mg) (D_ink_after : Df P w K mg base 1 "_law_ink_after" ["_law_digit", "_law_item"] (R_ink_after K)) : FnOk P w K mg base CX0 2 f fd ["_law_page", "_law_mould"] (spF (R_law_ink_press K)) := by
  refine def_ok F sc_law_ink_press (fun κs κ ⟨_, _, _, _, _, _, e, _⟩ => by rw [e]; rfl) fun cdv A outer s H E κs κ hr h => ?_
  obtain ⟨p, its, hl, h30, hp, hi, rfl, rfl⟩ := h
  have nd := sc_law_ink_press.nd
  have hlen : (List.zipWith aft p its).length = p.length := by rw [List.length_zipWith]; omega
  show SsK _ _ _ (.rt (kS K (ofL ((List.zipWith aft p its).map dc))))
  rw [← joinOne ((List.zipWith aft p its).map dc)]
  refine ss_one (sk_ret (ek_join ek_str (ek_lc _ rfl nd (ik_range T.range (ek_len (n := p.length) T.len (ek_var 0) (by exact congrArg some (digT_len p)) (by omega)) ⟨by omega, by omega⟩) (blkOk_by (N := ["_law_page", "_law_mould", "_law_k"]) (sc := defScope (top 64)) (own := [("_law_k", 2)]) (by decide +kernel)) (fun i => [.k (kS K (digT p)), .k (kL K (itsD its)), .k (kI K (i : Nat))]) ?hl ?hz (fun i x hd s H C cl fp => ?bg) (fun i x e hd he s H C cl fp => ?el)) ?sz))
  case hl => rw [rlen, List.length_map, List.length_map, List.length_map, hlen]
  case hz => rw [rlen]; omega
  case bg => obtain ⟨_, rfl⟩ := range_get hd; exact bg_name 2 (by decide) nd
  case el =>
    obtain ⟨hlt, rfl⟩ := range_get hd
    obtain ⟨x, hx⟩ := get_lt (l := p) hlt
    obtain ⟨y, hy⟩ := get_lt (l := its) (i := i) (by omega)
    rw [map_at (map_at (map_at (zw_get hx hy)))] at he
    cases he
    have hx8 := hp x (List.mem_of_getElem? hx)
    have hy8 := hi y (List.mem_of_getElem? hy)
    refine EK.to (ek_str1 T.str (ek_call D_ink_after (hr.mono (by decide)) (ak_cons (ek_toIS T.int (ek_ixS (c := dc x) (ek_var 0) (ek_var 2) (at_nat (map_at hx)) (by rw [digT_len]; omega)) (int_dc hx8) (by show (1 : Nat) ≤ 640; decide)) (ak_cons (ek_ixL (d := itD false y) (ek_var 1) (ek_var 2) (at_nat (map_at hy))) ak_nil)) ⟨x, y, hx8, hy8, rfl, rfl⟩) (log_lt (by have := aft_lt hx8 hy8; omega))) ?_
    rw [str_dc (aft_lt hx8 hy8)]
  case sz => exact one_sz (by rw [List.length_map, hlen]; omega)

/-! ### _law_ink_row -/
def rowM : List Nat := [3, 2, 4, 5, 1, 6, 7, 4, 9, 2, 0, 60]
theorem rowM_at : ∀ e : Nat, e < 12 → rowM[e]? = some (rowM.getD e 0) ∧ rowM.getD e 0 ≤ 60 := by decide +kernel
def rowS : List Nat := 12 :: List.replicate 9 60
def Jk (n : Nat) (J : List Nat) : Prop := J.length ≤ 60 ∧ ∀ j ∈ J, j < n
def R_ink_row (K : PySem.W.Frag) (κs : List Kd) (κ : Kd) : Prop := ∃ (ns : List (List Nat)) (ds : List Nat), ns.length ≤ 10 ∧ Dg rowS ds ∧ κs = [kL K (namesD ns), kNum K ds] ∧ κ = xk (Jk ns.length) fun J => kL K (rowD ns J)
abbrev nmRow : List Str := ["_law_names", "_law_digits_here", "_law_many", "_law_k"]
theorem sc_ink_row : FnScope nmRow ["_law_names", "_law_digits_here"] (defScope (top 65)) := ⟨rfl, rfl, rfl, by decide +kernel, rfl, by decide +kernel, by decide +kernel⟩
theorem namesD_len (ns : List (List Nat)) : (namesD ns).length = ns.length := by unfold namesD; rw [List.length_map]
theorem ok_ink_row (F : FnG K "_law_ink_row" (top 65) f fd) (T : Tx K mg) : FnOk P w K mg base CX0 1 f fd ["_law_names", "_law_digits_here"] (spF (R_ink_row K)) := by
  refine def_ok F sc_ink_row (fun κs κ ⟨_, _, _, _, e, _⟩ => by rw [e]; rfl) fun cdv A outer s H E κs κ hr h => ?_
  obtain ⟨ns, ds, hn, hD, rfl, rfl⟩ := h
  have nd := sc_ink_row.nd
  obtain ⟨e0, he0, hl0⟩ := hD.at_ (i := 0) (m := 12) rfl
  obtain ⟨hM, m60⟩ := rowM_at e0 hl0
  have h10 : ds.length = 10 := hD.1
  refine ss_cons (sk_set 2 nd (ek_ixL (d := .int (rowM.getD e0 0 : Nat)) (ek_lst (ds := numD rowM) (ak_cons ek_int (ak_cons ek_int (ak_cons ek_int (ak_cons ek_int (ak_cons ek_int (ak_cons ek_int (ak_cons ek_int (ak_cons ek_int (ak_cons ek_int (ak_cons ek_int (ak_cons ek_int (ak_cons ek_int ak_nil))))))))))))) (ek_ixL (ek_var 1) ek_int (at_nat (n := 0) (num_at he0))) (at_nat (num_at hM)))) ?_
  generalize rowM.getD e0 0 = many at m60
  by_cases c : ns.length = 0
  · refine ss_T (tk_eqI (ek_len (n := ns.length) T.len (ek_var 0) (by exact congrArg some (namesD_len ns)) (by omega)) ek_int) (decide_eq_true (by omega)) (ss_one (sk_ret (ek_x (z := []) (ek_lst (ds := []) ak_nil) ⟨by decide, fun j hj => absurd hj List.not_mem_nil⟩)))
  · refine ss_F (tk_eqI (ek_len (n := ns.length) T.len (ek_var 0) (by exact congrArg some (namesD_len ns)) (by omega)) ek_int) (decide_eq_false (by omega)) ?_
    refine ss_one (sk_ret (ek_x (z := (List.range many).map fun k => (ds.getD (1 + k % 9) 0 + k / 9) % ns.length) (ek_lc _ rfl nd (ik_range T.range (ek_var 2) ⟨by omega, by omega⟩) (blkOk_by (N := nmRow) (sc := defScope (top 65)) (own := [("_law_k", 3)]) (by decide +kernel)) (fun i => [.k (kL K (namesD ns)), .k (kNum K ds), .k (kI K many), .k (kI K (i : Nat))]) ?hl ?hz (fun i x hd s H C cl fp => ?bg) (fun i x e hd he s H C cl fp => ?el)) ⟨?_, fun j hj => ?_⟩))
    case hl => rw [rlen, row_len, List.length_map, List.length_range]
    case hz => rw [rlen]; omega
    case bg => obtain ⟨_, rfl⟩ := range_get hd; exact bg_name 3 (by decide) nd
    case el =>
      obtain ⟨hlt, rfl⟩ := range_get hd
      unfold rowD at he
      rw [map_at (map_at (range_at hlt))] at he
      cases he
      obtain ⟨x, hx⟩ := get_lt (l := ds) (i := 1 + i % 9) (by omega)
      rw [getD_of hx]
      have hm : (x + i / 9) % ns.length < ns.length := Nat.mod_lt _ (by omega)
      obtain ⟨nm, hnm⟩ := get_lt hm
      rw [getD_of hnm]
      refine ek_ixL (d := .str (ofL nm)) (ek_var 0) (ek_mod (ek_toI T.int (ek_add (ek_ixL (d := .int x) (ek_var 1) (ek_add ek_int (ek_mod (ek_var 3) ek_int (by decide))) (at_int (by omega) (by rw [show (1 + (i : Int) % 9).toNat = 1 + i % 9 by omega]; exact num_at hx))) (ek_fdiv (ek_var 3) ek_int ⟨by decide, by decide⟩))) (ek_len (n := ns.length) T.len (ek_var 0) (by exact congrArg some (namesD_len ns)) (by omega)) (by omega)) (at_int (Int.emod_nonneg _ (by omega)) ?_)
      have e1 : ((x : Int) + (i : Int) / 9) % (ns.length : Int) = (((x + i / 9) % ns.length : Nat) : Int) := by
        rw [Int.natCast_emod]
        congr 1
      rw [e1, Int.toNat_natCast]
      exact map_at hnm
    · rw [List.length_map, List.length_range]; exact m60
    · obtain ⟨k, _, rfl⟩ := List.mem_map.mp hj
      exact Nat.mod_lt _ (by omega)

/-! ### _law_ink_dashed -/
def R_ink_dashed (K : PySem.W.Frag) (κs : List Kd) (κ : Kd) : Prop := ∃ (p ds : List Nat) (b : Bool), p.length ≤ 30 ∧ d8 p ∧ ds.length = p.length ∧ κs = [kS K (digT p), kNum K ds, kB K b] ∧ κ = xk (fun r : List (Option Nat) => r.length = p.length ∧ r8 r) fun r => kS K (rdT r)
abbrev nmDa : List Str := ["_law_page", "_law_digits_here", "_law_much", "_law_least", "_law_k"]
theorem sc_ink_dashed : FnScope nmDa ["_law_page", "_law_digits_here", "_law_much"] (defScope (top 66)) := ⟨rfl, rfl, rfl, by decide +kernel, rfl, by decide +kernel, by decide +kernel⟩
theorem ok_ink_dashed (F : FnG K "_law_ink_dashed" (top 66) f fd) (T : Tx K mg) : FnOk P w K mg base CX0 1 f fd ["_law_page", "_law_digits_here", "_law_much"] (spF (R_ink_dashed K)) := by
  refine def_ok F sc_ink_dashed (fun κs κ ⟨_, _, _, _, _, _, e, _⟩ => by rw [e]; rfl) fun cdv A outer s H E κs κ hr h => ?_
  obtain ⟨p, ds, b, h30, h8, hl, rfl, rfl⟩ := h
  have nd := sc_ink_dashed.nd
  let least : Nat := if b then 3 else 1
  refine ss_cons (sk_set 3 nd (κ := kI K least) (ek_ixL (ek_lst (ds := [.int 1, .int 3]) (ak_cons ek_int (ak_cons ek_int ak_nil))) (ek_toIB T.int (ek_var 2)) (by cases b <;> rfl))) ?_
  let r : List (Option Nat) := (List.range p.length).map fun i => if least ≤ ds.getD i 0 then some (p.getD i 0) else none
  have hr8 : r8 r := fun d hd => by
    obtain ⟨i, hi, e⟩ := List.mem_map.mp hd
    have hi := List.mem_range.mp hi
    split at e
    · cases e
      obtain ⟨x, hx⟩ := get_lt hi
      rw [getD_of hx]
      exact h8 x (List.mem_of_getElem? hx)
    · cases e
  have hrl : r.length = p.length := by show (List.map _ _).length = _; rw [List.length_map, List.length_range]
  refine ss_one (sk_ret (ek_x (z := r) ?_ ⟨hrl, hr8⟩))
  show EK _ _ _ (kS K (ofL (r.map rc)))
  rw [← joinOne (r.map rc)]
  refine ek_join ek_str (ek_lc _ rfl nd (ik_range T.range (ek_len (n := p.length) T.len (ek_var 0) (by exact congrArg some (digT_len p)) (by omega)) ⟨by omega, by omega⟩) (blkOk_by (N := nmDa) (sc := defScope (top 66)) (own := [("_law_k", 4)]) (by decide +kernel)) (fun i => [.k (kS K (digT p)), .k (kNum K ds), .k (kB K b), .k (kI K least), .k (kI K (i : Nat))]) ?hl ?hz (fun i x hd s H C cl fp => ?bg) (fun i x e hd he s H C cl fp => ?el)) ?sz
  case hl => rw [rlen, List.length_map, List.length_map, List.length_map, hrl]
  case hz => rw [rlen]; omega
  case bg => obtain ⟨_, rfl⟩ := range_get hd; exact bg_name 4 (by decide) nd
  case el =>
    obtain ⟨hlt, rfl⟩ := range_get hd
    obtain ⟨x, hx⟩ := get_lt (l := p) hlt
    obtain ⟨y, hy⟩ := get_lt (l := ds) (i := i) (by omega)
    rw [map_at (map_at (map_at (map_at (range_at hlt))))] at he
    cases he
    rw [getD_of hx, getD_of hy]
    refine ek_ixL (ek_lst (ds := [.str (ofL [45]), .str (ofL [dc x])]) (ak_cons ek_str (ak_cons (ek_ixS (c := dc x) (ek_var 0) (ek_var 4) (at_nat (map_at hx)) (by rw [digT_len]; omega)) ak_nil))) (ek_toIB T.int (ek_ge (ek_toI T.int (ek_ixL (d := .int y) (ek_var 1) (ek_var 4) (at_nat (num_at hy)))) (ek_var 3))) ?_
    by_cases c : least ≤ y
    · rw [decide_eq_true (show (least : Int) ≤ (y : Int) by omega), if_pos c]
      rfl
    · rw [decide_eq_false (show ¬ (least : Int) ≤ (y : Int) by omega), if_neg c]
      rfl
  case sz => exact one_sz (by rw [List.length_map, hrl]; omega)
end
end K71
end
section
namespace K71
open PySem PySem.Spec PyProof.Rows L2 KD
section
variable {P : Program} {w : World} {K : PySem.W.Frag} {mg : Str → Option Value} {base : Heap} {f : Addr} {fd : FuncData} {Ci Cs : Addr}

/-! ### _law_plain_item -/
def R_law_plain_item (K : PySem.W.Frag) (κs : List Kd) (κ : Kd) : Prop := ∃ it : Itm, iok it ∧ κs = [dt K (itD false it)] ∧ κ = kS K (layT (eff3 it))
abbrev nmPi : List Str := ["_law_item", "_law_signs", "_law_colour", "_law_sign", "_law_named"]
theorem sc_law_plain_item : FnScope nmPi ["_law_item"] (defScope (top 67)) := ⟨rfl, rfl, rfl, by decide +kernel, rfl, by decide +kernel, by decide +kernel⟩
theorem fin_sgn : ∀ n : Nat, n < 8 → ∀ c ∈ cols, (if ib n c then 97 else 46) = sc (v1 (some (.set, n)) c) ∧ (if ib n c then 97 else 45) = sc (v1 (some (.add, n)) c) ∧ (if ib n c then 46 else 45) = sc (v1 (some (.bl, n)) c) := by decide +kernel
theorem dot_a (b : Bool) : atI ((".a" : Str).cps.toList) (if b then 1 else 0 : Int) = some (if b then 97 else 46) := by cases b <;> decide +kernel
theorem ok_law_plain_item (F : FnG K "_law_plain_item" (top 67) f fd) (T : Tx K mg) : FnOk P w K mg base CX0 1 f fd ["_law_item"] (spF (R_law_plain_item K)) := by
  refine def_ok F sc_law_plain_item (fun κs κ ⟨_, _, e, _⟩ => by rw [e]; rfl) fun cdv A outer s H E κs κ hr h => ?_
  obtain ⟨it, hi, rfl, rfl⟩ := h
  have nd := sc_law_plain_item.nd
  refine ss_cons (sk_set 1 nd ek_str) ?_
  refine ss_cons (sk_for PassesOwn.never rfl (ik_list (ek_lst (ds := numD cols) (ak_cons ek_int (ak_cons ek_int (ak_cons ek_int ak_nil))))) (fun i => [.k (dt K (itD false it)), .k (kS K (ofL (((eff3 it).map sc).take i))), .un, .un, .un]) (.refl _) (fun i x hx => ⟨_, gk_name 2 nd, ?_⟩)) ?_
  · obtain ⟨c, hc, rfl⟩ := num_get hx
    have hm := List.mem_of_getElem? hc
    obtain ⟨c1, c2⟩ := col_lt hm
    have hv : ((eff3 it).map sc)[i]? = some (sc (v1 it c)) := by unfold eff3; exact map_at (map_at hc)
    have hlt : (((eff3 it).map sc).take i).length ≤ 3 := by rw [List.length_take, List.length_map]; exact Nat.le_trans (Nat.min_le_right _ _) (Nat.le_refl 3)
    refine ss_cons (sk_set 3 nd ek_str) ?_
    have fin : ∀ (y : Nat) (s4 : Sl), y = sc (v1 it c) → SsK (Bx P w K mg base nmPi "_law_plain_item" (defScope (top 67)) f cdv A outer s H E) [(((match (defBody (top 67)).drop 1 with | (.For _ _ b _ _) :: _ => b | _ => []).getD 2 (.Pass ⟨0, 0, 0, 0⟩)))] [.k (dt K (itD false it)), .k (kS K (ofL (((eff3 it).map sc).take i))), .k (kI K c), .k (kS K (ofL [y])), s4] (.nx [.k (dt K (itD false it)), .k (kS K (ofL (((eff3 it).map sc).take (i + 1)))), .un, .un, .un]) := fun y s4 hy => by
      subst hy
      rw [take_get hv, ← ofL_app]
      exact ss_one (sk_weakO (sk_set 1 nd (ek_adds (ek_var 1) (ek_var 3) (by rw [ofL_len]; show _ + 1 ≤ 16777216; omega))) (.keep (.keep (.drop (.drop (.drop .nil))))))
    cases it with
    | none => exact ss_F (tk_notN (ek_var 0)) rfl (fin 45 .un rfl)
    | some q =>
      obtain ⟨dd, n⟩ := q
      have hn : n < 8 := hi
      obtain ⟨f1, f2, f3⟩ := fin_sgn n hn c hm
      cases dd with
      | set =>
        refine ss_cons (sk_T (o := .nx [.k (dt K (itD false (some (.set, n)))), .k (kS K (ofL (((eff3 (some (.set, n))).map sc).take i))), .k (kI K c), .k (kS K (ofL [if ib n c then 97 else 46])), .k (kB K (ib n c))]) (tk_notN (ek_var 0)) rfl ?_) (fin _ _ f1)
        refine ss_cons (sk_set 4 nd (ek_eqI (ek_mod (ek_toI T.int (ek_fdiv (ek_ixL (ek_var 0) ek_int (at_nat (n := 1) rfl)) (ek_var 2) ⟨by omega, by omega⟩)) ek_int (by decide)) ek_int)) ?_
        refine ss_cons (sk_T (tk_eqS (ek_ixL (ek_var 0) ek_int (at_nat (n := 0) rfl)) ek_str) (by decide +kernel) (ss_one (sk_set 3 nd (ek_ixS ek_str (ek_toIB T.int (ek_var 4)) (dot_a _) (by decide))))) ?_
        refine ss_F (tk_w (wk_and (l := false) (tk_eqS (ek_ixL (ek_var 0) ek_int (at_nat (n := 0) rfl)) ek_str) (fun h => absurd h (by decide +kernel)))) (by decide +kernel) ?_
        exact ss_F (tk_w (wk_and (l := false) (tk_eqS (ek_ixL (ek_var 0) ek_int (at_nat (n := 0) rfl)) ek_str) (fun h => absurd h (by decide +kernel)))) (by decide +kernel) ss_nil
      | add =>
        refine ss_cons (sk_T (o := .nx [.k (dt K (itD false (some (.add, n)))), .k (kS K (ofL (((eff3 (some (.add, n))).map sc).take i))), .k (kI K c), .k (kS K (ofL [if ib n c then 97 else 45])), .k (kB K (ib n c))]) (tk_notN (ek_var 0)) rfl ?_) (fin _ _ f2)
        refine ss_cons (sk_set 4 nd (ek_eqI (ek_mod (ek_toI T.int (ek_fdiv (ek_ixL (ek_var 0) ek_int (at_nat (n := 1) rfl)) (ek_var 2) ⟨by omega, by omega⟩)) ek_int (by decide)) ek_int)) ?_
        refine ss_F (tk_eqS (ek_ixL (ek_var 0) ek_int (at_nat (n := 0) rfl)) ek_str) (by decide +kernel) ?_
        have rest : ∀ b : Bool, SsK (Bx P w K mg base nmPi "_law_plain_item" (defScope (top 67)) f cdv A outer s H E) ((match (match (defBody (top 67)).drop 1 with | (.For _ _ b _ _) :: _ => b | _ => []).getD 1 (.Pass ⟨0, 0, 0, 0⟩) with | .If _ a _ _ => a | _ => []).drop 2) [.k (dt K (itD false (some (.add, n)))), .k (kS K (ofL (((eff3 (some (.add, n))).map sc).take i))), .k (kI K c), .k (kS K (ofL [45])), .k (kB K b)] (.nx [.k (dt K (itD false (some (.add, n)))), .k (kS K (ofL (((eff3 (some (.add, n))).map sc).take i))), .k (kI K c), .k (kS K (ofL [if b then 97 else 45])), .k (kB K b)]) := fun b => by
          cases b with
          | true =>
            refine ss_cons (sk_T (tk_w (wk_and (tk_eqS (ek_ixL (ek_var 0) ek_int (at_nat (n := 0) rfl)) ek_str) (fun h => (wk_and1 (tk_val (ek_var 4)))))) (by decide +kernel) (ss_one (sk_set 3 nd ek_str))) ?_
            exact ss_F (tk_w (wk_and (l := false) (tk_eqS (ek_ixL (ek_var 0) ek_int (at_nat (n := 0) rfl)) ek_str) (fun h => absurd h (by decide +kernel)))) (by decide +kernel) ss_nil
          | false =>
            refine ss_F (tk_w (wk_and (tk_eqS (ek_ixL (ek_var 0) ek_int (at_nat (n := 0) rfl)) ek_str) (fun h => (wk_and1 (tk_val (ek_var 4)))))) (by decide +kernel) ?_
            exact ss_F (tk_w (wk_and (l := false) (tk_eqS (ek_ixL (ek_var 0) ek_int (at_nat (n := 0) rfl)) ek_str) (fun h => absurd h (by decide +kernel)))) (by decide +kernel) ss_nil
        exact rest (ib n c)
      | bl =>
        refine ss_cons (sk_T (o := .nx [.k (dt K (itD false (some (.bl, n)))), .k (kS K (ofL (((eff3 (some (.bl, n))).map sc).take i))), .k (kI K c), .k (kS K (ofL [if ib n c then 46 else 45])), .k (kB K (ib n c))]) (tk_notN (ek_var 0)) rfl ?_) (fin _ _ f3)
        refine ss_cons (sk_set 4 nd (ek_eqI (ek_mod (ek_toI T.int (ek_fdiv (ek_ixL (ek_var 0) ek_int (at_nat (n := 1) rfl)) (ek_var 2) ⟨by omega, by omega⟩)) ek_int (by decide)) ek_int)) ?_
        refine ss_F (tk_eqS (ek_ixL (ek_var 0) ek_int (at_nat (n := 0) rfl)) ek_str) (by decide +kernel) ?_
        refine ss_F (tk_w (wk_and (l := false) (tk_eqS (ek_ixL (ek_var 0) ek_int (at_nat (n := 0) rfl)) ek_str) (fun h => absurd h (by decide +kernel)))) (by decide +kernel) ?_
        have rest : ∀ b : Bool, SsK (Bx P w K mg base nmPi "_law_plain_item" (defScope (top 67)) f cdv A outer s H E) ((match (match (defBody (top 67)).drop 1 with | (.For _ _ b _ _) :: _ => b | _ => []).getD 1 (.Pass ⟨0, 0, 0, 0⟩) with | .If _ a _ _ => a | _ => []).drop 3) [.k (dt K (itD false (some (.bl, n)))), .k (kS K (ofL (((eff3 (some (.bl, n))).map sc).take i))), .k (kI K c), .k (kS K (ofL [45])), .k (kB K b)] (.nx [.k (dt K (itD false (some (.bl, n)))), .k (kS K (ofL (((eff3 (some (.bl, n))).map sc).take i))), .k (kI K c), .k (kS K (ofL [if b then 46 else 45])), .k (kB K b)]) := fun b => by
          cases b with
          | true =>
            exact ss_one (sk_T (tk_w (wk_and (tk_eqS (ek_ixL (ek_var 0) ek_int (at_nat (n := 0) rfl)) ek_str) (fun h => (wk_and1 (tk_val (ek_var 4)))))) (by decide +kernel) (ss_one (sk_set 3 nd ek_str)))
          | false =>
            exact ss_F (tk_w (wk_and (tk_eqS (ek_ixL (ek_var 0) ek_int (at_nat (n := 0) rfl)) ek_str) (fun h => (wk_and1 (tk_val (ek_var 4)))))) (by decide +kernel) ss_nil
        exact rest (ib n c)
  · refine ss_one (sk_ret (EK.to (ek_var 1) ?_))
    show PyData.str (ofL (((eff3 it).map sc).take 3)) = PyData.str (ofL ((eff3 it).map sc))
    rw [List.take_of_length_le (by rw [List.length_map]; exact Nat.le_refl 3)]

/-! ### _law_plain -/
def R_law_plain (K : PySem.W.Frag) (κs : List Kd) (κ : Kd) : Prop := ∃ r : List (Option Nat), r8 r ∧ r.length ≤ 30 ∧ κs = [kS K (rdT r)] ∧ κ = kS K (layT (r.flatMap pl3))
abbrev nmPl : List Str := ["_law_text", "_law_found", "_law_sign", "_law_colour"]
theorem sc_law_plain : FnScope nmPl ["_law_text"] (defScope (top 68)) := ⟨rfl, rfl, rfl, by decide +kernel, rfl, by decide +kernel, by decide +kernel⟩
def plc (o : Option Nat) : List Nat := (pl3 o).map sc
theorem plc_len (o : Option Nat) : (plc o).length = 3 := by cases o <;> rfl
theorem fm_len : ∀ r : List (Option Nat), (r.flatMap plc).length = 3 * r.length
  | [] => rfl
  | o :: r => by
    rw [List.flatMap_cons, List.length_append, fm_len r, plc_len, List.length_cons]
    omega
theorem fin_bit : ∀ d : Nat, d < 8 → ∀ c ∈ cols, atI ((".a" : Str).cps.toList) (((d : Int) / (c : Int)) % 2) = some (sc (d / c % 2)) := by decide +kernel
theorem plc_at {o : Option Nat} {j c : Nat} (h : cols[j]? = some c) : (plc o)[j]? = some (match o with | none => 45 | some d => sc (d / c % 2)) := by
  cases o with
  | none =>
    have hj := lt_get h
    match j, hj with
    | 0, _ => rfl
    | 1, _ => rfl
    | 2, _ => rfl
  | some d => exact map_at (map_at h)
theorem ok_law_plain (F : FnG K "_law_plain" (top 68) f fd) (T : Tx K mg) : FnOk P w K mg base CX0 1 f fd ["_law_text"] (spF (R_law_plain K)) := by
  refine def_ok F sc_law_plain (fun κs κ ⟨_, _, _, e, _⟩ => by rw [e]; rfl) fun cdv A outer s H E κs κ hr h => ?_
  obtain ⟨r, h8, h30, rfl, rfl⟩ := h
  have nd := sc_law_plain.nd
  have e1 : layT (r.flatMap pl3) = ofL (r.flatMap plc) := by
    unfold layT plc
    rw [List.map_flatMap]
  rw [e1]
  refine ss_cons (sk_set 1 nd ek_str) ?_
  refine ss_cons (sk_for PassesOwn.never rfl (ik_str (ek_var 0)) (fun i => [.k (kS K (rdT r)), .k (kS K (ofL ((r.take i).flatMap plc))), .un, .un]) (.refl _) (fun i x hx => ⟨_, gk_name 2 nd, ?_⟩)) ?_
  · obtain ⟨cc, hc, rfl⟩ := signs_key hx
    obtain ⟨o, ho, rfl⟩ := map_get hc
    have hm := List.mem_of_getElem? ho
    have h8' : ∀ d, o = some d → d < 8 := fun d e => h8 d (e ▸ hm)
    have hi := lt_get ho
    have hpre : ((r.take i).flatMap plc).length ≤ 90 := by rw [fm_len, List.length_take]; omega
    have e2 : (r.take (i + 1)).flatMap plc = (r.take i).flatMap plc ++ plc o := by rw [take_get ho, List.flatMap_append]; simp
    refine ss_one (sk_weakO (sk_for PassesOwn.never rfl (ik_list (ek_lst (ds := numD cols) (ak_cons ek_int (ak_cons ek_int (ak_cons ek_int ak_nil))))) (fun j => [.k (kS K (rdT r)), .k (kS K (ofL ((r.take i).flatMap plc ++ (plc o).take j))), .k (kS K (ofL [rc o])), .un]) (by rw [List.take_zero, List.append_nil]; exact .refl _) (fun j y hy => ⟨_, gk_name 3 nd, ?_⟩)) ?_)
    · obtain ⟨c, hcc, rfl⟩ := num_get hy
      have hcm := List.mem_of_getElem? hcc
      obtain ⟨c1, c2⟩ := col_lt hcm
      have ha := plc_at (o := o) hcc
      have hl2 : ((r.take i).flatMap plc ++ (plc o).take j).length ≤ 100 := by rw [List.length_append, List.length_take, plc_len]; omega
      rw [take_get ha, ← List.append_assoc, ← ofL_app _ [_]]
      cases o with
      | none => exact ss_one (sk_weakO (sk_T (tk_eqS (ek_var 2) ek_str) (decide_eq_true rfl) (ss_one (sk_set 1 nd (ek_adds (ek_var 1) ek_str (by rw [ofL_len]; show _ + 1 ≤ 16777216; omega))))) (.keep (.keep (.keep (.drop .nil)))))
      | some d =>
        have hd8 := h8' d rfl
        exact ss_one (sk_weakO (sk_F (tk_eqS (ek_var 2) ek_str) ((rc_dash (some d) h8').trans (decide_eq_false (fun z => nomatch z))) (ss_one (sk_set 1 nd (ek_adds (ek_var 1) (ek_ixS (c := sc (d / c % 2)) ek_str (ek_mod (ek_toI T.int (ek_fdiv (ek_toIS T.int (ek_var 2) (int_dc hd8) (by show (1 : Nat) ≤ 640; decide)) (ek_var 3) ⟨by omega, by omega⟩)) ek_int (by decide)) (fin_bit d hd8 c hcm) (by decide)) (by rw [ofL_len]; show _ + 1 ≤ 16777216; omega))))) (.keep (.keep (.keep (.drop .nil)))))
    · show Le [_, .k (kS K (ofL ((r.take (i + 1)).flatMap plc))), .un, .un] [_, .k (kS K (ofL ((r.take i).flatMap plc ++ (plc o).take 3))), _, _]
      rw [e2, List.take_of_length_le (l := plc o) (by rw [plc_len]; exact Nat.le_refl 3)]
      exact .keep (.keep (.drop (.drop .nil)))
  · refine ss_one (sk_ret (EK.to (ek_var 1) ?_))
    rw [signsD_len, rdT_len, List.take_length]

/-! ### _law_same_text, _law_press -/
def R_same (K : PySem.W.Frag) (κs : List Kd) (κ : Kd) : Prop := ∃ x : Str, κs = [kS K x, kS K x] ∧ κ = kB K true
theorem sc_same : FnScope ["_law_told", "_law_due"] ["_law_told", "_law_due"] (defScope (top 70)) := ⟨rfl, rfl, rfl, by decide +kernel, rfl, by decide +kernel, by decide +kernel⟩
theorem ok_same (F : FnG K "_law_same_text" (top 70) f fd) (T : Tx K mg) : FnOk P w K mg base CX0 1 f fd ["_law_told", "_law_due"] (spF (R_same K)) := by
  refine def_ok F sc_same (fun κs κ ⟨_, e, _⟩ => by rw [e]; rfl) fun cdv A outer s H E κs κ hr h => ?_
  obtain ⟨x, rfl, rfl⟩ := h
  refine ss_one (sk_ret (EK.to (ek_and (ek_isi T.isinstance (ek_var 0) (ek_ty T.str boot_str) (by exact kit_str_str)) (fun h => (ek_one (ek_eqS (ek_var 0) (ek_var 1))))) ?_))
  rw [decide_eq_true rfl]
  rfl
def R_law_press (K : PySem.W.Frag) (κs : List Kd) (κ : Kd) : Prop := ∃ a b : List Nat, a.length = b.length ∧ a.length ≤ 30 ∧ κs = [kS K (ofL a), kS K (ofL b)] ∧ κ = kS K (ofL (pressL a b))
abbrev nmPr : List Str := ["_law_one", "_law_two", "_law_k"]
theorem sc_law_press : FnScope nmPr ["_law_one", "_law_two"] (defScope (top 71)) := ⟨rfl, rfl, rfl, by decide +kernel, rfl, by decide +kernel, by decide +kernel⟩
theorem ok_law_press (F : FnG K "_law_press" (top 71) f fd) (T : Tx K mg) : FnOk P w K mg base CX0 1 f fd ["_law_one", "_law_two"] (spF (R_law_press K)) := by
  refine def_ok F sc_law_press (fun κs κ ⟨_, _, _, _, e, _⟩ => by rw [e]; rfl) fun cdv A outer s H E κs κ hr h => ?_
  obtain ⟨a, b, hl, h30, rfl, rfl⟩ := h
  have nd := sc_law_press.nd
  have hp : (pressL a b).length = a.length := pressL_len hl
  rw [← joinOne (pressL a b)]
  refine ss_one (sk_ret (ek_join ek_str (ek_lc _ rfl nd (ik_range T.range (ek_len (n := a.length) T.len (ek_var 0) rfl (by omega)) ⟨by omega, by omega⟩) (blkOk_by (N := nmPr) (sc := defScope (top 71)) (own := [("_law_k", 2)]) (by decide +kernel)) (fun i => [.k (kS K (ofL a)), .k (kS K (ofL b)), .k (kI K (i : Nat))]) ?hl ?hz (fun i x hd s H C cl fp => ?bg) (fun i x e hd he s H C cl fp => ?el)) ?sz))
  case hl => rw [rlen, List.length_map, List.length_map, hp]
  case hz => rw [rlen]; omega
  case bg => obtain ⟨_, rfl⟩ := range_get hd; exact bg_name 2 (by decide) nd
  case el =>
    obtain ⟨hlt, rfl⟩ := range_get hd
    obtain ⟨x, hx⟩ := get_lt (l := a) hlt
    obtain ⟨y, hy⟩ := get_lt (l := b) (i := i) (by omega)
    unfold pressL at he
    rw [map_at (map_at (zw_get hx hy))] at he
    cases he
    refine ek_ixL (ek_lst (ds := [.str (ofL [y]), .str (ofL [x])]) (ak_cons (ek_ixS (c := y) (ek_var 1) (ek_var 2) (at_nat hy) (by rw [ofL_len]; omega)) (ak_cons (ek_ixS (c := x) (ek_var 0) (ek_var 2) (at_nat hx) (by rw [ofL_len]; omega)) ak_nil))) (ek_toIB T.int (ek_eqS (ek_ixS (c := y) (ek_var 1) (ek_var 2) (at_nat hy) (by rw [ofL_len]; omega)) ek_str)) ?_
    have e1 : decide (ofL [y] = ("-" : Str)) = decide (y = 45) := one_eq (b := 45)
    show atI [PyData.str (ofL [y]), PyData.str (ofL [x])] (if decide (ofL [y] = ("-" : Str)) = true then 1 else 0) = _
    rw [e1]
    by_cases c : y = 45
    · rw [decide_eq_true c, if_pos c]; rfl
    · rw [decide_eq_false c, if_neg c]; rfl
  case sz => exact one_sz (by rw [hp]; omega)
end
end K71
end
section
namespace K71
open PySem PySem.Spec PyProof.Rows L2 KD
section
variable {P : Program} {w : World} {K : PySem.W.Frag} {mg : Str → Option Value} {base : Heap} {f : Addr} {fd : FuncData} {Ci Cs : Addr}

/-! ### _law_read -/
def R_law_read (K : PySem.W.Frag) (κs : List Kd) (κ : Kd) : Prop := ∃ l : List Nat, l.length ≤ 90 ∧ κs = [kS K (ofL l)] ∧ κ = dt K (optR (readL l))
abbrev nmRd : List Str := ["_law_text", "_law_found", "_law_cell_here", "_law_signs", "_law_total", "_law_k"]
theorem sc_law_read : FnScope nmRd ["_law_text"] (defScope (top 69)) := ⟨rfl, rfl, rfl, by decide +kernel, rfl, by decide +kernel, by decide +kernel⟩
/-- a sign that is fine in its cell -/
def okS (s : List Nat) (k : Nat) : Bool := decide (s.getD k 0 = 97) || (decide (s.getD k 0 = 46) || decide (s = [45, 45, 45]))
def totS (s : List Nat) (k : Nat) : Nat := ((List.range k).map fun j => if s.getD j 0 = 97 then cols.getD j 0 else 0).sum
theorem totS_succ (s : List Nat) (k : Nat) : totS s (k + 1) = totS s k + (if s.getD k 0 = 97 then cols.getD k 0 else 0) := by
  unfold totS
  rw [map_range_succ, List.sum_append]
  simp
theorem totS_cw (s : List Nat) : totS s 3 = cw s 97 := by
  show (((if s.getD 0 0 = 97 then 1 else 0) + ((if s.getD 1 0 = 97 then 2 else 0) + ((if s.getD 2 0 = 97 then 4 else 0) + 0)))) = _
  unfold cw
  omega
theorem sgn_ok {s : List Nat} (hl : s.length = 3) : (sgn s).isSome = true ↔ ∀ k, k < 3 → okS s k = true := by
  unfold sgn okS
  by_cases h1 : s = [45, 45, 45]
  · rw [if_pos h1]
    exact ⟨fun _ k _ => by rw [decide_eq_true h1, Bool.or_true, Bool.or_true], fun _ => rfl⟩
  · rw [if_neg h1, decide_eq_false h1]
    have hall : s.all okc = true ↔ ∀ k, k < 3 → (decide (s.getD k 0 = 97) || (decide (s.getD k 0 = 46) || false)) = true := by
      rw [List.all_eq_true]
      have one : ∀ c : Nat, okc c = true ↔ (decide (c = 97) || (decide (c = 46) || false)) = true := fun c => by
        unfold okc
        simp only [decide_eq_true_eq, List.mem_cons, List.not_mem_nil, or_false, Bool.or_false, Bool.or_eq_true]
        exact Or.comm
      constructor
      · intro h k hk
        obtain ⟨c, hc⟩ := get_lt (l := s) (i := k) (by omega)
        rw [getD_of hc]
        exact (one c).mp (h c (List.mem_of_getElem? hc))
      · intro h c hc
        obtain ⟨k, hk⟩ := List.mem_iff_getElem?.mp hc
        have := h k (by have := lt_get hk; omega)
        rw [getD_of hk] at this
        exact (one c).mpr this
    constructor
    · intro h
      split at h
      · exact hall.mp ‹_›
      · cases h
    · intro h
      rw [if_pos (hall.mpr h)]
      rfl
theorem sgn_dash : sgn [45, 45, 45] = some none := rfl
theorem sgn_val {s : List Nat} (h : (sgn s).isSome = true) (h2 : s ≠ [45, 45, 45]) : sgn s = some (some (cw s 97)) := by
  unfold sgn at h ⊢
  rw [if_neg h2] at h ⊢
  split at h
  · rename_i h3; rw [if_pos h3]
  · cases h
theorem ok_law_read (F : FnG K "_law_read" (top 69) f fd) (T : Tx K mg) : FnOk P w K mg base CX0 1 f fd ["_law_text"] (spF (R_law_read K)) := by
  refine def_ok F sc_law_read (fun κs κ ⟨_, _, e, _⟩ => by rw [e]; rfl) fun cdv A outer s H E κs κ hr h => ?_
  obtain ⟨l, hl, rfl, rfl⟩ := h
  have nd := sc_law_read.nd
  have hmod : (!decide ((l.length : Int) % 3 = 0)) = !decide (l.length % 3 = 0) := by
    congr 1
    rw [decide_eq_decide]; omega
  by_cases h3 : l.length % 3 = 0
  · refine ss_F (tk_neI (ek_mod (ek_toI T.int (ek_len (n := l.length) T.len (ek_var 0) rfl (by omega))) ek_int (by decide)) ek_int) (by rw [hmod, decide_eq_true h3]; rfl) ?_
    refine ss_cons (sk_set 1 nd ek_str) ?_
    have hrg : ∀ tg ρ, ρ[0]? = some (.k (kS K (ofL l))) → IK (Bx P w K mg base nmRd "_law_read" (defScope (top 69)) f cdv A outer s H E) tg (match (defBody (top 69)).drop 2 with | (.For _ i _ _ _) :: _ => i | _ => .Name "x" ⟨0, 0, 0, 0⟩) ρ (rangeD 0 1 (((l.length / 3 : Nat) : Int)).toNat) := fun tg ρ h0 => by
      have e : (((l.length / 3 : Nat) : Int)) = (l.length : Int) / 3 := by omega
      rw [e]
      exact ik_range T.range (ek_fdiv (ek_len (n := l.length) T.len (ek_var 0 rfl h0) rfl (by omega)) ek_int ⟨by decide, by decide⟩) ⟨by omega, by omega⟩
    have cellOk : ∀ i : Nat, cutS (ofL l) (some (3 * (i : Int))) (some (3 * (i : Int) + 3)) = ofL (cell l i) := fun i => by
      have := cut_cell (l := l) (i := i)
      rw [show ((3 * i : Nat) : Int) = 3 * (i : Int) by omega] at this
      exact this
    -- the cell's loop
    have inner : ∀ (i : Nat) (F0 : List Nat), i < l.length / 3 → F0.length ≤ 100 → ∀ m, m ≤ 3 → (∀ k, k < m → okS (cell l i) k = true) → ∀ o, ((m = 3 ∧ o = .nx [.k (kS K (ofL l)), .k (kS K (ofL F0)), .k (kI K i), .k (kS K (ofL (cell l i))), .k (kI K (totS (cell l i) 3)), .un]) ∨ (m < 3 ∧ okS (cell l i) m = false ∧ o = .rt (kN K))) →
        SK (Bx P w K mg base nmRd "_law_read" (defScope (top 69)) f cdv A outer s H E) ((match (defBody (top 69)).drop 2 with | (.For _ _ b _ _) :: _ => b | _ => []).getD 2 (.Pass ⟨0, 0, 0, 0⟩)) [.k (kS K (ofL l)), .k (kS K (ofL F0)), .k (kI K i), .k (kS K (ofL (cell l i))), .k (kI K 0), .un] o := fun i F0 hi hF m hm hpre o ho => by
      have hc3 : (cell l i).length = 3 := cell_len (by omega)
      have e45 : decide (ofL (cell l i) = ("---" : Str)) = decide (cell l i = [45, 45, 45]) := ofL_eq (b := [45, 45, 45])
      have step : ∀ k, k < 3 → okS (cell l i) k = true → SsK (Bx P w K mg base nmRd "_law_read" (defScope (top 69)) f cdv A outer s H E) (match ((match (defBody (top 69)).drop 2 with | (.For _ _ b _ _) :: _ => b | _ => []).getD 2 (.Pass ⟨0, 0, 0, 0⟩)) with | .For _ _ b _ _ => b | _ => []) [.k (kS K (ofL l)), .k (kS K (ofL F0)), .k (kI K i), .k (kS K (ofL (cell l i))), .k (kI K (totS (cell l i) k)), .k (kI K k)] (.nx [.k (kS K (ofL l)), .k (kS K (ofL F0)), .k (kI K i), .k (kS K (ofL (cell l i))), .k (kI K (totS (cell l i) (k + 1))), .un]) := fun k hk hok => by
        obtain ⟨c, hc⟩ := get_lt (l := cell l i) (i := k) (by omega)
        unfold okS at hok
        rw [getD_of hc] at hok
        rw [totS_succ, getD_of hc]
        have ea : decide (ofL [c] = ("a" : Str)) = decide (c = 97) := one_eq (b := 97)
        have ed : decide (ofL [c] = ("." : Str)) = decide (c = 46) := one_eq (b := 46)
        obtain ⟨cc, hcc⟩ := get_lt (l := cols) (i := k) hk
        rw [getD_of hcc]
        by_cases c97 : c = 97
        · rw [if_pos c97]
          exact ss_one (sk_weakO (sk_T (tk_eqS (ek_ixS (c := c) (ek_var 3) (ek_var 5) (at_nat hc) (by rw [ofL_len]; omega)) ek_str) (ea.trans (decide_eq_true c97)) (ss_one (sk_set 4 nd (EK.to (d' := .int (totS (cell l i) k + cc : Nat)) (ek_add (ek_var 4) (ek_ixL (d := .int cc) (ek_lst (ds := numD cols) (ak_cons ek_int (ak_cons ek_int (ak_cons ek_int ak_nil)))) (ek_var 5) (at_nat (num_at hcc)))) (by congr 1))))) (.keep (.keep (.keep (.keep (.keep (.drop .nil)))))))
        · rw [if_neg c97, Nat.add_zero]
          rw [decide_eq_false c97, Bool.false_or] at hok
          refine ss_one (sk_weakO (sk_F (tk_eqS (ek_ixS (c := c) (ek_var 3) (ek_var 5) (at_nat hc) (by rw [ofL_len]; omega)) ek_str) (ea.trans (decide_eq_false c97)) (ss_one (sk_F (tk_w (wk_and (tk_neS (ek_ixS (c := c) (ek_var 3) (ek_var 5) (at_nat hc) (by rw [ofL_len]; omega)) ek_str) (fun h => (wk_and1 (tk_neS (ek_var 3) ek_str))))) ?_ ss_nil))) (.keep (.keep (.keep (.keep (.keep (.drop .nil)))))))
          show ((!decide (ofL [c] = ("." : Str))) && (!decide (ofL (cell l i) = ("---" : Str)))) = false
          rw [ed, e45]
          revert hok
          generalize decide (c = 46) = z1
          generalize decide (cell l i = [45, 45, 45]) = z2
          cases z1 <;> cases z2 <;> decide
      rcases ho with ⟨rfl, rfl⟩ | ⟨hm3, hbad, rfl⟩
      · refine SK.to (sk_for PassesOwn.never rfl (ik_range T.range ek_int ⟨by decide, by decide⟩) (fun k => [.k (kS K (ofL l)), .k (kS K (ofL F0)), .k (kI K i), .k (kS K (ofL (cell l i))), .k (kI K (totS (cell l i) k)), .un]) (.refl _) (fun k d hd => ⟨_, gk_name 5 nd, ?_⟩)) rfl
        obtain ⟨hk, rfl⟩ := range_get (n := 3) hd
        exact step k hk (hpre k hk)
      · refine sk_forR PassesOwn.never rfl (ik_range T.range ek_int ⟨by decide, by decide⟩) (fun k => [.k (kS K (ofL l)), .k (kS K (ofL F0)), .k (kI K i), .k (kS K (ofL (cell l i))), .k (kI K (totS (cell l i) k)), .un]) m (.refl _) hm3 (fun k d hk hd => ⟨_, gk_name 5 nd, ?_⟩) (fun d hd => ⟨_, gk_name 5 nd, ?_⟩)
        · obtain ⟨hk3, rfl⟩ := range_get (n := 3) hd
          exact step k hk3 (hpre k hk)
        · obtain ⟨hk3, rfl⟩ := range_get (n := 3) hd
          obtain ⟨c, hc⟩ := get_lt (l := cell l i) (i := m) (by omega)
          unfold okS at hbad
          rw [getD_of hc] at hbad
          have ea : decide (ofL [c] = ("a" : Str)) = decide (c = 97) := one_eq (b := 97)
          have ed : decide (ofL [c] = ("." : Str)) = decide (c = 46) := one_eq (b := 46)
          refine ss_one (sk_F (tk_eqS (ek_ixS (c := c) (ek_var 3) (ek_var 5) (at_nat hc) (by rw [ofL_len]; omega)) ek_str) ?_ (ss_one (sk_T (tk_w (wk_and (tk_neS (ek_ixS (c := c) (ek_var 3) (ek_var 5) (at_nat hc) (by rw [ofL_len]; omega)) ek_str) (fun h => (wk_and1 (tk_neS (ek_var 3) ek_str))))) ?_ (ss_one (sk_ret ek_non)))))
          · show decide (ofL [c] = ("a" : Str)) = false
            rw [ea]
            revert hbad
            generalize decide (c = 97) = z0
            cases z0
            · intro _; rfl
            · intro h; rw [Bool.true_or] at h; cases h
          · show ((!decide (ofL [c] = ("." : Str))) && (!decide (ofL (cell l i) = ("---" : Str)))) = true
            rw [ed, e45]
            revert hbad
            generalize decide (c = 97) = z0
            generalize decide (c = 46) = z1
            generalize decide (cell l i = [45, 45, 45]) = z2
            cases z0 <;> cases z1 <;> cases z2 <;> decide
    have outer1 : ∀ i, i < l.length / 3 → (sgn (cell l i)).isSome = true → ∃ ρ1, GK (Bx P w K mg base nmRd "_law_read" (defScope (top 69)) f cdv A outer s H E) (match (defBody (top 69)).drop 2 with | (.For t _ _ _ _) :: _ => t | _ => .Name "x" ⟨0, 0, 0, 0⟩) (kI K i) [.k (kS K (ofL l)), .k (kS K (ofL (((List.range i).map (rdAt l)).map rc))), .un, .un, .un, .un] ρ1 ∧ SsK (Bx P w K mg base nmRd "_law_read" (defScope (top 69)) f cdv A outer s H E) (match (defBody (top 69)).drop 2 with | (.For _ _ b _ _) :: _ => b | _ => []) ρ1 (.nx [.k (kS K (ofL l)), .k (kS K (ofL (((List.range (i + 1)).map (rdAt l)).map rc))), .un, .un, .un, .un]) := fun i hi hs => by
      have hc3 : (cell l i).length = 3 := cell_len (by omega)
      have e45 : decide (ofL (cell l i) = ("---" : Str)) = decide (cell l i = [45, 45, 45]) := ofL_eq (b := [45, 45, 45])
      have hF : (((List.range i).map (rdAt l)).map rc).length ≤ 100 := by rw [List.length_map, List.length_map, List.length_range]; omega
      refine ⟨_, gk_name 2 nd, ?_⟩
      refine ss_cons (sk_set 3 nd (EK.to (ek_slS (ek_var 0) (ok_some (ek_mul ek_int (ek_var 2) (.inl (by decide)))) (ok_some (ek_add (ek_mul ek_int (ek_var 2) (.inl (by decide))) ek_int)) (by rw [ofL_len]; omega)) (congrArg PyData.str (cellOk i)))) ?_
      refine ss_cons (sk_set 4 nd ek_int) ?_
      refine ss_cons (inner i _ hi hF 3 (Nat.le_refl _) ((sgn_ok hc3).mp hs) _ (.inl ⟨rfl, rfl⟩)) ?_
      rw [map_range_succ, List.map_append, ← ofL_app, totS_cw]
      refine ss_one (sk_weakO (sk_set 1 nd (ek_adds (ek_var 1) (ek_ixL (d := .str (ofL [rc (rdAt l i)])) (ek_lst (ds := [.str (ofL [dc (cw (cell l i) 97)]), .str (ofL [45])]) (ak_cons (EK.to (ek_str1 T.str (ek_var 4) (log_lt (by have := cw_lt (cell l i) 97; omega))) (congrArg PyData.str (str_dc (cw_lt _ _)))) (ak_cons ek_str ak_nil))) (ek_toIB T.int (ek_eqS (ek_var 3) ek_str)) ?_) (by rw [ofL_len]; show _ + 1 ≤ 16777216; omega))) (.keep (.keep (.drop (.drop (.drop (.drop .nil)))))))
      show atI [PyData.str (ofL [dc (cw (cell l i) 97)]), PyData.str (ofL [45])] (if decide (ofL (cell l i) = ("---" : Str)) = true then 1 else 0) = some (.str (ofL [rc ((sgn (cell l i)).getD none)]))
      rw [e45]
      by_cases c : cell l i = [45, 45, 45]
      · rw [decide_eq_true c, c, sgn_dash]; rfl
      · rw [decide_eq_false c, sgn_val hs c]; rfl
    rcases first_bad (fun i => (sgn (cell l i)).isSome) (l.length / 3) with hall | ⟨m, hm, hbad, hpre⟩
    · rw [readL_some h3 hall]
      refine ss_cons (sk_for PassesOwn.never rfl (hrg _ _ rfl) (fun i => [.k (kS K (ofL l)), .k (kS K (ofL (((List.range i).map (rdAt l)).map rc))), .un, .un, .un, .un]) (.refl _) (fun i d hd => ?_)) ?_
      · obtain ⟨hi, rfl⟩ := range_get hd
        exact outer1 i hi (hall i hi)
      · refine ss_one (sk_ret (EK.to (ek_var 1) ?_))
        rw [rlen]
        rfl
    · rw [readL_none hm hbad]
      refine ss_ret (sk_forR PassesOwn.never rfl (hrg _ _ rfl) (fun i => [.k (kS K (ofL l)), .k (kS K (ofL (((List.range i).map (rdAt l)).map rc))), .un, .un, .un, .un]) m (.refl _) (by rw [rlen]; exact hm) (fun i d hi hd => ?_) (fun d hd => ?_))
      · obtain ⟨hi2, rfl⟩ := range_get hd
        exact outer1 i hi2 (hpre i hi)
      · obtain ⟨_, rfl⟩ := range_get hd
        have hc3 : (cell l m).length = 3 := cell_len (by omega)
        have hF : (((List.range m).map (rdAt l)).map rc).length ≤ 100 := by rw [List.length_map, List.length_map, List.length_range]; omega
        have hno : ¬ ∀ k, k < 3 → okS (cell l m) k = true := fun z => by
          have := (sgn_ok hc3).mpr z
          have hb : (sgn (cell l m)).isSome = false := hbad
          rw [hb] at this
          cases this
        rcases first_bad (okS (cell l m)) 3 with z | ⟨k, hk, kbad, kpre⟩
        · exact absurd z hno
        · refine ⟨_, gk_name 2 nd, ?_⟩
          refine ss_cons (sk_set 3 nd (EK.to (ek_slS (ek_var 0) (ok_some (ek_mul ek_int (ek_var 2) (.inl (by decide)))) (ok_some (ek_add (ek_mul ek_int (ek_var 2) (.inl (by decide))) ek_int)) (by rw [ofL_len]; omega)) (congrArg PyData.str (cellOk m)))) ?_
          refine ss_cons (sk_set 4 nd ek_int) ?_
          exact ss_ret (inner m _ hm hF k (Nat.le_of_lt hk) kpre _ (.inr ⟨hk, kbad, rfl⟩))
  · rw [readL_mod h3]
    exact ss_T (tk_neI (ek_mod (ek_toI T.int (ek_len (n := l.length) T.len (ek_var 0) rfl (by omega))) ek_int (by decide)) ek_int) (by rw [hmod, decide_eq_false h3]; rfl) (ss_one (sk_ret ek_non))

/-! ### _law_read_right -/
def R_read_right (K : PySem.W.Frag) (κs : List Kd) (κ : Kd) : Prop := ∃ l : List Nat, l.length ≤ 90 ∧ κs = [kS K (ofL l)] ∧ κ = kB K true
abbrev nmRr : List Str := ["_law_text", "_law_due", "_law_told", "_law_again"]
theorem sc_read_right : FnScope nmRr ["_law_text"] (defScope (top 73)) := ⟨rfl, rfl, rfl, by decide +kernel, rfl, by decide +kernel, by decide +kernel⟩
theorem ok_read_right (F : FnG K "_law_read_right" (top 73) f fd) (T : Tx K mg) (D_law_read : Df P w K mg base 1 "_law_read" ["_law_text"] (R_law_read K)) (D_ink_reading : Df P w K mg base 3 "ink_reading" ["layer"] (R_ink_reading K)) (D_same : Df P w K mg base 1 "_law_same_text" ["_law_told", "_law_due"] (R_same K)) : FnOk P w K mg base CX0 4 f fd ["_law_text"] (spF (R_read_right K)) := by
  refine def_ok F sc_read_right (fun κs κ ⟨_, _, e, _⟩ => by rw [e]; rfl) fun cdv A outer s H E κs κ hr h => ?_
  obtain ⟨l, hl, rfl, rfl⟩ := h
  have nd := sc_read_right.nd
  refine ss_cons (sk_set 1 nd (ek_call D_law_read (hr.mono (by decide)) (ak_cons (ek_var 0) ak_nil) ⟨l, hl, rfl, rfl⟩)) ?_
  refine ss_cons (sk_set 2 nd (ek_call D_ink_reading (hr.mono (by decide)) (ak_cons (ek_var 0) ak_nil) ⟨l, hl, rfl, rfl⟩)) ?_
  refine ss_cons (sk_set 3 nd (ek_callK D_ink_reading (hr.mono (by decide)) (kw_cons (ek_var 0) kw_nil) ⟨l, hl, rfl, rfl⟩)) ?_
  cases e : readL l with
  | none => exact ss_T (tk_isN (ek_var 1)) rfl (ss_one (sk_ret (EK.to (ek_and (ek_isN (ek_var 2)) (fun h => (ek_one (ek_isN (ek_var 3))))) rfl)))
  | some r =>
    refine ss_F (tk_isN (ek_var 1)) rfl ?_
    exact ss_one (sk_ret (EK.to (ek_and (ek_call D_same (hr.mono (by decide)) (ak_cons (ek_var 2) (ak_cons (ek_var 1) ak_nil)) ⟨rdT r, rfl, rfl⟩) (fun h => (ek_one (ek_call D_same (hr.mono (by decide)) (ak_cons (ek_var 3) (ak_cons (ek_var 1) ak_nil)) ⟨rdT r, rfl, rfl⟩)))) rfl))

/-! ### _law_spoilt -/
def spoS : List Nat := [9, 30, 25, 30, 4, 10, 50]
def R_spoilt (K : PySem.W.Frag) (κs : List Kd) (κ : Kd) : Prop := ∃ l ds : List Nat, 3 ≤ l.length ∧ l.length ≤ 30 ∧ Dg spoS ds ∧ κs = [kS K (ofL l), kNum K ds] ∧ κ = xk (fun l : List Nat => l.length ≤ 90) fun l => kS K (ofL l)
abbrev nmSp : List Str := ["_law_text", "_law_digits_here", "_law_at", "_law_sign"]
theorem sc_spoilt : FnScope nmSp ["_law_text", "_law_digits_here"] (defScope (top 72)) := ⟨rfl, rfl, rfl, by decide +kernel, rfl, by decide +kernel, by decide +kernel⟩
def alph : List Nat := (List.range 25).map fun i => 98 + i
theorem ok_spoilt (F : FnG K "_law_spoilt" (top 72) f fd) (T : Tx K mg) : FnOk P w K mg base CX0 1 f fd ["_law_text", "_law_digits_here"] (spF (R_spoilt K)) := by
  refine def_ok F sc_spoilt (fun κs κ ⟨_, _, _, _, _, e, _⟩ => by rw [e]; rfl) fun cdv A outer s H E κs κ hr h => ?_
  obtain ⟨l, ds, l3, l30, hD, rfl, rfl⟩ := h
  have nd := sc_spoilt.nd
  obtain ⟨d0, e0, b0⟩ := hD.at_ (i := 0) rfl
  obtain ⟨d1, e1, b1⟩ := hD.at_ (i := 1) rfl
  obtain ⟨d2, e2, b2⟩ := hD.at_ (i := 2) rfl
  have hat : ((d1 : Int) % (l.length : Int)) = ((d1 % l.length : Nat) : Int) := by rw [Int.natCast_emod]
  have hlt : d1 % l.length < l.length := Nat.mod_lt _ (by omega)
  refine ss_cons (sk_set 2 nd (EK.to (ek_mod (ek_toI T.int (ek_ixL (ek_var 1) ek_int (at_nat (n := 1) (num_at e1)))) (ek_len (n := l.length) T.len (ek_var 0) rfl (by omega)) (by omega)) (congrArg PyData.int hat))) ?_
  generalize d1 % l.length = q at hlt
  by_cases c6 : d0 < 6
  · refine ss_T (tk_lt (ek_ixL (ek_var 1) ek_int (at_nat (n := 0) (num_at e0))) ek_int) (decide_eq_true (by omega)) ?_
    obtain ⟨sg, hsg⟩ := get_lt (l := ([98 + d2 % 25, 122, 45, 46, 97, 45] : List Nat)) (i := d0) c6
    have halph : atI (("bcdefghijklmnopqrstuvwxyz" : Str).cps.toList) ((d2 : Int) % 25) = some (98 + d2 % 25) := by
      have fa : ∀ e : Nat, e < 25 → ("bcdefghijklmnopqrstuvwxyz" : Str).cps.toList[e]? = some (98 + e) := by decide +kernel
      refine at_int (Int.emod_nonneg _ (by decide)) ?_
      rw [show ((d2 : Int) % 25).toNat = d2 % 25 by omega]
      exact fa _ (Nat.mod_lt _ (by decide))
    refine ss_cons (sk_set 3 nd (ek_ixL (d := .str (ofL [sg])) (ek_lst (ds := ([98 + d2 % 25, 122, 45, 46, 97, 45] : List Nat).map fun c => .str (ofL [c])) (ak_cons (ek_ixS (c := 98 + d2 % 25) ek_str (ek_mod (ek_toI T.int (ek_ixL (ek_var 1) ek_int (at_nat (n := 2) (num_at e2)))) ek_int (by decide)) halph (by decide)) (ak_cons ek_str (ak_cons ek_str (ak_cons ek_str (ak_cons ek_str (ak_cons ek_str ak_nil))))))) (ek_ixL (ek_var 1) ek_int (at_nat (n := 0) (num_at e0))) (at_nat (map_at hsg)))) ?_
    refine ss_one (sk_ret (ek_x (z := (l.take q ++ [sg]) ++ l.drop (q + 1)) (EK.to (ek_adds (x := ofL (l.take q ++ [sg])) (y := ofL (l.drop (q + 1))) (EK.to (ek_adds (x := ofL (l.take q)) (y := ofL [sg]) (EK.to (ek_slS (ek_var 0) ok_none (ok_some (ek_var 2)) (by rw [ofL_len]; omega)) (by rw [cut_take (by omega), Int.toNat_natCast])) (ek_var 3) (by rw [ofL_len, List.length_take]; show _ + 1 ≤ _; omega)) (by rw [ofL_app])) (EK.to (ek_slS (ek_var 0) (ok_some (ek_add (ek_var 2) ek_int)) ok_none (by rw [ofL_len]; omega)) (by rw [cut_drop (by omega), show ((q : Int) + 1).toNat = q + 1 by omega])) (by rw [ofL_len, ofL_len, List.length_append, List.length_take, List.length_drop]; show min q l.length + 1 + _ ≤ _; omega)) (by rw [ofL_app])) ?_))
    rw [List.length_append, List.length_append, List.length_take, List.length_drop]
    show min q l.length + 1 + _ ≤ 90
    omega
  · refine ss_F (tk_lt (ek_ixL (ek_var 1) ek_int (at_nat (n := 0) (num_at e0))) ek_int) (decide_eq_false (by omega)) ?_
    by_cases c29 : d0 = 6 ∧ l.length < 29
    · have fa : ∀ e : Nat, e < 3 → (".a-" : Str).cps.toList[e]? = some (sc e) := by decide +kernel
      refine ss_T (tk_w (wk_and (tk_eqI (ek_ixL (ek_var 1) ek_int (at_nat (n := 0) (num_at e0))) ek_int) (fun h => (wk_and1 (tk_lt (ek_len (n := l.length) T.len (ek_var 0) rfl (by omega)) ek_int))))) (by rw [decide_eq_true (show ((d0 : Nat) : Int) = 6 by omega), decide_eq_true (show (l.length : Int) < 29 by omega)]; rfl) ?_
      refine ss_one (sk_ret (ek_x (z := l ++ List.replicate (1 + d1 % 2) (sc (d2 % 3))) (EK.to (ek_adds (x := ofL l) (y := ofL (List.replicate (1 + d1 % 2) (sc (d2 % 3)))) (ek_var 0) (EK.to (ek_mulS (x := ofL [sc (d2 % 3)]) (ek_ixS (c := sc (d2 % 3)) ek_str (ek_mod (ek_toI T.int (ek_ixL (ek_var 1) ek_int (at_nat (n := 2) (num_at e2)))) ek_int (by decide)) (at_int (Int.emod_nonneg _ (by decide)) (by rw [show ((d2 : Int) % 3).toNat = d2 % 3 by omega]; exact fa _ (Nat.mod_lt _ (by decide)))) (by decide)) (ek_add ek_int (ek_mod (ek_toI T.int (ek_ixL (ek_var 1) ek_int (at_nat (n := 1) (num_at e1)))) ek_int (by decide))) ⟨by show 1 ≤ 1000; decide, by omega, by omega⟩) (by rw [ofL_rep, flat_rep, show ((1 : Int) + (d1 : Int) % 2).toNat = 1 + d1 % 2 by omega])) (by rw [ofL_len, ofL_len, List.length_replicate]; omega)) (by rw [ofL_app])) ?_))
      rw [List.length_append, List.length_replicate]
      omega
    · refine ss_F (tk_w (wk_and (tk_eqI (ek_ixL (ek_var 1) ek_int (at_nat (n := 0) (num_at e0))) ek_int) (fun h => (wk_and1 (tk_lt (ek_len (n := l.length) T.len (ek_var 0) rfl (by omega)) ek_int))))) ?_ ?_
      · by_cases c0 : d0 = 6
        · rw [decide_eq_false (show ¬ (l.length : Int) < 29 by omega), Bool.and_false]
        · rw [decide_eq_false (show ¬ ((d0 : Nat) : Int) = 6 by omega)]; rfl
      · refine ss_one (sk_ret (ek_x (z := l.take (l.length - 1 - d1 % 2)) (EK.to (ek_slS (ek_var 0) ok_none (ok_some (ek_sub (ek_sub (ek_len (n := l.length) T.len (ek_var 0) rfl (by omega)) ek_int) (ek_mod (ek_toI T.int (ek_ixL (ek_var 1) ek_int (at_nat (n := 1) (num_at e1)))) ek_int (by decide)))) (by rw [ofL_len]; omega)) (by rw [cut_take (by omega), show ((l.length : Int) - 1 - (d1 : Int) % 2).toNat = l.length - 1 - d1 % 2 by omega])) ?_))
        rw [List.length_take]
        omega
end
end K71
end
section
namespace K71
open PySem PySem.Spec PyProof.Rows L2 KD
section
variable {P : Program} {w : World} {K : PySem.W.Frag} {mg : Str → Option Value} {base : Heap} {f : Addr} {fd : FuncData} {Ci Cs : Addr}

/-! ### _law_effects -/
def R_effects (K : PySem.W.Frag) (κs : List Kd) (κ : Kd) : Prop := ∃ its : List Itm, iall its ∧ its.length ≤ 30 ∧ κs = [kL K (itsD its)] ∧ κ = kNum K (effs its)
abbrev nmEf : List Str := ["_law_mould", "_law_found", "_law_item", "_law_colour", "_law_worth", "_law_named"]
theorem sc_effects : FnScope nmEf ["_law_mould"] (defScope (top 76)) := ⟨rfl, rfl, rfl, by decide +kernel, rfl, by decide +kernel, by decide +kernel⟩
theorem fin_worth : ∀ n : Nat, n < 8 → ∀ c ∈ cols, (((n : Int) / (c : Int)) % 2 = ((n / c % 2 : Nat) : Int)) ∧ (if decide (((n / c % 2 : Nat) : Int) = 1) then 1 else 2) = v1 (some (.add, n)) c ∧ (if decide (((n / c % 2 : Nat) : Int) = 1) then 0 else 2) = v1 (some (.bl, n)) c := by decide +kernel
theorem ok_effects (F : FnG K "_law_effects" (top 76) f fd) (T : Tx K mg) : FnOk P w K mg base CX0 1 f fd ["_law_mould"] (spF (R_effects K)) := by
  refine def_ok F sc_effects (fun κs κ ⟨_, _, _, e, _⟩ => by rw [e]; rfl) fun cdv A outer s H E κs κ hr h => ?_
  obtain ⟨its, hia, h30, rfl, rfl⟩ := h
  have nd := sc_effects.nd
  refine ss_cons (sk_new 1 nd (by show 1 < 6; decide)) ?_
  refine ss_cons (sk_for PassesOwn.never rfl (ik_list (ek_var 0)) (fun i => [.k (kL K (itsD its)), .own (oL K (numD (effs (its.take i)))), .un, .un, .un, .un]) (.refl _) (fun i x hx => ⟨_, gk_name 2 nd, ?_⟩)) ?_
  · obtain ⟨it, hit, rfl⟩ := map_get hx
    have hi := hia it (List.mem_of_getElem? hit)
    have hlt := lt_get hit
    have e2 : effs (its.take (i + 1)) = effs (its.take i) ++ eff3 it := by unfold effs; rw [take_get hit, List.flatMap_append]; simp
    have hpre : (effs (its.take i)).length ≤ 90 := by rw [effs_len, List.length_take]; omega
    refine ss_one (sk_weakO (sk_for PassesOwn.never rfl (ik_list (ek_lst (ds := numD cols) (ak_cons ek_int (ak_cons ek_int (ak_cons ek_int ak_nil))))) (fun j => [.k (kL K (itsD its)), .own (oL K (numD (effs (its.take i) ++ (eff3 it).take j))), .k (dt K (itD false it)), .un, .un, .un]) (by rw [List.take_zero, List.append_nil]; exact .refl _) (fun j y hy => ⟨_, gk_name 3 nd, ?_⟩)) ?_)
    · obtain ⟨c, hc, rfl⟩ := num_get hy
      have hm := List.mem_of_getElem? hc
      obtain ⟨c1, c2⟩ := col_lt hm
      have hv : (eff3 it)[j]? = some (v1 it c) := map_at hc
      have hl2 : (numD (effs (its.take i) ++ (eff3 it).take j)).length ≤ 1000 := by rw [num_len, List.length_append, List.length_take]; have : (eff3 it).length = 3 := rfl; omega
      refine ss_cons (sk_set 4 nd ek_int) ?_
      have fin : ∀ (z : Nat) (s5 : Sl), z = v1 it c → SsK (Bx P w K mg base nmEf "_law_effects" (defScope (top 76)) f cdv A outer s H E) [(((match (match (defBody (top 76)).drop 1 with | (.For _ _ b _ _) :: _ => b | _ => []) with | (.For _ _ b _ _) :: _ => b | _ => []).getD 2 (.Pass ⟨0, 0, 0, 0⟩)))] [.k (kL K (itsD its)), .own (oL K (numD (effs (its.take i) ++ (eff3 it).take j))), .k (dt K (itD false it)), .k (kI K c), .k (kI K z), s5] (.nx [.k (kL K (itsD its)), .own (oL K (numD (effs (its.take i) ++ (eff3 it).take (j + 1)))), .k (dt K (itD false it)), .un, .un, .un]) := fun z s5 hz => by
        subst hz
        rw [take_get hv, ← List.append_assoc, ← num_app (effs (its.take i) ++ (eff3 it).take j)]
        exact ss_one (sk_weakO (sk_app 1 rfl (ek_var 4) hl2) (.keep (.keep (.keep (.drop (.drop (.drop .nil)))))))
      cases it with
      | none => exact ss_F (tk_notN (ek_var 2)) rfl (fin 2 .un rfl)
      | some q =>
        obtain ⟨dd, n⟩ := q
        have hn : n < 8 := hi
        obtain ⟨f1, f2, f3⟩ := fin_worth n hn c hm
        cases dd with
        | set =>
          refine ss_cons (sk_T (o := .nx [.k (kL K (itsD its)), .own (oL K (numD (effs (its.take i) ++ (eff3 (some (.set, n))).take j))), .k (dt K (itD false (some (.set, n)))), .k (kI K c), .k (kI K (n / c % 2 : Nat)), .k (kI K (n / c % 2 : Nat))]) (tk_notN (ek_var 2)) rfl ?_) (fin (n / c % 2) _ rfl)
          refine ss_cons (sk_set 5 nd (EK.to (ek_mod (ek_toI T.int (ek_fdiv (ek_ixL (ek_var 2) ek_int (at_nat (n := 1) rfl)) (ek_var 3) ⟨by omega, by omega⟩)) ek_int (by decide)) (congrArg PyData.int f1))) ?_
          refine ss_cons (sk_T (tk_eqS (ek_ixL (ek_var 2) ek_int (at_nat (n := 0) rfl)) ek_str) (by decide +kernel) (ss_one (sk_set 4 nd (ek_var 5)))) ?_
          refine ss_F (tk_w (wk_and (l := false) (tk_eqS (ek_ixL (ek_var 2) ek_int (at_nat (n := 0) rfl)) ek_str) (fun h => absurd h (by decide +kernel)))) (by decide +kernel) ?_
          exact ss_F (tk_w (wk_and (l := false) (tk_eqS (ek_ixL (ek_var 2) ek_int (at_nat (n := 0) rfl)) ek_str) (fun h => absurd h (by decide +kernel)))) (by decide +kernel) ss_nil
        | add =>
          refine ss_cons (sk_T (o := .nx [.k (kL K (itsD its)), .own (oL K (numD (effs (its.take i) ++ (eff3 (some (.add, n))).take j))), .k (dt K (itD false (some (.add, n)))), .k (kI K c), .k (kI K ((if decide (((n / c % 2 : Nat) : Int) = 1) then 1 else 2 : Nat))), .k (kI K (n / c % 2 : Nat))]) (tk_notN (ek_var 2)) rfl ?_) (fin _ _ f2)
          refine ss_cons (sk_set 5 nd (EK.to (ek_mod (ek_toI T.int (ek_fdiv (ek_ixL (ek_var 2) ek_int (at_nat (n := 1) rfl)) (ek_var 3) ⟨by omega, by omega⟩)) ek_int (by decide)) (congrArg PyData.int f1))) ?_
          generalize n / c % 2 = b
          refine ss_F (tk_eqS (ek_ixL (ek_var 2) ek_int (at_nat (n := 0) rfl)) ek_str) (by decide +kernel) ?_
          by_cases hb : ((b : Nat) : Int) = 1
          · rw [decide_eq_true hb]
            refine ss_cons (sk_T (tk_w (wk_and (tk_eqS (ek_ixL (ek_var 2) ek_int (at_nat (n := 0) rfl)) ek_str) (fun h => (wk_and1 (tk_eqI (ek_var 5) ek_int))))) (by rw [decide_eq_true hb]; decide +kernel) (ss_one (sk_set 4 nd ek_int))) ?_
            exact ss_F (tk_w (wk_and (l := false) (tk_eqS (ek_ixL (ek_var 2) ek_int (at_nat (n := 0) rfl)) ek_str) (fun h => absurd h (by decide +kernel)))) (by decide +kernel) ss_nil
          · rw [decide_eq_false hb]
            refine ss_F (tk_w (wk_and (tk_eqS (ek_ixL (ek_var 2) ek_int (at_nat (n := 0) rfl)) ek_str) (fun h => (wk_and1 (tk_eqI (ek_var 5) ek_int))))) (by rw [decide_eq_false hb, Bool.and_false]) ?_
            exact ss_F (tk_w (wk_and (l := false) (tk_eqS (ek_ixL (ek_var 2) ek_int (at_nat (n := 0) rfl)) ek_str) (fun h => absurd h (by decide +kernel)))) (by decide +kernel) ss_nil
        | bl =>
          refine ss_cons (sk_T (o := .nx [.k (kL K (itsD its)), .own (oL K (numD (effs (its.take i) ++ (eff3 (some (.bl, n))).take j))), .k (dt K (itD false (some (.bl, n)))), .k (kI K c), .k (kI K ((if decide (((n / c % 2 : Nat) : Int) = 1) then 0 else 2 : Nat))), .k (kI K (n / c % 2 : Nat))]) (tk_notN (ek_var 2)) rfl ?_) (fin _ _ f3)
          refine ss_cons (sk_set 5 nd (EK.to (ek_mod (ek_toI T.int (ek_fdiv (ek_ixL (ek_var 2) ek_int (at_nat (n := 1) rfl)) (ek_var 3) ⟨by omega, by omega⟩)) ek_int (by decide)) (congrArg PyData.int f1))) ?_
          generalize n / c % 2 = b
          refine ss_F (tk_eqS (ek_ixL (ek_var 2) ek_int (at_nat (n := 0) rfl)) ek_str) (by decide +kernel) ?_
          refine ss_F (tk_w (wk_and (l := false) (tk_eqS (ek_ixL (ek_var 2) ek_int (at_nat (n := 0) rfl)) ek_str) (fun h => absurd h (by decide +kernel)))) (by decide +kernel) ?_
          by_cases hb : ((b : Nat) : Int) = 1
          · rw [decide_eq_true hb]
            exact ss_one (sk_T (tk_w (wk_and (tk_eqS (ek_ixL (ek_var 2) ek_int (at_nat (n := 0) rfl)) ek_str) (fun h => (wk_and1 (tk_eqI (ek_var 5) ek_int))))) (by rw [decide_eq_true hb]; decide +kernel) (ss_one (sk_set 4 nd ek_int)))
          · rw [decide_eq_false hb]
            exact ss_F (tk_w (wk_and (tk_eqS (ek_ixL (ek_var 2) ek_int (at_nat (n := 0) rfl)) ek_str) (fun h => (wk_and1 (tk_eqI (ek_var 5) ek_int))))) (by rw [decide_eq_false hb, Bool.and_false]) ss_nil
    · show Le [_, .own (oL K (numD (effs (its.take (i + 1))))), .un, .un, .un, .un] [_, .own (oL K (numD (effs (its.take i) ++ (eff3 it).take 3))), _, _, _, _]
      rw [e2, List.take_of_length_le (l := eff3 it) (Nat.le_refl 3)]
      exact .keep (.keep (.drop (.drop (.drop (.drop .nil)))))
  · rw [its_len, List.take_length]
    refine ss_freeze 1 rfl ?_
    exact ss_one (sk_ret (ek_var 1))

/-! ### _law_ink_net -/
theorem names_str (ns : List (List Nat)) : PyData.list (namesD ns) = PyData.list ((ns.map ofL).map PyData.str) := by unfold namesD; rw [List.map_map]; rfl
theorem ek_index_nm {X : Cx} {ρ : List Sl} {a e : Expr} {apos pos : Pos} {ns : List (List Nat)} {j : Nat} {n : List Nat} (ha : EK X a ρ (kL X.K (namesD ns))) (he : EK X e ρ (kS X.K (ofL n))) (hn : ns[j]? = some n) (hnd : ns.Nodup)
    (hbase : attributeBase a "index" X.env (eval a X.env) = eval a X.env := by rfl)
    (hfew : ((backTo pos (starEach (e :: []) X.env)).all (fun x => !x.1) && (backToKw pos (keywordEach [] X.env)).all (fun x => x.1.isSome)
      && decide ((e :: []).length + ([] : List Keyword).length + (if ([] : List Keyword).isEmpty then 0 else 1) < 30)) = true := by rfl)
    (hline : (apos.endLine == pos.line) = true := by rfl) (hs : starEach (e :: []) X.env = (false, eval e X.env) :: starEach [] X.env := by rfl) (hplain : (backTo pos (starEach [] X.env)).any (·.1) = false := by rfl) : EK X (.Call (.Attribute a "index" apos) [e] [] pos) ρ (kI X.K j) := by
  refine ek_index (EK.to ha (names_str ns)) he (map_at hn) (fun m z hm hz => ?_) hbase hfew hline hs hplain
  obtain ⟨y, hy, rfl⟩ := map_get hz
  intro e
  have e2 := ofL_inj e
  subst e2
  have h1 := lt_get hy
  have h2 := lt_get hn
  rw [List.getElem?_eq_getElem h1] at hy
  rw [List.getElem?_eq_getElem h2] at hn
  have := (List.getElem_inj hnd).mp ((Option.some.inj hy).trans (Option.some.inj hn).symm)
  omega
def effD (ss : Pls) : List PyData := ss.map fun q => .list (numD q.2)
def R_law_ink_net (K : PySem.W.Frag) (κs : List Kd) (κ : Kd) : Prop := ∃ (w : Nat) (ss : Pls) (J : List Nat), Pd w ss ∧ Jok ss.length J ∧ κs = [kL K (namesD (ss.map (·.1))), kL K (effD ss), kL K (rowD (ss.map (·.1)) J), kI K (3 * w : Nat)] ∧ κ = kNum K (netV w ss J)
abbrev nmNt : List Str := ["_law_names", "_law_effects_here", "_law_line", "_law_many", "_law_net", "_law_name", "_law_effect", "_law_k"]
theorem sc_law_ink_net : FnScope nmNt ["_law_names", "_law_effects_here", "_law_line", "_law_many"] (defScope (top 77)) := ⟨rfl, rfl, rfl, by decide +kernel, rfl, by decide +kernel, by decide +kernel⟩
theorem ok_law_ink_net (F : FnG K "_law_ink_net" (top 77) f fd) (T : Tx K mg) : FnOk P w K mg base CX0 1 f fd ["_law_names", "_law_effects_here", "_law_line", "_law_many"] (spF (R_law_ink_net K)) := by
  refine def_ok F sc_law_ink_net (fun κs κ ⟨_, _, _, _, _, e, _⟩ => by rw [e]; rfl) fun cdv A outer s H E κs κ hr h => ?_
  obtain ⟨n, ss, J, hw, hJ, rfl, rfl⟩ := h
  have nd := sc_law_ink_net.nd
  have w10 := hw.w10
  refine ss_cons (sk_set 4 nd (EK.to (d' := .list (numD (List.replicate (3 * n) 2))) (ek_repL (ds := [.int 2]) (ak_cons ek_int ak_nil) (ek_var 3) ⟨by decide, by omega, by omega, by show 1 * _ ≤ 1000; omega⟩) (by rw [Int.toNat_natCast]; exact congrArg PyData.list (num_rep (3 * n) 2)))) ?_
  refine ss_cons (sk_for PassesOwn.never rfl (ik_list (ek_var 2)) (fun i => [.k (kL K (namesD (ss.map (·.1)))), .k (kL K (effD ss)), .k (kL K (rowD (ss.map (·.1)) J)), .k (kI K (3 * n : Nat)), .k (kNum K (netV n ss (J.take i))), .un, .un, .un]) (.refl _) (fun i x hx => ⟨_, gk_name 5 nd, ?_⟩)) ?_
  · obtain ⟨j, hj, rfl⟩ := row_get hx
    obtain ⟨q, hq, eq⟩ := get_at (hJ.2 j (List.mem_of_getElem? hj))
    have hm := List.mem_of_getElem? hq
    have hql := hw.ln q hm
    rw [name_at hq]
    obtain ⟨r1, r2⟩ := runV_ok hw (jok_take hJ i) (v := List.replicate (3 * n) 2) List.length_replicate (l3_rep _)
    have e1 : netV n ss (J.take (i + 1)) = pressV (netV n ss (J.take i)) q.2 := by unfold netV; rw [take_get hj, runV_snoc, eq]
    have r1 : (netV n ss (J.take i)).length = 3 * n := r1
    generalize netV n ss (J.take i) = v at r1 e1
    refine ss_cons (sk_set 6 nd (ek_ixL (ds := effD ss) (d := .list (numD q.2)) (ek_var 1) (ek_index_nm (ek_var 0) (ek_var 5) (map_at hq) hw.nd) (at_nat (by unfold effD; exact map_at hq)))) ?_
    show SsK _ _ _ (.nx [_, _, _, _, .k (kNum K (netV n ss (J.take (i + 1)))), .un, .un, .un])
    rw [e1]
    refine ss_one (sk_weakO (sk_set 4 nd (ek_lc (numD (pressV v q.2)) rfl nd (ik_range T.range (ek_var 3) ⟨by omega, by omega⟩) (blkOk_by (N := nmNt) (sc := defScope (top 77)) (own := [("_law_k", 7)]) (by decide +kernel)) (fun k => [.k (kL K (namesD (ss.map (·.1)))), .k (kL K (effD ss)), .k (kL K (rowD (ss.map (·.1)) J)), .k (kI K (3 * n : Nat)), .k (kNum K v), .k (kS K (ofL q.1)), .k (kL K (numD q.2)), .k (kI K (k : Nat))]) ?hl ?hz (fun k d hd s H C cl fp => ?bg) (fun k d e hd he s H C cl fp => ?el))) (.keep (.keep (.keep (.keep (.keep (.drop (.drop (.drop .nil)))))))))
    case hl => rw [rlen, num_len, pressV_len (by omega), r1]
    case hz => rw [rlen]; omega
    case bg => obtain ⟨_, rfl⟩ := range_get hd; exact bg_name 7 (by decide) nd
    case el =>
      obtain ⟨hlt, rfl⟩ := range_get hd
      obtain ⟨x, hx⟩ := get_lt (l := v) (i := k) (by omega)
      obtain ⟨y, hy⟩ := get_lt (l := q.2) (i := k) (by omega)
      unfold pressV at he
      rw [num_at (zw_get hx hy)] at he
      cases he
      refine ek_ixL (ek_lst (ds := [.int y, .int x]) (ak_cons (ek_ixL (d := .int y) (ek_var 6) (ek_var 7) (at_nat (num_at hy))) (ak_cons (ek_ixL (d := .int x) (ek_var 4) (ek_var 7) (at_nat (num_at hx))) ak_nil))) (ek_toIB T.int (ek_eqI (ek_ixL (d := .int y) (ek_var 6) (ek_var 7) (at_nat (num_at hy))) ek_int)) ?_
      unfold pr
      by_cases c : y = 2
      · rw [decide_eq_true (show ((y : Nat) : Int) = 2 by omega), if_pos c]; rfl
      · rw [decide_eq_false (show ¬ ((y : Nat) : Int) = 2 by omega), if_neg c]; rfl
  · refine ss_one (sk_ret (EK.to (ek_var 4) ?_))
    rw [row_len, List.take_length]

/-! ### _law_other -/
def othS : List Nat := 6 :: 60 :: rowS
def R_other (K : PySem.W.Frag) (κs : List Kd) (κ : Kd) : Prop := ∃ (ns : List (List Nat)) (J ds : List Nat), ns.length ≤ 10 ∧ Jk ns.length J ∧ Dg [6, 60, 12, 60, 60, 60, 60, 60, 60, 60, 60, 60] ds ∧ κs = [kL K (namesD ns), kL K (rowD ns J), kNum K ds] ∧ κ = xk (Jk ns.length) fun J => kL K (rowD ns J)
abbrev nmOt : List Str := ["_law_names", "_law_line", "_law_digits_here", "_law_at", "_law_early"]
theorem sc_other : FnScope nmOt ["_law_names", "_law_line", "_law_digits_here"] (defScope (top 79)) := ⟨rfl, rfl, rfl, by decide +kernel, rfl, by decide +kernel, by decide +kernel⟩
theorem row_take (ns : List (List Nat)) (J : List Nat) (a : Nat) : (rowD ns J).take a = rowD ns (J.take a) := by unfold rowD; rw [List.map_take]
theorem row_drop (ns : List (List Nat)) (J : List Nat) (a : Nat) : (rowD ns J).drop a = rowD ns (J.drop a) := by unfold rowD; rw [List.map_drop]
theorem row_app (ns : List (List Nat)) (J L : List Nat) : rowD ns J ++ rowD ns L = rowD ns (J ++ L) := by unfold rowD; rw [List.map_append]
theorem jk_sub {n : Nat} {J L : List Nat} (h : Jk n J) (hl : L.length ≤ 60) (hs : ∀ j ∈ L, j ∈ J) : Jk n L := ⟨hl, fun j hj => h.2 j (hs j hj)⟩
theorem ok_other (F : FnG K "_law_other" (top 79) f fd) (T : Tx K mg) (D_ink_row : Df P w K mg base 1 "_law_ink_row" ["_law_names", "_law_digits_here"] (R_ink_row K)) : FnOk P w K mg base CX0 2 f fd ["_law_names", "_law_line", "_law_digits_here"] (spF (R_other K)) := by
  refine def_ok F sc_other (fun κs κ ⟨_, _, _, _, _, _, e, _⟩ => by rw [e]; rfl) fun cdv A outer s H E κs κ hr h => ?_
  obtain ⟨ns, J, ds, hn, hJ, hD, rfl, rfl⟩ := h
  have nd := sc_other.nd
  obtain ⟨d0, e0, b0⟩ := hD.at_ (i := 0) rfl
  obtain ⟨d1, e1, b1⟩ := hD.at_ (i := 1) rfl
  obtain ⟨d2, e2, b2⟩ := hD.at_ (i := 2) rfl
  have J60 := hJ.1
  by_cases c0 : d0 = 0 ∨ J.length = 0
  · refine ss_T (tk_w (wk_or (tk_eqI (ek_ixL (ek_var 2) ek_int (at_nat (n := 0) (num_at e0))) ek_int) (fun h => (wk_or1 (tk_eqI (ek_len (n := J.length) T.len (ek_var 1) (by exact congrArg some (row_len ns J)) (by omega)) ek_int))))) ?_ (ss_one (sk_ret (ek_call D_ink_row (hr.mono (by decide)) (ak_cons (ek_var 0) (ak_cons (EK.to (ek_slL (ek_var 2) (ok_some ek_int) ok_none) (d' := .list (numD (ds.drop 2))) (by rw [cutD_drop (by decide)]; unfold numD; rw [← List.map_drop]; rfl)) ak_nil)) ⟨ns, ds.drop 2, hn, ?_, rfl, rfl⟩)))
    · rcases c0 with c | c
      · rw [decide_eq_true (show ((d0 : Nat) : Int) = 0 by omega)]; rfl
      · rw [decide_eq_true (show ((J.length : Nat) : Int) = 0 by omega), Bool.or_true]
    · refine ⟨by rw [List.length_drop, hD.1]; rfl, fun i d m h1 h2 => ?_⟩
      rw [List.getElem?_drop] at h1
      refine hD.2 (2 + i) d m h1 ?_
      show ([6, 60, 12, 60, 60, 60, 60, 60, 60, 60, 60, 60] : List Nat)[2 + i]? = some m
      rw [Nat.add_comm]
      exact h2
  · have hd0 : d0 ≠ 0 := fun z => c0 (.inl z)
    have hJ0 : J.length ≠ 0 := fun z => c0 (.inr z)
    refine ss_F (tk_w (wk_or (tk_eqI (ek_ixL (ek_var 2) ek_int (at_nat (n := 0) (num_at e0))) ek_int) (fun h => (wk_or1 (tk_eqI (ek_len (n := J.length) T.len (ek_var 1) (by exact congrArg some (row_len ns J)) (by omega)) ek_int))))) (by rw [decide_eq_false (show ¬ ((d0 : Nat) : Int) = 0 by omega), decide_eq_false (show ¬ ((J.length : Nat) : Int) = 0 by omega)]; rfl) ?_
    have hq : d1 % J.length < J.length := Nat.mod_lt _ (by omega)
    refine ss_cons (sk_set 3 nd (EK.to (d' := .int (d1 % J.length : Nat)) (ek_mod (ek_toI T.int (ek_ixL (ek_var 2) ek_int (at_nat (n := 1) (num_at e1)))) (ek_len (n := J.length) T.len (ek_var 1) (by exact congrArg some (row_len ns J)) (by omega)) (by omega)) (by rw [Int.natCast_emod]))) ?_
    generalize d1 % J.length = q at hq
    obtain ⟨jq, hjq⟩ := get_lt hq
    have atq : atI (rowD ns J) (q : Int) = some (.str (ofL (ns.getD jq []))) := at_nat (by unfold rowD; exact map_at hjq)
    have mq := List.mem_of_getElem? hjq
    by_cases c2 : d0 ≤ 2
    · refine ss_T (tk_le (ek_ixL (ek_var 2) ek_int (at_nat (n := 0) (num_at e0))) ek_int) (decide_eq_true (by omega)) ?_
      refine ss_cons (sk_set 4 nd (EK.to (d' := .int (d2 % (q + 1) : Nat)) (ek_mod (ek_toI T.int (ek_ixL (ek_var 2) ek_int (at_nat (n := 2) (num_at e2)))) (ek_add (ek_var 3) ek_int) (by omega)) (by rw [Int.natCast_emod]; rfl))) ?_
      generalize d2 % (q + 1) = r
      refine ss_one (sk_ret (ek_x (z := ((J.take r ++ [jq]) ++ J.drop r).take 60) (EK.to (ek_slL (ds := rowD ns ((J.take r ++ [jq]) ++ J.drop r)) (EK.to (ek_catL (ds := rowD ns (J.take r ++ [jq])) (es := rowD ns (J.drop r)) (EK.to (ek_catL (ds := rowD ns (J.take r)) (es := rowD ns [jq]) (EK.to (ek_slL (ek_var 1) ok_none (ok_some (ek_var 4))) (by rw [cutD_take (by omega), Int.toNat_natCast, row_take])) (ek_lst (ds := rowD ns [jq]) (ak_cons (ek_ixL (ek_var 1) (ek_var 3) atq) ak_nil)) (by rw [row_len, row_len, List.length_take]; show _ + 1 ≤ 1000; omega)) (by rw [row_app])) (EK.to (ek_slL (ek_var 1) (ok_some (ek_var 4)) ok_none) (by rw [cutD_drop (by omega), Int.toNat_natCast, row_drop])) (by rw [row_len, row_len, List.length_append, List.length_take, List.length_drop]; show _ + 1 + _ ≤ 1000; omega)) (by rw [row_app])) ok_none (ok_some ek_int)) (by rw [cutD_take (by decide), row_take]; rfl)) (jk_sub hJ (by rw [List.length_take]; omega) (fun j hj => ?_))))
      have := List.mem_of_mem_take hj
      rcases List.mem_append.mp this with z | z
      · rcases List.mem_append.mp z with z | z
        · exact List.mem_of_mem_take z
        · rw [List.mem_singleton.mp z]; exact mq
      · exact List.mem_of_mem_drop z
    · refine ss_F (tk_le (ek_ixL (ek_var 2) ek_int (at_nat (n := 0) (num_at e0))) ek_int) (decide_eq_false (by omega)) ?_
      by_cases c3 : d0 = 3 ∧ q + 1 < J.length
      · refine ss_T (tk_w (wk_and (tk_eqI (ek_ixL (ek_var 2) ek_int (at_nat (n := 0) (num_at e0))) ek_int) (fun h => (wk_and1 (tk_lt (ek_add (ek_var 3) ek_int) (ek_len (n := J.length) T.len (ek_var 1) (by exact congrArg some (row_len ns J)) (by omega))))))) (by rw [decide_eq_true (show ((d0 : Nat) : Int) = 3 by omega), decide_eq_true (show (q : Int) + 1 < (J.length : Int) by omega)]; rfl) ?_
        obtain ⟨jr, hjr⟩ := get_lt c3.2
        have mr := List.mem_of_getElem? hjr
        refine ss_one (sk_ret (ek_x (z := (J.take q ++ [jr, jq]) ++ J.drop (q + 2)) (EK.to (ek_catL (ds := rowD ns (J.take q ++ [jr, jq])) (es := rowD ns (J.drop (q + 2))) (EK.to (ek_catL (ds := rowD ns (J.take q)) (es := rowD ns [jr, jq]) (EK.to (ek_slL (ek_var 1) ok_none (ok_some (ek_var 3))) (by rw [cutD_take (by omega), Int.toNat_natCast, row_take])) (ek_lst (ds := rowD ns [jr, jq]) (ak_cons (ek_ixL (ek_var 1) (ek_add (ek_var 3) ek_int) (at_int (by omega) (by rw [show ((q : Int) + 1).toNat = q + 1 by omega]; unfold rowD; exact map_at hjr))) (ak_cons (ek_ixL (ek_var 1) (ek_var 3) atq) ak_nil))) (by rw [row_len, row_len, List.length_take]; show _ + 2 ≤ 1000; omega)) (by rw [row_app])) (EK.to (ek_slL (ek_var 1) (ok_some (ek_add (ek_var 3) ek_int)) ok_none) (by rw [cutD_drop (by omega), show ((q : Int) + 2).toNat = q + 2 by omega, row_drop])) (by rw [row_len, row_len, List.length_append, List.length_take, List.length_drop]; show _ + 2 + _ ≤ 1000; omega)) (by rw [row_app])) (jk_sub hJ (by rw [List.length_append, List.length_append, List.length_take, List.length_drop]; show _ + 2 + _ ≤ 60; omega) (fun j hj => ?_))))
        rcases List.mem_append.mp hj with z | z
        · rcases List.mem_append.mp z with z | z
          · exact List.mem_of_mem_take z
          · rcases List.mem_cons.mp z with z | z
            · rw [z]; exact mr
            · rw [List.mem_singleton.mp z]; exact mq
        · exact List.mem_of_mem_drop z
      · refine ss_F (tk_w (wk_and (tk_eqI (ek_ixL (ek_var 2) ek_int (at_nat (n := 0) (num_at e0))) ek_int) (fun h => (wk_and1 (tk_lt (ek_add (ek_var 3) ek_int) (ek_len (n := J.length) T.len (ek_var 1) (by exact congrArg some (row_len ns J)) (by omega))))))) ?_ ?_
        · by_cases z : d0 = 3
          · rw [decide_eq_false (show ¬ (q : Int) + 1 < (J.length : Int) by omega), Bool.and_false]
          · rw [decide_eq_false (show ¬ ((d0 : Nat) : Int) = 3 by omega)]; rfl
        · by_cases c4 : d0 = 4
          · refine ss_T (tk_eqI (ek_ixL (ek_var 2) ek_int (at_nat (n := 0) (num_at e0))) ek_int) (decide_eq_true (by omega)) ?_
            refine ss_one (sk_ret (ek_x (z := J.take q ++ J.drop (q + 1)) (EK.to (ek_catL (ds := rowD ns (J.take q)) (es := rowD ns (J.drop (q + 1))) (EK.to (ek_slL (ek_var 1) ok_none (ok_some (ek_var 3))) (by rw [cutD_take (by omega), Int.toNat_natCast, row_take])) (EK.to (ek_slL (ek_var 1) (ok_some (ek_add (ek_var 3) ek_int)) ok_none) (by rw [cutD_drop (by omega), show ((q : Int) + 1).toNat = q + 1 by omega, row_drop])) (by rw [row_len, row_len, List.length_take, List.length_drop]; omega)) (by rw [row_app])) (jk_sub hJ (by rw [List.length_append, List.length_take, List.length_drop]; omega) (fun j hj => ?_))))
            rcases List.mem_append.mp hj with z | z
            · exact List.mem_of_mem_take z
            · exact List.mem_of_mem_drop z
          · refine ss_F (tk_eqI (ek_ixL (ek_var 2) ek_int (at_nat (n := 0) (num_at e0))) ek_int) (decide_eq_false (by omega)) ?_
            exact ss_one (sk_ret (ek_x (z := J) (ek_list1 T.list (ek_var 1) rfl) hJ))
end
end K71
end
section
namespace K71
open PySem PySem.Spec PyProof.Rows L2 KD
/-! ### cells of values -/
theorem cell_map (v : List Nat) (g : Nat → Nat) (i : Nat) : cell (v.map g) i = (cell v i).map g := by unfold cell; rw [← List.map_drop, ← List.map_take]
theorem cell_at {v : List Nat} {i k : Nat} (hk : k < 3) : (cell v i)[k]? = v[3 * i + k]? := by
  unfold cell
  rw [List.getElem?_take, if_pos hk, List.getElem?_drop]
/-- a page under a net -/
def byC (d : Nat) (s : List Nat) : Nat := ((List.range 3).map fun k => cols.getD k 0 * pr (d / cols.getD k 0 % 2) (s.getD k 0)).sum
def byV (p v : List Nat) : List Nat := (List.range p.length).map fun i => byC (p.getD i 0) (cell v i)
/-- the sheet that tells two nets apart -/
structure Part (w : Nat) (v u p : List Nat) : Prop where
  len : p.length = w
  d8 : d8 p
  ne : byV p v ≠ byV p u
def partP (w at_ x y : Nat) : List Nat := List.replicate (at_ / 3) 0 ++ [if x + y = 2 then cols.getD (at_ % 3) 0 else 0] ++ List.replicate (w - at_ / 3 - 1) 0
theorem sc97 {x : Nat} (h : x < 3) : sc x = 97 ↔ x = 1 := by
  match x, h with
  | 0, _ => exact ⟨fun z => absurd z (by decide), fun z => nomatch z⟩
  | 1, _ => exact ⟨fun _ => rfl, fun _ => rfl⟩
  | 2, _ => exact ⟨fun z => absurd z (by decide), fun z => nomatch z⟩
theorem sc46 {x : Nat} (h : x < 3) : sc x = 46 ↔ x = 0 := by
  match x, h with
  | 0, _ => exact ⟨fun _ => rfl, fun _ => rfl⟩
  | 1, _ => exact ⟨fun z => absurd z (by decide), fun z => nomatch z⟩
  | 2, _ => exact ⟨fun z => absurd z (by decide), fun z => nomatch z⟩
def cwV (s : List Nat) (x : Nat) : Nat := ((List.range 3).map fun k => cols.getD k 0 * (if s.getD k 0 = x then 1 else 0)).sum
theorem cwV_eq (s : List Nat) (x : Nat) : cwV s x = (if s.getD 0 0 = x then 1 else 0) + (if s.getD 1 0 = x then 2 else 0) + (if s.getD 2 0 = x then 4 else 0) := by
  show 1 * (if s.getD 0 0 = x then 1 else 0) + (2 * (if s.getD 1 0 = x then 1 else 0) + (4 * (if s.getD 2 0 = x then 1 else 0) + 0)) = _
  split <;> split <;> split <;> rfl
theorem cw_sc {s : List Nat} (hl : s.length = 3) (h3 : l3 s) : cw (s.map sc) 97 = cwV s 1 ∧ cw (s.map sc) 46 = cwV s 0 := by
  obtain ⟨a, b, c, rfl⟩ : ∃ a b c, s = [a, b, c] := by
    match s, hl with
    | [a, b, c], _ => exact ⟨a, b, c, rfl⟩
  have ha := h3 a (by simp)
  have hb := h3 b (by simp)
  have hc := h3 c (by simp)
  rw [cwV_eq, cwV_eq]
  show ((if sc a = 97 then 1 else 0) + (if sc b = 97 then 2 else 0) + (if sc c = 97 then 4 else 0) = (if a = 1 then 1 else 0) + (if b = 1 then 2 else 0) + (if c = 1 then 4 else 0)) ∧
    ((if sc a = 46 then 1 else 0) + (if sc b = 46 then 2 else 0) + (if sc c = 46 then 4 else 0) = (if a = 0 then 1 else 0) + (if b = 0 then 2 else 0) + (if c = 0 then 4 else 0))
  simp only [sc97 ha, sc97 hb, sc97 hc, sc46 ha, sc46 hb, sc46 hc, and_self]
theorem sum_int (l : List Nat) : (l.map fun d : Nat => (d : Int)).sum = ((l.sum : Nat) : Int) := by
  induction l with
  | nil => rfl
  | cons x r ih => rw [List.map_cons, List.sum_cons, List.sum_cons, ih]; omega
theorem l3_cell {v : List Nat} (h : l3 v) (i : Nat) : l3 (cell v i) := fun x hx => h x (List.mem_of_mem_drop (List.mem_of_mem_take hx))
section
variable {P : Program} {w : World} {K : PySem.W.Frag} {mg : Str → Option Value} {base : Heap} {f : Addr} {fd : FuncData} {Ci Cs : Addr}

/-! ### _law_pairs_right -/
def R_pairs_right (K : PySem.W.Frag) (κs : List Kd) (κ : Kd) : Prop := ∃ (w : Nat) (v : List Nat), w ≤ 10 ∧ v.length = 3 * w ∧ l3 v ∧ κs = [kT K ((pairsN w v).map k71D), kNum K v] ∧ κ = kB K true
abbrev nmPp : List Str := ["_law_told", "_law_net", "_law_cell_here", "_law_pair", "_law_on", "_law_k", "_law_off"]
theorem sc_pairs_right : FnScope nmPp ["_law_told", "_law_net"] (defScope (top 80)) := ⟨rfl, rfl, rfl, by decide +kernel, rfl, by decide +kernel, by decide +kernel⟩
theorem pairs_len (w : Nat) (v : List Nat) : ((pairsN w v).map k71D).length = w := by unfold pairsN; rw [List.length_map, List.length_map, List.length_range]
theorem ok_pairs_right (F : FnG K "_law_pairs_right" (top 80) f fd) (T : Tx K mg) (D_kind : Df P w K mg base 1 "_law_kind" ["_law_thing"] (R_kind K)) : FnOk P w K mg base CX0 2 f fd ["_law_told", "_law_net"] (spF (R_pairs_right K)) := by
  refine def_ok F sc_pairs_right (fun κs κ ⟨_, _, _, _, _, e, _⟩ => by rw [e]; rfl) fun cdv A outer s H E κs κ hr h => ?_
  obtain ⟨n, v, w10, hv, h3, rfl, rfl⟩ := h
  have nd := sc_pairs_right.nd
  refine ss_F (tk_w (wk_or (tk_not (tk_val (ek_isi T.isinstance (ek_var 0) (ek_ty T.tuple boot_tuple) (by exact kit_tup_tup)))) (fun h => (wk_or1 (tk_neI (ek_len (n := n) T.len (ek_var 0) (by exact congrArg some (pairs_len n v)) (by omega)) (ek_fdiv (ek_len (n := v.length) T.len (ek_var 1) (by exact congrArg some (num_len v)) (by omega)) ek_int ⟨by decide, by decide⟩)))))) ?_ ?_
  · rw [hv, decide_eq_true (show (n : Int) = ((3 * n : Nat) : Int) / 3 by omega)]
    rfl
  refine ss_cons (sk_for PassesOwn.never rfl (ik_range T.range (ek_len (n := n) T.len (ek_var 0) (by exact congrArg some (pairs_len n v)) (by omega)) ⟨by omega, by omega⟩) (fun i => [.k (kT K ((pairsN n v).map k71D)), .k (kNum K v), .un, .un, .un, .un, .un]) (.refl _) (fun i x hx => ⟨_, gk_name 2 nd, ?_⟩)) (ss_one (sk_ret ek_bl))
  obtain ⟨hi, rfl⟩ := range_get hx
  have hc3 : (cell v i).length = 3 := by unfold cell; rw [List.length_take, List.length_drop]; omega
  obtain ⟨c1, c2⟩ := cw_sc hc3 (l3_cell h3 i)
  have hat : ((pairsN n v).map k71D)[i]? = some (k71D (cwV (cell v i) 1, cwV (cell v i) 0)) := by
    unfold pairsN
    rw [map_at (map_at (range_at hi)), cell_map, c1, c2]
  refine ss_cons (sk_set 3 nd (ek_ixT (d := k71D (cwV (cell v i) 1, cwV (cell v i) 0)) (ek_var 0) (ek_var 2) (at_nat hat))) ?_
  refine ss_F (tk_w (wk_or (tk_not (tk_val (ek_isi T.isinstance (ek_var 3) (ek_ty T.tuple boot_tuple) (by exact kit_tup_tup)))) (fun h => (wk_or (tk_neI (ek_len (n := 2) T.len (ek_var 3) rfl (by decide)) ek_int) (fun h => (wk_or (tk_not (tk_val (ek_call D_kind (hr.mono (by decide)) (ak_cons (ek_ixT (d := .int (cwV (cell v i) 1)) (ek_var 3) ek_int (at_nat (n := 0) rfl)) ak_nil) ⟨_, rfl, rfl⟩))) (fun h => (wk_or1 (tk_not (tk_val (ek_call D_kind (hr.mono (by decide)) (ak_cons (ek_ixT (d := .int (cwV (cell v i) 0)) (ek_var 3) ek_int (at_nat (n := 1) rfl)) ak_nil) ⟨_, rfl, rfl⟩))))))))))) rfl ?_
  have one : ∀ (k x : Nat), k < 3 → ∃ y, v[3 * i + k]? = some y ∧ (cell v i).getD k 0 = y := fun k x hk => by
    obtain ⟨y, hy⟩ := get_lt (l := v) (i := 3 * i + k) (by omega)
    exact ⟨y, hy, getD_of (by rw [cell_at hk]; exact hy)⟩
  have comp : ∀ x : Nat, (numD ((List.range 3).map fun k => cols.getD k 0 * (if (cell v i).getD k 0 = x then 1 else 0))) = ((((List.range 3).map fun k => cols.getD k 0 * (if (cell v i).getD k 0 = x then 1 else 0)).map fun d : Nat => (d : Int)).map PyData.int) := fun x => by unfold numD; rw [List.map_map]; rfl
  refine ss_cons (sk_set 4 nd (κ := kI K (cwV (cell v i) 1)) (EK.to (ek_sum rfl T.sum (EK.to (ek_lc (numD ((List.range 3).map fun k => cols.getD k 0 * (if (cell v i).getD k 0 = 1 then 1 else 0))) rfl nd (ik_range T.range ek_int ⟨by decide, by decide⟩) (blkOk_by (N := nmPp) (sc := defScope (top 80)) (own := [("_law_k", 5)]) (by decide +kernel)) (fun k => [.k (kT K ((pairsN n v).map k71D)), .k (kNum K v), .k (kI K i), .k (dt K (k71D (cwV (cell v i) 1, cwV (cell v i) 0))), .un, .k (kI K (k : Nat)), .un]) ?hl1 ?hz1 (fun k d hd s H C cl fp => ?bg1) (fun k d e hd he s H C cl fp => ?el1)) (congrArg PyData.list (comp 1)))) ?eq1)) ?_
  case hl1 => rfl
  case hz1 => decide
  case bg1 => obtain ⟨_, rfl⟩ := range_get (n := 3) hd; exact bg_name 5 (by decide) nd
  case el1 =>
    obtain ⟨hk, rfl⟩ := range_get (n := 3) hd
    rw [num_at (map_at (range_at hk))] at he
    cases he
    obtain ⟨y, hy, hg⟩ := one k 1 hk
    rw [hg]
    obtain ⟨c, hc⟩ := get_lt (l := cols) (i := k) hk
    rw [getD_of hc]
    have hcl := col_lt (List.mem_of_getElem? hc)
    refine EK.to (ek_mul (ek_ixL (d := .int c) (ek_lst (ds := numD cols) (ak_cons ek_int (ak_cons ek_int (ak_cons ek_int ak_nil)))) (ek_var 5) (at_nat (num_at hc))) (ek_toIB T.int (ek_eqI (ek_ixL (d := .int y) (ek_var 1) (ek_add (ek_mul ek_int (ek_var 2) (.inl (by decide))) (ek_var 5)) (at_int (by omega) (by rw [show (3 * (i : Int) + (k : Int)).toNat = 3 * i + k by omega]; exact num_at hy))) ek_int)) (.inl ⟨by omega, by omega⟩)) ?_
    by_cases z : y = 1
    · rw [decide_eq_true (show ((y : Nat) : Int) = 1 by omega), if_pos z]; congr 1
    · rw [decide_eq_false (show ¬ ((y : Nat) : Int) = 1 by omega), if_neg z]; congr 1
  case eq1 => rw [sum_int]; rfl
  refine ss_cons (sk_set 6 nd (κ := kI K (cwV (cell v i) 0)) (EK.to (ek_sum rfl T.sum (EK.to (ek_lc (numD ((List.range 3).map fun k => cols.getD k 0 * (if (cell v i).getD k 0 = 0 then 1 else 0))) rfl nd (ik_range T.range ek_int ⟨by decide, by decide⟩) (blkOk_by (N := nmPp) (sc := defScope (top 80)) (own := [("_law_k", 5)]) (by decide +kernel)) (fun k => [.k (kT K ((pairsN n v).map k71D)), .k (kNum K v), .k (kI K i), .k (dt K (k71D (cwV (cell v i) 1, cwV (cell v i) 0))), .k (kI K (cwV (cell v i) 1)), .k (kI K (k : Nat)), .un]) ?hl2 ?hz2 (fun k d hd s H C cl fp => ?bg2) (fun k d e hd he s H C cl fp => ?el2)) (congrArg PyData.list (comp 0)))) ?eq2)) ?_
  case hl2 => rfl
  case hz2 => decide
  case bg2 => obtain ⟨_, rfl⟩ := range_get (n := 3) hd; exact bg_name 5 (by decide) nd
  case el2 =>
    obtain ⟨hk, rfl⟩ := range_get (n := 3) hd
    rw [num_at (map_at (range_at hk))] at he
    cases he
    obtain ⟨y, hy, hg⟩ := one k 1 hk
    rw [hg]
    obtain ⟨c, hc⟩ := get_lt (l := cols) (i := k) hk
    rw [getD_of hc]
    have hcl := col_lt (List.mem_of_getElem? hc)
    refine EK.to (ek_mul (ek_ixL (d := .int c) (ek_lst (ds := numD cols) (ak_cons ek_int (ak_cons ek_int (ak_cons ek_int ak_nil)))) (ek_var 5) (at_nat (num_at hc))) (ek_toIB T.int (ek_eqI (ek_ixL (d := .int y) (ek_var 1) (ek_add (ek_mul ek_int (ek_var 2) (.inl (by decide))) (ek_var 5)) (at_int (by omega) (by rw [show (3 * (i : Int) + (k : Int)).toNat = 3 * i + k by omega]; exact num_at hy))) ek_int)) (.inl ⟨by omega, by omega⟩)) ?_
    by_cases z : y = 0
    · rw [decide_eq_true (show ((y : Nat) : Int) = 0 by omega), if_pos z]; congr 1
    · rw [decide_eq_false (show ¬ ((y : Nat) : Int) = 0 by omega), if_neg z]; congr 1
  case eq2 => rw [sum_int]; rfl
  have hs := shp_pair (cwV (cell v i) 1, cwV (cell v i) 0)
  exact ss_F (tk_neD (hu64 hr) (d := k71D (cwV (cell v i) 1, cwV (cell v i) 0)) (d' := k71D (cwV (cell v i) 1, cwV (cell v i) 0)) (ek_var 3) (ek_tup (ds := [.int (cwV (cell v i) 1), .int (cwV (cell v i) 0)]) (ak_cons (ek_var 4) (ak_cons (ek_var 6) ak_nil))) (shp_sh hs) (shp_sh hs)) (by rw [eqv_self hs]; rfl) (ss_weakO ss_nil (.keep (.keep (.drop (.drop (.drop (.drop (.drop .nil))))))))

/-! ### _law_by_net -/
def R_by_net (K : PySem.W.Frag) (κs : List Kd) (κ : Kd) : Prop := ∃ (w : Nat) (p v : List Nat), w ≤ 10 ∧ p.length = w ∧ d8 p ∧ v.length = 3 * w ∧ l3 v ∧ κs = [kS K (digT p), kNum K v] ∧ κ = kS K (digT (byV p v))
abbrev nmBn : List Str := ["_law_page", "_law_net", "_law_text", "_law_cell_here", "_law_digit", "_law_k", "_law_bit"]
theorem sc_by_net : FnScope nmBn ["_law_page", "_law_net"] (defScope (top 81)) := ⟨rfl, rfl, rfl, by decide +kernel, rfl, by decide +kernel, by decide +kernel⟩
def byK (d : Nat) (s : List Nat) (k : Nat) : Nat := ((List.range k).map fun k => cols.getD k 0 * pr (d / cols.getD k 0 % 2) (s.getD k 0)).sum
theorem byK_succ (d : Nat) (s : List Nat) (k : Nat) : byK d s (k + 1) = byK d s k + cols.getD k 0 * pr (d / cols.getD k 0 % 2) (s.getD k 0) := by
  unfold byK
  rw [map_range_succ, List.sum_append]
  simp
theorem fin_byc : ∀ d : Nat, d < 8 → ∀ a : Nat, a < 3 → ∀ b : Nat, b < 3 → ∀ c : Nat, c < 3 → byC d [a, b, c] < 8 := by decide +kernel
theorem byC_lt {d : Nat} {s : List Nat} (hd : d < 8) (hl : s.length = 3) (h3 : l3 s) : byC d s < 8 := by
  match s, hl with
  | [a, b, c], _ => exact fin_byc d hd a (h3 a (by simp)) b (h3 b (by simp)) c (h3 c (by simp))
theorem cell_len3 {v : List Nat} {w i : Nat} (hv : v.length = 3 * w) (hi : i < w) : (cell v i).length = 3 := by unfold cell; rw [List.length_take, List.length_drop]; omega
theorem byV_len (p v : List Nat) : (byV p v).length = p.length := by unfold byV; rw [List.length_map, List.length_range]
theorem ok_by_net (F : FnG K "_law_by_net" (top 81) f fd) (T : Tx K mg) : FnOk P w K mg base CX0 1 f fd ["_law_page", "_law_net"] (spF (R_by_net K)) := by
  refine def_ok F sc_by_net (fun κs κ ⟨_, _, _, _, _, _, _, _, e, _⟩ => by rw [e]; rfl) fun cdv A outer s H E κs κ hr h => ?_
  obtain ⟨n, p, v, w10, hp, h8, hv, h3, rfl, rfl⟩ := h
  have nd := sc_by_net.nd
  refine ss_cons (sk_set 2 nd ek_str) ?_
  refine ss_cons (sk_for PassesOwn.never rfl (ik_range T.range (ek_len (n := p.length) T.len (ek_var 0) (by exact congrArg some (digT_len p)) (by omega)) ⟨by omega, by omega⟩) (fun i => [.k (kS K (digT p)), .k (kNum K v), .k (kS K (ofL ((((List.range i).map fun i => byC (p.getD i 0) (cell v i)).map dc)))), .un, .un, .un, .un]) (.refl _) (fun i x hx => ⟨_, gk_name 3 nd, ?_⟩)) ?_
  · obtain ⟨hi, rfl⟩ := range_get hx
    obtain ⟨d, hd⟩ := get_lt (l := p) hi
    have hd8 := h8 d (List.mem_of_getElem? hd)
    have hc3 := cell_len3 hv (show i < n by omega)
    have hcl := byC_lt hd8 hc3 (l3_cell h3 i)
    refine ss_cons (sk_set 4 nd ek_int) ?_
    refine ss_cons (sk_for PassesOwn.never rfl (ik_range T.range ek_int ⟨by decide, by decide⟩) (fun k => [.k (kS K (digT p)), .k (kNum K v), .k (kS K (ofL ((((List.range i).map fun i => byC (p.getD i 0) (cell v i)).map dc)))), .k (kI K i), .k (kI K (byK d (cell v i) k)), .un, .un]) (.refl _) (fun k y hy => ⟨_, gk_name 5 nd, ?_⟩)) ?_
    · obtain ⟨hk, rfl⟩ := range_get (n := 3) hy
      obtain ⟨c, hc⟩ := get_lt (l := cols) (i := k) hk
      have hcl := col_lt (List.mem_of_getElem? hc)
      obtain ⟨y, hy⟩ := get_lt (l := v) (i := 3 * i + k) (by omega)
      have hyc : (cell v i).getD k 0 = y := getD_of (by rw [cell_at hk]; exact hy)
      have aty : atI (numD v) (3 * (i : Int) + (k : Int)) = some (.int y) := at_int (by omega) (by rw [show (3 * (i : Int) + (k : Int)).toNat = 3 * i + k by omega]; exact num_at hy)
      refine ss_cons (sk_set 6 nd (EK.to (d' := .int (d / c % 2 : Nat)) (ek_mod (ek_toI T.int (ek_fdiv (ek_toIS T.int (ek_ixS (c := dc d) (ek_var 0) (ek_var 3) (at_nat (map_at hd)) (by rw [digT_len]; omega)) (int_dc hd8) (by show (1 : Nat) ≤ 640; decide)) (ek_ixL (d := .int c) (ek_lst (ds := numD cols) (ak_cons ek_int (ak_cons ek_int (ak_cons ek_int ak_nil)))) (ek_var 5) (at_nat (num_at hc))) ⟨by omega, by omega⟩)) ek_int (by decide)) (by congr 1))) ?_
      have fin : ∀ z : Nat, z = pr (d / c % 2) y → z < 3 → SsK (Bx P w K mg base nmBn "_law_by_net" (defScope (top 81)) f cdv A outer s H E) [(((match (match (defBody (top 81)).drop 1 with | (.For _ _ b _ _) :: _ => b | _ => []).drop 1 with | (.For _ _ b _ _) :: _ => b | _ => []).getD 2 (.Pass ⟨0, 0, 0, 0⟩)))] [.k (kS K (digT p)), .k (kNum K v), .k (kS K (ofL ((((List.range i).map fun i => byC (p.getD i 0) (cell v i)).map dc)))), .k (kI K i), .k (kI K (byK d (cell v i) k)), .k (kI K k), .k (kI K z)] (.nx [.k (kS K (digT p)), .k (kNum K v), .k (kS K (ofL ((((List.range i).map fun i => byC (p.getD i 0) (cell v i)).map dc)))), .k (kI K i), .k (kI K (byK d (cell v i) (k + 1))), .un, .un]) := fun z hz hz3 => by
        refine ss_one (sk_weakO (sk_set 4 nd (EK.to (d' := .int (byK d (cell v i) (k + 1))) (ek_add (ek_var 4) (ek_mul (ek_ixL (d := .int c) (ek_lst (ds := numD cols) (ak_cons ek_int (ak_cons ek_int (ak_cons ek_int ak_nil)))) (ek_var 5) (at_nat (num_at hc))) (ek_var 6) (.inl ⟨by omega, by omega⟩))) ?_)) (.keep (.keep (.keep (.keep (.keep (.drop (.drop .nil))))))))
        rw [byK_succ, getD_of hc, hyc, ← hz]
        congr 1
      by_cases y2 : y = 2
      · refine ss_F (tk_neI (ek_ixL (d := .int y) (ek_var 1) (ek_add (ek_mul ek_int (ek_var 3) (.inl (by decide))) (ek_var 5)) aty) ek_int) (by rw [decide_eq_true (show ((y : Nat) : Int) = 2 by omega)]; rfl) ?_
        exact fin (d / c % 2) (by unfold pr; rw [if_pos y2]) (by omega)
      · refine ss_cons (sk_T (tk_neI (ek_ixL (d := .int y) (ek_var 1) (ek_add (ek_mul ek_int (ek_var 3) (.inl (by decide))) (ek_var 5)) aty) ek_int) (by rw [decide_eq_false (show ¬ ((y : Nat) : Int) = 2 by omega)]; rfl) (ss_one (sk_set 6 nd (ek_ixL (d := .int y) (ek_var 1) (ek_add (ek_mul ek_int (ek_var 3) (.inl (by decide))) (ek_var 5)) aty)))) ?_
        exact fin y (by unfold pr; rw [if_neg y2]) (h3 y (List.mem_of_getElem? hy))
    · show SsK _ _ _ (.nx [_, _, .k (kS K (ofL (((List.range (i + 1)).map fun i => byC (p.getD i 0) (cell v i)).map dc))), .un, .un, .un, .un])
      rw [map_range_succ, List.map_append, ← ofL_app, getD_of hd]
      refine ss_one (sk_weakO (sk_set 2 nd (ek_adds (y := ofL [dc (byC d (cell v i))]) (ek_var 2) (EK.to (ek_str1 T.str (ek_var 4) (log_lt (by show byC d (cell v i) < 1000; omega))) (congrArg PyData.str (str_dc hcl))) (by rw [ofL_len, List.length_map, List.length_map, List.length_range]; show _ + 1 ≤ 16777216; omega))) (.keep (.keep (.keep (.drop (.drop (.drop (.drop .nil))))))))
  · refine ss_one (sk_ret (EK.to (ek_var 2) ?_))
    rw [rlen]
    rfl

/-! ### _law_parting -/
def R_parting (K : PySem.W.Frag) (κs : List Kd) (κ : Kd) : Prop := ∃ (w : Nat) (v u : List Nat), w ≤ 10 ∧ v.length = 3 * w ∧ u.length = 3 * w ∧ l3 v ∧ l3 u ∧ v ≠ u ∧ κs = [kNum K v, kNum K u] ∧ κ = xk (fun q : Nat × Nat × Nat => q.1 < 3 * w ∧ v[q.1]? = some q.2.1 ∧ u[q.1]? = some q.2.2 ∧ q.2.1 ≠ q.2.2) fun q => kS K (digT (partP w q.1 q.2.1 q.2.2))
abbrev nmPt : List Str := ["_law_one", "_law_two", "_law_at", "_law_k", "_law_digit"]
theorem sc_parting : FnScope nmPt ["_law_one", "_law_two"] (defScope (top 82)) := ⟨rfl, rfl, rfl, by decide +kernel, rfl, by decide +kernel, by decide +kernel⟩
theorem differ {v u : List Nat} (hl : v.length = u.length) (h : v ≠ u) : ∃ i, i < v.length ∧ v.getD i 0 ≠ u.getD i 0 := by
  apply Classical.byContradiction
  intro hn
  apply h
  apply List.ext_getElem hl
  intro i h1 h2
  apply Classical.byContradiction
  intro hne
  exact hn ⟨i, h1, by rw [getD_of (List.getElem?_eq_getElem h1), getD_of (List.getElem?_eq_getElem h2)]; exact hne⟩
theorem giv_head {n : Nat} {b : Nat → Bool} {r : Nat → PyData} (h : ∃ i, i < n ∧ b i = true) : ∃ i, i < n ∧ b i = true ∧ (giv n b r)[0]? = some (r i) := by
  unfold giv
  obtain ⟨i, hi, hb⟩ := h
  cases e : (List.range n).filter b with
  | nil =>
    have : i ∈ (List.range n).filter b := List.mem_filter.mpr ⟨List.mem_range.mpr hi, hb⟩
    rw [e] at this
    exact absurd this List.not_mem_nil
  | cons x l =>
    have : x ∈ (List.range n).filter b := by rw [e]; exact List.mem_cons_self
    exact ⟨x, List.mem_range.mp (List.mem_filter.mp this).1, (List.mem_filter.mp this).2, rfl⟩
theorem ok_parting (F : FnG K "_law_parting" (top 82) f fd) (T : Tx K mg) : FnOk P w K mg base CX0 1 f fd ["_law_one", "_law_two"] (spF (R_parting K)) := by
  refine def_ok F sc_parting (fun κs κ ⟨_, _, _, _, _, _, _, _, _, e, _⟩ => by rw [e]; rfl) fun cdv A outer s H E κs κ hr h => ?_
  obtain ⟨n, v, u, w10, hv, hu, h3, g3, hne, rfl, rfl⟩ := h
  have nd := sc_parting.nd
  obtain ⟨i0, hi0, hd0⟩ := differ (by rw [hv, hu]) hne
  obtain ⟨at_, hat, hb, hg⟩ := giv_head (n := v.length) (b := fun i => !decide (v.getD i 0 = u.getD i 0)) (r := fun i => PyData.int (i : Nat)) ⟨i0, hi0, by rw [decide_eq_false hd0]; rfl⟩
  have hdiff : v.getD at_ 0 ≠ u.getD at_ 0 := fun z => by rw [decide_eq_true z] at hb; cases hb
  obtain ⟨x, hx⟩ := get_lt (l := v) hat
  obtain ⟨y, hy⟩ := get_lt (l := u) (i := at_) (by omega)
  rw [getD_of hx, getD_of hy] at hdiff
  refine ss_cons (sk_set 2 nd (κ := kI K at_) (ek_ixL (d := .int (at_ : Nat)) (ek_lcG rfl nd (ik_range T.range (ek_len (n := v.length) T.len (ek_var 0) (by exact congrArg some (num_len v)) (by omega)) ⟨by omega, by omega⟩) (blkOk_by (N := nmPt) (sc := defScope (top 82)) (own := [("_law_k", 3)]) (by decide +kernel)) (fun i => !decide (v.getD i 0 = u.getD i 0)) (fun i => .int (i : Nat)) (fun i => [.k (kNum K v), .k (kNum K u), .un, .k (kI K (i : Nat)), .un]) ?hz (fun i d hd s H C cl fp => ?bg) (fun i d hd s H C cl fp => ?tst) (fun i d hd ht s H C cl fp => ek_var 3)) ek_int ?at_)) ?_
  case hz => rw [rlen]; omega
  case bg => obtain ⟨_, rfl⟩ := range_get hd; exact bg_name 3 (by decide) nd
  case tst =>
    obtain ⟨hi, rfl⟩ := range_get hd
    obtain ⟨a, ha⟩ := get_lt (l := v) hi
    obtain ⟨b, hb⟩ := get_lt (l := u) (i := i) (by omega)
    rw [getD_of ha, getD_of hb]
    refine fk_one (TK.to (tk_neI (ek_ixL (d := .int a) (ek_var 0) (ek_var 3) (at_nat (num_at ha))) (ek_ixL (d := .int b) (ek_var 1) (ek_var 3) (at_nat (num_at hb)))) ?_)
    congr 1
    rw [decide_eq_decide]; omega
  case at_ => rw [rlen]; exact at_nat (n := 0) hg
  refine ss_cons (sk_set 4 nd ek_int) ?_
  have fin : ∀ z : Nat, z = (if x + y = 2 then cols.getD (at_ % 3) 0 else 0) → z < 8 → SsK (Bx P w K mg base nmPt "_law_parting" (defScope (top 82)) f cdv A outer s H E) ((defBody (top 82)).drop 3) [.k (kNum K v), .k (kNum K u), .k (kI K at_), .un, .k (kI K z)] (.rt (xk (fun q : Nat × Nat × Nat => q.1 < 3 * n ∧ v[q.1]? = some q.2.1 ∧ u[q.1]? = some q.2.2 ∧ q.2.1 ≠ q.2.2) fun q => kS K (digT (partP n q.1 q.2.1 q.2.2)))) := fun z hz hz8 => by
    refine ss_one (sk_ret (ek_x (z := (at_, x, y)) (EK.to (ek_adds (x := ofL ((List.replicate (at_ / 3) 0 ++ [z]).map dc)) (y := ofL ((List.replicate (n - at_ / 3 - 1) 0).map dc)) (EK.to (ek_adds (x := ofL ((List.replicate (at_ / 3) 0).map dc)) (y := ofL [dc z]) (EK.to (ek_mulS (x := ofL [48]) ek_str (ek_fdiv (ek_var 2) ek_int ⟨by decide, by decide⟩) ⟨by decide, by omega, by omega⟩) (by rw [ofL_rep, flat_rep, List.map_replicate, show ((at_ : Int) / 3).toNat = at_ / 3 by omega]; rfl)) (EK.to (ek_str1 T.str (ek_var 4) (log_lt (by omega))) (congrArg PyData.str (str_dc hz8))) (by rw [ofL_len, List.length_map, List.length_replicate]; show _ + 1 ≤ 16777216; omega)) (by rw [ofL_app, List.map_append]; rfl)) (EK.to (ek_mulS (x := ofL [48]) ek_str (ek_sub (ek_sub (ek_fdiv (ek_len (n := v.length) T.len (ek_var 0) (by exact congrArg some (num_len v)) (by omega)) ek_int ⟨by decide, by decide⟩) (ek_fdiv (ek_var 2) ek_int ⟨by decide, by decide⟩)) ek_int) ⟨by decide, by omega, by omega⟩) (by rw [ofL_rep, flat_rep, List.map_replicate, show ((v.length : Int) / 3 - (at_ : Int) / 3 - 1).toNat = n - at_ / 3 - 1 by omega]; rfl)) (by rw [ofL_len, ofL_len, List.length_map, List.length_map, List.length_append, List.length_replicate, List.length_replicate]; show _ + 1 + _ ≤ 16777216; omega)) ?_) ⟨by omega, hx, hy, hdiff⟩))
    rw [ofL_app, ← List.map_append]
    unfold partP digT
    rw [← hz]
  have hco : cols.getD (at_ % 3) 0 < 8 := by
    have : ∀ e : Nat, e < 3 → cols.getD e 0 < 8 := by decide
    exact this _ (Nat.mod_lt _ (by decide))
  have hc : cols[at_ % 3]? = some (cols.getD (at_ % 3) 0) := by
    have : ∀ e : Nat, e < 3 → cols[e]? = some (cols.getD e 0) := by decide
    exact this _ (Nat.mod_lt _ (by decide))
  by_cases h2 : x + y = 2
  · refine ss_cons (sk_T (tk_eqI (ek_add (ek_ixL (d := .int x) (ek_var 0) (ek_var 2) (at_nat (num_at hx))) (ek_ixL (d := .int y) (ek_var 1) (ek_var 2) (at_nat (num_at hy)))) ek_int) (decide_eq_true (by omega)) (ss_one (sk_set 4 nd (ek_ixL (d := .int (cols.getD (at_ % 3) 0 : Nat)) (ek_lst (ds := numD cols) (ak_cons ek_int (ak_cons ek_int (ak_cons ek_int ak_nil)))) (ek_mod (ek_toI T.int (ek_var 2)) ek_int (by decide)) (at_int (Int.emod_nonneg _ (by decide)) (by rw [show ((at_ : Int) % 3).toNat = at_ % 3 by omega]; exact num_at hc)))))) ?_
    exact fin _ (by rw [if_pos h2]) hco
  · refine ss_F (tk_eqI (ek_add (ek_ixL (d := .int x) (ek_var 0) (ek_var 2) (at_nat (num_at hx))) (ek_ixL (d := .int y) (ek_var 1) (ek_var 2) (at_nat (num_at hy)))) ek_int) (decide_eq_false (by omega)) ?_
    exact fin 0 (by rw [if_neg h2]) (by decide)
end
end K71
end
section
namespace K71
open PySem PySem.Spec PyProof.Rows L2 KD
section
variable {P : Program} {w : World} {K : PySem.W.Frag} {mg : Str → Option Value} {base : Heap} {f : Addr} {fd : FuncData} {Ci Cs : Addr}

/-! ### _law_stock_right -/
def laysD (ss : Pls) : List PyData := ss.map fun q => .str (layT q.2)
def R_stock_right (Cs : Addr) (K : PySem.W.Frag) (κs : List Kd) (κ : Kd) : Prop := ∃ (w : Nat) (ss : Pls), Pd w ss ∧ κs = [kSt K Cs w ss, kI K w, kL K (namesD (ss.map (·.1))), kL K (laysD ss)] ∧ κ = kB K true
abbrev nmSr : List Str := ["_law_stock", "_law_wide", "_law_names", "_law_layers", "_law_k"]
theorem sc_stock_right : FnScope nmSr ["_law_stock", "_law_wide", "_law_names", "_law_layers"] (defScope (top 74)) := ⟨rfl, rfl, rfl, by decide +kernel, rfl, by decide +kernel, by decide +kernel⟩
theorem shp_names {ns : List (List Nat)} (h : ∀ n ∈ ns, nameB n = true) : Shp 1 (.list (namesD ns)) := shp_lst fun x hx => by
  unfold namesD at hx
  obtain ⟨n, hn, rfl⟩ := List.mem_map.mp hx
  exact shp_str _ (ok_name (h n hn))
def pairsL (ss : Pls) : List PyData := ss.map fun q => .list [.str (ofL q.1), .str (layT q.2)]
theorem frz_pairsL (ss : Pls) (h : ss.length ≤ 1000) : Frz 2 (.list (pairsL ss)) (.tuple (pairsS ss)) := by
  refine .inr ⟨pairsL ss, pairsS ss, .inl rfl, rfl, by unfold pairsL pairsS; rw [List.length_map, List.length_map], by unfold pairsL; rw [List.length_map]; omega, fun i x y hx hy => ?_⟩
  unfold pairsL at hx
  unfold pairsS at hy
  obtain ⟨q, hq, rfl⟩ := map_get hx
  rw [map_at hq] at hy
  cases hy
  refine .inr ⟨_, _, .inl rfl, rfl, rfl, by show 2 ≤ 1000; decide, fun i x y hx hy => ?_⟩
  rw [hx] at hy
  cases hy
  match i, hx with
  | 0, hx => cases hx; exact ⟨rfl, rfl⟩
  | 1, hx => cases hx; exact ⟨rfl, rfl⟩
  | i + 2, hx => simp at hx
theorem ok_stock_right (F : FnG K "_law_stock_right" (top 74) f fd) (T : Tx K mg) (Z : Cc K mg Ci Cs) (D_kind : Df P w K mg base 1 "_law_kind" ["_law_thing"] (R_kind K)) (D_names : DfP P w K mg base 1 Cs "names" (R_names Cs K)) (D_stamp : DfM P w K mg base 2 Cs "stamp" ["self", "name"] (R_stamp Cs K)) (D_same : Df P w K mg base 1 "_law_same_text" ["_law_told", "_law_due"] (R_same K))
    (D_mkS : DfI P w K mg base 4 Cs "Stock" ["self", "size", "stamps"] (R_mkS Cs K)) (D_eq : ∀ w' ss, Pd w' ss → DfE P w K mg base 1 Cs (kSt K Cs w' ss)) : FnOk P w K mg base CX0 6 f fd ["_law_stock", "_law_wide", "_law_names", "_law_layers"] (spF (R_stock_right Cs K)) := by
  refine def_ok F sc_stock_right (fun κs κ ⟨_, _, _, e, _⟩ => by rw [e]; rfl) fun cdv A outer s H E κs κ hr h => ?_
  obtain ⟨n, ss, hw, rfl, rfl⟩ := h
  have nd := sc_stock_right.nd
  have n10 := hw.n10
  have w10 := hw.w10
  have lnm : (namesD (ss.map (·.1))).length = ss.length := by rw [namesD_len, List.length_map]
  have hshN := shp_names (ns := ss.map (·.1)) (fun x hx => by obtain ⟨q, hq, rfl⟩ := List.mem_map.mp hx; exact hw.nm q hq)
  have enm : (ss.map fun q => PyData.str (ofL q.1)) = namesD (ss.map (·.1)) := by unfold namesD; rw [List.map_map]; rfl
  refine ss_F (tk_w (wk_or (tk_not (tk_val (ek_isC Z.iC T.isinstance (ek_var 0) (isO _ _) (ek_cls Z.mS)))) (fun _ => wk_or (tk_not (tk_val (ek_call D_kind (hr.mono (by decide)) (ak_cons (ek_fld (κ := kI K (3 * n : Nat)) (ek_var 0) Z.cS Z.s1 rfl) ak_nil) ⟨_, rfl, rfl⟩))) (fun _ => wk_or1 (tk_neI (ek_fld (κ := kI K (3 * n : Nat)) (ek_var 0) Z.cS Z.s1 rfl) (ek_mul ek_int (ek_var 1) (.inl (by decide)))))))) (by rw [decide_eq_true (show ((3 * n : Nat) : Int) = 3 * (n : Int) by omega)]; rfl) ?_
  refine ss_F (tk_w (wk_or (tk_not (tk_val (ek_isi (d := .tuple (namesD (ss.map (·.1)))) T.isinstance (ek_prop D_names (hr.mono (by decide)) Z.cS (ek_var 0) (isO _ _) ⟨n, ss, hw, rfl, by rw [enm]; rfl⟩) (ek_ty T.tuple boot_tuple) (by exact kit_tup_tup)))) (fun _ => wk_or1 (tk_neD (hu64 hr) (ek_list1 (d := .tuple (namesD (ss.map (·.1)))) T.list (ek_prop D_names (hr.mono (by decide)) Z.cS (ek_var 0) (isO _ _) ⟨n, ss, hw, rfl, by rw [enm]; rfl⟩) rfl) (ek_var 2) (shp_sh hshN) (shp_sh hshN))))) (by rw [eqv_self hshN]; rfl) ?_
  have lps : (pairsS ss).length = ss.length := by unfold pairsS; rw [List.length_map]
  refine ss_F (tk_w (wk_or (tk_not (tk_val (ek_isi (d := .tuple (pairsS ss)) T.isinstance (ek_fld (κ := kT K (pairsS ss)) (ek_var 0) Z.cS Z.s2 rfl) (ek_ty T.tuple boot_tuple) (by exact kit_tup_tup)))) (fun _ => wk_or1 (tk_neI (ek_len (n := ss.length) (d := .tuple (pairsS ss)) T.len (ek_fld (κ := kT K (pairsS ss)) (ek_var 0) Z.cS Z.s2 rfl) (congrArg some lps) (by omega)) (ek_len (n := ss.length) T.len (ek_var 2) (by exact congrArg some lnm) (by omega)))))) (by rw [decide_eq_true rfl]; rfl) ?_
  refine ss_cons (sk_for PassesOwn.never rfl (ik_range T.range (ek_len (n := ss.length) T.len (ek_var 2) (by exact congrArg some lnm) (by omega)) ⟨by omega, by omega⟩) (fun i => [.k (kSt K Cs n ss), .k (kI K n), .k (kL K (namesD (ss.map (·.1)))), .k (kL K (laysD ss)), .un]) (.refl _) (fun i x hx => ⟨_, gk_name 4 nd, ?_⟩)) ?_
  · obtain ⟨hi, rfl⟩ := range_get hx
    obtain ⟨q, hq⟩ := get_lt hi
    have hqm := List.mem_of_getElem? hq
    have hs1 := shp_pairS (hw.nm q hqm)
    have a1 : (pairsS ss)[i]? = some (.tuple [.str (ofL q.1), .str (layT q.2)]) := by unfold pairsS; exact map_at hq
    have a2 : (namesD (ss.map (·.1)))[i]? = some (.str (ofL q.1)) := by unfold namesD; exact map_at (map_at hq)
    have a3 : (laysD ss)[i]? = some (.str (layT q.2)) := by unfold laysD; exact map_at hq
    refine ss_F (tk_w (wk_or (tk_not (tk_val (ek_isi (d := .tuple [.str (ofL q.1), .str (layT q.2)]) T.isinstance (ek_ixT (ds := pairsS ss) (ek_fld (κ := kT K (pairsS ss)) (ek_var 0) Z.cS Z.s2 rfl) (ek_var 4) (at_nat a1)) (ek_ty T.tuple boot_tuple) (by exact kit_tup_tup)))) (fun _ => wk_or1 (tk_neD (hu64 hr) (d := .tuple [.str (ofL q.1), .str (layT q.2)]) (d' := .tuple [.str (ofL q.1), .str (layT q.2)]) (ek_ixT (ds := pairsS ss) (ek_fld (κ := kT K (pairsS ss)) (ek_var 0) Z.cS Z.s2 rfl) (ek_var 4) (at_nat a1)) (ek_tup (ds := [.str (ofL q.1), .str (layT q.2)]) (ak_cons (ek_ixL (ek_var 2) (ek_var 4) (at_nat a2)) (ak_cons (ek_ixL (ek_var 3) (ek_var 4) (at_nat a3)) ak_nil))) (shp_sh hs1) (shp_sh hs1))))) (by rw [eqv_self hs1]; rfl) ?_
    exact ss_F (tk_not (tk_val (ek_call D_same (hr.mono (by decide)) (ak_cons (ek_meth D_stamp (hr.mono (by decide)) Z.cS (ek_var 0) (isI_kO rfl) (ak_cons (ek_ixL (d := .str (ofL q.1)) (ek_var 2) (ek_var 4) (at_nat a2)) ak_nil) ⟨n, ss, i, q, hw, hq, rfl, rfl⟩) (ak_cons (ek_ixL (d := .str (layT q.2)) (ek_var 3) (ek_var 4) (at_nat a3)) ak_nil)) ⟨layT q.2, rfl, rfl⟩))) rfl (ss_weakO ss_nil (.keep (.keep (.keep (.keep (.drop .nil))))))
  · refine ss_one (sk_ret (EK.to (ek_isB (ek_ownEq (D_eq n ss hw) (hr.mono (by decide)) (isO _ _) (ek_var 0) (ek_make D_mkS (hr.mono (by decide)) (ak_cons (EK.to (d' := .int (3 * n : Nat)) (ek_mul ek_int (ek_var 1) (.inl (by decide))) (by congr 1)) (ak_cons (ek_lc (pairsL ss) rfl nd (ik_range T.range (ek_len (n := ss.length) T.len (ek_var 2) (by exact congrArg some lnm) (by omega)) ⟨by omega, by omega⟩) (blkOk_by (N := nmSr) (sc := defScope (top 74)) (own := [("_law_k", 4)]) (by decide +kernel)) (fun i => [.k (kSt K Cs n ss), .k (kI K n), .k (kL K (namesD (ss.map (·.1)))), .k (kL K (laysD ss)), .k (kI K (i : Nat))]) ?hl ?hz (fun i x hd s H C cl fp => ?bg) (fun i x e hd he s H C cl fp => ?el)) ak_nil)) ⟨n, ss, _, hw, frz_pairsL ss (by omega), rfl, rfl⟩)) ek_bl) rfl))
    case hl => rw [rlen]; unfold pairsL; rw [List.length_map]
    case hz => rw [rlen]; omega
    case bg => obtain ⟨_, rfl⟩ := range_get hd; exact bg_name 4 (by decide) nd
    case el =>
      obtain ⟨hi, rfl⟩ := range_get hd
      obtain ⟨q, hq⟩ := get_lt hi
      unfold pairsL at he
      rw [map_at hq] at he
      cases he
      have a2 : (namesD (ss.map (·.1)))[i]? = some (.str (ofL q.1)) := by unfold namesD; exact map_at (map_at hq)
      have a3 : (laysD ss)[i]? = some (.str (layT q.2)) := by unfold laysD; exact map_at hq
      exact ek_lst (ds := [.str (ofL q.1), .str (layT q.2)]) (ak_cons (ek_ixL (ek_var 2) (ek_var 4) (at_nat a2)) (ak_cons (ek_ixL (ek_var 3) (ek_var 4) (at_nat a3)) ak_nil))
end
end K71
end
section
namespace KD
open PySem PySem.Spec PyProof.Rows L2
/-! ### repr: where no repr is under way -/
section
variable {X : Cx} {e : Expr} {ρ : List Sl} {d : PyData} {pos p : Pos}
theorem call_reprD (hg : X.A.guards = some []) (hu : X.A.units + 64 < cLine) : CallR X (.builtin "repr") (fun xs H Q => ∃ a d, xs = [.ref a] ∧ Dp X.K H (.ref a) d ∧ d.showable = true ∧ d.hasDict = false ∧ d.depth ≤ 60 ∧ d.shown.length ≤ sizeLine ∧ Q (.str d.shown) H) := by
  intro pins s σ H xs us Q I r h
  obtain ⟨a, d, rfl, hd, h1, h2, h3, h4, q⟩ := h
  obtain ⟨u, rfl, ru⟩ := vals1 r
  obtain ⟨as, rd⟩ := Dp.reads I d (.ref a) u hd ru
  cases ru
  exact PySem.repr_of_reads' rd h1 (fun z => by rw [h2] at z; cases z) hg (by omega) (fun _ _ z => z) (fun h' u tk hk => ⟨.str d.shown, H, I.kept hk, ⟨u, rfl⟩, q⟩) h4
theorem ek_repr {n : Nat} (hg0 : X.A.guards = some []) (hu : X.A.units + 64 < cLine) (hm : X.mg "repr" = none) (ha : EK X e ρ (dt X.K d)) (hr : ∀ S v, Dq X.K S v d → ∃ a, v = .ref a) (h1 : d.showable = true) (h2 : d.hasDict = false) (h3 : d.depth ≤ 60) (h4 : d.shown.length ≤ sizeLine) (hg : Gl X "repr" := by rfl) (he : starEach (e :: []) X.env = (false, eval e X.env) :: starEach [] X.env := by rfl) (hpl : (backTo pos (starEach [] X.env)).any (·.1) = false := by rfl) :
    EK X (.Call (.Name "repr" p) [e] [] pos) ρ (kS X.K d.shown) :=
  ek_cb (call_reprD hg0 hu) (ck_pure fun S H vs Q s hv q => by
    obtain ⟨v, rfl, h⟩ := all1 hv
    obtain ⟨a, rfl⟩ := hr S v h
    exact ⟨a, d, rfl, (dp_mono s h).dp, h1, h2, h3, h4, q _ (.str _)⟩) hm PyProof.Rows.boot_repr (ak_cons ha ak_nil he) hg (by decide) (by decide) he hpl
end

/-! ### defs that are entered where no repr is under way -/
structure FnGd (P : Program) (w : World) (K : PySem.W.Frag) (mg : Str → Option Value) (base : Heap) (k : Nat) (f : Addr) (fd : FuncData) (ps : List Str) (sp : Sp) : Prop where
  len : ∀ vs H Q E, sp vs H Q E → vs.length = ps.length
  run : ∀ (A : Around) (outer : List PySem.Env) (s : Shared) (H : Hp) (args : Args) (us : List Value) (vs : List V) (Q : VK) (E : XK), Room k A → A.guards = some [] → Env0 P w K mg base A outer s H → BindsTo s fd args (ps.zip us) → Vals vs us → sp vs H Q E →
    codeAny (model P w) A (.call (.ref f) args) (CR CX0 outer P w H s Q E) s
section
variable {P : Program} {w : World} {K : PySem.W.Frag} {mg : Str → Option Value} {base : Heap} {x qual : Str} {params : Arguments} {body : List Stmt} {scope : Scope} {f : Addr} {fd : FuncData} {N ps : List Str} {k : Nat} {sp : Sp} {R : List Kd → Kd → Prop}
def flV : Flow → Value
  | .ret v => v
  | _ => .none
theorem ends_ok {A : Around} {outer : List PySem.Env} {s : Shared} {H : Hp} {cdv : Value} {Q : VK} {E : XK} {fl : Flow} {s' : Shared}
    (h : SP (cxOf CX0 P w K mg base N qual scope f cdv A outer s H E) [] { nx := fun _ H' => Q .non H', rt := Q } fl s') : CR CX0 outer P w H s Q E (.ok (.ret (flV fl))) s' := by
  cases fl with
  | next =>
    obtain ⟨σ2, H2, J, q⟩ := h
    exact ⟨.non, H2, J.os, J.bare, J.base, J.hok, rfl, q⟩
  | ret u =>
    obtain ⟨v, σ2, H2, J, rv, q⟩ := h
    exact ⟨v, H2, J.os, J.bare, J.base, J.hok, rv, q⟩
  | brk => obtain ⟨_, _, _, z⟩ := h; exact z.elim
  | cont => obtain ⟨_, _, _, z⟩ := h; exact z.elim
theorem okGd (F : FunD K x qual params body scope [] [] f fd) (S : FnScope N ps scope) (len : ∀ vs H Q E, sp vs H Q E → vs.length = ps.length)
    (hb : ∀ (cdv : Value) (A : Around) (outer : List PySem.Env) (s : Shared) (H : Hp) (vs : List V) (Q : VK) (E : XK), Room k (A.deeper (envOfC qual scope s.heap.objs.size f cdv)) → (A.deeper (envOfC qual scope s.heap.objs.size f cdv)).guards = some [] → sp vs H Q E →
      ∃ t, PSs (cxOf CX0 P w K mg base N qual scope f cdv A outer s H E) body t ∧ t { nx := fun _ H' => Q .non H', rt := Q } (L2.start N vs) H) : FnGd P w K mg base (k + 1) f fd ps sp := by
  obtain ⟨oc, od, dV, kV, doc, pm, an, cdv, ct, osl, rfl, lk, hcd, _, _⟩ := F.ex
  refine ⟨len, fun A outer s H args us vs Q E hr hg e0 hbi rv hsp => ?_⟩
  have kin : K.In s.heap := e0.mod.kin.keeps fun b o z => (e0.bs b o z).1
  have lim : s.heap.NoLimit := e0.mod.nolimit.keeps fun b o z => (e0.bs b o z).1
  have hkinds : ((ps.zip us).all fun y => scope.names.lookup y.1 == some .local || scope.names.lookup y.1 == some .cell) = true := by
    rw [List.all_eq_true]
    rintro ⟨y, v⟩ hy
    rcases S.par y (List.of_mem_zip hy).1 with z | z
    · simp [z]
    · simp [z]
  obtain ⟨t, ht, hq⟩ := hb cdv A outer s H vs Q E (hr.deeper _) hg hsp
  exact Att.call_fn kin lim lk hcd hr.depth hbi hkinds (fun s1 ic => wpAny_mono (ht.run [] s1 _ H _ (inv_start S hr.hd e0 (len _ _ _ _ hsp) rv ic) hq) (fun fl s' z => by cases fl <;> exact ends_ok z) (fun _ _ z => z)) S.co S.gen S.kind
end
section
variable {X : Cx} {k : Nat} {f : Addr} {fd : FuncData} {ps : List Str} {sp : Sp} {x : Str} {p pos : Pos} {e : Expr} {es : List Expr} {t : TA}
theorem pe_callGd (F : FnGd X.prog X.w X.K X.mg X.base k f fd ps sp) (hr : Room k X.A) (h0 : X.A.guards = some []) (hg : Gl X x) (hm : X.mg x = some (.ref f)) (hk : PySem.W.keepIn X.K (.ref f) = true) (hb : Binds X.K fd ps []) (ha : PA X (e :: es) t)
    (hdb : (x == ("__debug__" : Str)) = false) (he : starEach (e :: es) X.env = (false, eval e X.env) :: starEach es X.env) (hpl : (backTo pos (starEach es X.env)).any (·.1) = false) : PE X (.Call (.Name x p) (e :: es) [] pos) (tCall sp [] E0 t) := by
  refine ⟨fun pins s σ H Q I h => wpAny_Call_Name_kw (ld_glob I hg hm (PySem.W.callWith_K (h₀ := X.base) I.ok.mod.kin hk (thn (ha.run pos pins s σ H _ I h) fun us s1 ⟨vs, H1, I1, rv, q⟩ => ⟨I1.kIn, ?_⟩) he hpl) hdb)⟩
  have q1 : sp vs H1 Q E0 := by have z : sp (vs ++ []) H1 Q E0 := q; rwa [List.append_nil] at z
  have hl : (us ++ []).length = ps.length := by rw [List.append_nil, ← rv.length]; exact F.len _ _ _ _ q1
  have bt := hb s1 us I1.kIn hl
  rw [List.append_nil] at bt
  refine wpAny_call (codeAny_mono (F.run X.A X.stack s1 H1 ⟨us, []⟩ us vs Q E0 hr h0 I1.env0 bt rv q1) fun r s' z => ?_)
  match r, z with
  | .ok (.ret u), z => exact I1.after z
  | .ok .next, z => exact z.elim
  | .ok .brk, z => exact z.elim
  | .ok .cont, z => exact z.elim
  | .error _, z => exact z.elim
end
/-- the bundle for such a def -/
structure DfG (P : Program) (w : World) (K : PySem.W.Frag) (mg : Str → Option Value) (base : Heap) (k : Nat) (x : Str) (ps : List Str) (R : List Kd → Kd → Prop) : Prop where
  ex : ∃ f fd, FnGd P w K mg base k f fd ps (spF R) ∧ mg x = some (.ref f) ∧ PySem.W.keepIn K (.ref f) = true ∧ Binds K fd ps []
section
variable {X : Cx} {e : Expr} {ρ : List Sl} {κ : Kd} {pos p : Pos} {ees : List Expr} {κs : List Kd} {x : Str} {ps : List Str} {R : List Kd → Kd → Prop} {k : Nat}
theorem ek_callG (D : DfG X.prog X.w X.K X.mg X.base k x ps R) (hr : Room k X.A) (h0 : X.A.guards = some []) (ha : AK X (e :: ees) ρ κs) (hR : R κs κ) (hg : Gl X x := by rfl) (hdb : (x == ("__debug__" : Str)) = false := by decide) (he : starEach (e :: ees) X.env = (false, eval e X.env) :: starEach ees X.env := by rfl)
    (hpl : (backTo pos (starEach ees X.env)).any (·.1) = false := by rfl) : EK X (.Call (.Name x p) (e :: ees) [] pos) ρ κ := by
  obtain ⟨f, fd, F, hm, hk, hb⟩ := D.ex
  exact EK.of (pe_callGd F hr h0 hg hm hk hb ha hdb he hpl) fun S0 H0 S H σ Q E q => call_run E hR q
end
section
variable {P : Program} {w : World} {K : PySem.W.Frag} {mg : Str → Option Value} {base : Heap} {x qual : Str} {params : Arguments} {body : List Stmt} {scope : Scope} {f : Addr} {fd : FuncData} {N ps : List Str} {k : Nat} {R : List Kd → Kd → Prop}
theorem def_okG (F : FunD K x qual params body scope [] [] f fd) (S : FnScope N ps scope) (len : ∀ κs κ, R κs κ → κs.length = ps.length)
    (hb : ∀ cdv A outer s H E κs κ, Room k (A.deeper (envOfC qual scope s.heap.objs.size f cdv)) → (A.deeper (envOfC qual scope s.heap.objs.size f cdv)).guards = some [] → R κs κ → SsK (Bx P w K mg base N qual scope f cdv A outer s H E) body (startS N κs) (.rt κ)) : FnGd P w K mg base (k + 1) f fd ps (spF R) := by
  refine okGd F S (fun vs H Q E ⟨S, κs, κ, _, hR, hv, _⟩ => hv.len.trans (len κs κ hR)) fun cdv A outer s H vs Q E hr hg ⟨S, κs, κ, ss, hR, hv, q⟩ => ?_
  exact ⟨_, (hb cdv A outer s H E κs κ hr hg hR).nox, S, H, S, en_start ss hv, fun S' H' v g hk => q v S' H' g hk⟩
end
end KD
end
section
namespace KD
open PySem PySem.Spec PyProof.Rows L2
/-- what is tracked at the law's call: the script, unless the text's own objects hold it -/
def scriptH (K : PySem.W.Frag) (a : Addr) (o : Obj) (ns : List Int) : Hp := fun b => if b = a ∧ K.lookup a = none then some (.frz o (.lst (ns.map V.int))) else none
theorem scriptH_some {K : PySem.W.Frag} {a b : Addr} {o : Obj} {ns : List Int} {u : HO} (h : scriptH K a o ns b = some u) : b = a ∧ K.lookup a = none ∧ u = .frz o (.lst (ns.map V.int)) := by
  unfold scriptH at h
  split at h
  · rename_i c; cases h; exact ⟨c.1, c.2, rfl⟩
  · cases h
/-- the law's def at the head: what it promises where no repr is under way is enough -/
theorem head_callG {P : Program} {w : World} {K : PySem.W.Frag} {mg mb : Str → Option Value} {k : Nat} {fa a : Addr} {fd : FuncData} {x : Str} {sp : Sp} {s : Shared} {vs : List Value} {ns : List Int}
    (kin : K.In s.heap) (nsG : s.heap.Ns mainGlobals mg) (nsB : s.heap.Ns builtinsNs mb) (isB : ∀ y : Str, y ≠ "__name__" → mb y = bootBuiltins y) (lim : s.heap.NoLimit) (gens : s.gens = #[])
    (obj : s.heap.get? a = some { cls := .type "list", data := .seq vs.toArray }) (hin : IntsAre vs ns) (short : ns.length ≤ sizeLine) (room : Room k callerA)
    (F : ∀ base : Heap, K.In base → base.Ns mainGlobals mg → FnGd P w K mg base k fa fd [x] sp) (binds : ∀ (s : Shared) (u : Value), BindsTo s fd ⟨[u], []⟩ [(x, u)])
    (hsp : ∀ H : Hp, SqL K H a (ns.map V.int) → sp [.ref a] H (fun v _ => v = .bl true) E0) :
    codeAny (model P w) callerA (.call (.ref fa) ⟨[.ref a], []⟩) (fun r s' => r = .ok (.ret (.bool true)) ∧ OldK s.heap s'.heap ∧ s'.os = s.os ∧ AllBare s'.gens) s := by
  let o : Obj := { cls := .type "list", data := .seq vs.toArray }
  let H : Hp := scriptH K a o ns
  have rel := vals_ints hin
  have same := hin.length
  -- a list's object is no namespace
  have free : ∀ {b : Addr} {q : Obj} {es : Array DictEntry} {n : Nat}, s.heap.get? b = some q → q.data = .dict es n → H b = none := fun {b q es n} h d => by
    cases c : H b with
    | none => rfl
    | some u =>
      obtain ⟨rfl, _, _⟩ := scriptH_some c
      cases obj.symm.trans h
      cases (show Data.seq vs.toArray _ = Data.dict es n from d)
  have ns' : ∀ {b : Addr} {m : Str → Option Value}, s.heap.Ns b m → (hidT s.heap H).Ns b m := fun {b m} ⟨q, es, n, h, d, t⟩ => ⟨q, es, n, hidT_get h (free h d), d, t⟩
  have kin' : K.In (hidT s.heap H) := fun b q h => hidT_get (kin b q h) (by
    cases c : H b with
    | none => rfl
    | some u =>
      obtain ⟨rfl, z, _⟩ := scriptH_some c
      rw [z] at h; cases h)
  have mod : Mod K mg (hidT s.heap H) := by
    obtain ⟨mc, l1, l2⟩ := lim
    exact ⟨kin', ns' nsG, ⟨mb, ns' nsB, isB⟩, mc, ns' l1, l2⟩
  have hok : HOk P w H s.heap := fun b u c => by
    obtain ⟨rfl, _, rfl⟩ := scriptH_some c
    exact ⟨obj, by rw [List.length_map]; exact short, vs, _, rel, obj⟩
  have env0 : Env0 P w K mg (hidT s.heap H) callerA [] s H := ⟨rfl, mod, fun b q h => of_hidT h, Nat.le_of_eq (hidT_size _ _), trivial, fun b z => absurd (show b ∈ ([] : List Addr) from z) List.not_mem_nil, hok, .of_eq gens⟩
  have isL : SqL K H a (ns.map V.int) := by
    cases c : K.lookup a with
    | none => exact .inl (.inr ⟨o, if_pos ⟨rfl, c⟩⟩)
    | some q =>
      have h := kin a q c
      rw [obj] at h
      cases h
      exact .inr ⟨_, vs.toArray, _, c, rfl, rfl, rfl, by rw [List.size_toArray, same]; exact short, by simpa using rel⟩
  refine codeAny_mono ((F _ kin' (ns' nsG)).run callerA [] s H ⟨[.ref a], []⟩ [.ref a] [.ref a] _ E0 room rfl env0 (binds s (.ref a)) (.cons rfl .nil) (hsp H isL)) fun r s' h => ?_
  match r, h with
  | .error _, h => exact h.elim
  | .ok .next, h => exact h.elim
  | .ok .brk, h => exact h.elim
  | .ok .cont, h => exact h.elim
  | .ok (.ret u), ⟨v, H', os, bare, un, hok', rv, q⟩ =>
    have q' : v = .bl true := q
    subst q'
    obtain rfl : u = Value.bool true := rv
    refine ⟨rfl, OldK.of_keep fun b q h => ?_, os, bare⟩
    cases c : H b with
    | none => exact un.keep b q h c (fun z => absurd (show b ∈ ([] : List Addr) from z) List.not_mem_nil) (by simp)
    | some t =>
      obtain ⟨_, _, rfl⟩ := scriptH_some c
      obtain ⟨h1, _⟩ := hok b _ c
      obtain ⟨h2, _⟩ := hok' b _ (un.frzs b _ _ c)
      cases h1.symm.trans h
      exact h2
theorem walkGd {l : PySem.W.OpenLaw} {n k : Nat} {q : Program} {loose : List Str} {XP : (Str → Option Value) → Heap → Prop} {YP : World → Heap → Prop} {d : DefRec} {x : Str}
    (hn : l.most = some n) (hn2 : n ≤ sizeLine) (hdf : d.params.defaults = []) (room : Room k callerA)
    (F : ∀ (w : World) (mg : Str → Option Value) (fa : Addr) (h : Heap), YP w h → h.Ns mainGlobals mg → mg d.name = some (.ref fa) →
      ∃ (K : PySem.W.Frag) (fd : FuncData) (sp : Sp), K.In h ∧ (∀ (s : Shared) (u : Value), BindsTo s fd ⟨[u], []⟩ [(x, u)]) ∧
        (∀ (H : Hp) (a : Addr) (ns : List Int), ns.length ≤ n → SqL K H a (ns.map V.int) → sp [.ref a] H (fun v _ => v = .bl true) E0) ∧
        ∀ base : Heap, K.In base → base.Ns mainGlobals mg → FnGd l.prog w K mg base k fa fd [x] sp) :
    PySem.W.WalkO q loose XP YP l.row.toRowW d [] (fun f vs => PySem.call f vs) :=
  Att.attach_call hn hdf fun w s₀ s₁ mg mb fa o pm cd doc a vs ns G Y ho hd hcd hmg hobj hints hlen hg => by
    obtain ⟨K, fd, sp, kin, hb, hsp, hF⟩ := F w mg fa _ Y G.T.g hmg
    exact head_callG kin G.T.g G.T.b G.T.builtins G.T.nolimit hg hobj hints (Nat.le_trans hlen hn2) room hF hb fun H hS => hsp H a ns hlen hS
end KD
end
section
namespace K71
open PySem PySem.Spec PyProof.Rows L2 KD
/-! ### THE PLAIN LAW -/
theorem cell_flat {α : Type} {f : α → List Nat} (hf : ∀ x, (f x).length = 3) : ∀ {xs : List α} {i : Nat} {x : α}, xs[i]? = some x → cell (xs.flatMap f) i = f x
  | [], i, x, h => by simp at h
  | y :: r, 0, x, h => by
    cases (Option.some.inj h : y = x)
    unfold cell
    rw [List.flatMap_cons, Nat.mul_zero, List.drop_zero, List.take_append_of_le_length (by rw [hf]; exact Nat.le_refl 3), List.take_of_length_le (by rw [hf]; exact Nat.le_refl 3)]
  | y :: r, i + 1, x, h => by
    have ih := cell_flat hf (xs := r) (i := i) (x := x) (by simpa using h)
    unfold cell at ih ⊢
    rw [List.flatMap_cons, show 3 * (i + 1) = (f y).length + 3 * i by rw [hf]; omega, List.drop_append, List.drop_eq_nil_of_le (by omega), List.nil_append, show (f y).length + 3 * i - (f y).length = 3 * i by omega]
    exact ih
theorem cell_press (v u : List Nat) (i : Nat) : cell (pressV v u) i = pressV (cell v i) (cell u i) := by
  unfold cell pressV
  rw [List.drop_zipWith, List.take_zipWith]
theorem cells_ext {w : Nat} {v u : List Nat} (hv : v.length = 3 * w) (hu : u.length = 3 * w) (h : ∀ i, i < w → cell v i = cell u i) : v = u := by
  apply List.ext_getElem?
  intro j
  by_cases hj : j < 3 * w
  · have e := h (j / 3) (by omega)
    have e1 := cell_at (v := v) (i := j / 3) (k := j % 3) (Nat.mod_lt _ (by decide))
    have e2 := cell_at (v := u) (i := j / 3) (k := j % 3) (Nat.mod_lt _ (by decide))
    rw [show 3 * (j / 3) + j % 3 = j by omega] at e1 e2
    rw [← e1, ← e2, e]
  · rw [List.getElem?_eq_none (by omega), List.getElem?_eq_none (by omega)]
def plain (p : List Nat) : List Nat := p.flatMap bits3
theorem flat_len3 {α : Type} {f : α → List Nat} (hf : ∀ x, (f x).length = 3) : ∀ xs : List α, (xs.flatMap f).length = 3 * xs.length
  | [] => rfl
  | x :: r => by rw [List.flatMap_cons, List.length_append, flat_len3 hf r, hf, List.length_cons]; omega
theorem bits_len (d : Nat) : (bits3 d).length = 3 := rfl
theorem eff_len (it : Itm) : (eff3 it).length = 3 := rfl
theorem pl3_len (o : Option Nat) : (pl3 o).length = 3 := by cases o <;> rfl
theorem plain_len (p : List Nat) : (plain p).length = 3 * p.length := flat_len3 bits_len p
theorem l3_bits {d : Nat} : l3 (bits3 d) := fun x hx => by
  obtain ⟨c, _, rfl⟩ := List.mem_map.mp hx
  omega
theorem l3_plain (p : List Nat) : l3 (plain p) := fun x hx => by
  obtain ⟨d, _, h⟩ := List.mem_flatMap.mp hx
  exact l3_bits x h
theorem l3_pl3 (o : Option Nat) : l3 (pl3 o) := by
  cases o with
  | none => intro x hx; rcases List.mem_cons.mp hx with rfl | hx; decide; rcases List.mem_cons.mp hx with rfl | hx; decide; rcases List.mem_cons.mp hx with rfl | hx; decide; cases hx
  | some d => exact l3_bits
theorem l3_plr (r : List (Option Nat)) : l3 (r.flatMap pl3) := fun x hx => by
  obtain ⟨o, _, h⟩ := List.mem_flatMap.mp hx
  exact l3_pl3 o x h
theorem plain_some (p : List Nat) : (p.map some).flatMap pl3 = plain p := by
  unfold plain
  rw [List.flatMap_map]
  rfl
/-- pressing, then translating; translating, then pressing -/
theorem press_plain {p : List Nat} {its : List Itm} (hl : p.length = its.length) (h8 : d8 p) (hi : iall its) : pressV (plain p) (effs its) = plain (List.zipWith aft p its) := by
  refine cells_ext (w := p.length) ?_ ?_ fun i hlt => ?_
  · rw [pressV_len (by rw [plain_len, effs_len, hl]), plain_len]
  · rw [plain_len, List.length_zipWith]; omega
  · obtain ⟨d, hd⟩ := get_lt hlt
    obtain ⟨it, hit⟩ := get_lt (l := its) (i := i) (by omega)
    have hz := zw_get (f := aft) hd hit
    unfold plain effs
    rw [cell_press, cell_flat bits_len hd, cell_flat eff_len hit, cell_flat bits_len hz, bits_aft (h8 d (List.mem_of_getElem? hd)) (hi it (List.mem_of_getElem? hit))]
    rfl
theorem lay_plain {st : Wld} {j : Nat} : layAt (plainS st) j = effs (itAt st j) := by
  unfold layAt itAt plainS
  rw [List.getD_eq_getElem?_getD, List.getD_eq_getElem?_getD, List.getElem?_map]
  cases st[j]? with
  | none => rfl
  | some q => rfl
theorem run_plain {w : Nat} {st : Wld} (hw : Wd w st) : ∀ {J p : List Nat}, Jok st.length J → p.length = w → d8 p → runV (plainS st) (plain p) J = plain (runP st p J)
  | [], p, _, _, _ => rfl
  | j :: J, p, hJ, hp, h8 => by
    obtain ⟨q, hq, e⟩ := get_it (hJ.2 j List.mem_cons_self)
    have hm := List.mem_of_getElem? hq
    have hl := hw.ln q hm
    have hi := hw.it q hm
    have e1 : pressV (plain p) (layAt (plainS st) j) = plain (List.zipWith aft p (itAt st j)) := by rw [lay_plain, e]; exact press_plain (by omega) h8 hi
    have hJ1 : Jok st.length [j] := ⟨by show 1 ≤ 100; decide, fun x hx => by rw [List.mem_singleton.mp hx]; exact hJ.2 j List.mem_cons_self⟩
    obtain ⟨r1, r2⟩ := runP_ok hw hJ1 hp h8
    show runV (plainS st) (pressV (plain p) (layAt (plainS st) j)) J = _
    rw [e1]
    exact run_plain hw hJ.drop r1 r2
/-- a page under a net -/
def alN (n : Nat) (f : Nat → Bool) : Bool := (List.range n).all f
theorem alN_of {n : Nat} {f : Nat → Bool} (h : alN n f = true) {i : Nat} (hi : i < n) : f i = true := List.all_eq_true.mp h i (List.mem_range.mpr hi)
theorem fin_byB : (alN 8 fun d => alN 3 fun a => alN 3 fun b => alN 3 fun c => alN 8 fun n => (byC d (pressV [a, b, c] (eff3 (some (.set, n)))) == aft (byC d [a, b, c]) (some (.set, n))) && ((byC d (pressV [a, b, c] (eff3 (some (.add, n)))) == aft (byC d [a, b, c]) (some (.add, n))) && (byC d (pressV [a, b, c] (eff3 (some (.bl, n)))) == aft (byC d [a, b, c]) (some (.bl, n))))) = true := by decide +kernel
theorem fin_by (d : Nat) (hd : d < 8) (a : Nat) (ha : a < 3) (b : Nat) (hb : b < 3) (c : Nat) (hc : c < 3) (n : Nat) (hn : n < 8) : byC d (pressV [a, b, c] (eff3 (some (.set, n)))) = aft (byC d [a, b, c]) (some (.set, n)) ∧ byC d (pressV [a, b, c] (eff3 (some (.add, n)))) = aft (byC d [a, b, c]) (some (.add, n)) ∧ byC d (pressV [a, b, c] (eff3 (some (.bl, n)))) = aft (byC d [a, b, c]) (some (.bl, n)) := by
  have h := alN_of (alN_of (alN_of (alN_of (alN_of fin_byB hd) ha) hb) hc) hn
  rw [Bool.and_eq_true, Bool.and_eq_true] at h
  exact ⟨eq_of_beq h.1, eq_of_beq h.2.1, eq_of_beq h.2.2⟩
theorem three {s : List Nat} (hl : s.length = 3) : ∃ a b c, s = [a, b, c] := by
  match s, hl with
  | [a, b, c], _ => exact ⟨a, b, c, rfl⟩
theorem by_press {d : Nat} {s : List Nat} (hd : d < 8) (hl : s.length = 3) (h3 : l3 s) : ∀ {it : Itm}, iok it → byC d (pressV s (eff3 it)) = aft (byC d s) it := by
  obtain ⟨a, b, c, rfl⟩ := three hl
  have ha := h3 a (by simp)
  have hb := h3 b (by simp)
  have hc := h3 c (by simp)
  intro it hi
  match it, hi with
  | none, _ => rfl
  | some (.set, n), h => exact (fin_by d hd a ha b hb c hc n h).1
  | some (.add, n), h => exact (fin_by d hd a ha b hb c hc n h).2.1
  | some (.bl, n), h => exact (fin_by d hd a ha b hb c hc n h).2.2
theorem byV_at {p v : List Nat} {i d : Nat} (h : p[i]? = some d) : (byV p v)[i]? = some (byC d (cell v i)) := by
  unfold byV
  rw [map_at (range_at (lt_get h)), getD_of h]
theorem byV_press {w : Nat} {p v : List Nat} {its : List Itm} (hp : p.length = w) (hv : v.length = 3 * w) (hl : its.length = w) (h8 : d8 p) (h3 : l3 v) (hi : iall its) : byV p (pressV v (effs its)) = List.zipWith aft (byV p v) its := by
  apply List.ext_getElem?
  intro i
  by_cases hlt : i < w
  · obtain ⟨d, hd⟩ := get_lt (l := p) (i := i) (by omega)
    obtain ⟨it, hit⟩ := get_lt (l := its) (i := i) (by omega)
    rw [byV_at hd, zw_get (byV_at hd) hit, cell_press]
    unfold effs
    rw [cell_flat eff_len hit, by_press (h8 d (List.mem_of_getElem? hd)) (cell_len3 hv hlt) (l3_cell h3 i) (hi it (List.mem_of_getElem? hit))]
  · rw [List.getElem?_eq_none (by rw [byV_len]; omega), List.getElem?_eq_none (by rw [List.length_zipWith, byV_len]; omega)]
theorem byV_d8 {w : Nat} {p v : List Nat} (hp : p.length = w) (hv : v.length = 3 * w) (h8 : d8 p) (h3 : l3 v) : d8 (byV p v) := fun x hx => by
  obtain ⟨i, hi⟩ := List.mem_iff_getElem?.mp hx
  have hlt := lt_get hi
  rw [byV_len] at hlt
  obtain ⟨d, hd⟩ := get_lt hlt
  rw [byV_at hd] at hi
  cases hi
  exact byC_lt (h8 d (List.mem_of_getElem? hd)) (cell_len3 hv (by omega)) (l3_cell h3 i)
theorem by_run {w : Nat} {st : Wld} (hw : Wd w st) : ∀ {J p v : List Nat}, Jok st.length J → p.length = w → v.length = 3 * w → d8 p → l3 v → byV p (runV (plainS st) v J) = runP st (byV p v) J
  | [], p, v, _, _, _, _, _ => rfl
  | j :: J, p, v, hJ, hp, hv, h8, h3 => by
    obtain ⟨q, hq, e⟩ := get_it (hJ.2 j List.mem_cons_self)
    have hm := List.mem_of_getElem? hq
    have hl := hw.ln q hm
    have hi := hw.it q hm
    have h3' : l3 (pressV v (effs q.2)) := l3_press h3 (l3_effs _)
    have hv' : (pressV v (effs q.2)).length = 3 * w := by rw [pressV_len (by rw [effs_len, hl, hv])]; exact hv
    show byV p (runV (plainS st) (pressV v (layAt (plainS st) j)) J) = runP st (List.zipWith aft (byV p v) (itAt st j)) J
    rw [lay_plain, e, by_run hw hJ.drop hp hv' h8 h3', byV_press hp hv hl h8 h3 hi]
theorem fin_id : ∀ d : Nat, d < 8 → byC d [2, 2, 2] = d := by decide +kernel
theorem cell_rep {w i : Nat} (h : i < w) : cell (List.replicate (3 * w) 2) i = [2, 2, 2] := by
  unfold cell
  rw [List.drop_replicate, List.take_replicate, show min 3 (3 * w - 3 * i) = 3 by omega]
  rfl
theorem byV_rep {w : Nat} {p : List Nat} (hp : p.length = w) (h8 : d8 p) : byV p (List.replicate (3 * w) 2) = p := by
  apply List.ext_getElem?
  intro i
  by_cases hlt : i < w
  · obtain ⟨d, hd⟩ := get_lt (l := p) (i := i) (by omega)
    rw [byV_at hd, cell_rep hlt, fin_id d (h8 d (List.mem_of_getElem? hd)), hd]
  · rw [List.getElem?_eq_none (by rw [byV_len]; omega), List.getElem?_eq_none (by omega)]
/-- what the sheet becomes is what the net says -/
theorem net_page {w : Nat} {st : Wld} (hw : Wd w st) {J p : List Nat} (hJ : Jok st.length J) (hp : p.length = w) (h8 : d8 p) : byV p (netV w (plainS st) J) = runP st p J := by
  unfold netV
  rw [by_run hw hJ hp List.length_replicate h8 (l3_rep _), byV_rep hp h8]
/-- the pairs tell the net -/
theorem fin_pairB : (alN 3 fun a => alN 3 fun b => alN 3 fun c => alN 3 fun x => alN 3 fun y => alN 3 fun z => !(cwV [a, b, c] 1 == cwV [x, y, z] 1 && cwV [a, b, c] 0 == cwV [x, y, z] 0) || [a, b, c] == [x, y, z]) = true := by decide +kernel
theorem fin_pair (a : Nat) (ha : a < 3) (b : Nat) (hb : b < 3) (c : Nat) (hc : c < 3) (x : Nat) (hx : x < 3) (y : Nat) (hy : y < 3) (z : Nat) (hz : z < 3) (h1 : cwV [a, b, c] 1 = cwV [x, y, z] 1) (h2 : cwV [a, b, c] 0 = cwV [x, y, z] 0) : [a, b, c] = [x, y, z] := by
  have h := alN_of (alN_of (alN_of (alN_of (alN_of (alN_of fin_pairB ha) hb) hc) hx) hy) hz
  rw [beq_iff_eq.mpr h1, beq_iff_eq.mpr h2] at h
  exact eq_of_beq h
theorem pairs_inj {w : Nat} {v u : List Nat} (hv : v.length = 3 * w) (hu : u.length = 3 * w) (h3 : l3 v) (g3 : l3 u) : decide (pairsN w v = pairsN w u) = decide (v = u) := by
  rw [decide_eq_decide]
  refine ⟨fun h => cells_ext hv hu fun i hi => ?_, fun h => by rw [h]⟩
  have e : (pairsN w v)[i]? = (pairsN w u)[i]? := by rw [h]
  unfold pairsN at e
  rw [map_at (range_at hi), map_at (range_at hi), cell_map, cell_map] at e
  obtain ⟨c1, c2⟩ := cw_sc (cell_len3 hv hi) (l3_cell h3 i)
  obtain ⟨c3, c4⟩ := cw_sc (cell_len3 hu hi) (l3_cell g3 i)
  rw [c1, c2, c3, c4] at e
  have e' := Option.some.inj e
  have e1 := congrArg Prod.fst e'
  have e2 := congrArg Prod.snd e'
  obtain ⟨a, b, c, h1⟩ := three (cell_len3 hv hi)
  obtain ⟨x, y, z, h2⟩ := three (cell_len3 hu hi)
  have p3 := l3_cell h3 i
  have q3 := l3_cell g3 i
  rw [h1] at e1 e2 p3 ⊢
  rw [h2] at e1 e2 q3 ⊢
  exact fin_pair a (p3 a (by simp)) b (p3 b (by simp)) c (p3 c (by simp)) x (q3 x (by simp)) y (q3 y (by simp)) z (q3 z (by simp)) e1 e2
/-- the parting sheet -/
theorem fin_partB : (alN 3 fun a => alN 3 fun b => alN 3 fun c => alN 3 fun x => alN 3 fun y => alN 3 fun z => alN 3 fun k => [a, b, c].getD k 0 == [x, y, z].getD k 0 ||
    !(byC (if [a, b, c].getD k 0 + [x, y, z].getD k 0 = 2 then cols.getD k 0 else 0) [a, b, c] == byC (if [a, b, c].getD k 0 + [x, y, z].getD k 0 = 2 then cols.getD k 0 else 0) [x, y, z])) = true := by decide +kernel
theorem fin_part (a : Nat) (ha : a < 3) (b : Nat) (hb : b < 3) (c : Nat) (hc : c < 3) (x : Nat) (hx : x < 3) (y : Nat) (hy : y < 3) (z : Nat) (hz : z < 3) (k : Nat) (hk : k < 3) (h0 : [a, b, c].getD k 0 ≠ [x, y, z].getD k 0)
    (h1 : byC (if [a, b, c].getD k 0 + [x, y, z].getD k 0 = 2 then cols.getD k 0 else 0) [a, b, c] = byC (if [a, b, c].getD k 0 + [x, y, z].getD k 0 = 2 then cols.getD k 0 else 0) [x, y, z]) : False := by
  have h := alN_of (alN_of (alN_of (alN_of (alN_of (alN_of (alN_of fin_partB ha) hb) hc) hx) hy) hz) hk
  rw [beq_eq_false_iff_ne.mpr h0, beq_iff_eq.mpr h1] at h
  cases h
theorem part_ok {w at_ x y : Nat} {v u : List Nat} (hv : v.length = 3 * w) (hu : u.length = 3 * w) (h3 : l3 v) (g3 : l3 u) (ha : at_ < 3 * w) (hx : v[at_]? = some x) (hy : u[at_]? = some y) (hne : x ≠ y) : Part w v u (partP w at_ x y) := by
  have hco : cols.getD (at_ % 3) 0 < 8 := by
    have : ∀ e : Nat, e < 3 → cols.getD e 0 < 8 := by decide
    exact this _ (Nat.mod_lt _ (by decide))
  have hlen : (partP w at_ x y).length = w := by
    unfold partP
    rw [List.length_append, List.length_append, List.length_replicate, List.length_replicate]
    show at_ / 3 + 1 + (w - at_ / 3 - 1) = w
    omega
  refine ⟨hlen, fun d hd => ?_, fun h => ?_⟩
  · unfold partP at hd
    rcases List.mem_append.mp hd with z | z
    · rcases List.mem_append.mp z with z | z
      · rw [(List.mem_replicate.mp z).2]; decide
      · rw [List.mem_singleton.mp z]; split
        · exact hco
        · decide
    · rw [(List.mem_replicate.mp z).2]; decide
  · have hp : (partP w at_ x y)[at_ / 3]? = some (if x + y = 2 then cols.getD (at_ % 3) 0 else 0) := by
      unfold partP
      rw [List.getElem?_append_left (by rw [List.length_append, List.length_replicate]; show at_ / 3 < at_ / 3 + 1; omega), List.getElem?_append_right (by rw [List.length_replicate]; exact Nat.le_refl _), List.length_replicate, Nat.sub_self]
      rfl
    have e : (byV (partP w at_ x y) v)[at_ / 3]? = (byV (partP w at_ x y) u)[at_ / 3]? := by rw [h]
    rw [byV_at hp, byV_at hp] at e
    have e' := Option.some.inj e
    have hi : at_ / 3 < w := by omega
    have hk : at_ % 3 < 3 := Nat.mod_lt _ (by decide)
    have g1 : (cell v (at_ / 3)).getD (at_ % 3) 0 = x := getD_of (by rw [cell_at hk, show 3 * (at_ / 3) + at_ % 3 = at_ by omega]; exact hx)
    have g2 : (cell u (at_ / 3)).getD (at_ % 3) 0 = y := getD_of (by rw [cell_at hk, show 3 * (at_ / 3) + at_ % 3 = at_ by omega]; exact hy)
    obtain ⟨a, b, c, h1⟩ := three (cell_len3 hv hi)
    obtain ⟨a', b', c', h2⟩ := three (cell_len3 hu hi)
    have p3 := l3_cell h3 (at_ / 3)
    have q3 := l3_cell g3 (at_ / 3)
    rw [h1] at e' p3 g1
    rw [h2] at e' q3 g2
    rw [← g1, ← g2] at hne e'
    exact fin_part a (p3 a (by simp)) b (p3 b (by simp)) c (p3 c (by simp)) a' (q3 a' (by simp)) b' (q3 b' (by simp)) c' (q3 c' (by simp)) (at_ % 3) hk hne e'
/-- the layer of a page, read -/
theorem fin_read : ∀ d : Nat, d < 8 → sgn ((bits3 d).map sc) = some (some d) := by decide +kernel
theorem read_plain {p : List Nat} (h8 : d8 p) : readL ((plain p).map sc) = some (p.map some) := by
  have hl : ((plain p).map sc).length = 3 * p.length := by rw [List.length_map, plain_len]
  have hc : ∀ i d, p[i]? = some d → sgn (cell ((plain p).map sc) i) = some (some d) := fun i d hd => by
    rw [cell_map]
    unfold plain
    rw [cell_flat bits_len hd]
    exact fin_read d (h8 d (List.mem_of_getElem? hd))
  rw [readL_some (by rw [hl]; omega) fun i hi => by
    obtain ⟨d, hd⟩ := get_lt (l := p) (i := i) (by rw [hl] at hi; omega)
    rw [hc i d hd]; rfl]
  congr 1
  rw [hl, show 3 * p.length / 3 = p.length by omega]
  apply List.ext_getElem?
  intro i
  by_cases hi : i < p.length
  · obtain ⟨d, hd⟩ := get_lt hi
    rw [map_at (range_at hi), map_at hd]
    unfold rdAt
    rw [hc i d hd]
    rfl
  · rw [List.getElem?_eq_none (by rw [List.length_map, List.length_range]; omega), List.getElem?_eq_none (by rw [List.length_map]; omega)]
end K71
end
section
namespace K71
open PySem PySem.Spec PyProof.Rows L2 KD
section
variable {P : Program} {w : World} {K : PySem.W.Frag} {mg : Str → Option Value} {base : Heap} {f : Addr} {fd : FuncData} {Ci Cs : Addr}

/-! ### _law_nets_right -/
theorem Jk.jok {n : Nat} {J : List Nat} (h : Jk n J) : Jok n J := ⟨Nat.le_trans h.1 (by decide), h.2⟩
def nms (st : Wld) : List (List Nat) := st.map (·.1)
theorem nms_good {w : Nat} {st : Wld} (h : Wd w st) : ∀ n ∈ nms st, nameB n = true := fun n hn => by
  obtain ⟨q, hq, rfl⟩ := List.mem_map.mp hn
  exact h.nm q hq
theorem shp_row {ns : List (List Nat)} {J : List Nat} (h : ∀ n ∈ ns, nameB n = true) (hJ : ∀ j ∈ J, j < ns.length) : Shp 1 (.list (rowD ns J)) := shp_lst fun x hx => by
  unfold rowD at hx
  obtain ⟨j, hj, rfl⟩ := List.mem_map.mp hx
  obtain ⟨n, hn⟩ := get_lt (hJ j hj)
  rw [getD_of hn]
  exact shp_str _ (ok_name (h n (List.mem_of_getElem? hn)))
def mouldD (st : Wld) : List PyData := st.map fun p => .list (p.2.map (itD false))
def pagesD (ps : List (List Nat)) : List PyData := ps.map fun p => .str (digT p)
def R_nets_right (Ci : Addr) (K : PySem.W.Frag) (κs : List Kd) (κ : Kd) : Prop := ∃ (w : Nat) (st : Wld) (J1 J2 : List Nat) (ps : List (List Nat)), Wd w st ∧ Jk st.length J1 ∧ Jk st.length J2 ∧ 1 ≤ ps.length ∧ ps.length ≤ 10 ∧ (∀ p ∈ ps, p.length = w ∧ d8 p) ∧
  κs = [kInk K Ci w st, wldD K (w, st), kL K (rowD (nms st) J1), kL K (rowD (nms st) J2), kL K (pagesD ps)] ∧ κ = kB K true
abbrev nmNr : List Str := ["_law_held", "_law_world", "_law_one", "_law_two", "_law_pages", "_law_many", "_law_effects_here", "_law_mould", "_law_first", "_law_second", "_law_asked", "_law_alls", "_law_page", "_law_made", "_law_other_here", "_law_last"]
abbrev psNr : List Str := ["_law_held", "_law_world", "_law_one", "_law_two", "_law_pages"]
theorem sc_nets_right : FnScope nmNr psNr (defScope (top 83)) := ⟨rfl, rfl, rfl, by decide +kernel, rfl, by decide +kernel, by decide +kernel⟩
theorem ok_nets_right (F : FnG K "_law_nets_right" (top 83) f fd) (T : Tx K mg) (D_effects : Df P w K mg base 1 "_law_effects" ["_law_mould"] (R_effects K)) (D_law_ink_net : Df P w K mg base 1 "_law_ink_net" ["_law_names", "_law_effects_here", "_law_line", "_law_many"] (R_law_ink_net K)) (D_pairs_right : Df P w K mg base 2 "_law_pairs_right" ["_law_told", "_law_net"] (R_pairs_right K))
    (D_ink_net : Df P w K mg base 7 "ink_net" ["inks", "row"] (R_ink_net Ci K)) (D_parting : Df P w K mg base 1 "_law_parting" ["_law_one", "_law_two"] (R_parting K)) (D_ink_pressed : Df P w K mg base 3 "ink_pressed" ["inks", "sheet", "row"] (R_ink_pressed Ci K)) (D_same : Df P w K mg base 1 "_law_same_text" ["_law_told", "_law_due"] (R_same K))
    (D_by_net : Df P w K mg base 1 "_law_by_net" ["_law_page", "_law_net"] (R_by_net K)) : FnOk P w K mg base CX0 8 f fd psNr (spF (R_nets_right Ci K)) := by
  refine def_ok F sc_nets_right (fun κs κ ⟨_, _, _, _, _, _, _, _, _, _, _, e, _⟩ => by rw [e]; rfl) fun cdv A outer s H E κs κ hr h => ?_
  obtain ⟨n, st, J1, J2, ps, hw, hJ1, hJ2, p1, p10, hps, rfl, rfl⟩ := h
  have nd := sc_nets_right.nd
  have w10 := hw.w10
  have n10 := hw.n10
  have hpd := pd_plain hw
  have pl := plainS_len st
  have k1 : Jok (plainS st).length J1 := by rw [pl]; exact hJ1.jok
  have k2 : Jok (plainS st).length J2 := by rw [pl]; exact hJ2.jok
  have epn : (plainS st).map (·.1) = nms st := plainS_names st
  obtain ⟨v1, v3⟩ := runV_ok hpd k1 (v := List.replicate (3 * n) 2) List.length_replicate (l3_rep _)
  obtain ⟨u1, u3⟩ := runV_ok hpd k2 (v := List.replicate (3 * n) 2) List.length_replicate (l3_rep _)
  have np1 : ∀ p, p.length = n → d8 p → byV p (netV n (plainS st) J1) = runP st p J1 := fun p a b => net_page hw hJ1.jok a b
  have np2 : ∀ p, p.length = n → d8 p → byV p (netV n (plainS st) J2) = runP st p J2 := fun p a b => net_page hw hJ2.jok a b
  have hv1 : (netV n (plainS st) J1).length = 3 * n := v1
  have hv3 : l3 (netV n (plainS st) J1) := v3
  have hu1 : (netV n (plainS st) J2).length = 3 * n := u1
  have hu3 : l3 (netV n (plainS st) J2) := u3
  refine ss_cons (sk_set 5 nd (EK.to (d' := .int (3 * n : Nat)) (ek_mul ek_int (ek_ixL (d := .int n) (ek_var 1) ek_int (at_nat (n := 0) rfl)) (.inl (by decide))) (by congr 1))) ?_
  refine ss_cons (sk_setLc 6 (effD (plainS st)) rfl nd (ik_list (ek_ixL (d := .list (mouldD st)) (ek_var 1) ek_int (at_nat (n := 2) rfl))) (blkOk_by (N := nmNr) (sc := defScope (top 83)) (own := [("_law_mould", 7)]) (by decide +kernel)) (fun i => [.k (kInk K Ci n st), .k (wldD K (n, st)), .k (kL K (rowD (nms st) J1)), .k (kL K (rowD (nms st) J2)), .k (kL K (pagesD ps)), .k (kI K (3 * n : Nat)), .un, .k (dt K ((mouldD st).getD i .none)), .un, .un, .un, .un, .un, .un, .un, .un]) ?hl ?hz (fun i d hd s H C cl fp => ?bg) (fun i d e hd he s H C cl fp => ?el) (sw_true rfl rfl rfl (by decide +kernel))) ?_
  case hl => unfold effD mouldD plainS; rw [List.length_map, List.length_map, List.length_map]
  case hz => unfold mouldD; rw [List.length_map]; omega
  case bg => rw [getD_of hd]; exact bg_name 7 (by decide) nd
  case el =>
    rw [getD_of hd]
    unfold mouldD at hd
    obtain ⟨q, hq, rfl⟩ := map_get hd
    unfold effD plainS at he
    rw [map_at (map_at hq)] at he
    cases he
    have hqm := List.mem_of_getElem? hq
    exact ek_call D_effects (hr.mono (by decide)) (ak_cons (ek_var 7) ak_nil) ⟨q.2, hw.it q hqm, by rw [hw.ln q hqm]; omega, rfl, rfl⟩
  refine ss_cons (sk_set 8 nd (ek_call (κ := kNum K (netV n (plainS st) J1)) D_law_ink_net (hr.mono (by decide)) (ak_cons (ek_ixL (d := .list (namesD (nms st))) (ek_var 1) ek_int (at_nat (n := 1) (by show some (PyData.list _) = _; unfold namesD nms; rw [List.map_map]; rfl))) (ak_cons (ek_var 6) (ak_cons (ek_var 2) (ak_cons (ek_var 5) ak_nil)))) ⟨n, plainS st, J1, hpd, k1, by rw [epn]; rfl, rfl⟩)) ?_
  refine ss_cons (sk_set 9 nd (ek_call (κ := kNum K (netV n (plainS st) J2)) D_law_ink_net (hr.mono (by decide)) (ak_cons (ek_ixL (d := .list (namesD (nms st))) (ek_var 1) ek_int (at_nat (n := 1) (by show some (PyData.list _) = _; unfold namesD nms; rw [List.map_map]; rfl))) (ak_cons (ek_var 6) (ak_cons (ek_var 3) (ak_cons (ek_var 5) ak_nil)))) ⟨n, plainS st, J2, hpd, k2, by rw [epn]; rfl, rfl⟩)) ?_
  generalize hfirst : netV n (plainS st) J1 = v at hv1 hv3 np1
  generalize hsecond : netV n (plainS st) J2 = u at hu1 hu3 np2
  have e1 : (pairsN n (netV n (plainS st) J1)) = pairsN n v := by rw [hfirst]
  have e2 : (pairsN n (netV n (plainS st) J2)) = pairsN n u := by rw [hsecond]
  have shr1 := shp_row (nms_good hw) (J := J1) (by unfold nms; rw [List.length_map]; exact hJ1.2)
  refine ss_cons (sk_set 10 nd (ek_list1 T.list (ek_var 2) rfl)) ?_
  refine ss_F (tk_w (wk_or (tk_not (tk_val (ek_call D_pairs_right (hr.mono (by decide)) (ak_cons (ek_call D_ink_net (hr.mono (by decide)) (ak_cons (ek_var 0) (ak_cons (ek_var 10) ak_nil)) ⟨n, st, false, J1, hw, hJ1.jok, rfl, rfl⟩) (ak_cons (ek_var 8) ak_nil)) ⟨n, v, w10, hv1, hv3, by rw [e1], rfl⟩))) (fun h => (wk_or1 (tk_neD (hu64 hr) (ek_var 10) (ek_var 2) (shp_sh shr1) (shp_sh shr1)))))) (by rw [eqv_self shr1]; rfl) ?_
  refine ss_F (tk_not (tk_val (ek_call D_pairs_right (hr.mono (by decide)) (ak_cons (ek_callK D_ink_net (hr.mono (by decide)) (kw_cons (ek_var 0) (kw_cons (ek_tuple1 T.tuple (ek_var 3) rfl) kw_nil)) ⟨n, st, true, J2, hw, hJ2.jok, rfl, rfl⟩) (ak_cons (ek_var 9) ak_nil)) ⟨n, u, w10, hu1, hu3, by rw [e2], rfl⟩))) rfl ?_
  refine ss_F (tk_not (tk_val (ek_call D_pairs_right (hr.mono (by decide)) (ak_cons (ek_call D_ink_net (hr.mono (by decide)) (ak_cons (ek_var 0) (ak_cons (ek_lst (ds := []) ak_nil) ak_nil)) ⟨n, st, false, [], hw, ⟨by decide, fun j hj => absurd hj List.not_mem_nil⟩, rfl, rfl⟩) (ak_cons (EK.to (d' := .list (numD (List.replicate (3 * n) 2))) (ek_repL (ds := [.int 2]) (ak_cons ek_int ak_nil) (ek_var 5) ⟨by decide, by omega, by omega, by show 1 * _ ≤ 1000; omega⟩) (by rw [Int.toNat_natCast]; exact congrArg PyData.list (num_rep (3 * n) 2))) ak_nil)) ⟨n, List.replicate (3 * n) 2, w10, List.length_replicate, l3_rep _, rfl, rfl⟩))) rfl ?_
  refine ss_cons (sk_newL 11 nd (by show 11 < 16; decide) T.list (ek_var 4)) ?_
  have eqD : PyData.eqv (.list (numD v)) (.list (numD u)) = decide (v = u) := by
    show PyData.eqvAll (numD v) (numD u) = _
    exact eqv_ints v u
  have sv := shp_sh (shp_ints v)
  have su := shp_sh (shp_ints u)
  -- all the sheets; the last one parts two nets that differ
  have fin : ∀ ps : List (List Nat), 1 ≤ ps.length → ps.length ≤ 20 → (∀ p ∈ ps, p.length = n ∧ d8 p) → (∀ p, ps[ps.length - 1]? = some p → v = u ∨ byV p v ≠ byV p u) → SsK (Bx P w K mg base nmNr "_law_nets_right" (defScope (top 83)) f cdv A outer s H E) ((defBody (top 83)).drop 10) [.k (kInk K Ci n st), .k (wldD K (n, st)), .k (kL K (rowD (nms st) J1)), .k (kL K (rowD (nms st) J2)), .un, .k (kI K (3 * n : Nat)), .un, .un, .k (kNum K v), .k (kNum K u), .un, .k (kL K (pagesD ps)), .un, .un, .un, .un] (.rt (kB K true)) := fun ps p1 p20 hps hlast => by
    refine ss_cons (sk_for PassesOwn.never rfl (ik_list (ek_var 11)) (fun i => [.k (kInk K Ci n st), .k (wldD K (n, st)), .k (kL K (rowD (nms st) J1)), .k (kL K (rowD (nms st) J2)), .un, .k (kI K (3 * n : Nat)), .un, .un, .k (kNum K v), .k (kNum K u), .un, .k (kL K (pagesD ps)), .un, .un, .un, .un]) (.refl _) (fun i x hx => ⟨_, gk_name 12 nd, ?_⟩)) ?_
    · unfold pagesD at hx
      obtain ⟨p, hp, rfl⟩ := map_get hx
      obtain ⟨pl, p8⟩ := hps p (List.mem_of_getElem? hp)
      have b1 := np1 p pl p8
      have b2 := np2 p pl p8
      refine ss_cons (sk_set 13 nd (ek_call (κ := kS K (digT (runP st p J1))) D_ink_pressed (hr.mono (by decide)) (ak_cons (ek_var 0) (ak_cons (ek_var 12) (ak_cons (ek_var 2) ak_nil))) ⟨n, st, p, false, J1, hw, pl, p8, hJ1.jok, rfl, rfl⟩)) ?_
      refine ss_cons (sk_set 14 nd (ek_call (κ := kS K (digT (runP st p J2))) D_ink_pressed (hr.mono (by decide)) (ak_cons (ek_var 0) (ak_cons (ek_var 12) (ak_cons (ek_var 3) ak_nil))) ⟨n, st, p, false, J2, hw, pl, p8, hJ2.jok, rfl, rfl⟩)) ?_
      rw [← b1, ← b2]
      refine ss_F (tk_w (wk_or (tk_not (tk_val (ek_call D_same (hr.mono (by decide)) (ak_cons (ek_var 13) (ak_cons (ek_call (κ := kS K (digT (byV p v))) D_by_net (hr.mono (by decide)) (ak_cons (ek_var 12) (ak_cons (ek_var 8) ak_nil)) ⟨n, p, v, w10, pl, p8, hv1, hv3, rfl, rfl⟩) ak_nil)) ⟨digT (byV p v), rfl, rfl⟩))) (fun h => (wk_or1 (tk_not (tk_val (ek_call D_same (hr.mono (by decide)) (ak_cons (ek_var 14) (ak_cons (ek_call (κ := kS K (digT (byV p u))) D_by_net (hr.mono (by decide)) (ak_cons (ek_var 12) (ak_cons (ek_var 9) ak_nil)) ⟨n, p, u, w10, pl, p8, hu1, hu3, rfl, rfl⟩) ak_nil)) ⟨digT (byV p u), rfl, rfl⟩))))))) rfl ?_
      refine ss_F (tk_w (wk_and (tk_eqD (hu64 hr) (d := .list (numD v)) (d' := .list (numD u)) (ek_var 8) (ek_var 9) sv su) (fun h => (wk_and1 (tk_neS (ek_var 13) (ek_var 14)))))) ?_ (ss_weakO ss_nil (.keep (.keep (.keep (.keep (.keep (.keep (.keep (.keep (.keep (.keep (.keep (.keep (.drop (.drop (.drop (.keep .nil)))))))))))))))))
      rw [eqD]
      by_cases c : v = u
      · subst c
        rw [decide_eq_true rfl]
        rw [decide_eq_true (show digT (byV p v) = digT (byV p v) from rfl)]
        rfl
      · rw [decide_eq_false c]; rfl
    · have spv := shp_sh (shp_pairs (pairsN n v))
      have spu := shp_sh (shp_pairs (pairsN n u))
      refine ss_F (tk_neB (ek_eqD (hu64 hr) (d := .tuple ((pairsN n v).map k71D)) (d' := .tuple ((pairsN n u).map k71D)) (ek_call D_ink_net (hr.mono (by decide)) (ak_cons (ek_var 0) (ak_cons (ek_var 2) ak_nil)) ⟨n, st, false, J1, hw, hJ1.jok, rfl, by rw [e1]; rfl⟩) (ek_call D_ink_net (hr.mono (by decide)) (ak_cons (ek_var 0) (ak_cons (ek_var 3) ak_nil)) ⟨n, st, false, J2, hw, hJ2.jok, rfl, by rw [e2]; rfl⟩) spv spu) (ek_eqD (hu64 hr) (d := .list (numD v)) (d' := .list (numD u)) (ek_var 8) (ek_var 9) sv su)) ?_ ?_
      · rw [eqD]
        show (!decide (PyData.eqvAll ((pairsN n v).map k71D) ((pairsN n u).map k71D) = _)) = false
        rw [eqv_pairs, pairs_inj hv1 hu1 hv3 hu3, decide_eq_true rfl]
        rfl
      · obtain ⟨lst, hlst⟩ := get_lt (l := ps) (i := ps.length - 1) (by omega)
        obtain ⟨pl, p8⟩ := hps lst (List.mem_of_getElem? hlst)
        have b1 := np1 lst pl p8
        have b2 := np2 lst pl p8
        have lpd : (pagesD ps).length = ps.length := by unfold pagesD; rw [List.length_map]
        refine ss_cons (sk_set 15 nd (ek_ixL (d := .str (digT lst)) (ek_var 11) (ek_sub (ek_len (n := ps.length) T.len (ek_var 11) (by exact congrArg some lpd) (by omega)) ek_int) (at_int (by omega) (by rw [show ((ps.length : Int) - 1).toNat = ps.length - 1 by omega]; unfold pagesD; exact map_at hlst)))) ?_
        refine ss_one (sk_ret (EK.to (ek_or (ek_eqD (hu64 hr) (d := .list (numD v)) (d' := .list (numD u)) (ek_var 8) (ek_var 9) sv su) (fun h => (ek_one (ek_neS (x := digT (byV lst v)) (y := digT (byV lst u)) (ek_call D_ink_pressed (hr.mono (by decide)) (ak_cons (ek_var 0) (ak_cons (ek_var 15) (ak_cons (ek_var 2) ak_nil))) ⟨n, st, lst, false, J1, hw, pl, p8, hJ1.jok, rfl, by rw [b1]; rfl⟩) (ek_call D_ink_pressed (hr.mono (by decide)) (ak_cons (ek_var 0) (ak_cons (ek_var 15) (ak_cons (ek_var 3) ak_nil))) ⟨n, st, lst, false, J2, hw, pl, p8, hJ2.jok, rfl, by rw [b2]; rfl⟩))))) ?_))
        rw [eqD]
        rcases hlast lst hlst with c | c
        · rw [decide_eq_true c]; rfl
        · have : decide (digT (byV lst v) = digT (byV lst u)) = false := decide_eq_false fun z => by
            have z2 := ofL_inj z
            have inj : ∀ a b : List Nat, a.map dc = b.map dc → a = b := fun a b h => by
              apply List.ext_getElem?
              intro i
              have h2 : (a.map dc)[i]? = (b.map dc)[i]? := by rw [h]
              rw [List.getElem?_map, List.getElem?_map] at h2
              cases h3 : a[i]? with
              | none => rw [h3] at h2; cases h4 : b[i]? with
                | none => rfl
                | some y => rw [h4] at h2; cases h2
              | some x => rw [h3] at h2; cases h4 : b[i]? with
                | none => rw [h4] at h2; cases h2
                | some y =>
                  rw [h4] at h2
                  have := Option.some.inj h2
                  unfold dc at this
                  congr 1
                  omega
            exact c (inj _ _ z2)
          rw [this]
          cases decide (v = u) <;> rfl
  by_cases hvu : v = u
  · refine ss_F (tk_neD (hu64 hr) (d := .list (numD v)) (d' := .list (numD u)) (ek_var 8) (ek_var 9) sv su) (by rw [eqD, decide_eq_true hvu]; rfl) ?_
    refine ss_freeze 11 rfl ?_
    exact ss_weak (.keep (.keep (.keep (.keep (.drop (.keep (.drop (.drop (.keep (.keep (.drop (.keep (.drop (.drop (.drop (.drop .nil)))))))))))))))) (fin ps p1 (by omega) hps fun p _ => .inl hvu)
  · refine ss_consX (sk_T (tk_neD (hu64 hr) (d := .list (numD v)) (d' := .list (numD u)) (ek_var 8) (ek_var 9) sv su) (by rw [eqD, decide_eq_false hvu]; rfl) (ss_one (sk_appX (P := fun q : Nat × Nat × Nat => q.1 < 3 * n ∧ v[q.1]? = some q.2.1 ∧ u[q.1]? = some q.2.2 ∧ q.2.1 ≠ q.2.2) (g := fun q => .str (digT (partP n q.1 q.2.1 q.2.2))) (ds := pagesD ps) 11 rfl (ek_call D_parting (hr.mono (by decide)) (ak_cons (ek_var 8) (ak_cons (ek_var 9) ak_nil)) ⟨n, v, u, w10, hv1, hu1, hv3, hu3, hvu, rfl, rfl⟩) (by unfold pagesD; rw [List.length_map]; omega)))) (fun ρ' hρ => ?_)
    obtain ⟨⟨at_, x, y⟩, ⟨ha, hx, hy, hne⟩, rfl⟩ := hρ
    have hpt := part_ok hv1 hu1 hv3 hu3 ha hx hy hne
    have eapp : pagesD ps ++ [.str (digT (partP n at_ x y))] = pagesD (ps ++ [partP n at_ x y]) := by unfold pagesD; rw [List.map_append]; rfl
    rw [show (pagesD ps ++ [PyData.str (digT (partP n (at_, x, y).1 (at_, x, y).2.1 (at_, x, y).2.2))]) = pagesD (ps ++ [partP n at_ x y]) from eapp]
    refine ss_freeze 11 rfl ?_
    refine ss_weak (.keep (.keep (.keep (.keep (.drop (.keep (.drop (.drop (.keep (.keep (.drop (.keep (.drop (.drop (.drop (.drop .nil)))))))))))))))) (fin (ps ++ [partP n at_ x y]) (by rw [List.length_append]; show 1 ≤ _ + 1; omega) (by rw [List.length_append]; show _ + 1 ≤ 20; omega) (fun p hp => ?_) fun p hp => ?_)
    · rcases List.mem_append.mp hp with z | z
      · exact hps p z
      · rw [List.mem_singleton.mp z]; exact ⟨hpt.len, hpt.d8⟩
    · rw [List.length_append, show ps.length + [partP n at_ x y].length - 1 = ps.length by show ps.length + 1 - 1 = _; omega, List.getElem?_append_right (Nat.le_refl _), Nat.sub_self] at hp
      cases hp
      exact .inr hpt.ne
end
end K71
end
section
namespace K71
open PySem PySem.Spec PyProof.Rows L2 KD
/-! ### what repr shows of a stamp -/
theorem fin_shown : ∀ n : Nat, n < 8 → ∀ c : Bool, ((itD c (some (.set, n))).shown.length ≤ 40 ∧ (itD c (some (.add, n))).shown.length ≤ 40 ∧ (itD c (some (.bl, n))).shown.length ≤ 40) := by decide +kernel
theorem fin_showable : ∀ n : Nat, n < 8 → ∀ c : Bool, ((itD c (some (.set, n))).showable = true ∧ (itD c (some (.add, n))).showable = true ∧ (itD c (some (.bl, n))).showable = true) := by decide +kernel
theorem it_shown {c : Bool} {it : Itm} (h : iok it) : (itD c it).shown.length ≤ 40 ∧ (itD c it).showable = true ∧ (itD c it).hasDict = false ∧ (itD c it).depth ≤ 1 := by
  match it, h with
  | none, _ => exact ⟨by cases c <;> decide +kernel, rfl, rfl, by show 0 ≤ 1; decide⟩
  | some (.set, n), h => exact ⟨(fin_shown n h c).1, (fin_showable n h c).1, by cases c <;> rfl, by cases c <;> exact Nat.le_refl 1⟩
  | some (.add, n), h => exact ⟨(fin_shown n h c).2.1, (fin_showable n h c).2.1, by cases c <;> rfl, by cases c <;> exact Nat.le_refl 1⟩
  | some (.bl, n), h => exact ⟨(fin_shown n h c).2.2, (fin_showable n h c).2.2, by cases c <;> rfl, by cases c <;> exact Nat.le_refl 1⟩
theorem its_shown {c : Bool} : ∀ {its : List Itm}, iall its → ((PyData.shownAll (its.map (itD c))).map (·.length)).sum ≤ 40 * its.length ∧ (PyData.shownAll (its.map (itD c))).length = its.length ∧ PyData.showableAll (its.map (itD c)) = true ∧ PyData.hasDictAll (its.map (itD c)) = false ∧ PyData.depthAll (its.map (itD c)) ≤ 1
  | [], _ => ⟨Nat.le_refl _, rfl, rfl, rfl, Nat.zero_le _⟩
  | it :: r, h => by
    obtain ⟨a1, a2, a3, a4⟩ := it_shown (c := c) (h it List.mem_cons_self)
    obtain ⟨b1, b2, b3, b4, b5⟩ := its_shown (c := c) (its := r) fun x hx => h x (List.mem_cons_of_mem _ hx)
    refine ⟨?_, ?_, ?_, ?_, ?_⟩
    · rw [List.map_cons, PyData.shownAll, List.map_cons, List.sum_cons, List.length_cons]; omega
    · rw [List.map_cons, PyData.shownAll, List.length_cons, List.length_cons, b2]
    · rw [List.map_cons, PyData.showableAll, a2, b3]; rfl
    · rw [List.map_cons, PyData.hasDictAll, a3, b4]; rfl
    · rw [List.map_cons, PyData.depthAll]; omega
theorem giv_shown {k : Nat} {its : List Itm} (h : iall its) (hl : its.length ≤ 30) : (givD k its).shown.length ≤ sizeLine ∧ (givD k its).showable = true ∧ (givD k its).hasDict = false ∧ (givD k its).depth ≤ 60 := by
  unfold givD
  generalize decide (k % 2 = 1) = c
  obtain ⟨b1, b2, b3, b4, b5⟩ := its_shown (c := c) h
  have hs : sizeLine = 16777216 := sizeLine_eq
  cases decide (2 ≤ k) with
  | true =>
    refine ⟨?_, ?_, ?_, ?_⟩
    · show (PyData.tuple (its.map (itD c))).shown.length ≤ sizeLine
      rw [PyData.shown]
      have := tupleText_len_le (PyData.shownAll (its.map (itD c)))
      omega
    · show (PyData.tuple (its.map (itD c))).showable = true
      rw [PyData.showable, b3]
    · show (PyData.tuple (its.map (itD c))).hasDict = false
      rw [PyData.hasDict, b4]
    · show (PyData.tuple (its.map (itD c))).depth ≤ 60
      rw [PyData.depth]; omega
  | false =>
    refine ⟨?_, ?_, ?_, ?_⟩
    · show (PyData.list (its.map (itD c))).shown.length ≤ sizeLine
      rw [PyData.shown]
      have := listText_len_le (PyData.shownAll (its.map (itD c)))
      omega
    · show (PyData.list (its.map (itD c))).showable = true
      rw [PyData.showable, b3]
    · show (PyData.list (its.map (itD c))).hasDict = false
      rw [PyData.hasDict, b4]
    · show (PyData.list (its.map (itD c))).depth ≤ 60
      rw [PyData.depth]; omega
theorem giv_ref {K : PySem.W.Frag} {k : Nat} {its : List Itm} : ∀ (S : Hp) (v : V), Dq K S v (givD k its) → ∃ a, v = .ref a := fun S v h => by
  unfold givD at h
  generalize decide (2 ≤ k) = b at h
  cases b with
  | true => obtain ⟨a, xs, e, _⟩ := dp_tup (ds := its.map _) h; exact ⟨a, e⟩
  | false => obtain ⟨a, xs, e, _⟩ := dp_list (ds := its.map _) h; exact ⟨a, e⟩
end K71
end
section
namespace K71
open PySem PySem.Spec PyProof.Rows L2 KD
section
variable {P : Program} {w : World} {K : PySem.W.Frag} {mg : Str → Option Value} {base : Heap} {f : Addr} {fd : FuncData} {Ci Cs : Addr}

/-! ### _law_plain_right -/
def kndS : List Nat := [4, 4, 4, 2, 9, 30, 25, 30, 4, 10, 50]
def R_plain_right (Ci : Addr) (K : PySem.W.Frag) (κs : List Kd) (κ : Kd) : Prop := ∃ (w : Nat) (st : Wld) (p : List Nat) (r : List (Option Nat)) (J ds : List Nat), Wd w st ∧ p.length = w ∧ d8 p ∧ r.length = w ∧ r8 r ∧ Jk st.length J ∧ Dg kndS ds ∧
  κs = [kInk K Ci w st, wldD K (w, st), kS K (digT p), kS K (rdT r), kL K (rowD (nms st) J), kNum K ds] ∧ κ = kB K true
abbrev nmPR : List Str := ["_law_held", "_law_world", "_law_page", "_law_text", "_law_line", "_law_digits_here", "_law_names", "_law_layers", "_law_item", "_law_mould", "_law_k", "_law_handed", "_law_kept", "_law_stock", "_law_due", "_law_above", "_law_name", "_law_told"]
abbrev psPR : List Str := ["_law_held", "_law_world", "_law_page", "_law_text", "_law_line", "_law_digits_here"]
theorem sc_plain_right : FnScope nmPR psPR (defScope (top 75)) := ⟨rfl, rfl, rfl, by decide +kernel, rfl, by decide +kernel, by decide +kernel⟩
def scPR : Scope := match (defBody (top 75)).drop 1 with
  | (.Assign _ (.ListComp _ _ sc _) _) :: _ => sc
  | _ => defScope (top 75)
theorem lays_at {st : Wld} {i : Nat} {q : List Nat × List Itm} (h : st[i]? = some q) : (laysD (plainS st))[i]? = some (.str (layT (effs q.2))) := by unfold laysD plainS; exact map_at (map_at h)
theorem names_at {st : Wld} {i : Nat} {q : List Nat × List Itm} (h : st[i]? = some q) : (nms st)[i]? = some q.1 := map_at h
theorem wld_names (st : Wld) : (st.map fun p : List Nat × List Itm => PyData.str (ofL p.1)) = namesD (nms st) := by unfold namesD nms; rw [List.map_map]; rfl
theorem runP_take {w : Nat} {st : Wld} (hw : Wd w st) {J p : List Nat} (hJ : Jok st.length J) (hp : p.length = w) (h8 : d8 p) (i : Nat) : (runP st p (J.take i)).length = w ∧ d8 (runP st p (J.take i)) := runP_ok hw (jok_take hJ i) hp h8
theorem ok_plain_right (F : FnG K "_law_plain_right" (top 75) f fd) (T : Tx K mg) (Z : Cc K mg Ci Cs) (D_law_plain_item : Df P w K mg base 1 "_law_plain_item" ["_law_item"] (R_law_plain_item K)) (D_given : Df P w K mg base 1 "_law_given" ["_law_mould", "_law_kind_here"] (R_given K))
    (D_same : Df P w K mg base 1 "_law_same_text" ["_law_told", "_law_due"] (R_same K)) (D_plain_stamp : Df P w K mg base 4 "plain_stamp" ["stamp"] (R_plain_stamp K)) (D_plain_stock : Df P w K mg base 6 "plain_stock" ["inks"] (R_plain_stock Ci Cs K))
    (D_stock_right : Df P w K mg base 6 "_law_stock_right" ["_law_stock", "_law_wide", "_law_names", "_law_layers"] (R_stock_right Cs K)) (D_eq : ∀ w' ss, Pd w' ss → DfE P w K mg base 1 Cs (kSt K Cs w' ss)) (D_plain_layer : Df P w K mg base 3 "plain_layer" ["reading"] (R_plain_layer K))
    (D_law_plain : Df P w K mg base 1 "_law_plain" ["_law_text"] (R_law_plain K)) (D_law_ink_press : Df P w K mg base 2 "_law_ink_press" ["_law_page", "_law_mould"] (R_law_ink_press K)) (D_law_press : Df P w K mg base 1 "_law_press" ["_law_one", "_law_two"] (R_law_press K))
    (D_pressed : Df P w K mg base 5 "pressed" ["stock", "layer", "row"] (R_pressed Cs K)) (D_ink_reading : Df P w K mg base 3 "ink_reading" ["layer"] (R_ink_reading K)) (D_ink_pressed : Df P w K mg base 3 "ink_pressed" ["inks", "sheet", "row"] (R_ink_pressed Ci K))
    (D_read_right : Df P w K mg base 4 "_law_read_right" ["_law_text"] (R_read_right K)) : FnGd P w K mg base 8 f fd psPR (spF (R_plain_right Ci K)) := by
  refine def_okG F sc_plain_right (fun κs κ ⟨_, _, _, _, _, _, _, _, _, _, _, _, _, e, _⟩ => by rw [e]; rfl) fun cdv A outer s H E κs κ hr hgd h => ?_
  obtain ⟨n, st, p, r, J, ds, hw, hp, h8, hrl, hr8, hJ, hD, rfl, rfl⟩ := h
  have nd := sc_plain_right.nd
  have w10 := hw.w10
  have n10 := hw.n10
  have hpd := pd_plain hw
  have pl := plainS_len st
  have epn : (plainS st).map (·.1) = nms st := plainS_names st
  have lnm : (namesD (nms st)).length = st.length := by rw [namesD_len]; unfold nms; rw [List.length_map]
  obtain ⟨d1, e1, b1⟩ := hD.at_ (i := 1) rfl
  have J60 := hJ.1
  refine ss_cons (sk_set 6 nd (ek_ixL (d := .list (namesD (nms st))) (ek_var 1) ek_int (at_nat (n := 1) (congrArg (fun z => some (PyData.list z)) (wld_names st))))) ?_
  refine ss_cons (sk_setLc 7 (laysD (plainS st)) rfl nd (ik_list (ek_ixL (d := .list (mouldD st)) (ek_var 1) ek_int (at_nat (n := 2) rfl))) (blkOk_by (N := nmPR) (sc := defScope (top 75)) (own := [("_law_mould", 9)]) (by decide +kernel)) (fun i => [.k (kInk K Ci n st), .k (wldD K (n, st)), .k (kS K (digT p)), .k (kS K (rdT r)), .k (kL K (rowD (nms st) J)), .k (kNum K ds), .k (kL K (namesD (nms st))), .un, .un, .k (kL K (itsD (itAt st i))), .un, .un, .un, .un, .un, .un, .un, .un]) ?hl ?hz (fun i d hd s H C cl fp => ?bg) (fun i d e hd he s H C cl fp => ?el) (sw_true rfl rfl rfl (by decide +kernel))) ?_
  case hl => unfold laysD mouldD plainS; rw [List.length_map, List.length_map, List.length_map]
  case hz => unfold mouldD; rw [List.length_map]; omega
  case bg =>
    unfold mouldD at hd
    obtain ⟨q, hq, rfl⟩ := map_get hd
    unfold itAt
    rw [getD_of hq]
    exact bg_name 9 (by decide) nd
  case el =>
    unfold mouldD at hd
    obtain ⟨q, hq, rfl⟩ := map_get hd
    rw [lays_at hq] at he
    cases he
    unfold itAt
    rw [getD_of hq]
    have hqm := List.mem_of_getElem? hq
    have hql := hw.ln q hqm
    have hqi := hw.it q hqm
    have ej : layT (effs q.2) = Txt.join (ofL []) ((q.2.map fun it => (eff3 it).map sc).map ofL) := by
      rw [join_ofL]
      unfold layT effs
      rw [← List.flatMap_def, ← List.map_flatMap]
    rw [ej]
    refine ek_join ek_str (ek_lc _ rfl nd (ik_list (ek_var 9)) (blkOk_by (N := nmPR) (sc := scPR) (own := [("_law_item", 8)]) (by decide +kernel)) (fun j => [.k (kInk K Ci n st), .k (wldD K (n, st)), .k (kS K (digT p)), .k (kS K (rdT r)), .k (kL K (rowD (nms st) J)), .k (kNum K ds), .k (kL K (namesD (nms st))), .un, .k (dt K (itD false (q.2.getD j none))), .k (kL K (itsD q.2)), .un, .un, .un, .un, .un, .un, .un, .un]) ?hl3 ?hz3 (fun j d hd s H C cl fp => ?bg3) (fun j d e hd he s H C cl fp => ?el3)) ?sz3
    case hl3 => rw [List.length_map, List.length_map, List.length_map, its_len]
    case hz3 => rw [its_len]; omega
    case bg3 =>
      obtain ⟨it, hit, rfl⟩ := map_get hd
      rw [getD_of hit]
      exact bg_name 8 (by decide) nd
    case el3 =>
      obtain ⟨it, hit, rfl⟩ := map_get hd
      rw [getD_of hit]
      rw [map_at (map_at (map_at hit))] at he
      cases he
      exact ek_call D_law_plain_item (hr.mono (by decide)) (ak_cons (ek_var 8) ak_nil) ⟨it, hqi it (List.mem_of_getElem? hit), rfl, rfl⟩
    case sz3 => exact join_sz (m := 3) (n := 30) (fun x hx => by
      obtain ⟨y, hy, rfl⟩ := List.mem_map.mp hx
      obtain ⟨z, hz, rfl⟩ := List.mem_map.mp hy
      exact Nat.le_refl 3) (by rw [List.length_map, List.length_map]; omega) (by decide)
  refine ss_cons (sk_for PassesOwn.never rfl (ik_range T.range (ek_len (n := st.length) T.len (ek_var 6) (by exact congrArg some lnm) (by omega)) ⟨by omega, by omega⟩) (fun i => [.k (kInk K Ci n st), .k (wldD K (n, st)), .k (kS K (digT p)), .k (kS K (rdT r)), .k (kL K (rowD (nms st) J)), .k (kNum K ds), .k (kL K (namesD (nms st))), .k (kL K (laysD (plainS st))), .un, .un, .un, .un, .un, .un, .un, .un, .un, .un]) (.refl _) (fun i x hx => ⟨_, gk_name 10 nd, ?_⟩)) ?_
  · obtain ⟨hi, rfl⟩ := range_get hx
    obtain ⟨q, hq⟩ := get_lt hi
    have hqm := List.mem_of_getElem? hq
    have hql := hw.ln q hqm
    have hqi := hw.it q hqm
    obtain ⟨g1, g2, g3, g4⟩ := giv_shown (k := (d1 + i) % 4) hqi (by omega)
    refine ss_cons (sk_set 11 nd (κ := dt K (givD ((d1 + i) % 4) q.2)) (ek_call D_given (hr.mono (by decide)) (ak_cons (ek_ixL (ds := mouldD st) (d := .list (itsD q.2)) (ek_ixL (d := .list (mouldD st)) (ek_var 1) ek_int (at_nat (n := 2) rfl)) (ek_var 10) (at_nat (by unfold mouldD; exact map_at hq))) (ak_cons (EK.to (d' := .int ((d1 + i) % 4 : Nat)) (ek_mod (ek_toI T.int (ek_add (ek_ixL (d := .int d1) (ek_var 5) ek_int (at_nat (n := 1) (num_at e1))) (ek_var 10))) ek_int (by decide)) (by congr 1)) ak_nil)) ⟨q.2, (d1 + i) % 4, by omega, rfl, rfl⟩)) ?_
    refine ss_cons (sk_set 12 nd (ek_repr (n := 0) hgd (hu64 hr) T.repr (ek_var 11) (giv_ref) g2 g3 g4 g1)) ?_
    refine ss_F (tk_w (wk_or (tk_not (tk_val (ek_call D_same (hr.mono (by decide)) (ak_cons (ek_call (κ := kS K (layT (effs q.2))) D_plain_stamp (hr.mono (by decide)) (ak_cons (ek_var 11) ak_nil) ⟨decide (2 ≤ (d1 + i) % 4), decide ((d1 + i) % 4 % 2 = 1), q.2, hqi, by omega, rfl, rfl⟩) (ak_cons (ek_ixL (d := .str (layT (effs q.2))) (ek_var 7) (ek_var 10) (at_nat (lays_at hq))) ak_nil)) ⟨layT (effs q.2), rfl, rfl⟩))) (fun h => (wk_or1 (tk_neS (ek_repr (n := 0) hgd (hu64 hr) T.repr (ek_var 11) (giv_ref) g2 g3 g4 g1) (ek_var 12)))))) (by rw [decide_eq_true rfl]; rfl) ?_
    exact ss_F (tk_not (tk_val (ek_call D_same (hr.mono (by decide)) (ak_cons (ek_callK (κ := kS K (layT (effs q.2))) D_plain_stamp (hr.mono (by decide)) (kw_cons (ek_var 11) kw_nil) ⟨decide (2 ≤ (d1 + i) % 4), decide ((d1 + i) % 4 % 2 = 1), q.2, hqi, by omega, rfl, rfl⟩) (ak_cons (ek_ixL (d := .str (layT (effs q.2))) (ek_var 7) (ek_var 10) (at_nat (lays_at hq))) ak_nil)) ⟨layT (effs q.2), rfl, rfl⟩))) rfl (ss_weakO ss_nil (.keep (.keep (.keep (.keep (.keep (.keep (.keep (.keep (.drop (.drop (.drop (.drop (.drop (.drop (.drop (.drop (.drop (.drop .nil)))))))))))))))))))
  refine ss_cons (sk_set 13 nd (ek_call (κ := kSt K Cs n (plainS st)) D_plain_stock (hr.mono (by decide)) (ak_cons (ek_var 0) ak_nil) ⟨n, st, hw, rfl, rfl⟩)) ?_
  refine ss_F (tk_w (wk_or (tk_not (tk_val (ek_call D_stock_right (hr.mono (by decide)) (ak_cons (ek_var 13) (ak_cons (ek_ixL (d := .int n) (ek_var 1) ek_int (at_nat (n := 0) rfl)) (ak_cons (ek_var 6) (ak_cons (ek_var 7) ak_nil)))) ⟨n, plainS st, hpd, by rw [epn]; rfl, rfl⟩))) (fun h => (wk_or1 (tk_notB (ek_ownEq (D_eq n (plainS st) hpd) (hr.mono (by decide)) (isO _ _) (ek_callK (κ := kSt K Cs n (plainS st)) D_plain_stock (hr.mono (by decide)) (kw_cons (ek_var 0) kw_nil) ⟨n, st, hw, rfl, rfl⟩) (ek_var 13)) ek_bl))))) rfl ?_
  have hLr : (layT (r.flatMap pl3)).length = 3 * n := by rw [layT_len, flat_len3 pl3_len, hrl]
  have lr30 : r.length ≤ 30 := by omega
  refine ss_F (tk_w (wk_or (tk_not (tk_val (ek_call D_same (hr.mono (by decide)) (ak_cons (ek_call (κ := kS K (layT (r.flatMap pl3))) D_plain_layer (hr.mono (by decide)) (ak_cons (ek_var 3) ak_nil) ⟨r, hr8, lr30, rfl, rfl⟩) (ak_cons (ek_call (κ := kS K (layT (r.flatMap pl3))) D_law_plain (hr.mono (by decide)) (ak_cons (ek_var 3) ak_nil) ⟨r, hr8, lr30, rfl, rfl⟩) ak_nil)) ⟨_, rfl, rfl⟩))) (fun h => (wk_or1 (tk_neS (ek_callK (κ := kS K (layT (r.flatMap pl3))) D_plain_layer (hr.mono (by decide)) (kw_cons (ek_var 3) kw_nil) ⟨r, hr8, lr30, rfl, rfl⟩) (ek_call (κ := kS K (layT (r.flatMap pl3))) D_law_plain (hr.mono (by decide)) (ak_cons (ek_var 3) ak_nil) ⟨r, hr8, lr30, rfl, rfl⟩)))))) (by rw [decide_eq_true rfl]; rfl) ?_
  refine ss_cons (sk_set 14 nd (ek_var 2)) ?_
  refine ss_cons (sk_set 15 nd (ek_call (κ := kS K (layT (r.flatMap pl3))) D_law_plain (hr.mono (by decide)) (ak_cons (ek_var 3) ak_nil) ⟨r, hr8, lr30, rfl, rfl⟩)) ?_
  have hJ' : Jok (plainS st).length J := by rw [pl]; exact hJ.jok
  have hv : (r.flatMap pl3).length = 3 * n := by rw [flat_len3 pl3_len, hrl]
  have hv3 := l3_plr r
  generalize hvr : r.flatMap pl3 = v at hv hv3 hLr
  refine ss_cons (sk_for PassesOwn.never rfl (ik_list (ek_var 4)) (fun i => [.k (kInk K Ci n st), .k (wldD K (n, st)), .k (kS K (digT p)), .k (kS K (rdT r)), .k (kL K (rowD (nms st) J)), .k (kNum K ds), .k (kL K (namesD (nms st))), .k (kL K (laysD (plainS st))), .un, .un, .un, .un, .un, .k (kSt K Cs n (plainS st)), .k (kS K (digT (runP st p (J.take i)))), .k (kS K (layT (runV (plainS st) v (J.take i)))), .un, .un]) (.refl _) (fun i x hx => ⟨_, gk_name 16 nd, ?_⟩)) ?_
  · obtain ⟨j, hj, rfl⟩ := row_get hx
    obtain ⟨q, hq, eq⟩ := get_it (hJ.2 j (List.mem_of_getElem? hj))
    have hqm := List.mem_of_getElem? hq
    have hql := hw.ln q hqm
    have hqi := hw.it q hqm
    have hnm : (nms st).getD j [] = q.1 := getD_of (names_at hq)
    rw [hnm]
    obtain ⟨r1, r2⟩ := runP_take hw hJ.jok hp h8 i
    obtain ⟨r3, r4⟩ := runV_ok hpd (jok_take hJ' i) hv hv3
    rw [take_get hj, runP_snoc, runV_snoc, lay_plain, eq]
    refine ss_cons (sk_set 14 nd (ek_call (κ := kS K (digT (List.zipWith aft (runP st p (J.take i)) q.2))) D_law_ink_press (hr.mono (by decide)) (ak_cons (ek_var 14) (ak_cons (ek_ixL (ds := mouldD st) (d := .list (itsD q.2)) (ek_ixL (d := .list (mouldD st)) (ek_var 1) ek_int (at_nat (n := 2) rfl)) (ek_index_nm (ek_var 6) (ek_var 16) (names_at hq) hw.nd) (at_nat (by unfold mouldD; exact map_at hq))) ak_nil)) ⟨_, q.2, by omega, by omega, r2, hqi, rfl, rfl⟩)) ?_
    refine ss_one (sk_weakO (sk_set 15 nd (EK.to (d' := .str (layT (pressV (runV (plainS st) v (J.take i)) (effs q.2)))) (ek_call D_law_press (hr.mono (by decide)) (ak_cons (ek_var 15) (ak_cons (ek_ixL (d := .str (layT (effs q.2))) (ek_var 7) (ek_index_nm (ek_var 6) (ek_var 16) (names_at hq) hw.nd) (at_nat (lays_at hq))) ak_nil)) ⟨(runV (plainS st) v (J.take i)).map sc, (effs q.2).map sc, by rw [List.length_map, List.length_map, effs_len]; omega, by rw [List.length_map]; omega, rfl, rfl⟩) (by rw [press_map (l3_effs _)]; rfl))) (.keep (.keep (.keep (.keep (.keep (.keep (.keep (.keep (.drop (.drop (.drop (.drop (.drop (.keep (.keep (.keep (.drop (.drop .nil)))))))))))))))))))
  rw [row_len, List.take_length]
  obtain ⟨q1, q2⟩ := runP_ok hw hJ.jok hp h8
  obtain ⟨q3, q4⟩ := runV_ok hpd hJ' hv hv3
  have hrp := run_plain hw hJ.jok hp h8
  have ppl : (p.map some).flatMap pl3 = plain p := plain_some p
  have dpl : ((runP st p J).map some).flatMap pl3 = plain (runP st p J) := plain_some _
  have p8 : r8 (p.map some) := fun d hd => by obtain ⟨x, hx, e⟩ := List.mem_map.mp hd; cases e; exact h8 _ hx
  have q8 : r8 ((runP st p J).map some) := fun d hd => by obtain ⟨x, hx, e⟩ := List.mem_map.mp hd; cases e; exact q2 _ hx
  have R1 : R_plain_layer K [kS K (digT p)] (kS K (layT (plain p))) := ⟨p.map some, p8, by rw [List.length_map]; omega, by rw [rdT_some], by rw [ppl]⟩
  have R2 : R_law_plain K [kS K (digT (runP st p J))] (kS K (layT (plain (runP st p J)))) := ⟨(runP st p J).map some, q8, by rw [List.length_map]; omega, by rw [rdT_some], by rw [dpl]⟩
  have R3 : R_plain_layer K [kS K (digT (runP st p J))] (kS K (layT (plain (runP st p J)))) := ⟨(runP st p J).map some, q8, by rw [List.length_map]; omega, by rw [rdT_some], by rw [dpl]⟩
  have R4 : R_plain_layer K [kS K (rdT r)] (kS K (layT v)) := ⟨r, hr8, lr30, rfl, by rw [hvr]⟩
  refine ss_cons (sk_set 17 nd (κ := kS K (layT (plain (runP st p J)))) (ek_call D_pressed (hr.mono (by decide)) (ak_cons (ek_var 13) (ak_cons (ek_call D_plain_layer (hr.mono (by decide)) (ak_cons (ek_var 2) ak_nil) R1) (ak_cons (ek_list1 (d := .list (rowD (nms st) J)) T.list (ek_var 4) rfl) ak_nil))) ⟨n, plainS st, plain p, false, J, hpd, hJ', by rw [plain_len, hp], l3_plain p, by rw [epn]; rfl, by rw [hrp]⟩)) ?_
  have hread : R_ink_reading K [kS K (layT (plain (runP st p J)))] (kS K (digT (runP st p J))) := ⟨(plain (runP st p J)).map sc, by rw [List.length_map, plain_len]; omega, rfl, by rw [read_plain q2]; show kS K _ = dt K (.str (rdT _)); rw [rdT_some]⟩
  refine ss_F (tk_w (wk_or (tk_not (tk_val (ek_call D_same (hr.mono (by decide)) (ak_cons (ek_var 17) (ak_cons (ek_call D_law_plain (hr.mono (by decide)) (ak_cons (ek_var 14) ak_nil) R2) ak_nil)) ⟨_, rfl, rfl⟩))) (fun h => (wk_or1 (tk_not (tk_val (ek_call D_same (hr.mono (by decide)) (ak_cons (ek_call D_ink_reading (hr.mono (by decide)) (ak_cons (ek_var 17) ak_nil) hread) (ak_cons (ek_var 14) ak_nil)) ⟨_, rfl, rfl⟩))))))) rfl ?_
  refine ss_F (tk_w (wk_or (tk_not (tk_val (ek_call D_same (hr.mono (by decide)) (ak_cons (ek_call (κ := kS K (digT (runP st p J))) D_ink_pressed (hr.mono (by decide)) (ak_cons (ek_var 0) (ak_cons (ek_var 2) (ak_cons (ek_tuple1 (d := .list (rowD (nms st) J)) T.tuple (ek_var 4) rfl) ak_nil))) ⟨n, st, p, true, J, hw, hp, h8, hJ.jok, rfl, rfl⟩) (ak_cons (ek_var 14) ak_nil)) ⟨_, rfl, rfl⟩))) (fun h => (wk_or1 (tk_neS (ek_call D_plain_layer (hr.mono (by decide)) (ak_cons (ek_var 14) ak_nil) R3) (ek_var 17)))))) (by rw [decide_eq_true rfl]; rfl) ?_
  refine ss_one (sk_ret (EK.to (ek_and (ek_call D_same (hr.mono (by decide)) (ak_cons (ek_call (κ := kS K (layT (runV (plainS st) v J))) D_pressed (hr.mono (by decide)) (ak_cons (ek_var 13) (ak_cons (ek_call D_plain_layer (hr.mono (by decide)) (ak_cons (ek_var 3) ak_nil) R4) (ak_cons (ek_var 4) ak_nil))) ⟨n, plainS st, v, false, J, hpd, hJ', hv, hv3, by rw [epn]; rfl, rfl⟩) (ak_cons (ek_var 15) ak_nil)) ⟨_, rfl, rfl⟩) (fun h => (ek_one (ek_call D_read_right (hr.mono (by decide)) (ak_cons (ek_var 15) ak_nil) ⟨(runV (plainS st) v J).map sc, by rw [List.length_map]; omega, rfl, rfl⟩)))) rfl))
end
end K71
end
section
namespace KD
open PySem PySem.Spec PyProof.Rows L2
/-! ### what raises: the class at C, its one field -/
def xdOf (f x : Str) : HO := .xd [(f, .str x)]
/-- wherever the exception's dict holds the text, the wish is met -/
def Goes (W : WX) (C : Addr) (f x : Str) (S H : Hp) (σ : L2.St) : Prop := ∀ d S' H', Grow S H S' H' → S' d = some (xdOf f x) → W (.ref C) (some d) σ H'
def rdZ (K : PySem.W.Frag) (W : WX) (C : Addr) (f x : Str) (ρ : List Sl) (σ : L2.St) (H : Hp) : Prop := ∃ S0 H0 S, En K S0 H0 S H σ ρ ∧ Goes W C f x S0 H0 σ
/-- a def that raises: a relation between its arguments' kinds and the text -/
def spZ (C : Addr) (f : Str) (R : List Kd → Str → Prop) : Sp := fun vs H _ E => ∃ S κs x, Same S H ∧ R κs x ∧ AllK S κs vs ∧ ∀ d S' H', Grow S H S' H' → S' d = some (xdOf f x) → E (.ref C) (some d) H'
/-- what the written part says of the class and of its __init__ -/
structure Ux (P : Program) (w : World) (K : PySem.W.Frag) (mg : Str → Option Value) (base : Heap) (nm : Str) (C : Addr) (f : Str) : Prop where
  mC : mg nm = some (.ref C)
  T : OexC K C
  no : PySem.W.findIn K (.ref C) f = some none
  init : ∃ fI fd ps, PySem.W.findIn K (.ref C) "__init__" = some (some (.ref fI)) ∧ PySem.W.typeIn K (.ref fI) = some (.type "function") ∧ Binds K fd ps [] ∧
    FnOk P w K mg base CX0 1 fI fd ps fun vs H Q _ => ∃ a x, vs = [.ref a, .str x] ∧ H a = some (exo a C none) ∧ ∀ dx, H dx = none → dx ≠ a → Q .non (upd (upd H dx (exd dx [(f, .str x)])) a (exo a C (some dx)))
section
variable {X : Cx} {e a b c : Expr} {ρ ρ1 : List Sl} {κ : Kd} {pos p p2 pos2 : Pos} {C : Addr} {f x nm y : Str} {W : WX} {es : List Expr} {κs : List Kd} {k : Nat} {ps : List Str} {R : List Kd → Str → Prop}
/-- the init's end is what a made exception shows -/
theorem zs_raise (U : Ux X.prog X.w X.K X.mg X.base nm C f) (hr : Room 2 X.A) (hc : X.calm = true) (tk : Takes X W) (he : EK X e ρ (kS X.K x)) (hg : Gl X nm := by rfl) (hdb : (nm == ("__debug__" : Str)) = false := by decide) (hs : starEach (e :: []) X.env = (false, eval e X.env) :: starEach [] X.env := by rfl) (hpl : (backTo pos (starEach [] X.env)).any (·.1) = false := by rfl) :
    PS X (.Raise (some (.Call (.Name nm p) [e] [] pos)) none pos2) (fun _ σ H => rdZ X.K W C f x ρ σ H) := by
  obtain ⟨fI, fd, ps, iC, tI, hb, F⟩ := U.init
  refine PS.imp (ps_raise hc tk (pmk_oex (CX := CX0) (dvs := []) U.T iC tI F hr hb .nil pass0 hg U.mC (ak_cons he ak_nil hs) hdb hs hpl)) fun D σ H ⟨S0, H0, S, E, q⟩ => ak_run E fun vs S1 H1 g E1 hv => ?_
  obtain ⟨v, rfl, h1⟩ := all1 hv
  have h2 := dp_str h1
  subst h2
  refine ⟨by show 1 ≤ 1000; decide, fun a ha => ⟨a, x, rfl, upd_same, fun dx hdx hne => ?_⟩⟩
  have hd1 : H1 dx = none := by rwa [upd_ne hne] at hdx
  refine ⟨rfl, dx, [(f, .str x)], upd_same, ?_, hd1, ?_⟩
  · rw [upd_ne hne, upd_same]
  · have e : upd (del (upd (upd (upd H1 a (exo a C none)) dx (exd dx [(f, .str x)])) a (exo a C (some dx))) a) dx (.xd [(f, .str x)]) = upd H1 dx (xdOf f x) := by
      funext b
      by_cases hb : b = dx
      · subst hb; rw [upd_same, upd_same]; rfl
      · rw [upd_ne hb, upd_ne hb]
        by_cases hb2 : b = a
        · subst hb2; rw [ha]; exact del_same
        · rw [del_ne hb2, upd_ne hb2, upd_ne hb, upd_ne hb2]
    rw [e]
    exact q dx _ _ (E1.g.trans (Grow.new E1.same _ hd1)) upd_same
/-- a call that raises -/
theorem ze_call {fa : Addr} {fd : FuncData} (F : FnOk X.prog X.w X.K X.mg X.base (L2.CX X.prog X.w) k fa fd ps (spZ C f R)) (hr : Room k X.A) (tk : Takes X W) (hm : X.mg y = some (.ref fa)) (hk : PySem.W.keepIn X.K (.ref fa) = true) (hb : Binds X.K fd ps []) (ha : AK X (e :: es) ρ κs) (hR : R κs x)
    (hg : Gl X y := by rfl) (hdb : (y == ("__debug__" : Str)) = false := by decide) (he : starEach (e :: es) X.env = (false, eval e X.env) :: starEach es X.env := by rfl) (hpl : (backTo pos (starEach es X.env)).any (·.1) = false := by rfl) :
    PE X (.Call (.Name y p) (e :: es) [] pos) (fun σ H _ => rdZ X.K W C f x ρ σ H) :=
  PE.imp (pe_callS (E := WE W) F hr hg hm hk hb (passAt tk) ha hdb he hpl) fun σ H Q ⟨S0, H0, S, E, q⟩ => ak_run E fun vs S1 H1 g E1 hv => ⟨S1, κs, x, E1.same, hR, hv, fun d S' H' g2 h => q d S' H' (E1.g.trans g2) h⟩
end
/-- a statement, then one that raises -/
theorem zss_cons {X : Cx} {st : Stmt} {rest : List Stmt} {ρ ρ1 : List Sl} {C : Addr} {f x : Str} {E : XK} (h : SK X st ρ (.nx ρ1)) (hr : PSs X rest (fun _ σ H => rdZ X.K (fun cls d _ H => E cls d H) C f x ρ1 σ H)) : PSs X (st :: rest) (fun _ σ H => rdZ X.K (fun cls d _ H => E cls d H) C f x ρ σ H) :=
  PSs.imp (pss_cons h hr) fun D σ H ⟨S0, H0, S, En, q⟩ => ⟨S0, H0, S, En, fun S' H' σ' e E' => ⟨S0, H0, S', E', q⟩⟩
theorem zss_one {X : Cx} {st : Stmt} {rest : List Stmt} {ρ : List Sl} {C : Addr} {f x : Str} {W : WX} (h : PS X st (fun _ σ H => rdZ X.K W C f x ρ σ H)) : PSs X (st :: rest) (fun _ σ H => rdZ X.K W C f x ρ σ H) := PSs.imp (pss_cons h pss_never) fun D σ H q => q
/-- x = e, return e, e; where e raises -/
theorem zs_set {X : Cx} {e : Expr} {ρ : List Sl} {C : Addr} {f x y : Str} {W : WX} {i : Nat} {pos pos' : Pos} (hN : X.N.Nodup) (he : PE X e (fun σ H _ => rdZ X.K W C f x ρ σ H)) (hi : X.N[i]? = some y := by rfl) (hx : Loc X.env.scope y := by first | exact Or.inl rfl | exact Or.inr rfl) (hs : swapsWith e (some (.Name y pos')) pos.line X.env = pure false := by rfl) (hf : X.fn y = true ∨ X.env.scope.names.lookup y = some .local := by first | exact .inl rfl | exact .inr rfl | assumption) :
    PS X (.Assign [.Name y pos'] e pos) (fun _ σ H => rdZ X.K W C f x ρ σ H) := PS.imp (ps_set hN hi hx he hs hf) fun D σ H q => q
theorem zs_ret {X : Cx} {e : Expr} {ρ : List Sl} {C : Addr} {f x : Str} {W : WX} {pos : Pos} (he : PE X e (fun σ H _ => rdZ X.K W C f x ρ σ H)) : PS X (.Return (some e) pos) (fun _ σ H => rdZ X.K W C f x ρ σ H) := PS.imp (ps_ret he) fun D σ H q => q
/-- if c: raise .. -/
theorem zs_if {X : Cx} {c : Expr} {sa sb : List Stmt} {ρ : List Sl} {C : Addr} {f x : Str} {W : WX} {pos : Pos} {k : Bool} (hc : TK X c ρ k) (hk : k = true) (ha : PSs X sa (fun _ σ H => rdZ X.K W C f x ρ σ H)) : PS X (.If c sa sb pos) (fun _ σ H => rdZ X.K W C f x ρ σ H) :=
  PS.imp (ps_if hc ha pss_never) fun D σ H ⟨S0, H0, S, E, q⟩ => tk_run E fun S1 H1 g E1 => (if_pos hk).mpr ⟨S0, H0, S1, E1, q⟩
/-- a loop: m turns go through, the next one raises -/
theorem zs_for {X : Cx} {tg iter : Expr} {body : List Stmt} {ks : List PyData} {ρ : List Sl} {C : Addr} {f x : Str} {E : XK} {pos : Pos} (hp : PassesOwn (model X.prog X.w) X.A X.env X.xe) (hc : X.calm = true) (hi : IK X tg iter ρ ks) (g : Nat → List Sl) (m : Nat) (h0 : Le (g 0) ρ) (hm : m < ks.length)
    (hs : ∀ i d, i < m → ks[i]? = some d → ∃ ρ1, GK X tg (dt X.K d) (g i) ρ1 ∧ SsK X body ρ1 (.nx (g (i + 1))))
    (hd : ∀ d, ks[m]? = some d → ∃ ρ1, GK X tg (dt X.K d) (g m) ρ1 ∧ PSs X body (fun _ σ H => rdZ X.K (fun cls d _ H => E cls d H) C f x ρ1 σ H))
    (hx : ∀ x, foldedSetIterable iter X.env x = pure x := by intro _; rfl) : PS X (.For tg iter body [] pos) (fun _ σ H => rdZ X.K (fun cls d _ H => E cls d H) C f x ρ σ H) :=
  PS.imp (ps_for hp hc hi pg_u pss_u hx) fun D σ H ⟨S0, H0, S, En0, q⟩ => by
    refine ⟨S0, H0, S, En0, fun S1 H1 J gr J1 => ?_⟩
    refine ⟨fun i n σ' H' => i + n = ks.length ∧ i ≤ m ∧ ∃ S', Same S1 S' ∧ En X.K S0 H0 S' H' σ' (g i), ⟨ks.length, by omega, Nat.zero_le _, S1, Same.refl _, (En0.grow gr).weak h0⟩, ?_⟩
    rintro i n σ' H' ⟨hn, hle, S', e', E'⟩
    by_cases hlt : i < m
    · refine .inr ⟨J1.1 i S' H' e' E'.same (by omega), fun σ2 H2 => ∃ S2, Same S1 S2 ∧ En X.K S0 H0 S2 H2 σ2 (g (i + 1)), fun σ2 H2 ⟨S2, e2, E2⟩ => ⟨n - 1, by omega, by omega, by omega, S2, e2, E2⟩, fun v H2 y => ?_⟩
      obtain ⟨S2, d, g2, hd2, hv⟩ := J1.2.2 i S' H' v H2 e' E'.same (by omega) y
      obtain ⟨ρ1, hg, hb⟩ := hs i d hlt hd2
      exact ⟨_, hg, S0, H0, S2, E'.grow g2, hv, fun σ3 E3 => ⟨_, hb, S0, H0, S2, E3, fun S3 H3 σ4 e3 E4 => ⟨S3, (e'.trans g2.s).trans e3, E4⟩⟩⟩
    · have him : i = m := by omega
      subst him
      refine .inr ⟨J1.1 i S' H' e' E'.same hm, fun _ _ => False, fun _ _ z => z.elim, fun v H2 y => ?_⟩
      obtain ⟨S2, d2, g2, hd2, hv⟩ := J1.2.2 i S' H' v H2 e' E'.same hm y
      obtain ⟨ρ1, hg, hb⟩ := hd d2 hd2
      exact ⟨_, hg, S0, H0, S2, E'.grow g2, hv, fun σ3 E3 => ⟨_, hb, S0, H0, S2, E3, q⟩⟩
/-- a raising def is walked -/
theorem def_okZ {P : Program} {w : World} {K : PySem.W.Frag} {mg : Str → Option Value} {base : Heap} {nm qual : Str} {params : Arguments} {body : List Stmt} {scope : Scope} {fa : Addr} {fd : FuncData} {N ps : List Str} {k : Nat} {C : Addr} {f : Str} {R : List Kd → Str → Prop}
    (F : FunD K nm qual params body scope [] [] fa fd) (S : FnScope N ps scope) (len : ∀ κs x, R κs x → κs.length = ps.length)
    (hb : ∀ cdv A outer s H E κs x, Room k (A.deeper (envOfC qual scope s.heap.objs.size fa cdv)) → R κs x → PSs (cxOf (L2.CX P w) P w K mg base N qual scope fa cdv A outer s H E) body (fun _ σ H' => rdZ K (fun cls d _ H => E cls d H) C f x (startS N κs) σ H')) : FnOk P w K mg base (L2.CX P w) (k + 1) fa fd ps (spZ C f R) := by
  refine F.ok S (fun vs H Q E ⟨S, κs, x, _, hR, hv, _⟩ => hv.len.trans (len κs x hR)) fun cdv A outer s H vs Q E hr ⟨S, κs, x, ss, hR, hv, q⟩ => ?_
  exact ⟨_, hb cdv A outer s H E κs x hr hR, S, H, S, en_start ss hv, q⟩
/-- all slots hold kinds: what is known may start afresh -/
theorem En.rebase {K : PySem.W.Frag} {S0 H0 S H : Hp} {σ : L2.St} {ρ : List Sl} (E : En K S0 H0 S H σ ρ) (h : ∀ (i : Nat) (w : Ow), ρ[i]? ≠ some (Sl.own w)) : En K S H S H σ ρ := by
  refine ⟨Grow.refl E.same, E.len, fun i sl e => ?_, E.sep⟩
  cases sl with
  | un => trivial
  | k κ => exact E.ok i _ e
  | own w => exact absurd e (h i w)
end KD
end
section
namespace KD
open PySem PySem.Spec PyProof.Rows L2
/-! ### defs that ask nothing of what is handled around them -/
structure FnW (P : Program) (w : World) (K : PySem.W.Frag) (mg : Str → Option Value) (base : Heap) (CX : CXT) (k : Nat) (f : Addr) (fd : FuncData) (ps : List Str) (sp : Sp) : Prop where
  len : ∀ vs H Q E, sp vs H Q E → vs.length = ps.length
  run : ∀ (A : Around) (outer : List PySem.Env) (s : Shared) (H : Hp) (args : Args) (us : List Value) (vs : List V) (Q : VK) (E : XK), L2H.RoomH k A → Env0 P w K mg base A outer s H → BindsTo s fd args (ps.zip us) → Vals vs us → sp vs H Q E →
    codeAny (model P w) A (.call (.ref f) args) (CR CX outer P w H s Q E) s
abbrev cxW (CX : CXT) (P : Program) (w : World) (K : PySem.W.Frag) (mg : Str → Option Value) (base : Heap) (N : List Str) (qual : Str) (scope : Scope) (f : Addr) (cd : Value) (A : Around) (outer : List PySem.Env) (s : Shared) (H : Hp) (E : XK) : Cx :=
  { cxOf CX P w K mg base N qual scope f cd A outer s H E with calm := false }
theorem inv_startW {CX : CXT} {P : Program} {w : World} {K : PySem.W.Frag} {mg : Str → Option Value} {base : Heap} {N ps : List Str} {qual : Str} {scope : Scope} {f : Addr} {cd : Value} {A : Around} {outer : List PySem.Env} {s s1 : Shared} {H : Hp} {E : XK} {us : List Value} {vs : List V}
    (S : FnScope N ps scope) (e0 : Env0 P w K mg base A outer s H) (hl : vs.length = ps.length) (r : Vals vs us)
    (x : InCallC s s.heap.objs.size (bindL (envOfC qual scope s.heap.objs.size f cd).kindOf (ps.zip us) fun _ => none) (cellsFrom (s.heap.objs.size + 1) scope.names []) (bindC (envOfC qual scope s.heap.objs.size f cd).kindOf (ps.zip us) fun _ => none) s1) :
    Inv (cxW CX P w K mg base N qual scope f cd A outer s H E) [] (L2.start N vs) H s1 := by
  have hpl : ps.length ≤ N.length := by have := congrArg List.length S.pre; rw [List.length_take] at this; omega
  obtain ⟨h1, tk, rfl, hk⟩ := x.done
  have noA : ∀ b : Addr, b ∉ (cxW CX P w K mg base N qual scope f cd A outer s H E).ex := fun b z => absurd (show b ∈ ([] : List Addr) from z) (by simp)
  refine ⟨⟨e0.mod, S.kind, rfl, rfl, Nat.le_refl _, fun y z c h1 h2 => ?_, fun y hy => ?_, fun y c _ h => ?_, (fun z => Bool.noConfusion (show false = true from z)), Around.frames_deeper e0.frames, .inr ⟨rfl, rfl⟩, fun b z => absurd z (noA b), e0.bs, e0.bsz, fun b _ _ => noA b, fun b z => absurd z (noA b), e0.funs, e0.frf⟩,
    rfl, e0.bare, Un.kept hk, ⟨_, x.toInCall.ns, fun i y v h1 h2 h3 => ?_⟩, fun y c h => ⟨_, x.cell y c h⟩, e0.hok.fresh (Nat.le_refl _), fun y c h => ?_, fun q hq => absurd (show q ∈ ([] : List (Addr × Obj)) from hq) (by simp), e0.hok.kept hk, ?_⟩
  · exact name_of_addr x.apart (PySem.mem_of_lookup h1) (PySem.mem_of_lookup h2)
  · have hy : scope.names.lookup y = some .cell ∨ scope.names.lookup y = some .free := hy
    rcases hy with hy | hy
    · exact cell_has hy
    · exact absurd rfl (S.nofree _ (PySem.mem_of_lookup hy))
  · exact Nat.le_of_lt (x.above y c (PySem.mem_of_lookup h))
  · have hi : i < vs.length := by
      unfold L2.start at h2
      by_cases hi : i < vs.length
      · exact hi
      · rw [List.getElem?_append_right (by simpa using hi)] at h2
        rw [List.getElem?_replicate] at h2
        split at h2 <;> cases h2
    have ha : vs[i]? = some v := by
      unfold L2.start at h2
      rw [List.getElem?_append_left (by simpa using hi), List.getElem?_map] at h2
      cases e : vs[i]? with
      | none => rw [e] at h2; cases h2
      | some a => rw [e] at h2; cases h2; rfl
    obtain ⟨u, hu, rv⟩ := r.get ha
    have hp : ps[i]? = some y := by
      rw [← S.pre, List.getElem?_take_of_lt (by omega)]; exact h1
    have ndP : ps.Nodup := by rw [← S.pre]; exact S.nd.sublist (List.take_sublist _ _)
    refine ⟨u, rv, ?_⟩
    rcases S.par y (List.mem_of_getElem? hp) with k | k
    · exact .inl ⟨k, bindL_get ndP hp hu k⟩
    · obtain ⟨c, e⟩ := cell_has (n := s.heap.objs.size + 1) k
      refine .inr ⟨.inl k, c, e, ?_⟩
      have q := x.cell y c e
      rw [bindC_get ndP hp hu (by show scope.names.lookup y ≠ _; rw [k]; decide)] at q
      exact q
  · exact e0.hok.fresh (Nat.le_of_lt (x.above y c (PySem.mem_of_lookup h)))
  · unfold L2.start
    show _ = N.length
    rw [List.length_append, List.length_map, List.length_replicate]
    omega
theorem fn_ofW {CX : CXT} {P : Program} {w : World} {K : PySem.W.Frag} {mg : Str → Option Value} {base : Heap} {k : Nat} {f : Addr} {fd : FuncData} {nm qual : Str} {params : Arguments} {body : List Stmt} {scope : Scope} {N ps : List Str} {sp : Sp} (F : FunD K nm qual params body scope [] [] f fd) (S : FnScope N ps scope)
    (len : ∀ vs H Q E, sp vs H Q E → vs.length = ps.length)
    (hbody : ∀ (cdv : Value) (A : Around) (outer : List PySem.Env) (s : Shared) (H : Hp) (vs : List V) (Q : VK) (E : XK), L2H.RoomH k (A.deeper (envOfC qual scope s.heap.objs.size f cdv)) → sp vs H Q E →
      ∃ t, PSs (cxW CX P w K mg base N qual scope f cdv A outer s H E) body t ∧ t { nx := fun _ H' => Q .non H', rt := Q } (L2.start N vs) H) :
    FnW P w K mg base CX (k + 1) f fd ps sp := by
  obtain ⟨oc, od, dV, kV, doc, pm, an, cdv, ct, osl, rfl, lk, hcd, hD, hK⟩ := F.ex
  refine ⟨len, fun A outer s H args us vs Q E hr e0 hb r hsp => ?_⟩
  have hl := len _ _ _ _ hsp
  have KX : K.In s.heap := e0.mod.kin.keeps fun b o e => (e0.bs b o e).1
  have lim : s.heap.NoLimit := e0.mod.nolimit.keeps fun b o e => (e0.bs b o e).1
  have hkind : ∀ y ∈ ps.zip us, scope.names.lookup y.1 = some .local ∨ (scope.names.lookup y.1 = some .cell ∧ ((cellsFrom (s.heap.objs.size + 1) scope.names []).lookup y.1).isSome = true) := fun ⟨n, v⟩ hy => by
    rcases S.par n (List.of_mem_zip hy).1 with q | q
    · exact .inl q
    · exact .inr ⟨q, PySem.W.cellsFrom_some _ _ _ (.inl q)⟩
  refine codeAny_call_function hr.depth (KX _ _ lk) rfl S.co S.gen rfl (PySem.W.codeRec_of KX hcd) (hb _ _ _ _ ?_)
  refine wpAny_newFunctionEnv_cells S.kind hkind fun env he s1 x => ?_
  subst he
  refine ⟨lim.keeps x.toInCall.keep, codeAny_func ?_⟩
  obtain ⟨t, ht, hq⟩ := hbody cdv A outer s H vs Q E (hr.deeper _) hsp
  have I : Inv (cxW CX P w K mg base N qual scope f cdv A outer s H E) [] (L2.start N vs) H s1 := inv_startW S e0 hl r x
  refine wpAny_mono (ht.run [] s1 (L2.start N vs) H _ I hq) (fun fl s' hs => ?_) fun e s' hs => hs
  have fin : ∀ {σ' : L2.St} {H' : Hp} {v : V} {u : Value}, Inv (cxW CX P w K mg base N qual scope f cdv A outer s H E) [] σ' H' s' → RelV v u → Q v H' → CE outer P w H s Q u s' :=
    fun {σ' H' v u} J rv q => ⟨v, H', J.os, J.bare, J.base, J.hok, rv, q⟩
  cases fl with
  | ret u =>
    obtain ⟨v, σ', H', J, rv, q⟩ := hs
    exact fin J rv q
  | next =>
    obtain ⟨σ', H', J, q⟩ := hs
    exact fin (v := V.non) (u := Value.none) J rfl q
  | brk =>
    obtain ⟨_, _, _, q⟩ := hs
    exact False.elim q
  | cont =>
    obtain ⟨_, _, _, q⟩ := hs
    exact False.elim q
theorem run_fnW {X : Cx} {k : Nat} {f : Addr} {fd : FuncData} {ps : List Str} {sp : Sp} {E : XK} {CX : CXT} {pins : List (Addr × Obj)} {σ : L2.St} {H : Hp} {s : Shared} {Q : VK} {us : List Value} {vs : List V} (F : FnW X.prog X.w X.K X.mg X.base CX k f fd ps sp) (hr : L2H.RoomH k X.A) (hb : Binds X.K fd ps []) (hx : Passes CX X E)
    (I : Inv X pins σ H s) (r : Vals vs us) (h : sp vs H Q E) : wpAny (model X.prog X.w) X.A (call (.ref f) us) (EP X pins σ Q) X.xe s := by
  have hl : us.length = ps.length := by rw [← r.length]; exact F.len _ _ _ _ h
  have b := hb s us I.kIn (by rw [List.append_nil]; exact hl)
  rw [List.append_nil] at b
  refine wpAny_call (codeAny_mono (F.run X.A X.stack s H ⟨us, []⟩ us vs Q E hr I.env0 b r h) fun r s' hq => ?_)
  cases r with
  | error e => exact hx pins σ H s e s' I hq
  | ok fl =>
    cases fl with
    | ret u => exact I.after hq
    | next => exact False.elim hq
    | brk => exact False.elim hq
    | cont => exact False.elim hq
theorem pe_callW {X : Cx} {k : Nat} {f : Addr} {fd : FuncData} {ps : List Str} {sp : Sp} {CX : CXT} {E : XK} {x : Str} {q pos : Pos} {e : Expr} {es : List Expr} {t : TA} (F : FnW X.prog X.w X.K X.mg X.base CX k f fd ps sp) (hr : L2H.RoomH k X.A) (hg : Gl X x) (hm : X.mg x = some (.ref f)) (hk : PySem.W.keepIn X.K (.ref f) = true) (hb : Binds X.K fd ps []) (hx : Passes CX X E)
    (ha : PA X (e :: es) t) (hdb : (x == ("__debug__" : Str)) = false := by decide) (he : starEach (e :: es) X.env = (false, eval e X.env) :: starEach es X.env := by rfl) (hpl : (backTo pos (starEach es X.env)).any (·.1) = false := by rfl) :
    PE X (.Call (.Name x q) (e :: es) [] pos) (fun σ H Q => t σ H fun vs H1 => sp vs H1 Q E) := by
  refine ⟨fun pins s σ H Q I h => ?_⟩
  refine wpAny_Call_Name_kw (ld_glob I hg hm ?_ hdb)
  refine PySem.W.callWith_K (h₀ := X.base) I.ok.mod.kin hk (thn (ha.run pos pins s σ H _ I h) fun us s1 ⟨vs, H1, I1, r, q⟩ => ⟨I1.kIn, ?_⟩) he hpl
  exact run_fnW F hr hb hx I1 r q
/-- as Df, for such a def -/
structure DfW (P : Program) (w : World) (K : PySem.W.Frag) (mg : Str → Option Value) (base : Heap) (k : Nat) (x : Str) (ps : List Str) (R : List Kd → Kd → Prop) : Prop where
  ex : ∃ f fd, FnW P w K mg base CX0 k f fd ps (spF R) ∧ mg x = some (.ref f) ∧ PySem.W.keepIn K (.ref f) = true ∧ Binds K fd ps []
section
variable {P : Program} {w : World} {K : PySem.W.Frag} {mg : Str → Option Value} {base : Heap} {x qual : Str} {params : Arguments} {body : List Stmt} {scope : Scope} {f : Addr} {fd : FuncData} {N ps : List Str} {k : Nat} {R : List Kd → Kd → Prop}
abbrev Bw (P : Program) (w : World) (K : PySem.W.Frag) (mg : Str → Option Value) (base : Heap) (N : List Str) (qual : Str) (scope : Scope) (f : Addr) (cdv : Value) (A : Around) (outer : List PySem.Env) (s : Shared) (H : Hp) (E : XK) : Cx := (cxW CX0 P w K mg base N qual scope f cdv A outer s H E).nox
theorem def_okW (F : FunD K x qual params body scope [] [] f fd) (S : FnScope N ps scope) (len : ∀ κs κ, R κs κ → κs.length = ps.length)
    (hb : ∀ cdv A outer s H E κs κ, L2H.RoomH k (A.deeper (envOfC qual scope s.heap.objs.size f cdv)) → R κs κ → SsK (Bw P w K mg base N qual scope f cdv A outer s H E) body (startS N κs) (.rt κ)) : FnW P w K mg base CX0 (k + 1) f fd ps (spF R) := by
  refine fn_ofW F S (fun vs H Q E ⟨S, κs, κ, _, hR, hv, _⟩ => hv.len.trans (len κs κ hR)) fun cdv A outer s H vs Q E hr ⟨S, κs, κ, ss, hR, hv, q⟩ => ?_
  exact ⟨_, (hb cdv A outer s H E κs κ hr hR).nox, S, H, S, en_start ss hv, fun S' H' v g hk => q v S' H' g hk⟩
end
theorem ek_callW {X : Cx} {e : Expr} {ees : List Expr} {ρ : List Sl} {κ : Kd} {κs : List Kd} {x : Str} {p pos : Pos} {R : List Kd → Kd → Prop} {k : Nat} {ps : List Str} (D : DfW X.prog X.w X.K X.mg X.base k x ps R) (hr : L2H.RoomH k X.A) (ha : AK X (e :: ees) ρ κs) (hR : R κs κ) (hg : Gl X x := by rfl) (hdb : (x == ("__debug__" : Str)) = false := by decide) (he : starEach (e :: ees) X.env = (false, eval e X.env) :: starEach ees X.env := by rfl)
    (hpl : (backTo pos (starEach ees X.env)).any (·.1) = false := by rfl) : EK X (.Call (.Name x p) (e :: ees) [] pos) ρ κ := by
  obtain ⟨f, fd, F, hm, hk, hb⟩ := D.ex
  exact EK.of (pe_callW (E := E0) F hr hg hm hk hb pass0 ha hdb he hpl) fun S0 H0 S H σ Q E q => ak_run E fun vs S1 H1 g E1 hv => ⟨S1, κs, κ, E1.same, hR, hv, fun v S2 H2 g2 h => q v S2 H2 (g.trans g2) h⟩
end KD
end
section
namespace KD
open PySem PySem.Spec PyProof.Rows L2
/-! ### what raises, as a caller sees it -/
structure DfZ (P : Program) (w : World) (K : PySem.W.Frag) (mg : Str → Option Value) (base : Heap) (k : Nat) (x : Str) (ps : List Str) (C : Addr) (fl : Str) (R : List Kd → Str → Prop) : Prop where
  ex : ∃ f fd, FnOk P w K mg base (L2.CX P w) k f fd ps (spZ C fl R) ∧ mg x = some (.ref f) ∧ PySem.W.keepIn K (.ref f) = true ∧ Binds K fd ps []
theorem dfz_mk {P : Program} {w : World} {K : PySem.W.Frag} {mg : Str → Option Value} {base : Heap} {x qual : Str} {params : Arguments} {body : List Stmt} {scope : Scope} {f : Addr} {fd : FuncData} {ps : List Str} {k : Nat} {C : Addr} {fl : Str} {R : List Kd → Str → Prop}
    (F : FunD K x qual params body scope [] [] f fd) (G : FnOk P w K mg base (L2.CX P w) k f fd ps (spZ C fl R)) (hm : mg x = some (.ref f))
    (h : ∀ (kV doc pm : Value) (an : Option Addr) (cdv ct : Value) (us : List Value), us.length = ps.length → bindArgs (PySem.W.fnOf x qual params body scope .none kV doc pm an cdv ct) ⟨us, []⟩ = pure (ps.zip us)) : DfZ P w K mg base k x ps C fl R :=
  ⟨f, fd, G, hm, F.kp, F.bindsN h⟩
section
variable {X : Cx} {e : Expr} {ρ : List Sl} {κ : Kd} {pos p : Pos} {C : Addr} {f x y : Str} {W : WX} {es : List Expr} {κs : List Kd} {k : Nat} {ps : List Str} {R : List Kd → Str → Prop}
theorem ze_callD (D : DfZ X.prog X.w X.K X.mg X.base k y ps C f R) (hr : Room k X.A) (tk : Takes X W) (ha : AK X (e :: es) ρ κs) (hR : R κs x)
    (hg : Gl X y := by rfl) (hdb : (y == ("__debug__" : Str)) = false := by decide) (he : starEach (e :: es) X.env = (false, eval e X.env) :: starEach es X.env := by rfl) (hpl : (backTo pos (starEach es X.env)).any (·.1) = false := by rfl) :
    PE X (.Call (.Name y p) (e :: es) [] pos) (fun σ H _ => rdZ X.K W C f x ρ σ H) := by
  obtain ⟨fa, fd, F, hm, hk, hb⟩ := D.ex
  exact ze_call F hr tk hm hk hb ha hR hg hdb he hpl
/-- in an argument list -/
theorem za_here (h : PE X e (fun σ H _ => rdZ X.K W C f x ρ σ H)) (hr : AK X es ρ κs) (hs : starEach (e :: es) X.env = (false, eval e X.env) :: starEach es X.env := by rfl) : PA X (e :: es) (fun σ H _ => rdZ X.K W C f x ρ σ H) := PA.imp (pa_cons h hr hs) fun σ H Q q => q
theorem za_skip (h : EK X e ρ κ) (hr : PA X es (fun σ H _ => rdZ X.K W C f x ρ σ H)) (hs : starEach (e :: es) X.env = (false, eval e X.env) :: starEach es X.env := by rfl) : PA X (e :: es) (fun σ H _ => rdZ X.K W C f x ρ σ H) :=
  PA.imp (pa_cons h hr hs) fun σ H Q ⟨S0, H0, S, E, q⟩ => ek_run E fun v S1 H1 g E1 hv => ⟨S0, H0, S1, E1, q⟩
/-- a call whose arguments raise -/
theorem ze_in {R' : List Kd → Kd → Prop} (D : Df X.prog X.w X.K X.mg X.base k y ps R') (hr : Room k X.A) (ha : PA X (e :: es) (fun σ H _ => rdZ X.K W C f x ρ σ H))
    (hg : Gl X y := by rfl) (hdb : (y == ("__debug__" : Str)) = false := by decide) (he : starEach (e :: es) X.env = (false, eval e X.env) :: starEach es X.env := by rfl) (hpl : (backTo pos (starEach es X.env)).any (·.1) = false := by rfl) :
    PE X (.Call (.Name y p) (e :: es) [] pos) (fun σ H _ => rdZ X.K W C f x ρ σ H) := by
  obtain ⟨fa, fd, F, hm, hk, hb, _⟩ := D.ex
  exact PE.imp (pe_call (E := E0) F hr hg hm hk hb .nil pass0 ha hdb he hpl) fun σ H Q q => q
/-- [.. for .. in e], e raises -/
theorem ze_lc {tg elt iter : Expr} {scope : Scope} {own : List (Str × Nat)} (hc : X.calm = true) (hN : X.N.Nodup) (h : PE X iter (fun σ H _ => rdZ X.K W C f x ρ σ H)) (ok : BlkOk X.N X.env.scope scope own)
    (hs : ∀ x, foldedSetIterable iter X.env x = pure x := by intro _; rfl) : PE X (.ListComp elt [⟨tg, iter, [], 0⟩] scope pos) (fun σ H _ => rdZ X.K W C f x ρ σ H) :=
  PE.imp (pe_lc (g := wG X scope tg) (tt := wT X scope []) (te := wE X scope elt) hc hN (pi_tup h) ok (fun s H C cl fp => ⟨fun pins s2 σ H v u Q I rv ⟨t, h, q⟩ => (h s _ C cl fp).run pins s2 σ H v u Q I rv q⟩) (fun s H C cl fp => ⟨fun pins s2 σ H Q I ⟨t, h, q⟩ => (h s _ C cl fp).run pins s2 σ H Q I q⟩) (fun s H C cl fp => ⟨fun pins s2 σ H Q I ⟨t, h, q⟩ => (h s _ C cl fp).run pins s2 σ H Q I q⟩) hs)
    fun σ H Q q => q
theorem ze_tuple (hm : X.mg "tuple" = none) (h : PE X e (fun σ H _ => rdZ X.K W C f x ρ σ H)) (hg : Gl X "tuple" := by rfl) (he : starEach (e :: []) X.env = (false, eval e X.env) :: starEach [] X.env := by rfl) (hpl : (backTo pos (starEach [] X.env)).any (·.1) = false := by rfl) : PE X (.Call (.Name "tuple" p) [e] [] pos) (fun σ H _ => rdZ X.K W C f x ρ σ H) :=
  PE.imp (pe_callTy call_tuple_of hg hm boot_tuple (za_here (κs := []) h ak_nil he) (by decide) (by decide) he hpl) fun σ H Q q => q
end
end KD
namespace K71
open PySem PySem.Spec PyProof.Rows L2 KD
section
variable {P : Program} {w : World} {K : PySem.W.Frag} {mg : Str → Option Value} {base : Heap} {f : Addr} {fd : FuncData} {Ci Cs Cu : Addr}
/-! ### UnknownName(name) -/
theorem sc_mkU : FnScope ["self", "name"] ["self", "name"] (defScope (inClass (top 7) 0)) := ⟨rfl, rfl, rfl, by decide +kernel, rfl, by decide +kernel, by decide +kernel⟩
theorem ok_mkU {C : Addr} (F : FnM K "__init__" "UnknownName.__init__" (inClass (top 7) 0) f fd) (T : OexC K C) (no : PySem.W.findIn K (.ref C) "name" = some none) :
    FnOk P w K mg base CX0 1 f fd ["self", "name"] fun vs H Q _ => ∃ a x, vs = [.ref a, .str x] ∧ H a = some (exo a C none) ∧ ∀ dx, H dx = none → dx ≠ a → Q .non (upd (upd H dx (exd dx [("name", .str x)])) a (exo a C (some dx))) := by
  refine F.ok sc_mkU (fun vs H Q E ⟨a, x, e, _⟩ => by rw [e]; rfl) fun cdv A outer s H vs Q E hr ⟨a, x, e, h, q⟩ => ?_
  refine ⟨_, pss_one (ps_ost (pe_var (i := 0) rfl (.inl rfl)) (pe_var (i := 1) rfl (.inl rfl))), ?_⟩
  subst e
  exact ⟨_, rfl, _, rfl, a, C, rfl, T, no, .inl ⟨h, q⟩⟩
/-! ### known_names, row_layers, net_stamp, ink_net: they raise -/
def zRow (ns : List (List Nat)) (J : List Nat) (y : List Nat) (rest : List PyData) : List PyData := rowD ns J ++ .str (ofL y) :: rest
structure Zr (ns : List (List Nat)) (J : List Nat) (y : List Nat) (rest : List PyData) : Prop where
  J : Jok ns.length J
  y : y ∉ ns
  fl : ∀ d ∈ rest, flatD d = true
  ln : rest.length ≤ 100
theorem frz_z {ns : List (List Nat)} {J : List Nat} {y : List Nat} {rest : List PyData} (b : Bool) (h : Zr ns J y rest) : Frz 1 (sqD b (zRow ns J y rest)) (.tuple (zRow ns J y rest)) := by
  refine .inr ⟨zRow ns J y rest, zRow ns J y rest, by cases b; exact .inl rfl; exact .inr rfl, rfl, rfl, ?_, fun i x z hx hz => ?_⟩
  · have := h.J.1
    have := h.ln
    unfold zRow rowD
    rw [List.length_append, List.length_map, List.length_cons]
    omega
  · rw [hx] at hz
    cases hz
    have hm := List.mem_of_getElem? hx
    unfold zRow rowD at hm
    rcases List.mem_append.mp hm with h1 | h1
    · obtain ⟨j, _, rfl⟩ := List.mem_map.mp h1
      exact ⟨rfl, rfl⟩
    · rcases List.mem_cons.mp h1 with h1 | h1
      · subst h1; exact ⟨rfl, rfl⟩
      · exact ⟨h.fl _ h1, rfl⟩
def R_knownZ (Cs : Addr) (K : PySem.W.Frag) (κs : List Kd) (x : Str) : Prop := ∃ (w : Nat) (ss : Pls) (b : Bool) (J y : List Nat) (rest : List PyData), Pd w ss ∧ Zr (ss.map (·.1)) J y rest ∧ κs = [kSt K Cs w ss, dt K (sqD b (zRow (ss.map (·.1)) J y rest))] ∧ x = ofL y
theorem ok_knownZ (F : FnG K "known_names" (top 22) f fd) (T : Tx K mg) (Z : Cc K mg Ci Cs) (U : Ux P w K mg base "UnknownName" Cu "name") (D_frozen : Df P w K mg base 2 "frozen" ["value"] (R_frozen 1 K)) (D_place : DfM P w K mg base 1 Cs "place" ["self", "name"] (R_place Cs K)) : FnOk P w K mg base (L2.CX P w) 3 f fd ["stock", "names"] (spZ Cu "name" (R_knownZ Cs K)) := by
  refine def_okZ F sc_known (fun κs κ ⟨_, _, _, _, _, _, _, _, e, _⟩ => by rw [e]; rfl) fun cdv A outer s H E κs x hr h => ?_
  obtain ⟨n, ss, b, J, y, rest, hw, hz, rfl, rfl⟩ := h
  have nd := sc_known.nd
  have hJ := hz.J
  refine zss_cons (sk_set 2 nd (ek_call D_frozen (hr.mono (by decide)) (ak_cons (ek_var 1) ak_nil) ⟨_, _, frz_z b hz, rfl, rfl⟩)) ?_
  have hlen : (zRow (ss.map (·.1)) J y rest).length = J.length + (rest.length + 1) := by unfold zRow; rw [List.length_append, row_len, List.length_cons]
  refine zss_one (zs_for (passes_of rfl) rfl (ik_tup (ek_var 2)) (fun i => [.k (kSt K Cs n ss), .k (dt K (sqD b (zRow (ss.map (·.1)) J y rest))), .k (kT K (zRow (ss.map (·.1)) J y rest)), .un]) J.length (.keep (.keep (.keep (.keep .nil)))) (by rw [hlen]; omega) (fun i d hi hd => ⟨_, gk_name 3 nd, ?_⟩) (fun d hd => ⟨_, gk_name 3 nd, ?_⟩))
  · unfold zRow at hd
    rw [List.getElem?_append_left (by rw [row_len]; exact hi)] at hd
    obtain ⟨j, hj, rfl⟩ := row_get hd
    obtain ⟨q, hq, _⟩ := get_at (by have := hJ.2 j (List.mem_of_getElem? hj); rwa [List.length_map] at this)
    rw [name_at hq]
    exact ss_F (tk_isN (ek_meth D_place (hr.mono (by decide)) Z.cS (ek_var 0) (isI_kO rfl) (ak_cons (ek_var 3) ak_nil) (place_S hw hq))) rfl (ss_weakO ss_nil (.keep (.keep (.keep (.drop .nil)))))
  · unfold zRow at hd
    rw [List.getElem?_append_right (by rw [row_len]; exact Nat.le_refl _), row_len, Nat.sub_self] at hd
    cases hd
    exact zss_one (zs_if (tk_isN (ek_meth D_place (hr.mono (by decide)) Z.cS (ek_var 0) (isI_kO rfl) (ak_cons (ek_var 3) ak_nil) (κ := dt K .none) ⟨_, _, _, rfl, rfl, by rw [look_none 0 hz.y]; rfl⟩)) rfl (zss_one (zs_raise U (hr.mono (by decide)) rfl (takes_of rfl rfl rfl rfl) (ek_var 3))))
def R_layersZ (Cs : Addr) (K : PySem.W.Frag) (κs : List Kd) (x : Str) : Prop := R_knownZ Cs K κs x
theorem ok_row_layersZ (F : FnG K "row_layers" (top 48) f fd) (T : Tx K mg) (D_known : DfZ P w K mg base 3 "known_names" ["stock", "names"] Cu "name" (R_knownZ Cs K)) : FnOk P w K mg base (L2.CX P w) 4 f fd ["stock", "row"] (spZ Cu "name" (R_knownZ Cs K)) := by
  refine def_okZ F sc_row_layers (fun κs κ ⟨_, _, _, _, _, _, _, _, e, _⟩ => by rw [e]; rfl) fun cdv A outer s H E κs x hr h => ?_
  have h' := h
  obtain ⟨n, ss, b, J, y, rest, hw, hz, rfl, rfl⟩ := h'
  have nd := sc_row_layers.nd
  exact zss_one (zs_ret (ze_tuple T.tuple (ze_lc rfl nd (ze_callD D_known (hr.mono (by decide)) (takes_of rfl rfl rfl rfl) (ak_cons (ek_var 0) (ak_cons (ek_var 1) ak_nil)) h) (blkOk_by (N := ["stock", "row", "name"]) (sc := defScope (top 48)) (own := [("name", 2)]) (by decide +kernel)))))
theorem ok_net_stampZ (F : FnG K "net_stamp" (top 52) f fd) (Z : Cc K mg Ci Cs) (D_net_of : Df P w K mg base 3 "net_of" ["size", "layers"] (R_net_of K)) (D_row_layers : DfZ P w K mg base 4 "row_layers" ["stock", "row"] Cu "name" (R_knownZ Cs K)) : FnOk P w K mg base (L2.CX P w) 5 f fd ["stock", "row"] (spZ Cu "name" (R_knownZ Cs K)) := by
  refine def_okZ F sc_net_stamp (fun κs κ ⟨_, _, _, _, _, _, _, _, e, _⟩ => by rw [e]; rfl) fun cdv A outer s H E κs x hr h => ?_
  have h' := h
  obtain ⟨n, ss, b, J, y, rest, hw, hz, rfl, rfl⟩ := h'
  exact zss_one (zs_ret (ze_in D_net_of (hr.mono (by decide)) (za_skip (ek_fld (κ := kI K (3 * n : Nat)) (ek_var 0) Z.cS Z.s1 rfl) (za_here (ze_callD D_row_layers (hr.mono (by decide)) (takes_of rfl rfl rfl rfl) (ak_cons (ek_var 0) (ak_cons (ek_var 1) ak_nil)) h) ak_nil))))
def R_ink_netZ (Ci : Addr) (K : PySem.W.Frag) (κs : List Kd) (x : Str) : Prop := ∃ (w : Nat) (st : Wld) (b : Bool) (J y : List Nat) (rest : List PyData), Wd w st ∧ Zr (st.map (·.1)) J y rest ∧ κs = [kInk K Ci w st, dt K (sqD b (zRow (st.map (·.1)) J y rest))] ∧ x = ofL y
theorem ok_ink_netZ (F : FnG K "ink_net" (top 54) f fd) (D_plain_stock : Df P w K mg base 6 "plain_stock" ["inks"] (R_plain_stock Ci Cs K)) (D_net_stamp : DfZ P w K mg base 5 "net_stamp" ["stock", "row"] Cu "name" (R_knownZ Cs K)) : FnOk P w K mg base (L2.CX P w) 7 f fd ["inks", "row"] (spZ Cu "name" (R_ink_netZ Ci K)) := by
  refine def_okZ F sc_ink_net (fun κs κ ⟨_, _, _, _, _, _, _, _, e, _⟩ => by rw [e]; rfl) fun cdv A outer s H E κs x hr h => ?_
  obtain ⟨n, st, b, J, y, rest, hw, hz, rfl, rfl⟩ := h
  have nd := sc_ink_net.nd
  have hpd := pd_plain hw
  exact zss_one (zs_set (i := 2) nd (ze_callD D_net_stamp (hr.mono (by decide)) (takes_of rfl rfl rfl rfl) (ak_cons (ek_call D_plain_stock (hr.mono (by decide)) (ak_cons (ek_var 0) ak_nil) ⟨n, st, hw, rfl, rfl⟩) (ak_cons (ek_var 1) ak_nil)) ⟨n, plainS st, b, J, y, rest, hpd, by rw [plainS_names]; exact hz, by rw [plainS_names], rfl⟩))
end
end K71
end
section
namespace KD
open PySem PySem.Spec PyProof.Rows L2
/-! ### isinstance(e, C), e.f in an except suite -/
def rIsX (K : PySem.W.Frag) (D a dd : Addr) : List V → Hp → VK → Prop := fun xs H Q => ∃ (c : V) (cv : Value) (b : Bool) (fs : List (Str × V)), xs = [.ref a, c] ∧ (∀ u, RelV c u → u = cv) ∧ PySem.W.kitOne K (.ref D) cv = some b ∧ H dd = some (.xd fs) ∧ Q (.bl b) H
theorem call_isX {X : Cx} {a D dd : Addr} {oe : Obj} {pn : List (Addr × Obj)} (C : ExcC X.K D) (hz : Zc (.ref D) (some dd) oe) (hf : ∃ vs, oe.data = .fields vs) : CallR (X.suite a ((a, oe) :: pn)) (.builtin "isinstance") (rIsX X.K D a dd) := by
  intro pins s σ H xs us Q I r h
  obtain ⟨c, cv, b, fs, rfl, hcv, e, hd, q⟩ := h
  cases r with
  | cons rx rr =>
    cases rr with
    | cons rt rr =>
      cases rr
      cases rx
      have ec := hcv _ rt
      subst ec
      obtain ⟨hget, _⟩ := I.pin (a, oe) (List.mem_append.mpr (.inl List.mem_cons_self))
      obtain ⟨vs, hv⟩ := hf
      obtain ⟨mA, hns, hr⟩ : ObjOk X.prog X.w H s.heap dd (.xd fs) := I.hok dd _ hd
      obtain ⟨od, ho, hl⟩ := lookIn_ns hns
      have J : PySem.W.InstAt s.heap a oe D (some od) := ⟨hget, hz.1, by unfold PySem.W.notCls; rw [hv] <;> rfl, by rw [hz.2]; exact ho⟩
      have hcl : (PySem.W.clsIn X.K D).isSome = true := by
        obtain ⟨cd, hc, _⟩ := PySem.W.any_some C.hd
        rw [hc]; rfl
      exact PySem.W.kia_one (PySem.W.kitx_exc hcl C.hg C.hk C.hs C.ha C.hn C.ht C.hm) I.kIn J e (fun z => nomatch z) fun tk => ⟨.bl b, H, I.kept (t' := tk) fun _ _ z => z, rfl, q⟩
/-- e holds the exception at a, its dict at dd holds the text -/
def kX (a dd : Addr) (f x : Str) : Kd := ⟨fun S v => v = .ref a ∧ S dd = some (xdOf f x), fun s h => ⟨h.1, s _ _ h.2⟩⟩
section
variable {X : Cx} {e b : Expr} {ρ : List Sl} {κ : Kd} {pos p : Pos} {a dd D : Addr} {f x : Str} {oe : Obj} {pn : List (Addr × Obj)} {k : Bool}
theorem ek_isX (C : ExcC X.K D) (hz : Zc (.ref D) (some dd) oe) (hf : ∃ vs, oe.data = .fields vs) (c : V) (cv : Value) (hcv : ∀ u, RelV c u → u = cv) (hk : PySem.W.kitOne X.K (.ref D) cv = some k) (hm : X.mg "isinstance" = none) (ha : EK (X.suite a ((a, oe) :: pn)) e ρ (kX a dd f x)) (hb : EK (X.suite a ((a, oe) :: pn)) b ρ (vk c))
    (hg : Gl (X.suite a ((a, oe) :: pn)) "isinstance" := by rfl) (he : starEach (e :: [b]) X.env = (false, eval e X.env) :: starEach [b] X.env := by rfl) (hpl : (backTo pos (starEach [b] X.env)).any (·.1) = false := by rfl) (he2 : starEach (b :: []) X.env = (false, eval b X.env) :: starEach [] X.env := by rfl) : EK (X.suite a ((a, oe) :: pn)) (.Call (.Name "isinstance" p) [e, b] [] pos) ρ (kB X.K k) :=
  ek_cb (X := X.suite a ((a, oe) :: pn)) (call_isX C hz hf) (ck_pure fun S H vs Q s hv q => by
    obtain ⟨v, u, rfl, ⟨h1, h2⟩, h3⟩ := all2 hv
    have h4 : u = c := h3
    subst h1 h4
    exact ⟨u, cv, k, _, rfl, hcv, hk, s _ _ h2, q _ (.bl _)⟩) hm boot_isinstance (ak_cons ha (ak_cons hb ak_nil he2) he) hg (by decide) (by decide) he hpl
theorem tk_or3 {c : Expr} {Y : Cx} {l m : Bool} (ha : TK Y e ρ k) (hb : k = false → TK Y b ρ l) (hc : k = false → l = false → TK Y c ρ m) : TK Y (.BoolOp .Or [e, b, c] pos) ρ (k || (l || m)) := tk_w (wk_or ha fun h => wk_or (hb h) fun h2 => wk_or1 (hc h h2))
theorem ek_xf (T : XfC X.K D) (hno : PySem.W.findIn X.K (.ref D) f = some none) (hz : Zc (.ref D) (some dd) oe) (hf : ∃ vs, oe.data = .fields vs) (ha : EK (X.suite a ((a, oe) :: pn)) e ρ (kX a dd f x)) (hb : attributeBase e f X.env (eval e X.env) = eval e X.env := by rfl) : EK (X.suite a ((a, oe) :: pn)) (.Attribute e f pos) ρ (kS X.K x) :=
  EK.of (X := X.suite a ((a, oe) :: pn)) (pe_xf T hno hz hf ha hb) fun S0 H0 S H σ Q E q => ek_run E fun v S1 H1 g E1 ⟨h1, h2⟩ =>
    ⟨h1, rfl, dd, [(f, .str x)], .str x, rfl, E1.same _ _ h2, by simp [List.lookup], q _ S1 H1 g (.str x)⟩
end
end KD
namespace K71
open PySem PySem.Spec PyProof.Rows L2 KD
section
variable {P : Program} {w : World} {K : PySem.W.Frag} {mg : Str → Option Value} {base : Heap} {f : Addr} {fd : FuncData} {Ci Cs Cu Cb Cp Ct Ce : Addr}
theorem ok_sameW (F : FnG K "_law_same_text" (top 70) f fd) (T : Tx K mg) : FnW P w K mg base CX0 1 f fd ["_law_told", "_law_due"] (spF (R_same K)) := by
  refine def_okW F sc_same (fun κs κ ⟨_, e, _⟩ => by rw [e]; rfl) fun cdv A outer s H E κs κ hr h => ?_
  obtain ⟨x, rfl, rfl⟩ := h
  refine ss_one (sk_ret (EK.to (ek_and (ek_isi T.isinstance (ek_var 0) (ek_ty T.str boot_str) (by exact kit_str_str)) (fun h => (ek_one (ek_eqS (ek_var 0) (ek_var 1))))) ?_))
  rw [decide_eq_true rfl]
  rfl
/-- what the written part says of the errors -/
structure Xs (K : PySem.W.Frag) (mg : Str → Option Value) (Cu Cb Cp Ct Ce : Addr) : Prop where
  mb : mg "BadName" = some (.ref Cb)
  mp : mg "BadStamp" = some (.ref Cp)
  mt : mg "NameTaken" = some (.ref Ct)
  me : mg "StampError" = some (.ref Ce)
  mv : mg "ValueError" = none
  kb : PySem.W.kitOne K (.ref Cu) (.ref Cb) = some false
  kp : PySem.W.kitOne K (.ref Cu) (.ref Cp) = some false
  kt : PySem.W.kitOne K (.ref Cu) (.ref Ct) = some false
  ke : PySem.W.kitOne K (.ref Cu) (.ref Ce) = some true
  kv : PySem.W.kitOne K (.ref Cu) (.type "ValueError") = some true
  ex : PySem.W.exmOne K (.ref Cu) (.ref Cu) = some true
  xc : ExcC K Cu
  xf : XfC K Cu
def R_unknown (Ci : Addr) (K : PySem.W.Frag) (κs : List Kd) (κ : Kd) : Prop := ∃ (w : Nat) (st : Wld) (b : Bool) (J y : List Nat) (rest : List PyData), Wd w st ∧ Zr (st.map (·.1)) J y rest ∧ κs = [kInk K Ci w st, dt K (sqD b (zRow (st.map (·.1)) J y rest)), kS K (ofL y)] ∧ κ = kB K true
theorem sc_unknown : FnScope ["_law_held", "_law_line", "_law_name", "e"] ["_law_held", "_law_line", "_law_name"] (defScope (top 78)) := ⟨rfl, rfl, rfl, by decide +kernel, rfl, by decide +kernel, by decide +kernel⟩
theorem boot_ValueError : bootBuiltins "ValueError" = some (.type "ValueError") := by decide +kernel
theorem ok_unknown (F : FnG K "_law_unknown" (top 78) f fd) (T : Tx K mg) (U : Ux P w K mg base "UnknownName" Cu "name") (Y : Xs K mg Cu Cb Cp Ct Ce) (D_ink_net : DfZ P w K mg base 7 "ink_net" ["inks", "row"] Cu "name" (R_ink_netZ Ci K)) (D_same : DfW P w K mg base 1 "_law_same_text" ["_law_told", "_law_due"] (R_same K)) :
    FnOk P w K mg base CX0 8 f fd ["_law_held", "_law_line", "_law_name"] (spF (R_unknown Ci K)) := by
  refine def_ok F sc_unknown (fun κs κ ⟨_, _, _, _, _, _, _, _, e, _⟩ => by rw [e]; rfl) fun cdv A outer s H E κs κ hr h => ?_
  obtain ⟨n, st, b, J, y, rest, hw, hz, rfl, rfl⟩ := h
  have nd := sc_unknown.nd
  let ts : Addr → Value → Option Addr → TS := fun a cls d D σ H => ∃ dd, cls = .ref Cu ∧ d = some dd ∧ rdS K [.k (kInk K Ci n st), .k (dt K (sqD b (zRow (st.map (·.1)) J y rest))), .k (kS K (ofL y)), .k (kX a dd "name" (ofL y))] (.rt (kB K true)) D σ H
  refine PSs.imp (pss_cons (ps_try_as (i := 3) (ts := ts) (Wout := fun _ _ _ _ => False) (tb := fun W _ σ H => rdZ K W Cu "name" (ofL y) [.k (kInk K Ci n st), .k (dt K (sqD b (zRow (st.map (·.1)) J y rest))), .k (kS K (ofL y)), .un] σ H) rfl rfl nd rfl (by rfl) ⟨rfl, by decide, .inl U.mC⟩ takes0 ?hb ?hsu) pss_never) ?hi
  case hb =>
    intro W pn xe tk hp
    exact PSs.imp (pss_one (ps_expr (ze_callD D_ink_net hr tk (ak_cons (ek_var 0) (ak_cons (ek_var 1) ak_nil)) ⟨n, st, b, J, y, rest, hw, hz, rfl, rfl⟩))) fun D σ H q => q
  case hsu =>
    intro a oe cls d pn hZ hf
    refine ⟨fun pins s1 σ H1 D I ⟨dd, hc, hd, h⟩ => ?_⟩
    subst hc hd
    refine PSs.run (t := rdS K [.k (kInk K Ci n st), .k (dt K (sqD b (zRow (st.map (·.1)) J y rest))), .k (kS K (ofL y)), .k (kX a dd "name" (ofL y))] (.rt (kB K true))) ?_ pins s1 σ H1 D I h
    refine ss_F (k := false) (TK.to (tk_or3 (tk_val (ek_isX (X := Bx P w K mg base ["_law_held", "_law_line", "_law_name", "e"] "_law_unknown" (defScope (top 78)) f cdv A outer s H E) Y.xc hZ hf (.ref Cb) _ (fun u r => r) Y.kb T.isinstance (ek_var 3) (ek_cls Y.mb))) (fun _ => tk_val (ek_isX (X := Bx P w K mg base ["_law_held", "_law_line", "_law_name", "e"] "_law_unknown" (defScope (top 78)) f cdv A outer s H E) Y.xc hZ hf (.ref Cp) _ (fun u r => r) Y.kp T.isinstance (ek_var 3) (ek_cls Y.mp))) (fun _ _ => tk_val (ek_isX (X := Bx P w K mg base ["_law_held", "_law_line", "_law_name", "e"] "_law_unknown" (defScope (top 78)) f cdv A outer s H E) Y.xc hZ hf (.ref Ct) _ (fun u r => r) Y.kt T.isinstance (ek_var 3) (ek_cls Y.mt)))) rfl) rfl ?_
    exact ss_one (sk_ret (ek_and3 (ek_isX (X := Bx P w K mg base ["_law_held", "_law_line", "_law_name", "e"] "_law_unknown" (defScope (top 78)) f cdv A outer s H E) Y.xc hZ hf (.ref Ce) _ (fun u r => r) Y.ke T.isinstance (ek_var 3) (ek_cls Y.me)) (fun _ => ek_isX (X := Bx P w K mg base ["_law_held", "_law_line", "_law_name", "e"] "_law_unknown" (defScope (top 78)) f cdv A outer s H E) Y.xc hZ hf (.ty "ValueError") _ (fun u r => r) Y.kv T.isinstance (ek_var 3) (ek_ty Y.mv boot_ValueError)) (fun _ _ => ek_callW D_same ⟨(hr.mono (by decide : 1 ≤ 7)).dp, (hr.mono (by decide : 1 ≤ 7)).un⟩ (ak_cons (ek_xf (X := Bx P w K mg base ["_law_held", "_law_line", "_law_name", "e"] "_law_unknown" (defScope (top 78)) f cdv A outer s H E) Y.xf U.no hZ hf (ek_var 3)) (ak_cons (ek_var 2) ak_nil)) ⟨ofL y, rfl, rfl⟩)))
  case hi =>
    intro D σ H ⟨S0, H0, S, En0, q⟩
    refine ⟨S, H, S, En0.rebase ?_, fun dd S' H' g hd => ⟨true, Y.ex, fun _ a ha => ⟨dd, rfl, rfl, S0, H0, S', (En0.grow g).set 3 ⟨rfl, hd⟩, q⟩, fun z => nomatch z⟩⟩
    intro i w e
    match i, e with
    | 0, e => cases e
    | 1, e => cases e
    | 2, e => cases e
    | 3, e => cases e
    | k + 4, e => cases e
end
end K71
end
section
namespace K71
open PySem PySem.Spec PyProof.Rows L2 KD
/-! ### what law builds: plain facts -/
theorem frz_item (c : Bool) (it : Itm) : Frz 1 (itD c it) (itD true it) := by
  cases it with
  | none => exact .inl ⟨rfl, rfl⟩
  | some q =>
    refine .inr ⟨[.str q.1.s, .int q.2], [.str q.1.s, .int q.2], ?_, rfl, rfl, by show 2 ≤ 1000; decide, fun i x y hx hy => ?_⟩
    · cases c
      · exact .inl rfl
      · exact .inr rfl
    · rw [hx] at hy
      cases hy
      match i, hx with
      | 0, hx => cases hx; exact ⟨rfl, rfl⟩
      | 1, hx => cases hx; exact ⟨rfl, rfl⟩
      | k + 2, hx => simp at hx
theorem frz_its (b c : Bool) {its : List Itm} (h : its.length ≤ 1000) : Frz 2 (sqD b (its.map (itD c))) (.tuple (its.map (itD true))) := by
  refine .inr ⟨its.map (itD c), its.map (itD true), by cases b; exact .inl rfl; exact .inr rfl, rfl, by rw [List.length_map, List.length_map], by rw [List.length_map]; exact h, fun i x y hx hy => ?_⟩
  obtain ⟨it, hit, rfl⟩ := map_get hx
  rw [map_at hit] at hy
  cases hy
  exact frz_item c it
def heldD (st : Wld) (k : Nat) : List PyData := (List.range st.length).map fun i => .list [.str (ofL ((nms st).getD i [])), givD ((k + i) % 4) (itAt st i)]
theorem held_at {st : Wld} {k i : Nat} {q : List Nat × List Itm} (h : st[i]? = some q) : (heldD st k)[i]? = some (.list [.str (ofL q.1), givD ((k + i) % 4) q.2]) := by
  have hi := lt_get h
  unfold heldD
  rw [List.getElem?_map, List.getElem?_range hi]
  show some (PyData.list [.str (ofL ((nms st).getD i [])), givD ((k + i) % 4) (itAt st i)]) = _
  rw [show (nms st).getD i [] = q.1 from getD_of (names_at h)]
  unfold itAt
  rw [getD_of h]
theorem held_len (st : Wld) (k : Nat) : (heldD st k).length = st.length := by unfold heldD; rw [List.length_map, List.length_range]
theorem frz_held {n : Nat} {st : Wld} (hw : Wd n st) (k : Nat) : Frz 4 (.list (heldD st k)) (.tuple (pairsI st)) := by
  have n10 := hw.n10
  have w10 := hw.w10
  refine .inr ⟨heldD st k, pairsI st, .inl rfl, rfl, by rw [held_len]; unfold pairsI; rw [List.length_map], by rw [held_len]; omega, fun i x y hx hy => ?_⟩
  have hi := lt_get hx
  rw [held_len] at hi
  obtain ⟨q, hq⟩ := get_lt hi
  rw [held_at hq] at hx
  cases hx
  unfold pairsI at hy
  rw [map_at hq] at hy
  cases hy
  have hl := hw.ln q (List.mem_of_getElem? hq)
  refine .inr ⟨[.str (ofL q.1), givD ((k + i) % 4) q.2], [.str (ofL q.1), .tuple (q.2.map (itD true))], .inl rfl, rfl, rfl, by show 2 ≤ 1000; decide, fun j x y hx hy => ?_⟩
  match j, hx, hy with
  | 0, hx, hy => cases hx; cases hy; exact .inl ⟨rfl, rfl⟩
  | 1, hx, hy => cases hx; cases hy; exact frz_its _ _ (by omega)
  | j + 2, hx, hy => simp at hx
theorem gives_map {α β : Type} {F : α → β} {ds : List α} {bs : List β} (hl : bs.length = ds.length) (h : ∀ (i : Nat) b, bs[i]? = some b → ∃ d, ds[i]? = some d ∧ b = F d) : bs = ds.map F := by
  apply List.ext_getElem?
  intro i
  cases e : bs[i]? with
  | none =>
    have : ds.length ≤ i := by rw [← hl]; exact List.getElem?_eq_none_iff.mp e
    rw [List.getElem?_map, List.getElem?_eq_none this]
    rfl
  | some b =>
    obtain ⟨d, hd, rfl⟩ := h i b e
    rw [map_at hd]
theorem join_one {F : Nat → Nat} {ds : List Nat} {bs : List Str} (hl : bs.length = ds.length) (h : ∀ (i : Nat) b, bs[i]? = some b → ∃ d, ds[i]? = some d ∧ b = ofL [F d]) : Txt.join (ofL []) bs = ofL (ds.map F) := by
  rw [gives_map (F := fun d => ofL [F d]) hl h]
  have := joinOne (ds.map F)
  rw [List.map_map] at this
  exact this
theorem all_open2 {S : Hp} {α : Type} {P : α → Prop} {κ : Kd} {g : α → Kd} {κs : List Kd} {vs : List V} (h : AllK S (κ :: xk P g :: κs) vs) : ∃ a, P a ∧ AllK S (κ :: g a :: κs) vs := by
  match vs, h with
  | v :: u :: vs, ⟨h0, ⟨a, ha, hp⟩, t⟩ => exact ⟨a, ha, h0, hp, t⟩
theorem all_open3 {S : Hp} {α : Type} {P : α → Prop} {κ κ2 : Kd} {g : α → Kd} {κs : List Kd} {vs : List V} (h : AllK S (κ :: κ2 :: xk P g :: κs) vs) : ∃ a, P a ∧ AllK S (κ :: κ2 :: g a :: κs) vs := by
  match vs, h with
  | v :: u :: x :: vs, ⟨h0, h1, ⟨a, ha, hp⟩, t⟩ => exact ⟨a, ha, h0, h1, hp, t⟩
/-- the two lines with an unknown name -/
theorem zr_bad {ns : List (List Nat)} {J : List Nat} {y : List Nat} (h : Jk ns.length J) (hy : y ∉ ns) (a : Nat) {rest : List PyData} (hf : ∀ d ∈ rest, flatD d = true) (hl : rest.length ≤ 100) : Zr ns (J.take a) y rest :=
  ⟨⟨by rw [List.length_take]; have := h.1; omega, fun j hj => h.2 j (List.mem_of_mem_take hj)⟩, hy, hf, hl⟩
theorem row_flat (ns : List (List Nat)) (J : List Nat) : ∀ d ∈ rowD ns J, flatD d = true := fun d hd => by
  unfold rowD at hd
  obtain ⟨j, _, rfl⟩ := List.mem_map.mp hd
  rfl
theorem bad_eq (ns : List (List Nat)) {J : List Nat} {a : Nat} (ha : a ≤ J.length) (h49 : a ≤ 58) (y z : List Nat) : ((rowD ns (J.take a) ++ [PyData.str (ofL y)]) ++ rowD ns (J.drop a)).take 59 ++ [.str (ofL z)] = zRow ns (J.take a) y ((rowD ns (J.drop a)).take (58 - a) ++ [.str (ofL z)]) := by
  have e : (rowD ns (J.take a)).length = a := by rw [row_len, List.length_take]; omega
  unfold zRow
  rw [List.append_assoc, List.take_append, e, List.take_of_length_le (by rw [e]; omega)]
  rw [show 59 - a = (58 - a) + 1 by omega]
  show _ ++ (PyData.str (ofL y) :: (rowD ns (J.drop a)).take (58 - a)) ++ _ = _
  rw [List.append_assoc]
  rfl
end K71
end
section
namespace KD
open PySem PySem.Spec PyProof.Rows L2
section
variable {X : Cx} {e a b c : Expr} {ρ ρ1 ρ' : List Sl} {κ : Kd} {pos p apos : Pos} {ds es : List PyData} {d d' : PyData} {tg : Expr} {vs : List Nat} {α β : Type} {x : Str}
/-- the reading of a comprehension of ones of many -/
theorem lcX_reads {scope : Scope} {elt : Expr} {own : List (Str × Nat)} {P : α → Prop} {ks : α → List PyData} {Pe : α → Nat → β → Prop} {g : β → PyData} {S0 H0 S H : Hp} {σ : L2.St} {Q : VK} (E : En X.K S0 H0 S H σ ρ) (g1 : α → Nat → List Sl)
    (hz : ∀ a, P a → (ks a).length ≤ 1000)
    (hg : ∀ a, P a → ∀ i d, (ks a)[i]? = some d → ∀ s H C cl fp, BG (Blk X scope s H C cl fp) tg (own.map (·.2)) (dt X.K d) (wipeS ρ (own.map (·.2))) (g1 a i))
    (he : ∀ a, P a → ∀ i d, (ks a)[i]? = some d → ∀ s H C cl fp, EK (Blk X scope s H C cl fp) elt (g1 a i) (xk (Pe a i) fun b => dt X.K (g b)))
    (q : ∀ v S' H', Grow S H S' H' → (xk (fun bs : List β => ∃ a, P a ∧ bs.length = (ks a).length ∧ Gives (Pe a) bs) fun bs => kL X.K (bs.map g)).p S' v → Q v H') :
    tLc (rdIX X.K ρ P ks) (wG X scope tg) (wT X scope []) (wE X scope elt) (own.map (·.2)) σ H Q := by
  refine ⟨S0, H0, S, E, fun a ha S1 H1 J gr0 J1 => fun D hD => ?_⟩
  have E1 := E.grow gr0
  have D0 : S1 D = none := same_none E1.same hD
  refine ⟨fun i n H' => i + n = (ks a).length ∧ ∃ S' acc bs, Grow S1 H1 S' H' ∧ S' D = none ∧ H' D = some (.lst acc) ∧ bs.length = i ∧ Gives (Pe a) bs ∧ DqAll X.K S' acc (bs.map g), ⟨(ks a).length, by omega, S1, [], [], Grow.drop E1.same _ hD, D0, upd_same, rfl, (fun i b h => by simp at h), .nil⟩, ?_⟩
  rintro i n H' ⟨hn, S', acc, bs, gr, dS, dH, hbl, hb, dd⟩
  have E2 := E1.grow gr
  by_cases hlt : i < (ks a).length
  · refine .inr ⟨J1.1 i S' H' gr.s E2.same hlt, fun H2 => ∃ S2 acc2 bs2, Grow S1 H1 S2 H2 ∧ S2 D = none ∧ H2 D = some (.lst acc2) ∧ bs2.length = i + 1 ∧ Gives (Pe a) bs2 ∧ DqAll X.K S2 acc2 (bs2.map g), fun H2 ⟨S2, acc2, bs2, h⟩ => ⟨n - 1, by omega, by omega, S2, acc2, bs2, h⟩, fun v H2 y => ?_⟩
    obtain ⟨S2, d, g2, hd2, hv⟩ := J1.2.2 i S' H' v H2 gr.s E2.same hlt y
    have E3 := (E2.grow g2)
    refine ⟨rdB X.K (own.map Prod.snd) (dt X.K d) (wipeS ρ (own.map Prod.snd)) (g1 a i), hg a ha i d hd2, S0, H0, S2, en_wipe E3 _, hv, fun σ2 hw E4 => ⟨hw.trans (wipe_wipe _ _), rdT X.K (g1 a i) true, fun s H C cl fp => fk_nil, S0, H0, S2, E4, fun S3 H3 g3 => ?_⟩⟩
    have E5 := E4.grow g3
    have dS3 : S3 D = none := (g2.trans g3).nw D dS (by rw [dH]; exact fun z => nomatch z)
    have dH3 : H3 D = some (.lst acc) := (g2.trans g3).h _ _ dH
    have gr3 := gr.trans (g2.trans g3)
    refine (if_pos rfl).mpr ⟨rdE X.K (g1 a i) (xk (Pe a i) fun b => dt X.K (g b)), he a ha i d hd2, S0, H0, S3, E5, fun u S4 H4 g4 ⟨z, hz2, hu⟩ => ?_⟩
    have dS4 : S4 D = none := g4.nw D dS3 (by rw [dH3]; exact fun z => nomatch z)
    have dH4 : H4 D = some (.lst acc) := g4.h _ _ dH3
    have gr4 := gr3.trans g4
    have hd4 : DqAll X.K S4 (acc ++ [u]) ((bs ++ [z]).map g) := by
      rw [List.map_append]
      exact dpAll_app (dpAll_mono ((g2.trans g3).trans g4).s dd) (.cons hu .nil)
    have hz3 := hz a ha
    refine ⟨acc, dH4, ?_, S4, _, bs ++ [z], ⟨gr4.s, fun x o e => ?_, fun x o e => ?_, gr4.nw⟩, dS4, upd_same, by rw [List.length_append, hbl]; rfl, hb.snoc (by rw [hbl]; exact hz2), hd4⟩
    · rw [dpAll_len dd, List.length_map, hbl]
      exact Nat.lt_of_le_of_lt (Nat.le_trans (Nat.le_of_lt hlt) hz3) (by decide)
    · rw [upd_ne (ne_of_none e hD)]; exact gr4.h x o e
    · rw [upd_ne (ne_of_none e dS4)]; exact gr4.sh x o e
  · have hil : i = (ks a).length := by omega
    subst hil
    refine .inl ⟨J1.2.1 S' H' gr.s E2.same, ?_⟩
    have g5 : Grow S1 H1 (upd S' D (.lst acc)) H' := ⟨gr.s.trans (Same.new dS), gr.h, fun x o e => by
      by_cases hx : x = D
      · subst hx; rw [upd_same] at e; cases e; exact dH
      · rw [upd_ne hx] at e; exact gr.sh x o e, fun x h1 h2 => by
      rw [upd_ne (fun z => h2 (by rw [z]; exact hD))]; exact gr.nw x h1 h2⟩
    exact q _ _ _ (gr0.trans g5) ⟨bs, ⟨a, ha, hbl, hb⟩, .lst (.inl upd_same) (dpAll_mono (Same.new dS) dd)⟩
/-- y = [..] -/
theorem sk_setLcX {scope : Scope} {elt iter : Expr} {own : List (Str × Nat)} {P : α → Prop} {ks : α → List PyData} {Pe : α → Nat → β → Prop} {g : β → PyData} {y : Str} {py spos : Pos} (n : Nat) (hc : X.calm = true) (hN : X.N.Nodup) (hi : IKX X tg iter ρ P ks) (ok : BlkOk X.N X.env.scope scope own) (g1 : α → Nat → List Sl)
    (hz : ∀ a, P a → (ks a).length ≤ 1000)
    (hg : ∀ a, P a → ∀ i d, (ks a)[i]? = some d → ∀ s H C cl fp, BG (Blk X scope s H C cl fp) tg (own.map (·.2)) (dt X.K d) (wipeS ρ (own.map (·.2))) (g1 a i))
    (he : ∀ a, P a → ∀ i d, (ks a)[i]? = some d → ∀ s H C cl fp, EK (Blk X scope s H C cl fp) elt (g1 a i) (xk (Pe a i) fun b => dt X.K (g b)))
    (hsw : swapsWith (.ListComp elt [⟨tg, iter, [], 0⟩] scope pos) (some (.Name y py)) spos.line X.env = pure true)
    (hy : X.N[n]? = some y := by rfl) (hyl : X.env.scope.names.lookup y = some .local := by rfl)
    (hs : ∀ x, foldedSetIterable iter X.env x = pure x := by intro _; rfl) : SK X (.Assign [.Name y py] (.ListComp elt [⟨tg, iter, [], 0⟩] scope pos) spos) ρ (.nx (ρ.set n (.k (xk (fun bs : List β => ∃ a, P a ∧ bs.length = (ks a).length ∧ Gives (Pe a) bs) fun bs => kL X.K (bs.map g))))) :=
  SK.of (ps_setLc (g := wG X scope tg) (tt := wT X scope []) (te := wE X scope elt) hc hN hy hyl hsw hi ok (fun s H C cl fp => ⟨fun pins s2 σ H v u Q I rv ⟨t, h, q⟩ => (h s _ C cl fp).run pins s2 σ H v u Q I rv q⟩) (fun s H C cl fp => ⟨fun pins s2 σ H Q I ⟨t, h, q⟩ => (h s _ C cl fp).run pins s2 σ H Q I q⟩) (fun s H C cl fp => ⟨fun pins s2 σ H Q I ⟨t, h, q⟩ => (h s _ C cl fp).run pins s2 σ H Q I q⟩) hs)
    fun S0 H0 S H σ D E q => lcX_reads E g1 hz hg he fun v S' H' g hv => q S' H' _ g.s ((E.grow g).set n hv)
end
end KD
end
section
namespace K71
open PySem PySem.Spec PyProof.Rows L2 KD
section
variable {P : Program} {w : World} {K : PySem.W.Frag} {mg : Str → Option Value} {base : Heap} {f : Addr} {fd : FuncData} {Ci Cs Cu : Addr}
def R_law (K : PySem.W.Frag) (κs : List Kd) (κ : Kd) : Prop := ∃ ns : List Int, ns.length ≤ 63 ∧ κs = [kScr K ns] ∧ κ = kB K true
abbrev nmLw : List Str := ["_law_script", "_law_world", "_law_wide", "_law_names", "_law_kinds", "_law_page", "_law_line", "_law_text", "_law_held", "_law_loose", "_law_spot", "_law_two", "_law_pages", "_law_at", "_law_bad", "_law_digit", "_law_k"]
theorem sc_law : FnScope nmLw ["_law_script"] (defScope (top 84)) := ⟨rfl, rfl, rfl, by decide +kernel, rfl, by decide +kernel, by decide +kernel⟩
def scPg : Scope := { kind := .function, names := [(".0", .local), ("_law_k", .local), ("_law_digits", .globalImplicit), ("_law_cell", .globalImplicit), ("_law_script", .cell), ("_law_wide", .cell)], isGenerator := false, isCoroutine := false }
theorem dig_str {d : Nat} (h : d < 8) : ((toString (d : Int) : Str)) = ofL [dc d] := str_dc h
theorem page_of {n : Nat} {bs : List Str} (h : ∃ ds, Dg (List.replicate n 8) ds ∧ bs.length = (numD ds).length ∧ Gives (fun (i : Nat) (b : Str) => ∃ d, ds[i]? = some d ∧ b = ofL [dc d]) bs) : ∃ p : List Nat, (p.length = n ∧ d8 p) ∧ kS K (Txt.join (ofL []) bs) = kS K (digT p) := by
  obtain ⟨ds, hd, hl, hg⟩ := h
  obtain ⟨a, b⟩ := hd.rep
  exact ⟨ds, ⟨a, b⟩, congrArg (kS K) (join_one (F := dc) (hl.trans (num_len ds)) hg)⟩
def looC (d : Nat) : Nat := [46, 97, 45].getD d 0
theorem loo_at : ∀ d : Nat, d < 3 → (".a-" : Str).cps.toList[d]? = some (looC d) := by decide +kernel
theorem loose_of {m : Nat} (hm : m ≤ 30) {bs : List Str} (h : ∃ ds, Dg (List.replicate m 3) ds ∧ bs.length = (numD ds).length ∧ Gives (fun (i : Nat) (b : Str) => ∃ d, ds[i]? = some d ∧ b = ofL [looC d]) bs) : ∃ l : List Nat, l.length ≤ 30 ∧ kS K (Txt.join (ofL []) bs) = kS K (ofL l) := by
  obtain ⟨ds, hd, hl, hg⟩ := h
  obtain ⟨a, b⟩ := hd.rep
  exact ⟨ds.map looC, by rw [List.length_map]; omega, congrArg (kS K) (join_one (F := looC) (hl.trans (num_len ds)) hg)⟩
theorem sz_one {bs : List Str} {ds : List Nat} (h1 : bs.length ≤ 1000) (h2 : ∀ b ∈ bs, b.length ≤ 1) : (bs.map (·.length)).sum + bs.length * (ofL []).length ≤ 16777216 := join_sz (m := 1) (n := 1000) h2 h1 (by decide)
theorem gives_one {F : Nat → Nat} {ds : List Nat} {bs : List Str} (hg : Gives (fun (i : Nat) (b : Str) => ∃ d, ds[i]? = some d ∧ b = ofL [F d]) bs) : ∀ b ∈ bs, b.length ≤ 1 := fun b hb => by
  obtain ⟨i, hi⟩ := List.mem_iff_getElem?.mp hb
  obtain ⟨d, _, rfl⟩ := hg i b hi
  exact Nat.le_refl 1
theorem pages_of {n : Nat} {bs : List (List Nat)} (h : ∃ a : Unit, True ∧ bs.length = (rangeD 0 1 ((2 : Nat) : Int).toNat).length ∧ Gives (fun (_ : Nat) (p : List Nat) => p.length = n ∧ d8 p) bs) : ∃ ps : List (List Nat), (ps.length = 2 ∧ ∀ p ∈ ps, p.length = n ∧ d8 p) ∧ kL K (bs.map fun p => PyData.str (digT p)) = kL K (pagesD ps) := by
  obtain ⟨_, _, hl, hg⟩ := h
  exact ⟨bs, ⟨hl, fun p hp => by obtain ⟨i, hi⟩ := List.mem_iff_getElem?.mp hp; exact hg i p hi⟩, rfl⟩
theorem rep_text (n d : Nat) (x : Str) (h : x = ofL [dc d]) : strRep x n = digT (List.replicate n d) := by
  subst h
  unfold digT
  rw [List.map_replicate]
  show ofL (List.replicate n [dc d]).flatten = _
  congr 1
  induction n with
  | zero => rfl
  | succ n ih => rw [List.replicate_succ, List.flatten_cons, ih]; rfl
theorem ok_law (F : FnG K "law" (top 84) f fd) (T : Tx K mg) (Z : Cc K mg Ci Cs) (D_inks : Df P w K mg base 2 "_law_inks" ["_law_script", "_law_at"] (R_inks K)) (D_digits : Df P w K mg base 1 "_law_digits" ["_law_cell_here", "_law_sizes"] (R_digits K)) (D_cell : Df P w K mg base 1 "_law_cell" ["_law_script", "_law_k"] (R_cell K))
    (D_ink_row : Df P w K mg base 1 "_law_ink_row" ["_law_names", "_law_digits_here"] (R_ink_row K)) (D_ink_dashed : Df P w K mg base 1 "_law_ink_dashed" ["_law_page", "_law_digits_here", "_law_much"] (R_ink_dashed K)) (D_mkI : DfI P w K mg base 6 Ci "InkStock" ["self", "size", "stamps"] (R_mkI Ci K))
    (D_given : Df P w K mg base 1 "_law_given" ["_law_mould", "_law_kind_here"] (R_given K)) (D_plain_right : DfG P w K mg base 8 "_law_plain_right" psPR (R_plain_right Ci K)) (D_read_right : Df P w K mg base 4 "_law_read_right" ["_law_text"] (R_read_right K)) (D_law_plain : Df P w K mg base 1 "_law_plain" ["_law_text"] (R_law_plain K))
    (D_spoilt : Df P w K mg base 1 "_law_spoilt" ["_law_text", "_law_digits_here"] (R_spoilt K)) (D_other : Df P w K mg base 2 "_law_other" ["_law_names", "_law_line", "_law_digits_here"] (R_other K)) (D_nets_right : Df P w K mg base 8 "_law_nets_right" psNr (R_nets_right Ci K)) (D_unknown : Df P w K mg base 8 "_law_unknown" ["_law_held", "_law_line", "_law_name"] (R_unknown Ci K)) :
    FnGd P w K mg base 9 f fd ["_law_script"] (spF (R_law K)) := by
  refine def_okG F sc_law (fun κs κ ⟨_, _, e, _⟩ => by rw [e]; rfl) fun cdv A outer s H E κs κ hr hgd h => ?_
  obtain ⟨ns, hns, rfl, rfl⟩ := h
  have nd := sc_law.nd
  refine ss_cons (sk_set 1 nd (ek_call D_inks (hr.mono (by decide)) (ak_cons (ek_var 0) (ak_cons ek_int ak_nil)) ⟨ns, hns, rfl, rfl⟩)) ?_
  refine ss_open 1 rfl fun q hq => ?_
  obtain ⟨n, st⟩ := q
  have hw : Wd n st := hq.wd
  have hnn := hq.nn
  have w1 := hw.w1
  have w10 := hw.w10
  have n10 := hw.n10
  have lnm : (namesD (nms st)).length = st.length := by rw [namesD_len]; unfold nms; rw [List.length_map]
  have lnn : (nms st).length = st.length := by unfold nms; rw [List.length_map]
  refine ss_cons (sk_set 2 nd (ek_ixL (d := .int n) (ek_var 1) ek_int (at_nat (n := 0) rfl))) ?_
  refine ss_cons (sk_set 3 nd (ek_ixL (d := .list (namesD (nms st))) (ek_var 1) ek_int (at_nat (n := 1) (congrArg (fun z => some (PyData.list z)) (wld_names st))))) ?_
  refine ss_cons (sk_set 4 nd (ek_callX (κ := xk (Dg kndS) (kNum K)) D_digits (hr.mono (by decide)) (ak_cons (ek_call D_cell (hr.mono (by decide)) (ak_cons (ek_var 0) (ak_cons ek_int ak_nil)) ⟨ns, 11, hns, by decide, rfl, rfl⟩) (ak_cons (ek_lst (ds := numD kndS) (ak_cons ek_int (ak_cons ek_int (ak_cons ek_int (ak_cons ek_int (ak_cons ek_int (ak_cons ek_int (ak_cons ek_int (ak_cons ek_int (ak_cons ek_int (ak_cons ek_int (ak_cons ek_int ak_nil)))))))))))) ak_nil)) (fun S vs hv => by
    obtain ⟨c, _, hv⟩ := all_open hv
    exact ⟨_, ⟨c, kndS, by decide, by decide, rfl, rfl⟩, hv⟩))) ?_
  refine ss_open 4 rfl fun ks hK => ?_
  obtain ⟨k0, e0, b0⟩ := hK.at_ (i := 0) rfl
  obtain ⟨k2, e2, b2⟩ := hK.at_ (i := 2) rfl
  obtain ⟨k3, e3, b3⟩ := hK.at_ (i := 3) rfl
  obtain ⟨k7, e7, b7⟩ := hK.at_ (i := 7) rfl
  obtain ⟨k8, e8, b8⟩ := hK.at_ (i := 8) rfl
  obtain ⟨k9, e9, b9⟩ := hK.at_ (i := 9) rfl
  obtain ⟨kA, eA, bA⟩ := hK.at_ (i := 10) rfl
  have hS : Dg spoS (ks.drop 4) := by
    refine ⟨by rw [List.length_drop, hK.1]; rfl, fun i d m h1 h2 => ?_⟩
    rw [List.getElem?_drop] at h1
    refine hK.2 (4 + i) d m h1 ?_
    show (kndS)[4 + i]? = some m
    rw [Nat.add_comm]
    exact h2
  refine ss_cons (sk_set 5 nd (xk_imp (Q := fun p : List Nat => p.length = n ∧ d8 p) (h := fun p => kS K (digT p)) (fun bs h => page_of h) (ek_joinX (ss := fun bs => bs) ek_str (ek_lcX (P := Dg (List.replicate n 8)) (ks := numD) (Pe := fun ds (i : Nat) (b : Str) => ∃ d, ds[i]? = some d ∧ b = ofL [dc d]) (g := PyData.str) rfl nd (ikx_list (ek_callX (κ := xk (Dg (List.replicate n 8)) (kNum K)) D_digits (hr.mono (by decide)) (ak_cons (ek_call D_cell (hr.mono (by decide)) (ak_cons (ek_var 0) (ak_cons ek_int ak_nil)) ⟨ns, 12, hns, by decide, rfl, rfl⟩) (ak_cons (EK.to (d' := .list (numD (List.replicate n 8))) (ek_repL (ds := [.int 8]) (ak_cons ek_int ak_nil) (ek_var 2) ⟨by decide, by omega, by omega, by show 1 * _ ≤ 1000; omega⟩) (by first | (rw [Int.toNat_natCast]; exact congrArg PyData.list (num_rep n 8)))) ak_nil)) (fun S vs hv => by
    obtain ⟨c, _, hv⟩ := all_open hv
    exact ⟨_, ⟨c, (List.replicate n 8), by rw [List.length_replicate]; omega, fun m hm => by rw [(List.mem_replicate.mp hm).2]; decide, rfl, rfl⟩, hv⟩))) (blkOk_by (N := nmLw) (sc := defScope (top 84)) (own := [("_law_digit", 15)]) (by decide +kernel)) (fun ds i => [.k (kScr K ns), .k (wldD K (n, st)), .k (kI K n), .k (kL K (namesD (nms st))), .k (kNum K ks), .un, .un, .un, .un, .un, .un, .un, .un, .un, .un, .k (kI K (ds.getD i 0 : Nat)), .un]) (fun ds hd => by rw [num_len, hd.rep.1]; omega) (fun ds hd i x hx s H C cl fp => ?bg1) (fun ds hd i x hx s H C cl fp => ?el1)) (fun bs h => ?sz1)))) ?_
  case bg1 =>
    obtain ⟨d, hd2, rfl⟩ := num_get hx
    rw [getD_of hd2]
    exact bg_name 15 (by decide) nd
  case el1 =>
    obtain ⟨d, hd2, rfl⟩ := num_get hx
    rw [getD_of hd2]
    have hd8 := hd.rep.2 d (List.mem_of_getElem? hd2)
    exact ek_x (z := ofL [dc d]) (EK.to (ek_str1 T.str (ek_var 15) (log_lt (by omega))) (by rw [str_dc hd8])) ⟨d, hd2, rfl⟩
  case sz1 =>
    obtain ⟨ds, hd, hl, hg⟩ := h
    exact sz_one (ds := ds) (by rw [hl, num_len, hd.rep.1]; omega) (gives_one hg)
  refine ss_open 5 rfl fun p hp => ?_
  obtain ⟨pl, p8⟩ := hp
  refine ss_cons (sk_set 6 nd (ek_callX (κ := xk (Jk (nms st).length) fun J => kL K (rowD (nms st) J)) D_ink_row (hr.mono (by decide)) (ak_cons (ek_var 3) (ak_cons (ek_callX (κ := xk (Dg rowS) (kNum K)) D_digits (hr.mono (by decide)) (ak_cons (ek_call D_cell (hr.mono (by decide)) (ak_cons (ek_var 0) (ak_cons ek_int ak_nil)) ⟨ns, 13, hns, by decide, rfl, rfl⟩) (ak_cons (EK.to (d' := .list (numD ([12] ++ List.replicate 9 60))) (ek_catL (ds := numD [12]) (es := numD (List.replicate 9 60)) (ek_lst (ds := numD [12]) (ak_cons ek_int ak_nil)) (EK.to (d' := .list (numD (List.replicate 9 60))) (ek_repL (ds := [.int 60]) (ak_cons ek_int ak_nil) ek_int ⟨by decide, by decide, by decide, by decide⟩) rfl) (by decide)) (congrArg PyData.list (by unfold numD; rw [← List.map_append]))) ak_nil)) (fun S vs hv => by
    obtain ⟨c, _, hv⟩ := all_open hv
    exact ⟨_, ⟨c, rowS, by decide, by decide, rfl, rfl⟩, hv⟩)) ak_nil)) (fun S vs hv => by
    obtain ⟨ds, hds, hv⟩ := all_open2 hv
    exact ⟨_, ⟨nms st, ds, by omega, hds, rfl, rfl⟩, hv⟩))) ?_
  refine ss_open 6 rfl fun J hJ => ?_
  have J60 := hJ.1
  refine ss_cons (sk_set 7 nd (ek_var 5)) ?_
  suffices rest : ∀ r : List (Option Nat), r.length = n → r8 r → SsK (Bx P w K mg base nmLw "law" (defScope (top 84)) f cdv A outer s H E) ((defBody (top 84)).drop 8) [.k (kScr K ns), .k (wldD K (n, st)), .k (kI K n), .k (kL K (namesD (nms st))), .k (kNum K ks), .k (kS K (digT p)), .k (kL K (rowD (nms st) J)), .k (kS K (rdT r)), .un, .un, .un, .un, .un, .un, .un, .un, .un] (.rt (kB K true)) by
    by_cases c2 : 0 < k2
    · refine ss_cons (sk_T (tk_gt (ek_ixL (ek_var 4) ek_int (at_nat (n := 2) (num_at e2))) ek_int) (decide_eq_true (by omega)) (ss_one (sk_set 7 nd (ek_callX (κ := xk (fun r : List (Option Nat) => r.length = p.length ∧ r8 r) fun r => kS K (rdT r)) D_ink_dashed (hr.mono (by decide)) (ak_cons (ek_var 5) (ak_cons (ek_callX (κ := xk (Dg (List.replicate n 6)) (kNum K)) D_digits (hr.mono (by decide)) (ak_cons (ek_call D_cell (hr.mono (by decide)) (ak_cons (ek_var 0) (ak_cons ek_int ak_nil)) ⟨ns, 14, hns, by decide, rfl, rfl⟩) (ak_cons (EK.to (d' := .list (numD (List.replicate n 6))) (ek_repL (ds := [.int 6]) (ak_cons ek_int ak_nil) (ek_var 2) ⟨by decide, by omega, by omega, by show 1 * _ ≤ 1000; omega⟩) (by first | (rw [Int.toNat_natCast]; exact congrArg PyData.list (num_rep n 6)))) ak_nil)) (fun S vs hv => by
    obtain ⟨c, _, hv⟩ := all_open hv
    exact ⟨_, ⟨c, (List.replicate n 6), by rw [List.length_replicate]; omega, fun m hm => by rw [(List.mem_replicate.mp hm).2]; decide, rfl, rfl⟩, hv⟩)) (ak_cons (ek_eqI (ek_ixL (ek_var 4) ek_int (at_nat (n := 3) (num_at e3))) ek_int) ak_nil))) (fun S vs hv => by
        obtain ⟨ds, hds, hv⟩ := all_open2 hv
        exact ⟨_, ⟨p, ds, _, by omega, p8, by rw [hds.rep.1, pl], rfl, rfl⟩, hv⟩))))) ?_
      refine ss_open 7 rfl fun r hr2 => ?_
      exact rest r (hr2.1.trans pl) hr2.2
    · refine ss_F (tk_gt (ek_ixL (ek_var 4) ek_int (at_nat (n := 2) (num_at e2))) ek_int) (decide_eq_false (by omega)) ?_
      have z := rest (p.map some) (by rw [List.length_map]; exact pl) (fun d hd => by obtain ⟨x, hx, e⟩ := List.mem_map.mp hd; cases e; exact p8 _ hx)
      rw [rdT_some] at z
      exact z
  intro r rl hr8
  refine ss_cons (sk_set 8 nd (ek_make (κ := kInk K Ci n st) D_mkI (hr.mono (by decide)) (ak_cons (ek_var 2) (ak_cons (ek_lc (heldD st k0) rfl nd (ik_range T.range (ek_len (n := st.length) T.len (ek_var 3) (by exact congrArg some lnm) (by omega)) ⟨by omega, by omega⟩) (blkOk_by (N := nmLw) (sc := defScope (top 84)) (own := [("_law_k", 16)]) (by decide +kernel)) (fun i => [.k (kScr K ns), .k (wldD K (n, st)), .k (kI K n), .k (kL K (namesD (nms st))), .k (kNum K ks), .k (kS K (digT p)), .k (kL K (rowD (nms st) J)), .k (kS K (rdT r)), .un, .un, .un, .un, .un, .un, .un, .un, .k (kI K (i : Nat))]) ?hlh ?hzh (fun i d hd s H C cl fp => ?bgh) (fun i d e hd he s H C cl fp => ?elh)) ak_nil)) ⟨n, st, .list (heldD st k0), hw, frz_held hw k0, rfl, rfl⟩)) ?_
  case hlh => rw [rlen, held_len]
  case hzh => rw [rlen]; omega
  case bgh => obtain ⟨_, rfl⟩ := range_get hd; exact bg_name 16 (by decide) nd
  case elh =>
    obtain ⟨hi, rfl⟩ := range_get hd
    obtain ⟨q, hq2⟩ := get_lt hi
    rw [held_at hq2] at he
    cases he
    have hql := hw.ln q (List.mem_of_getElem? hq2)
    exact ek_lst (ds := [.str (ofL q.1), givD ((k0 + i) % 4) q.2]) (ak_cons (ek_ixL (ek_var 3) (ek_var 16) (at_nat (by unfold namesD; exact map_at (names_at hq2)))) (ak_cons (ek_call D_given (hr.mono (by decide)) (ak_cons (ek_ixL (ds := mouldD st) (d := .list (itsD q.2)) (ek_ixL (d := .list (mouldD st)) (ek_var 1) ek_int (at_nat (n := 2) rfl)) (ek_var 16) (at_nat (by unfold mouldD; exact map_at hq2))) (ak_cons (EK.to (d' := .int ((k0 + i) % 4 : Nat)) (ek_mod (ek_toI T.int (ek_add (ek_ixL (d := .int k0) (ek_var 4) ek_int (at_nat (n := 0) (num_at e0))) (ek_var 16))) ek_int (by decide)) (by congr 1)) ak_nil)) ⟨q.2, (k0 + i) % 4, by omega, rfl, rfl⟩) ak_nil))
  have hJs : Jk st.length J := by rw [← lnn]; exact hJ
  refine ss_F (tk_not (tk_val (ek_callG D_plain_right hr hgd (ak_cons (ek_var 8) (ak_cons (ek_var 1) (ak_cons (ek_var 5) (ak_cons (ek_var 7) (ak_cons (ek_var 6) (ak_cons (ek_var 4) ak_nil)))))) ⟨n, st, p, r, J, ks, hw, pl, p8, rl, hr8, hJs, hK, rfl, rfl⟩))) rfl ?_
  have hLr : (r.flatMap pl3).length = 3 * n := by rw [flat_len3 pl3_len, rl]
  have LP : R_law_plain K [kS K (rdT r)] (kS K (layT (r.flatMap pl3))) := ⟨r, hr8, by omega, rfl, rfl⟩
  have hml : ((r.flatMap pl3).map sc).length = 3 * n := by rw [List.length_map, hLr]
  refine ss_F (tk_w (wk_or (tk_not (tk_val (ek_call D_read_right (hr.mono (by decide)) (ak_cons (ek_call D_law_plain (hr.mono (by decide)) (ak_cons (ek_var 7) ak_nil) LP) ak_nil) ⟨(r.flatMap pl3).map sc, by omega, rfl, rfl⟩))) (fun h => (wk_or1 (tk_not (tk_val (ek_callX (κ := kB K true) D_read_right (hr.mono (by decide)) (ak_cons (ek_call (κ := xk (fun l : List Nat => l.length ≤ 90) fun l => kS K (ofL l)) D_spoilt (hr.mono (by decide)) (ak_cons (ek_call D_law_plain (hr.mono (by decide)) (ak_cons (ek_var 7) ak_nil) LP) (ak_cons (EK.to (ek_slL (ek_var 4) (ok_some ek_int) ok_none) (d' := .list (numD (ks.drop 4))) (by rw [cutD_drop (by decide)]; unfold numD; rw [← List.map_drop]; rfl)) ak_nil)) ⟨(r.flatMap pl3).map sc, ks.drop 4, by omega, by omega, hS, rfl, rfl⟩) ak_nil) (fun S vs hv => by
    obtain ⟨l, hl, hv⟩ := all_open hv
    exact ⟨_, ⟨l, hl, rfl, rfl⟩, hv⟩)))))))) rfl ?_
  refine ss_cons (sk_set 9 nd (xk_imp (Q := fun l : List Nat => l.length ≤ 30) (h := fun l => kS K (ofL l)) (fun bs h => loose_of (m := k7 + 1) (by omega) h) (ek_joinX (ss := fun bs => bs) ek_str (ek_lcX (P := Dg (List.replicate (k7 + 1) 3)) (ks := numD) (Pe := fun ds (i : Nat) (b : Str) => ∃ d, ds[i]? = some d ∧ b = ofL [looC d]) (g := PyData.str) rfl nd (ikx_list (ek_callX (κ := xk (Dg (List.replicate (k7 + 1) 3)) (kNum K)) D_digits (hr.mono (by decide)) (ak_cons (ek_call D_cell (hr.mono (by decide)) (ak_cons (ek_var 0) (ak_cons ek_int ak_nil)) ⟨ns, 15, hns, by decide, rfl, rfl⟩) (ak_cons (EK.to (d' := .list (numD (List.replicate (k7 + 1) 3))) (ek_repL (ds := [.int 3]) (ak_cons ek_int ak_nil) (ek_add (ek_ixL (d := .int k7) (ek_var 4) ek_int (at_nat (n := 7) (num_at e7))) ek_int) ⟨by decide, by omega, by omega, by show 1 * _ ≤ 1000; omega⟩) (by rw [show ((k7 : Int) + 1).toNat = k7 + 1 by omega]; exact congrArg PyData.list (num_rep (k7 + 1) 3))) ak_nil)) (fun S vs hv => by
    obtain ⟨c, _, hv⟩ := all_open hv
    exact ⟨_, ⟨c, (List.replicate (k7 + 1) 3), by rw [List.length_replicate]; omega, fun m hm => by rw [(List.mem_replicate.mp hm).2]; decide, rfl, rfl⟩, hv⟩))) (blkOk_by (N := nmLw) (sc := defScope (top 84)) (own := [("_law_digit", 15)]) (by decide +kernel)) (fun ds i => [.k (kScr K ns), .k (wldD K (n, st)), .k (kI K n), .k (kL K (namesD (nms st))), .k (kNum K ks), .k (kS K (digT p)), .k (kL K (rowD (nms st) J)), .k (kS K (rdT r)), .k (kInk K Ci n st), .un, .un, .un, .un, .un, .un, .k (kI K (ds.getD i 0 : Nat)), .un]) (fun ds hd => by rw [num_len, hd.rep.1]; omega) (fun ds hd i x hx s H C cl fp => ?bg2) (fun ds hd i x hx s H C cl fp => ?el2)) (fun bs h => ?sz2)))) ?_
  case bg2 =>
    obtain ⟨d, hd2, rfl⟩ := num_get hx
    rw [getD_of hd2]
    exact bg_name 15 (by decide) nd
  case el2 =>
    obtain ⟨d, hd2, rfl⟩ := num_get hx
    rw [getD_of hd2]
    have hd3 := hd.rep.2 d (List.mem_of_getElem? hd2)
    exact ek_x (z := ofL [looC d]) (ek_ixS (c := looC d) ek_str (ek_var 15) (at_nat (loo_at d hd3)) (by decide)) ⟨d, hd2, rfl⟩
  case sz2 =>
    obtain ⟨ds, hd, hl, hg⟩ := h
    exact sz_one (ds := ds) (by rw [hl, num_len, hd.rep.1]; omega) (gives_one hg)
  refine ss_open 9 rfl fun l hl => ?_
  suffices rest : ∀ l : List Nat, l.length ≤ 30 → SsK (Bx P w K mg base nmLw "law" (defScope (top 84)) f cdv A outer s H E) ((defBody (top 84)).drop 13) [.k (kScr K ns), .k (wldD K (n, st)), .k (kI K n), .k (kL K (namesD (nms st))), .k (kNum K ks), .k (kS K (digT p)), .k (kL K (rowD (nms st) J)), .k (kS K (rdT r)), .k (kInk K Ci n st), .k (kS K (ofL l)), .un, .un, .un, .un, .un, .un, .un] (.rt (kB K true)) by
    by_cases c8 : k8 = 0
    · have hsp : 3 * (k9 % (l.length / 3 + 1)) ≤ 30 := by have := Nat.mod_lt k9 (show 0 < l.length / 3 + 1 by omega); omega
      refine ss_cons (ρ1 := [.k (kScr K ns), .k (wldD K (n, st)), .k (kI K n), .k (kL K (namesD (nms st))), .k (kNum K ks), .k (kS K (digT p)), .k (kL K (rowD (nms st) J)), .k (kS K (rdT r)), .k (kInk K Ci n st), .k (kS K (ofL (((l.take (3 * (k9 % (l.length / 3 + 1))) ++ [45, 45, 45]) ++ l.drop (3 * (k9 % (l.length / 3 + 1)) + 3)).take 30))), .un, .un, .un, .un, .un, .un, .un]) (sk_T (tk_eqI (ek_ixL (ek_var 4) ek_int (at_nat (n := 8) (num_at e8))) ek_int) (decide_eq_true (by omega)) (ss_cons (sk_set 10 nd (EK.to (d' := .int (3 * (k9 % (l.length / 3 + 1)) : Nat)) (ek_mul ek_int (ek_mod (ek_toI T.int (ek_ixL (d := .int k9) (ek_var 4) ek_int (at_nat (n := 9) (num_at e9)))) (ek_add (ek_fdiv (ek_len (n := l.length) T.len (ek_var 9) rfl (by omega)) ek_int ⟨by decide, by decide⟩) ek_int) (by omega)) (.inl (by decide))) (by congr 1))) ?k8b)) ?_
      case k8b =>
        generalize 3 * (k9 % (l.length / 3 + 1)) = sp at hsp
        exact ss_one (sk_weakO (sk_set 9 nd (EK.to (d' := .str (ofL (((l.take sp ++ [45, 45, 45]) ++ l.drop (sp + 3)).take 30))) (ek_slS (x := ofL ((l.take sp ++ [45, 45, 45]) ++ l.drop (sp + 3))) (EK.to (ek_adds (x := ofL (l.take sp ++ [45, 45, 45])) (y := ofL (l.drop (sp + 3))) (EK.to (ek_adds (x := ofL (l.take sp)) (y := ofL [45, 45, 45]) (EK.to (ek_slS (ek_var 9) ok_none (ok_some (ek_var 10)) (by rw [ofL_len]; omega)) (by rw [cut_take (by omega), Int.toNat_natCast])) ek_str (by rw [ofL_len, List.length_take]; show _ + 3 ≤ _; omega)) (by rw [ofL_app])) (EK.to (ek_slS (ek_var 9) (ok_some (ek_add (ek_var 10) ek_int)) ok_none (by rw [ofL_len]; omega)) (by rw [cut_drop (by omega), show ((sp : Int) + 3).toNat = sp + 3 by omega])) (by rw [ofL_len, ofL_len, List.length_append, List.length_take, List.length_drop]; show _ + 3 + _ ≤ _; omega)) (by rw [ofL_app])) ok_none (ok_some ek_int) (by rw [ofL_len, List.length_append, List.length_append, List.length_take, List.length_drop]; show _ + 3 + _ ≤ _; omega)) (by rw [cut_take (by decide)]; rfl))) (.keep (.keep (.keep (.keep (.keep (.keep (.keep (.keep (.keep (.keep (.drop (.drop (.drop (.drop (.drop (.drop (.drop .nil))))))))))))))))))
      exact rest _ (by rw [List.length_take]; omega)
    · exact ss_F (tk_eqI (ek_ixL (ek_var 4) ek_int (at_nat (n := 8) (num_at e8))) ek_int) (decide_eq_false (by omega)) (rest l hl)
  intro l hl
  refine ss_F (tk_not (tk_val (ek_call D_read_right (hr.mono (by decide)) (ak_cons (ek_var 9) ak_nil) ⟨l, by omega, rfl, rfl⟩))) rfl ?_
  refine ss_cons (sk_set 11 nd (ek_callX (κ := xk (Jk (nms st).length) fun J => kL K (rowD (nms st) J)) D_other (hr.mono (by decide)) (ak_cons (ek_var 3) (ak_cons (ek_var 6) (ak_cons (ek_callX (κ := xk (Dg [6, 60, 12, 60, 60, 60, 60, 60, 60, 60, 60, 60]) (kNum K)) D_digits (hr.mono (by decide)) (ak_cons (ek_call D_cell (hr.mono (by decide)) (ak_cons (ek_var 0) (ak_cons ek_int ak_nil)) ⟨ns, 16, hns, by decide, rfl, rfl⟩) (ak_cons (EK.to (d' := .list (numD ([6, 60, 12] ++ List.replicate 9 60))) (ek_catL (ds := numD [6, 60, 12]) (es := numD (List.replicate 9 60)) (ek_lst (ds := numD [6, 60, 12]) (ak_cons ek_int (ak_cons ek_int (ak_cons ek_int ak_nil)))) (EK.to (d' := .list (numD (List.replicate 9 60))) (ek_repL (ds := [.int 60]) (ak_cons ek_int ak_nil) ek_int ⟨by decide, by decide, by decide, by decide⟩) rfl) (by decide)) (congrArg PyData.list (by unfold numD; rw [← List.map_append]))) ak_nil)) (fun S vs hv => by
    obtain ⟨c, _, hv⟩ := all_open hv
    exact ⟨_, ⟨c, [6, 60, 12, 60, 60, 60, 60, 60, 60, 60, 60, 60], by decide, by decide, rfl, rfl⟩, hv⟩)) ak_nil))) (fun S vs hv => by
    obtain ⟨ds, hds, hv⟩ := all_open3 hv
    exact ⟨_, ⟨nms st, J, ds, by omega, hJ, hds, rfl, rfl⟩, hv⟩))) ?_
  refine ss_open 11 rfl fun J2 hJ2 => ?_
  have hJ2s : Jk st.length J2 := by rw [← lnn]; exact hJ2
  have J260 := hJ2.1
  refine ss_cons (sk_setLcX 12 (P := fun _ : Unit => True) (ks := fun _ => rangeD 0 1 ((2 : Nat) : Int).toNat) (Pe := fun _ _ (p : List Nat) => p.length = n ∧ d8 p) (g := fun p => PyData.str (digT p)) rfl nd (ikx_of (ik_range T.range ek_int ⟨by decide, by decide⟩)) (blkOk_by (N := nmLw) (sc := defScope (top 84)) (own := [("_law_k", 16)]) (by decide +kernel)) (fun _ i => [.k (kScr K ns), .k (wldD K (n, st)), .k (kI K n), .k (kL K (namesD (nms st))), .k (kNum K ks), .k (kS K (digT p)), .k (kL K (rowD (nms st) J)), .k (kS K (rdT r)), .k (kInk K Ci n st), .k (kS K (ofL l)), .un, .k (kL K (rowD (nms st) J2)), .un, .un, .un, .un, .k (kI K (i : Nat))]) (fun _ _ => by decide) (fun _ _ i x hx s H C cl fp => ?bg4) (fun _ _ i x hx s H C cl fp => ?el4) (sw_true rfl rfl rfl (by decide +kernel))) ?_
  case bg4 => obtain ⟨_, rfl⟩ := range_get hx; exact bg_name 16 (by decide) nd
  case el4 =>
    obtain ⟨hi2, rfl⟩ := range_get hx
    refine (xk_imp (Q := fun p : List Nat => p.length = n ∧ d8 p) (h := fun p => kS K (digT p)) (fun bs h => page_of h) (ek_joinX (ss := fun bs => bs) ek_str (ek_lcX (P := Dg (List.replicate n 8)) (ks := numD) (Pe := fun ds (i : Nat) (b : Str) => ∃ d, ds[i]? = some d ∧ b = ofL [dc d]) (g := PyData.str) rfl nd (ikx_list (ek_callX (κ := xk (Dg (List.replicate n 8)) (kNum K)) D_digits (hr.mono (by decide)) (ak_cons (ek_call D_cell (hr.mono (by decide)) (ak_cons (ek_var 0) (ak_cons (ek_add ek_int (ek_var 16)) ak_nil)) ⟨ns, 17 + i, hns, by omega, rfl, rfl⟩) (ak_cons (EK.to (d' := .list (numD (List.replicate n 8))) (ek_repL (ds := [.int 8]) (ak_cons ek_int ak_nil) (ek_var 2) ⟨by decide, by omega, by omega, by show 1 * _ ≤ 1000; omega⟩) (by first | (rw [Int.toNat_natCast]; exact congrArg PyData.list (num_rep n 8)))) ak_nil)) (fun S vs hv => by
    obtain ⟨c, _, hv⟩ := all_open hv
    exact ⟨_, ⟨c, (List.replicate n 8), by rw [List.length_replicate]; omega, fun m hm => by rw [(List.mem_replicate.mp hm).2]; decide, rfl, rfl⟩, hv⟩))) (blkOk_by (N := nmLw) (sc := scPg) (own := [("_law_digit", 15)]) (by decide +kernel)) (fun ds j => [.k (kScr K ns), .k (wldD K (n, st)), .k (kI K n), .k (kL K (namesD (nms st))), .k (kNum K ks), .k (kS K (digT p)), .k (kL K (rowD (nms st) J)), .k (kS K (rdT r)), .k (kInk K Ci n st), .k (kS K (ofL l)), .un, .k (kL K (rowD (nms st) J2)), .un, .un, .un, .k (kI K (ds.getD j 0 : Nat)), .k (kI K (i : Nat))]) (fun ds hd => by rw [num_len, hd.rep.1]; omega) (fun ds hd j x hx s H C cl fp => ?bg3) (fun ds hd j x hx s H C cl fp => ?el3)) (fun bs h => ?sz3)))
    case bg3 =>
      obtain ⟨d, hd2, rfl⟩ := num_get hx
      rw [getD_of hd2]
      exact bg_name 15 (by decide) nd
    case el3 =>
      obtain ⟨d, hd2, rfl⟩ := num_get hx
      rw [getD_of hd2]
      have hd8 := hd.rep.2 d (List.mem_of_getElem? hd2)
      exact ek_x (z := ofL [dc d]) (EK.to (ek_str1 T.str (ek_var 15) (log_lt (by omega))) (by rw [str_dc hd8])) ⟨d, hd2, rfl⟩
    case sz3 =>
      obtain ⟨ds, hd, hl, hg⟩ := h
      exact sz_one (ds := ds) (by rw [hl, num_len, hd.rep.1]; omega) (gives_one hg)
  refine ss_open 12 rfl fun ps hps => ?_
  obtain ⟨ps2, hps⟩ : ps.length = 2 ∧ ∀ p ∈ ps, p.length = n ∧ d8 p := by
    obtain ⟨_, _, hl2, hg⟩ := hps
    exact ⟨hl2, fun p hp => by obtain ⟨i, hi⟩ := List.mem_iff_getElem?.mp hp; exact hg i p hi⟩
  show SsK _ _ [.k (kScr K ns), .k (wldD K (n, st)), .k (kI K n), .k (kL K (namesD (nms st))), .k (kNum K ks), .k (kS K (digT p)), .k (kL K (rowD (nms st) J)), .k (kS K (rdT r)), .k (kInk K Ci n st), .k (kS K (ofL l)), .un, .k (kL K (rowD (nms st) J2)), .k (kL K (pagesD ps)), .un, .un, .un, .un] _
  refine ss_F (tk_not (tk_val (ek_call D_nets_right (hr.mono (by decide)) (ak_cons (ek_var 8) (ak_cons (ek_var 1) (ak_cons (ek_var 6) (ak_cons (ek_var 11) (ak_cons (EK.to (d' := .list (pagesD (ps ++ [List.replicate n 0, List.replicate n 7]))) (ek_catL (es := pagesD [List.replicate n 0, List.replicate n 7]) (ek_var 12) (ek_lst (ds := pagesD [List.replicate n 0, List.replicate n 7]) (ak_cons (EK.to (ek_mulS ek_str (ek_var 2) ⟨by decide, by omega, by omega⟩) (by rw [Int.toNat_natCast]; exact congrArg PyData.str (rep_text n 0 _ rfl))) (ak_cons (EK.to (ek_mulS ek_str (ek_var 2) ⟨by decide, by omega, by omega⟩) (by rw [Int.toNat_natCast]; exact congrArg PyData.str (rep_text n 7 _ rfl))) ak_nil))) (by unfold pagesD; rw [List.length_map, List.length_map, ps2]; show 2 + 2 ≤ 1000; decide)) (by unfold pagesD; rw [← List.map_append])) ak_nil))))) ⟨n, st, J, J2, ps ++ [List.replicate n 0, List.replicate n 7], hw, hJs, hJ2s, by rw [List.length_append, ps2]; show 1 ≤ 2 + 2; decide, by rw [List.length_append, ps2]; show 2 + 2 ≤ 10; decide, ?pall, rfl, rfl⟩))) rfl ?_
  case pall =>
    intro x hx
    rcases List.mem_append.mp hx with h | h
    · exact hps x h
    · rcases List.mem_cons.mp h with h | h
      · subst h; exact ⟨List.length_replicate, fun d hd => by rw [(List.mem_replicate.mp hd).2]; decide⟩
      · rw [List.mem_singleton.mp h]; exact ⟨List.length_replicate, fun d hd => by rw [(List.mem_replicate.mp hd).2]; decide⟩
  have hat : kA % (J.length + 1) ≤ J.length := by have := Nat.mod_lt kA (show 0 < J.length + 1 by omega); omega
  have hat2 : kA % (J.length + 1) ≤ 58 := by have := Nat.mod_le kA (J.length + 1); omega
  refine ss_cons (sk_set 13 nd (EK.to (d' := .int (kA % (J.length + 1) : Nat)) (ek_mod (ek_toI T.int (ek_ixL (d := .int kA) (ek_var 4) ek_int (at_nat (n := 10) (num_at eA)))) (ek_add (ek_len (n := J.length) T.len (ek_var 6) (by exact congrArg some (row_len (nms st) J)) (by omega)) ek_int) (by omega)) (by rw [Int.natCast_emod]; rfl))) ?_
  generalize kA % (J.length + 1) = a at hat hat2
  refine ss_cons (sk_set 14 nd (EK.to (d' := .list (zRow (nms st) (J.take a) sBe ((rowD (nms st) (J.drop a)).take (58 - a) ++ [.str (ofL sZz)]))) (ek_catL (ds := ((rowD (nms st) (J.take a) ++ [PyData.str (ofL sBe)]) ++ rowD (nms st) (J.drop a)).take 59) (es := [.str (ofL sZz)]) (EK.to (ek_slL (ds := (rowD (nms st) (J.take a) ++ [PyData.str (ofL sBe)]) ++ rowD (nms st) (J.drop a)) (ek_catL (ek_catL (EK.to (ek_slL (ek_var 6) ok_none (ok_some (ek_var 13))) (by rw [cutD_take (by omega), Int.toNat_natCast, row_take])) (ek_lst (ds := [.str (ofL sBe)]) (ak_cons ek_str ak_nil)) ?z1) (EK.to (ek_slL (ek_var 6) (ok_some (ek_var 13)) ok_none) (by rw [cutD_drop (by omega), Int.toNat_natCast, row_drop])) ?z2) ok_none (ok_some ek_int)) (by rw [cutD_take (by decide)]; rfl)) (ek_lst (ds := [.str (ofL sZz)]) (ak_cons ek_str ak_nil)) ?z3) (congrArg PyData.list (bad_eq (nms st) hat hat2 sBe sZz)))) ?_
  case z1 => rw [row_len, List.length_take]; show _ + 1 ≤ 1000; omega
  case z2 => rw [List.length_append, row_len, row_len, List.length_take, List.length_drop]; show _ + 1 + _ ≤ 1000; omega
  case z3 => rw [List.length_take]; show _ + 1 ≤ 1000; omega
  have nB : sBe ∉ nms st := fun z => by
    obtain ⟨q, hq, e⟩ := List.mem_map.mp z
    exact (hnn q hq).1 e
  have nN : sNope ∉ nms st := fun z => by
    obtain ⟨q, hq, e⟩ := List.mem_map.mp z
    exact (hnn q hq).2.2.1 e
  refine ss_one (sk_ret (EK.to (ek_and2 (ek_call D_unknown (hr.mono (by decide)) (ak_cons (ek_var 8) (ak_cons (ek_var 14) (ak_cons ek_str ak_nil))) ⟨n, st, false, J.take a, sBe, (rowD (nms st) (J.drop a)).take (58 - a) ++ [.str (ofL sZz)], hw, zr_bad hJ nB a ?f1 ?f2, rfl, rfl⟩) (fun _ => ek_call D_unknown (hr.mono (by decide)) (ak_cons (ek_var 8) (ak_cons (ek_tuple1 (d := .list (zRow (nms st) (J2.take 20) sNope [.str (ofL sXx)])) T.tuple (EK.to (ek_catL (ds := rowD (nms st) (J2.take 20)) (es := [.str (ofL sNope), .str (ofL sXx)]) (EK.to (ek_slL (ek_var 11) ok_none (ok_some ek_int)) (by rw [cutD_take (by decide), row_take]; rfl)) (ek_lst (ds := [.str (ofL sNope), .str (ofL sXx)]) (ak_cons ek_str (ak_cons ek_str ak_nil))) ?z4) rfl) rfl) (ak_cons ek_str ak_nil))) ⟨n, st, true, J2.take 20, sNope, [.str (ofL sXx)], hw, zr_bad hJ2 nN 20 ?f3 ?f4, rfl, rfl⟩)) rfl))
  case f1 =>
    intro d hd
    rcases List.mem_append.mp hd with h | h
    · exact row_flat _ _ d (List.mem_of_mem_take h)
    · rw [List.mem_singleton.mp h]; rfl
  case f2 => rw [List.length_append, List.length_take]; show _ + 1 ≤ 100; omega
  case z4 => rw [row_len, List.length_take]; show _ + 2 ≤ 1000; omega
  case f3 => intro d hd; rw [List.mem_singleton.mp hd]; rfl
  case f4 => decide
end
end K71
end
section
namespace K71
open PySem PySem.Spec PyProof.Rows L2 KD
theorem law_facts {P : Program} {w : World} {K : PySem.W.Frag} {h : Heap} {mg : Str → Option Value} {f : Addr} (X : K.In h) (G : h.Ns mainGlobals mg) (hfa : mg ("law" : Str) = some (.ref f)) (c : SaysK K) :
    ∃ fd : FuncData, (∀ (s : Shared) (v : Value), BindsTo s fd ⟨[v], []⟩ [("_law_script", v)]) ∧ ∀ base : Heap, FnGd P w K mg base 9 f fd ["_law_script"] (spF (R_law K)) := by
  have x0 := c.c2
  obtain ⟨y0, x1⟩ := He.ba x0
  obtain ⟨y1, x2⟩ := He.ba x1
  obtain ⟨y2, x3⟩ := He.ba x2
  obtain ⟨y3, x4⟩ := He.ba x3
  obtain ⟨y4, x5⟩ := He.ba x4
  obtain ⟨y5, x6⟩ := He.ba x5
  obtain ⟨y6, x7⟩ := He.ba x6
  obtain ⟨y7, x8⟩ := He.ba x7
  obtain ⟨y8, x9⟩ := He.ba x8
  obtain ⟨y9, x10⟩ := He.ba x9
  obtain ⟨y10, x11⟩ := He.ba x10
  obtain ⟨y11, x12⟩ := He.ba x11
  obtain ⟨y12, x13⟩ := He.ba x12
  obtain ⟨yu1, yu2⟩ := He.ba y11
  have T : Tx K mg := ⟨(He.free_ok X G (c.c1.fact 0 (f := .free "len") rfl)), (He.free_ok X G (c.c1.fact 1 (f := .free "range") rfl)), (He.free_ok X G (c.c1.fact 2 (f := .free "zip") rfl)), (He.free_ok X G (c.c1.fact 3 (f := .free "enumerate") rfl)), (He.free_ok X G (c.c1.fact 4 (f := .free "int") rfl)), (He.free_ok X G (c.c1.fact 5 (f := .free "str") rfl)), (He.free_ok X G (c.c1.fact 6 (f := .free "bool") rfl)), (He.free_ok X G (c.c1.fact 7 (f := .free "list") rfl)), (He.free_ok X G (c.c1.fact 8 (f := .free "tuple") rfl)), (He.free_ok X G (c.c1.fact 9 (f := .free "sum") rfl)), (He.free_ok X G (c.c1.fact 10 (f := .free "isinstance") rfl)), (He.free_ok X G (c.c1.fact 11 (f := .free "repr") rfl)), He.str_ok X G (c.c1.fact 13 (f := .str "SIGNS" "-.abcdefghijklmnopqrstuvwxyz") rfl), He.str_ok X G (c.c1.fact 14 (f := .str "LETTERS" "abcdefghijklmnopqrstuvwxyz") rfl), He.str_ok X G (c.c1.fact 15 (f := .str "DIGITS" "0123456789") rfl), He.str_ok X G (c.c1.fact 16 (f := .str "UNREAD" "---") rfl), He.int_ok X G (c.c1.fact 17 (f := .int "MOST_CELLS" 30) rfl), He.int_ok X G (c.c1.fact 18 (f := .int "LONGEST_NAME" 8) rfl), He.int_ok X G (c.c1.fact 19 (f := .int "ALL_COLOURS" 7) rfl), ⟨_, (He.glo_ok X G (c.c1.fact 86 (f := .glo "COLOURS") rfl)), He.tupB_ok y12⟩, ⟨_, (He.glo_ok X G (c.c1.fact 87 (f := .glo "DEEDS") rfl)), He.tupB_ok x13⟩⟩
  have cS : Cls K (He.ga K "Stock") := He.cls_ok (c.c1.fact 88 (f := .cls "Stock") rfl)
  have Z : Cc K mg (He.ga K "InkStock") (He.ga K "Stock") := ⟨(He.glo_ok X G (c.c1.fact 80 (f := .glo "InkStock") rfl)), (He.glo_ok X G (c.c1.fact 79 (f := .glo "Stock") rfl)), He.cls_ok (c.c1.fact 89 (f := .cls "InkStock") rfl), cS, insB_ok cS y3, He.noat_ok (c.c1.fact 92 (f := .noat "InkStock" "size") rfl), He.noat_ok (c.c1.fact 93 (f := .noat "InkStock" "stamps") rfl), He.noat_ok (c.c1.fact 94 (f := .noat "InkStock" "numbers") rfl), He.noat_ok (c.c1.fact 95 (f := .noat "Stock" "size") rfl), He.noat_ok (c.c1.fact 96 (f := .noat "Stock" "stamps") rfl), He.noat_ok (c.c1.fact 97 (f := .noat "Stock" "numbers") rfl), He.noat_ok (c.c1.fact 98 (f := .noat "Stock" "layers") rfl)⟩
  have hXf := L2.xfB_ok y5
  have Y : Xs K mg (He.ga K "UnknownName") (He.ga K "BadName") (He.ga K "BadStamp") (He.ga K "NameTaken") (He.ga K "StampError") := ⟨(He.glo_ok X G (c.c1.fact 82 (f := .glo "BadName") rfl)), (He.glo_ok X G (c.c1.fact 83 (f := .glo "BadStamp") rfl)), (He.glo_ok X G (c.c1.fact 84 (f := .glo "NameTaken") rfl)), (He.glo_ok X G (c.c1.fact 85 (f := .glo "StampError") rfl)), (He.free_ok X G (c.c1.fact 12 (f := .free "ValueError") rfl)), of_decide_eq_true y6, of_decide_eq_true y7, of_decide_eq_true y8, of_decide_eq_true y9, of_decide_eq_true y10, He.exm_ok (c.c1.fact 104 (f := .exm "UnknownName" "UnknownName" true) rfl), xcB_ok hXf y4, hXf⟩
  obtain ⟨fd11, F11⟩ := c.c1.def_ 0 (d := gdef 11 "is_layer") rfl
  obtain ⟨fd12, F12⟩ := c.c1.def_ 1 (d := gdef 12 "empty_layer") rfl
  obtain ⟨fd13, F13⟩ := c.c1.def_ 2 (d := gdef 13 "press") rfl
  obtain ⟨fd14, F14⟩ := c.c1.def_ 3 (d := gdef 14 "frozen") rfl
  obtain ⟨fd19, F19⟩ := c.c1.def_ 4 (d := gdef 19 "is_name") rfl
  obtain ⟨fd20, F20⟩ := c.c1.def_ 5 (d := gdef 20 "is_stamp") rfl
  obtain ⟨fd22, F22⟩ := c.c1.def_ 6 (d := gdef 22 "known_names") rfl
  obtain ⟨fd27, F27⟩ := c.c1.def_ 7 (d := gdef 27 "has_colour") rfl
  obtain ⟨fd28, F28⟩ := c.c1.def_ 8 (d := gdef 28 "is_digit") rfl
  obtain ⟨fd29, F29⟩ := c.c1.def_ 9 (d := gdef 29 "is_ink_item") rfl
  obtain ⟨fd30, F30⟩ := c.c1.def_ 10 (d := gdef 30 "changes_some") rfl
  obtain ⟨fd31, F31⟩ := c.c1.def_ 11 (d := gdef 31 "is_ink_stamp") rfl
  obtain ⟨fd32, F32⟩ := c.c1.def_ 12 (d := gdef 32 "after_item") rfl
  obtain ⟨fd33, F33⟩ := c.c1.def_ 13 (d := gdef 33 "ink_press") rfl
  obtain ⟨fd35, F35⟩ := c.c1.def_ 14 (d := gdef 35 "row_stamps") rfl
  obtain ⟨fd36, F36⟩ := c.c1.def_ 15 (d := gdef 36 "ink_pressed") rfl
  obtain ⟨fd39, F39⟩ := c.c1.def_ 16 (d := gdef 39 "colour_signs") rfl
  obtain ⟨fd40, F40⟩ := c.c1.def_ 17 (d := gdef 40 "colours_with") rfl
  obtain ⟨fd41, F41⟩ := c.c1.def_ 18 (d := gdef 41 "plain_layer") rfl
  obtain ⟨fd42, F42⟩ := c.c1.def_ 19 (d := gdef 42 "ink_sign") rfl
  obtain ⟨fd43, F43⟩ := c.c1.def_ 20 (d := gdef 43 "ink_reading") rfl
  obtain ⟨fd44, F44⟩ := c.c1.def_ 21 (d := gdef 44 "plain_item") rfl
  obtain ⟨fd45, F45⟩ := c.c1.def_ 22 (d := gdef 45 "plain_stamp") rfl
  obtain ⟨fd46, F46⟩ := c.c1.def_ 23 (d := gdef 46 "plain_stock") rfl
  obtain ⟨fd48, F48⟩ := c.c1.def_ 24 (d := gdef 48 "row_layers") rfl
  obtain ⟨fd49, F49⟩ := c.c1.def_ 25 (d := gdef 49 "press_all") rfl
  obtain ⟨fd50, F50⟩ := c.c1.def_ 26 (d := gdef 50 "net_of") rfl
  obtain ⟨fd51, F51⟩ := c.c1.def_ 27 (d := gdef 51 "pressed") rfl
  obtain ⟨fd52, F52⟩ := c.c1.def_ 28 (d := gdef 52 "net_stamp") rfl
  obtain ⟨fd54, F54⟩ := c.c1.def_ 29 (d := gdef 54 "ink_net") rfl
  obtain ⟨fd56, F56⟩ := c.c1.def_ 30 (d := gdef 56 "_law_kind") rfl
  obtain ⟨fd57, F57⟩ := c.c1.def_ 31 (d := gdef 57 "_law_cell") rfl
  obtain ⟨fd58, F58⟩ := c.c1.def_ 32 (d := gdef 58 "_law_digits") rfl
  obtain ⟨fd59, F59⟩ := c.c1.def_ 33 (d := gdef 59 "_law_ink_names") rfl
  obtain ⟨fd60, F60⟩ := c.c1.def_ 34 (d := gdef 60 "_law_ink_stamp") rfl
  obtain ⟨fd61, F61⟩ := c.c1.def_ 35 (d := gdef 61 "_law_inks") rfl
  obtain ⟨fd62, F62⟩ := c.c1.def_ 36 (d := gdef 62 "_law_given") rfl
  obtain ⟨fd63, F63⟩ := c.c1.def_ 37 (d := gdef 63 "_law_ink_after") rfl
  obtain ⟨fd64, F64⟩ := c.c1.def_ 38 (d := gdef 64 "_law_ink_press") rfl
  obtain ⟨fd65, F65⟩ := c.c1.def_ 39 (d := gdef 65 "_law_ink_row") rfl
  obtain ⟨fd66, F66⟩ := c.c1.def_ 40 (d := gdef 66 "_law_ink_dashed") rfl
  obtain ⟨fd67, F67⟩ := c.c1.def_ 41 (d := gdef 67 "_law_plain_item") rfl
  obtain ⟨fd68, F68⟩ := c.c1.def_ 42 (d := gdef 68 "_law_plain") rfl
  obtain ⟨fd69, F69⟩ := c.c1.def_ 43 (d := gdef 69 "_law_read") rfl
  obtain ⟨fd70, F70⟩ := c.c1.def_ 44 (d := gdef 70 "_law_same_text") rfl
  obtain ⟨fd71, F71⟩ := c.c1.def_ 45 (d := gdef 71 "_law_press") rfl
  obtain ⟨fd72, F72⟩ := c.c1.def_ 46 (d := gdef 72 "_law_spoilt") rfl
  obtain ⟨fd73, F73⟩ := c.c1.def_ 47 (d := gdef 73 "_law_read_right") rfl
  obtain ⟨fd74, F74⟩ := c.c1.def_ 48 (d := gdef 74 "_law_stock_right") rfl
  obtain ⟨fd75, F75⟩ := c.c1.def_ 49 (d := gdef 75 "_law_plain_right") rfl
  obtain ⟨fd76, F76⟩ := c.c1.def_ 50 (d := gdef 76 "_law_effects") rfl
  obtain ⟨fd77, F77⟩ := c.c1.def_ 51 (d := gdef 77 "_law_ink_net") rfl
  obtain ⟨fd78, F78⟩ := c.c1.def_ 52 (d := gdef 78 "_law_unknown") rfl
  obtain ⟨fd79, F79⟩ := c.c1.def_ 53 (d := gdef 79 "_law_other") rfl
  obtain ⟨fd80, F80⟩ := c.c1.def_ 54 (d := gdef 80 "_law_pairs_right") rfl
  obtain ⟨fd81, F81⟩ := c.c1.def_ 55 (d := gdef 81 "_law_by_net") rfl
  obtain ⟨fd82, F82⟩ := c.c1.def_ 56 (d := gdef 82 "_law_parting") rfl
  obtain ⟨fd83, F83⟩ := c.c1.def_ 57 (d := gdef 83 "_law_nets_right") rfl
  obtain ⟨fd84, F84⟩ := c.c1.def_ 58 (d := gdef 84 "law") rfl
  obtain ⟨fe21_0, E21_0⟩ := c.c1.def_ 59 (d := cmeth "Stock" 21 0 "Stock.__init__" "__init__") rfl
  obtain ⟨fe21_5, E21_5⟩ := c.c1.def_ 60 (d := cmeth "Stock" 21 5 "Stock.__eq__" "__eq__") rfl
  obtain ⟨fe21_7, E21_7⟩ := c.c1.def_ 61 (d := cmeth "Stock" 21 7 "Stock.place" "place") rfl
  obtain ⟨fe21_8, E21_8⟩ := c.c1.def_ 62 (d := cmeth "Stock" 21 8 "Stock.stamp" "stamp") rfl
  obtain ⟨fe34_0, E34_0⟩ := c.c1.def_ 63 (d := cmeth "InkStock" 34 0 "InkStock.__init__" "__init__") rfl
  obtain ⟨fe34_3, E34_3⟩ := c.c1.def_ 64 (d := cmeth "InkStock" 34 3 "InkStock.place" "place") rfl
  obtain ⟨fe7_0, E7_0⟩ := c.c1.def_ 65 (d := cmeth "UnknownName" 7 0 "UnknownName.__init__" "__init__") rfl
  obtain ⟨fdP, FP⟩ := fnAt_ok (nm := "names") c.c3 y1
  have e := hfa.symm.trans (He.glo_ok X G (c.c1.fact 78 (f := .glo "law") rfl))
  cases e
  refine ⟨fd84, fun s v => FunD.bindsA (ps := ["_law_script"]) F84 (fun _ _ _ _ _ _ us hl => match us, hl with | [_], _ => rfl) s [v] rfl, fun base => ?_⟩
  have bU : Binds K fe7_0 ["self", "name"] [] := E7_0.bindsN (fun _ _ _ _ _ _ us hl => match us, hl with | [_, _], _ => rfl)
  have U : Ux P w K mg base "UnknownName" (He.ga K "UnknownName") "name" := ⟨(He.glo_ok X G (c.c1.fact 81 (f := .glo "UnknownName") rfl)), oexB_ok y2, He.noat_ok (c.c1.fact 99 (f := .noat "UnknownName" "name") rfl), ⟨_, _, ["self", "name"], He.eqO_ok yu1, of_decide_eq_true yu2, bU, ok_mkU (C := He.ga K "UnknownName") E7_0 (oexB_ok y2) (He.noat_ok (c.c1.fact 99 (f := .noat "UnknownName" "name") rfl))⟩⟩
  have D_press := df_mk (P := P) (w := w) (base := base) F13 (ok_press F13 T) (He.glo_ok X G (c.c1.fact 22 (f := .glo "press") rfl)) (fun _ _ _ _ _ _ us hl => match us, hl with | [_, _], _ => rfl) (fun _ _ _ _ _ _ us hl => match us, hl with | [_, _], _ => rfl)
  have D_has_colour := df_mk (P := P) (w := w) (base := base) F27 (ok_has_colour F27 ) (He.glo_ok X G (c.c1.fact 27 (f := .glo "has_colour") rfl)) (fun _ _ _ _ _ _ us hl => match us, hl with | [_, _], _ => rfl) (fun _ _ _ _ _ _ us hl => match us, hl with | [_, _], _ => rfl)
  have D_is_digit := df_mk (P := P) (w := w) (base := base) F28 (ok_is_digit F28 T) (He.glo_ok X G (c.c1.fact 28 (f := .glo "is_digit") rfl)) (fun _ _ _ _ _ _ us hl => match us, hl with | [_], _ => rfl) (fun _ _ _ _ _ _ us hl => match us, hl with | [_], _ => rfl)
  have D_is_ink_item := df_mk (P := P) (w := w) (base := base) F29 (ok_is_ink_item F29 T D_is_digit) (He.glo_ok X G (c.c1.fact 29 (f := .glo "is_ink_item") rfl)) (fun _ _ _ _ _ _ us hl => match us, hl with | [_], _ => rfl) (fun _ _ _ _ _ _ us hl => match us, hl with | [_], _ => rfl)
  have D_changes_some := df_mk (P := P) (w := w) (base := base) F30 (ok_changes_some F30 ) (He.glo_ok X G (c.c1.fact 30 (f := .glo "changes_some") rfl)) (fun _ _ _ _ _ _ us hl => match us, hl with | [_], _ => rfl) (fun _ _ _ _ _ _ us hl => match us, hl with | [_], _ => rfl)
  have D_is_ink_stamp := df_mk (P := P) (w := w) (base := base) F31 (ok_is_ink_stamp F31 T D_is_ink_item D_changes_some) (He.glo_ok X G (c.c1.fact 31 (f := .glo "is_ink_stamp") rfl)) (fun _ _ _ _ _ _ us hl => match us, hl with | [_, _], _ => rfl) (fun _ _ _ _ _ _ us hl => match us, hl with | [_, _], _ => rfl)
  have D_after_item := df_mk (P := P) (w := w) (base := base) F32 (ok_after_item F32 ) (He.glo_ok X G (c.c1.fact 32 (f := .glo "after_item") rfl)) (fun _ _ _ _ _ _ us hl => match us, hl with | [_, _], _ => rfl) (fun _ _ _ _ _ _ us hl => match us, hl with | [_, _], _ => rfl)
  have D_ink_press := df_mk (P := P) (w := w) (base := base) F33 (ok_ink_press F33 T D_after_item) (He.glo_ok X G (c.c1.fact 33 (f := .glo "ink_press") rfl)) (fun _ _ _ _ _ _ us hl => match us, hl with | [_, _], _ => rfl) (fun _ _ _ _ _ _ us hl => match us, hl with | [_, _], _ => rfl)
  have D_colour_signs := df_mk (P := P) (w := w) (base := base) F39 (ok_colour_signs F39 T D_has_colour) (He.glo_ok X G (c.c1.fact 36 (f := .glo "colour_signs") rfl)) (fun _ _ _ _ _ _ us hl => match us, hl with | [_, _, _], _ => rfl) (fun _ _ _ _ _ _ us hl => match us, hl with | [_, _, _], _ => rfl)
  have D_plain_item := df_mk (P := P) (w := w) (base := base) F44 (ok_plain_item F44 T D_colour_signs) (He.glo_ok X G (c.c1.fact 41 (f := .glo "plain_item") rfl)) (fun _ _ _ _ _ _ us hl => match us, hl with | [_], _ => rfl) (fun _ _ _ _ _ _ us hl => match us, hl with | [_], _ => rfl)
  have D_plain_stamp := df_mk (P := P) (w := w) (base := base) F45 (ok_plain_stamp F45 T D_plain_item) (He.glo_ok X G (c.c1.fact 42 (f := .glo "plain_stamp") rfl)) (fun _ _ _ _ _ _ us hl => match us, hl with | [_], _ => rfl) (fun _ _ _ _ _ _ us hl => match us, hl with | [_], _ => rfl)
  have D_colours_with := df_mk (P := P) (w := w) (base := base) F40 (ok_colours_with F40 T) (He.glo_ok X G (c.c1.fact 37 (f := .glo "colours_with") rfl)) (fun _ _ _ _ _ _ us hl => match us, hl with | [_, _], _ => rfl) (fun _ _ _ _ _ _ us hl => match us, hl with | [_, _], _ => rfl)
  have D_plain_layer := df_mk (P := P) (w := w) (base := base) F41 (ok_plain_layer F41 T D_colour_signs) (He.glo_ok X G (c.c1.fact 38 (f := .glo "plain_layer") rfl)) (fun _ _ _ _ _ _ us hl => match us, hl with | [_], _ => rfl) (fun _ _ _ _ _ _ us hl => match us, hl with | [_], _ => rfl)
  have D_ink_sign := df_mk (P := P) (w := w) (base := base) F42 (ok_ink_sign F42 T D_colours_with) (He.glo_ok X G (c.c1.fact 39 (f := .glo "ink_sign") rfl)) (fun _ _ _ _ _ _ us hl => match us, hl with | [_], _ => rfl) (fun _ _ _ _ _ _ us hl => match us, hl with | [_], _ => rfl)
  have D_ink_reading := df_mk (P := P) (w := w) (base := base) F43 (ok_ink_reading F43 T D_ink_sign) (He.glo_ok X G (c.c1.fact 40 (f := .glo "ink_reading") rfl)) (fun _ _ _ _ _ _ us hl => match us, hl with | [_], _ => rfl) (fun _ _ _ _ _ _ us hl => match us, hl with | [_], _ => rfl)
  have D_empty_layer := df_mk (P := P) (w := w) (base := base) F12 (ok_empty_layer F12 ) (He.glo_ok X G (c.c1.fact 21 (f := .glo "empty_layer") rfl)) (fun _ _ _ _ _ _ us hl => match us, hl with | [_], _ => rfl) (fun _ _ _ _ _ _ us hl => match us, hl with | [_], _ => rfl)
  have D_is_layer := df_mk (P := P) (w := w) (base := base) F11 (ok_is_layer F11 T) (He.glo_ok X G (c.c1.fact 20 (f := .glo "is_layer") rfl)) (fun _ _ _ _ _ _ us hl => match us, hl with | [_], _ => rfl) (fun _ _ _ _ _ _ us hl => match us, hl with | [_], _ => rfl)
  have D_is_stamp := df_mk (P := P) (w := w) (base := base) F20 (ok_is_stamp F20 T D_is_layer D_empty_layer) (He.glo_ok X G (c.c1.fact 25 (f := .glo "is_stamp") rfl)) (fun _ _ _ _ _ _ us hl => match us, hl with | [_, _], _ => rfl) (fun _ _ _ _ _ _ us hl => match us, hl with | [_, _], _ => rfl)
  have D_is_name := df_mk (P := P) (w := w) (base := base) F19 (ok_is_name F19 T) (He.glo_ok X G (c.c1.fact 24 (f := .glo "is_name") rfl)) (fun _ _ _ _ _ _ us hl => match us, hl with | [_], _ => rfl) (fun _ _ _ _ _ _ us hl => match us, hl with | [_], _ => rfl)
  have D_frozen : ∀ n, Df P w K mg base (n + 1) "frozen" ["value"] (R_frozen n K) := fun n => df_mk F14 (ok_frozen F14 T (He.glo_ok X G (c.c1.fact 23 (f := .glo "frozen") rfl)) n) (He.glo_ok X G (c.c1.fact 23 (f := .glo "frozen") rfl)) (fun _ _ _ _ _ _ us hl => match us, hl with | [_], _ => rfl) (fun _ _ _ _ _ _ us hl => match us, hl with | [_], _ => rfl)
  have D_mkI : DfI P w K mg base 6 (He.ga K "InkStock") "InkStock" ["self", "size", "stamps"] (R_mkI (He.ga K "InkStock") K) := ⟨_, _, ok_mkI E34_0 T Z (D_frozen 4) D_is_name D_is_ink_stamp, He.mkr_ok (c.c1.fact 91 (f := .mkr "InkStock") rfl), E34_0.bindsN (fun _ _ _ _ _ _ us hl => match us, hl with | [_, _, _], _ => rfl), (He.glo_ok X G (c.c1.fact 80 (f := .glo "InkStock") rfl))⟩
  have D_mkS : DfI P w K mg base 4 (He.ga K "Stock") "Stock" ["self", "size", "stamps"] (R_mkS (He.ga K "Stock") K) := ⟨_, _, ok_mkS E21_0 T Z (D_frozen 2) D_is_name D_is_stamp, He.mkr_ok (c.c1.fact 90 (f := .mkr "Stock") rfl), E21_0.bindsN (fun _ _ _ _ _ _ us hl => match us, hl with | [_, _, _], _ => rfl), (He.glo_ok X G (c.c1.fact 79 (f := .glo "Stock") rfl))⟩
  have D_placeI : DfM P w K mg base 1 (He.ga K "InkStock") "place" ["self", "name"] (R_place (He.ga K "InkStock") K) := ⟨_, _, ok_placeI E34_3 Z, He.meth_ok (c.c1.fact 102 (f := .meth "InkStock" "place") rfl), E34_3.bindsN (fun _ _ _ _ _ _ us hl => match us, hl with | [_, _], _ => rfl)⟩
  have D_placeS : DfM P w K mg base 1 (He.ga K "Stock") "place" ["self", "name"] (R_place (He.ga K "Stock") K) := ⟨_, _, ok_placeS E21_7 Z, He.meth_ok (c.c1.fact 100 (f := .meth "Stock" "place") rfl), E21_7.bindsN (fun _ _ _ _ _ _ us hl => match us, hl with | [_, _], _ => rfl)⟩
  have D_stamp : DfM P w K mg base 2 (He.ga K "Stock") "stamp" ["self", "name"] (R_stamp (He.ga K "Stock") K) := ⟨_, _, ok_stamp E21_8 Z D_placeS, He.meth_ok (c.c1.fact 101 (f := .meth "Stock" "stamp") rfl), E21_8.bindsN (fun _ _ _ _ _ _ us hl => match us, hl with | [_, _], _ => rfl)⟩
  have D_names : DfP P w K mg base 1 (He.ga K "Stock") "names" (R_names (He.ga K "Stock") K) := ⟨_, _, _, ["self"], ok_names FP T Z, prB_ok y0, FP.bindsN (fun _ _ _ _ _ _ us hl => match us, hl with | [_], _ => rfl)⟩
  have D_eq : ∀ w' ss, Pd w' ss → DfE P w K mg base 1 (He.ga K "Stock") (kSt K (He.ga K "Stock") w' ss) := fun w' ss hp => ⟨_, _, ["self", "other"], L2.FnOk.imp (ok_eqS (P := P) (w := w) (base := base) E21_5 T Z) (fun vs H Q E ⟨S, κs, κ, s, h, hv, q⟩ => ⟨S, κs, κ, s, by obtain ⟨rfl, rfl⟩ := h; exact ⟨w', ss, hp, rfl, rfl⟩, hv, q⟩), (He.meth_ok (c.c1.fact 103 (f := .meth "Stock" "__eq__") rfl)).at_, (He.meth_ok (c.c1.fact 103 (f := .meth "Stock" "__eq__") rfl)).fn, E21_5.bindsN (fun _ _ _ _ _ _ us hl => match us, hl with | [_, _], _ => rfl)⟩
  have D_known := df_mk (P := P) (w := w) (base := base) F22 (ok_known F22 T Z (D_frozen 1) D_placeS) (He.glo_ok X G (c.c1.fact 26 (f := .glo "known_names") rfl)) (fun _ _ _ _ _ _ us hl => match us, hl with | [_, _], _ => rfl) (fun _ _ _ _ _ _ us hl => match us, hl with | [_, _], _ => rfl)
  have D_row_stamps := df_mk (P := P) (w := w) (base := base) F35 (ok_row_stamps F35 T Z D_placeI) (He.glo_ok X G (c.c1.fact 34 (f := .glo "row_stamps") rfl)) (fun _ _ _ _ _ _ us hl => match us, hl with | [_, _], _ => rfl) (fun _ _ _ _ _ _ us hl => match us, hl with | [_, _], _ => rfl)
  have D_ink_pressed := df_mk (P := P) (w := w) (base := base) F36 (ok_ink_pressed F36 D_row_stamps D_ink_press) (He.glo_ok X G (c.c1.fact 35 (f := .glo "ink_pressed") rfl)) (fun _ _ _ _ _ _ us hl => match us, hl with | [_, _, _], _ => rfl) (fun _ _ _ _ _ _ us hl => match us, hl with | [_, _, _], _ => rfl)
  have D_row_layers := df_mk (P := P) (w := w) (base := base) F48 (ok_row_layers F48 T Z D_known D_stamp) (He.glo_ok X G (c.c1.fact 44 (f := .glo "row_layers") rfl)) (fun _ _ _ _ _ _ us hl => match us, hl with | [_, _], _ => rfl) (fun _ _ _ _ _ _ us hl => match us, hl with | [_, _], _ => rfl)
  have D_press_all := df_mk (P := P) (w := w) (base := base) F49 (ok_press_all F49 D_press) (He.glo_ok X G (c.c1.fact 45 (f := .glo "press_all") rfl)) (fun _ _ _ _ _ _ us hl => match us, hl with | [_, _], _ => rfl) (fun _ _ _ _ _ _ us hl => match us, hl with | [_, _], _ => rfl)
  have D_net_of := df_mk (P := P) (w := w) (base := base) F50 (ok_net_of F50 D_press_all D_empty_layer) (He.glo_ok X G (c.c1.fact 46 (f := .glo "net_of") rfl)) (fun _ _ _ _ _ _ us hl => match us, hl with | [_, _], _ => rfl) (fun _ _ _ _ _ _ us hl => match us, hl with | [_, _], _ => rfl)
  have D_pressed := df_mk (P := P) (w := w) (base := base) F51 (ok_pressed F51 D_press_all D_row_layers) (He.glo_ok X G (c.c1.fact 47 (f := .glo "pressed") rfl)) (fun _ _ _ _ _ _ us hl => match us, hl with | [_, _, _], _ => rfl) (fun _ _ _ _ _ _ us hl => match us, hl with | [_, _, _], _ => rfl)
  have D_net_stamp := df_mk (P := P) (w := w) (base := base) F52 (ok_net_stamp F52 Z D_net_of D_row_layers) (He.glo_ok X G (c.c1.fact 48 (f := .glo "net_stamp") rfl)) (fun _ _ _ _ _ _ us hl => match us, hl with | [_, _], _ => rfl) (fun _ _ _ _ _ _ us hl => match us, hl with | [_, _], _ => rfl)
  have D_plain_stock := df_mk (P := P) (w := w) (base := base) F46 (ok_plain_stock F46 Z D_mkS D_plain_stamp) (He.glo_ok X G (c.c1.fact 43 (f := .glo "plain_stock") rfl)) (fun _ _ _ _ _ _ us hl => match us, hl with | [_], _ => rfl) (fun _ _ _ _ _ _ us hl => match us, hl with | [_], _ => rfl)
  have D_ink_net := df_mk (P := P) (w := w) (base := base) F54 (ok_ink_net F54 T D_plain_stock D_net_stamp D_colours_with) (He.glo_ok X G (c.c1.fact 49 (f := .glo "ink_net") rfl)) (fun _ _ _ _ _ _ us hl => match us, hl with | [_, _], _ => rfl) (fun _ _ _ _ _ _ us hl => match us, hl with | [_, _], _ => rfl)
  have D_kind := df_mk (P := P) (w := w) (base := base) F56 (ok_kind F56 T) (He.glo_ok X G (c.c1.fact 50 (f := .glo "_law_kind") rfl)) (fun _ _ _ _ _ _ us hl => match us, hl with | [_], _ => rfl) (fun _ _ _ _ _ _ us hl => match us, hl with | [_], _ => rfl)
  have D_cell := df_mk (P := P) (w := w) (base := base) F57 (ok_cell F57 T) (He.glo_ok X G (c.c1.fact 51 (f := .glo "_law_cell") rfl)) (fun _ _ _ _ _ _ us hl => match us, hl with | [_, _], _ => rfl) (fun _ _ _ _ _ _ us hl => match us, hl with | [_, _], _ => rfl)
  have D_digits := df_mk (P := P) (w := w) (base := base) F58 (ok_digits F58 T) (He.glo_ok X G (c.c1.fact 52 (f := .glo "_law_digits") rfl)) (fun _ _ _ _ _ _ us hl => match us, hl with | [_, _], _ => rfl) (fun _ _ _ _ _ _ us hl => match us, hl with | [_, _], _ => rfl)
  have D_ink_names := df_mk (P := P) (w := w) (base := base) F59 (ok_ink_names F59 T) (He.glo_ok X G (c.c1.fact 53 (f := .glo "_law_ink_names") rfl)) (fun _ _ _ _ _ _ us hl => match us, hl with | [_, _], _ => rfl) (fun _ _ _ _ _ _ us hl => match us, hl with | [_, _], _ => rfl)
  have D_ink_stamp := df_mk (P := P) (w := w) (base := base) F60 (ok_ink_stamp F60 T) (He.glo_ok X G (c.c1.fact 54 (f := .glo "_law_ink_stamp") rfl)) (fun _ _ _ _ _ _ us hl => match us, hl with | [_, _], _ => rfl) (fun _ _ _ _ _ _ us hl => match us, hl with | [_, _], _ => rfl)
  have D_inks := df_mk (P := P) (w := w) (base := base) F61 (ok_inks F61 T D_digits D_cell D_ink_stamp D_ink_names) (He.glo_ok X G (c.c1.fact 55 (f := .glo "_law_inks") rfl)) (fun _ _ _ _ _ _ us hl => match us, hl with | [_, _], _ => rfl) (fun _ _ _ _ _ _ us hl => match us, hl with | [_, _], _ => rfl)
  have D_given := df_mk (P := P) (w := w) (base := base) F62 (ok_given F62 T) (He.glo_ok X G (c.c1.fact 56 (f := .glo "_law_given") rfl)) (fun _ _ _ _ _ _ us hl => match us, hl with | [_, _], _ => rfl) (fun _ _ _ _ _ _ us hl => match us, hl with | [_, _], _ => rfl)
  have D_ink_after := df_mk (P := P) (w := w) (base := base) F63 (ok_ink_after F63 T) (He.glo_ok X G (c.c1.fact 57 (f := .glo "_law_ink_after") rfl)) (fun _ _ _ _ _ _ us hl => match us, hl with | [_, _], _ => rfl) (fun _ _ _ _ _ _ us hl => match us, hl with | [_, _], _ => rfl)
  have D_law_ink_press := df_mk (P := P) (w := w) (base := base) F64 (ok_law_ink_press F64 T D_ink_after) (He.glo_ok X G (c.c1.fact 58 (f := .glo "_law_ink_press") rfl)) (fun _ _ _ _ _ _ us hl => match us, hl with | [_, _], _ => rfl) (fun _ _ _ _ _ _ us hl => match us, hl with | [_, _], _ => rfl)
  have D_ink_row := df_mk (P := P) (w := w) (base := base) F65 (ok_ink_row F65 T) (He.glo_ok X G (c.c1.fact 59 (f := .glo "_law_ink_row") rfl)) (fun _ _ _ _ _ _ us hl => match us, hl with | [_, _], _ => rfl) (fun _ _ _ _ _ _ us hl => match us, hl with | [_, _], _ => rfl)
  have D_ink_dashed := df_mk (P := P) (w := w) (base := base) F66 (ok_ink_dashed F66 T) (He.glo_ok X G (c.c1.fact 60 (f := .glo "_law_ink_dashed") rfl)) (fun _ _ _ _ _ _ us hl => match us, hl with | [_, _, _], _ => rfl) (fun _ _ _ _ _ _ us hl => match us, hl with | [_, _, _], _ => rfl)
  have D_law_plain_item := df_mk (P := P) (w := w) (base := base) F67 (ok_law_plain_item F67 T) (He.glo_ok X G (c.c1.fact 61 (f := .glo "_law_plain_item") rfl)) (fun _ _ _ _ _ _ us hl => match us, hl with | [_], _ => rfl) (fun _ _ _ _ _ _ us hl => match us, hl with | [_], _ => rfl)
  have D_law_plain := df_mk (P := P) (w := w) (base := base) F68 (ok_law_plain F68 T) (He.glo_ok X G (c.c1.fact 62 (f := .glo "_law_plain") rfl)) (fun _ _ _ _ _ _ us hl => match us, hl with | [_], _ => rfl) (fun _ _ _ _ _ _ us hl => match us, hl with | [_], _ => rfl)
  have D_same := df_mk (P := P) (w := w) (base := base) F70 (ok_same F70 T) (He.glo_ok X G (c.c1.fact 64 (f := .glo "_law_same_text") rfl)) (fun _ _ _ _ _ _ us hl => match us, hl with | [_, _], _ => rfl) (fun _ _ _ _ _ _ us hl => match us, hl with | [_, _], _ => rfl)
  have D_law_press := df_mk (P := P) (w := w) (base := base) F71 (ok_law_press F71 T) (He.glo_ok X G (c.c1.fact 65 (f := .glo "_law_press") rfl)) (fun _ _ _ _ _ _ us hl => match us, hl with | [_, _], _ => rfl) (fun _ _ _ _ _ _ us hl => match us, hl with | [_, _], _ => rfl)
  have D_law_read := df_mk (P := P) (w := w) (base := base) F69 (ok_law_read F69 T) (He.glo_ok X G (c.c1.fact 63 (f := .glo "_law_read") rfl)) (fun _ _ _ _ _ _ us hl => match us, hl with | [_], _ => rfl) (fun _ _ _ _ _ _ us hl => match us, hl with | [_], _ => rfl)
  have D_read_right := df_mk (P := P) (w := w) (base := base) F73 (ok_read_right F73 T D_law_read D_ink_reading D_same) (He.glo_ok X G (c.c1.fact 67 (f := .glo "_law_read_right") rfl)) (fun _ _ _ _ _ _ us hl => match us, hl with | [_], _ => rfl) (fun _ _ _ _ _ _ us hl => match us, hl with | [_], _ => rfl)
  have D_spoilt := df_mk (P := P) (w := w) (base := base) F72 (ok_spoilt F72 T) (He.glo_ok X G (c.c1.fact 66 (f := .glo "_law_spoilt") rfl)) (fun _ _ _ _ _ _ us hl => match us, hl with | [_, _], _ => rfl) (fun _ _ _ _ _ _ us hl => match us, hl with | [_, _], _ => rfl)
  have D_effects := df_mk (P := P) (w := w) (base := base) F76 (ok_effects F76 T) (He.glo_ok X G (c.c1.fact 70 (f := .glo "_law_effects") rfl)) (fun _ _ _ _ _ _ us hl => match us, hl with | [_], _ => rfl) (fun _ _ _ _ _ _ us hl => match us, hl with | [_], _ => rfl)
  have D_law_ink_net := df_mk (P := P) (w := w) (base := base) F77 (ok_law_ink_net F77 T) (He.glo_ok X G (c.c1.fact 71 (f := .glo "_law_ink_net") rfl)) (fun _ _ _ _ _ _ us hl => match us, hl with | [_, _, _, _], _ => rfl) (fun _ _ _ _ _ _ us hl => match us, hl with | [_, _, _, _], _ => rfl)
  have D_other := df_mk (P := P) (w := w) (base := base) F79 (ok_other F79 T D_ink_row) (He.glo_ok X G (c.c1.fact 73 (f := .glo "_law_other") rfl)) (fun _ _ _ _ _ _ us hl => match us, hl with | [_, _, _], _ => rfl) (fun _ _ _ _ _ _ us hl => match us, hl with | [_, _, _], _ => rfl)
  have D_pairs_right := df_mk (P := P) (w := w) (base := base) F80 (ok_pairs_right F80 T D_kind) (He.glo_ok X G (c.c1.fact 74 (f := .glo "_law_pairs_right") rfl)) (fun _ _ _ _ _ _ us hl => match us, hl with | [_, _], _ => rfl) (fun _ _ _ _ _ _ us hl => match us, hl with | [_, _], _ => rfl)
  have D_by_net := df_mk (P := P) (w := w) (base := base) F81 (ok_by_net F81 T) (He.glo_ok X G (c.c1.fact 75 (f := .glo "_law_by_net") rfl)) (fun _ _ _ _ _ _ us hl => match us, hl with | [_, _], _ => rfl) (fun _ _ _ _ _ _ us hl => match us, hl with | [_, _], _ => rfl)
  have D_parting := df_mk (P := P) (w := w) (base := base) F82 (ok_parting F82 T) (He.glo_ok X G (c.c1.fact 76 (f := .glo "_law_parting") rfl)) (fun _ _ _ _ _ _ us hl => match us, hl with | [_, _], _ => rfl) (fun _ _ _ _ _ _ us hl => match us, hl with | [_, _], _ => rfl)
  have D_stock_right := df_mk (P := P) (w := w) (base := base) F74 (ok_stock_right F74 T Z D_kind D_names D_stamp D_same D_mkS D_eq) (He.glo_ok X G (c.c1.fact 68 (f := .glo "_law_stock_right") rfl)) (fun _ _ _ _ _ _ us hl => match us, hl with | [_, _, _, _], _ => rfl) (fun _ _ _ _ _ _ us hl => match us, hl with | [_, _, _, _], _ => rfl)
  have D_nets_right := df_mk (P := P) (w := w) (base := base) F83 (ok_nets_right F83 T D_effects D_law_ink_net D_pairs_right D_ink_net D_parting D_ink_pressed D_same D_by_net) (He.glo_ok X G (c.c1.fact 77 (f := .glo "_law_nets_right") rfl)) (fun _ _ _ _ _ _ us hl => match us, hl with | [_, _, _, _, _], _ => rfl) (fun _ _ _ _ _ _ us hl => match us, hl with | [_, _, _, _, _], _ => rfl)
  have D_plain_right : DfG P w K mg base 8 "_law_plain_right" psPR (R_plain_right (He.ga K "InkStock") K) := ⟨_, _, (ok_plain_right F75 T Z D_law_plain_item D_given D_same D_plain_stamp D_plain_stock D_stock_right D_eq D_plain_layer D_law_plain D_law_ink_press D_law_press D_pressed D_ink_reading D_ink_pressed D_read_right), (He.glo_ok X G (c.c1.fact 69 (f := .glo "_law_plain_right") rfl)), F75.kp, F75.bindsN (fun _ _ _ _ _ _ us hl => match us, hl with | [_, _, _, _, _, _], _ => rfl)⟩
  have D_knownZ := dfz_mk F22 (ok_knownZ F22 T Z U (D_frozen 1) D_placeS) (He.glo_ok X G (c.c1.fact 26 (f := .glo "known_names") rfl)) (fun _ _ _ _ _ _ us hl => match us, hl with | [_, _], _ => rfl)
  have D_row_layersZ := dfz_mk F48 (ok_row_layersZ F48 T D_knownZ) (He.glo_ok X G (c.c1.fact 44 (f := .glo "row_layers") rfl)) (fun _ _ _ _ _ _ us hl => match us, hl with | [_, _], _ => rfl)
  have D_net_stampZ := dfz_mk F52 (ok_net_stampZ F52 Z D_net_of D_row_layersZ) (He.glo_ok X G (c.c1.fact 48 (f := .glo "net_stamp") rfl)) (fun _ _ _ _ _ _ us hl => match us, hl with | [_, _], _ => rfl)
  have D_ink_netZ := dfz_mk F54 (ok_ink_netZ F54 D_plain_stock D_net_stampZ) (He.glo_ok X G (c.c1.fact 49 (f := .glo "ink_net") rfl)) (fun _ _ _ _ _ _ us hl => match us, hl with | [_, _], _ => rfl)
  have D_sameW : DfW P w K mg base 1 "_law_same_text" ["_law_told", "_law_due"] (R_same K) := ⟨_, _, (ok_sameW F70 T), (He.glo_ok X G (c.c1.fact 64 (f := .glo "_law_same_text") rfl)), F70.kp, F70.bindsN (fun _ _ _ _ _ _ us hl => match us, hl with | [_, _], _ => rfl)⟩
  have D_unknown := df_mk (P := P) (w := w) (base := base) F78 (ok_unknown F78 T U Y D_ink_netZ D_sameW) (He.glo_ok X G (c.c1.fact 72 (f := .glo "_law_unknown") rfl)) (fun _ _ _ _ _ _ us hl => match us, hl with | [_, _, _], _ => rfl) (fun _ _ _ _ _ _ us hl => match us, hl with | [_, _, _], _ => rfl)
  exact (ok_law F84 T Z D_inks D_digits D_cell D_ink_row D_ink_dashed D_mkI D_given D_plain_right D_read_right D_law_plain D_spoilt D_other D_nets_right D_unknown)
end K71
end
section
set_option maxHeartbeats 0
open PySem PySem.W PySem.Calls PyProof.Rows
theorem PySem.Challenge.cw_stampsheets_k71_plain_inks_whole_holds : PySem.Challenge.rw_stampsheets_k71_plain_inks_whole.Holds := by
  w_on; o_law
  refine HandSHeadRun.head_any (r := OpenLaw.row PySem.Challenge.rw_stampsheets_k71_plain_inks_whole) (q := view (OpenLaw.row PySem.Challenge.rw_stampsheets_k71_plain_inks_whole).prog [84]) (H := K71.hdHook) (ob := K71.hdOb) (M := 20000) (loose := K71.hdNames) (d := HandSHeadRun.topDef (OpenLaw.row PySem.Challenge.rw_stampsheets_k71_plain_inks_whole).prog 84) (kwd := []) K71.hdOb_eq
    (by kernel_rfl) (fun s => by kernel_rfl) K71.hdRun (by kernel_rfl) (by kernel_rfl) (by kernel_rfl) (by rfl) (by first | assumption | decide +kernel) (by decide +kernel) ⟨rfl, rfl, rfl, rfl, rfl, by decide +kernel⟩ ?hw ?hc
  case hw => w_witness2
  case hc =>
    refine KD.walkGd (l := PySem.Challenge.rw_stampsheets_k71_plain_inks_whole) (n := 63) (k := 9) (x := "_law_script") rfl (by decide) (by kernel_rfl) ⟨rfl, by decide, by decide⟩ ?F
    intro w mg fa h Y G hmg0
    obtain ⟨K, KX, c⟩ := Y
    have hmg : mg ("law" : PySem.Str) = some (.ref fa) := by
      have e : (HandSHeadRun.topDef (OpenLaw.row PySem.Challenge.rw_stampsheets_k71_plain_inks_whole).prog 84).name = ("law" : PySem.Str) := by kernel_rfl
      rw [← e]
      exact hmg0
    obtain ⟨fd, hb, hF⟩ := K71.law_facts (P := (PySem.Challenge.rw_stampsheets_k71_plain_inks_whole).prog) (w := w) KX G hmg c
    exact ⟨K, fd, KD.spF (K71.R_law K), KX, hb, fun H a ns hl hS => ⟨H, [KD.kScr K ns], KD.kB K true, fun _ _ z => z, ⟨ns, hl, rfl, rfl⟩, ⟨⟨a, rfl, hS⟩, trivial⟩, fun v S' H' g hv => KD.dp_bl hv⟩, fun base _ _ => hF base⟩
end
