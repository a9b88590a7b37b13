import PyProof.Rows.All
import Wide.All
import OpenK.AllK
import Wide.FinOn
import PySem.Challenge.RW_pb0267_01
open PySem PySem.W PyProof.Rows
set_option Elab.async false
namespace Mine
section
open PySem PySem.W PyProof.Rows

abbrev prg : Program := PySem.Challenge.pw_pb0267_01
def body : List Stmt := prg.main.body
def restAt (n : Nat) : List Stmt := body.drop n
def strOf : Stmt → Str
  | .Assign _ (.Constant (.str x) _ _) _ => x
  | _ => ⟨#[]⟩
def stmtAt (n : Nat) : Stmt := match body.drop n with
  | s :: _ => s
  | [] => .Pass default
def longText : Str := strOf (stmtAt 48)
def nameTgt : Stmt → List Expr
  | .Assign t _ _ => t
  | _ => []
def lk0 : Look := { strict := false, foot := none, bare := [] }

theorem nr_cons (lk : Look) (s : Stmt) (r : List Stmt) : noRoadLSs lk (s :: r) = (noRoadLS lk s && noRoadLSs lk r) := rfl
theorem nr_asg (lk : Look) (ts : List PySem.Expr) (x : Str) (n p q) : noRoadLS lk (.Assign ts (.Constant (.str x) n p) q) = (lk.stores ts && noRoadLs lk ts && lk.str x) := rfl
theorem noRoadLSs_append (lk : Look) : ∀ a b : List Stmt, noRoadLSs lk a = true → noRoadLSs lk b = true → noRoadLSs lk (a ++ b) = true
  | [], b, _, h => h
  | s :: a, b, h, h' => by
    have h1 := (nr_cons lk s a).symm.trans h
    rw [Bool.and_eq_true] at h1
    rw [List.cons_append, nr_cons, h1.1, noRoadLSs_append lk a b h1.2 h']
    rfl

theorem size_differs {x y : Str} (h : x.cps.size ≠ y.cps.size) : (x == y) = false := by
  rw [beq_eq_false_iff_ne]
  rintro rfl
  exact h rfl
theorem not_contained {l : List Str} {x : Str} (n : Nat) (hl : (l.all fun s => Nat.ble s.cps.size n) = true) (hx : Nat.blt n x.cps.size = true) : l.contains x = false := by
  rw [List.contains_eq_any_beq, List.any_eq_false]
  intro s hs
  have h1 := List.all_eq_true.mp hl s hs
  have h1 := Nat.le_of_ble_eq_true h1
  have h2 : n < x.cps.size := Nat.lt_of_lt_of_le (Nat.lt_succ_self n) (Nat.le_of_ble_eq_true hx)
  rw [size_differs (by omega)]
  exact Bool.false_ne_true

theorem str_ok {x : Str} (hx : Nat.blt 100 x.cps.size = true) (ho : x.opensWith "__" = false) (hr : roadStr x = false) : Look.str { lk0 with } x = true := by
  have hf : frameAttrs.contains x = false := not_contained 100 (by decide +kernel) hx
  unfold Look.str Look.word attrL
  rw [hf, ho, hr]
  simp [lk0]


set_option maxRecDepth 100000 in
set_option maxHeartbeats 4000000 in
/-- the signs of the long text, one by one -/
noncomputable def longP : { l : List Char // longText = ⟨(l.map Char.toNat).toArray⟩ } := ⟨_, by
  with_unfolding_all exact PySem.W.Fast.ofString_ofList _⟩
set_option maxRecDepth 100000 in
theorem long_size : Nat.blt 100 longText.cps.size = true := by
  rw [longP.2]
  kernel_rfl
set_option maxRecDepth 100000 in
theorem long_open : (!longText.opensWith "__") = true := by
  rw [longP.2]
  kernel_rfl

def hasSign (l : List Nat) : Bool := l.any fun c => c == 123 || c == 125 || c == 46
theorem road_no {x : Str} (h : (!hasSign x.cps.toList) = true) : roadStr x = false := by
  have h : hasSign x.cps.toList = false := by simpa using h
  unfold hasSign at h
  rw [List.any_eq_false] at h
  unfold roadStr
  rw [← Array.any_toList, ← Array.any_toList, Bool.or_eq_false_iff]
  constructor
  · rw [List.any_eq_false]
    intro c hc q
    exact h c hc (by simp_all)
  · rw [Bool.and_eq_false_iff]
    left
    rw [List.any_eq_false]
    intro c hc q
    exact h c hc (by simp_all)
set_option maxRecDepth 100000 in
set_option maxHeartbeats 4000000 in
theorem long_road : roadStr longText = false := road_no (by rw [longP.2]; kernel_rfl)
theorem long_ok : Look.str lk0 longText = true := str_ok long_size (by simpa using long_open) long_road

set_option maxRecDepth 100000 in
set_option maxHeartbeats 4000000 in
theorem body_split : body = body.take 48 ++ (.Assign (nameTgt (stmtAt 48)) (.Constant (.str longText) 0 (match stmtAt 48 with | .Assign _ (.Constant _ _ p) _ => p | _ => default)) (match stmtAt 48 with | .Assign _ _ p => p | _ => default)) :: body.drop 49 := by kernel_rfl

set_option maxRecDepth 100000 in
set_option maxHeartbeats 4000000 in
theorem road_head : noRoadLSs lk0 (body.take 48) = true := by kernel_rfl
set_option maxRecDepth 100000 in
set_option maxHeartbeats 4000000 in
theorem road_tgt : (lk0.stores (nameTgt (stmtAt 48)) && noRoadLs lk0 (nameTgt (stmtAt 48))) = true := by kernel_rfl
set_option maxRecDepth 100000 in
set_option maxHeartbeats 4000000 in
theorem road_tail : noRoadLSs lk0 (body.drop 49) = true := by kernel_rfl
theorem noRoad_mid {lk : Look} {a b : List Stmt} {ts : List Expr} {x : Str} {n p q} (ha : noRoadLSs lk a = true) (ht : (lk.stores ts && noRoadLs lk ts) = true) (hx : Look.str lk x = true) (hb : noRoadLSs lk b = true) :
    noRoadLSs lk (a ++ (.Assign ts (.Constant (.str x) n p) q) :: b) = true := by
  refine noRoadLSs_append _ _ _ ha ?_
  rw [nr_cons, nr_asg, ht, hb, hx]
  rfl
set_option maxRecDepth 100000 in
theorem road_all : noRoadLSs lk0 body = true :=
  body_split.symm ▸ noRoad_mid road_head road_tgt long_ok road_tail
set_option maxRecDepth 100000 in
set_option maxHeartbeats 4000000 in
theorem strict_no : (importedModules body).all cThrough.contains = true := by kernel_rfl
set_option maxRecDepth 100000 in
set_option maxHeartbeats 4000000 in
theorem out_vars : (!readsOut prg body "vars") = true := by kernel_rfl
set_option maxRecDepth 100000 in
set_option maxHeartbeats 4000000 in
theorem out_dir : (!readsOut prg body "dir") = true := by kernel_rfl
set_option maxRecDepth 100000 in
set_option maxHeartbeats 4000000 in
theorem out_locals : (!readsOut prg body "locals") = true := by kernel_rfl
theorem road_said : noRoadLSs { strict := !(importedModules body).all cThrough.contains, foot := none, bare := (["vars", "dir", "locals"] : List Str).filter (readsOut prg body) } body = true := by
  have h1 := out_vars
  have h2 := out_dir
  have h3 := out_locals
  simp only [Bool.not_eq_true'] at h1 h2 h3
  rw [strict_no, List.filter_cons, h1, List.filter_cons, h2, List.filter_cons, h3]
  exact road_all

theorem road_row : noRoadLSs { strict := !(importedModules PySem.Challenge.rw_pb0267_01.row.prog.main.body).all cThrough.contains, foot := none, bare := (["vars", "dir", "locals"] : List Str).filter (readsOut PySem.Challenge.rw_pb0267_01.row.prog PySem.Challenge.rw_pb0267_01.row.prog.main.body) } PySem.Challenge.rw_pb0267_01.row.prog.main.body = true := road_said
set_option maxRecDepth 100000 in
set_option maxHeartbeats 8000000 in
theorem law_said : PySem.Challenge.rw_pb0267_01.wellSaid = true := by
  unfold OpenLaw.wellSaid OpenRow.wellSaid OpenRow.partSaid looksOpen
  repeat' (with_reducible refine look_both ?_ ?_)
  all_goals first | with_reducible exact road_row | kernel_rfl
end
end Mine
namespace Mine
noncomputable section
set_option maxRecDepth 100000
open PySem PySem.W PySem.Calls

open PySem.W.SL
abbrev OB := Program → Params → Obj
noncomputable abbrev prgQ : Program := PySem.Challenge.pw_pb0267_01
noncomputable abbrev sAt (p : Program) (n : Nat) : Stmt := match p.main.body.drop n with
  | s :: _ => s
  | [] => .Pass ⟨0, 0, 0, 0⟩
noncomputable abbrev mAt (p : Program) (n k : Nat) : Stmt := match sAt p n with
  | .ClassDef _ _ _ b _ _ _ _ _ _ _ => (match b.drop k with
    | s :: _ => s
    | [] => .Pass ⟨0, 0, 0, 0⟩)
  | _ => .Pass ⟨0, 0, 0, 0⟩
noncomputable abbrev fA : Stmt → Arguments
  | .FunctionDef _ a _ _ _ _ _ _ _ _ => a
  | _ => ⟨[], [], none, [], [], none, []⟩
noncomputable abbrev fB : Stmt → List Stmt
  | .FunctionDef _ _ b _ _ _ _ _ _ _ => b
  | _ => []
noncomputable abbrev fS (s : Stmt) (p : Program) : Scope := match s with
  | .FunctionDef _ _ _ _ _ _ s _ _ _ => s
  | _ => p.main.scope
noncomputable abbrev longQ (p : Program) : Str := match sAt p (nat_lit 48) with
  | .Assign _ (.Constant (.str x) _ _) _ => x
  | _ => ⟨⟨[]⟩⟩
noncomputable abbrev lifeQ : Life := {}
noncomputable abbrev tbQ := treeTable
noncomputable abbrev o11a : OB := fun _ _ => ⟨(.type s2766695959194262286x5), none, (.seq ⟨[]⟩ (nat_lit 0)), ⟨[]⟩⟩
noncomputable abbrev o12a : OB := fun _ _ => ⟨.none, none, (.fields ⟨[]⟩), ⟨[]⟩⟩
noncomputable abbrev z0 : Str := ⟨⟨[nat_lit 60, nat_lit 109, nat_lit 111, nat_lit 100, nat_lit 117, nat_lit 108, nat_lit 101, nat_lit 62]⟩⟩
noncomputable abbrev z1 : Str := ⟨⟨[nat_lit 47, nat_lit 99, nat_lit 108, nat_lit 97, nat_lit 105, nat_lit 109, nat_lit 47, nat_lit 99, nat_lit 117, nat_lit 116, nat_lit 46, nat_lit 112, nat_lit 121]⟩⟩
noncomputable abbrev o13a : OB := fun _ _ => ⟨(.type s5856160107412720595x4), none, (.fields ⟨[(.str z0 (nat_lit 182)), (.str z0 (nat_lit 183)), (.str z1 (nat_lit 184)), (.int (.ofNat (nat_lit 1)) (nat_lit 0)), (.int (.ofNat (nat_lit 0)) (nat_lit 0)), (.int (.ofNat (nat_lit 0)) (nat_lit 0)), (.int (.ofNat (nat_lit 0)) (nat_lit 0)), (.int (.ofNat (nat_lit 0)) (nat_lit 0)), (.ref (nat_lit 11)), (.bool false), (.int (.ofNat (nat_lit 181)) (nat_lit 0)), (.ref (nat_lit 12)), .none, .none, .none, .none, (.int (.ofNat (nat_lit 185)) (nat_lit 0)), (.int (.ofNat (nat_lit 1)) (nat_lit 0)), (.str z1 (nat_lit 186))]⟩), ⟨[]⟩⟩
noncomputable abbrev z2 : Str := ⟨⟨[nat_lit 95, nat_lit 95, nat_lit 109, nat_lit 97, nat_lit 105, nat_lit 110, nat_lit 95, nat_lit 95]⟩⟩
noncomputable abbrev o14a : OB := fun _ _ => ⟨(.type s658472552662922059x5), none, .plain, ⟨[(some (.ref (nat_lit 13))), (some (.ref (nat_lit 3))), (some (.ref (nat_lit 3))), none, (some (.str z2 (nat_lit 164))), none, (some (.ref (nat_lit 0)))]⟩⟩
noncomputable abbrev m0Q : Nat := nat_lit 11
noncomputable abbrev annQ : Option Value := (some (.ref (nat_lit 6)))
noncomputable abbrev envQ : Env := { scope := prgQ.main.scope, locals := mainNs, globals := mainNs, cells := [], code := (.ref (nat_lit 13)), frame := some (nat_lit 14) }
noncomputable abbrev restQ : List Stmt := behindTheImports prgQ
noncomputable abbrev codeQ : Code := .body restQ envQ
noncomputable abbrev stackQ : List Frame := [topFrame ⟨nat_lit 0, nat_lit 0, nat_lit 0, nat_lit 0⟩]
noncomputable abbrev tr0 (P : Params) : BT := (((((((((((((((BT.nil.ins (nat_lit 0) (boot_o_0 P)).ins (nat_lit 1) (boot_o_1 P)).ins (nat_lit 2) (boot_o_2 P)).ins (nat_lit 3) (boot_o_3 P)).ins (nat_lit 4) (boot_o_4 P)).ins (nat_lit 5) (boot_o_5 P)).ins (nat_lit 6) (boot_o_6 P)).ins (nat_lit 7) (boot_o_7 P)).ins (nat_lit 8) (boot_o_8 P)).ins (nat_lit 9) (boot_o_9 P)).ins (nat_lit 10) (boot_o_10 P)).ins (nat_lit 11) (o11a prgQ P)).ins (nat_lit 12) (o12a prgQ P)).ins (nat_lit 13) (o13a prgQ P)).ins (nat_lit 14) (o14a prgQ P))
noncomputable abbrev sA (w : World) (os : OsState) : Shared := ⟨(((((boot_heap w.params).push (o11a prgQ w.params)).push (o12a prgQ w.params)).push (o13a prgQ w.params)).push (o14a prgQ w.params)), ⟨[]⟩, boot_drawn, nat_lit 187, os⟩
noncomputable abbrev st0 (w : World) (os : OsState) : SharedT := ⟨tr0 w.params, nat_lit 15, lifeQ, ⟨[]⟩, boot_drawn, nat_lit 187, os⟩
/-! PRE 12 at ⟨nat_lit 0, nat_lit 0, nat_lit 0, nat_lit 0⟩ BLOCK 0 at ⟨nat_lit 0, nat_lit 0, nat_lit 0, nat_lit 0⟩ -/
noncomputable abbrev z3 : Str := ⟨⟨[nat_lit 116, nat_lit 121, nat_lit 112, nat_lit 101, nat_lit 46, nat_lit 95, nat_lit 95, nat_lit 115, nat_lit 117, nat_lit 98, nat_lit 99, nat_lit 108, nat_lit 97, nat_lit 115, nat_lit 115, nat_lit 101, nat_lit 115, nat_lit 95, nat_lit 95, nat_lit 46, nat_lit 69, nat_lit 120, nat_lit 99, nat_lit 101, nat_lit 112, nat_lit 116, nat_lit 105, nat_lit 111, nat_lit 110, nat_lit 46, nat_lit 48]⟩⟩
noncomputable abbrev z4 : Str := ⟨⟨[nat_lit 116, nat_lit 121, nat_lit 112, nat_lit 101, nat_lit 46, nat_lit 95, nat_lit 95, nat_lit 115, nat_lit 117, nat_lit 98, nat_lit 99, nat_lit 108, nat_lit 97, nat_lit 115, nat_lit 115, nat_lit 101, nat_lit 115, nat_lit 95, nat_lit 95, nat_lit 46, nat_lit 69, nat_lit 120, nat_lit 99, nat_lit 101, nat_lit 112, nat_lit 116, nat_lit 105, nat_lit 111, nat_lit 110, nat_lit 46, nat_lit 110]⟩⟩
noncomputable abbrev o2_1 : OB := fun _ P => ⟨.none, none, (.dict ⟨[⟨PyData.keyHash P z3, (.str z3 (nat_lit 232)), (.int (.ofNat (nat_lit 47)) (nat_lit 0))⟩, ⟨PyData.keyHash P z4, (.str z4 (nat_lit 233)), (.int (.ofNat (nat_lit 1)) (nat_lit 0))⟩]⟩ (nat_lit 2)), ⟨[]⟩⟩
noncomputable abbrev z5 : Str := ⟨⟨[nat_lit 95, nat_lit 95, nat_lit 110, nat_lit 97, nat_lit 109, nat_lit 101, nat_lit 95, nat_lit 95]⟩⟩
noncomputable abbrev z6 : Str := ⟨⟨[nat_lit 108, nat_lit 101, nat_lit 100, nat_lit 103, nat_lit 101, nat_lit 114, nat_lit 115, nat_lit 112, nat_lit 101, nat_lit 97, nat_lit 107, nat_lit 46, nat_lit 101, nat_lit 114, nat_lit 114, nat_lit 111, nat_lit 114, nat_lit 115]⟩⟩
noncomputable abbrev z7 : Str := ⟨⟨[nat_lit 95, nat_lit 95, nat_lit 100, nat_lit 111, nat_lit 99, nat_lit 95, nat_lit 95]⟩⟩
noncomputable abbrev z8 : Str := ⟨⟨[nat_lit 95, nat_lit 95, nat_lit 112, nat_lit 97, nat_lit 99, nat_lit 107, nat_lit 97, nat_lit 103, nat_lit 101, nat_lit 95, nat_lit 95]⟩⟩
noncomputable abbrev z9 : Str := ⟨⟨[nat_lit 95, nat_lit 95, nat_lit 108, nat_lit 111, nat_lit 97, nat_lit 100, nat_lit 101, nat_lit 114, nat_lit 95, nat_lit 95]⟩⟩
noncomputable abbrev z10 : Str := ⟨⟨[nat_lit 95, nat_lit 95, nat_lit 115, nat_lit 112, nat_lit 101, nat_lit 99, nat_lit 95, nat_lit 95]⟩⟩
noncomputable abbrev z11 : Str := ⟨⟨[nat_lit 95, nat_lit 95, nat_lit 97, nat_lit 110, nat_lit 110, nat_lit 111, nat_lit 116, nat_lit 97, nat_lit 116, nat_lit 105, nat_lit 111, nat_lit 110, nat_lit 115, nat_lit 95, nat_lit 95]⟩⟩
noncomputable abbrev z12 : Str := ⟨⟨[nat_lit 95, nat_lit 95, nat_lit 98, nat_lit 117, nat_lit 105, nat_lit 108, nat_lit 116, nat_lit 105, nat_lit 110, nat_lit 115, nat_lit 95, nat_lit 95]⟩⟩
noncomputable abbrev z13 : Str := ⟨⟨[nat_lit 95, nat_lit 95, nat_lit 102, nat_lit 105, nat_lit 108, nat_lit 101, nat_lit 95, nat_lit 95]⟩⟩
noncomputable abbrev z14 : Str := ⟨⟨[nat_lit 95, nat_lit 95, nat_lit 99, nat_lit 97, nat_lit 99, nat_lit 104, nat_lit 101, nat_lit 100, nat_lit 95, nat_lit 95]⟩⟩
noncomputable abbrev z15 : Str := ⟨⟨[nat_lit 95, nat_lit 119, nat_lit 97, nat_lit 108, nat_lit 108]⟩⟩
noncomputable abbrev z16 : Str := ⟨⟨[nat_lit 76, nat_lit 101, nat_lit 100, nat_lit 103, nat_lit 101, nat_lit 114, nat_lit 69, nat_lit 114, nat_lit 114, nat_lit 111, nat_lit 114]⟩⟩
noncomputable abbrev o3_1 : OB := fun _ P => ⟨(.type s14018661285674007319x4), none, (.dict ⟨[⟨PyData.keyHash P z5, (.str z5 (nat_lit 165)), (.str z6 (nat_lit 194))⟩, ⟨PyData.keyHash P z7, (.str z7 (nat_lit 166)), .none⟩, ⟨PyData.keyHash P z8, (.str z8 (nat_lit 167)), .none⟩, ⟨PyData.keyHash P z9, (.str z9 (nat_lit 168)), (.builtin s7097527257260152453x26)⟩, ⟨PyData.keyHash P z10, (.str z10 (nat_lit 169)), .none⟩, ⟨PyData.keyHash P z11, (.str z11 (nat_lit 170)), (.ref (nat_lit 6))⟩, ⟨PyData.keyHash P z12, (.str z12 (nat_lit 171)), (.ref (nat_lit 4))⟩, ⟨PyData.keyHash P z13, (.str z13 (nat_lit 173)), (.str z1 (nat_lit 172))⟩, ⟨PyData.keyHash P z14, (.str z14 (nat_lit 174)), .none⟩, ⟨PyData.keyHash P z15, (.str z15 (nat_lit 193)), (.ref (nat_lit 21))⟩, ⟨PyData.keyHash P z16, (.str z16 (nat_lit 235)), (.ref (nat_lit 47))⟩]⟩ (nat_lit 11)), ⟨[]⟩⟩
noncomputable abbrev o12_1 : OB := fun _ _ => ⟨.none, none, (.fields ⟨[(.int (.ofNat (nat_lit 1)) (nat_lit 0)), (.int (.ofNat (nat_lit 0)) (nat_lit 0)), (.ref (nat_lit 20)), (.int (.ofNat (nat_lit 5)) (nat_lit 0)), (.int (.ofNat (nat_lit 0)) (nat_lit 0)), (.ref (nat_lit 27))]⟩), ⟨[]⟩⟩
noncomputable abbrev o15_1 : OB := fun _ _ => ⟨(.type s2766695959194262286x5), none, (.seq ⟨[]⟩ (nat_lit 0)), ⟨[]⟩⟩
noncomputable abbrev o16_1 : OB := fun _ _ => ⟨.none, none, (.fields ⟨[]⟩), ⟨[]⟩⟩
noncomputable abbrev z17 : Str := ⟨⟨[nat_lit 107]⟩⟩
noncomputable abbrev o17_1 : OB := fun _ _ => ⟨(.type s2766695959194262286x5), none, (.seq ⟨[(.str z17 (nat_lit 190))]⟩ (nat_lit 0)), ⟨[]⟩⟩
noncomputable abbrev o18_1 : OB := fun _ _ => ⟨(.type s2766695959194262286x5), none, (.seq ⟨[]⟩ (nat_lit 0)), ⟨[]⟩⟩
noncomputable abbrev o19_1 : OB := fun p _ => ⟨.none, none, (.func ⟨z15, z15, fA (sAt p (nat_lit 0)), (.stmts (fB (sAt p (nat_lit 0)))), fS (sAt p (nat_lit 0)) p, nat_lit 0, [], .none, .none, .none, .none, none, .none, .none, nat_lit 0⟩), ⟨[]⟩⟩
noncomputable abbrev o20_1 : OB := fun _ _ => ⟨(.type s5856160107412720595x4), none, (.fields ⟨[(.str z15 (nat_lit 187)), (.str z15 (nat_lit 188)), (.str z1 (nat_lit 189)), (.int (.ofNat (nat_lit 1)) (nat_lit 0)), (.int (.ofNat (nat_lit 1)) (nat_lit 0)), (.int (.ofNat (nat_lit 0)) (nat_lit 0)), (.int (.ofNat (nat_lit 0)) (nat_lit 0)), (.int (.ofNat (nat_lit 3)) (nat_lit 0)), (.ref (nat_lit 15)), (.bool true), (.int (.ofNat (nat_lit 181)) (nat_lit 0)), (.ref (nat_lit 16)), .none, (.ref (nat_lit 17)), (.ref (nat_lit 18)), (.ref (nat_lit 19)), (.int (.ofNat (nat_lit 191)) (nat_lit 0)), (.int (.ofNat (nat_lit 1)) (nat_lit 0)), (.str z1 (nat_lit 192))]⟩), ⟨[]⟩⟩
noncomputable abbrev o21_1 : OB := fun p _ => ⟨(.type s7174869446012820540x8), none, (.func ⟨z15, z15, fA (sAt p (nat_lit 0)), (.stmts (fB (sAt p (nat_lit 0)))), fS (sAt p (nat_lit 0)) p, nat_lit 3, [], .none, .none, .none, (.str z2 (nat_lit 164)), none, (.ref (nat_lit 20)), .none, nat_lit 0⟩), ⟨[]⟩⟩
noncomputable abbrev o22_1 : OB := fun _ _ => ⟨(.type s2766695959194262286x5), none, (.seq ⟨[(.type s5946037652744460706x9)]⟩ (nat_lit 0)), ⟨[]⟩⟩
noncomputable abbrev o23_1 : OB := fun _ _ => ⟨(.type s11030030927630378310x26), none, (.fields ⟨[(.builtin s10062305145149207511x16), (.type s17162191345867700912x4)]⟩), ⟨[]⟩⟩
noncomputable abbrev z18 : Str := ⟨⟨[nat_lit 95, nat_lit 95, nat_lit 109, nat_lit 111, nat_lit 100, nat_lit 117, nat_lit 108, nat_lit 101, nat_lit 95, nat_lit 95]⟩⟩
noncomputable abbrev z19 : Str := ⟨⟨[nat_lit 95, nat_lit 95, nat_lit 113, nat_lit 117, nat_lit 97, nat_lit 108, nat_lit 110, nat_lit 97, nat_lit 109, nat_lit 101, nat_lit 95, nat_lit 95]⟩⟩
noncomputable abbrev z20 : Str := ⟨⟨[nat_lit 95, nat_lit 95, nat_lit 102, nat_lit 105, nat_lit 114, nat_lit 115, nat_lit 116, nat_lit 108, nat_lit 105, nat_lit 110, nat_lit 101, nat_lit 110, nat_lit 111, nat_lit 95, nat_lit 95]⟩⟩
noncomputable abbrev z21 : Str := ⟨⟨[nat_lit 95, nat_lit 95, nat_lit 105, nat_lit 110, nat_lit 105, nat_lit 116, nat_lit 95, nat_lit 95]⟩⟩
noncomputable abbrev z22 : Str := ⟨⟨[nat_lit 116, nat_lit 111, nat_lit 108, nat_lit 100]⟩⟩
noncomputable abbrev z23 : Str := ⟨⟨[nat_lit 95, nat_lit 95, nat_lit 115, nat_lit 116, nat_lit 97, nat_lit 116, nat_lit 105, nat_lit 99, nat_lit 95, nat_lit 97, nat_lit 116, nat_lit 116, nat_lit 114, nat_lit 105, nat_lit 98, nat_lit 117, nat_lit 116, nat_lit 101, nat_lit 115, nat_lit 95, nat_lit 95]⟩⟩
noncomputable abbrev o24_1 : OB := fun _ P => ⟨(.type s14018661285674007319x4), none, (.dict ⟨[⟨PyData.keyHash P z18, (.str z18 (nat_lit 203)), (.str z6 (nat_lit 194))⟩, ⟨PyData.keyHash P z19, (.str z19 (nat_lit 205)), (.str z16 (nat_lit 204))⟩, ⟨PyData.keyHash P z20, (.str z20 (nat_lit 207)), (.int (.ofNat (nat_lit 5)) (nat_lit 206))⟩, ⟨PyData.keyHash P z21, (.str z21 (nat_lit 218)), (.ref (nat_lit 37))⟩, ⟨PyData.keyHash P z22, (.str z22 (nat_lit 225)), (.ref (nat_lit 44))⟩, ⟨PyData.keyHash P z23, (.str z23 (nat_lit 228)), (.ref (nat_lit 45))⟩]⟩ (nat_lit 6)), ⟨[]⟩⟩
noncomputable abbrev o25_1 : OB := fun _ _ => ⟨(.type s2766695959194262286x5), none, (.seq ⟨[]⟩ (nat_lit 0)), ⟨[]⟩⟩
noncomputable abbrev o26_1 : OB := fun _ _ => ⟨.none, none, (.fields ⟨[(.int (.ofNat (nat_lit 7)) (nat_lit 0)), (.int (.ofNat (nat_lit 4)) (nat_lit 0)), (.ref (nat_lit 36)), (.int (.ofNat (nat_lit 12)) (nat_lit 0)), (.int (.ofNat (nat_lit 4)) (nat_lit 0)), (.ref (nat_lit 43))]⟩), ⟨[]⟩⟩
noncomputable abbrev o27_1 : OB := fun _ _ => ⟨(.type s5856160107412720595x4), none, (.fields ⟨[(.str z16 (nat_lit 198)), (.str z16 (nat_lit 199)), (.str z1 (nat_lit 200)), (.int (.ofNat (nat_lit 5)) (nat_lit 0)), (.int (.ofNat (nat_lit 0)) (nat_lit 0)), (.int (.ofNat (nat_lit 0)) (nat_lit 0)), (.int (.ofNat (nat_lit 0)) (nat_lit 0)), (.int (.ofNat (nat_lit 0)) (nat_lit 0)), (.ref (nat_lit 25)), (.bool false), (.int (.ofNat (nat_lit 181)) (nat_lit 0)), (.ref (nat_lit 26)), .none, .none, .none, .none, (.int (.ofNat (nat_lit 201)) (nat_lit 0)), (.int (.ofNat (nat_lit 5)) (nat_lit 0)), (.str z1 (nat_lit 202))]⟩), ⟨[]⟩⟩
noncomputable abbrev o28_1 : OB := fun _ _ => ⟨(.type s658472552662922059x5), none, .plain, ⟨[(some (.ref (nat_lit 27))), (some (.ref (nat_lit 3))), (some (.ref (nat_lit 24))), none, (some (.str z6 (nat_lit 194))), none, (some (.ref (nat_lit 0)))]⟩⟩
noncomputable abbrev o29_1 : OB := fun _ _ => ⟨(.type s2766695959194262286x5), none, (.seq ⟨[(.int (.ofNat (nat_lit 0)) (nat_lit 208)), (.int (.ofNat (nat_lit 0)) (nat_lit 209))]⟩ (nat_lit 0)), ⟨[]⟩⟩
noncomputable abbrev o30_1 : OB := fun _ _ => ⟨(.type s2766695959194262286x5), none, (.seq ⟨[(.ref (nat_lit 29))]⟩ (nat_lit 0)), ⟨[]⟩⟩
noncomputable abbrev o31_1 : OB := fun _ _ => ⟨(.type s2766695959194262286x5), none, (.seq ⟨[]⟩ (nat_lit 0)), ⟨[]⟩⟩
noncomputable abbrev o32_1 : OB := fun _ _ => ⟨.none, none, (.fields ⟨[]⟩), ⟨[]⟩⟩
noncomputable abbrev z24 : Str := ⟨⟨[nat_lit 115, nat_lit 101, nat_lit 108, nat_lit 102]⟩⟩
noncomputable abbrev z25 : Str := ⟨⟨[nat_lit 119, nat_lit 104, nat_lit 97, nat_lit 116]⟩⟩
noncomputable abbrev z26 : Str := ⟨⟨[nat_lit 97, nat_lit 116]⟩⟩
noncomputable abbrev o33_1 : OB := fun _ _ => ⟨(.type s2766695959194262286x5), none, (.seq ⟨[(.str z24 (nat_lit 213)), (.str z25 (nat_lit 214)), (.str z26 (nat_lit 215))]⟩ (nat_lit 0)), ⟨[]⟩⟩
noncomputable abbrev o34_1 : OB := fun _ _ => ⟨(.type s2766695959194262286x5), none, (.seq ⟨[]⟩ (nat_lit 0)), ⟨[]⟩⟩
noncomputable abbrev z27 : Str := ⟨⟨[nat_lit 76, nat_lit 101, nat_lit 100, nat_lit 103, nat_lit 101, nat_lit 114, nat_lit 69, nat_lit 114, nat_lit 114, nat_lit 111, nat_lit 114, nat_lit 46, nat_lit 95, nat_lit 95, nat_lit 105, nat_lit 110, nat_lit 105, nat_lit 116, nat_lit 95, nat_lit 95]⟩⟩
noncomputable abbrev o35_1 : OB := fun p _ => ⟨.none, none, (.func ⟨z21, z27, fA (mAt p (nat_lit 2) (nat_lit 0)), (.stmts (fB (mAt p (nat_lit 2) (nat_lit 0)))), fS (mAt p (nat_lit 2) (nat_lit 0)) p, nat_lit 0, [], .none, .none, .none, .none, none, .none, .none, nat_lit 0⟩), ⟨[]⟩⟩
noncomputable abbrev o36_1 : OB := fun _ _ => ⟨(.type s5856160107412720595x4), none, (.fields ⟨[(.str z21 (nat_lit 210)), (.str z27 (nat_lit 211)), (.str z1 (nat_lit 212)), (.int (.ofNat (nat_lit 7)) (nat_lit 0)), (.int (.ofNat (nat_lit 3)) (nat_lit 0)), (.int (.ofNat (nat_lit 0)) (nat_lit 0)), (.int (.ofNat (nat_lit 0)) (nat_lit 0)), (.int (.ofNat (nat_lit 3)) (nat_lit 0)), (.ref (nat_lit 31)), (.bool true), (.int (.ofNat (nat_lit 181)) (nat_lit 0)), (.ref (nat_lit 32)), .none, (.ref (nat_lit 33)), (.ref (nat_lit 34)), (.ref (nat_lit 35)), (.int (.ofNat (nat_lit 216)) (nat_lit 0)), (.int (.ofNat (nat_lit 7)) (nat_lit 0)), (.str z1 (nat_lit 217))]⟩), ⟨[]⟩⟩
noncomputable abbrev o37_1 : OB := fun p _ => ⟨(.type s7174869446012820540x8), none, (.func ⟨z21, z27, fA (mAt p (nat_lit 2) (nat_lit 0)), (.stmts (fB (mAt p (nat_lit 2) (nat_lit 0)))), fS (mAt p (nat_lit 2) (nat_lit 0)) p, nat_lit 3, [], (.ref (nat_lit 30)), .none, .none, (.str z6 (nat_lit 194)), none, (.ref (nat_lit 36)), .none, nat_lit 0⟩), ⟨[]⟩⟩
noncomputable abbrev o38_1 : OB := fun _ _ => ⟨(.type s2766695959194262286x5), none, (.seq ⟨[]⟩ (nat_lit 0)), ⟨[]⟩⟩
noncomputable abbrev o39_1 : OB := fun _ _ => ⟨.none, none, (.fields ⟨[]⟩), ⟨[]⟩⟩
noncomputable abbrev o40_1 : OB := fun _ _ => ⟨(.type s2766695959194262286x5), none, (.seq ⟨[(.str z24 (nat_lit 222))]⟩ (nat_lit 0)), ⟨[]⟩⟩
noncomputable abbrev o41_1 : OB := fun _ _ => ⟨(.type s2766695959194262286x5), none, (.seq ⟨[]⟩ (nat_lit 0)), ⟨[]⟩⟩
noncomputable abbrev z28 : Str := ⟨⟨[nat_lit 76, nat_lit 101, nat_lit 100, nat_lit 103, nat_lit 101, nat_lit 114, nat_lit 69, nat_lit 114, nat_lit 114, nat_lit 111, nat_lit 114, nat_lit 46, nat_lit 116, nat_lit 111, nat_lit 108, nat_lit 100]⟩⟩
noncomputable abbrev o42_1 : OB := fun p _ => ⟨.none, none, (.func ⟨z22, z28, fA (mAt p (nat_lit 2) (nat_lit 1)), (.stmts (fB (mAt p (nat_lit 2) (nat_lit 1)))), fS (mAt p (nat_lit 2) (nat_lit 1)) p, nat_lit 0, [], .none, .none, .none, .none, none, .none, .none, nat_lit 0⟩), ⟨[]⟩⟩
noncomputable abbrev o43_1 : OB := fun _ _ => ⟨(.type s5856160107412720595x4), none, (.fields ⟨[(.str z22 (nat_lit 219)), (.str z28 (nat_lit 220)), (.str z1 (nat_lit 221)), (.int (.ofNat (nat_lit 12)) (nat_lit 0)), (.int (.ofNat (nat_lit 1)) (nat_lit 0)), (.int (.ofNat (nat_lit 0)) (nat_lit 0)), (.int (.ofNat (nat_lit 0)) (nat_lit 0)), (.int (.ofNat (nat_lit 3)) (nat_lit 0)), (.ref (nat_lit 38)), (.bool true), (.int (.ofNat (nat_lit 181)) (nat_lit 0)), (.ref (nat_lit 39)), .none, (.ref (nat_lit 40)), (.ref (nat_lit 41)), (.ref (nat_lit 42)), (.int (.ofNat (nat_lit 223)) (nat_lit 0)), (.int (.ofNat (nat_lit 12)) (nat_lit 0)), (.str z1 (nat_lit 224))]⟩), ⟨[]⟩⟩
noncomputable abbrev o44_1 : OB := fun p _ => ⟨(.type s7174869446012820540x8), none, (.func ⟨z22, z28, fA (mAt p (nat_lit 2) (nat_lit 1)), (.stmts (fB (mAt p (nat_lit 2) (nat_lit 1)))), fS (mAt p (nat_lit 2) (nat_lit 1)) p, nat_lit 3, [], .none, .none, .none, (.str z6 (nat_lit 194)), none, (.ref (nat_lit 43)), .none, nat_lit 0⟩), ⟨[]⟩⟩
noncomputable abbrev o45_1 : OB := fun _ _ => ⟨(.type s2766695959194262286x5), none, (.seq ⟨[(.str z26 (nat_lit 226)), (.str z25 (nat_lit 227))]⟩ (nat_lit 0)), ⟨[]⟩⟩
noncomputable abbrev z29 : Str := ⟨⟨[nat_lit 95, nat_lit 95, nat_lit 119, nat_lit 101, nat_lit 97, nat_lit 107, nat_lit 114, nat_lit 101, nat_lit 102, nat_lit 95, nat_lit 95]⟩⟩
noncomputable abbrev o46_1 : OB := fun _ P => ⟨(.type s14018661285674007319x4), none, (.dict ⟨[⟨PyData.keyHash P z18, (.str z18 (nat_lit 203)), (.str z6 (nat_lit 194))⟩, ⟨PyData.keyHash P z20, (.str z20 (nat_lit 207)), (.int (.ofNat (nat_lit 5)) (nat_lit 206))⟩, ⟨PyData.keyHash P z21, (.str z21 (nat_lit 218)), (.ref (nat_lit 37))⟩, ⟨PyData.keyHash P z22, (.str z22 (nat_lit 225)), (.ref (nat_lit 44))⟩, ⟨PyData.keyHash P z23, (.str z23 (nat_lit 228)), (.ref (nat_lit 45))⟩, ⟨PyData.keyHash P z29, (.str z29 (nat_lit 230)), (.ref (nat_lit 48))⟩, ⟨PyData.keyHash P z7, (.str z7 (nat_lit 231)), .none⟩]⟩ (nat_lit 3)), ⟨[]⟩⟩
noncomputable abbrev o47_1 : OB := fun _ _ => ⟨(.type s17162191345867700912x4), none, (.cls ⟨z16, [(.type s5946037652744460706x9)], [(.ref (nat_lit 47)), (.type s5946037652744460706x9), (.type s4278001404047624695x13), (.type s2742458400755230247x6)], nat_lit 46, z16, true, [], [], false, none, false⟩), ⟨[(some (.ref (nat_lit 22))), none, (some (.str z16 (nat_lit 196))), (some (.str z16 (nat_lit 204))), (some (.builtin s5160863994218179198x17)), (some (.bool true))]⟩⟩
noncomputable abbrev o48_1 : OB := fun _ _ => ⟨(.type s14755015743595814543x17), none, (.fields ⟨[(.str z29 (nat_lit 229)), (.ref (nat_lit 47)), (.builtin s10220274742760427390x26), .none]⟩), ⟨[]⟩⟩
noncomputable abbrev o49_1 : OB := fun _ _ => ⟨(.type s4290257624100764138x5), none, (.fields ⟨[(.ref (nat_lit 47)), (.ref (nat_lit 47)), (.ref (nat_lit 47))]⟩), ⟨[]⟩⟩
noncomputable abbrev o50_1 : OB := fun _ _ => ⟨(.type s11030030927630378310x26), none, (.fields ⟨[(.builtin s4860613602091757760x24), (.ref (nat_lit 47))]⟩), ⟨[]⟩⟩
noncomputable abbrev tr1 (P : Params) : BT := ((((((((((((((((((((((((((((((((((((((((tr0 P).ins (nat_lit 2) (o2_1 prgQ P)).ins (nat_lit 3) (o3_1 prgQ P)).ins (nat_lit 12) (o12_1 prgQ P)).ins (nat_lit 15) (o15_1 prgQ P)).ins (nat_lit 16) (o16_1 prgQ P)).ins (nat_lit 17) (o17_1 prgQ P)).ins (nat_lit 18) (o18_1 prgQ P)).ins (nat_lit 19) (o19_1 prgQ P)).ins (nat_lit 20) (o20_1 prgQ P)).ins (nat_lit 21) (o21_1 prgQ P)).ins (nat_lit 22) (o22_1 prgQ P)).ins (nat_lit 23) (o23_1 prgQ P)).ins (nat_lit 24) (o24_1 prgQ P)).ins (nat_lit 25) (o25_1 prgQ P)).ins (nat_lit 26) (o26_1 prgQ P)).ins (nat_lit 27) (o27_1 prgQ P)).ins (nat_lit 28) (o28_1 prgQ P)).ins (nat_lit 29) (o29_1 prgQ P)).ins (nat_lit 30) (o30_1 prgQ P)).ins (nat_lit 31) (o31_1 prgQ P)).ins (nat_lit 32) (o32_1 prgQ P)).ins (nat_lit 33) (o33_1 prgQ P)).ins (nat_lit 34) (o34_1 prgQ P)).ins (nat_lit 35) (o35_1 prgQ P)).ins (nat_lit 36) (o36_1 prgQ P)).ins (nat_lit 37) (o37_1 prgQ P)).ins (nat_lit 38) (o38_1 prgQ P)).ins (nat_lit 39) (o39_1 prgQ P)).ins (nat_lit 40) (o40_1 prgQ P)).ins (nat_lit 41) (o41_1 prgQ P)).ins (nat_lit 42) (o42_1 prgQ P)).ins (nat_lit 43) (o43_1 prgQ P)).ins (nat_lit 44) (o44_1 prgQ P)).ins (nat_lit 45) (o45_1 prgQ P)).ins (nat_lit 46) (o46_1 prgQ P)).ins (nat_lit 47) (o47_1 prgQ P)).ins (nat_lit 48) (o48_1 prgQ P)).ins (nat_lit 49) (o49_1 prgQ P)).ins (nat_lit 50) (o50_1 prgQ P))
noncomputable abbrev st1 (w : World) (os : OsState) : SharedT := ⟨tr1 w.params, nat_lit 51, lifeQ, ⟨[]⟩, boot_drawn, nat_lit 236, os⟩
/-! GROUP 1 0 3 304 [] [] from ⟨nat_lit 0, nat_lit 0, nat_lit 0, nat_lit 0⟩ to ⟨nat_lit 5, nat_lit 0, nat_lit 13, nat_lit 35⟩ -/
noncomputable abbrev z30 : Str := ⟨⟨[nat_lit 84, nat_lit 111, nat_lit 107, nat_lit 101, nat_lit 110, nat_lit 70, nat_lit 97, nat_lit 117, nat_lit 108, nat_lit 116]⟩⟩
noncomputable abbrev o3_2 : OB := fun _ P => ⟨(.type s14018661285674007319x4), none, (.dict ⟨[⟨PyData.keyHash P z5, (.str z5 (nat_lit 165)), (.str z6 (nat_lit 194))⟩, ⟨PyData.keyHash P z7, (.str z7 (nat_lit 166)), .none⟩, ⟨PyData.keyHash P z8, (.str z8 (nat_lit 167)), .none⟩, ⟨PyData.keyHash P z9, (.str z9 (nat_lit 168)), (.builtin s7097527257260152453x26)⟩, ⟨PyData.keyHash P z10, (.str z10 (nat_lit 169)), .none⟩, ⟨PyData.keyHash P z11, (.str z11 (nat_lit 170)), (.ref (nat_lit 6))⟩, ⟨PyData.keyHash P z12, (.str z12 (nat_lit 171)), (.ref (nat_lit 4))⟩, ⟨PyData.keyHash P z13, (.str z13 (nat_lit 173)), (.str z1 (nat_lit 172))⟩, ⟨PyData.keyHash P z14, (.str z14 (nat_lit 174)), .none⟩, ⟨PyData.keyHash P z15, (.str z15 (nat_lit 193)), (.ref (nat_lit 21))⟩, ⟨PyData.keyHash P z16, (.str z16 (nat_lit 235)), (.ref (nat_lit 47))⟩, ⟨PyData.keyHash P z30, (.str z30 (nat_lit 251)), (.ref (nat_lit 60))⟩]⟩ (nat_lit 12)), ⟨[]⟩⟩
noncomputable abbrev o12_2 : OB := fun _ _ => ⟨.none, none, (.fields ⟨[(.int (.ofNat (nat_lit 1)) (nat_lit 0)), (.int (.ofNat (nat_lit 0)) (nat_lit 0)), (.ref (nat_lit 20)), (.int (.ofNat (nat_lit 5)) (nat_lit 0)), (.int (.ofNat (nat_lit 0)) (nat_lit 0)), (.ref (nat_lit 27)), (.int (.ofNat (nat_lit 14)) (nat_lit 0)), (.int (.ofNat (nat_lit 0)) (nat_lit 0)), (.ref (nat_lit 56))]⟩), ⟨[]⟩⟩
noncomputable abbrev o47_2 : OB := fun _ _ => ⟨(.type s17162191345867700912x4), none, (.cls ⟨z16, [(.type s5946037652744460706x9)], [(.ref (nat_lit 47)), (.type s5946037652744460706x9), (.type s4278001404047624695x13), (.type s2742458400755230247x6)], nat_lit 46, z16, true, [], [(.ref (nat_lit 60))], false, none, false⟩), ⟨[(some (.ref (nat_lit 22))), none, (some (.str z16 (nat_lit 196))), (some (.str z16 (nat_lit 204))), (some (.builtin s5160863994218179198x17)), (some (.bool true))]⟩⟩
noncomputable abbrev o51_2 : OB := fun _ _ => ⟨(.type s2766695959194262286x5), none, (.seq ⟨[(.ref (nat_lit 47))]⟩ (nat_lit 0)), ⟨[]⟩⟩
noncomputable abbrev o52_2 : OB := fun _ _ => ⟨(.type s11030030927630378310x26), none, (.fields ⟨[(.builtin s10062305145149207511x16), (.type s17162191345867700912x4)]⟩), ⟨[]⟩⟩
noncomputable abbrev o53_2 : OB := fun _ P => ⟨(.type s14018661285674007319x4), none, (.dict ⟨[⟨PyData.keyHash P z18, (.str z18 (nat_lit 243)), (.str z6 (nat_lit 194))⟩, ⟨PyData.keyHash P z19, (.str z19 (nat_lit 245)), (.str z30 (nat_lit 244))⟩, ⟨PyData.keyHash P z20, (.str z20 (nat_lit 247)), (.int (.ofNat (nat_lit 14)) (nat_lit 246))⟩, ⟨PyData.keyHash P z23, (.str z23 (nat_lit 248)), (.ref (nat_lit 58))⟩]⟩ (nat_lit 4)), ⟨[]⟩⟩
noncomputable abbrev o54_2 : OB := fun _ _ => ⟨(.type s2766695959194262286x5), none, (.seq ⟨[]⟩ (nat_lit 0)), ⟨[]⟩⟩
noncomputable abbrev o55_2 : OB := fun _ _ => ⟨.none, none, (.fields ⟨[]⟩), ⟨[]⟩⟩
noncomputable abbrev o56_2 : OB := fun _ _ => ⟨(.type s5856160107412720595x4), none, (.fields ⟨[(.str z30 (nat_lit 238)), (.str z30 (nat_lit 239)), (.str z1 (nat_lit 240)), (.int (.ofNat (nat_lit 14)) (nat_lit 0)), (.int (.ofNat (nat_lit 0)) (nat_lit 0)), (.int (.ofNat (nat_lit 0)) (nat_lit 0)), (.int (.ofNat (nat_lit 0)) (nat_lit 0)), (.int (.ofNat (nat_lit 0)) (nat_lit 0)), (.ref (nat_lit 54)), (.bool false), (.int (.ofNat (nat_lit 181)) (nat_lit 0)), (.ref (nat_lit 55)), .none, .none, .none, .none, (.int (.ofNat (nat_lit 241)) (nat_lit 0)), (.int (.ofNat (nat_lit 14)) (nat_lit 0)), (.str z1 (nat_lit 242))]⟩), ⟨[]⟩⟩
noncomputable abbrev o57_2 : OB := fun _ _ => ⟨(.type s658472552662922059x5), none, .plain, ⟨[(some (.ref (nat_lit 56))), (some (.ref (nat_lit 3))), (some (.ref (nat_lit 53))), none, (some (.str z6 (nat_lit 194))), none, (some (.ref (nat_lit 0)))]⟩⟩
noncomputable abbrev o58_2 : OB := fun _ _ => ⟨(.type s2766695959194262286x5), none, (.seq ⟨[]⟩ (nat_lit 0)), ⟨[]⟩⟩
noncomputable abbrev o59_2 : OB := fun _ P => ⟨(.type s14018661285674007319x4), none, (.dict ⟨[⟨PyData.keyHash P z18, (.str z18 (nat_lit 243)), (.str z6 (nat_lit 194))⟩, ⟨PyData.keyHash P z20, (.str z20 (nat_lit 247)), (.int (.ofNat (nat_lit 14)) (nat_lit 246))⟩, ⟨PyData.keyHash P z23, (.str z23 (nat_lit 248)), (.ref (nat_lit 58))⟩, ⟨PyData.keyHash P z7, (.str z7 (nat_lit 249)), .none⟩]⟩ (nat_lit 2)), ⟨[]⟩⟩
noncomputable abbrev o60_2 : OB := fun _ _ => ⟨(.type s17162191345867700912x4), none, (.cls ⟨z30, [(.ref (nat_lit 47))], [(.ref (nat_lit 60)), (.ref (nat_lit 47)), (.type s5946037652744460706x9), (.type s4278001404047624695x13), (.type s2742458400755230247x6)], nat_lit 59, z30, true, [], [], false, none, false⟩), ⟨[(some (.ref (nat_lit 51))), none, (some (.str z30 (nat_lit 236))), (some (.str z30 (nat_lit 244))), (some (.builtin s5160863994218179198x17)), (some (.bool true))]⟩⟩
noncomputable abbrev o61_2 : OB := fun _ _ => ⟨(.type s4290257624100764138x5), none, (.fields ⟨[(.ref (nat_lit 60)), (.ref (nat_lit 60)), (.ref (nat_lit 60))]⟩), ⟨[]⟩⟩
noncomputable abbrev o62_2 : OB := fun _ _ => ⟨(.type s11030030927630378310x26), none, (.fields ⟨[(.builtin s4860613602091757760x24), (.ref (nat_lit 60))]⟩), ⟨[]⟩⟩
noncomputable abbrev tr2 (P : Params) : BT := ((((((((((((((((tr1 P).ins (nat_lit 3) (o3_2 prgQ P)).ins (nat_lit 12) (o12_2 prgQ P)).ins (nat_lit 47) (o47_2 prgQ P)).ins (nat_lit 51) (o51_2 prgQ P)).ins (nat_lit 52) (o52_2 prgQ P)).ins (nat_lit 53) (o53_2 prgQ P)).ins (nat_lit 54) (o54_2 prgQ P)).ins (nat_lit 55) (o55_2 prgQ P)).ins (nat_lit 56) (o56_2 prgQ P)).ins (nat_lit 57) (o57_2 prgQ P)).ins (nat_lit 58) (o58_2 prgQ P)).ins (nat_lit 59) (o59_2 prgQ P)).ins (nat_lit 60) (o60_2 prgQ P)).ins (nat_lit 61) (o61_2 prgQ P)).ins (nat_lit 62) (o62_2 prgQ P))
noncomputable abbrev st2 (w : World) (os : OsState) : SharedT := ⟨tr2 w.params, nat_lit 63, lifeQ, ⟨[]⟩, boot_drawn, nat_lit 252, os⟩
/-! GROUP 2 3 1 213 [] [] from ⟨nat_lit 5, nat_lit 0, nat_lit 13, nat_lit 35⟩ to ⟨nat_lit 14, nat_lit 0, nat_lit 15, nat_lit 8⟩ -/
noncomputable abbrev z31 : Str := ⟨⟨[nat_lit 108, nat_lit 101, nat_lit 100, nat_lit 103, nat_lit 101, nat_lit 114, nat_lit 115, nat_lit 112, nat_lit 101, nat_lit 97, nat_lit 107, nat_lit 46, nat_lit 100, nat_lit 101, nat_lit 99, nat_lit 105, nat_lit 109, nat_lit 97, nat_lit 108, nat_lit 115]⟩⟩
noncomputable abbrev z32 : Str := ⟨⟨[nat_lit 71, nat_lit 114, nat_lit 97, nat_lit 109, nat_lit 109, nat_lit 97, nat_lit 114, nat_lit 70, nat_lit 97, nat_lit 117, nat_lit 108, nat_lit 116]⟩⟩
noncomputable abbrev z33 : Str := ⟨⟨[nat_lit 70, nat_lit 73, nat_lit 71, nat_lit 85, nat_lit 82, nat_lit 69, nat_lit 83]⟩⟩
noncomputable abbrev z34 : Str := ⟨⟨[nat_lit 48, nat_lit 49, nat_lit 50, nat_lit 51, nat_lit 52, nat_lit 53, nat_lit 54, nat_lit 55, nat_lit 56, nat_lit 57]⟩⟩
noncomputable abbrev z35 : Str := ⟨⟨[nat_lit 99, nat_lit 117, nat_lit 116, nat_lit 95, nat_lit 113, nat_lit 117, nat_lit 111, nat_lit 116, nat_lit 105, nat_lit 101, nat_lit 110, nat_lit 116]⟩⟩
noncomputable abbrev z36 : Str := ⟨⟨[nat_lit 100, nat_lit 101, nat_lit 99, nat_lit 105, nat_lit 109, nat_lit 97, nat_lit 108]⟩⟩
noncomputable abbrev z37 : Str := ⟨⟨[nat_lit 110, nat_lit 101, nat_lit 103, nat_lit 97, nat_lit 116, nat_lit 101, nat_lit 100]⟩⟩
noncomputable abbrev z38 : Str := ⟨⟨[nat_lit 117, nat_lit 110, nat_lit 105, nat_lit 116, nat_lit 115, nat_lit 95, nat_lit 97, nat_lit 116]⟩⟩
noncomputable abbrev z39 : Str := ⟨⟨[nat_lit 105, nat_lit 115, nat_lit 95, nat_lit 119, nat_lit 104, nat_lit 111, nat_lit 108, nat_lit 101]⟩⟩
noncomputable abbrev o3_3 : OB := fun _ P => ⟨(.type s14018661285674007319x4), none, (.dict ⟨[⟨PyData.keyHash P z5, (.str z5 (nat_lit 165)), (.str z31 (nat_lit 268))⟩, ⟨PyData.keyHash P z7, (.str z7 (nat_lit 166)), .none⟩, ⟨PyData.keyHash P z8, (.str z8 (nat_lit 167)), .none⟩, ⟨PyData.keyHash P z9, (.str z9 (nat_lit 168)), (.builtin s7097527257260152453x26)⟩, ⟨PyData.keyHash P z10, (.str z10 (nat_lit 169)), .none⟩, ⟨PyData.keyHash P z11, (.str z11 (nat_lit 170)), (.ref (nat_lit 6))⟩, ⟨PyData.keyHash P z12, (.str z12 (nat_lit 171)), (.ref (nat_lit 4))⟩, ⟨PyData.keyHash P z13, (.str z13 (nat_lit 173)), (.str z1 (nat_lit 172))⟩, ⟨PyData.keyHash P z14, (.str z14 (nat_lit 174)), .none⟩, ⟨PyData.keyHash P z15, (.str z15 (nat_lit 193)), (.ref (nat_lit 21))⟩, ⟨PyData.keyHash P z16, (.str z16 (nat_lit 235)), (.ref (nat_lit 47))⟩, ⟨PyData.keyHash P z30, (.str z30 (nat_lit 251)), (.ref (nat_lit 60))⟩, ⟨PyData.keyHash P z32, (.str z32 (nat_lit 267)), (.ref (nat_lit 72))⟩, ⟨PyData.keyHash P z33, (.str z33 (nat_lit 271)), (.str z34 (nat_lit 270))⟩, ⟨PyData.keyHash P z35, (.str z35 (nat_lit 279)), (.ref (nat_lit 81))⟩, ⟨PyData.keyHash P z36, (.str z36 (nat_lit 288)), (.ref (nat_lit 89))⟩, ⟨PyData.keyHash P z37, (.str z37 (nat_lit 295)), (.ref (nat_lit 96))⟩, ⟨PyData.keyHash P z38, (.str z38 (nat_lit 306)), (.ref (nat_lit 103))⟩, ⟨PyData.keyHash P z39, (.str z39 (nat_lit 313)), (.ref (nat_lit 110))⟩]⟩ (nat_lit 19)), ⟨[]⟩⟩
noncomputable abbrev o12_3 : OB := fun _ _ => ⟨.none, none, (.fields ⟨[(.int (.ofNat (nat_lit 1)) (nat_lit 0)), (.int (.ofNat (nat_lit 0)) (nat_lit 0)), (.ref (nat_lit 20)), (.int (.ofNat (nat_lit 5)) (nat_lit 0)), (.int (.ofNat (nat_lit 0)) (nat_lit 0)), (.ref (nat_lit 27)), (.int (.ofNat (nat_lit 14)) (nat_lit 0)), (.int (.ofNat (nat_lit 0)) (nat_lit 0)), (.ref (nat_lit 56)), (.int (.ofNat (nat_lit 16)) (nat_lit 0)), (.int (.ofNat (nat_lit 0)) (nat_lit 0)), (.ref (nat_lit 68)), (.int (.ofNat (nat_lit 20)) (nat_lit 0)), (.int (.ofNat (nat_lit 0)) (nat_lit 0)), (.ref (nat_lit 80)), (.int (.ofNat (nat_lit 24)) (nat_lit 0)), (.int (.ofNat (nat_lit 0)) (nat_lit 0)), (.ref (nat_lit 88)), (.int (.ofNat (nat_lit 31)) (nat_lit 0)), (.int (.ofNat (nat_lit 0)) (nat_lit 0)), (.ref (nat_lit 95)), (.int (.ofNat (nat_lit 33)) (nat_lit 0)), (.int (.ofNat (nat_lit 0)) (nat_lit 0)), (.ref (nat_lit 102)), (.int (.ofNat (nat_lit 41)) (nat_lit 0)), (.int (.ofNat (nat_lit 0)) (nat_lit 0)), (.ref (nat_lit 109))]⟩), ⟨[]⟩⟩
noncomputable abbrev o47_3 : OB := fun _ _ => ⟨(.type s17162191345867700912x4), none, (.cls ⟨z16, [(.type s5946037652744460706x9)], [(.ref (nat_lit 47)), (.type s5946037652744460706x9), (.type s4278001404047624695x13), (.type s2742458400755230247x6)], nat_lit 46, z16, true, [], [(.ref (nat_lit 60)), (.ref (nat_lit 72))], false, none, false⟩), ⟨[(some (.ref (nat_lit 22))), none, (some (.str z16 (nat_lit 196))), (some (.str z16 (nat_lit 204))), (some (.builtin s5160863994218179198x17)), (some (.bool true))]⟩⟩
noncomputable abbrev o63_3 : OB := fun _ _ => ⟨(.type s2766695959194262286x5), none, (.seq ⟨[(.ref (nat_lit 47))]⟩ (nat_lit 0)), ⟨[]⟩⟩
noncomputable abbrev o64_3 : OB := fun _ _ => ⟨(.type s11030030927630378310x26), none, (.fields ⟨[(.builtin s10062305145149207511x16), (.type s17162191345867700912x4)]⟩), ⟨[]⟩⟩
noncomputable abbrev o65_3 : OB := fun _ P => ⟨(.type s14018661285674007319x4), none, (.dict ⟨[⟨PyData.keyHash P z18, (.str z18 (nat_lit 259)), (.str z6 (nat_lit 194))⟩, ⟨PyData.keyHash P z19, (.str z19 (nat_lit 261)), (.str z32 (nat_lit 260))⟩, ⟨PyData.keyHash P z20, (.str z20 (nat_lit 263)), (.int (.ofNat (nat_lit 16)) (nat_lit 262))⟩, ⟨PyData.keyHash P z23, (.str z23 (nat_lit 264)), (.ref (nat_lit 70))⟩]⟩ (nat_lit 4)), ⟨[]⟩⟩
noncomputable abbrev o66_3 : OB := fun _ _ => ⟨(.type s2766695959194262286x5), none, (.seq ⟨[]⟩ (nat_lit 0)), ⟨[]⟩⟩
noncomputable abbrev o67_3 : OB := fun _ _ => ⟨.none, none, (.fields ⟨[]⟩), ⟨[]⟩⟩
noncomputable abbrev o68_3 : OB := fun _ _ => ⟨(.type s5856160107412720595x4), none, (.fields ⟨[(.str z32 (nat_lit 254)), (.str z32 (nat_lit 255)), (.str z1 (nat_lit 256)), (.int (.ofNat (nat_lit 16)) (nat_lit 0)), (.int (.ofNat (nat_lit 0)) (nat_lit 0)), (.int (.ofNat (nat_lit 0)) (nat_lit 0)), (.int (.ofNat (nat_lit 0)) (nat_lit 0)), (.int (.ofNat (nat_lit 0)) (nat_lit 0)), (.ref (nat_lit 66)), (.bool false), (.int (.ofNat (nat_lit 181)) (nat_lit 0)), (.ref (nat_lit 67)), .none, .none, .none, .none, (.int (.ofNat (nat_lit 257)) (nat_lit 0)), (.int (.ofNat (nat_lit 16)) (nat_lit 0)), (.str z1 (nat_lit 258))]⟩), ⟨[]⟩⟩
noncomputable abbrev o69_3 : OB := fun _ _ => ⟨(.type s658472552662922059x5), none, .plain, ⟨[(some (.ref (nat_lit 68))), (some (.ref (nat_lit 3))), (some (.ref (nat_lit 65))), none, (some (.str z6 (nat_lit 194))), none, (some (.ref (nat_lit 0)))]⟩⟩
noncomputable abbrev o70_3 : OB := fun _ _ => ⟨(.type s2766695959194262286x5), none, (.seq ⟨[]⟩ (nat_lit 0)), ⟨[]⟩⟩
noncomputable abbrev o71_3 : OB := fun _ P => ⟨(.type s14018661285674007319x4), none, (.dict ⟨[⟨PyData.keyHash P z18, (.str z18 (nat_lit 259)), (.str z6 (nat_lit 194))⟩, ⟨PyData.keyHash P z20, (.str z20 (nat_lit 263)), (.int (.ofNat (nat_lit 16)) (nat_lit 262))⟩, ⟨PyData.keyHash P z23, (.str z23 (nat_lit 264)), (.ref (nat_lit 70))⟩, ⟨PyData.keyHash P z7, (.str z7 (nat_lit 265)), .none⟩]⟩ (nat_lit 2)), ⟨[]⟩⟩
noncomputable abbrev o72_3 : OB := fun _ _ => ⟨(.type s17162191345867700912x4), none, (.cls ⟨z32, [(.ref (nat_lit 47))], [(.ref (nat_lit 72)), (.ref (nat_lit 47)), (.type s5946037652744460706x9), (.type s4278001404047624695x13), (.type s2742458400755230247x6)], nat_lit 71, z32, true, [], [], false, none, false⟩), ⟨[(some (.ref (nat_lit 63))), none, (some (.str z32 (nat_lit 252))), (some (.str z32 (nat_lit 260))), (some (.builtin s5160863994218179198x17)), (some (.bool true))]⟩⟩
noncomputable abbrev o73_3 : OB := fun _ _ => ⟨(.type s4290257624100764138x5), none, (.fields ⟨[(.ref (nat_lit 72)), (.ref (nat_lit 72)), (.ref (nat_lit 72))]⟩), ⟨[]⟩⟩
noncomputable abbrev o74_3 : OB := fun _ _ => ⟨(.type s11030030927630378310x26), none, (.fields ⟨[(.builtin s4860613602091757760x24), (.ref (nat_lit 72))]⟩), ⟨[]⟩⟩
noncomputable abbrev o75_3 : OB := fun _ _ => ⟨(.type s2766695959194262286x5), none, (.seq ⟨[]⟩ (nat_lit 0)), ⟨[]⟩⟩
noncomputable abbrev o76_3 : OB := fun _ _ => ⟨.none, none, (.fields ⟨[]⟩), ⟨[]⟩⟩
noncomputable abbrev z40 : Str := ⟨⟨[nat_lit 116, nat_lit 111, nat_lit 112]⟩⟩
noncomputable abbrev z41 : Str := ⟨⟨[nat_lit 98, nat_lit 111, nat_lit 116, nat_lit 116, nat_lit 111, nat_lit 109]⟩⟩
noncomputable abbrev o77_3 : OB := fun _ _ => ⟨(.type s2766695959194262286x5), none, (.seq ⟨[(.str z40 (nat_lit 275)), (.str z41 (nat_lit 276))]⟩ (nat_lit 0)), ⟨[]⟩⟩
noncomputable abbrev o78_3 : OB := fun _ _ => ⟨(.type s2766695959194262286x5), none, (.seq ⟨[]⟩ (nat_lit 0)), ⟨[]⟩⟩
noncomputable abbrev o79_3 : OB := fun p _ => ⟨.none, none, (.func ⟨z35, z35, fA (sAt p (nat_lit 7)), (.stmts (fB (sAt p (nat_lit 7)))), fS (sAt p (nat_lit 7)) p, nat_lit 0, [], .none, .none, .none, .none, none, .none, .none, nat_lit 0⟩), ⟨[]⟩⟩
noncomputable abbrev o80_3 : OB := fun _ _ => ⟨(.type s5856160107412720595x4), none, (.fields ⟨[(.str z35 (nat_lit 272)), (.str z35 (nat_lit 273)), (.str z1 (nat_lit 274)), (.int (.ofNat (nat_lit 20)) (nat_lit 0)), (.int (.ofNat (nat_lit 2)) (nat_lit 0)), (.int (.ofNat (nat_lit 0)) (nat_lit 0)), (.int (.ofNat (nat_lit 0)) (nat_lit 0)), (.int (.ofNat (nat_lit 3)) (nat_lit 0)), (.ref (nat_lit 75)), (.bool true), (.int (.ofNat (nat_lit 181)) (nat_lit 0)), (.ref (nat_lit 76)), .none, (.ref (nat_lit 77)), (.ref (nat_lit 78)), (.ref (nat_lit 79)), (.int (.ofNat (nat_lit 277)) (nat_lit 0)), (.int (.ofNat (nat_lit 20)) (nat_lit 0)), (.str z1 (nat_lit 278))]⟩), ⟨[]⟩⟩
noncomputable abbrev o81_3 : OB := fun p _ => ⟨(.type s7174869446012820540x8), none, (.func ⟨z35, z35, fA (sAt p (nat_lit 7)), (.stmts (fB (sAt p (nat_lit 7)))), fS (sAt p (nat_lit 7)) p, nat_lit 3, [], .none, .none, .none, (.str z31 (nat_lit 268)), none, (.ref (nat_lit 80)), .none, nat_lit 0⟩), ⟨[]⟩⟩
noncomputable abbrev o82_3 : OB := fun _ _ => ⟨(.type s2766695959194262286x5), none, (.seq ⟨[(.int (.ofNat (nat_lit 0)) (nat_lit 280))]⟩ (nat_lit 0)), ⟨[]⟩⟩
noncomputable abbrev o83_3 : OB := fun _ _ => ⟨(.type s2766695959194262286x5), none, (.seq ⟨[]⟩ (nat_lit 0)), ⟨[]⟩⟩
noncomputable abbrev o84_3 : OB := fun _ _ => ⟨.none, none, (.fields ⟨[]⟩), ⟨[]⟩⟩
noncomputable abbrev z42 : Str := ⟨⟨[nat_lit 117, nat_lit 110, nat_lit 105, nat_lit 116, nat_lit 115]⟩⟩
noncomputable abbrev z43 : Str := ⟨⟨[nat_lit 115, nat_lit 99, nat_lit 97, nat_lit 108, nat_lit 101]⟩⟩
noncomputable abbrev o85_3 : OB := fun _ _ => ⟨(.type s2766695959194262286x5), none, (.seq ⟨[(.str z42 (nat_lit 284)), (.str z43 (nat_lit 285))]⟩ (nat_lit 0)), ⟨[]⟩⟩
noncomputable abbrev o86_3 : OB := fun _ _ => ⟨(.type s2766695959194262286x5), none, (.seq ⟨[]⟩ (nat_lit 0)), ⟨[]⟩⟩
noncomputable abbrev o87_3 : OB := fun p _ => ⟨.none, none, (.func ⟨z36, z36, fA (sAt p (nat_lit 8)), (.stmts (fB (sAt p (nat_lit 8)))), fS (sAt p (nat_lit 8)) p, nat_lit 0, [], .none, .none, .none, .none, none, .none, .none, nat_lit 0⟩), ⟨[]⟩⟩
noncomputable abbrev o88_3 : OB := fun _ _ => ⟨(.type s5856160107412720595x4), none, (.fields ⟨[(.str z36 (nat_lit 281)), (.str z36 (nat_lit 282)), (.str z1 (nat_lit 283)), (.int (.ofNat (nat_lit 24)) (nat_lit 0)), (.int (.ofNat (nat_lit 2)) (nat_lit 0)), (.int (.ofNat (nat_lit 0)) (nat_lit 0)), (.int (.ofNat (nat_lit 0)) (nat_lit 0)), (.int (.ofNat (nat_lit 3)) (nat_lit 0)), (.ref (nat_lit 83)), (.bool true), (.int (.ofNat (nat_lit 181)) (nat_lit 0)), (.ref (nat_lit 84)), .none, (.ref (nat_lit 85)), (.ref (nat_lit 86)), (.ref (nat_lit 87)), (.int (.ofNat (nat_lit 286)) (nat_lit 0)), (.int (.ofNat (nat_lit 24)) (nat_lit 0)), (.str z1 (nat_lit 287))]⟩), ⟨[]⟩⟩
noncomputable abbrev o89_3 : OB := fun p _ => ⟨(.type s7174869446012820540x8), none, (.func ⟨z36, z36, fA (sAt p (nat_lit 8)), (.stmts (fB (sAt p (nat_lit 8)))), fS (sAt p (nat_lit 8)) p, nat_lit 3, [], (.ref (nat_lit 82)), .none, .none, (.str z31 (nat_lit 268)), none, (.ref (nat_lit 88)), .none, nat_lit 0⟩), ⟨[]⟩⟩
noncomputable abbrev o90_3 : OB := fun _ _ => ⟨(.type s2766695959194262286x5), none, (.seq ⟨[]⟩ (nat_lit 0)), ⟨[]⟩⟩
noncomputable abbrev o91_3 : OB := fun _ _ => ⟨.none, none, (.fields ⟨[]⟩), ⟨[]⟩⟩
noncomputable abbrev z44 : Str := ⟨⟨[nat_lit 97]⟩⟩
noncomputable abbrev o92_3 : OB := fun _ _ => ⟨(.type s2766695959194262286x5), none, (.seq ⟨[(.str z44 (nat_lit 292))]⟩ (nat_lit 0)), ⟨[]⟩⟩
noncomputable abbrev o93_3 : OB := fun _ _ => ⟨(.type s2766695959194262286x5), none, (.seq ⟨[]⟩ (nat_lit 0)), ⟨[]⟩⟩
noncomputable abbrev o94_3 : OB := fun p _ => ⟨.none, none, (.func ⟨z37, z37, fA (sAt p (nat_lit 9)), (.stmts (fB (sAt p (nat_lit 9)))), fS (sAt p (nat_lit 9)) p, nat_lit 0, [], .none, .none, .none, .none, none, .none, .none, nat_lit 0⟩), ⟨[]⟩⟩
noncomputable abbrev o95_3 : OB := fun _ _ => ⟨(.type s5856160107412720595x4), none, (.fields ⟨[(.str z37 (nat_lit 289)), (.str z37 (nat_lit 290)), (.str z1 (nat_lit 291)), (.int (.ofNat (nat_lit 31)) (nat_lit 0)), (.int (.ofNat (nat_lit 1)) (nat_lit 0)), (.int (.ofNat (nat_lit 0)) (nat_lit 0)), (.int (.ofNat (nat_lit 0)) (nat_lit 0)), (.int (.ofNat (nat_lit 3)) (nat_lit 0)), (.ref (nat_lit 90)), (.bool true), (.int (.ofNat (nat_lit 181)) (nat_lit 0)), (.ref (nat_lit 91)), .none, (.ref (nat_lit 92)), (.ref (nat_lit 93)), (.ref (nat_lit 94)), (.int (.ofNat (nat_lit 293)) (nat_lit 0)), (.int (.ofNat (nat_lit 31)) (nat_lit 0)), (.str z1 (nat_lit 294))]⟩), ⟨[]⟩⟩
noncomputable abbrev o96_3 : OB := fun p _ => ⟨(.type s7174869446012820540x8), none, (.func ⟨z37, z37, fA (sAt p (nat_lit 9)), (.stmts (fB (sAt p (nat_lit 9)))), fS (sAt p (nat_lit 9)) p, nat_lit 3, [], .none, .none, .none, (.str z31 (nat_lit 268)), none, (.ref (nat_lit 95)), .none, nat_lit 0⟩), ⟨[]⟩⟩
noncomputable abbrev o97_3 : OB := fun _ _ => ⟨(.type s2766695959194262286x5), none, (.seq ⟨[]⟩ (nat_lit 0)), ⟨[]⟩⟩
noncomputable abbrev o98_3 : OB := fun _ _ => ⟨.none, none, (.fields ⟨[]⟩), ⟨[]⟩⟩
noncomputable abbrev z45 : Str := ⟨⟨[nat_lit 105, nat_lit 115, nat_lit 95, nat_lit 114, nat_lit 111, nat_lit 117, nat_lit 110, nat_lit 100, nat_lit 101, nat_lit 100]⟩⟩
noncomputable abbrev z46 : Str := ⟨⟨[nat_lit 115, nat_lit 105, nat_lit 122, nat_lit 101]⟩⟩
noncomputable abbrev z47 : Str := ⟨⟨[nat_lit 104, nat_lit 97, nat_lit 108, nat_lit 102]⟩⟩
noncomputable abbrev o99_3 : OB := fun _ _ => ⟨(.type s2766695959194262286x5), none, (.seq ⟨[(.str z44 (nat_lit 299)), (.str z43 (nat_lit 300)), (.str z45 (nat_lit 301)), (.str z46 (nat_lit 302)), (.str z47 (nat_lit 303))]⟩ (nat_lit 0)), ⟨[]⟩⟩
noncomputable abbrev o100_3 : OB := fun _ _ => ⟨(.type s2766695959194262286x5), none, (.seq ⟨[]⟩ (nat_lit 0)), ⟨[]⟩⟩
noncomputable abbrev o101_3 : OB := fun p _ => ⟨.none, none, (.func ⟨z38, z38, fA (sAt p (nat_lit 10)), (.stmts (fB (sAt p (nat_lit 10)))), fS (sAt p (nat_lit 10)) p, nat_lit 0, [], .none, .none, .none, .none, none, .none, .none, nat_lit 0⟩), ⟨[]⟩⟩
noncomputable abbrev o102_3 : OB := fun _ _ => ⟨(.type s5856160107412720595x4), none, (.fields ⟨[(.str z38 (nat_lit 296)), (.str z38 (nat_lit 297)), (.str z1 (nat_lit 298)), (.int (.ofNat (nat_lit 33)) (nat_lit 0)), (.int (.ofNat (nat_lit 3)) (nat_lit 0)), (.int (.ofNat (nat_lit 0)) (nat_lit 0)), (.int (.ofNat (nat_lit 0)) (nat_lit 0)), (.int (.ofNat (nat_lit 3)) (nat_lit 0)), (.ref (nat_lit 97)), (.bool true), (.int (.ofNat (nat_lit 181)) (nat_lit 0)), (.ref (nat_lit 98)), .none, (.ref (nat_lit 99)), (.ref (nat_lit 100)), (.ref (nat_lit 101)), (.int (.ofNat (nat_lit 304)) (nat_lit 0)), (.int (.ofNat (nat_lit 33)) (nat_lit 0)), (.str z1 (nat_lit 305))]⟩), ⟨[]⟩⟩
noncomputable abbrev o103_3 : OB := fun p _ => ⟨(.type s7174869446012820540x8), none, (.func ⟨z38, z38, fA (sAt p (nat_lit 10)), (.stmts (fB (sAt p (nat_lit 10)))), fS (sAt p (nat_lit 10)) p, nat_lit 3, [], .none, .none, .none, (.str z31 (nat_lit 268)), none, (.ref (nat_lit 102)), .none, nat_lit 0⟩), ⟨[]⟩⟩
noncomputable abbrev o104_3 : OB := fun _ _ => ⟨(.type s2766695959194262286x5), none, (.seq ⟨[]⟩ (nat_lit 0)), ⟨[]⟩⟩
noncomputable abbrev o105_3 : OB := fun _ _ => ⟨.none, none, (.fields ⟨[]⟩), ⟨[]⟩⟩
noncomputable abbrev o106_3 : OB := fun _ _ => ⟨(.type s2766695959194262286x5), none, (.seq ⟨[(.str z44 (nat_lit 310))]⟩ (nat_lit 0)), ⟨[]⟩⟩
noncomputable abbrev o107_3 : OB := fun _ _ => ⟨(.type s2766695959194262286x5), none, (.seq ⟨[]⟩ (nat_lit 0)), ⟨[]⟩⟩
noncomputable abbrev o108_3 : OB := fun p _ => ⟨.none, none, (.func ⟨z39, z39, fA (sAt p (nat_lit 11)), (.stmts (fB (sAt p (nat_lit 11)))), fS (sAt p (nat_lit 11)) p, nat_lit 0, [], .none, .none, .none, .none, none, .none, .none, nat_lit 0⟩), ⟨[]⟩⟩
noncomputable abbrev o109_3 : OB := fun _ _ => ⟨(.type s5856160107412720595x4), none, (.fields ⟨[(.str z39 (nat_lit 307)), (.str z39 (nat_lit 308)), (.str z1 (nat_lit 309)), (.int (.ofNat (nat_lit 41)) (nat_lit 0)), (.int (.ofNat (nat_lit 1)) (nat_lit 0)), (.int (.ofNat (nat_lit 0)) (nat_lit 0)), (.int (.ofNat (nat_lit 0)) (nat_lit 0)), (.int (.ofNat (nat_lit 3)) (nat_lit 0)), (.ref (nat_lit 104)), (.bool true), (.int (.ofNat (nat_lit 181)) (nat_lit 0)), (.ref (nat_lit 105)), .none, (.ref (nat_lit 106)), (.ref (nat_lit 107)), (.ref (nat_lit 108)), (.int (.ofNat (nat_lit 311)) (nat_lit 0)), (.int (.ofNat (nat_lit 41)) (nat_lit 0)), (.str z1 (nat_lit 312))]⟩), ⟨[]⟩⟩
noncomputable abbrev o110_3 : OB := fun p _ => ⟨(.type s7174869446012820540x8), none, (.func ⟨z39, z39, fA (sAt p (nat_lit 11)), (.stmts (fB (sAt p (nat_lit 11)))), fS (sAt p (nat_lit 11)) p, nat_lit 3, [], .none, .none, .none, (.str z31 (nat_lit 268)), none, (.ref (nat_lit 109)), .none, nat_lit 0⟩), ⟨[]⟩⟩
noncomputable abbrev tr3 (P : Params) : BT := ((((((((((((((((((((((((((((((((((((((((((((((((((((tr2 P).ins (nat_lit 3) (o3_3 prgQ P)).ins (nat_lit 12) (o12_3 prgQ P)).ins (nat_lit 47) (o47_3 prgQ P)).ins (nat_lit 63) (o63_3 prgQ P)).ins (nat_lit 64) (o64_3 prgQ P)).ins (nat_lit 65) (o65_3 prgQ P)).ins (nat_lit 66) (o66_3 prgQ P)).ins (nat_lit 67) (o67_3 prgQ P)).ins (nat_lit 68) (o68_3 prgQ P)).ins (nat_lit 69) (o69_3 prgQ P)).ins (nat_lit 70) (o70_3 prgQ P)).ins (nat_lit 71) (o71_3 prgQ P)).ins (nat_lit 72) (o72_3 prgQ P)).ins (nat_lit 73) (o73_3 prgQ P)).ins (nat_lit 74) (o74_3 prgQ P)).ins (nat_lit 75) (o75_3 prgQ P)).ins (nat_lit 76) (o76_3 prgQ P)).ins (nat_lit 77) (o77_3 prgQ P)).ins (nat_lit 78) (o78_3 prgQ P)).ins (nat_lit 79) (o79_3 prgQ P)).ins (nat_lit 80) (o80_3 prgQ P)).ins (nat_lit 81) (o81_3 prgQ P)).ins (nat_lit 82) (o82_3 prgQ P)).ins (nat_lit 83) (o83_3 prgQ P)).ins (nat_lit 84) (o84_3 prgQ P)).ins (nat_lit 85) (o85_3 prgQ P)).ins (nat_lit 86) (o86_3 prgQ P)).ins (nat_lit 87) (o87_3 prgQ P)).ins (nat_lit 88) (o88_3 prgQ P)).ins (nat_lit 89) (o89_3 prgQ P)).ins (nat_lit 90) (o90_3 prgQ P)).ins (nat_lit 91) (o91_3 prgQ P)).ins (nat_lit 92) (o92_3 prgQ P)).ins (nat_lit 93) (o93_3 prgQ P)).ins (nat_lit 94) (o94_3 prgQ P)).ins (nat_lit 95) (o95_3 prgQ P)).ins (nat_lit 96) (o96_3 prgQ P)).ins (nat_lit 97) (o97_3 prgQ P)).ins (nat_lit 98) (o98_3 prgQ P)).ins (nat_lit 99) (o99_3 prgQ P)).ins (nat_lit 100) (o100_3 prgQ P)).ins (nat_lit 101) (o101_3 prgQ P)).ins (nat_lit 102) (o102_3 prgQ P)).ins (nat_lit 103) (o103_3 prgQ P)).ins (nat_lit 104) (o104_3 prgQ P)).ins (nat_lit 105) (o105_3 prgQ P)).ins (nat_lit 106) (o106_3 prgQ P)).ins (nat_lit 107) (o107_3 prgQ P)).ins (nat_lit 108) (o108_3 prgQ P)).ins (nat_lit 109) (o109_3 prgQ P)).ins (nat_lit 110) (o110_3 prgQ P))
noncomputable abbrev st3 (w : World) (os : OsState) : SharedT := ⟨tr3 w.params, nat_lit 111, lifeQ, ⟨[]⟩, boot_drawn, nat_lit 314, os⟩
/-! GROUP 3 4 8 384 [] [] from ⟨nat_lit 14, nat_lit 0, nat_lit 15, nat_lit 8⟩ to ⟨nat_lit 41, nat_lit 0, nat_lit 42, nat_lit 20⟩ -/
noncomputable abbrev z48 : Str := ⟨⟨[nat_lit 108, nat_lit 101, nat_lit 100, nat_lit 103, nat_lit 101, nat_lit 114, nat_lit 115, nat_lit 112, nat_lit 101, nat_lit 97, nat_lit 107, nat_lit 46, nat_lit 114, nat_lit 101, nat_lit 102, nat_lit 101, nat_lit 114, nat_lit 101, nat_lit 110, nat_lit 99, nat_lit 101, nat_lit 115]⟩⟩
noncomputable abbrev z49 : Str := ⟨⟨[nat_lit 119, nat_lit 104, nat_lit 111, nat_lit 108, nat_lit 101, nat_lit 95, nat_lit 111, nat_lit 102]⟩⟩
noncomputable abbrev z50 : Str := ⟨⟨[nat_lit 119, nat_lit 111, nat_lit 114, nat_lit 116, nat_lit 104, nat_lit 95, nat_lit 111, nat_lit 102]⟩⟩
noncomputable abbrev z51 : Str := ⟨⟨[nat_lit 114, nat_lit 101, nat_lit 97, nat_lit 100, nat_lit 95, nat_lit 100, nat_lit 101, nat_lit 99, nat_lit 105, nat_lit 109, nat_lit 97, nat_lit 108]⟩⟩
noncomputable abbrev z52 : Str := ⟨⟨[nat_lit 77, nat_lit 79, nat_lit 83, nat_lit 84, nat_lit 95, nat_lit 83, nat_lit 85, nat_lit 66, nat_lit 83, nat_lit 67, nat_lit 82, nat_lit 73, nat_lit 80, nat_lit 84, nat_lit 83]⟩⟩
noncomputable abbrev o3_4 : OB := fun _ P => ⟨(.type s14018661285674007319x4), none, (.dict ⟨[⟨PyData.keyHash P z5, (.str z5 (nat_lit 165)), (.str z48 (nat_lit 343))⟩, ⟨PyData.keyHash P z7, (.str z7 (nat_lit 166)), .none⟩, ⟨PyData.keyHash P z8, (.str z8 (nat_lit 167)), .none⟩, ⟨PyData.keyHash P z9, (.str z9 (nat_lit 168)), (.builtin s7097527257260152453x26)⟩, ⟨PyData.keyHash P z10, (.str z10 (nat_lit 169)), .none⟩, ⟨PyData.keyHash P z11, (.str z11 (nat_lit 170)), (.ref (nat_lit 6))⟩, ⟨PyData.keyHash P z12, (.str z12 (nat_lit 171)), (.ref (nat_lit 4))⟩, ⟨PyData.keyHash P z13, (.str z13 (nat_lit 173)), (.str z1 (nat_lit 172))⟩, ⟨PyData.keyHash P z14, (.str z14 (nat_lit 174)), .none⟩, ⟨PyData.keyHash P z15, (.str z15 (nat_lit 193)), (.ref (nat_lit 21))⟩, ⟨PyData.keyHash P z16, (.str z16 (nat_lit 235)), (.ref (nat_lit 47))⟩, ⟨PyData.keyHash P z30, (.str z30 (nat_lit 251)), (.ref (nat_lit 60))⟩, ⟨PyData.keyHash P z32, (.str z32 (nat_lit 267)), (.ref (nat_lit 72))⟩, ⟨PyData.keyHash P z33, (.str z33 (nat_lit 271)), (.str z34 (nat_lit 270))⟩, ⟨PyData.keyHash P z35, (.str z35 (nat_lit 279)), (.ref (nat_lit 81))⟩, ⟨PyData.keyHash P z36, (.str z36 (nat_lit 288)), (.ref (nat_lit 89))⟩, ⟨PyData.keyHash P z37, (.str z37 (nat_lit 295)), (.ref (nat_lit 96))⟩, ⟨PyData.keyHash P z38, (.str z38 (nat_lit 306)), (.ref (nat_lit 103))⟩, ⟨PyData.keyHash P z39, (.str z39 (nat_lit 313)), (.ref (nat_lit 110))⟩, ⟨PyData.keyHash P z49, (.str z49 (nat_lit 320)), (.ref (nat_lit 117))⟩, ⟨PyData.keyHash P z50, (.str z50 (nat_lit 329)), (.ref (nat_lit 124))⟩, ⟨PyData.keyHash P z51, (.str z51 (nat_lit 342)), (.ref (nat_lit 131))⟩, ⟨PyData.keyHash P z52, (.str z52 (nat_lit 346)), (.int (.ofNat (nat_lit 7)) (nat_lit 345))⟩]⟩ (nat_lit 23)), ⟨[]⟩⟩
noncomputable abbrev o12_4 : OB := fun _ _ => ⟨.none, none, (.fields ⟨[(.int (.ofNat (nat_lit 1)) (nat_lit 0)), (.int (.ofNat (nat_lit 0)) (nat_lit 0)), (.ref (nat_lit 20)), (.int (.ofNat (nat_lit 5)) (nat_lit 0)), (.int (.ofNat (nat_lit 0)) (nat_lit 0)), (.ref (nat_lit 27)), (.int (.ofNat (nat_lit 14)) (nat_lit 0)), (.int (.ofNat (nat_lit 0)) (nat_lit 0)), (.ref (nat_lit 56)), (.int (.ofNat (nat_lit 16)) (nat_lit 0)), (.int (.ofNat (nat_lit 0)) (nat_lit 0)), (.ref (nat_lit 68)), (.int (.ofNat (nat_lit 20)) (nat_lit 0)), (.int (.ofNat (nat_lit 0)) (nat_lit 0)), (.ref (nat_lit 80)), (.int (.ofNat (nat_lit 24)) (nat_lit 0)), (.int (.ofNat (nat_lit 0)) (nat_lit 0)), (.ref (nat_lit 88)), (.int (.ofNat (nat_lit 31)) (nat_lit 0)), (.int (.ofNat (nat_lit 0)) (nat_lit 0)), (.ref (nat_lit 95)), (.int (.ofNat (nat_lit 33)) (nat_lit 0)), (.int (.ofNat (nat_lit 0)) (nat_lit 0)), (.ref (nat_lit 102)), (.int (.ofNat (nat_lit 41)) (nat_lit 0)), (.int (.ofNat (nat_lit 0)) (nat_lit 0)), (.ref (nat_lit 109)), (.int (.ofNat (nat_lit 43)) (nat_lit 0)), (.int (.ofNat (nat_lit 0)) (nat_lit 0)), (.ref (nat_lit 116)), (.int (.ofNat (nat_lit 45)) (nat_lit 0)), (.int (.ofNat (nat_lit 0)) (nat_lit 0)), (.ref (nat_lit 123)), (.int (.ofNat (nat_lit 50)) (nat_lit 0)), (.int (.ofNat (nat_lit 0)) (nat_lit 0)), (.ref (nat_lit 130))]⟩), ⟨[]⟩⟩
noncomputable abbrev o111_4 : OB := fun _ _ => ⟨(.type s2766695959194262286x5), none, (.seq ⟨[]⟩ (nat_lit 0)), ⟨[]⟩⟩
noncomputable abbrev o112_4 : OB := fun _ _ => ⟨.none, none, (.fields ⟨[]⟩), ⟨[]⟩⟩
noncomputable abbrev o113_4 : OB := fun _ _ => ⟨(.type s2766695959194262286x5), none, (.seq ⟨[(.str z44 (nat_lit 317))]⟩ (nat_lit 0)), ⟨[]⟩⟩
noncomputable abbrev o114_4 : OB := fun _ _ => ⟨(.type s2766695959194262286x5), none, (.seq ⟨[]⟩ (nat_lit 0)), ⟨[]⟩⟩
noncomputable abbrev o115_4 : OB := fun p _ => ⟨.none, none, (.func ⟨z49, z49, fA (sAt p (nat_lit 12)), (.stmts (fB (sAt p (nat_lit 12)))), fS (sAt p (nat_lit 12)) p, nat_lit 0, [], .none, .none, .none, .none, none, .none, .none, nat_lit 0⟩), ⟨[]⟩⟩
noncomputable abbrev o116_4 : OB := fun _ _ => ⟨(.type s5856160107412720595x4), none, (.fields ⟨[(.str z49 (nat_lit 314)), (.str z49 (nat_lit 315)), (.str z1 (nat_lit 316)), (.int (.ofNat (nat_lit 43)) (nat_lit 0)), (.int (.ofNat (nat_lit 1)) (nat_lit 0)), (.int (.ofNat (nat_lit 0)) (nat_lit 0)), (.int (.ofNat (nat_lit 0)) (nat_lit 0)), (.int (.ofNat (nat_lit 3)) (nat_lit 0)), (.ref (nat_lit 111)), (.bool true), (.int (.ofNat (nat_lit 181)) (nat_lit 0)), (.ref (nat_lit 112)), .none, (.ref (nat_lit 113)), (.ref (nat_lit 114)), (.ref (nat_lit 115)), (.int (.ofNat (nat_lit 318)) (nat_lit 0)), (.int (.ofNat (nat_lit 43)) (nat_lit 0)), (.str z1 (nat_lit 319))]⟩), ⟨[]⟩⟩
noncomputable abbrev o117_4 : OB := fun p _ => ⟨(.type s7174869446012820540x8), none, (.func ⟨z49, z49, fA (sAt p (nat_lit 12)), (.stmts (fB (sAt p (nat_lit 12)))), fS (sAt p (nat_lit 12)) p, nat_lit 3, [], .none, .none, .none, (.str z31 (nat_lit 268)), none, (.ref (nat_lit 116)), .none, nat_lit 0⟩), ⟨[]⟩⟩
noncomputable abbrev o118_4 : OB := fun _ _ => ⟨(.type s2766695959194262286x5), none, (.seq ⟨[]⟩ (nat_lit 0)), ⟨[]⟩⟩
noncomputable abbrev o119_4 : OB := fun _ _ => ⟨.none, none, (.fields ⟨[]⟩), ⟨[]⟩⟩
noncomputable abbrev z53 : Str := ⟨⟨[nat_lit 102, nat_lit 105, nat_lit 103, nat_lit 117, nat_lit 114, nat_lit 101, nat_lit 115]⟩⟩
noncomputable abbrev z54 : Str := ⟨⟨[nat_lit 110, nat_lit 117, nat_lit 109, nat_lit 98, nat_lit 101, nat_lit 114]⟩⟩
noncomputable abbrev z55 : Str := ⟨⟨[nat_lit 102, nat_lit 105, nat_lit 103, nat_lit 117, nat_lit 114, nat_lit 101]⟩⟩
noncomputable abbrev o120_4 : OB := fun _ _ => ⟨(.type s2766695959194262286x5), none, (.seq ⟨[(.str z53 (nat_lit 324)), (.str z54 (nat_lit 325)), (.str z55 (nat_lit 326))]⟩ (nat_lit 0)), ⟨[]⟩⟩
noncomputable abbrev o121_4 : OB := fun _ _ => ⟨(.type s2766695959194262286x5), none, (.seq ⟨[]⟩ (nat_lit 0)), ⟨[]⟩⟩
noncomputable abbrev o122_4 : OB := fun p _ => ⟨.none, none, (.func ⟨z50, z50, fA (sAt p (nat_lit 13)), (.stmts (fB (sAt p (nat_lit 13)))), fS (sAt p (nat_lit 13)) p, nat_lit 0, [], .none, .none, .none, .none, none, .none, .none, nat_lit 0⟩), ⟨[]⟩⟩
noncomputable abbrev o123_4 : OB := fun _ _ => ⟨(.type s5856160107412720595x4), none, (.fields ⟨[(.str z50 (nat_lit 321)), (.str z50 (nat_lit 322)), (.str z1 (nat_lit 323)), (.int (.ofNat (nat_lit 45)) (nat_lit 0)), (.int (.ofNat (nat_lit 1)) (nat_lit 0)), (.int (.ofNat (nat_lit 0)) (nat_lit 0)), (.int (.ofNat (nat_lit 0)) (nat_lit 0)), (.int (.ofNat (nat_lit 3)) (nat_lit 0)), (.ref (nat_lit 118)), (.bool true), (.int (.ofNat (nat_lit 181)) (nat_lit 0)), (.ref (nat_lit 119)), .none, (.ref (nat_lit 120)), (.ref (nat_lit 121)), (.ref (nat_lit 122)), (.int (.ofNat (nat_lit 327)) (nat_lit 0)), (.int (.ofNat (nat_lit 45)) (nat_lit 0)), (.str z1 (nat_lit 328))]⟩), ⟨[]⟩⟩
noncomputable abbrev o124_4 : OB := fun p _ => ⟨(.type s7174869446012820540x8), none, (.func ⟨z50, z50, fA (sAt p (nat_lit 13)), (.stmts (fB (sAt p (nat_lit 13)))), fS (sAt p (nat_lit 13)) p, nat_lit 3, [], .none, .none, .none, (.str z31 (nat_lit 268)), none, (.ref (nat_lit 123)), .none, nat_lit 0⟩), ⟨[]⟩⟩
noncomputable abbrev o125_4 : OB := fun _ _ => ⟨(.type s2766695959194262286x5), none, (.seq ⟨[]⟩ (nat_lit 0)), ⟨[]⟩⟩
noncomputable abbrev o126_4 : OB := fun _ _ => ⟨.none, none, (.fields ⟨[]⟩), ⟨[]⟩⟩
noncomputable abbrev z56 : Str := ⟨⟨[nat_lit 116, nat_lit 101, nat_lit 120, nat_lit 116]⟩⟩
noncomputable abbrev z57 : Str := ⟨⟨[nat_lit 98, nat_lit 101, nat_lit 103, nat_lit 105, nat_lit 110]⟩⟩
noncomputable abbrev z58 : Str := ⟨⟨[nat_lit 97, nat_lit 104, nat_lit 101, nat_lit 97, nat_lit 100]⟩⟩
noncomputable abbrev z59 : Str := ⟨⟨[nat_lit 98, nat_lit 101, nat_lit 104, nat_lit 105, nat_lit 110, nat_lit 100]⟩⟩
noncomputable abbrev z60 : Str := ⟨⟨[nat_lit 112, nat_lit 111, nat_lit 105, nat_lit 110, nat_lit 116]⟩⟩
noncomputable abbrev o127_4 : OB := fun _ _ => ⟨(.type s2766695959194262286x5), none, (.seq ⟨[(.str z56 (nat_lit 333)), (.str z57 (nat_lit 334)), (.str z58 (nat_lit 335)), (.str z59 (nat_lit 336)), (.str z60 (nat_lit 337)), (.str z26 (nat_lit 338)), (.str z42 (nat_lit 339))]⟩ (nat_lit 0)), ⟨[]⟩⟩
noncomputable abbrev o128_4 : OB := fun _ _ => ⟨(.type s2766695959194262286x5), none, (.seq ⟨[]⟩ (nat_lit 0)), ⟨[]⟩⟩
noncomputable abbrev o129_4 : OB := fun p _ => ⟨.none, none, (.func ⟨z51, z51, fA (sAt p (nat_lit 14)), (.stmts (fB (sAt p (nat_lit 14)))), fS (sAt p (nat_lit 14)) p, nat_lit 0, [], .none, .none, .none, .none, none, .none, .none, nat_lit 0⟩), ⟨[]⟩⟩
noncomputable abbrev o130_4 : OB := fun _ _ => ⟨(.type s5856160107412720595x4), none, (.fields ⟨[(.str z51 (nat_lit 330)), (.str z51 (nat_lit 331)), (.str z1 (nat_lit 332)), (.int (.ofNat (nat_lit 50)) (nat_lit 0)), (.int (.ofNat (nat_lit 1)) (nat_lit 0)), (.int (.ofNat (nat_lit 0)) (nat_lit 0)), (.int (.ofNat (nat_lit 0)) (nat_lit 0)), (.int (.ofNat (nat_lit 3)) (nat_lit 0)), (.ref (nat_lit 125)), (.bool true), (.int (.ofNat (nat_lit 181)) (nat_lit 0)), (.ref (nat_lit 126)), .none, (.ref (nat_lit 127)), (.ref (nat_lit 128)), (.ref (nat_lit 129)), (.int (.ofNat (nat_lit 340)) (nat_lit 0)), (.int (.ofNat (nat_lit 50)) (nat_lit 0)), (.str z1 (nat_lit 341))]⟩), ⟨[]⟩⟩
noncomputable abbrev o131_4 : OB := fun p _ => ⟨(.type s7174869446012820540x8), none, (.func ⟨z51, z51, fA (sAt p (nat_lit 14)), (.stmts (fB (sAt p (nat_lit 14)))), fS (sAt p (nat_lit 14)) p, nat_lit 3, [], .none, .none, .none, (.str z31 (nat_lit 268)), none, (.ref (nat_lit 130)), .none, nat_lit 0⟩), ⟨[]⟩⟩
noncomputable abbrev tr4 (P : Params) : BT := ((((((((((((((((((((((((tr3 P).ins (nat_lit 3) (o3_4 prgQ P)).ins (nat_lit 12) (o12_4 prgQ P)).ins (nat_lit 111) (o111_4 prgQ P)).ins (nat_lit 112) (o112_4 prgQ P)).ins (nat_lit 113) (o113_4 prgQ P)).ins (nat_lit 114) (o114_4 prgQ P)).ins (nat_lit 115) (o115_4 prgQ P)).ins (nat_lit 116) (o116_4 prgQ P)).ins (nat_lit 117) (o117_4 prgQ P)).ins (nat_lit 118) (o118_4 prgQ P)).ins (nat_lit 119) (o119_4 prgQ P)).ins (nat_lit 120) (o120_4 prgQ P)).ins (nat_lit 121) (o121_4 prgQ P)).ins (nat_lit 122) (o122_4 prgQ P)).ins (nat_lit 123) (o123_4 prgQ P)).ins (nat_lit 124) (o124_4 prgQ P)).ins (nat_lit 125) (o125_4 prgQ P)).ins (nat_lit 126) (o126_4 prgQ P)).ins (nat_lit 127) (o127_4 prgQ P)).ins (nat_lit 128) (o128_4 prgQ P)).ins (nat_lit 129) (o129_4 prgQ P)).ins (nat_lit 130) (o130_4 prgQ P)).ins (nat_lit 131) (o131_4 prgQ P))
noncomputable abbrev st4 (w : World) (os : OsState) : SharedT := ⟨tr4 w.params, nat_lit 132, lifeQ, ⟨[]⟩, boot_drawn, nat_lit 347, os⟩
/-! GROUP 4 12 5 113 [] [] from ⟨nat_lit 41, nat_lit 0, nat_lit 42, nat_lit 20⟩ to ⟨nat_lit 66, nat_lit 0, nat_lit 66, nat_lit 15⟩ -/
noncomputable abbrev z61 : Str := ⟨⟨[nat_lit 70, nat_lit 73, nat_lit 71, nat_lit 85, nat_lit 82, nat_lit 69, nat_lit 95, nat_lit 78, nat_lit 65, nat_lit 77, nat_lit 69, nat_lit 83]⟩⟩
noncomputable abbrev o3_5 : OB := fun _ P => ⟨(.type s14018661285674007319x4), none, (.dict ⟨[⟨PyData.keyHash P z5, (.str z5 (nat_lit 165)), (.str z48 (nat_lit 343))⟩, ⟨PyData.keyHash P z7, (.str z7 (nat_lit 166)), .none⟩, ⟨PyData.keyHash P z8, (.str z8 (nat_lit 167)), .none⟩, ⟨PyData.keyHash P z9, (.str z9 (nat_lit 168)), (.builtin s7097527257260152453x26)⟩, ⟨PyData.keyHash P z10, (.str z10 (nat_lit 169)), .none⟩, ⟨PyData.keyHash P z11, (.str z11 (nat_lit 170)), (.ref (nat_lit 6))⟩, ⟨PyData.keyHash P z12, (.str z12 (nat_lit 171)), (.ref (nat_lit 4))⟩, ⟨PyData.keyHash P z13, (.str z13 (nat_lit 173)), (.str z1 (nat_lit 172))⟩, ⟨PyData.keyHash P z14, (.str z14 (nat_lit 174)), .none⟩, ⟨PyData.keyHash P z15, (.str z15 (nat_lit 193)), (.ref (nat_lit 21))⟩, ⟨PyData.keyHash P z16, (.str z16 (nat_lit 235)), (.ref (nat_lit 47))⟩, ⟨PyData.keyHash P z30, (.str z30 (nat_lit 251)), (.ref (nat_lit 60))⟩, ⟨PyData.keyHash P z32, (.str z32 (nat_lit 267)), (.ref (nat_lit 72))⟩, ⟨PyData.keyHash P z33, (.str z33 (nat_lit 271)), (.str z34 (nat_lit 270))⟩, ⟨PyData.keyHash P z35, (.str z35 (nat_lit 279)), (.ref (nat_lit 81))⟩, ⟨PyData.keyHash P z36, (.str z36 (nat_lit 288)), (.ref (nat_lit 89))⟩, ⟨PyData.keyHash P z37, (.str z37 (nat_lit 295)), (.ref (nat_lit 96))⟩, ⟨PyData.keyHash P z38, (.str z38 (nat_lit 306)), (.ref (nat_lit 103))⟩, ⟨PyData.keyHash P z39, (.str z39 (nat_lit 313)), (.ref (nat_lit 110))⟩, ⟨PyData.keyHash P z49, (.str z49 (nat_lit 320)), (.ref (nat_lit 117))⟩, ⟨PyData.keyHash P z50, (.str z50 (nat_lit 329)), (.ref (nat_lit 124))⟩, ⟨PyData.keyHash P z51, (.str z51 (nat_lit 342)), (.ref (nat_lit 131))⟩, ⟨PyData.keyHash P z52, (.str z52 (nat_lit 346)), (.int (.ofNat (nat_lit 7)) (nat_lit 345))⟩, ⟨PyData.keyHash P z61, (.str z61 (nat_lit 380)), (.ref (nat_lit 132))⟩]⟩ (nat_lit 24)), ⟨[]⟩⟩
noncomputable abbrev z62 : Str := ⟨⟨[nat_lit 90, nat_lit 69, nat_lit 82, nat_lit 79]⟩⟩
noncomputable abbrev z63 : Str := ⟨⟨[nat_lit 90, nat_lit 69, nat_lit 82, nat_lit 79, nat_lit 83]⟩⟩
noncomputable abbrev z64 : Str := ⟨⟨[nat_lit 90, nat_lit 69, nat_lit 82, nat_lit 79, nat_lit 69, nat_lit 83]⟩⟩
noncomputable abbrev z65 : Str := ⟨⟨[nat_lit 83, nat_lit 80, nat_lit 65, nat_lit 67, nat_lit 69]⟩⟩
noncomputable abbrev z66 : Str := ⟨⟨[nat_lit 83, nat_lit 80, nat_lit 65, nat_lit 67, nat_lit 69, nat_lit 83]⟩⟩
noncomputable abbrev z67 : Str := ⟨⟨[nat_lit 72, nat_lit 73, nat_lit 71, nat_lit 72, nat_lit 45, nat_lit 86, nat_lit 65, nat_lit 76, nat_lit 85, nat_lit 69]⟩⟩
noncomputable abbrev z68 : Str := ⟨⟨[nat_lit 72, nat_lit 73, nat_lit 71, nat_lit 72]⟩⟩
noncomputable abbrev z69 : Str := ⟨⟨[nat_lit 72, nat_lit 73, nat_lit 71, nat_lit 72, nat_lit 45, nat_lit 86, nat_lit 65, nat_lit 76, nat_lit 85, nat_lit 69, nat_lit 83]⟩⟩
noncomputable abbrev z70 : Str := ⟨⟨[nat_lit 76, nat_lit 79, nat_lit 87, nat_lit 45, nat_lit 86, nat_lit 65, nat_lit 76, nat_lit 85, nat_lit 69]⟩⟩
noncomputable abbrev z71 : Str := ⟨⟨[nat_lit 76, nat_lit 79, nat_lit 87]⟩⟩
noncomputable abbrev z72 : Str := ⟨⟨[nat_lit 76, nat_lit 79, nat_lit 87, nat_lit 45, nat_lit 86, nat_lit 65, nat_lit 76, nat_lit 85, nat_lit 69, nat_lit 83]⟩⟩
noncomputable abbrev z73 : Str := ⟨⟨[nat_lit 81, nat_lit 85, nat_lit 79, nat_lit 84, nat_lit 69]⟩⟩
noncomputable abbrev z74 : Str := ⟨⟨[nat_lit 81, nat_lit 85, nat_lit 79, nat_lit 84, nat_lit 69, nat_lit 83]⟩⟩
noncomputable abbrev o132_5 : OB := fun _ P => ⟨(.type s14018661285674007319x4), none, (.dict ⟨[⟨PyData.keyHash P z62, (.str z62 (nat_lit 347)), (.str z62 (nat_lit 348))⟩, ⟨PyData.keyHash P z63, (.str z63 (nat_lit 349)), (.str z62 (nat_lit 350))⟩, ⟨PyData.keyHash P z64, (.str z64 (nat_lit 351)), (.str z62 (nat_lit 352))⟩, ⟨PyData.keyHash P z65, (.str z65 (nat_lit 353)), (.str z65 (nat_lit 354))⟩, ⟨PyData.keyHash P z66, (.str z66 (nat_lit 355)), (.str z65 (nat_lit 356))⟩, ⟨PyData.keyHash P z67, (.str z67 (nat_lit 357)), (.str z68 (nat_lit 358))⟩, ⟨PyData.keyHash P z69, (.str z69 (nat_lit 359)), (.str z68 (nat_lit 360))⟩, ⟨PyData.keyHash P z70, (.str z70 (nat_lit 361)), (.str z71 (nat_lit 362))⟩, ⟨PyData.keyHash P z72, (.str z72 (nat_lit 363)), (.str z71 (nat_lit 364))⟩, ⟨PyData.keyHash P z73, (.str z73 (nat_lit 365)), (.str z73 (nat_lit 366))⟩, ⟨PyData.keyHash P z74, (.str z74 (nat_lit 367)), (.str z73 (nat_lit 368))⟩]⟩ (nat_lit 11)), ⟨[]⟩⟩
noncomputable abbrev tr5 (P : Params) : BT := (((tr4 P).ins (nat_lit 3) (o3_5 prgQ P)).ins (nat_lit 132) (o132_5 prgQ P))
noncomputable abbrev st5 (w : World) (os : OsState) : SharedT := ⟨tr5 w.params, nat_lit 133, lifeQ, ⟨[]⟩, boot_drawn, nat_lit 381, os⟩
/-! GROUP 5 17 1 175 [special-get-raises] [special-get-raises] from ⟨nat_lit 66, nat_lit 0, nat_lit 66, nat_lit 15⟩ to ⟨nat_lit 67, nat_lit 0, nat_lit 67, nat_lit 12⟩ -/
noncomputable abbrev z75 : Str := ⟨⟨[nat_lit 108, nat_lit 101, nat_lit 100, nat_lit 103, nat_lit 101, nat_lit 114, nat_lit 115, nat_lit 112, nat_lit 101, nat_lit 97, nat_lit 107, nat_lit 46, nat_lit 101, nat_lit 120, nat_lit 112, nat_lit 114, nat_lit 101, nat_lit 115, nat_lit 115, nat_lit 105, nat_lit 111, nat_lit 110, nat_lit 115]⟩⟩
noncomputable abbrev z76 : Str := ⟨⟨[nat_lit 105, nat_lit 115, nat_lit 95, nat_lit 112, nat_lit 97, nat_lit 114, nat_lit 116, nat_lit 95, nat_lit 110, nat_lit 101, nat_lit 120, nat_lit 116]⟩⟩
noncomputable abbrev z77 : Str := ⟨⟨[nat_lit 114, nat_lit 101, nat_lit 97, nat_lit 100, nat_lit 95, nat_lit 115, nat_lit 117, nat_lit 98, nat_lit 115, nat_lit 99, nat_lit 114, nat_lit 105, nat_lit 112, nat_lit 116, nat_lit 115]⟩⟩
noncomputable abbrev z78 : Str := ⟨⟨[nat_lit 114, nat_lit 101, nat_lit 97, nat_lit 100, nat_lit 95, nat_lit 112, nat_lit 97, nat_lit 114, nat_lit 116]⟩⟩
noncomputable abbrev z79 : Str := ⟨⟨[nat_lit 114, nat_lit 101, nat_lit 97, nat_lit 100, nat_lit 95, nat_lit 114, nat_lit 101, nat_lit 102]⟩⟩
noncomputable abbrev z80 : Str := ⟨⟨[nat_lit 114, nat_lit 101, nat_lit 97, nat_lit 100, nat_lit 95, nat_lit 97, nat_lit 108, nat_lit 108]⟩⟩
noncomputable abbrev z81 : Str := ⟨⟨[nat_lit 114, nat_lit 101, nat_lit 97, nat_lit 100, nat_lit 95, nat_lit 102, nat_lit 105, nat_lit 103, nat_lit 117, nat_lit 114, nat_lit 101]⟩⟩
noncomputable abbrev z82 : Str := ⟨⟨[nat_lit 114, nat_lit 101, nat_lit 97, nat_lit 100, nat_lit 95, nat_lit 111, nat_lit 112, nat_lit 101, nat_lit 114, nat_lit 97, nat_lit 110, nat_lit 100]⟩⟩
noncomputable abbrev z83 : Str := ⟨⟨[nat_lit 77, nat_lit 79, nat_lit 83, nat_lit 84, nat_lit 95, nat_lit 68, nat_lit 69, nat_lit 69, nat_lit 80]⟩⟩
noncomputable abbrev z84 : Str := ⟨⟨[nat_lit 114, nat_lit 101, nat_lit 97, nat_lit 100, nat_lit 95, nat_lit 101, nat_lit 120, nat_lit 112, nat_lit 114, nat_lit 101, nat_lit 115, nat_lit 115, nat_lit 105, nat_lit 111, nat_lit 110]⟩⟩
noncomputable abbrev z85 : Str := ⟨⟨[nat_lit 115, nat_lit 105, nat_lit 103, nat_lit 110, nat_lit 95, nat_lit 97, nat_lit 109, nat_lit 111, nat_lit 110, nat_lit 103]⟩⟩
noncomputable abbrev z86 : Str := ⟨⟨[nat_lit 114, nat_lit 101, nat_lit 97, nat_lit 100, nat_lit 95, nat_lit 115, nat_lit 117, nat_lit 109]⟩⟩
noncomputable abbrev z87 : Str := ⟨⟨[nat_lit 114, nat_lit 101, nat_lit 97, nat_lit 100, nat_lit 95, nat_lit 112, nat_lit 114, nat_lit 111, nat_lit 100, nat_lit 117, nat_lit 99, nat_lit 116]⟩⟩
noncomputable abbrev z88 : Str := ⟨⟨[nat_lit 114, nat_lit 101, nat_lit 97, nat_lit 100, nat_lit 95, nat_lit 102, nat_lit 97, nat_lit 99, nat_lit 116, nat_lit 111, nat_lit 114]⟩⟩
noncomputable abbrev o3_6 : OB := fun _ P => ⟨(.type s14018661285674007319x4), none, (.dict ⟨[⟨PyData.keyHash P z5, (.str z5 (nat_lit 165)), (.str z75 (nat_lit 445))⟩, ⟨PyData.keyHash P z7, (.str z7 (nat_lit 166)), .none⟩, ⟨PyData.keyHash P z8, (.str z8 (nat_lit 167)), .none⟩, ⟨PyData.keyHash P z9, (.str z9 (nat_lit 168)), (.builtin s7097527257260152453x26)⟩, ⟨PyData.keyHash P z10, (.str z10 (nat_lit 169)), .none⟩, ⟨PyData.keyHash P z11, (.str z11 (nat_lit 170)), (.ref (nat_lit 6))⟩, ⟨PyData.keyHash P z12, (.str z12 (nat_lit 171)), (.ref (nat_lit 4))⟩, ⟨PyData.keyHash P z13, (.str z13 (nat_lit 173)), (.str z1 (nat_lit 172))⟩, ⟨PyData.keyHash P z14, (.str z14 (nat_lit 174)), .none⟩, ⟨PyData.keyHash P z15, (.str z15 (nat_lit 193)), (.ref (nat_lit 21))⟩, ⟨PyData.keyHash P z16, (.str z16 (nat_lit 235)), (.ref (nat_lit 47))⟩, ⟨PyData.keyHash P z30, (.str z30 (nat_lit 251)), (.ref (nat_lit 60))⟩, ⟨PyData.keyHash P z32, (.str z32 (nat_lit 267)), (.ref (nat_lit 72))⟩, ⟨PyData.keyHash P z33, (.str z33 (nat_lit 271)), (.str z34 (nat_lit 270))⟩, ⟨PyData.keyHash P z35, (.str z35 (nat_lit 279)), (.ref (nat_lit 81))⟩, ⟨PyData.keyHash P z36, (.str z36 (nat_lit 288)), (.ref (nat_lit 89))⟩, ⟨PyData.keyHash P z37, (.str z37 (nat_lit 295)), (.ref (nat_lit 96))⟩, ⟨PyData.keyHash P z38, (.str z38 (nat_lit 306)), (.ref (nat_lit 103))⟩, ⟨PyData.keyHash P z39, (.str z39 (nat_lit 313)), (.ref (nat_lit 110))⟩, ⟨PyData.keyHash P z49, (.str z49 (nat_lit 320)), (.ref (nat_lit 117))⟩, ⟨PyData.keyHash P z50, (.str z50 (nat_lit 329)), (.ref (nat_lit 124))⟩, ⟨PyData.keyHash P z51, (.str z51 (nat_lit 342)), (.ref (nat_lit 131))⟩, ⟨PyData.keyHash P z52, (.str z52 (nat_lit 346)), (.int (.ofNat (nat_lit 7)) (nat_lit 345))⟩, ⟨PyData.keyHash P z61, (.str z61 (nat_lit 380)), (.ref (nat_lit 132))⟩, ⟨PyData.keyHash P z76, (.str z76 (nat_lit 389)), (.ref (nat_lit 139))⟩, ⟨PyData.keyHash P z77, (.str z77 (nat_lit 398)), (.ref (nat_lit 146))⟩, ⟨PyData.keyHash P z78, (.str z78 (nat_lit 408)), (.ref (nat_lit 153))⟩, ⟨PyData.keyHash P z79, (.str z79 (nat_lit 420)), (.ref (nat_lit 160))⟩, ⟨PyData.keyHash P z80, (.str z80 (nat_lit 428)), (.ref (nat_lit 167))⟩, ⟨PyData.keyHash P z81, (.str z81 (nat_lit 435)), (.ref (nat_lit 174))⟩, ⟨PyData.keyHash P z82, (.str z82 (nat_lit 444)), (.ref (nat_lit 181))⟩, ⟨PyData.keyHash P z83, (.str z83 (nat_lit 448)), (.int (.ofNat (nat_lit 20)) (nat_lit 447))⟩, ⟨PyData.keyHash P z84, (.str z84 (nat_lit 455)), (.ref (nat_lit 188))⟩, ⟨PyData.keyHash P z85, (.str z85 (nat_lit 464)), (.ref (nat_lit 195))⟩, ⟨PyData.keyHash P z86, (.str z86 (nat_lit 474)), (.ref (nat_lit 202))⟩, ⟨PyData.keyHash P z87, (.str z87 (nat_lit 484)), (.ref (nat_lit 209))⟩, ⟨PyData.keyHash P z88, (.str z88 (nat_lit 495)), (.ref (nat_lit 216))⟩]⟩ (nat_lit 37)), ⟨[]⟩⟩
noncomputable abbrev o12_6 : OB := fun _ _ => ⟨.none, none, (.fields ⟨((.int (.ofNat (nat_lit 1)) (nat_lit 0)) :: (.int (.ofNat (nat_lit 0)) (nat_lit 0)) :: (.ref (nat_lit 20)) :: (.int (.ofNat (nat_lit 5)) (nat_lit 0)) :: (.int (.ofNat (nat_lit 0)) (nat_lit 0)) :: (.ref (nat_lit 27)) :: (.int (.ofNat (nat_lit 14)) (nat_lit 0)) :: (.int (.ofNat (nat_lit 0)) (nat_lit 0)) :: (.ref (nat_lit 56)) :: (.int (.ofNat (nat_lit 16)) (nat_lit 0)) :: (.int (.ofNat (nat_lit 0)) (nat_lit 0)) :: (.ref (nat_lit 68)) :: (.int (.ofNat (nat_lit 20)) (nat_lit 0)) :: (.int (.ofNat (nat_lit 0)) (nat_lit 0)) :: (.ref (nat_lit 80)) :: (.int (.ofNat (nat_lit 24)) (nat_lit 0)) :: (.int (.ofNat (nat_lit 0)) (nat_lit 0)) :: (.ref (nat_lit 88)) :: (.int (.ofNat (nat_lit 31)) (nat_lit 0)) :: (.int (.ofNat (nat_lit 0)) (nat_lit 0)) :: (.ref (nat_lit 95)) :: (.int (.ofNat (nat_lit 33)) (nat_lit 0)) :: (.int (.ofNat (nat_lit 0)) (nat_lit 0)) :: (.ref (nat_lit 102)) :: (.int (.ofNat (nat_lit 41)) (nat_lit 0)) :: (.int (.ofNat (nat_lit 0)) (nat_lit 0)) :: (.ref (nat_lit 109)) :: (.int (.ofNat (nat_lit 43)) (nat_lit 0)) :: (.int (.ofNat (nat_lit 0)) (nat_lit 0)) :: (.ref (nat_lit 116)) :: (.int (.ofNat (nat_lit 45)) (nat_lit 0)) :: (.int (.ofNat (nat_lit 0)) (nat_lit 0)) :: (.ref (nat_lit 123)) :: (.int (.ofNat (nat_lit 50)) (nat_lit 0)) :: (.int (.ofNat (nat_lit 0)) (nat_lit 0)) :: (.ref (nat_lit 130)) :: (.int (.ofNat (nat_lit 68)) (nat_lit 0)) :: (.int (.ofNat (nat_lit 0)) (nat_lit 0)) :: (.ref (nat_lit 138)) :: (.int (.ofNat (nat_lit 81)) (nat_lit 0)) :: (.int (.ofNat (nat_lit 0)) (nat_lit 0)) :: (.ref (nat_lit 145)) :: (.int (.ofNat (nat_lit 89)) (nat_lit 0)) :: (.int (.ofNat (nat_lit 0)) (nat_lit 0)) :: (.ref (nat_lit 152)) :: (.int (.ofNat (nat_lit 96)) (nat_lit 0)) :: (.int (.ofNat (nat_lit 0)) (nat_lit 0)) :: (.ref (nat_lit 159)) :: (.int (.ofNat (nat_lit 106)) (nat_lit 0)) :: (.int (.ofNat (nat_lit 0)) (nat_lit 0)) :: (.ref (nat_lit 166)) :: (.int (.ofNat (nat_lit 113)) (nat_lit 0)) :: (.int (.ofNat (nat_lit 0)) (nat_lit 0)) :: (.ref (nat_lit 173)) :: (.int (.ofNat (nat_lit 117)) (nat_lit 0)) :: (.int (.ofNat (nat_lit 0)) (nat_lit 0)) :: (.ref (nat_lit 180)) :: (.int (.ofNat (nat_lit 128)) (nat_lit 0)) :: (.int (.ofNat (nat_lit 0)) (nat_lit 0)) :: (.ref (nat_lit 187)) :: (.int (.ofNat (nat_lit 130)) (nat_lit 0)) :: (.int (.ofNat (nat_lit 0)) (nat_lit 0)) :: (.ref (nat_lit 194)) :: (.int (.ofNat (nat_lit 135)) (nat_lit 0)) :: (.int (.ofNat (nat_lit 0)) (nat_lit 0)) :: (.ref (nat_lit 201)) :: (.int (.ofNat (nat_lit 143)) (nat_lit 0)) :: (.int (.ofNat (nat_lit 0)) (nat_lit 0)) :: (.ref (nat_lit 208)) :: (.int (.ofNat (nat_lit 149)) (nat_lit 0)) :: (.int (.ofNat (nat_lit 0)) (nat_lit 0)) :: (.ref (nat_lit 215)) :: [])⟩), ⟨[]⟩⟩
noncomputable abbrev o133_6 : OB := fun _ _ => ⟨(.type s2766695959194262286x5), none, (.seq ⟨[]⟩ (nat_lit 0)), ⟨[]⟩⟩
noncomputable abbrev o134_6 : OB := fun _ _ => ⟨.none, none, (.fields ⟨[]⟩), ⟨[]⟩⟩
noncomputable abbrev z89 : Str := ⟨⟨[nat_lit 114, nat_lit 101, nat_lit 97, nat_lit 100, nat_lit 101, nat_lit 114]⟩⟩
noncomputable abbrev z90 : Str := ⟨⟨[nat_lit 100, nat_lit 101, nat_lit 112, nat_lit 116, nat_lit 104]⟩⟩
noncomputable abbrev o135_6 : OB := fun _ _ => ⟨(.type s2766695959194262286x5), none, (.seq ⟨[(.str z89 (nat_lit 384)), (.str z90 (nat_lit 385)), (.str z58 (nat_lit 386))]⟩ (nat_lit 0)), ⟨[]⟩⟩
noncomputable abbrev o136_6 : OB := fun _ _ => ⟨(.type s2766695959194262286x5), none, (.seq ⟨[]⟩ (nat_lit 0)), ⟨[]⟩⟩
noncomputable abbrev o137_6 : OB := fun p _ => ⟨.none, none, (.func ⟨z76, z76, fA (sAt p (nat_lit 18)), (.stmts (fB (sAt p (nat_lit 18)))), fS (sAt p (nat_lit 18)) p, nat_lit 0, [], .none, .none, .none, .none, none, .none, .none, nat_lit 0⟩), ⟨[]⟩⟩
noncomputable abbrev o138_6 : OB := fun _ _ => ⟨(.type s5856160107412720595x4), none, (.fields ⟨[(.str z76 (nat_lit 381)), (.str z76 (nat_lit 382)), (.str z1 (nat_lit 383)), (.int (.ofNat (nat_lit 68)) (nat_lit 0)), (.int (.ofNat (nat_lit 1)) (nat_lit 0)), (.int (.ofNat (nat_lit 0)) (nat_lit 0)), (.int (.ofNat (nat_lit 0)) (nat_lit 0)), (.int (.ofNat (nat_lit 3)) (nat_lit 0)), (.ref (nat_lit 133)), (.bool true), (.int (.ofNat (nat_lit 181)) (nat_lit 0)), (.ref (nat_lit 134)), .none, (.ref (nat_lit 135)), (.ref (nat_lit 136)), (.ref (nat_lit 137)), (.int (.ofNat (nat_lit 387)) (nat_lit 0)), (.int (.ofNat (nat_lit 68)) (nat_lit 0)), (.str z1 (nat_lit 388))]⟩), ⟨[]⟩⟩
noncomputable abbrev o139_6 : OB := fun p _ => ⟨(.type s7174869446012820540x8), none, (.func ⟨z76, z76, fA (sAt p (nat_lit 18)), (.stmts (fB (sAt p (nat_lit 18)))), fS (sAt p (nat_lit 18)) p, nat_lit 3, [], .none, .none, .none, (.str z48 (nat_lit 343)), none, (.ref (nat_lit 138)), .none, nat_lit 0⟩), ⟨[]⟩⟩
noncomputable abbrev o140_6 : OB := fun _ _ => ⟨(.type s2766695959194262286x5), none, (.seq ⟨[]⟩ (nat_lit 0)), ⟨[]⟩⟩
noncomputable abbrev o141_6 : OB := fun _ _ => ⟨.none, none, (.fields ⟨[]⟩), ⟨[]⟩⟩
noncomputable abbrev z91 : Str := ⟨⟨[nat_lit 114, nat_lit 101, nat_lit 97, nat_lit 100, nat_lit 95, nat_lit 101, nat_lit 120, nat_lit 112, nat_lit 114]⟩⟩
noncomputable abbrev z92 : Str := ⟨⟨[nat_lit 102, nat_lit 111, nat_lit 117, nat_lit 110, nat_lit 100]⟩⟩
noncomputable abbrev o142_6 : OB := fun _ _ => ⟨(.type s2766695959194262286x5), none, (.seq ⟨[(.str z89 (nat_lit 393)), (.str z91 (nat_lit 394)), (.str z92 (nat_lit 395))]⟩ (nat_lit 0)), ⟨[]⟩⟩
noncomputable abbrev o143_6 : OB := fun _ _ => ⟨(.type s2766695959194262286x5), none, (.seq ⟨[]⟩ (nat_lit 0)), ⟨[]⟩⟩
noncomputable abbrev o144_6 : OB := fun p _ => ⟨.none, none, (.func ⟨z77, z77, fA (sAt p (nat_lit 19)), (.stmts (fB (sAt p (nat_lit 19)))), fS (sAt p (nat_lit 19)) p, nat_lit 0, [], .none, .none, .none, .none, none, .none, .none, nat_lit 0⟩), ⟨[]⟩⟩
noncomputable abbrev o145_6 : OB := fun _ _ => ⟨(.type s5856160107412720595x4), none, (.fields ⟨[(.str z77 (nat_lit 390)), (.str z77 (nat_lit 391)), (.str z1 (nat_lit 392)), (.int (.ofNat (nat_lit 81)) (nat_lit 0)), (.int (.ofNat (nat_lit 2)) (nat_lit 0)), (.int (.ofNat (nat_lit 0)) (nat_lit 0)), (.int (.ofNat (nat_lit 0)) (nat_lit 0)), (.int (.ofNat (nat_lit 3)) (nat_lit 0)), (.ref (nat_lit 140)), (.bool true), (.int (.ofNat (nat_lit 181)) (nat_lit 0)), (.ref (nat_lit 141)), .none, (.ref (nat_lit 142)), (.ref (nat_lit 143)), (.ref (nat_lit 144)), (.int (.ofNat (nat_lit 396)) (nat_lit 0)), (.int (.ofNat (nat_lit 81)) (nat_lit 0)), (.str z1 (nat_lit 397))]⟩), ⟨[]⟩⟩
noncomputable abbrev o146_6 : OB := fun p _ => ⟨(.type s7174869446012820540x8), none, (.func ⟨z77, z77, fA (sAt p (nat_lit 19)), (.stmts (fB (sAt p (nat_lit 19)))), fS (sAt p (nat_lit 19)) p, nat_lit 3, [], .none, .none, .none, (.str z48 (nat_lit 343)), none, (.ref (nat_lit 145)), .none, nat_lit 0⟩), ⟨[]⟩⟩
noncomputable abbrev o147_6 : OB := fun _ _ => ⟨(.type s2766695959194262286x5), none, (.seq ⟨[]⟩ (nat_lit 0)), ⟨[]⟩⟩
noncomputable abbrev o148_6 : OB := fun _ _ => ⟨.none, none, (.fields ⟨[]⟩), ⟨[]⟩⟩
noncomputable abbrev z93 : Str := ⟨⟨[nat_lit 108, nat_lit 101, nat_lit 110, nat_lit 103, nat_lit 116, nat_lit 104]⟩⟩
noncomputable abbrev o149_6 : OB := fun _ _ => ⟨(.type s2766695959194262286x5), none, (.seq ⟨[(.str z89 (nat_lit 402)), (.str z91 (nat_lit 403)), (.str z57 (nat_lit 404)), (.str z93 (nat_lit 405))]⟩ (nat_lit 0)), ⟨[]⟩⟩
noncomputable abbrev o150_6 : OB := fun _ _ => ⟨(.type s2766695959194262286x5), none, (.seq ⟨[]⟩ (nat_lit 0)), ⟨[]⟩⟩
noncomputable abbrev o151_6 : OB := fun p _ => ⟨.none, none, (.func ⟨z78, z78, fA (sAt p (nat_lit 20)), (.stmts (fB (sAt p (nat_lit 20)))), fS (sAt p (nat_lit 20)) p, nat_lit 0, [], .none, .none, .none, .none, none, .none, .none, nat_lit 0⟩), ⟨[]⟩⟩
noncomputable abbrev o152_6 : OB := fun _ _ => ⟨(.type s5856160107412720595x4), none, (.fields ⟨[(.str z78 (nat_lit 399)), (.str z78 (nat_lit 400)), (.str z1 (nat_lit 401)), (.int (.ofNat (nat_lit 89)) (nat_lit 0)), (.int (.ofNat (nat_lit 2)) (nat_lit 0)), (.int (.ofNat (nat_lit 0)) (nat_lit 0)), (.int (.ofNat (nat_lit 0)) (nat_lit 0)), (.int (.ofNat (nat_lit 3)) (nat_lit 0)), (.ref (nat_lit 147)), (.bool true), (.int (.ofNat (nat_lit 181)) (nat_lit 0)), (.ref (nat_lit 148)), .none, (.ref (nat_lit 149)), (.ref (nat_lit 150)), (.ref (nat_lit 151)), (.int (.ofNat (nat_lit 406)) (nat_lit 0)), (.int (.ofNat (nat_lit 89)) (nat_lit 0)), (.str z1 (nat_lit 407))]⟩), ⟨[]⟩⟩
noncomputable abbrev o153_6 : OB := fun p _ => ⟨(.type s7174869446012820540x8), none, (.func ⟨z78, z78, fA (sAt p (nat_lit 20)), (.stmts (fB (sAt p (nat_lit 20)))), fS (sAt p (nat_lit 20)) p, nat_lit 3, [], .none, .none, .none, (.str z48 (nat_lit 343)), none, (.ref (nat_lit 152)), .none, nat_lit 0⟩), ⟨[]⟩⟩
noncomputable abbrev o154_6 : OB := fun _ _ => ⟨(.type s2766695959194262286x5), none, (.seq ⟨[]⟩ (nat_lit 0)), ⟨[]⟩⟩
noncomputable abbrev o155_6 : OB := fun _ _ => ⟨.none, none, (.fields ⟨[]⟩), ⟨[]⟩⟩
noncomputable abbrev z94 : Str := ⟨⟨[nat_lit 110, nat_lit 97, nat_lit 109, nat_lit 101]⟩⟩
noncomputable abbrev z95 : Str := ⟨⟨[nat_lit 113, nat_lit 117, nat_lit 97, nat_lit 108, nat_lit 105, nat_lit 102, nat_lit 105, nat_lit 101, nat_lit 114, nat_lit 115]⟩⟩
noncomputable abbrev z96 : Str := ⟨⟨[nat_lit 115, nat_lit 117, nat_lit 98, nat_lit 115, nat_lit 99, nat_lit 114, nat_lit 105, nat_lit 112, nat_lit 116, nat_lit 115]⟩⟩
noncomputable abbrev z97 : Str := ⟨⟨[nat_lit 112, nat_lit 97, nat_lit 114, nat_lit 116]⟩⟩
noncomputable abbrev o156_6 : OB := fun _ _ => ⟨(.type s2766695959194262286x5), none, (.seq ⟨[(.str z89 (nat_lit 412)), (.str z91 (nat_lit 413)), (.str z94 (nat_lit 414)), (.str z95 (nat_lit 415)), (.str z96 (nat_lit 416)), (.str z97 (nat_lit 417))]⟩ (nat_lit 0)), ⟨[]⟩⟩
noncomputable abbrev o157_6 : OB := fun _ _ => ⟨(.type s2766695959194262286x5), none, (.seq ⟨[]⟩ (nat_lit 0)), ⟨[]⟩⟩
noncomputable abbrev o158_6 : OB := fun p _ => ⟨.none, none, (.func ⟨z79, z79, fA (sAt p (nat_lit 21)), (.stmts (fB (sAt p (nat_lit 21)))), fS (sAt p (nat_lit 21)) p, nat_lit 0, [], .none, .none, .none, .none, none, .none, .none, nat_lit 0⟩), ⟨[]⟩⟩
noncomputable abbrev o159_6 : OB := fun _ _ => ⟨(.type s5856160107412720595x4), none, (.fields ⟨[(.str z79 (nat_lit 409)), (.str z79 (nat_lit 410)), (.str z1 (nat_lit 411)), (.int (.ofNat (nat_lit 96)) (nat_lit 0)), (.int (.ofNat (nat_lit 2)) (nat_lit 0)), (.int (.ofNat (nat_lit 0)) (nat_lit 0)), (.int (.ofNat (nat_lit 0)) (nat_lit 0)), (.int (.ofNat (nat_lit 3)) (nat_lit 0)), (.ref (nat_lit 154)), (.bool true), (.int (.ofNat (nat_lit 181)) (nat_lit 0)), (.ref (nat_lit 155)), .none, (.ref (nat_lit 156)), (.ref (nat_lit 157)), (.ref (nat_lit 158)), (.int (.ofNat (nat_lit 418)) (nat_lit 0)), (.int (.ofNat (nat_lit 96)) (nat_lit 0)), (.str z1 (nat_lit 419))]⟩), ⟨[]⟩⟩
noncomputable abbrev o160_6 : OB := fun p _ => ⟨(.type s7174869446012820540x8), none, (.func ⟨z79, z79, fA (sAt p (nat_lit 21)), (.stmts (fB (sAt p (nat_lit 21)))), fS (sAt p (nat_lit 21)) p, nat_lit 3, [], .none, .none, .none, (.str z48 (nat_lit 343)), none, (.ref (nat_lit 159)), .none, nat_lit 0⟩), ⟨[]⟩⟩
noncomputable abbrev o161_6 : OB := fun _ _ => ⟨(.type s2766695959194262286x5), none, (.seq ⟨[]⟩ (nat_lit 0)), ⟨[]⟩⟩
noncomputable abbrev o162_6 : OB := fun _ _ => ⟨.none, none, (.fields ⟨[]⟩), ⟨[]⟩⟩
noncomputable abbrev o163_6 : OB := fun _ _ => ⟨(.type s2766695959194262286x5), none, (.seq ⟨[(.str z89 (nat_lit 424)), (.str z55 (nat_lit 425))]⟩ (nat_lit 0)), ⟨[]⟩⟩
noncomputable abbrev o164_6 : OB := fun _ _ => ⟨(.type s2766695959194262286x5), none, (.seq ⟨[]⟩ (nat_lit 0)), ⟨[]⟩⟩
noncomputable abbrev o165_6 : OB := fun p _ => ⟨.none, none, (.func ⟨z80, z80, fA (sAt p (nat_lit 22)), (.stmts (fB (sAt p (nat_lit 22)))), fS (sAt p (nat_lit 22)) p, nat_lit 0, [], .none, .none, .none, .none, none, .none, .none, nat_lit 0⟩), ⟨[]⟩⟩
noncomputable abbrev o166_6 : OB := fun _ _ => ⟨(.type s5856160107412720595x4), none, (.fields ⟨[(.str z80 (nat_lit 421)), (.str z80 (nat_lit 422)), (.str z1 (nat_lit 423)), (.int (.ofNat (nat_lit 106)) (nat_lit 0)), (.int (.ofNat (nat_lit 1)) (nat_lit 0)), (.int (.ofNat (nat_lit 0)) (nat_lit 0)), (.int (.ofNat (nat_lit 0)) (nat_lit 0)), (.int (.ofNat (nat_lit 3)) (nat_lit 0)), (.ref (nat_lit 161)), (.bool true), (.int (.ofNat (nat_lit 181)) (nat_lit 0)), (.ref (nat_lit 162)), .none, (.ref (nat_lit 163)), (.ref (nat_lit 164)), (.ref (nat_lit 165)), (.int (.ofNat (nat_lit 426)) (nat_lit 0)), (.int (.ofNat (nat_lit 106)) (nat_lit 0)), (.str z1 (nat_lit 427))]⟩), ⟨[]⟩⟩
noncomputable abbrev o167_6 : OB := fun p _ => ⟨(.type s7174869446012820540x8), none, (.func ⟨z80, z80, fA (sAt p (nat_lit 22)), (.stmts (fB (sAt p (nat_lit 22)))), fS (sAt p (nat_lit 22)) p, nat_lit 3, [], .none, .none, .none, (.str z48 (nat_lit 343)), none, (.ref (nat_lit 166)), .none, nat_lit 0⟩), ⟨[]⟩⟩
noncomputable abbrev o168_6 : OB := fun _ _ => ⟨(.type s2766695959194262286x5), none, (.seq ⟨[]⟩ (nat_lit 0)), ⟨[]⟩⟩
noncomputable abbrev o169_6 : OB := fun _ _ => ⟨.none, none, (.fields ⟨[]⟩), ⟨[]⟩⟩
noncomputable abbrev o170_6 : OB := fun _ _ => ⟨(.type s2766695959194262286x5), none, (.seq ⟨[(.str z89 (nat_lit 432))]⟩ (nat_lit 0)), ⟨[]⟩⟩
noncomputable abbrev o171_6 : OB := fun _ _ => ⟨(.type s2766695959194262286x5), none, (.seq ⟨[]⟩ (nat_lit 0)), ⟨[]⟩⟩
noncomputable abbrev o172_6 : OB := fun p _ => ⟨.none, none, (.func ⟨z81, z81, fA (sAt p (nat_lit 23)), (.stmts (fB (sAt p (nat_lit 23)))), fS (sAt p (nat_lit 23)) p, nat_lit 0, [], .none, .none, .none, .none, none, .none, .none, nat_lit 0⟩), ⟨[]⟩⟩
noncomputable abbrev o173_6 : OB := fun _ _ => ⟨(.type s5856160107412720595x4), none, (.fields ⟨[(.str z81 (nat_lit 429)), (.str z81 (nat_lit 430)), (.str z1 (nat_lit 431)), (.int (.ofNat (nat_lit 113)) (nat_lit 0)), (.int (.ofNat (nat_lit 1)) (nat_lit 0)), (.int (.ofNat (nat_lit 0)) (nat_lit 0)), (.int (.ofNat (nat_lit 0)) (nat_lit 0)), (.int (.ofNat (nat_lit 3)) (nat_lit 0)), (.ref (nat_lit 168)), (.bool true), (.int (.ofNat (nat_lit 181)) (nat_lit 0)), (.ref (nat_lit 169)), .none, (.ref (nat_lit 170)), (.ref (nat_lit 171)), (.ref (nat_lit 172)), (.int (.ofNat (nat_lit 433)) (nat_lit 0)), (.int (.ofNat (nat_lit 113)) (nat_lit 0)), (.str z1 (nat_lit 434))]⟩), ⟨[]⟩⟩
noncomputable abbrev o174_6 : OB := fun p _ => ⟨(.type s7174869446012820540x8), none, (.func ⟨z81, z81, fA (sAt p (nat_lit 23)), (.stmts (fB (sAt p (nat_lit 23)))), fS (sAt p (nat_lit 23)) p, nat_lit 3, [], .none, .none, .none, (.str z48 (nat_lit 343)), none, (.ref (nat_lit 173)), .none, nat_lit 0⟩), ⟨[]⟩⟩
noncomputable abbrev o175_6 : OB := fun _ _ => ⟨(.type s2766695959194262286x5), none, (.seq ⟨[]⟩ (nat_lit 0)), ⟨[]⟩⟩
noncomputable abbrev o176_6 : OB := fun _ _ => ⟨.none, none, (.fields ⟨[]⟩), ⟨[]⟩⟩
noncomputable abbrev o177_6 : OB := fun _ _ => ⟨(.type s2766695959194262286x5), none, (.seq ⟨[(.str z89 (nat_lit 439)), (.str z91 (nat_lit 440)), (.str z55 (nat_lit 441))]⟩ (nat_lit 0)), ⟨[]⟩⟩
noncomputable abbrev o178_6 : OB := fun _ _ => ⟨(.type s2766695959194262286x5), none, (.seq ⟨[]⟩ (nat_lit 0)), ⟨[]⟩⟩
noncomputable abbrev o179_6 : OB := fun p _ => ⟨.none, none, (.func ⟨z82, z82, fA (sAt p (nat_lit 24)), (.stmts (fB (sAt p (nat_lit 24)))), fS (sAt p (nat_lit 24)) p, nat_lit 0, [], .none, .none, .none, .none, none, .none, .none, nat_lit 0⟩), ⟨[]⟩⟩
noncomputable abbrev o180_6 : OB := fun _ _ => ⟨(.type s5856160107412720595x4), none, (.fields ⟨[(.str z82 (nat_lit 436)), (.str z82 (nat_lit 437)), (.str z1 (nat_lit 438)), (.int (.ofNat (nat_lit 117)) (nat_lit 0)), (.int (.ofNat (nat_lit 2)) (nat_lit 0)), (.int (.ofNat (nat_lit 0)) (nat_lit 0)), (.int (.ofNat (nat_lit 0)) (nat_lit 0)), (.int (.ofNat (nat_lit 3)) (nat_lit 0)), (.ref (nat_lit 175)), (.bool true), (.int (.ofNat (nat_lit 181)) (nat_lit 0)), (.ref (nat_lit 176)), .none, (.ref (nat_lit 177)), (.ref (nat_lit 178)), (.ref (nat_lit 179)), (.int (.ofNat (nat_lit 442)) (nat_lit 0)), (.int (.ofNat (nat_lit 117)) (nat_lit 0)), (.str z1 (nat_lit 443))]⟩), ⟨[]⟩⟩
noncomputable abbrev o181_6 : OB := fun p _ => ⟨(.type s7174869446012820540x8), none, (.func ⟨z82, z82, fA (sAt p (nat_lit 24)), (.stmts (fB (sAt p (nat_lit 24)))), fS (sAt p (nat_lit 24)) p, nat_lit 3, [], .none, .none, .none, (.str z48 (nat_lit 343)), none, (.ref (nat_lit 180)), .none, nat_lit 0⟩), ⟨[]⟩⟩
noncomputable abbrev o182_6 : OB := fun _ _ => ⟨(.type s2766695959194262286x5), none, (.seq ⟨[]⟩ (nat_lit 0)), ⟨[]⟩⟩
noncomputable abbrev o183_6 : OB := fun _ _ => ⟨.none, none, (.fields ⟨[]⟩), ⟨[]⟩⟩
noncomputable abbrev o184_6 : OB := fun _ _ => ⟨(.type s2766695959194262286x5), none, (.seq ⟨[(.str z89 (nat_lit 452))]⟩ (nat_lit 0)), ⟨[]⟩⟩
noncomputable abbrev o185_6 : OB := fun _ _ => ⟨(.type s2766695959194262286x5), none, (.seq ⟨[]⟩ (nat_lit 0)), ⟨[]⟩⟩
noncomputable abbrev o186_6 : OB := fun p _ => ⟨.none, none, (.func ⟨z84, z84, fA (sAt p (nat_lit 27)), (.stmts (fB (sAt p (nat_lit 27)))), fS (sAt p (nat_lit 27)) p, nat_lit 0, [], .none, .none, .none, .none, none, .none, .none, nat_lit 0⟩), ⟨[]⟩⟩
noncomputable abbrev o187_6 : OB := fun _ _ => ⟨(.type s5856160107412720595x4), none, (.fields ⟨[(.str z84 (nat_lit 449)), (.str z84 (nat_lit 450)), (.str z1 (nat_lit 451)), (.int (.ofNat (nat_lit 128)) (nat_lit 0)), (.int (.ofNat (nat_lit 1)) (nat_lit 0)), (.int (.ofNat (nat_lit 0)) (nat_lit 0)), (.int (.ofNat (nat_lit 0)) (nat_lit 0)), (.int (.ofNat (nat_lit 3)) (nat_lit 0)), (.ref (nat_lit 182)), (.bool true), (.int (.ofNat (nat_lit 181)) (nat_lit 0)), (.ref (nat_lit 183)), .none, (.ref (nat_lit 184)), (.ref (nat_lit 185)), (.ref (nat_lit 186)), (.int (.ofNat (nat_lit 453)) (nat_lit 0)), (.int (.ofNat (nat_lit 128)) (nat_lit 0)), (.str z1 (nat_lit 454))]⟩), ⟨[]⟩⟩
noncomputable abbrev o188_6 : OB := fun p _ => ⟨(.type s7174869446012820540x8), none, (.func ⟨z84, z84, fA (sAt p (nat_lit 27)), (.stmts (fB (sAt p (nat_lit 27)))), fS (sAt p (nat_lit 27)) p, nat_lit 3, [], .none, .none, .none, (.str z75 (nat_lit 445)), none, (.ref (nat_lit 187)), .none, nat_lit 0⟩), ⟨[]⟩⟩
noncomputable abbrev o189_6 : OB := fun _ _ => ⟨(.type s2766695959194262286x5), none, (.seq ⟨[]⟩ (nat_lit 0)), ⟨[]⟩⟩
noncomputable abbrev o190_6 : OB := fun _ _ => ⟨.none, none, (.fields ⟨[]⟩), ⟨[]⟩⟩
noncomputable abbrev z98 : Str := ⟨⟨[nat_lit 115, nat_lit 105, nat_lit 103, nat_lit 110, nat_lit 115]⟩⟩
noncomputable abbrev z99 : Str := ⟨⟨[nat_lit 116, nat_lit 111, nat_lit 107, nat_lit 101, nat_lit 110]⟩⟩
noncomputable abbrev o191_6 : OB := fun _ _ => ⟨(.type s2766695959194262286x5), none, (.seq ⟨[(.str z89 (nat_lit 459)), (.str z98 (nat_lit 460)), (.str z99 (nat_lit 461))]⟩ (nat_lit 0)), ⟨[]⟩⟩
noncomputable abbrev o192_6 : OB := fun _ _ => ⟨(.type s2766695959194262286x5), none, (.seq ⟨[]⟩ (nat_lit 0)), ⟨[]⟩⟩
noncomputable abbrev o193_6 : OB := fun p _ => ⟨.none, none, (.func ⟨z85, z85, fA (sAt p (nat_lit 28)), (.stmts (fB (sAt p (nat_lit 28)))), fS (sAt p (nat_lit 28)) p, nat_lit 0, [], .none, .none, .none, .none, none, .none, .none, nat_lit 0⟩), ⟨[]⟩⟩
noncomputable abbrev o194_6 : OB := fun _ _ => ⟨(.type s5856160107412720595x4), none, (.fields ⟨[(.str z85 (nat_lit 456)), (.str z85 (nat_lit 457)), (.str z1 (nat_lit 458)), (.int (.ofNat (nat_lit 130)) (nat_lit 0)), (.int (.ofNat (nat_lit 2)) (nat_lit 0)), (.int (.ofNat (nat_lit 0)) (nat_lit 0)), (.int (.ofNat (nat_lit 0)) (nat_lit 0)), (.int (.ofNat (nat_lit 3)) (nat_lit 0)), (.ref (nat_lit 189)), (.bool true), (.int (.ofNat (nat_lit 181)) (nat_lit 0)), (.ref (nat_lit 190)), .none, (.ref (nat_lit 191)), (.ref (nat_lit 192)), (.ref (nat_lit 193)), (.int (.ofNat (nat_lit 462)) (nat_lit 0)), (.int (.ofNat (nat_lit 130)) (nat_lit 0)), (.str z1 (nat_lit 463))]⟩), ⟨[]⟩⟩
noncomputable abbrev o195_6 : OB := fun p _ => ⟨(.type s7174869446012820540x8), none, (.func ⟨z85, z85, fA (sAt p (nat_lit 28)), (.stmts (fB (sAt p (nat_lit 28)))), fS (sAt p (nat_lit 28)) p, nat_lit 3, [], .none, .none, .none, (.str z75 (nat_lit 445)), none, (.ref (nat_lit 194)), .none, nat_lit 0⟩), ⟨[]⟩⟩
noncomputable abbrev o196_6 : OB := fun _ _ => ⟨(.type s2766695959194262286x5), none, (.seq ⟨[]⟩ (nat_lit 0)), ⟨[]⟩⟩
noncomputable abbrev o197_6 : OB := fun _ _ => ⟨.none, none, (.fields ⟨[]⟩), ⟨[]⟩⟩
noncomputable abbrev z100 : Str := ⟨⟨[nat_lit 115, nat_lit 105, nat_lit 103, nat_lit 110]⟩⟩
noncomputable abbrev o198_6 : OB := fun _ _ => ⟨(.type s2766695959194262286x5), none, (.seq ⟨[(.str z89 (nat_lit 468)), (.str z90 (nat_lit 469)), (.str z92 (nat_lit 470)), (.str z100 (nat_lit 471))]⟩ (nat_lit 0)), ⟨[]⟩⟩
noncomputable abbrev o199_6 : OB := fun _ _ => ⟨(.type s2766695959194262286x5), none, (.seq ⟨[]⟩ (nat_lit 0)), ⟨[]⟩⟩
noncomputable abbrev o200_6 : OB := fun p _ => ⟨.none, none, (.func ⟨z86, z86, fA (sAt p (nat_lit 29)), (.stmts (fB (sAt p (nat_lit 29)))), fS (sAt p (nat_lit 29)) p, nat_lit 0, [], .none, .none, .none, .none, none, .none, .none, nat_lit 0⟩), ⟨[]⟩⟩
noncomputable abbrev o201_6 : OB := fun _ _ => ⟨(.type s5856160107412720595x4), none, (.fields ⟨[(.str z86 (nat_lit 465)), (.str z86 (nat_lit 466)), (.str z1 (nat_lit 467)), (.int (.ofNat (nat_lit 135)) (nat_lit 0)), (.int (.ofNat (nat_lit 2)) (nat_lit 0)), (.int (.ofNat (nat_lit 0)) (nat_lit 0)), (.int (.ofNat (nat_lit 0)) (nat_lit 0)), (.int (.ofNat (nat_lit 3)) (nat_lit 0)), (.ref (nat_lit 196)), (.bool true), (.int (.ofNat (nat_lit 181)) (nat_lit 0)), (.ref (nat_lit 197)), .none, (.ref (nat_lit 198)), (.ref (nat_lit 199)), (.ref (nat_lit 200)), (.int (.ofNat (nat_lit 472)) (nat_lit 0)), (.int (.ofNat (nat_lit 135)) (nat_lit 0)), (.str z1 (nat_lit 473))]⟩), ⟨[]⟩⟩
noncomputable abbrev o202_6 : OB := fun p _ => ⟨(.type s7174869446012820540x8), none, (.func ⟨z86, z86, fA (sAt p (nat_lit 29)), (.stmts (fB (sAt p (nat_lit 29)))), fS (sAt p (nat_lit 29)) p, nat_lit 3, [], .none, .none, .none, (.str z75 (nat_lit 445)), none, (.ref (nat_lit 201)), .none, nat_lit 0⟩), ⟨[]⟩⟩
noncomputable abbrev o203_6 : OB := fun _ _ => ⟨(.type s2766695959194262286x5), none, (.seq ⟨[]⟩ (nat_lit 0)), ⟨[]⟩⟩
noncomputable abbrev o204_6 : OB := fun _ _ => ⟨.none, none, (.fields ⟨[]⟩), ⟨[]⟩⟩
noncomputable abbrev o205_6 : OB := fun _ _ => ⟨(.type s2766695959194262286x5), none, (.seq ⟨[(.str z89 (nat_lit 478)), (.str z90 (nat_lit 479)), (.str z92 (nat_lit 480)), (.str z100 (nat_lit 481))]⟩ (nat_lit 0)), ⟨[]⟩⟩
noncomputable abbrev o206_6 : OB := fun _ _ => ⟨(.type s2766695959194262286x5), none, (.seq ⟨[]⟩ (nat_lit 0)), ⟨[]⟩⟩
noncomputable abbrev o207_6 : OB := fun p _ => ⟨.none, none, (.func ⟨z87, z87, fA (sAt p (nat_lit 30)), (.stmts (fB (sAt p (nat_lit 30)))), fS (sAt p (nat_lit 30)) p, nat_lit 0, [], .none, .none, .none, .none, none, .none, .none, nat_lit 0⟩), ⟨[]⟩⟩
noncomputable abbrev o208_6 : OB := fun _ _ => ⟨(.type s5856160107412720595x4), none, (.fields ⟨[(.str z87 (nat_lit 475)), (.str z87 (nat_lit 476)), (.str z1 (nat_lit 477)), (.int (.ofNat (nat_lit 143)) (nat_lit 0)), (.int (.ofNat (nat_lit 2)) (nat_lit 0)), (.int (.ofNat (nat_lit 0)) (nat_lit 0)), (.int (.ofNat (nat_lit 0)) (nat_lit 0)), (.int (.ofNat (nat_lit 3)) (nat_lit 0)), (.ref (nat_lit 203)), (.bool true), (.int (.ofNat (nat_lit 181)) (nat_lit 0)), (.ref (nat_lit 204)), .none, (.ref (nat_lit 205)), (.ref (nat_lit 206)), (.ref (nat_lit 207)), (.int (.ofNat (nat_lit 482)) (nat_lit 0)), (.int (.ofNat (nat_lit 143)) (nat_lit 0)), (.str z1 (nat_lit 483))]⟩), ⟨[]⟩⟩
noncomputable abbrev o209_6 : OB := fun p _ => ⟨(.type s7174869446012820540x8), none, (.func ⟨z87, z87, fA (sAt p (nat_lit 30)), (.stmts (fB (sAt p (nat_lit 30)))), fS (sAt p (nat_lit 30)) p, nat_lit 3, [], .none, .none, .none, (.str z75 (nat_lit 445)), none, (.ref (nat_lit 208)), .none, nat_lit 0⟩), ⟨[]⟩⟩
noncomputable abbrev o210_6 : OB := fun _ _ => ⟨(.type s2766695959194262286x5), none, (.seq ⟨[]⟩ (nat_lit 0)), ⟨[]⟩⟩
noncomputable abbrev o211_6 : OB := fun _ _ => ⟨.none, none, (.fields ⟨[]⟩), ⟨[]⟩⟩
noncomputable abbrev z101 : Str := ⟨⟨[nat_lit 105, nat_lit 115, nat_lit 95, nat_lit 111, nat_lit 119, nat_lit 110]⟩⟩
noncomputable abbrev o212_6 : OB := fun _ _ => ⟨(.type s2766695959194262286x5), none, (.seq ⟨[(.str z89 (nat_lit 488)), (.str z90 (nat_lit 489)), (.str z100 (nat_lit 490)), (.str z101 (nat_lit 491)), (.str z92 (nat_lit 492))]⟩ (nat_lit 0)), ⟨[]⟩⟩
noncomputable abbrev o213_6 : OB := fun _ _ => ⟨(.type s2766695959194262286x5), none, (.seq ⟨[]⟩ (nat_lit 0)), ⟨[]⟩⟩
noncomputable abbrev o214_6 : OB := fun p _ => ⟨.none, none, (.func ⟨z88, z88, fA (sAt p (nat_lit 31)), (.stmts (fB (sAt p (nat_lit 31)))), fS (sAt p (nat_lit 31)) p, nat_lit 0, [], .none, .none, .none, .none, none, .none, .none, nat_lit 0⟩), ⟨[]⟩⟩
noncomputable abbrev o215_6 : OB := fun _ _ => ⟨(.type s5856160107412720595x4), none, (.fields ⟨[(.str z88 (nat_lit 485)), (.str z88 (nat_lit 486)), (.str z1 (nat_lit 487)), (.int (.ofNat (nat_lit 149)) (nat_lit 0)), (.int (.ofNat (nat_lit 2)) (nat_lit 0)), (.int (.ofNat (nat_lit 0)) (nat_lit 0)), (.int (.ofNat (nat_lit 0)) (nat_lit 0)), (.int (.ofNat (nat_lit 3)) (nat_lit 0)), (.ref (nat_lit 210)), (.bool true), (.int (.ofNat (nat_lit 181)) (nat_lit 0)), (.ref (nat_lit 211)), .none, (.ref (nat_lit 212)), (.ref (nat_lit 213)), (.ref (nat_lit 214)), (.int (.ofNat (nat_lit 493)) (nat_lit 0)), (.int (.ofNat (nat_lit 149)) (nat_lit 0)), (.str z1 (nat_lit 494))]⟩), ⟨[]⟩⟩
noncomputable abbrev o216_6 : OB := fun p _ => ⟨(.type s7174869446012820540x8), none, (.func ⟨z88, z88, fA (sAt p (nat_lit 31)), (.stmts (fB (sAt p (nat_lit 31)))), fS (sAt p (nat_lit 31)) p, nat_lit 3, [], .none, .none, .none, (.str z75 (nat_lit 445)), none, (.ref (nat_lit 215)), .none, nat_lit 0⟩), ⟨[]⟩⟩
noncomputable abbrev tr6 (P : Params) : BT := (((((((((((((((((((((((((((((((((((((((((((((((((((((((((((((((((((((((((((((((((((((((tr5 P).ins (nat_lit 3) (o3_6 prgQ P)).ins (nat_lit 12) (o12_6 prgQ P)).ins (nat_lit 133) (o133_6 prgQ P)).ins (nat_lit 134) (o134_6 prgQ P)).ins (nat_lit 135) (o135_6 prgQ P)).ins (nat_lit 136) (o136_6 prgQ P)).ins (nat_lit 137) (o137_6 prgQ P)).ins (nat_lit 138) (o138_6 prgQ P)).ins (nat_lit 139) (o139_6 prgQ P)).ins (nat_lit 140) (o140_6 prgQ P)).ins (nat_lit 141) (o141_6 prgQ P)).ins (nat_lit 142) (o142_6 prgQ P)).ins (nat_lit 143) (o143_6 prgQ P)).ins (nat_lit 144) (o144_6 prgQ P)).ins (nat_lit 145) (o145_6 prgQ P)).ins (nat_lit 146) (o146_6 prgQ P)).ins (nat_lit 147) (o147_6 prgQ P)).ins (nat_lit 148) (o148_6 prgQ P)).ins (nat_lit 149) (o149_6 prgQ P)).ins (nat_lit 150) (o150_6 prgQ P)).ins (nat_lit 151) (o151_6 prgQ P)).ins (nat_lit 152) (o152_6 prgQ P)).ins (nat_lit 153) (o153_6 prgQ P)).ins (nat_lit 154) (o154_6 prgQ P)).ins (nat_lit 155) (o155_6 prgQ P)).ins (nat_lit 156) (o156_6 prgQ P)).ins (nat_lit 157) (o157_6 prgQ P)).ins (nat_lit 158) (o158_6 prgQ P)).ins (nat_lit 159) (o159_6 prgQ P)).ins (nat_lit 160) (o160_6 prgQ P)).ins (nat_lit 161) (o161_6 prgQ P)).ins (nat_lit 162) (o162_6 prgQ P)).ins (nat_lit 163) (o163_6 prgQ P)).ins (nat_lit 164) (o164_6 prgQ P)).ins (nat_lit 165) (o165_6 prgQ P)).ins (nat_lit 166) (o166_6 prgQ P)).ins (nat_lit 167) (o167_6 prgQ P)).ins (nat_lit 168) (o168_6 prgQ P)).ins (nat_lit 169) (o169_6 prgQ P)).ins (nat_lit 170) (o170_6 prgQ P)).ins (nat_lit 171) (o171_6 prgQ P)).ins (nat_lit 172) (o172_6 prgQ P)).ins (nat_lit 173) (o173_6 prgQ P)).ins (nat_lit 174) (o174_6 prgQ P)).ins (nat_lit 175) (o175_6 prgQ P)).ins (nat_lit 176) (o176_6 prgQ P)).ins (nat_lit 177) (o177_6 prgQ P)).ins (nat_lit 178) (o178_6 prgQ P)).ins (nat_lit 179) (o179_6 prgQ P)).ins (nat_lit 180) (o180_6 prgQ P)).ins (nat_lit 181) (o181_6 prgQ P)).ins (nat_lit 182) (o182_6 prgQ P)).ins (nat_lit 183) (o183_6 prgQ P)).ins (nat_lit 184) (o184_6 prgQ P)).ins (nat_lit 185) (o185_6 prgQ P)).ins (nat_lit 186) (o186_6 prgQ P)).ins (nat_lit 187) (o187_6 prgQ P)).ins (nat_lit 188) (o188_6 prgQ P)).ins (nat_lit 189) (o189_6 prgQ P)).ins (nat_lit 190) (o190_6 prgQ P)).ins (nat_lit 191) (o191_6 prgQ P)).ins (nat_lit 192) (o192_6 prgQ P)).ins (nat_lit 193) (o193_6 prgQ P)).ins (nat_lit 194) (o194_6 prgQ P)).ins (nat_lit 195) (o195_6 prgQ P)).ins (nat_lit 196) (o196_6 prgQ P)).ins (nat_lit 197) (o197_6 prgQ P)).ins (nat_lit 198) (o198_6 prgQ P)).ins (nat_lit 199) (o199_6 prgQ P)).ins (nat_lit 200) (o200_6 prgQ P)).ins (nat_lit 201) (o201_6 prgQ P)).ins (nat_lit 202) (o202_6 prgQ P)).ins (nat_lit 203) (o203_6 prgQ P)).ins (nat_lit 204) (o204_6 prgQ P)).ins (nat_lit 205) (o205_6 prgQ P)).ins (nat_lit 206) (o206_6 prgQ P)).ins (nat_lit 207) (o207_6 prgQ P)).ins (nat_lit 208) (o208_6 prgQ P)).ins (nat_lit 209) (o209_6 prgQ P)).ins (nat_lit 210) (o210_6 prgQ P)).ins (nat_lit 211) (o211_6 prgQ P)).ins (nat_lit 212) (o212_6 prgQ P)).ins (nat_lit 213) (o213_6 prgQ P)).ins (nat_lit 214) (o214_6 prgQ P)).ins (nat_lit 215) (o215_6 prgQ P)).ins (nat_lit 216) (o216_6 prgQ P))
noncomputable abbrev st6 (w : World) (os : OsState) : SharedT := ⟨tr6 w.params, nat_lit 217, lifeQ, ⟨[]⟩, boot_drawn, nat_lit 496, os⟩
/-! GROUP 6 18 14 393 [] [] from ⟨nat_lit 67, nat_lit 0, nat_lit 67, nat_lit 12⟩ to ⟨nat_lit 149, nat_lit 0, nat_lit 158, nat_lit 51⟩ -/
noncomputable abbrev z102 : Str := ⟨⟨[nat_lit 108, nat_lit 101, nat_lit 100, nat_lit 103, nat_lit 101, nat_lit 114, nat_lit 115, nat_lit 112, nat_lit 101, nat_lit 97, nat_lit 107, nat_lit 46, nat_lit 114, nat_lit 101, nat_lit 97, nat_lit 100, nat_lit 101, nat_lit 114]⟩⟩
noncomputable abbrev z103 : Str := ⟨⟨[nat_lit 105, nat_lit 115, nat_lit 95, nat_lit 108, nat_lit 111, nat_lit 110, nat_lit 101, nat_lit 95, nat_lit 110, nat_lit 117, nat_lit 109, nat_lit 98, nat_lit 101, nat_lit 114]⟩⟩
noncomputable abbrev z104 : Str := ⟨⟨[nat_lit 114, nat_lit 101, nat_lit 97, nat_lit 100, nat_lit 95, nat_lit 112, nat_lit 111, nat_lit 119, nat_lit 101, nat_lit 114]⟩⟩
noncomputable abbrev z105 : Str := ⟨⟨[nat_lit 114, nat_lit 101, nat_lit 97, nat_lit 100, nat_lit 95, nat_lit 112, nat_lit 114, nat_lit 105, nat_lit 109, nat_lit 97, nat_lit 114, nat_lit 121]⟩⟩
noncomputable abbrev z106 : Str := ⟨⟨[nat_lit 70, nat_lit 73, nat_lit 71, nat_lit 85, nat_lit 82, nat_lit 69, nat_lit 95, nat_lit 87, nat_lit 79, nat_lit 82, nat_lit 68, nat_lit 83]⟩⟩
noncomputable abbrev z107 : Str := ⟨⟨[nat_lit 32, nat_lit 90, nat_lit 69, nat_lit 82, nat_lit 79, nat_lit 32, nat_lit 90, nat_lit 69, nat_lit 82, nat_lit 79, nat_lit 83, nat_lit 32, nat_lit 90, nat_lit 69, nat_lit 82, nat_lit 79, nat_lit 69, nat_lit 83, nat_lit 32, nat_lit 83, nat_lit 80, nat_lit 65, nat_lit 67, nat_lit 69, nat_lit 32, nat_lit 83, nat_lit 80, nat_lit 65, nat_lit 67, nat_lit 69, nat_lit 83, nat_lit 32, nat_lit 72, nat_lit 73, nat_lit 71, nat_lit 72, nat_lit 45, nat_lit 86, nat_lit 65, nat_lit 76, nat_lit 85, nat_lit 69, nat_lit 32, nat_lit 72, nat_lit 73, nat_lit 71, nat_lit 72, nat_lit 45, nat_lit 86, nat_lit 65, nat_lit 76, nat_lit 85, nat_lit 69, nat_lit 83, nat_lit 32, nat_lit 76, nat_lit 79, nat_lit 87, nat_lit 45, nat_lit 86, nat_lit 65, nat_lit 76, nat_lit 85, nat_lit 69, nat_lit 32, nat_lit 76, nat_lit 79, nat_lit 87, nat_lit 45, nat_lit 86, nat_lit 65, nat_lit 76, nat_lit 85, nat_lit 69, nat_lit 83, nat_lit 32, nat_lit 81, nat_lit 85, nat_lit 79, nat_lit 84, nat_lit 69, nat_lit 32, nat_lit 81, nat_lit 85, nat_lit 79, nat_lit 84, nat_lit 69, nat_lit 83, nat_lit 32, nat_lit 65, nat_lit 76, nat_lit 76, nat_lit 32]⟩⟩
noncomputable abbrev z108 : Str := ⟨⟨[nat_lit 98, nat_lit 101, nat_lit 103, nat_lit 105, nat_lit 110, nat_lit 115, nat_lit 95, nat_lit 111, nat_lit 112, nat_lit 101, nat_lit 114, nat_lit 97, nat_lit 110, nat_lit 100]⟩⟩
noncomputable abbrev z109 : Str := ⟨⟨[nat_lit 114, nat_lit 101, nat_lit 102, nat_lit 117, nat_lit 115, nat_lit 101, nat_lit 95, nat_lit 97, nat_lit 116]⟩⟩
noncomputable abbrev z110 : Str := ⟨⟨[nat_lit 111, nat_lit 112, nat_lit 101, nat_lit 114, nat_lit 97, nat_lit 110, nat_lit 100, nat_lit 95, nat_lit 104, nat_lit 101, nat_lit 114, nat_lit 101]⟩⟩
noncomputable abbrev z111 : Str := ⟨⟨[nat_lit 116, nat_lit 101, nat_lit 120, nat_lit 116, nat_lit 95, nat_lit 104, nat_lit 101, nat_lit 114, nat_lit 101]⟩⟩
noncomputable abbrev z112 : Str := ⟨⟨[nat_lit 98, nat_lit 111, nat_lit 117, nat_lit 110, nat_lit 100, nat_lit 115, nat_lit 95, nat_lit 104, nat_lit 101, nat_lit 114, nat_lit 101]⟩⟩
noncomputable abbrev z113 : Str := ⟨⟨[nat_lit 119, nat_lit 105, nat_lit 100, nat_lit 116, nat_lit 104, nat_lit 115, nat_lit 95, nat_lit 109, nat_lit 101, nat_lit 101, nat_lit 116]⟩⟩
noncomputable abbrev z114 : Str := ⟨⟨[nat_lit 98, nat_lit 121, nat_lit 95, nat_lit 104, nat_lit 101, nat_lit 114, nat_lit 101]⟩⟩
noncomputable abbrev z115 : Str := ⟨⟨[nat_lit 101, nat_lit 120, nat_lit 99, nat_lit 104, nat_lit 97, nat_lit 110, nat_lit 103, nat_lit 101, nat_lit 95, nat_lit 104, nat_lit 101, nat_lit 114, nat_lit 101]⟩⟩
noncomputable abbrev z116 : Str := ⟨⟨[nat_lit 77, nat_lit 79, nat_lit 83, nat_lit 84, nat_lit 95, nat_lit 79, nat_lit 67, nat_lit 84, nat_lit 69, nat_lit 84]⟩⟩
noncomputable abbrev z117 : Str := ⟨⟨[nat_lit 82, nat_lit 69, nat_lit 83, nat_lit 69, nat_lit 82, nat_lit 86, nat_lit 69, nat_lit 68]⟩⟩
noncomputable abbrev o3_7 : OB := fun p P => ⟨(.type s14018661285674007319x4), none, (.dict ⟨[⟨PyData.keyHash P z5, (.str z5 (nat_lit 165)), (.str z102 (nat_lit 601))⟩, ⟨PyData.keyHash P z7, (.str z7 (nat_lit 166)), .none⟩, ⟨PyData.keyHash P z8, (.str z8 (nat_lit 167)), .none⟩, ⟨PyData.keyHash P z9, (.str z9 (nat_lit 168)), (.builtin s7097527257260152453x26)⟩, ⟨PyData.keyHash P z10, (.str z10 (nat_lit 169)), .none⟩, ⟨PyData.keyHash P z11, (.str z11 (nat_lit 170)), (.ref (nat_lit 6))⟩, ⟨PyData.keyHash P z12, (.str z12 (nat_lit 171)), (.ref (nat_lit 4))⟩, ⟨PyData.keyHash P z13, (.str z13 (nat_lit 173)), (.str z1 (nat_lit 172))⟩, ⟨PyData.keyHash P z14, (.str z14 (nat_lit 174)), .none⟩, ⟨PyData.keyHash P z15, (.str z15 (nat_lit 193)), (.ref (nat_lit 21))⟩, ⟨PyData.keyHash P z16, (.str z16 (nat_lit 235)), (.ref (nat_lit 47))⟩, ⟨PyData.keyHash P z30, (.str z30 (nat_lit 251)), (.ref (nat_lit 60))⟩, ⟨PyData.keyHash P z32, (.str z32 (nat_lit 267)), (.ref (nat_lit 72))⟩, ⟨PyData.keyHash P z33, (.str z33 (nat_lit 271)), (.str z34 (nat_lit 270))⟩, ⟨PyData.keyHash P z35, (.str z35 (nat_lit 279)), (.ref (nat_lit 81))⟩, ⟨PyData.keyHash P z36, (.str z36 (nat_lit 288)), (.ref (nat_lit 89))⟩, ⟨PyData.keyHash P z37, (.str z37 (nat_lit 295)), (.ref (nat_lit 96))⟩, ⟨PyData.keyHash P z38, (.str z38 (nat_lit 306)), (.ref (nat_lit 103))⟩, ⟨PyData.keyHash P z39, (.str z39 (nat_lit 313)), (.ref (nat_lit 110))⟩, ⟨PyData.keyHash P z49, (.str z49 (nat_lit 320)), (.ref (nat_lit 117))⟩, ⟨PyData.keyHash P z50, (.str z50 (nat_lit 329)), (.ref (nat_lit 124))⟩, ⟨PyData.keyHash P z51, (.str z51 (nat_lit 342)), (.ref (nat_lit 131))⟩, ⟨PyData.keyHash P z52, (.str z52 (nat_lit 346)), (.int (.ofNat (nat_lit 7)) (nat_lit 345))⟩, ⟨PyData.keyHash P z61, (.str z61 (nat_lit 380)), (.ref (nat_lit 132))⟩, ⟨PyData.keyHash P z76, (.str z76 (nat_lit 389)), (.ref (nat_lit 139))⟩, ⟨PyData.keyHash P z77, (.str z77 (nat_lit 398)), (.ref (nat_lit 146))⟩, ⟨PyData.keyHash P z78, (.str z78 (nat_lit 408)), (.ref (nat_lit 153))⟩, ⟨PyData.keyHash P z79, (.str z79 (nat_lit 420)), (.ref (nat_lit 160))⟩, ⟨PyData.keyHash P z80, (.str z80 (nat_lit 428)), (.ref (nat_lit 167))⟩, ⟨PyData.keyHash P z81, (.str z81 (nat_lit 435)), (.ref (nat_lit 174))⟩, ⟨PyData.keyHash P z82, (.str z82 (nat_lit 444)), (.ref (nat_lit 181))⟩, ⟨PyData.keyHash P z83, (.str z83 (nat_lit 448)), (.int (.ofNat (nat_lit 20)) (nat_lit 447))⟩, ⟨PyData.keyHash P z84, (.str z84 (nat_lit 455)), (.ref (nat_lit 188))⟩, ⟨PyData.keyHash P z85, (.str z85 (nat_lit 464)), (.ref (nat_lit 195))⟩, ⟨PyData.keyHash P z86, (.str z86 (nat_lit 474)), (.ref (nat_lit 202))⟩, ⟨PyData.keyHash P z87, (.str z87 (nat_lit 484)), (.ref (nat_lit 209))⟩, ⟨PyData.keyHash P z88, (.str z88 (nat_lit 495)), (.ref (nat_lit 216))⟩, ⟨PyData.keyHash P z103, (.str z103 (nat_lit 504)), (.ref (nat_lit 223))⟩, ⟨PyData.keyHash P z104, (.str z104 (nat_lit 513)), (.ref (nat_lit 230))⟩, ⟨PyData.keyHash P z105, (.str z105 (nat_lit 523)), (.ref (nat_lit 237))⟩, ⟨PyData.keyHash P z106, (.str z106 (nat_lit 527)), (.str z107 (nat_lit 526))⟩, ⟨PyData.keyHash P z108, (.str z108 (nat_lit 534)), (.ref (nat_lit 244))⟩, ⟨PyData.keyHash P z109, (.str z109 (nat_lit 543)), (.ref (nat_lit 251))⟩, ⟨PyData.keyHash P z110, (.str z110 (nat_lit 552)), (.ref (nat_lit 258))⟩, ⟨PyData.keyHash P z111, (.str z111 (nat_lit 561)), (.ref (nat_lit 265))⟩, ⟨PyData.keyHash P z112, (.str z112 (nat_lit 570)), (.ref (nat_lit 272))⟩, ⟨PyData.keyHash P z113, (.str z113 (nat_lit 578)), (.ref (nat_lit 279))⟩, ⟨PyData.keyHash P z114, (.str z114 (nat_lit 588)), (.ref (nat_lit 286))⟩, ⟨PyData.keyHash P z115, (.str z115 (nat_lit 600)), (.ref (nat_lit 293))⟩, ⟨PyData.keyHash P z116, (.str z116 (nat_lit 604)), (.int (.ofNat (nat_lit 255)) (nat_lit 603))⟩, ⟨PyData.keyHash P z117, (.str z117 (nat_lit 606)), (.str (longQ p) (nat_lit 605))⟩]⟩ (nat_lit 51)), ⟨[]⟩⟩
noncomputable abbrev o12_7 : OB := fun _ _ => ⟨.none, none, (.fields ⟨((.int (.ofNat (nat_lit 1)) (nat_lit 0)) :: (.int (.ofNat (nat_lit 0)) (nat_lit 0)) :: (.ref (nat_lit 20)) :: (.int (.ofNat (nat_lit 5)) (nat_lit 0)) :: (.int (.ofNat (nat_lit 0)) (nat_lit 0)) :: (.ref (nat_lit 27)) :: (.int (.ofNat (nat_lit 14)) (nat_lit 0)) :: (.int (.ofNat (nat_lit 0)) (nat_lit 0)) :: (.ref (nat_lit 56)) :: (.int (.ofNat (nat_lit 16)) (nat_lit 0)) :: (.int (.ofNat (nat_lit 0)) (nat_lit 0)) :: (.ref (nat_lit 68)) :: (.int (.ofNat (nat_lit 20)) (nat_lit 0)) :: (.int (.ofNat (nat_lit 0)) (nat_lit 0)) :: (.ref (nat_lit 80)) :: (.int (.ofNat (nat_lit 24)) (nat_lit 0)) :: (.int (.ofNat (nat_lit 0)) (nat_lit 0)) :: (.ref (nat_lit 88)) :: (.int (.ofNat (nat_lit 31)) (nat_lit 0)) :: (.int (.ofNat (nat_lit 0)) (nat_lit 0)) :: (.ref (nat_lit 95)) :: (.int (.ofNat (nat_lit 33)) (nat_lit 0)) :: (.int (.ofNat (nat_lit 0)) (nat_lit 0)) :: (.ref (nat_lit 102)) :: (.int (.ofNat (nat_lit 41)) (nat_lit 0)) :: (.int (.ofNat (nat_lit 0)) (nat_lit 0)) :: (.ref (nat_lit 109)) :: (.int (.ofNat (nat_lit 43)) (nat_lit 0)) :: (.int (.ofNat (nat_lit 0)) (nat_lit 0)) :: (.ref (nat_lit 116)) :: (.int (.ofNat (nat_lit 45)) (nat_lit 0)) :: (.int (.ofNat (nat_lit 0)) (nat_lit 0)) :: (.ref (nat_lit 123)) :: (.int (.ofNat (nat_lit 50)) (nat_lit 0)) :: (.int (.ofNat (nat_lit 0)) (nat_lit 0)) :: (.ref (nat_lit 130)) :: (.int (.ofNat (nat_lit 68)) (nat_lit 0)) :: (.int (.ofNat (nat_lit 0)) (nat_lit 0)) :: (.ref (nat_lit 138)) :: (.int (.ofNat (nat_lit 81)) (nat_lit 0)) :: (.int (.ofNat (nat_lit 0)) (nat_lit 0)) :: (.ref (nat_lit 145)) :: (.int (.ofNat (nat_lit 89)) (nat_lit 0)) :: (.int (.ofNat (nat_lit 0)) (nat_lit 0)) :: (.ref (nat_lit 152)) :: (.int (.ofNat (nat_lit 96)) (nat_lit 0)) :: (.int (.ofNat (nat_lit 0)) (nat_lit 0)) :: (.ref (nat_lit 159)) :: (.int (.ofNat (nat_lit 106)) (nat_lit 0)) :: (.int (.ofNat (nat_lit 0)) (nat_lit 0)) :: (.ref (nat_lit 166)) :: (.int (.ofNat (nat_lit 113)) (nat_lit 0)) :: (.int (.ofNat (nat_lit 0)) (nat_lit 0)) :: (.ref (nat_lit 173)) :: (.int (.ofNat (nat_lit 117)) (nat_lit 0)) :: (.int (.ofNat (nat_lit 0)) (nat_lit 0)) :: (.ref (nat_lit 180)) :: (.int (.ofNat (nat_lit 128)) (nat_lit 0)) :: (.int (.ofNat (nat_lit 0)) (nat_lit 0)) :: (.ref (nat_lit 187)) :: (.int (.ofNat (nat_lit 130)) (nat_lit 0)) :: (.int (.ofNat (nat_lit 0)) (nat_lit 0)) :: (.ref (nat_lit 194)) :: (.int (.ofNat (nat_lit 135)) (nat_lit 0)) :: (.int (.ofNat (nat_lit 0)) (nat_lit 0)) :: (.ref (nat_lit 201)) :: (.int (.ofNat (nat_lit 143)) (nat_lit 0)) :: (.int (.ofNat (nat_lit 0)) (nat_lit 0)) :: (.ref (nat_lit 208)) :: (.int (.ofNat (nat_lit 149)) (nat_lit 0)) :: (.int (.ofNat (nat_lit 0)) (nat_lit 0)) :: (.ref (nat_lit 215)) :: (.int (.ofNat (nat_lit 159)) (nat_lit 0)) :: (.int (.ofNat (nat_lit 0)) (nat_lit 0)) :: (.ref (nat_lit 222)) :: (.int (.ofNat (nat_lit 164)) (nat_lit 0)) :: (.int (.ofNat (nat_lit 0)) (nat_lit 0)) :: (.ref (nat_lit 229)) :: (.int (.ofNat (nat_lit 170)) (nat_lit 0)) :: (.int (.ofNat (nat_lit 0)) (nat_lit 0)) :: (.ref (nat_lit 236)) :: (.int (.ofNat (nat_lit 180)) (nat_lit 0)) :: (.int (.ofNat (nat_lit 0)) (nat_lit 0)) :: (.ref (nat_lit 243)) :: (.int (.ofNat (nat_lit 184)) (nat_lit 0)) :: (.int (.ofNat (nat_lit 0)) (nat_lit 0)) :: (.ref (nat_lit 250)) :: (.int (.ofNat (nat_lit 188)) (nat_lit 0)) :: (.int (.ofNat (nat_lit 0)) (nat_lit 0)) :: (.ref (nat_lit 257)) :: (.int (.ofNat (nat_lit 192)) (nat_lit 0)) :: (.int (.ofNat (nat_lit 0)) (nat_lit 0)) :: (.ref (nat_lit 264)) :: (.int (.ofNat (nat_lit 198)) (nat_lit 0)) :: (.int (.ofNat (nat_lit 0)) (nat_lit 0)) :: (.ref (nat_lit 271)) :: (.int (.ofNat (nat_lit 209)) (nat_lit 0)) :: (.int (.ofNat (nat_lit 0)) (nat_lit 0)) :: (.ref (nat_lit 278)) :: (.int (.ofNat (nat_lit 213)) (nat_lit 0)) :: (.int (.ofNat (nat_lit 0)) (nat_lit 0)) :: (.ref (nat_lit 285)) :: (.int (.ofNat (nat_lit 219)) (nat_lit 0)) :: (.int (.ofNat (nat_lit 0)) (nat_lit 0)) :: (.ref (nat_lit 292)) :: [])⟩), ⟨[]⟩⟩
noncomputable abbrev o217_7 : OB := fun _ _ => ⟨(.type s2766695959194262286x5), none, (.seq ⟨[]⟩ (nat_lit 0)), ⟨[]⟩⟩
noncomputable abbrev o218_7 : OB := fun _ _ => ⟨.none, none, (.fields ⟨[]⟩), ⟨[]⟩⟩
noncomputable abbrev o219_7 : OB := fun _ _ => ⟨(.type s2766695959194262286x5), none, (.seq ⟨[(.str z89 (nat_lit 499)), (.str z99 (nat_lit 500)), (.str z59 (nat_lit 501))]⟩ (nat_lit 0)), ⟨[]⟩⟩
noncomputable abbrev o220_7 : OB := fun _ _ => ⟨(.type s2766695959194262286x5), none, (.seq ⟨[]⟩ (nat_lit 0)), ⟨[]⟩⟩
noncomputable abbrev o221_7 : OB := fun p _ => ⟨.none, none, (.func ⟨z103, z103, fA (sAt p (nat_lit 32)), (.stmts (fB (sAt p (nat_lit 32)))), fS (sAt p (nat_lit 32)) p, nat_lit 0, [], .none, .none, .none, .none, none, .none, .none, nat_lit 0⟩), ⟨[]⟩⟩
noncomputable abbrev o222_7 : OB := fun _ _ => ⟨(.type s5856160107412720595x4), none, (.fields ⟨[(.str z103 (nat_lit 496)), (.str z103 (nat_lit 497)), (.str z1 (nat_lit 498)), (.int (.ofNat (nat_lit 159)) (nat_lit 0)), (.int (.ofNat (nat_lit 1)) (nat_lit 0)), (.int (.ofNat (nat_lit 0)) (nat_lit 0)), (.int (.ofNat (nat_lit 0)) (nat_lit 0)), (.int (.ofNat (nat_lit 3)) (nat_lit 0)), (.ref (nat_lit 217)), (.bool true), (.int (.ofNat (nat_lit 181)) (nat_lit 0)), (.ref (nat_lit 218)), .none, (.ref (nat_lit 219)), (.ref (nat_lit 220)), (.ref (nat_lit 221)), (.int (.ofNat (nat_lit 502)) (nat_lit 0)), (.int (.ofNat (nat_lit 159)) (nat_lit 0)), (.str z1 (nat_lit 503))]⟩), ⟨[]⟩⟩
noncomputable abbrev o223_7 : OB := fun p _ => ⟨(.type s7174869446012820540x8), none, (.func ⟨z103, z103, fA (sAt p (nat_lit 32)), (.stmts (fB (sAt p (nat_lit 32)))), fS (sAt p (nat_lit 32)) p, nat_lit 3, [], .none, .none, .none, (.str z75 (nat_lit 445)), none, (.ref (nat_lit 222)), .none, nat_lit 0⟩), ⟨[]⟩⟩
noncomputable abbrev o224_7 : OB := fun _ _ => ⟨(.type s2766695959194262286x5), none, (.seq ⟨[]⟩ (nat_lit 0)), ⟨[]⟩⟩
noncomputable abbrev o225_7 : OB := fun _ _ => ⟨.none, none, (.fields ⟨[]⟩), ⟨[]⟩⟩
noncomputable abbrev o226_7 : OB := fun _ _ => ⟨(.type s2766695959194262286x5), none, (.seq ⟨[(.str z89 (nat_lit 508)), (.str z90 (nat_lit 509)), (.str z92 (nat_lit 510))]⟩ (nat_lit 0)), ⟨[]⟩⟩
noncomputable abbrev o227_7 : OB := fun _ _ => ⟨(.type s2766695959194262286x5), none, (.seq ⟨[]⟩ (nat_lit 0)), ⟨[]⟩⟩
noncomputable abbrev o228_7 : OB := fun p _ => ⟨.none, none, (.func ⟨z104, z104, fA (sAt p (nat_lit 33)), (.stmts (fB (sAt p (nat_lit 33)))), fS (sAt p (nat_lit 33)) p, nat_lit 0, [], .none, .none, .none, .none, none, .none, .none, nat_lit 0⟩), ⟨[]⟩⟩
noncomputable abbrev o229_7 : OB := fun _ _ => ⟨(.type s5856160107412720595x4), none, (.fields ⟨[(.str z104 (nat_lit 505)), (.str z104 (nat_lit 506)), (.str z1 (nat_lit 507)), (.int (.ofNat (nat_lit 164)) (nat_lit 0)), (.int (.ofNat (nat_lit 2)) (nat_lit 0)), (.int (.ofNat (nat_lit 0)) (nat_lit 0)), (.int (.ofNat (nat_lit 0)) (nat_lit 0)), (.int (.ofNat (nat_lit 3)) (nat_lit 0)), (.ref (nat_lit 224)), (.bool true), (.int (.ofNat (nat_lit 181)) (nat_lit 0)), (.ref (nat_lit 225)), .none, (.ref (nat_lit 226)), (.ref (nat_lit 227)), (.ref (nat_lit 228)), (.int (.ofNat (nat_lit 511)) (nat_lit 0)), (.int (.ofNat (nat_lit 164)) (nat_lit 0)), (.str z1 (nat_lit 512))]⟩), ⟨[]⟩⟩
noncomputable abbrev o230_7 : OB := fun p _ => ⟨(.type s7174869446012820540x8), none, (.func ⟨z104, z104, fA (sAt p (nat_lit 33)), (.stmts (fB (sAt p (nat_lit 33)))), fS (sAt p (nat_lit 33)) p, nat_lit 3, [], .none, .none, .none, (.str z75 (nat_lit 445)), none, (.ref (nat_lit 229)), .none, nat_lit 0⟩), ⟨[]⟩⟩
noncomputable abbrev o231_7 : OB := fun _ _ => ⟨(.type s2766695959194262286x5), none, (.seq ⟨[]⟩ (nat_lit 0)), ⟨[]⟩⟩
noncomputable abbrev o232_7 : OB := fun _ _ => ⟨.none, none, (.fields ⟨[]⟩), ⟨[]⟩⟩
noncomputable abbrev o233_7 : OB := fun _ _ => ⟨(.type s2766695959194262286x5), none, (.seq ⟨[(.str z89 (nat_lit 517)), (.str z90 (nat_lit 518)), (.str z92 (nat_lit 519))]⟩ (nat_lit 0)), ⟨[]⟩⟩
noncomputable abbrev o234_7 : OB := fun _ _ => ⟨(.type s2766695959194262286x5), none, (.seq ⟨[(.str z90 (nat_lit 520))]⟩ (nat_lit 0)), ⟨[]⟩⟩
noncomputable abbrev o235_7 : OB := fun p _ => ⟨.none, none, (.func ⟨z105, z105, fA (sAt p (nat_lit 34)), (.stmts (fB (sAt p (nat_lit 34)))), fS (sAt p (nat_lit 34)) p, nat_lit 0, [], .none, .none, .none, .none, none, .none, .none, nat_lit 0⟩), ⟨[]⟩⟩
noncomputable abbrev o236_7 : OB := fun _ _ => ⟨(.type s5856160107412720595x4), none, (.fields ⟨[(.str z105 (nat_lit 514)), (.str z105 (nat_lit 515)), (.str z1 (nat_lit 516)), (.int (.ofNat (nat_lit 170)) (nat_lit 0)), (.int (.ofNat (nat_lit 2)) (nat_lit 0)), (.int (.ofNat (nat_lit 0)) (nat_lit 0)), (.int (.ofNat (nat_lit 0)) (nat_lit 0)), (.int (.ofNat (nat_lit 3)) (nat_lit 0)), (.ref (nat_lit 231)), (.bool true), (.int (.ofNat (nat_lit 181)) (nat_lit 0)), (.ref (nat_lit 232)), .none, (.ref (nat_lit 233)), (.ref (nat_lit 234)), (.ref (nat_lit 235)), (.int (.ofNat (nat_lit 521)) (nat_lit 0)), (.int (.ofNat (nat_lit 170)) (nat_lit 0)), (.str z1 (nat_lit 522))]⟩), ⟨[]⟩⟩
noncomputable abbrev o237_7 : OB := fun p _ => ⟨(.type s7174869446012820540x8), none, (.func ⟨z105, z105, fA (sAt p (nat_lit 34)), (.stmts (fB (sAt p (nat_lit 34)))), fS (sAt p (nat_lit 34)) p, nat_lit 3, [], .none, .none, .none, (.str z75 (nat_lit 445)), none, (.ref (nat_lit 236)), .none, nat_lit 0⟩), ⟨[]⟩⟩
noncomputable abbrev o238_7 : OB := fun _ _ => ⟨(.type s2766695959194262286x5), none, (.seq ⟨[]⟩ (nat_lit 0)), ⟨[]⟩⟩
noncomputable abbrev o239_7 : OB := fun _ _ => ⟨.none, none, (.fields ⟨[]⟩), ⟨[]⟩⟩
noncomputable abbrev o240_7 : OB := fun _ _ => ⟨(.type s2766695959194262286x5), none, (.seq ⟨[(.str z89 (nat_lit 531))]⟩ (nat_lit 0)), ⟨[]⟩⟩
noncomputable abbrev o241_7 : OB := fun _ _ => ⟨(.type s2766695959194262286x5), none, (.seq ⟨[]⟩ (nat_lit 0)), ⟨[]⟩⟩
noncomputable abbrev o242_7 : OB := fun p _ => ⟨.none, none, (.func ⟨z108, z108, fA (sAt p (nat_lit 37)), (.stmts (fB (sAt p (nat_lit 37)))), fS (sAt p (nat_lit 37)) p, nat_lit 0, [], .none, .none, .none, .none, none, .none, .none, nat_lit 0⟩), ⟨[]⟩⟩
noncomputable abbrev o243_7 : OB := fun _ _ => ⟨(.type s5856160107412720595x4), none, (.fields ⟨[(.str z108 (nat_lit 528)), (.str z108 (nat_lit 529)), (.str z1 (nat_lit 530)), (.int (.ofNat (nat_lit 180)) (nat_lit 0)), (.int (.ofNat (nat_lit 1)) (nat_lit 0)), (.int (.ofNat (nat_lit 0)) (nat_lit 0)), (.int (.ofNat (nat_lit 0)) (nat_lit 0)), (.int (.ofNat (nat_lit 3)) (nat_lit 0)), (.ref (nat_lit 238)), (.bool true), (.int (.ofNat (nat_lit 181)) (nat_lit 0)), (.ref (nat_lit 239)), .none, (.ref (nat_lit 240)), (.ref (nat_lit 241)), (.ref (nat_lit 242)), (.int (.ofNat (nat_lit 532)) (nat_lit 0)), (.int (.ofNat (nat_lit 180)) (nat_lit 0)), (.str z1 (nat_lit 533))]⟩), ⟨[]⟩⟩
noncomputable abbrev z118 : Str := ⟨⟨[nat_lit 108, nat_lit 101, nat_lit 100, nat_lit 103, nat_lit 101, nat_lit 114, nat_lit 115, nat_lit 112, nat_lit 101, nat_lit 97, nat_lit 107, nat_lit 46, nat_lit 114, nat_lit 101, nat_lit 97, nat_lit 100, nat_lit 97, nat_lit 114, nat_lit 105, nat_lit 116, nat_lit 104]⟩⟩
noncomputable abbrev o244_7 : OB := fun p _ => ⟨(.type s7174869446012820540x8), none, (.func ⟨z108, z108, fA (sAt p (nat_lit 37)), (.stmts (fB (sAt p (nat_lit 37)))), fS (sAt p (nat_lit 37)) p, nat_lit 3, [], .none, .none, .none, (.str z118 (nat_lit 524)), none, (.ref (nat_lit 243)), .none, nat_lit 0⟩), ⟨[]⟩⟩
noncomputable abbrev o245_7 : OB := fun _ _ => ⟨(.type s2766695959194262286x5), none, (.seq ⟨[]⟩ (nat_lit 0)), ⟨[]⟩⟩
noncomputable abbrev o246_7 : OB := fun _ _ => ⟨.none, none, (.fields ⟨[]⟩), ⟨[]⟩⟩
noncomputable abbrev z119 : Str := ⟨⟨[nat_lit 109, nat_lit 97, nat_lit 114, nat_lit 107]⟩⟩
noncomputable abbrev o247_7 : OB := fun _ _ => ⟨(.type s2766695959194262286x5), none, (.seq ⟨[(.str z89 (nat_lit 538)), (.str z119 (nat_lit 539)), (.str z25 (nat_lit 540))]⟩ (nat_lit 0)), ⟨[]⟩⟩
noncomputable abbrev o248_7 : OB := fun _ _ => ⟨(.type s2766695959194262286x5), none, (.seq ⟨[]⟩ (nat_lit 0)), ⟨[]⟩⟩
noncomputable abbrev o249_7 : OB := fun p _ => ⟨.none, none, (.func ⟨z109, z109, fA (sAt p (nat_lit 38)), (.stmts (fB (sAt p (nat_lit 38)))), fS (sAt p (nat_lit 38)) p, nat_lit 0, [], .none, .none, .none, .none, none, .none, .none, nat_lit 0⟩), ⟨[]⟩⟩
noncomputable abbrev o250_7 : OB := fun _ _ => ⟨(.type s5856160107412720595x4), none, (.fields ⟨[(.str z109 (nat_lit 535)), (.str z109 (nat_lit 536)), (.str z1 (nat_lit 537)), (.int (.ofNat (nat_lit 184)) (nat_lit 0)), (.int (.ofNat (nat_lit 3)) (nat_lit 0)), (.int (.ofNat (nat_lit 0)) (nat_lit 0)), (.int (.ofNat (nat_lit 0)) (nat_lit 0)), (.int (.ofNat (nat_lit 3)) (nat_lit 0)), (.ref (nat_lit 245)), (.bool true), (.int (.ofNat (nat_lit 181)) (nat_lit 0)), (.ref (nat_lit 246)), .none, (.ref (nat_lit 247)), (.ref (nat_lit 248)), (.ref (nat_lit 249)), (.int (.ofNat (nat_lit 541)) (nat_lit 0)), (.int (.ofNat (nat_lit 184)) (nat_lit 0)), (.str z1 (nat_lit 542))]⟩), ⟨[]⟩⟩
noncomputable abbrev o251_7 : OB := fun p _ => ⟨(.type s7174869446012820540x8), none, (.func ⟨z109, z109, fA (sAt p (nat_lit 38)), (.stmts (fB (sAt p (nat_lit 38)))), fS (sAt p (nat_lit 38)) p, nat_lit 3, [], .none, .none, .none, (.str z118 (nat_lit 524)), none, (.ref (nat_lit 250)), .none, nat_lit 0⟩), ⟨[]⟩⟩
noncomputable abbrev o252_7 : OB := fun _ _ => ⟨(.type s2766695959194262286x5), none, (.seq ⟨[]⟩ (nat_lit 0)), ⟨[]⟩⟩
noncomputable abbrev o253_7 : OB := fun _ _ => ⟨.none, none, (.fields ⟨[]⟩), ⟨[]⟩⟩
noncomputable abbrev o254_7 : OB := fun _ _ => ⟨(.type s2766695959194262286x5), none, (.seq ⟨[(.str z89 (nat_lit 549))]⟩ (nat_lit 0)), ⟨[]⟩⟩
noncomputable abbrev o255_7 : OB := fun _ _ => ⟨(.type s2766695959194262286x5), none, (.seq ⟨[]⟩ (nat_lit 0)), ⟨[]⟩⟩
noncomputable abbrev o256_7 : OB := fun p _ => ⟨.none, none, (.func ⟨z110, z110, fA (sAt p (nat_lit 40)), (.stmts (fB (sAt p (nat_lit 40)))), fS (sAt p (nat_lit 40)) p, nat_lit 0, [], .none, .none, .none, .none, none, .none, .none, nat_lit 0⟩), ⟨[]⟩⟩
noncomputable abbrev o257_7 : OB := fun _ _ => ⟨(.type s5856160107412720595x4), none, (.fields ⟨[(.str z110 (nat_lit 546)), (.str z110 (nat_lit 547)), (.str z1 (nat_lit 548)), (.int (.ofNat (nat_lit 188)) (nat_lit 0)), (.int (.ofNat (nat_lit 1)) (nat_lit 0)), (.int (.ofNat (nat_lit 0)) (nat_lit 0)), (.int (.ofNat (nat_lit 0)) (nat_lit 0)), (.int (.ofNat (nat_lit 3)) (nat_lit 0)), (.ref (nat_lit 252)), (.bool true), (.int (.ofNat (nat_lit 181)) (nat_lit 0)), (.ref (nat_lit 253)), .none, (.ref (nat_lit 254)), (.ref (nat_lit 255)), (.ref (nat_lit 256)), (.int (.ofNat (nat_lit 550)) (nat_lit 0)), (.int (.ofNat (nat_lit 188)) (nat_lit 0)), (.str z1 (nat_lit 551))]⟩), ⟨[]⟩⟩
noncomputable abbrev z120 : Str := ⟨⟨[nat_lit 108, nat_lit 101, nat_lit 100, nat_lit 103, nat_lit 101, nat_lit 114, nat_lit 115, nat_lit 112, nat_lit 101, nat_lit 97, nat_lit 107, nat_lit 46, nat_lit 114, nat_lit 101, nat_lit 97, nat_lit 100, nat_lit 100, nat_lit 97, nat_lit 116, nat_lit 97]⟩⟩
noncomputable abbrev o258_7 : OB := fun p _ => ⟨(.type s7174869446012820540x8), none, (.func ⟨z110, z110, fA (sAt p (nat_lit 40)), (.stmts (fB (sAt p (nat_lit 40)))), fS (sAt p (nat_lit 40)) p, nat_lit 3, [], .none, .none, .none, (.str z120 (nat_lit 544)), none, (.ref (nat_lit 257)), .none, nat_lit 0⟩), ⟨[]⟩⟩
noncomputable abbrev o259_7 : OB := fun _ _ => ⟨(.type s2766695959194262286x5), none, (.seq ⟨[]⟩ (nat_lit 0)), ⟨[]⟩⟩
noncomputable abbrev o260_7 : OB := fun _ _ => ⟨.none, none, (.fields ⟨[]⟩), ⟨[]⟩⟩
noncomputable abbrev z121 : Str := ⟨⟨[nat_lit 111, nat_lit 112, nat_lit 101, nat_lit 114, nat_lit 97, nat_lit 110, nat_lit 100]⟩⟩
noncomputable abbrev o261_7 : OB := fun _ _ => ⟨(.type s2766695959194262286x5), none, (.seq ⟨[(.str z89 (nat_lit 556)), (.str z119 (nat_lit 557)), (.str z121 (nat_lit 558))]⟩ (nat_lit 0)), ⟨[]⟩⟩
noncomputable abbrev o262_7 : OB := fun _ _ => ⟨(.type s2766695959194262286x5), none, (.seq ⟨[]⟩ (nat_lit 0)), ⟨[]⟩⟩
noncomputable abbrev o263_7 : OB := fun p _ => ⟨.none, none, (.func ⟨z111, z111, fA (sAt p (nat_lit 41)), (.stmts (fB (sAt p (nat_lit 41)))), fS (sAt p (nat_lit 41)) p, nat_lit 0, [], .none, .none, .none, .none, none, .none, .none, nat_lit 0⟩), ⟨[]⟩⟩
noncomputable abbrev o264_7 : OB := fun _ _ => ⟨(.type s5856160107412720595x4), none, (.fields ⟨[(.str z111 (nat_lit 553)), (.str z111 (nat_lit 554)), (.str z1 (nat_lit 555)), (.int (.ofNat (nat_lit 192)) (nat_lit 0)), (.int (.ofNat (nat_lit 1)) (nat_lit 0)), (.int (.ofNat (nat_lit 0)) (nat_lit 0)), (.int (.ofNat (nat_lit 0)) (nat_lit 0)), (.int (.ofNat (nat_lit 3)) (nat_lit 0)), (.ref (nat_lit 259)), (.bool true), (.int (.ofNat (nat_lit 181)) (nat_lit 0)), (.ref (nat_lit 260)), .none, (.ref (nat_lit 261)), (.ref (nat_lit 262)), (.ref (nat_lit 263)), (.int (.ofNat (nat_lit 559)) (nat_lit 0)), (.int (.ofNat (nat_lit 192)) (nat_lit 0)), (.str z1 (nat_lit 560))]⟩), ⟨[]⟩⟩
noncomputable abbrev o265_7 : OB := fun p _ => ⟨(.type s7174869446012820540x8), none, (.func ⟨z111, z111, fA (sAt p (nat_lit 41)), (.stmts (fB (sAt p (nat_lit 41)))), fS (sAt p (nat_lit 41)) p, nat_lit 3, [], .none, .none, .none, (.str z120 (nat_lit 544)), none, (.ref (nat_lit 264)), .none, nat_lit 0⟩), ⟨[]⟩⟩
noncomputable abbrev o266_7 : OB := fun _ _ => ⟨(.type s2766695959194262286x5), none, (.seq ⟨[]⟩ (nat_lit 0)), ⟨[]⟩⟩
noncomputable abbrev o267_7 : OB := fun _ _ => ⟨.none, none, (.fields ⟨[]⟩), ⟨[]⟩⟩
noncomputable abbrev z122 : Str := ⟨⟨[nat_lit 98, nat_lit 101, nat_lit 102, nat_lit 111, nat_lit 114, nat_lit 101]⟩⟩
noncomputable abbrev z123 : Str := ⟨⟨[nat_lit 97, nat_lit 102, nat_lit 116, nat_lit 101, nat_lit 114]⟩⟩
noncomputable abbrev o268_7 : OB := fun _ _ => ⟨(.type s2766695959194262286x5), none, (.seq ⟨[(.str z89 (nat_lit 565)), (.str z122 (nat_lit 566)), (.str z123 (nat_lit 567))]⟩ (nat_lit 0)), ⟨[]⟩⟩
noncomputable abbrev o269_7 : OB := fun _ _ => ⟨(.type s2766695959194262286x5), none, (.seq ⟨[]⟩ (nat_lit 0)), ⟨[]⟩⟩
noncomputable abbrev o270_7 : OB := fun p _ => ⟨.none, none, (.func ⟨z112, z112, fA (sAt p (nat_lit 42)), (.stmts (fB (sAt p (nat_lit 42)))), fS (sAt p (nat_lit 42)) p, nat_lit 0, [], .none, .none, .none, .none, none, .none, .none, nat_lit 0⟩), ⟨[]⟩⟩
noncomputable abbrev o271_7 : OB := fun _ _ => ⟨(.type s5856160107412720595x4), none, (.fields ⟨[(.str z112 (nat_lit 562)), (.str z112 (nat_lit 563)), (.str z1 (nat_lit 564)), (.int (.ofNat (nat_lit 198)) (nat_lit 0)), (.int (.ofNat (nat_lit 1)) (nat_lit 0)), (.int (.ofNat (nat_lit 0)) (nat_lit 0)), (.int (.ofNat (nat_lit 0)) (nat_lit 0)), (.int (.ofNat (nat_lit 3)) (nat_lit 0)), (.ref (nat_lit 266)), (.bool true), (.int (.ofNat (nat_lit 181)) (nat_lit 0)), (.ref (nat_lit 267)), .none, (.ref (nat_lit 268)), (.ref (nat_lit 269)), (.ref (nat_lit 270)), (.int (.ofNat (nat_lit 568)) (nat_lit 0)), (.int (.ofNat (nat_lit 198)) (nat_lit 0)), (.str z1 (nat_lit 569))]⟩), ⟨[]⟩⟩
noncomputable abbrev o272_7 : OB := fun p _ => ⟨(.type s7174869446012820540x8), none, (.func ⟨z112, z112, fA (sAt p (nat_lit 42)), (.stmts (fB (sAt p (nat_lit 42)))), fS (sAt p (nat_lit 42)) p, nat_lit 3, [], .none, .none, .none, (.str z120 (nat_lit 544)), none, (.ref (nat_lit 271)), .none, nat_lit 0⟩), ⟨[]⟩⟩
noncomputable abbrev o273_7 : OB := fun _ _ => ⟨(.type s2766695959194262286x5), none, (.seq ⟨[]⟩ (nat_lit 0)), ⟨[]⟩⟩
noncomputable abbrev o274_7 : OB := fun _ _ => ⟨.none, none, (.fields ⟨[]⟩), ⟨[]⟩⟩
noncomputable abbrev z124 : Str := ⟨⟨[nat_lit 98, nat_lit 121]⟩⟩
noncomputable abbrev o275_7 : OB := fun _ _ => ⟨(.type s2766695959194262286x5), none, (.seq ⟨[(.str z121 (nat_lit 574)), (.str z124 (nat_lit 575))]⟩ (nat_lit 0)), ⟨[]⟩⟩
noncomputable abbrev o276_7 : OB := fun _ _ => ⟨(.type s2766695959194262286x5), none, (.seq ⟨[]⟩ (nat_lit 0)), ⟨[]⟩⟩
noncomputable abbrev o277_7 : OB := fun p _ => ⟨.none, none, (.func ⟨z113, z113, fA (sAt p (nat_lit 43)), (.stmts (fB (sAt p (nat_lit 43)))), fS (sAt p (nat_lit 43)) p, nat_lit 0, [], .none, .none, .none, .none, none, .none, .none, nat_lit 0⟩), ⟨[]⟩⟩
noncomputable abbrev o278_7 : OB := fun _ _ => ⟨(.type s5856160107412720595x4), none, (.fields ⟨[(.str z113 (nat_lit 571)), (.str z113 (nat_lit 572)), (.str z1 (nat_lit 573)), (.int (.ofNat (nat_lit 209)) (nat_lit 0)), (.int (.ofNat (nat_lit 2)) (nat_lit 0)), (.int (.ofNat (nat_lit 0)) (nat_lit 0)), (.int (.ofNat (nat_lit 0)) (nat_lit 0)), (.int (.ofNat (nat_lit 3)) (nat_lit 0)), (.ref (nat_lit 273)), (.bool true), (.int (.ofNat (nat_lit 181)) (nat_lit 0)), (.ref (nat_lit 274)), .none, (.ref (nat_lit 275)), (.ref (nat_lit 276)), (.ref (nat_lit 277)), (.int (.ofNat (nat_lit 576)) (nat_lit 0)), (.int (.ofNat (nat_lit 209)) (nat_lit 0)), (.str z1 (nat_lit 577))]⟩), ⟨[]⟩⟩
noncomputable abbrev o279_7 : OB := fun p _ => ⟨(.type s7174869446012820540x8), none, (.func ⟨z113, z113, fA (sAt p (nat_lit 43)), (.stmts (fB (sAt p (nat_lit 43)))), fS (sAt p (nat_lit 43)) p, nat_lit 3, [], .none, .none, .none, (.str z120 (nat_lit 544)), none, (.ref (nat_lit 278)), .none, nat_lit 0⟩), ⟨[]⟩⟩
noncomputable abbrev o280_7 : OB := fun _ _ => ⟨(.type s2766695959194262286x5), none, (.seq ⟨[]⟩ (nat_lit 0)), ⟨[]⟩⟩
noncomputable abbrev o281_7 : OB := fun _ _ => ⟨.none, none, (.fields ⟨[]⟩), ⟨[]⟩⟩
noncomputable abbrev o282_7 : OB := fun _ _ => ⟨(.type s2766695959194262286x5), none, (.seq ⟨[(.str z89 (nat_lit 582)), (.str z121 (nat_lit 583)), (.str z119 (nat_lit 584)), (.str z124 (nat_lit 585))]⟩ (nat_lit 0)), ⟨[]⟩⟩
noncomputable abbrev o283_7 : OB := fun _ _ => ⟨(.type s2766695959194262286x5), none, (.seq ⟨[]⟩ (nat_lit 0)), ⟨[]⟩⟩
noncomputable abbrev o284_7 : OB := fun p _ => ⟨.none, none, (.func ⟨z114, z114, fA (sAt p (nat_lit 44)), (.stmts (fB (sAt p (nat_lit 44)))), fS (sAt p (nat_lit 44)) p, nat_lit 0, [], .none, .none, .none, .none, none, .none, .none, nat_lit 0⟩), ⟨[]⟩⟩
noncomputable abbrev o285_7 : OB := fun _ _ => ⟨(.type s5856160107412720595x4), none, (.fields ⟨[(.str z114 (nat_lit 579)), (.str z114 (nat_lit 580)), (.str z1 (nat_lit 581)), (.int (.ofNat (nat_lit 213)) (nat_lit 0)), (.int (.ofNat (nat_lit 2)) (nat_lit 0)), (.int (.ofNat (nat_lit 0)) (nat_lit 0)), (.int (.ofNat (nat_lit 0)) (nat_lit 0)), (.int (.ofNat (nat_lit 3)) (nat_lit 0)), (.ref (nat_lit 280)), (.bool true), (.int (.ofNat (nat_lit 181)) (nat_lit 0)), (.ref (nat_lit 281)), .none, (.ref (nat_lit 282)), (.ref (nat_lit 283)), (.ref (nat_lit 284)), (.int (.ofNat (nat_lit 586)) (nat_lit 0)), (.int (.ofNat (nat_lit 213)) (nat_lit 0)), (.str z1 (nat_lit 587))]⟩), ⟨[]⟩⟩
noncomputable abbrev o286_7 : OB := fun p _ => ⟨(.type s7174869446012820540x8), none, (.func ⟨z114, z114, fA (sAt p (nat_lit 44)), (.stmts (fB (sAt p (nat_lit 44)))), fS (sAt p (nat_lit 44)) p, nat_lit 3, [], .none, .none, .none, (.str z120 (nat_lit 544)), none, (.ref (nat_lit 285)), .none, nat_lit 0⟩), ⟨[]⟩⟩
noncomputable abbrev o287_7 : OB := fun _ _ => ⟨(.type s2766695959194262286x5), none, (.seq ⟨[]⟩ (nat_lit 0)), ⟨[]⟩⟩
noncomputable abbrev o288_7 : OB := fun _ _ => ⟨.none, none, (.fields ⟨[]⟩), ⟨[]⟩⟩
noncomputable abbrev z125 : Str := ⟨⟨[nat_lit 107, nat_lit 105, nat_lit 110, nat_lit 100]⟩⟩
noncomputable abbrev o289_7 : OB := fun _ _ => ⟨(.type s2766695959194262286x5), none, (.seq ⟨[(.str z89 (nat_lit 592)), (.str z125 (nat_lit 593)), (.str z121 (nat_lit 594)), (.str z124 (nat_lit 595)), (.str z122 (nat_lit 596)), (.str z123 (nat_lit 597))]⟩ (nat_lit 0)), ⟨[]⟩⟩
noncomputable abbrev o290_7 : OB := fun _ _ => ⟨(.type s2766695959194262286x5), none, (.seq ⟨[]⟩ (nat_lit 0)), ⟨[]⟩⟩
noncomputable abbrev o291_7 : OB := fun p _ => ⟨.none, none, (.func ⟨z115, z115, fA (sAt p (nat_lit 45)), (.stmts (fB (sAt p (nat_lit 45)))), fS (sAt p (nat_lit 45)) p, nat_lit 0, [], .none, .none, .none, .none, none, .none, .none, nat_lit 0⟩), ⟨[]⟩⟩
noncomputable abbrev o292_7 : OB := fun _ _ => ⟨(.type s5856160107412720595x4), none, (.fields ⟨[(.str z115 (nat_lit 589)), (.str z115 (nat_lit 590)), (.str z1 (nat_lit 591)), (.int (.ofNat (nat_lit 219)) (nat_lit 0)), (.int (.ofNat (nat_lit 2)) (nat_lit 0)), (.int (.ofNat (nat_lit 0)) (nat_lit 0)), (.int (.ofNat (nat_lit 0)) (nat_lit 0)), (.int (.ofNat (nat_lit 3)) (nat_lit 0)), (.ref (nat_lit 287)), (.bool true), (.int (.ofNat (nat_lit 181)) (nat_lit 0)), (.ref (nat_lit 288)), .none, (.ref (nat_lit 289)), (.ref (nat_lit 290)), (.ref (nat_lit 291)), (.int (.ofNat (nat_lit 598)) (nat_lit 0)), (.int (.ofNat (nat_lit 219)) (nat_lit 0)), (.str z1 (nat_lit 599))]⟩), ⟨[]⟩⟩
noncomputable abbrev o293_7 : OB := fun p _ => ⟨(.type s7174869446012820540x8), none, (.func ⟨z115, z115, fA (sAt p (nat_lit 45)), (.stmts (fB (sAt p (nat_lit 45)))), fS (sAt p (nat_lit 45)) p, nat_lit 3, [], .none, .none, .none, (.str z120 (nat_lit 544)), none, (.ref (nat_lit 292)), .none, nat_lit 0⟩), ⟨[]⟩⟩
noncomputable abbrev tr7 (P : Params) : BT := ((((((((((((((((((((((((((((((((((((((((((((((((((((((((((((((((((((((((((((((((tr6 P).ins (nat_lit 3) (o3_7 prgQ P)).ins (nat_lit 12) (o12_7 prgQ P)).ins (nat_lit 217) (o217_7 prgQ P)).ins (nat_lit 218) (o218_7 prgQ P)).ins (nat_lit 219) (o219_7 prgQ P)).ins (nat_lit 220) (o220_7 prgQ P)).ins (nat_lit 221) (o221_7 prgQ P)).ins (nat_lit 222) (o222_7 prgQ P)).ins (nat_lit 223) (o223_7 prgQ P)).ins (nat_lit 224) (o224_7 prgQ P)).ins (nat_lit 225) (o225_7 prgQ P)).ins (nat_lit 226) (o226_7 prgQ P)).ins (nat_lit 227) (o227_7 prgQ P)).ins (nat_lit 228) (o228_7 prgQ P)).ins (nat_lit 229) (o229_7 prgQ P)).ins (nat_lit 230) (o230_7 prgQ P)).ins (nat_lit 231) (o231_7 prgQ P)).ins (nat_lit 232) (o232_7 prgQ P)).ins (nat_lit 233) (o233_7 prgQ P)).ins (nat_lit 234) (o234_7 prgQ P)).ins (nat_lit 235) (o235_7 prgQ P)).ins (nat_lit 236) (o236_7 prgQ P)).ins (nat_lit 237) (o237_7 prgQ P)).ins (nat_lit 238) (o238_7 prgQ P)).ins (nat_lit 239) (o239_7 prgQ P)).ins (nat_lit 240) (o240_7 prgQ P)).ins (nat_lit 241) (o241_7 prgQ P)).ins (nat_lit 242) (o242_7 prgQ P)).ins (nat_lit 243) (o243_7 prgQ P)).ins (nat_lit 244) (o244_7 prgQ P)).ins (nat_lit 245) (o245_7 prgQ P)).ins (nat_lit 246) (o246_7 prgQ P)).ins (nat_lit 247) (o247_7 prgQ P)).ins (nat_lit 248) (o248_7 prgQ P)).ins (nat_lit 249) (o249_7 prgQ P)).ins (nat_lit 250) (o250_7 prgQ P)).ins (nat_lit 251) (o251_7 prgQ P)).ins (nat_lit 252) (o252_7 prgQ P)).ins (nat_lit 253) (o253_7 prgQ P)).ins (nat_lit 254) (o254_7 prgQ P)).ins (nat_lit 255) (o255_7 prgQ P)).ins (nat_lit 256) (o256_7 prgQ P)).ins (nat_lit 257) (o257_7 prgQ P)).ins (nat_lit 258) (o258_7 prgQ P)).ins (nat_lit 259) (o259_7 prgQ P)).ins (nat_lit 260) (o260_7 prgQ P)).ins (nat_lit 261) (o261_7 prgQ P)).ins (nat_lit 262) (o262_7 prgQ P)).ins (nat_lit 263) (o263_7 prgQ P)).ins (nat_lit 264) (o264_7 prgQ P)).ins (nat_lit 265) (o265_7 prgQ P)).ins (nat_lit 266) (o266_7 prgQ P)).ins (nat_lit 267) (o267_7 prgQ P)).ins (nat_lit 268) (o268_7 prgQ P)).ins (nat_lit 269) (o269_7 prgQ P)).ins (nat_lit 270) (o270_7 prgQ P)).ins (nat_lit 271) (o271_7 prgQ P)).ins (nat_lit 272) (o272_7 prgQ P)).ins (nat_lit 273) (o273_7 prgQ P)).ins (nat_lit 274) (o274_7 prgQ P)).ins (nat_lit 275) (o275_7 prgQ P)).ins (nat_lit 276) (o276_7 prgQ P)).ins (nat_lit 277) (o277_7 prgQ P)).ins (nat_lit 278) (o278_7 prgQ P)).ins (nat_lit 279) (o279_7 prgQ P)).ins (nat_lit 280) (o280_7 prgQ P)).ins (nat_lit 281) (o281_7 prgQ P)).ins (nat_lit 282) (o282_7 prgQ P)).ins (nat_lit 283) (o283_7 prgQ P)).ins (nat_lit 284) (o284_7 prgQ P)).ins (nat_lit 285) (o285_7 prgQ P)).ins (nat_lit 286) (o286_7 prgQ P)).ins (nat_lit 287) (o287_7 prgQ P)).ins (nat_lit 288) (o288_7 prgQ P)).ins (nat_lit 289) (o289_7 prgQ P)).ins (nat_lit 290) (o290_7 prgQ P)).ins (nat_lit 291) (o291_7 prgQ P)).ins (nat_lit 292) (o292_7 prgQ P)).ins (nat_lit 293) (o293_7 prgQ P))
noncomputable abbrev st7 (w : World) (os : OsState) : SharedT := ⟨tr7 w.params, nat_lit 294, lifeQ, ⟨[]⟩, boot_drawn, nat_lit 607, os⟩
/-! GROUP 7 32 17 395 [] [] from ⟨nat_lit 149, nat_lit 0, nat_lit 158, nat_lit 51⟩ to ⟨nat_lit 227, nat_lit 0, nat_lit 227, nat_lit 8⟩ -/
noncomputable abbrev z126 : Str := ⟨⟨[nat_lit 105, nat_lit 115, nat_lit 95, nat_lit 114, nat_lit 101, nat_lit 115, nat_lit 101, nat_lit 114, nat_lit 118, nat_lit 101, nat_lit 100]⟩⟩
noncomputable abbrev z127 : Str := ⟨⟨[nat_lit 111, nat_lit 99, nat_lit 116, nat_lit 101, nat_lit 116, nat_lit 115, nat_lit 95, nat_lit 111, nat_lit 102, nat_lit 95, nat_lit 116, nat_lit 101, nat_lit 120, nat_lit 116]⟩⟩
noncomputable abbrev o3_8 : OB := fun p P => ⟨(.type s14018661285674007319x4), none, (.dict ⟨[⟨PyData.keyHash P z5, (.str z5 (nat_lit 165)), (.str z102 (nat_lit 601))⟩, ⟨PyData.keyHash P z7, (.str z7 (nat_lit 166)), .none⟩, ⟨PyData.keyHash P z8, (.str z8 (nat_lit 167)), .none⟩, ⟨PyData.keyHash P z9, (.str z9 (nat_lit 168)), (.builtin s7097527257260152453x26)⟩, ⟨PyData.keyHash P z10, (.str z10 (nat_lit 169)), .none⟩, ⟨PyData.keyHash P z11, (.str z11 (nat_lit 170)), (.ref (nat_lit 6))⟩, ⟨PyData.keyHash P z12, (.str z12 (nat_lit 171)), (.ref (nat_lit 4))⟩, ⟨PyData.keyHash P z13, (.str z13 (nat_lit 173)), (.str z1 (nat_lit 172))⟩, ⟨PyData.keyHash P z14, (.str z14 (nat_lit 174)), .none⟩, ⟨PyData.keyHash P z15, (.str z15 (nat_lit 193)), (.ref (nat_lit 21))⟩, ⟨PyData.keyHash P z16, (.str z16 (nat_lit 235)), (.ref (nat_lit 47))⟩, ⟨PyData.keyHash P z30, (.str z30 (nat_lit 251)), (.ref (nat_lit 60))⟩, ⟨PyData.keyHash P z32, (.str z32 (nat_lit 267)), (.ref (nat_lit 72))⟩, ⟨PyData.keyHash P z33, (.str z33 (nat_lit 271)), (.str z34 (nat_lit 270))⟩, ⟨PyData.keyHash P z35, (.str z35 (nat_lit 279)), (.ref (nat_lit 81))⟩, ⟨PyData.keyHash P z36, (.str z36 (nat_lit 288)), (.ref (nat_lit 89))⟩, ⟨PyData.keyHash P z37, (.str z37 (nat_lit 295)), (.ref (nat_lit 96))⟩, ⟨PyData.keyHash P z38, (.str z38 (nat_lit 306)), (.ref (nat_lit 103))⟩, ⟨PyData.keyHash P z39, (.str z39 (nat_lit 313)), (.ref (nat_lit 110))⟩, ⟨PyData.keyHash P z49, (.str z49 (nat_lit 320)), (.ref (nat_lit 117))⟩, ⟨PyData.keyHash P z50, (.str z50 (nat_lit 329)), (.ref (nat_lit 124))⟩, ⟨PyData.keyHash P z51, (.str z51 (nat_lit 342)), (.ref (nat_lit 131))⟩, ⟨PyData.keyHash P z52, (.str z52 (nat_lit 346)), (.int (.ofNat (nat_lit 7)) (nat_lit 345))⟩, ⟨PyData.keyHash P z61, (.str z61 (nat_lit 380)), (.ref (nat_lit 132))⟩, ⟨PyData.keyHash P z76, (.str z76 (nat_lit 389)), (.ref (nat_lit 139))⟩, ⟨PyData.keyHash P z77, (.str z77 (nat_lit 398)), (.ref (nat_lit 146))⟩, ⟨PyData.keyHash P z78, (.str z78 (nat_lit 408)), (.ref (nat_lit 153))⟩, ⟨PyData.keyHash P z79, (.str z79 (nat_lit 420)), (.ref (nat_lit 160))⟩, ⟨PyData.keyHash P z80, (.str z80 (nat_lit 428)), (.ref (nat_lit 167))⟩, ⟨PyData.keyHash P z81, (.str z81 (nat_lit 435)), (.ref (nat_lit 174))⟩, ⟨PyData.keyHash P z82, (.str z82 (nat_lit 444)), (.ref (nat_lit 181))⟩, ⟨PyData.keyHash P z83, (.str z83 (nat_lit 448)), (.int (.ofNat (nat_lit 20)) (nat_lit 447))⟩, ⟨PyData.keyHash P z84, (.str z84 (nat_lit 455)), (.ref (nat_lit 188))⟩, ⟨PyData.keyHash P z85, (.str z85 (nat_lit 464)), (.ref (nat_lit 195))⟩, ⟨PyData.keyHash P z86, (.str z86 (nat_lit 474)), (.ref (nat_lit 202))⟩, ⟨PyData.keyHash P z87, (.str z87 (nat_lit 484)), (.ref (nat_lit 209))⟩, ⟨PyData.keyHash P z88, (.str z88 (nat_lit 495)), (.ref (nat_lit 216))⟩, ⟨PyData.keyHash P z103, (.str z103 (nat_lit 504)), (.ref (nat_lit 223))⟩, ⟨PyData.keyHash P z104, (.str z104 (nat_lit 513)), (.ref (nat_lit 230))⟩, ⟨PyData.keyHash P z105, (.str z105 (nat_lit 523)), (.ref (nat_lit 237))⟩, ⟨PyData.keyHash P z106, (.str z106 (nat_lit 527)), (.str z107 (nat_lit 526))⟩, ⟨PyData.keyHash P z108, (.str z108 (nat_lit 534)), (.ref (nat_lit 244))⟩, ⟨PyData.keyHash P z109, (.str z109 (nat_lit 543)), (.ref (nat_lit 251))⟩, ⟨PyData.keyHash P z110, (.str z110 (nat_lit 552)), (.ref (nat_lit 258))⟩, ⟨PyData.keyHash P z111, (.str z111 (nat_lit 561)), (.ref (nat_lit 265))⟩, ⟨PyData.keyHash P z112, (.str z112 (nat_lit 570)), (.ref (nat_lit 272))⟩, ⟨PyData.keyHash P z113, (.str z113 (nat_lit 578)), (.ref (nat_lit 279))⟩, ⟨PyData.keyHash P z114, (.str z114 (nat_lit 588)), (.ref (nat_lit 286))⟩, ⟨PyData.keyHash P z115, (.str z115 (nat_lit 600)), (.ref (nat_lit 293))⟩, ⟨PyData.keyHash P z116, (.str z116 (nat_lit 604)), (.int (.ofNat (nat_lit 255)) (nat_lit 603))⟩, ⟨PyData.keyHash P z117, (.str z117 (nat_lit 606)), (.str (longQ p) (nat_lit 605))⟩, ⟨PyData.keyHash P z126, (.str z126 (nat_lit 613)), (.ref (nat_lit 300))⟩, ⟨PyData.keyHash P z127, (.str z127 (nat_lit 619)), (.ref (nat_lit 305))⟩]⟩ (nat_lit 53)), ⟨[]⟩⟩
noncomputable abbrev o12_8 : OB := fun _ _ => ⟨.none, none, (.fields ⟨((.int (.ofNat (nat_lit 1)) (nat_lit 0)) :: (.int (.ofNat (nat_lit 0)) (nat_lit 0)) :: (.ref (nat_lit 20)) :: (.int (.ofNat (nat_lit 5)) (nat_lit 0)) :: (.int (.ofNat (nat_lit 0)) (nat_lit 0)) :: (.ref (nat_lit 27)) :: (.int (.ofNat (nat_lit 14)) (nat_lit 0)) :: (.int (.ofNat (nat_lit 0)) (nat_lit 0)) :: (.ref (nat_lit 56)) :: (.int (.ofNat (nat_lit 16)) (nat_lit 0)) :: (.int (.ofNat (nat_lit 0)) (nat_lit 0)) :: (.ref (nat_lit 68)) :: (.int (.ofNat (nat_lit 20)) (nat_lit 0)) :: (.int (.ofNat (nat_lit 0)) (nat_lit 0)) :: (.ref (nat_lit 80)) :: (.int (.ofNat (nat_lit 24)) (nat_lit 0)) :: (.int (.ofNat (nat_lit 0)) (nat_lit 0)) :: (.ref (nat_lit 88)) :: (.int (.ofNat (nat_lit 31)) (nat_lit 0)) :: (.int (.ofNat (nat_lit 0)) (nat_lit 0)) :: (.ref (nat_lit 95)) :: (.int (.ofNat (nat_lit 33)) (nat_lit 0)) :: (.int (.ofNat (nat_lit 0)) (nat_lit 0)) :: (.ref (nat_lit 102)) :: (.int (.ofNat (nat_lit 41)) (nat_lit 0)) :: (.int (.ofNat (nat_lit 0)) (nat_lit 0)) :: (.ref (nat_lit 109)) :: (.int (.ofNat (nat_lit 43)) (nat_lit 0)) :: (.int (.ofNat (nat_lit 0)) (nat_lit 0)) :: (.ref (nat_lit 116)) :: (.int (.ofNat (nat_lit 45)) (nat_lit 0)) :: (.int (.ofNat (nat_lit 0)) (nat_lit 0)) :: (.ref (nat_lit 123)) :: (.int (.ofNat (nat_lit 50)) (nat_lit 0)) :: (.int (.ofNat (nat_lit 0)) (nat_lit 0)) :: (.ref (nat_lit 130)) :: (.int (.ofNat (nat_lit 68)) (nat_lit 0)) :: (.int (.ofNat (nat_lit 0)) (nat_lit 0)) :: (.ref (nat_lit 138)) :: (.int (.ofNat (nat_lit 81)) (nat_lit 0)) :: (.int (.ofNat (nat_lit 0)) (nat_lit 0)) :: (.ref (nat_lit 145)) :: (.int (.ofNat (nat_lit 89)) (nat_lit 0)) :: (.int (.ofNat (nat_lit 0)) (nat_lit 0)) :: (.ref (nat_lit 152)) :: (.int (.ofNat (nat_lit 96)) (nat_lit 0)) :: (.int (.ofNat (nat_lit 0)) (nat_lit 0)) :: (.ref (nat_lit 159)) :: (.int (.ofNat (nat_lit 106)) (nat_lit 0)) :: (.int (.ofNat (nat_lit 0)) (nat_lit 0)) :: (.ref (nat_lit 166)) :: (.int (.ofNat (nat_lit 113)) (nat_lit 0)) :: (.int (.ofNat (nat_lit 0)) (nat_lit 0)) :: (.ref (nat_lit 173)) :: (.int (.ofNat (nat_lit 117)) (nat_lit 0)) :: (.int (.ofNat (nat_lit 0)) (nat_lit 0)) :: (.ref (nat_lit 180)) :: (.int (.ofNat (nat_lit 128)) (nat_lit 0)) :: (.int (.ofNat (nat_lit 0)) (nat_lit 0)) :: (.ref (nat_lit 187)) :: (.int (.ofNat (nat_lit 130)) (nat_lit 0)) :: (.int (.ofNat (nat_lit 0)) (nat_lit 0)) :: (.ref (nat_lit 194)) :: (.int (.ofNat (nat_lit 135)) (nat_lit 0)) :: (.int (.ofNat (nat_lit 0)) (nat_lit 0)) :: (.ref (nat_lit 201)) :: (.int (.ofNat (nat_lit 143)) (nat_lit 0)) :: (.int (.ofNat (nat_lit 0)) (nat_lit 0)) :: (.ref (nat_lit 208)) :: (.int (.ofNat (nat_lit 149)) (nat_lit 0)) :: (.int (.ofNat (nat_lit 0)) (nat_lit 0)) :: (.ref (nat_lit 215)) :: (.int (.ofNat (nat_lit 159)) (nat_lit 0)) :: (.int (.ofNat (nat_lit 0)) (nat_lit 0)) :: (.ref (nat_lit 222)) :: (.int (.ofNat (nat_lit 164)) (nat_lit 0)) :: (.int (.ofNat (nat_lit 0)) (nat_lit 0)) :: (.ref (nat_lit 229)) :: (.int (.ofNat (nat_lit 170)) (nat_lit 0)) :: (.int (.ofNat (nat_lit 0)) (nat_lit 0)) :: (.ref (nat_lit 236)) :: (.int (.ofNat (nat_lit 180)) (nat_lit 0)) :: (.int (.ofNat (nat_lit 0)) (nat_lit 0)) :: (.ref (nat_lit 243)) :: (.int (.ofNat (nat_lit 184)) (nat_lit 0)) :: (.int (.ofNat (nat_lit 0)) (nat_lit 0)) :: (.ref (nat_lit 250)) :: (.int (.ofNat (nat_lit 188)) (nat_lit 0)) :: (.int (.ofNat (nat_lit 0)) (nat_lit 0)) :: (.ref (nat_lit 257)) :: (.int (.ofNat (nat_lit 192)) (nat_lit 0)) :: (.int (.ofNat (nat_lit 0)) (nat_lit 0)) :: (.ref (nat_lit 264)) :: (.int (.ofNat (nat_lit 198)) (nat_lit 0)) :: (.int (.ofNat (nat_lit 0)) (nat_lit 0)) :: (.ref (nat_lit 271)) :: (.int (.ofNat (nat_lit 209)) (nat_lit 0)) :: (.int (.ofNat (nat_lit 0)) (nat_lit 0)) :: (.ref (nat_lit 278)) :: (.int (.ofNat (nat_lit 213)) (nat_lit 0)) :: (.int (.ofNat (nat_lit 0)) (nat_lit 0)) :: (.ref (nat_lit 285)) :: (.int (.ofNat (nat_lit 219)) (nat_lit 0)) :: (.int (.ofNat (nat_lit 0)) (nat_lit 0)) :: (.ref (nat_lit 292)) :: (.int (.ofNat (nat_lit 228)) (nat_lit 0)) :: (.int (.ofNat (nat_lit 0)) (nat_lit 0)) :: (.ref (nat_lit 299)) :: (.int (.ofNat (nat_lit 230)) (nat_lit 0)) :: (.int (.ofNat (nat_lit 0)) (nat_lit 0)) :: (.ref (nat_lit 304)) :: [])⟩), ⟨[]⟩⟩
noncomputable abbrev o294_8 : OB := fun _ _ => ⟨(.type s2766695959194262286x5), none, (.seq ⟨[]⟩ (nat_lit 0)), ⟨[]⟩⟩
noncomputable abbrev o295_8 : OB := fun _ _ => ⟨.none, none, (.fields ⟨[]⟩), ⟨[]⟩⟩
noncomputable abbrev z128 : Str := ⟨⟨[nat_lit 119, nat_lit 111, nat_lit 114, nat_lit 100]⟩⟩
noncomputable abbrev o296_8 : OB := fun _ _ => ⟨(.type s2766695959194262286x5), none, (.seq ⟨[(.str z128 (nat_lit 610))]⟩ (nat_lit 0)), ⟨[]⟩⟩
noncomputable abbrev o297_8 : OB := fun _ _ => ⟨(.type s2766695959194262286x5), none, (.seq ⟨[]⟩ (nat_lit 0)), ⟨[]⟩⟩
noncomputable abbrev o298_8 : OB := fun p _ => ⟨.none, none, (.func ⟨z126, z126, fA (sAt p (nat_lit 49)), (.stmts (fB (sAt p (nat_lit 49)))), fS (sAt p (nat_lit 49)) p, nat_lit 0, [], .none, .none, .none, .none, none, .none, .none, nat_lit 0⟩), ⟨[]⟩⟩
noncomputable abbrev o299_8 : OB := fun _ _ => ⟨(.type s5856160107412720595x4), none, (.fields ⟨[(.str z126 (nat_lit 607)), (.str z126 (nat_lit 608)), (.str z1 (nat_lit 609)), (.int (.ofNat (nat_lit 228)) (nat_lit 0)), (.int (.ofNat (nat_lit 1)) (nat_lit 0)), (.int (.ofNat (nat_lit 0)) (nat_lit 0)), (.int (.ofNat (nat_lit 0)) (nat_lit 0)), (.int (.ofNat (nat_lit 3)) (nat_lit 0)), (.ref (nat_lit 294)), (.bool true), (.int (.ofNat (nat_lit 181)) (nat_lit 0)), (.ref (nat_lit 295)), .none, (.ref (nat_lit 296)), (.ref (nat_lit 297)), (.ref (nat_lit 298)), (.int (.ofNat (nat_lit 611)) (nat_lit 0)), (.int (.ofNat (nat_lit 228)) (nat_lit 0)), (.str z1 (nat_lit 612))]⟩), ⟨[]⟩⟩
noncomputable abbrev o300_8 : OB := fun p _ => ⟨(.type s7174869446012820540x8), none, (.func ⟨z126, z126, fA (sAt p (nat_lit 49)), (.stmts (fB (sAt p (nat_lit 49)))), fS (sAt p (nat_lit 49)) p, nat_lit 3, [], .none, .none, .none, (.str z102 (nat_lit 601)), none, (.ref (nat_lit 299)), .none, nat_lit 0⟩), ⟨[]⟩⟩
noncomputable abbrev o301_8 : OB := fun _ _ => ⟨(.type s2766695959194262286x5), none, (.seq ⟨[]⟩ (nat_lit 0)), ⟨[]⟩⟩
noncomputable abbrev o302_8 : OB := fun _ _ => ⟨.none, none, (.fields ⟨[]⟩), ⟨[]⟩⟩
noncomputable abbrev o303_8 : OB := fun p _ => ⟨.none, none, (.func ⟨z127, z127, fA (sAt p (nat_lit 50)), (.stmts (fB (sAt p (nat_lit 50)))), fS (sAt p (nat_lit 50)) p, nat_lit 0, [], .none, .none, .none, .none, none, .none, .none, nat_lit 0⟩), ⟨[]⟩⟩
noncomputable abbrev o304_8 : OB := fun _ _ => ⟨(.type s5856160107412720595x4), none, (.fields ⟨[(.str z127 (nat_lit 614)), (.str z127 (nat_lit 615)), (.str z1 (nat_lit 616)), (.int (.ofNat (nat_lit 230)) (nat_lit 0)), (.int (.ofNat (nat_lit 1)) (nat_lit 0)), (.int (.ofNat (nat_lit 0)) (nat_lit 0)), (.int (.ofNat (nat_lit 0)) (nat_lit 0)), (.int (.ofNat (nat_lit 3)) (nat_lit 0)), (.ref (nat_lit 301)), (.bool true), (.int (.ofNat (nat_lit 181)) (nat_lit 0)), (.ref (nat_lit 302)), .none, .none, .none, (.ref (nat_lit 303)), (.int (.ofNat (nat_lit 617)) (nat_lit 0)), (.int (.ofNat (nat_lit 230)) (nat_lit 0)), (.str z1 (nat_lit 618))]⟩), ⟨[]⟩⟩
noncomputable abbrev o305_8 : OB := fun p _ => ⟨(.type s7174869446012820540x8), none, (.func ⟨z127, z127, fA (sAt p (nat_lit 50)), (.stmts (fB (sAt p (nat_lit 50)))), fS (sAt p (nat_lit 50)) p, nat_lit 3, [], .none, .none, .none, (.str z102 (nat_lit 601)), none, (.ref (nat_lit 304)), .none, nat_lit 0⟩), ⟨[]⟩⟩
noncomputable abbrev tr8 (P : Params) : BT := (((((((((((((((tr7 P).ins (nat_lit 3) (o3_8 prgQ P)).ins (nat_lit 12) (o12_8 prgQ P)).ins (nat_lit 294) (o294_8 prgQ P)).ins (nat_lit 295) (o295_8 prgQ P)).ins (nat_lit 296) (o296_8 prgQ P)).ins (nat_lit 297) (o297_8 prgQ P)).ins (nat_lit 298) (o298_8 prgQ P)).ins (nat_lit 299) (o299_8 prgQ P)).ins (nat_lit 300) (o300_8 prgQ P)).ins (nat_lit 301) (o301_8 prgQ P)).ins (nat_lit 302) (o302_8 prgQ P)).ins (nat_lit 303) (o303_8 prgQ P)).ins (nat_lit 304) (o304_8 prgQ P)).ins (nat_lit 305) (o305_8 prgQ P))
noncomputable abbrev st8 (w : World) (os : OsState) : SharedT := ⟨tr8 w.params, nat_lit 306, lifeQ, ⟨[]⟩, boot_drawn, nat_lit 620, os⟩
/-! GROUP 8 49 2 55 [] [] from ⟨nat_lit 227, nat_lit 0, nat_lit 227, nat_lit 8⟩ to ⟨nat_lit 230, nat_lit 0, nat_lit 234, nat_lit 25⟩ -/
noncomputable abbrev z129 : Str := ⟨⟨[nat_lit 82, nat_lit 101, nat_lit 97, nat_lit 100, nat_lit 101, nat_lit 114]⟩⟩
noncomputable abbrev o3_9 : OB := fun p P => ⟨(.type s14018661285674007319x4), none, (.dict ⟨[⟨PyData.keyHash P z5, (.str z5 (nat_lit 165)), (.str z102 (nat_lit 601))⟩, ⟨PyData.keyHash P z7, (.str z7 (nat_lit 166)), .none⟩, ⟨PyData.keyHash P z8, (.str z8 (nat_lit 167)), .none⟩, ⟨PyData.keyHash P z9, (.str z9 (nat_lit 168)), (.builtin s7097527257260152453x26)⟩, ⟨PyData.keyHash P z10, (.str z10 (nat_lit 169)), .none⟩, ⟨PyData.keyHash P z11, (.str z11 (nat_lit 170)), (.ref (nat_lit 6))⟩, ⟨PyData.keyHash P z12, (.str z12 (nat_lit 171)), (.ref (nat_lit 4))⟩, ⟨PyData.keyHash P z13, (.str z13 (nat_lit 173)), (.str z1 (nat_lit 172))⟩, ⟨PyData.keyHash P z14, (.str z14 (nat_lit 174)), .none⟩, ⟨PyData.keyHash P z15, (.str z15 (nat_lit 193)), (.ref (nat_lit 21))⟩, ⟨PyData.keyHash P z16, (.str z16 (nat_lit 235)), (.ref (nat_lit 47))⟩, ⟨PyData.keyHash P z30, (.str z30 (nat_lit 251)), (.ref (nat_lit 60))⟩, ⟨PyData.keyHash P z32, (.str z32 (nat_lit 267)), (.ref (nat_lit 72))⟩, ⟨PyData.keyHash P z33, (.str z33 (nat_lit 271)), (.str z34 (nat_lit 270))⟩, ⟨PyData.keyHash P z35, (.str z35 (nat_lit 279)), (.ref (nat_lit 81))⟩, ⟨PyData.keyHash P z36, (.str z36 (nat_lit 288)), (.ref (nat_lit 89))⟩, ⟨PyData.keyHash P z37, (.str z37 (nat_lit 295)), (.ref (nat_lit 96))⟩, ⟨PyData.keyHash P z38, (.str z38 (nat_lit 306)), (.ref (nat_lit 103))⟩, ⟨PyData.keyHash P z39, (.str z39 (nat_lit 313)), (.ref (nat_lit 110))⟩, ⟨PyData.keyHash P z49, (.str z49 (nat_lit 320)), (.ref (nat_lit 117))⟩, ⟨PyData.keyHash P z50, (.str z50 (nat_lit 329)), (.ref (nat_lit 124))⟩, ⟨PyData.keyHash P z51, (.str z51 (nat_lit 342)), (.ref (nat_lit 131))⟩, ⟨PyData.keyHash P z52, (.str z52 (nat_lit 346)), (.int (.ofNat (nat_lit 7)) (nat_lit 345))⟩, ⟨PyData.keyHash P z61, (.str z61 (nat_lit 380)), (.ref (nat_lit 132))⟩, ⟨PyData.keyHash P z76, (.str z76 (nat_lit 389)), (.ref (nat_lit 139))⟩, ⟨PyData.keyHash P z77, (.str z77 (nat_lit 398)), (.ref (nat_lit 146))⟩, ⟨PyData.keyHash P z78, (.str z78 (nat_lit 408)), (.ref (nat_lit 153))⟩, ⟨PyData.keyHash P z79, (.str z79 (nat_lit 420)), (.ref (nat_lit 160))⟩, ⟨PyData.keyHash P z80, (.str z80 (nat_lit 428)), (.ref (nat_lit 167))⟩, ⟨PyData.keyHash P z81, (.str z81 (nat_lit 435)), (.ref (nat_lit 174))⟩, ⟨PyData.keyHash P z82, (.str z82 (nat_lit 444)), (.ref (nat_lit 181))⟩, ⟨PyData.keyHash P z83, (.str z83 (nat_lit 448)), (.int (.ofNat (nat_lit 20)) (nat_lit 447))⟩, ⟨PyData.keyHash P z84, (.str z84 (nat_lit 455)), (.ref (nat_lit 188))⟩, ⟨PyData.keyHash P z85, (.str z85 (nat_lit 464)), (.ref (nat_lit 195))⟩, ⟨PyData.keyHash P z86, (.str z86 (nat_lit 474)), (.ref (nat_lit 202))⟩, ⟨PyData.keyHash P z87, (.str z87 (nat_lit 484)), (.ref (nat_lit 209))⟩, ⟨PyData.keyHash P z88, (.str z88 (nat_lit 495)), (.ref (nat_lit 216))⟩, ⟨PyData.keyHash P z103, (.str z103 (nat_lit 504)), (.ref (nat_lit 223))⟩, ⟨PyData.keyHash P z104, (.str z104 (nat_lit 513)), (.ref (nat_lit 230))⟩, ⟨PyData.keyHash P z105, (.str z105 (nat_lit 523)), (.ref (nat_lit 237))⟩, ⟨PyData.keyHash P z106, (.str z106 (nat_lit 527)), (.str z107 (nat_lit 526))⟩, ⟨PyData.keyHash P z108, (.str z108 (nat_lit 534)), (.ref (nat_lit 244))⟩, ⟨PyData.keyHash P z109, (.str z109 (nat_lit 543)), (.ref (nat_lit 251))⟩, ⟨PyData.keyHash P z110, (.str z110 (nat_lit 552)), (.ref (nat_lit 258))⟩, ⟨PyData.keyHash P z111, (.str z111 (nat_lit 561)), (.ref (nat_lit 265))⟩, ⟨PyData.keyHash P z112, (.str z112 (nat_lit 570)), (.ref (nat_lit 272))⟩, ⟨PyData.keyHash P z113, (.str z113 (nat_lit 578)), (.ref (nat_lit 279))⟩, ⟨PyData.keyHash P z114, (.str z114 (nat_lit 588)), (.ref (nat_lit 286))⟩, ⟨PyData.keyHash P z115, (.str z115 (nat_lit 600)), (.ref (nat_lit 293))⟩, ⟨PyData.keyHash P z116, (.str z116 (nat_lit 604)), (.int (.ofNat (nat_lit 255)) (nat_lit 603))⟩, ⟨PyData.keyHash P z117, (.str z117 (nat_lit 606)), (.str (longQ p) (nat_lit 605))⟩, ⟨PyData.keyHash P z126, (.str z126 (nat_lit 613)), (.ref (nat_lit 300))⟩, ⟨PyData.keyHash P z127, (.str z127 (nat_lit 619)), (.ref (nat_lit 305))⟩, ⟨PyData.keyHash P z129, (.str z129 (nat_lit 825)), (.ref (nat_lit 474))⟩]⟩ (nat_lit 54)), ⟨[]⟩⟩
noncomputable abbrev o12_9 : OB := fun _ _ => ⟨.none, none, (.fields ⟨((.int (.ofNat (nat_lit 1)) (nat_lit 0)) :: (.int (.ofNat (nat_lit 0)) (nat_lit 0)) :: (.ref (nat_lit 20)) :: (.int (.ofNat (nat_lit 5)) (nat_lit 0)) :: (.int (.ofNat (nat_lit 0)) (nat_lit 0)) :: (.ref (nat_lit 27)) :: (.int (.ofNat (nat_lit 14)) (nat_lit 0)) :: (.int (.ofNat (nat_lit 0)) (nat_lit 0)) :: (.ref (nat_lit 56)) :: (.int (.ofNat (nat_lit 16)) (nat_lit 0)) :: (.int (.ofNat (nat_lit 0)) (nat_lit 0)) :: (.ref (nat_lit 68)) :: (.int (.ofNat (nat_lit 20)) (nat_lit 0)) :: (.int (.ofNat (nat_lit 0)) (nat_lit 0)) :: (.ref (nat_lit 80)) :: (.int (.ofNat (nat_lit 24)) (nat_lit 0)) :: (.int (.ofNat (nat_lit 0)) (nat_lit 0)) :: (.ref (nat_lit 88)) :: (.int (.ofNat (nat_lit 31)) (nat_lit 0)) :: (.int (.ofNat (nat_lit 0)) (nat_lit 0)) :: (.ref (nat_lit 95)) :: (.int (.ofNat (nat_lit 33)) (nat_lit 0)) :: (.int (.ofNat (nat_lit 0)) (nat_lit 0)) :: (.ref (nat_lit 102)) :: (.int (.ofNat (nat_lit 41)) (nat_lit 0)) :: (.int (.ofNat (nat_lit 0)) (nat_lit 0)) :: (.ref (nat_lit 109)) :: (.int (.ofNat (nat_lit 43)) (nat_lit 0)) :: (.int (.ofNat (nat_lit 0)) (nat_lit 0)) :: (.ref (nat_lit 116)) :: (.int (.ofNat (nat_lit 45)) (nat_lit 0)) :: (.int (.ofNat (nat_lit 0)) (nat_lit 0)) :: (.ref (nat_lit 123)) :: (.int (.ofNat (nat_lit 50)) (nat_lit 0)) :: (.int (.ofNat (nat_lit 0)) (nat_lit 0)) :: (.ref (nat_lit 130)) :: (.int (.ofNat (nat_lit 68)) (nat_lit 0)) :: (.int (.ofNat (nat_lit 0)) (nat_lit 0)) :: (.ref (nat_lit 138)) :: (.int (.ofNat (nat_lit 81)) (nat_lit 0)) :: (.int (.ofNat (nat_lit 0)) (nat_lit 0)) :: (.ref (nat_lit 145)) :: (.int (.ofNat (nat_lit 89)) (nat_lit 0)) :: (.int (.ofNat (nat_lit 0)) (nat_lit 0)) :: (.ref (nat_lit 152)) :: (.int (.ofNat (nat_lit 96)) (nat_lit 0)) :: (.int (.ofNat (nat_lit 0)) (nat_lit 0)) :: (.ref (nat_lit 159)) :: (.int (.ofNat (nat_lit 106)) (nat_lit 0)) :: (.int (.ofNat (nat_lit 0)) (nat_lit 0)) :: (.ref (nat_lit 166)) :: (.int (.ofNat (nat_lit 113)) (nat_lit 0)) :: (.int (.ofNat (nat_lit 0)) (nat_lit 0)) :: (.ref (nat_lit 173)) :: (.int (.ofNat (nat_lit 117)) (nat_lit 0)) :: (.int (.ofNat (nat_lit 0)) (nat_lit 0)) :: (.ref (nat_lit 180)) :: (.int (.ofNat (nat_lit 128)) (nat_lit 0)) :: (.int (.ofNat (nat_lit 0)) (nat_lit 0)) :: (.ref (nat_lit 187)) :: (.int (.ofNat (nat_lit 130)) (nat_lit 0)) :: (.int (.ofNat (nat_lit 0)) (nat_lit 0)) :: (.ref (nat_lit 194)) :: (.int (.ofNat (nat_lit 135)) (nat_lit 0)) :: (.int (.ofNat (nat_lit 0)) (nat_lit 0)) :: (.ref (nat_lit 201)) :: (.int (.ofNat (nat_lit 143)) (nat_lit 0)) :: (.int (.ofNat (nat_lit 0)) (nat_lit 0)) :: (.ref (nat_lit 208)) :: (.int (.ofNat (nat_lit 149)) (nat_lit 0)) :: (.int (.ofNat (nat_lit 0)) (nat_lit 0)) :: (.ref (nat_lit 215)) :: (.int (.ofNat (nat_lit 159)) (nat_lit 0)) :: (.int (.ofNat (nat_lit 0)) (nat_lit 0)) :: (.ref (nat_lit 222)) :: (.int (.ofNat (nat_lit 164)) (nat_lit 0)) :: (.int (.ofNat (nat_lit 0)) (nat_lit 0)) :: (.ref (nat_lit 229)) :: (.int (.ofNat (nat_lit 170)) (nat_lit 0)) :: (.int (.ofNat (nat_lit 0)) (nat_lit 0)) :: (.ref (nat_lit 236)) :: (.int (.ofNat (nat_lit 180)) (nat_lit 0)) :: (.int (.ofNat (nat_lit 0)) (nat_lit 0)) :: (.ref (nat_lit 243)) :: (.int (.ofNat (nat_lit 184)) (nat_lit 0)) :: (.int (.ofNat (nat_lit 0)) (nat_lit 0)) :: (.ref (nat_lit 250)) :: (.int (.ofNat (nat_lit 188)) (nat_lit 0)) :: (.int (.ofNat (nat_lit 0)) (nat_lit 0)) :: (.ref (nat_lit 257)) :: (.int (.ofNat (nat_lit 192)) (nat_lit 0)) :: (.int (.ofNat (nat_lit 0)) (nat_lit 0)) :: (.ref (nat_lit 264)) :: (.int (.ofNat (nat_lit 198)) (nat_lit 0)) :: (.int (.ofNat (nat_lit 0)) (nat_lit 0)) :: (.ref (nat_lit 271)) :: (.int (.ofNat (nat_lit 209)) (nat_lit 0)) :: (.int (.ofNat (nat_lit 0)) (nat_lit 0)) :: (.ref (nat_lit 278)) :: (.int (.ofNat (nat_lit 213)) (nat_lit 0)) :: (.int (.ofNat (nat_lit 0)) (nat_lit 0)) :: (.ref (nat_lit 285)) :: (.int (.ofNat (nat_lit 219)) (nat_lit 0)) :: (.int (.ofNat (nat_lit 0)) (nat_lit 0)) :: (.ref (nat_lit 292)) :: (.int (.ofNat (nat_lit 228)) (nat_lit 0)) :: (.int (.ofNat (nat_lit 0)) (nat_lit 0)) :: (.ref (nat_lit 299)) :: (.int (.ofNat (nat_lit 230)) (nat_lit 0)) :: (.int (.ofNat (nat_lit 0)) (nat_lit 0)) :: (.ref (nat_lit 304)) :: (.int (.ofNat (nat_lit 235)) (nat_lit 0)) :: (.int (.ofNat (nat_lit 0)) (nat_lit 0)) :: (.ref (nat_lit 311)) :: [])⟩), ⟨[]⟩⟩
noncomputable abbrev o306_9 : OB := fun _ _ => ⟨(.type s2766695959194262286x5), none, (.seq ⟨[]⟩ (nat_lit 0)), ⟨[]⟩⟩
noncomputable abbrev o307_9 : OB := fun _ _ => ⟨(.type s11030030927630378310x26), none, (.fields ⟨[(.builtin s10062305145149207511x16), (.type s17162191345867700912x4)]⟩), ⟨[]⟩⟩
noncomputable abbrev z130 : Str := ⟨⟨[nat_lit 112, nat_lit 101, nat_lit 101, nat_lit 107]⟩⟩
noncomputable abbrev z131 : Str := ⟨⟨[nat_lit 105, nat_lit 115, nat_lit 95, nat_lit 100, nat_lit 111, nat_lit 110, nat_lit 101]⟩⟩
noncomputable abbrev z132 : Str := ⟨⟨[nat_lit 102, nat_lit 97, nat_lit 117, nat_lit 108, nat_lit 116]⟩⟩
noncomputable abbrev z133 : Str := ⟨⟨[nat_lit 116, nat_lit 97, nat_lit 107, nat_lit 101]⟩⟩
noncomputable abbrev z134 : Str := ⟨⟨[nat_lit 105, nat_lit 115, nat_lit 95, nat_lit 107, nat_lit 105, nat_lit 110, nat_lit 100]⟩⟩
noncomputable abbrev z135 : Str := ⟨⟨[nat_lit 105, nat_lit 115, nat_lit 95, nat_lit 119, nat_lit 111, nat_lit 114, nat_lit 100]⟩⟩
noncomputable abbrev z136 : Str := ⟨⟨[nat_lit 115, nat_lit 107, nat_lit 105, nat_lit 112]⟩⟩
noncomputable abbrev z137 : Str := ⟨⟨[nat_lit 110, nat_lit 101, nat_lit 101, nat_lit 100]⟩⟩
noncomputable abbrev z138 : Str := ⟨⟨[nat_lit 111, nat_lit 110, nat_lit 101, nat_lit 95, nat_lit 111, nat_lit 102]⟩⟩
noncomputable abbrev z139 : Str := ⟨⟨[nat_lit 105, nat_lit 115, nat_lit 95, nat_lit 110, nat_lit 97, nat_lit 109, nat_lit 101]⟩⟩
noncomputable abbrev z140 : Str := ⟨⟨[nat_lit 110, nat_lit 97, nat_lit 109, nat_lit 101, nat_lit 115]⟩⟩
noncomputable abbrev z141 : Str := ⟨⟨[nat_lit 105, nat_lit 115, nat_lit 95, nat_lit 115, nat_lit 105, nat_lit 103, nat_lit 110]⟩⟩
noncomputable abbrev z142 : Str := ⟨⟨[nat_lit 115, nat_lit 107, nat_lit 105, nat_lit 112, nat_lit 95, nat_lit 115, nat_lit 105, nat_lit 103, nat_lit 110]⟩⟩
noncomputable abbrev z143 : Str := ⟨⟨[nat_lit 110, nat_lit 101, nat_lit 101, nat_lit 100, nat_lit 95, nat_lit 115, nat_lit 105, nat_lit 103, nat_lit 110]⟩⟩
noncomputable abbrev z144 : Str := ⟨⟨[nat_lit 105, nat_lit 115, nat_lit 95, nat_lit 110, nat_lit 117, nat_lit 109, nat_lit 98, nat_lit 101, nat_lit 114]⟩⟩
noncomputable abbrev z145 : Str := ⟨⟨[nat_lit 115, nat_lit 105, nat_lit 103, nat_lit 110, nat_lit 101, nat_lit 100]⟩⟩
noncomputable abbrev z146 : Str := ⟨⟨[nat_lit 119, nat_lit 104, nat_lit 111, nat_lit 108, nat_lit 101]⟩⟩
noncomputable abbrev z147 : Str := ⟨⟨[nat_lit 108, nat_lit 105, nat_lit 116, nat_lit 101, nat_lit 114, nat_lit 97, nat_lit 108]⟩⟩
noncomputable abbrev z148 : Str := ⟨⟨[nat_lit 111, nat_lit 99, nat_lit 116, nat_lit 101, nat_lit 116, nat_lit 115]⟩⟩
noncomputable abbrev o308_9 : OB := fun _ P => ⟨(.type s14018661285674007319x4), none, (.dict ⟨[⟨PyData.keyHash P z18, (.str z18 (nat_lit 627)), (.str z102 (nat_lit 601))⟩, ⟨PyData.keyHash P z19, (.str z19 (nat_lit 629)), (.str z129 (nat_lit 628))⟩, ⟨PyData.keyHash P z20, (.str z20 (nat_lit 631)), (.int (.ofNat (nat_lit 235)) (nat_lit 630))⟩, ⟨PyData.keyHash P z21, (.str z21 (nat_lit 641)), (.ref (nat_lit 320))⟩, ⟨PyData.keyHash P z130, (.str z130 (nat_lit 650)), (.ref (nat_lit 328))⟩, ⟨PyData.keyHash P z131, (.str z131 (nat_lit 657)), (.ref (nat_lit 335))⟩, ⟨PyData.keyHash P z132, (.str z132 (nat_lit 665)), (.ref (nat_lit 342))⟩, ⟨PyData.keyHash P z133, (.str z133 (nat_lit 673)), (.ref (nat_lit 349))⟩, ⟨PyData.keyHash P z134, (.str z134 (nat_lit 684)), (.ref (nat_lit 357))⟩, ⟨PyData.keyHash P z135, (.str z135 (nat_lit 694)), (.ref (nat_lit 364))⟩, ⟨PyData.keyHash P z136, (.str z136 (nat_lit 702)), (.ref (nat_lit 371))⟩, ⟨PyData.keyHash P z137, (.str z137 (nat_lit 710)), (.ref (nat_lit 378))⟩, ⟨PyData.keyHash P z138, (.str z138 (nat_lit 719)), (.ref (nat_lit 385))⟩, ⟨PyData.keyHash P z128, (.str z128 (nat_lit 726)), (.ref (nat_lit 392))⟩, ⟨PyData.keyHash P z139, (.str z139 (nat_lit 735)), (.ref (nat_lit 400))⟩, ⟨PyData.keyHash P z94, (.str z94 (nat_lit 742)), (.ref (nat_lit 407))⟩, ⟨PyData.keyHash P z140, (.str z140 (nat_lit 749)), (.ref (nat_lit 414))⟩, ⟨PyData.keyHash P z141, (.str z141 (nat_lit 759)), (.ref (nat_lit 422))⟩, ⟨PyData.keyHash P z142, (.str z142 (nat_lit 767)), (.ref (nat_lit 429))⟩, ⟨PyData.keyHash P z143, (.str z143 (nat_lit 775)), (.ref (nat_lit 436))⟩, ⟨PyData.keyHash P z144, (.str z144 (nat_lit 782)), (.ref (nat_lit 443))⟩, ⟨PyData.keyHash P z145, (.str z145 (nat_lit 791)), (.ref (nat_lit 450))⟩, ⟨PyData.keyHash P z146, (.str z146 (nat_lit 799)), (.ref (nat_lit 457))⟩, ⟨PyData.keyHash P z147, (.str z147 (nat_lit 806)), (.ref (nat_lit 464))⟩, ⟨PyData.keyHash P z148, (.str z148 (nat_lit 814)), (.ref (nat_lit 471))⟩, ⟨PyData.keyHash P z23, (.str z23 (nat_lit 818)), (.ref (nat_lit 472))⟩]⟩ (nat_lit 26)), ⟨[]⟩⟩
noncomputable abbrev o309_9 : OB := fun _ _ => ⟨(.type s2766695959194262286x5), none, (.seq ⟨[]⟩ (nat_lit 0)), ⟨[]⟩⟩
noncomputable abbrev o310_9 : OB := fun _ _ => ⟨.none, none, (.fields ⟨((.int (.ofNat (nat_lit 237)) (nat_lit 0)) :: (.int (.ofNat (nat_lit 4)) (nat_lit 0)) :: (.ref (nat_lit 319)) :: (.int (.ofNat (nat_lit 242)) (nat_lit 0)) :: (.int (.ofNat (nat_lit 4)) (nat_lit 0)) :: (.ref (nat_lit 327)) :: (.int (.ofNat (nat_lit 247)) (nat_lit 0)) :: (.int (.ofNat (nat_lit 4)) (nat_lit 0)) :: (.ref (nat_lit 334)) :: (.int (.ofNat (nat_lit 250)) (nat_lit 0)) :: (.int (.ofNat (nat_lit 4)) (nat_lit 0)) :: (.ref (nat_lit 341)) :: (.int (.ofNat (nat_lit 255)) (nat_lit 0)) :: (.int (.ofNat (nat_lit 4)) (nat_lit 0)) :: (.ref (nat_lit 348)) :: (.int (.ofNat (nat_lit 262)) (nat_lit 0)) :: (.int (.ofNat (nat_lit 4)) (nat_lit 0)) :: (.ref (nat_lit 356)) :: (.int (.ofNat (nat_lit 266)) (nat_lit 0)) :: (.int (.ofNat (nat_lit 4)) (nat_lit 0)) :: (.ref (nat_lit 363)) :: (.int (.ofNat (nat_lit 274)) (nat_lit 0)) :: (.int (.ofNat (nat_lit 4)) (nat_lit 0)) :: (.ref (nat_lit 370)) :: (.int (.ofNat (nat_lit 280)) (nat_lit 0)) :: (.int (.ofNat (nat_lit 4)) (nat_lit 0)) :: (.ref (nat_lit 377)) :: (.int (.ofNat (nat_lit 284)) (nat_lit 0)) :: (.int (.ofNat (nat_lit 4)) (nat_lit 0)) :: (.ref (nat_lit 384)) :: (.int (.ofNat (nat_lit 290)) (nat_lit 0)) :: (.int (.ofNat (nat_lit 4)) (nat_lit 0)) :: (.ref (nat_lit 391)) :: (.int (.ofNat (nat_lit 295)) (nat_lit 0)) :: (.int (.ofNat (nat_lit 4)) (nat_lit 0)) :: (.ref (nat_lit 399)) :: (.int (.ofNat (nat_lit 298)) (nat_lit 0)) :: (.int (.ofNat (nat_lit 4)) (nat_lit 0)) :: (.ref (nat_lit 406)) :: (.int (.ofNat (nat_lit 303)) (nat_lit 0)) :: (.int (.ofNat (nat_lit 4)) (nat_lit 0)) :: (.ref (nat_lit 413)) :: (.int (.ofNat (nat_lit 306)) (nat_lit 0)) :: (.int (.ofNat (nat_lit 4)) (nat_lit 0)) :: (.ref (nat_lit 421)) :: (.int (.ofNat (nat_lit 309)) (nat_lit 0)) :: (.int (.ofNat (nat_lit 4)) (nat_lit 0)) :: (.ref (nat_lit 428)) :: (.int (.ofNat (nat_lit 315)) (nat_lit 0)) :: (.int (.ofNat (nat_lit 4)) (nat_lit 0)) :: (.ref (nat_lit 435)) :: (.int (.ofNat (nat_lit 319)) (nat_lit 0)) :: (.int (.ofNat (nat_lit 4)) (nat_lit 0)) :: (.ref (nat_lit 442)) :: (.int (.ofNat (nat_lit 324)) (nat_lit 0)) :: (.int (.ofNat (nat_lit 4)) (nat_lit 0)) :: (.ref (nat_lit 449)) :: (.int (.ofNat (nat_lit 333)) (nat_lit 0)) :: (.int (.ofNat (nat_lit 4)) (nat_lit 0)) :: (.ref (nat_lit 456)) :: (.int (.ofNat (nat_lit 342)) (nat_lit 0)) :: (.int (.ofNat (nat_lit 4)) (nat_lit 0)) :: (.ref (nat_lit 463)) :: (.int (.ofNat (nat_lit 347)) (nat_lit 0)) :: (.int (.ofNat (nat_lit 4)) (nat_lit 0)) :: (.ref (nat_lit 470)) :: [])⟩), ⟨[]⟩⟩
noncomputable abbrev o311_9 : OB := fun _ _ => ⟨(.type s5856160107412720595x4), none, (.fields ⟨[(.str z129 (nat_lit 622)), (.str z129 (nat_lit 623)), (.str z1 (nat_lit 624)), (.int (.ofNat (nat_lit 235)) (nat_lit 0)), (.int (.ofNat (nat_lit 0)) (nat_lit 0)), (.int (.ofNat (nat_lit 0)) (nat_lit 0)), (.int (.ofNat (nat_lit 0)) (nat_lit 0)), (.int (.ofNat (nat_lit 0)) (nat_lit 0)), (.ref (nat_lit 309)), (.bool false), (.int (.ofNat (nat_lit 181)) (nat_lit 0)), (.ref (nat_lit 310)), .none, .none, .none, .none, (.int (.ofNat (nat_lit 625)) (nat_lit 0)), (.int (.ofNat (nat_lit 235)) (nat_lit 0)), (.str z1 (nat_lit 626))]⟩), ⟨[]⟩⟩
noncomputable abbrev o312_9 : OB := fun _ _ => ⟨(.type s658472552662922059x5), none, .plain, ⟨[(some (.ref (nat_lit 311))), (some (.ref (nat_lit 3))), (some (.ref (nat_lit 308))), none, (some (.str z102 (nat_lit 601))), none, (some (.ref (nat_lit 0)))]⟩⟩
noncomputable abbrev o313_9 : OB := fun _ _ => ⟨(.type s2766695959194262286x5), none, (.seq ⟨[(.int (.ofNat (nat_lit 0)) (nat_lit 632))]⟩ (nat_lit 0)), ⟨[]⟩⟩
noncomputable abbrev o314_9 : OB := fun _ _ => ⟨(.type s2766695959194262286x5), none, (.seq ⟨[]⟩ (nat_lit 0)), ⟨[]⟩⟩
noncomputable abbrev o315_9 : OB := fun _ _ => ⟨.none, none, (.fields ⟨[]⟩), ⟨[]⟩⟩
noncomputable abbrev z149 : Str := ⟨⟨[nat_lit 116, nat_lit 111, nat_lit 107, nat_lit 101, nat_lit 110, nat_lit 115]⟩⟩
noncomputable abbrev o316_9 : OB := fun _ _ => ⟨(.type s2766695959194262286x5), none, (.seq ⟨[(.str z24 (nat_lit 636)), (.str z149 (nat_lit 637)), (.str z26 (nat_lit 638))]⟩ (nat_lit 0)), ⟨[]⟩⟩
noncomputable abbrev o317_9 : OB := fun _ _ => ⟨(.type s2766695959194262286x5), none, (.seq ⟨[]⟩ (nat_lit 0)), ⟨[]⟩⟩
noncomputable abbrev z150 : Str := ⟨⟨[nat_lit 82, nat_lit 101, nat_lit 97, nat_lit 100, nat_lit 101, nat_lit 114, nat_lit 46, nat_lit 95, nat_lit 95, nat_lit 105, nat_lit 110, nat_lit 105, nat_lit 116, nat_lit 95, nat_lit 95]⟩⟩
noncomputable abbrev o318_9 : OB := fun p _ => ⟨.none, none, (.func ⟨z21, z150, fA (mAt p (nat_lit 51) (nat_lit 0)), (.stmts (fB (mAt p (nat_lit 51) (nat_lit 0)))), fS (mAt p (nat_lit 51) (nat_lit 0)) p, nat_lit 0, [], .none, .none, .none, .none, none, .none, .none, nat_lit 0⟩), ⟨[]⟩⟩
noncomputable abbrev o319_9 : OB := fun _ _ => ⟨(.type s5856160107412720595x4), none, (.fields ⟨[(.str z21 (nat_lit 633)), (.str z150 (nat_lit 634)), (.str z1 (nat_lit 635)), (.int (.ofNat (nat_lit 237)) (nat_lit 0)), (.int (.ofNat (nat_lit 3)) (nat_lit 0)), (.int (.ofNat (nat_lit 0)) (nat_lit 0)), (.int (.ofNat (nat_lit 0)) (nat_lit 0)), (.int (.ofNat (nat_lit 3)) (nat_lit 0)), (.ref (nat_lit 314)), (.bool true), (.int (.ofNat (nat_lit 181)) (nat_lit 0)), (.ref (nat_lit 315)), .none, (.ref (nat_lit 316)), (.ref (nat_lit 317)), (.ref (nat_lit 318)), (.int (.ofNat (nat_lit 639)) (nat_lit 0)), (.int (.ofNat (nat_lit 237)) (nat_lit 0)), (.str z1 (nat_lit 640))]⟩), ⟨[]⟩⟩
noncomputable abbrev o320_9 : OB := fun p _ => ⟨(.type s7174869446012820540x8), none, (.func ⟨z21, z150, fA (mAt p (nat_lit 51) (nat_lit 0)), (.stmts (fB (mAt p (nat_lit 51) (nat_lit 0)))), fS (mAt p (nat_lit 51) (nat_lit 0)) p, nat_lit 3, [], (.ref (nat_lit 313)), .none, .none, (.str z102 (nat_lit 601)), none, (.ref (nat_lit 319)), .none, nat_lit 0⟩), ⟨[]⟩⟩
noncomputable abbrev o321_9 : OB := fun _ _ => ⟨(.type s2766695959194262286x5), none, (.seq ⟨[(.int (.ofNat (nat_lit 0)) (nat_lit 642))]⟩ (nat_lit 0)), ⟨[]⟩⟩
noncomputable abbrev o322_9 : OB := fun _ _ => ⟨(.type s2766695959194262286x5), none, (.seq ⟨[]⟩ (nat_lit 0)), ⟨[]⟩⟩
noncomputable abbrev o323_9 : OB := fun _ _ => ⟨.none, none, (.fields ⟨[]⟩), ⟨[]⟩⟩
noncomputable abbrev o324_9 : OB := fun _ _ => ⟨(.type s2766695959194262286x5), none, (.seq ⟨[(.str z24 (nat_lit 646)), (.str z58 (nat_lit 647))]⟩ (nat_lit 0)), ⟨[]⟩⟩
noncomputable abbrev o325_9 : OB := fun _ _ => ⟨(.type s2766695959194262286x5), none, (.seq ⟨[]⟩ (nat_lit 0)), ⟨[]⟩⟩
noncomputable abbrev z151 : Str := ⟨⟨[nat_lit 82, nat_lit 101, nat_lit 97, nat_lit 100, nat_lit 101, nat_lit 114, nat_lit 46, nat_lit 112, nat_lit 101, nat_lit 101, nat_lit 107]⟩⟩
noncomputable abbrev o326_9 : OB := fun p _ => ⟨.none, none, (.func ⟨z130, z151, fA (mAt p (nat_lit 51) (nat_lit 1)), (.stmts (fB (mAt p (nat_lit 51) (nat_lit 1)))), fS (mAt p (nat_lit 51) (nat_lit 1)) p, nat_lit 0, [], .none, .none, .none, .none, none, .none, .none, nat_lit 0⟩), ⟨[]⟩⟩
noncomputable abbrev o327_9 : OB := fun _ _ => ⟨(.type s5856160107412720595x4), none, (.fields ⟨[(.str z130 (nat_lit 643)), (.str z151 (nat_lit 644)), (.str z1 (nat_lit 645)), (.int (.ofNat (nat_lit 242)) (nat_lit 0)), (.int (.ofNat (nat_lit 2)) (nat_lit 0)), (.int (.ofNat (nat_lit 0)) (nat_lit 0)), (.int (.ofNat (nat_lit 0)) (nat_lit 0)), (.int (.ofNat (nat_lit 3)) (nat_lit 0)), (.ref (nat_lit 322)), (.bool true), (.int (.ofNat (nat_lit 181)) (nat_lit 0)), (.ref (nat_lit 323)), .none, (.ref (nat_lit 324)), (.ref (nat_lit 325)), (.ref (nat_lit 326)), (.int (.ofNat (nat_lit 648)) (nat_lit 0)), (.int (.ofNat (nat_lit 242)) (nat_lit 0)), (.str z1 (nat_lit 649))]⟩), ⟨[]⟩⟩
noncomputable abbrev o328_9 : OB := fun p _ => ⟨(.type s7174869446012820540x8), none, (.func ⟨z130, z151, fA (mAt p (nat_lit 51) (nat_lit 1)), (.stmts (fB (mAt p (nat_lit 51) (nat_lit 1)))), fS (mAt p (nat_lit 51) (nat_lit 1)) p, nat_lit 3, [], (.ref (nat_lit 321)), .none, .none, (.str z102 (nat_lit 601)), none, (.ref (nat_lit 327)), .none, nat_lit 0⟩), ⟨[]⟩⟩
noncomputable abbrev o329_9 : OB := fun _ _ => ⟨(.type s2766695959194262286x5), none, (.seq ⟨[]⟩ (nat_lit 0)), ⟨[]⟩⟩
noncomputable abbrev o330_9 : OB := fun _ _ => ⟨.none, none, (.fields ⟨[]⟩), ⟨[]⟩⟩
noncomputable abbrev o331_9 : OB := fun _ _ => ⟨(.type s2766695959194262286x5), none, (.seq ⟨[(.str z24 (nat_lit 654))]⟩ (nat_lit 0)), ⟨[]⟩⟩
noncomputable abbrev o332_9 : OB := fun _ _ => ⟨(.type s2766695959194262286x5), none, (.seq ⟨[]⟩ (nat_lit 0)), ⟨[]⟩⟩
noncomputable abbrev z152 : Str := ⟨⟨[nat_lit 82, nat_lit 101, nat_lit 97, nat_lit 100, nat_lit 101, nat_lit 114, nat_lit 46, nat_lit 105, nat_lit 115, nat_lit 95, nat_lit 100, nat_lit 111, nat_lit 110, nat_lit 101]⟩⟩
noncomputable abbrev o333_9 : OB := fun p _ => ⟨.none, none, (.func ⟨z131, z152, fA (mAt p (nat_lit 51) (nat_lit 2)), (.stmts (fB (mAt p (nat_lit 51) (nat_lit 2)))), fS (mAt p (nat_lit 51) (nat_lit 2)) p, nat_lit 0, [], .none, .none, .none, .none, none, .none, .none, nat_lit 0⟩), ⟨[]⟩⟩
noncomputable abbrev o334_9 : OB := fun _ _ => ⟨(.type s5856160107412720595x4), none, (.fields ⟨[(.str z131 (nat_lit 651)), (.str z152 (nat_lit 652)), (.str z1 (nat_lit 653)), (.int (.ofNat (nat_lit 247)) (nat_lit 0)), (.int (.ofNat (nat_lit 1)) (nat_lit 0)), (.int (.ofNat (nat_lit 0)) (nat_lit 0)), (.int (.ofNat (nat_lit 0)) (nat_lit 0)), (.int (.ofNat (nat_lit 3)) (nat_lit 0)), (.ref (nat_lit 329)), (.bool true), (.int (.ofNat (nat_lit 181)) (nat_lit 0)), (.ref (nat_lit 330)), .none, (.ref (nat_lit 331)), (.ref (nat_lit 332)), (.ref (nat_lit 333)), (.int (.ofNat (nat_lit 655)) (nat_lit 0)), (.int (.ofNat (nat_lit 247)) (nat_lit 0)), (.str z1 (nat_lit 656))]⟩), ⟨[]⟩⟩
noncomputable abbrev o335_9 : OB := fun p _ => ⟨(.type s7174869446012820540x8), none, (.func ⟨z131, z152, fA (mAt p (nat_lit 51) (nat_lit 2)), (.stmts (fB (mAt p (nat_lit 51) (nat_lit 2)))), fS (mAt p (nat_lit 51) (nat_lit 2)) p, nat_lit 3, [], .none, .none, .none, (.str z102 (nat_lit 601)), none, (.ref (nat_lit 334)), .none, nat_lit 0⟩), ⟨[]⟩⟩
noncomputable abbrev o336_9 : OB := fun _ _ => ⟨(.type s2766695959194262286x5), none, (.seq ⟨[]⟩ (nat_lit 0)), ⟨[]⟩⟩
noncomputable abbrev o337_9 : OB := fun _ _ => ⟨.none, none, (.fields ⟨[]⟩), ⟨[]⟩⟩
noncomputable abbrev o338_9 : OB := fun _ _ => ⟨(.type s2766695959194262286x5), none, (.seq ⟨[(.str z24 (nat_lit 661)), (.str z25 (nat_lit 662))]⟩ (nat_lit 0)), ⟨[]⟩⟩
noncomputable abbrev o339_9 : OB := fun _ _ => ⟨(.type s2766695959194262286x5), none, (.seq ⟨[]⟩ (nat_lit 0)), ⟨[]⟩⟩
noncomputable abbrev z153 : Str := ⟨⟨[nat_lit 82, nat_lit 101, nat_lit 97, nat_lit 100, nat_lit 101, nat_lit 114, nat_lit 46, nat_lit 102, nat_lit 97, nat_lit 117, nat_lit 108, nat_lit 116]⟩⟩
noncomputable abbrev o340_9 : OB := fun p _ => ⟨.none, none, (.func ⟨z132, z153, fA (mAt p (nat_lit 51) (nat_lit 3)), (.stmts (fB (mAt p (nat_lit 51) (nat_lit 3)))), fS (mAt p (nat_lit 51) (nat_lit 3)) p, nat_lit 0, [], .none, .none, .none, .none, none, .none, .none, nat_lit 0⟩), ⟨[]⟩⟩
noncomputable abbrev o341_9 : OB := fun _ _ => ⟨(.type s5856160107412720595x4), none, (.fields ⟨[(.str z132 (nat_lit 658)), (.str z153 (nat_lit 659)), (.str z1 (nat_lit 660)), (.int (.ofNat (nat_lit 250)) (nat_lit 0)), (.int (.ofNat (nat_lit 2)) (nat_lit 0)), (.int (.ofNat (nat_lit 0)) (nat_lit 0)), (.int (.ofNat (nat_lit 0)) (nat_lit 0)), (.int (.ofNat (nat_lit 3)) (nat_lit 0)), (.ref (nat_lit 336)), (.bool true), (.int (.ofNat (nat_lit 181)) (nat_lit 0)), (.ref (nat_lit 337)), .none, (.ref (nat_lit 338)), (.ref (nat_lit 339)), (.ref (nat_lit 340)), (.int (.ofNat (nat_lit 663)) (nat_lit 0)), (.int (.ofNat (nat_lit 250)) (nat_lit 0)), (.str z1 (nat_lit 664))]⟩), ⟨[]⟩⟩
noncomputable abbrev o342_9 : OB := fun p _ => ⟨(.type s7174869446012820540x8), none, (.func ⟨z132, z153, fA (mAt p (nat_lit 51) (nat_lit 3)), (.stmts (fB (mAt p (nat_lit 51) (nat_lit 3)))), fS (mAt p (nat_lit 51) (nat_lit 3)) p, nat_lit 3, [], .none, .none, .none, (.str z102 (nat_lit 601)), none, (.ref (nat_lit 341)), .none, nat_lit 0⟩), ⟨[]⟩⟩
noncomputable abbrev o343_9 : OB := fun _ _ => ⟨(.type s2766695959194262286x5), none, (.seq ⟨[]⟩ (nat_lit 0)), ⟨[]⟩⟩
noncomputable abbrev o344_9 : OB := fun _ _ => ⟨.none, none, (.fields ⟨[]⟩), ⟨[]⟩⟩
noncomputable abbrev o345_9 : OB := fun _ _ => ⟨(.type s2766695959194262286x5), none, (.seq ⟨[(.str z24 (nat_lit 669)), (.str z99 (nat_lit 670))]⟩ (nat_lit 0)), ⟨[]⟩⟩
noncomputable abbrev o346_9 : OB := fun _ _ => ⟨(.type s2766695959194262286x5), none, (.seq ⟨[]⟩ (nat_lit 0)), ⟨[]⟩⟩
noncomputable abbrev z154 : Str := ⟨⟨[nat_lit 82, nat_lit 101, nat_lit 97, nat_lit 100, nat_lit 101, nat_lit 114, nat_lit 46, nat_lit 116, nat_lit 97, nat_lit 107, nat_lit 101]⟩⟩
noncomputable abbrev o347_9 : OB := fun p _ => ⟨.none, none, (.func ⟨z133, z154, fA (mAt p (nat_lit 51) (nat_lit 4)), (.stmts (fB (mAt p (nat_lit 51) (nat_lit 4)))), fS (mAt p (nat_lit 51) (nat_lit 4)) p, nat_lit 0, [], .none, .none, .none, .none, none, .none, .none, nat_lit 0⟩), ⟨[]⟩⟩
noncomputable abbrev o348_9 : OB := fun _ _ => ⟨(.type s5856160107412720595x4), none, (.fields ⟨[(.str z133 (nat_lit 666)), (.str z154 (nat_lit 667)), (.str z1 (nat_lit 668)), (.int (.ofNat (nat_lit 255)) (nat_lit 0)), (.int (.ofNat (nat_lit 1)) (nat_lit 0)), (.int (.ofNat (nat_lit 0)) (nat_lit 0)), (.int (.ofNat (nat_lit 0)) (nat_lit 0)), (.int (.ofNat (nat_lit 3)) (nat_lit 0)), (.ref (nat_lit 343)), (.bool true), (.int (.ofNat (nat_lit 181)) (nat_lit 0)), (.ref (nat_lit 344)), .none, (.ref (nat_lit 345)), (.ref (nat_lit 346)), (.ref (nat_lit 347)), (.int (.ofNat (nat_lit 671)) (nat_lit 0)), (.int (.ofNat (nat_lit 255)) (nat_lit 0)), (.str z1 (nat_lit 672))]⟩), ⟨[]⟩⟩
noncomputable abbrev o349_9 : OB := fun p _ => ⟨(.type s7174869446012820540x8), none, (.func ⟨z133, z154, fA (mAt p (nat_lit 51) (nat_lit 4)), (.stmts (fB (mAt p (nat_lit 51) (nat_lit 4)))), fS (mAt p (nat_lit 51) (nat_lit 4)) p, nat_lit 3, [], .none, .none, .none, (.str z102 (nat_lit 601)), none, (.ref (nat_lit 348)), .none, nat_lit 0⟩), ⟨[]⟩⟩
noncomputable abbrev o350_9 : OB := fun _ _ => ⟨(.type s2766695959194262286x5), none, (.seq ⟨[(.int (.ofNat (nat_lit 0)) (nat_lit 674))]⟩ (nat_lit 0)), ⟨[]⟩⟩
noncomputable abbrev o351_9 : OB := fun _ _ => ⟨(.type s2766695959194262286x5), none, (.seq ⟨[]⟩ (nat_lit 0)), ⟨[]⟩⟩
noncomputable abbrev o352_9 : OB := fun _ _ => ⟨.none, none, (.fields ⟨[]⟩), ⟨[]⟩⟩
noncomputable abbrev o353_9 : OB := fun _ _ => ⟨(.type s2766695959194262286x5), none, (.seq ⟨[(.str z24 (nat_lit 678)), (.str z125 (nat_lit 679)), (.str z58 (nat_lit 680)), (.str z99 (nat_lit 681))]⟩ (nat_lit 0)), ⟨[]⟩⟩
noncomputable abbrev o354_9 : OB := fun _ _ => ⟨(.type s2766695959194262286x5), none, (.seq ⟨[]⟩ (nat_lit 0)), ⟨[]⟩⟩
noncomputable abbrev z155 : Str := ⟨⟨[nat_lit 82, nat_lit 101, nat_lit 97, nat_lit 100, nat_lit 101, nat_lit 114, nat_lit 46, nat_lit 105, nat_lit 115, nat_lit 95, nat_lit 107, nat_lit 105, nat_lit 110, nat_lit 100]⟩⟩
noncomputable abbrev o355_9 : OB := fun p _ => ⟨.none, none, (.func ⟨z134, z155, fA (mAt p (nat_lit 51) (nat_lit 5)), (.stmts (fB (mAt p (nat_lit 51) (nat_lit 5)))), fS (mAt p (nat_lit 51) (nat_lit 5)) p, nat_lit 0, [], .none, .none, .none, .none, none, .none, .none, nat_lit 0⟩), ⟨[]⟩⟩
noncomputable abbrev o356_9 : OB := fun _ _ => ⟨(.type s5856160107412720595x4), none, (.fields ⟨[(.str z134 (nat_lit 675)), (.str z155 (nat_lit 676)), (.str z1 (nat_lit 677)), (.int (.ofNat (nat_lit 262)) (nat_lit 0)), (.int (.ofNat (nat_lit 3)) (nat_lit 0)), (.int (.ofNat (nat_lit 0)) (nat_lit 0)), (.int (.ofNat (nat_lit 0)) (nat_lit 0)), (.int (.ofNat (nat_lit 3)) (nat_lit 0)), (.ref (nat_lit 351)), (.bool true), (.int (.ofNat (nat_lit 181)) (nat_lit 0)), (.ref (nat_lit 352)), .none, (.ref (nat_lit 353)), (.ref (nat_lit 354)), (.ref (nat_lit 355)), (.int (.ofNat (nat_lit 682)) (nat_lit 0)), (.int (.ofNat (nat_lit 262)) (nat_lit 0)), (.str z1 (nat_lit 683))]⟩), ⟨[]⟩⟩
noncomputable abbrev o357_9 : OB := fun p _ => ⟨(.type s7174869446012820540x8), none, (.func ⟨z134, z155, fA (mAt p (nat_lit 51) (nat_lit 5)), (.stmts (fB (mAt p (nat_lit 51) (nat_lit 5)))), fS (mAt p (nat_lit 51) (nat_lit 5)) p, nat_lit 3, [], (.ref (nat_lit 350)), .none, .none, (.str z102 (nat_lit 601)), none, (.ref (nat_lit 356)), .none, nat_lit 0⟩), ⟨[]⟩⟩
noncomputable abbrev o358_9 : OB := fun _ _ => ⟨(.type s2766695959194262286x5), none, (.seq ⟨[]⟩ (nat_lit 0)), ⟨[]⟩⟩
noncomputable abbrev o359_9 : OB := fun _ _ => ⟨.none, none, (.fields ⟨[]⟩), ⟨[]⟩⟩
noncomputable abbrev z156 : Str := ⟨⟨[nat_lit 119, nat_lit 111, nat_lit 114, nat_lit 100, nat_lit 115]⟩⟩
noncomputable abbrev o360_9 : OB := fun _ _ => ⟨(.type s2766695959194262286x5), none, (.seq ⟨[(.str z24 (nat_lit 688)), (.str z156 (nat_lit 689)), (.str z58 (nat_lit 690)), (.str z128 (nat_lit 691))]⟩ (nat_lit 0)), ⟨[]⟩⟩
noncomputable abbrev o361_9 : OB := fun _ _ => ⟨(.type s2766695959194262286x5), none, (.seq ⟨[]⟩ (nat_lit 0)), ⟨[]⟩⟩
noncomputable abbrev z157 : Str := ⟨⟨[nat_lit 82, nat_lit 101, nat_lit 97, nat_lit 100, nat_lit 101, nat_lit 114, nat_lit 46, nat_lit 105, nat_lit 115, nat_lit 95, nat_lit 119, nat_lit 111, nat_lit 114, nat_lit 100]⟩⟩
noncomputable abbrev o362_9 : OB := fun p _ => ⟨.none, none, (.func ⟨z135, z157, fA (mAt p (nat_lit 51) (nat_lit 6)), (.stmts (fB (mAt p (nat_lit 51) (nat_lit 6)))), fS (mAt p (nat_lit 51) (nat_lit 6)) p, nat_lit 0, [], .none, .none, .none, .none, none, .none, .none, nat_lit 0⟩), ⟨[]⟩⟩
noncomputable abbrev o363_9 : OB := fun _ _ => ⟨(.type s5856160107412720595x4), none, (.fields ⟨[(.str z135 (nat_lit 685)), (.str z157 (nat_lit 686)), (.str z1 (nat_lit 687)), (.int (.ofNat (nat_lit 266)) (nat_lit 0)), (.int (.ofNat (nat_lit 2)) (nat_lit 0)), (.int (.ofNat (nat_lit 0)) (nat_lit 0)), (.int (.ofNat (nat_lit 0)) (nat_lit 0)), (.int (.ofNat (nat_lit 3)) (nat_lit 0)), (.ref (nat_lit 358)), (.bool true), (.int (.ofNat (nat_lit 181)) (nat_lit 0)), (.ref (nat_lit 359)), .none, (.ref (nat_lit 360)), (.ref (nat_lit 361)), (.ref (nat_lit 362)), (.int (.ofNat (nat_lit 692)) (nat_lit 0)), (.int (.ofNat (nat_lit 266)) (nat_lit 0)), (.str z1 (nat_lit 693))]⟩), ⟨[]⟩⟩
noncomputable abbrev o364_9 : OB := fun p _ => ⟨(.type s7174869446012820540x8), none, (.func ⟨z135, z157, fA (mAt p (nat_lit 51) (nat_lit 6)), (.stmts (fB (mAt p (nat_lit 51) (nat_lit 6)))), fS (mAt p (nat_lit 51) (nat_lit 6)) p, nat_lit 3, [], .none, .none, .none, (.str z102 (nat_lit 601)), none, (.ref (nat_lit 363)), .none, nat_lit 0⟩), ⟨[]⟩⟩
noncomputable abbrev o365_9 : OB := fun _ _ => ⟨(.type s2766695959194262286x5), none, (.seq ⟨[]⟩ (nat_lit 0)), ⟨[]⟩⟩
noncomputable abbrev o366_9 : OB := fun _ _ => ⟨.none, none, (.fields ⟨[]⟩), ⟨[]⟩⟩
noncomputable abbrev o367_9 : OB := fun _ _ => ⟨(.type s2766695959194262286x5), none, (.seq ⟨[(.str z24 (nat_lit 698)), (.str z156 (nat_lit 699))]⟩ (nat_lit 0)), ⟨[]⟩⟩
noncomputable abbrev o368_9 : OB := fun _ _ => ⟨(.type s2766695959194262286x5), none, (.seq ⟨[]⟩ (nat_lit 0)), ⟨[]⟩⟩
noncomputable abbrev z158 : Str := ⟨⟨[nat_lit 82, nat_lit 101, nat_lit 97, nat_lit 100, nat_lit 101, nat_lit 114, nat_lit 46, nat_lit 115, nat_lit 107, nat_lit 105, nat_lit 112]⟩⟩
noncomputable abbrev o369_9 : OB := fun p _ => ⟨.none, none, (.func ⟨z136, z158, fA (mAt p (nat_lit 51) (nat_lit 7)), (.stmts (fB (mAt p (nat_lit 51) (nat_lit 7)))), fS (mAt p (nat_lit 51) (nat_lit 7)) p, nat_lit 0, [], .none, .none, .none, .none, none, .none, .none, nat_lit 0⟩), ⟨[]⟩⟩
noncomputable abbrev o370_9 : OB := fun _ _ => ⟨(.type s5856160107412720595x4), none, (.fields ⟨[(.str z136 (nat_lit 695)), (.str z158 (nat_lit 696)), (.str z1 (nat_lit 697)), (.int (.ofNat (nat_lit 274)) (nat_lit 0)), (.int (.ofNat (nat_lit 2)) (nat_lit 0)), (.int (.ofNat (nat_lit 0)) (nat_lit 0)), (.int (.ofNat (nat_lit 0)) (nat_lit 0)), (.int (.ofNat (nat_lit 3)) (nat_lit 0)), (.ref (nat_lit 365)), (.bool true), (.int (.ofNat (nat_lit 181)) (nat_lit 0)), (.ref (nat_lit 366)), .none, (.ref (nat_lit 367)), (.ref (nat_lit 368)), (.ref (nat_lit 369)), (.int (.ofNat (nat_lit 700)) (nat_lit 0)), (.int (.ofNat (nat_lit 274)) (nat_lit 0)), (.str z1 (nat_lit 701))]⟩), ⟨[]⟩⟩
noncomputable abbrev o371_9 : OB := fun p _ => ⟨(.type s7174869446012820540x8), none, (.func ⟨z136, z158, fA (mAt p (nat_lit 51) (nat_lit 7)), (.stmts (fB (mAt p (nat_lit 51) (nat_lit 7)))), fS (mAt p (nat_lit 51) (nat_lit 7)) p, nat_lit 3, [], .none, .none, .none, (.str z102 (nat_lit 601)), none, (.ref (nat_lit 370)), .none, nat_lit 0⟩), ⟨[]⟩⟩
noncomputable abbrev o372_9 : OB := fun _ _ => ⟨(.type s2766695959194262286x5), none, (.seq ⟨[]⟩ (nat_lit 0)), ⟨[]⟩⟩
noncomputable abbrev o373_9 : OB := fun _ _ => ⟨.none, none, (.fields ⟨[]⟩), ⟨[]⟩⟩
noncomputable abbrev o374_9 : OB := fun _ _ => ⟨(.type s2766695959194262286x5), none, (.seq ⟨[(.str z24 (nat_lit 706)), (.str z156 (nat_lit 707))]⟩ (nat_lit 0)), ⟨[]⟩⟩
noncomputable abbrev o375_9 : OB := fun _ _ => ⟨(.type s2766695959194262286x5), none, (.seq ⟨[]⟩ (nat_lit 0)), ⟨[]⟩⟩
noncomputable abbrev z159 : Str := ⟨⟨[nat_lit 82, nat_lit 101, nat_lit 97, nat_lit 100, nat_lit 101, nat_lit 114, nat_lit 46, nat_lit 110, nat_lit 101, nat_lit 101, nat_lit 100]⟩⟩
noncomputable abbrev o376_9 : OB := fun p _ => ⟨.none, none, (.func ⟨z137, z159, fA (mAt p (nat_lit 51) (nat_lit 8)), (.stmts (fB (mAt p (nat_lit 51) (nat_lit 8)))), fS (mAt p (nat_lit 51) (nat_lit 8)) p, nat_lit 0, [], .none, .none, .none, .none, none, .none, .none, nat_lit 0⟩), ⟨[]⟩⟩
noncomputable abbrev o377_9 : OB := fun _ _ => ⟨(.type s5856160107412720595x4), none, (.fields ⟨[(.str z137 (nat_lit 703)), (.str z159 (nat_lit 704)), (.str z1 (nat_lit 705)), (.int (.ofNat (nat_lit 280)) (nat_lit 0)), (.int (.ofNat (nat_lit 2)) (nat_lit 0)), (.int (.ofNat (nat_lit 0)) (nat_lit 0)), (.int (.ofNat (nat_lit 0)) (nat_lit 0)), (.int (.ofNat (nat_lit 3)) (nat_lit 0)), (.ref (nat_lit 372)), (.bool true), (.int (.ofNat (nat_lit 181)) (nat_lit 0)), (.ref (nat_lit 373)), .none, (.ref (nat_lit 374)), (.ref (nat_lit 375)), (.ref (nat_lit 376)), (.int (.ofNat (nat_lit 708)) (nat_lit 0)), (.int (.ofNat (nat_lit 280)) (nat_lit 0)), (.str z1 (nat_lit 709))]⟩), ⟨[]⟩⟩
noncomputable abbrev o378_9 : OB := fun p _ => ⟨(.type s7174869446012820540x8), none, (.func ⟨z137, z159, fA (mAt p (nat_lit 51) (nat_lit 8)), (.stmts (fB (mAt p (nat_lit 51) (nat_lit 8)))), fS (mAt p (nat_lit 51) (nat_lit 8)) p, nat_lit 3, [], .none, .none, .none, (.str z102 (nat_lit 601)), none, (.ref (nat_lit 377)), .none, nat_lit 0⟩), ⟨[]⟩⟩
noncomputable abbrev o379_9 : OB := fun _ _ => ⟨(.type s2766695959194262286x5), none, (.seq ⟨[]⟩ (nat_lit 0)), ⟨[]⟩⟩
noncomputable abbrev o380_9 : OB := fun _ _ => ⟨.none, none, (.fields ⟨[]⟩), ⟨[]⟩⟩
noncomputable abbrev o381_9 : OB := fun _ _ => ⟨(.type s2766695959194262286x5), none, (.seq ⟨[(.str z24 (nat_lit 714)), (.str z156 (nat_lit 715)), (.str z128 (nat_lit 716))]⟩ (nat_lit 0)), ⟨[]⟩⟩
noncomputable abbrev o382_9 : OB := fun _ _ => ⟨(.type s2766695959194262286x5), none, (.seq ⟨[]⟩ (nat_lit 0)), ⟨[]⟩⟩
noncomputable abbrev z160 : Str := ⟨⟨[nat_lit 82, nat_lit 101, nat_lit 97, nat_lit 100, nat_lit 101, nat_lit 114, nat_lit 46, nat_lit 111, nat_lit 110, nat_lit 101, nat_lit 95, nat_lit 111, nat_lit 102]⟩⟩
noncomputable abbrev o383_9 : OB := fun p _ => ⟨.none, none, (.func ⟨z138, z160, fA (mAt p (nat_lit 51) (nat_lit 9)), (.stmts (fB (mAt p (nat_lit 51) (nat_lit 9)))), fS (mAt p (nat_lit 51) (nat_lit 9)) p, nat_lit 0, [], .none, .none, .none, .none, none, .none, .none, nat_lit 0⟩), ⟨[]⟩⟩
noncomputable abbrev o384_9 : OB := fun _ _ => ⟨(.type s5856160107412720595x4), none, (.fields ⟨[(.str z138 (nat_lit 711)), (.str z160 (nat_lit 712)), (.str z1 (nat_lit 713)), (.int (.ofNat (nat_lit 284)) (nat_lit 0)), (.int (.ofNat (nat_lit 2)) (nat_lit 0)), (.int (.ofNat (nat_lit 0)) (nat_lit 0)), (.int (.ofNat (nat_lit 0)) (nat_lit 0)), (.int (.ofNat (nat_lit 3)) (nat_lit 0)), (.ref (nat_lit 379)), (.bool true), (.int (.ofNat (nat_lit 181)) (nat_lit 0)), (.ref (nat_lit 380)), .none, (.ref (nat_lit 381)), (.ref (nat_lit 382)), (.ref (nat_lit 383)), (.int (.ofNat (nat_lit 717)) (nat_lit 0)), (.int (.ofNat (nat_lit 284)) (nat_lit 0)), (.str z1 (nat_lit 718))]⟩), ⟨[]⟩⟩
noncomputable abbrev o385_9 : OB := fun p _ => ⟨(.type s7174869446012820540x8), none, (.func ⟨z138, z160, fA (mAt p (nat_lit 51) (nat_lit 9)), (.stmts (fB (mAt p (nat_lit 51) (nat_lit 9)))), fS (mAt p (nat_lit 51) (nat_lit 9)) p, nat_lit 3, [], .none, .none, .none, (.str z102 (nat_lit 601)), none, (.ref (nat_lit 384)), .none, nat_lit 0⟩), ⟨[]⟩⟩
noncomputable abbrev o386_9 : OB := fun _ _ => ⟨(.type s2766695959194262286x5), none, (.seq ⟨[]⟩ (nat_lit 0)), ⟨[]⟩⟩
noncomputable abbrev o387_9 : OB := fun _ _ => ⟨.none, none, (.fields ⟨[]⟩), ⟨[]⟩⟩
noncomputable abbrev o388_9 : OB := fun _ _ => ⟨(.type s2766695959194262286x5), none, (.seq ⟨[(.str z24 (nat_lit 723))]⟩ (nat_lit 0)), ⟨[]⟩⟩
noncomputable abbrev o389_9 : OB := fun _ _ => ⟨(.type s2766695959194262286x5), none, (.seq ⟨[]⟩ (nat_lit 0)), ⟨[]⟩⟩
noncomputable abbrev z161 : Str := ⟨⟨[nat_lit 82, nat_lit 101, nat_lit 97, nat_lit 100, nat_lit 101, nat_lit 114, nat_lit 46, nat_lit 119, nat_lit 111, nat_lit 114, nat_lit 100]⟩⟩
noncomputable abbrev o390_9 : OB := fun p _ => ⟨.none, none, (.func ⟨z128, z161, fA (mAt p (nat_lit 51) (nat_lit 10)), (.stmts (fB (mAt p (nat_lit 51) (nat_lit 10)))), fS (mAt p (nat_lit 51) (nat_lit 10)) p, nat_lit 0, [], .none, .none, .none, .none, none, .none, .none, nat_lit 0⟩), ⟨[]⟩⟩
noncomputable abbrev o391_9 : OB := fun _ _ => ⟨(.type s5856160107412720595x4), none, (.fields ⟨[(.str z128 (nat_lit 720)), (.str z161 (nat_lit 721)), (.str z1 (nat_lit 722)), (.int (.ofNat (nat_lit 290)) (nat_lit 0)), (.int (.ofNat (nat_lit 1)) (nat_lit 0)), (.int (.ofNat (nat_lit 0)) (nat_lit 0)), (.int (.ofNat (nat_lit 0)) (nat_lit 0)), (.int (.ofNat (nat_lit 3)) (nat_lit 0)), (.ref (nat_lit 386)), (.bool true), (.int (.ofNat (nat_lit 181)) (nat_lit 0)), (.ref (nat_lit 387)), .none, (.ref (nat_lit 388)), (.ref (nat_lit 389)), (.ref (nat_lit 390)), (.int (.ofNat (nat_lit 724)) (nat_lit 0)), (.int (.ofNat (nat_lit 290)) (nat_lit 0)), (.str z1 (nat_lit 725))]⟩), ⟨[]⟩⟩
noncomputable abbrev o392_9 : OB := fun p _ => ⟨(.type s7174869446012820540x8), none, (.func ⟨z128, z161, fA (mAt p (nat_lit 51) (nat_lit 10)), (.stmts (fB (mAt p (nat_lit 51) (nat_lit 10)))), fS (mAt p (nat_lit 51) (nat_lit 10)) p, nat_lit 3, [], .none, .none, .none, (.str z102 (nat_lit 601)), none, (.ref (nat_lit 391)), .none, nat_lit 0⟩), ⟨[]⟩⟩
noncomputable abbrev o393_9 : OB := fun _ _ => ⟨(.type s2766695959194262286x5), none, (.seq ⟨[(.int (.ofNat (nat_lit 0)) (nat_lit 727))]⟩ (nat_lit 0)), ⟨[]⟩⟩
noncomputable abbrev o394_9 : OB := fun _ _ => ⟨(.type s2766695959194262286x5), none, (.seq ⟨[]⟩ (nat_lit 0)), ⟨[]⟩⟩
noncomputable abbrev o395_9 : OB := fun _ _ => ⟨.none, none, (.fields ⟨[]⟩), ⟨[]⟩⟩
noncomputable abbrev o396_9 : OB := fun _ _ => ⟨(.type s2766695959194262286x5), none, (.seq ⟨[(.str z24 (nat_lit 731)), (.str z58 (nat_lit 732))]⟩ (nat_lit 0)), ⟨[]⟩⟩
noncomputable abbrev o397_9 : OB := fun _ _ => ⟨(.type s2766695959194262286x5), none, (.seq ⟨[]⟩ (nat_lit 0)), ⟨[]⟩⟩
noncomputable abbrev z162 : Str := ⟨⟨[nat_lit 82, nat_lit 101, nat_lit 97, nat_lit 100, nat_lit 101, nat_lit 114, nat_lit 46, nat_lit 105, nat_lit 115, nat_lit 95, nat_lit 110, nat_lit 97, nat_lit 109, nat_lit 101]⟩⟩
noncomputable abbrev o398_9 : OB := fun p _ => ⟨.none, none, (.func ⟨z139, z162, fA (mAt p (nat_lit 51) (nat_lit 11)), (.stmts (fB (mAt p (nat_lit 51) (nat_lit 11)))), fS (mAt p (nat_lit 51) (nat_lit 11)) p, nat_lit 0, [], .none, .none, .none, .none, none, .none, .none, nat_lit 0⟩), ⟨[]⟩⟩
noncomputable abbrev o399_9 : OB := fun _ _ => ⟨(.type s5856160107412720595x4), none, (.fields ⟨[(.str z139 (nat_lit 728)), (.str z162 (nat_lit 729)), (.str z1 (nat_lit 730)), (.int (.ofNat (nat_lit 295)) (nat_lit 0)), (.int (.ofNat (nat_lit 2)) (nat_lit 0)), (.int (.ofNat (nat_lit 0)) (nat_lit 0)), (.int (.ofNat (nat_lit 0)) (nat_lit 0)), (.int (.ofNat (nat_lit 3)) (nat_lit 0)), (.ref (nat_lit 394)), (.bool true), (.int (.ofNat (nat_lit 181)) (nat_lit 0)), (.ref (nat_lit 395)), .none, (.ref (nat_lit 396)), (.ref (nat_lit 397)), (.ref (nat_lit 398)), (.int (.ofNat (nat_lit 733)) (nat_lit 0)), (.int (.ofNat (nat_lit 295)) (nat_lit 0)), (.str z1 (nat_lit 734))]⟩), ⟨[]⟩⟩
noncomputable abbrev o400_9 : OB := fun p _ => ⟨(.type s7174869446012820540x8), none, (.func ⟨z139, z162, fA (mAt p (nat_lit 51) (nat_lit 11)), (.stmts (fB (mAt p (nat_lit 51) (nat_lit 11)))), fS (mAt p (nat_lit 51) (nat_lit 11)) p, nat_lit 3, [], (.ref (nat_lit 393)), .none, .none, (.str z102 (nat_lit 601)), none, (.ref (nat_lit 399)), .none, nat_lit 0⟩), ⟨[]⟩⟩
noncomputable abbrev o401_9 : OB := fun _ _ => ⟨(.type s2766695959194262286x5), none, (.seq ⟨[]⟩ (nat_lit 0)), ⟨[]⟩⟩
noncomputable abbrev o402_9 : OB := fun _ _ => ⟨.none, none, (.fields ⟨[]⟩), ⟨[]⟩⟩
noncomputable abbrev o403_9 : OB := fun _ _ => ⟨(.type s2766695959194262286x5), none, (.seq ⟨[(.str z24 (nat_lit 739))]⟩ (nat_lit 0)), ⟨[]⟩⟩
noncomputable abbrev o404_9 : OB := fun _ _ => ⟨(.type s2766695959194262286x5), none, (.seq ⟨[]⟩ (nat_lit 0)), ⟨[]⟩⟩
noncomputable abbrev z163 : Str := ⟨⟨[nat_lit 82, nat_lit 101, nat_lit 97, nat_lit 100, nat_lit 101, nat_lit 114, nat_lit 46, nat_lit 110, nat_lit 97, nat_lit 109, nat_lit 101]⟩⟩
noncomputable abbrev o405_9 : OB := fun p _ => ⟨.none, none, (.func ⟨z94, z163, fA (mAt p (nat_lit 51) (nat_lit 12)), (.stmts (fB (mAt p (nat_lit 51) (nat_lit 12)))), fS (mAt p (nat_lit 51) (nat_lit 12)) p, nat_lit 0, [], .none, .none, .none, .none, none, .none, .none, nat_lit 0⟩), ⟨[]⟩⟩
noncomputable abbrev o406_9 : OB := fun _ _ => ⟨(.type s5856160107412720595x4), none, (.fields ⟨[(.str z94 (nat_lit 736)), (.str z163 (nat_lit 737)), (.str z1 (nat_lit 738)), (.int (.ofNat (nat_lit 298)) (nat_lit 0)), (.int (.ofNat (nat_lit 1)) (nat_lit 0)), (.int (.ofNat (nat_lit 0)) (nat_lit 0)), (.int (.ofNat (nat_lit 0)) (nat_lit 0)), (.int (.ofNat (nat_lit 3)) (nat_lit 0)), (.ref (nat_lit 401)), (.bool true), (.int (.ofNat (nat_lit 181)) (nat_lit 0)), (.ref (nat_lit 402)), .none, (.ref (nat_lit 403)), (.ref (nat_lit 404)), (.ref (nat_lit 405)), (.int (.ofNat (nat_lit 740)) (nat_lit 0)), (.int (.ofNat (nat_lit 298)) (nat_lit 0)), (.str z1 (nat_lit 741))]⟩), ⟨[]⟩⟩
noncomputable abbrev o407_9 : OB := fun p _ => ⟨(.type s7174869446012820540x8), none, (.func ⟨z94, z163, fA (mAt p (nat_lit 51) (nat_lit 12)), (.stmts (fB (mAt p (nat_lit 51) (nat_lit 12)))), fS (mAt p (nat_lit 51) (nat_lit 12)) p, nat_lit 3, [], .none, .none, .none, (.str z102 (nat_lit 601)), none, (.ref (nat_lit 406)), .none, nat_lit 0⟩), ⟨[]⟩⟩
noncomputable abbrev o408_9 : OB := fun _ _ => ⟨(.type s2766695959194262286x5), none, (.seq ⟨[]⟩ (nat_lit 0)), ⟨[]⟩⟩
noncomputable abbrev o409_9 : OB := fun _ _ => ⟨.none, none, (.fields ⟨[]⟩), ⟨[]⟩⟩
noncomputable abbrev o410_9 : OB := fun _ _ => ⟨(.type s2766695959194262286x5), none, (.seq ⟨[(.str z24 (nat_lit 746))]⟩ (nat_lit 0)), ⟨[]⟩⟩
noncomputable abbrev o411_9 : OB := fun _ _ => ⟨(.type s2766695959194262286x5), none, (.seq ⟨[]⟩ (nat_lit 0)), ⟨[]⟩⟩
noncomputable abbrev z164 : Str := ⟨⟨[nat_lit 82, nat_lit 101, nat_lit 97, nat_lit 100, nat_lit 101, nat_lit 114, nat_lit 46, nat_lit 110, nat_lit 97, nat_lit 109, nat_lit 101, nat_lit 115]⟩⟩
noncomputable abbrev o412_9 : OB := fun p _ => ⟨.none, none, (.func ⟨z140, z164, fA (mAt p (nat_lit 51) (nat_lit 13)), (.stmts (fB (mAt p (nat_lit 51) (nat_lit 13)))), fS (mAt p (nat_lit 51) (nat_lit 13)) p, nat_lit 0, [], .none, .none, .none, .none, none, .none, .none, nat_lit 0⟩), ⟨[]⟩⟩
noncomputable abbrev o413_9 : OB := fun _ _ => ⟨(.type s5856160107412720595x4), none, (.fields ⟨[(.str z140 (nat_lit 743)), (.str z164 (nat_lit 744)), (.str z1 (nat_lit 745)), (.int (.ofNat (nat_lit 303)) (nat_lit 0)), (.int (.ofNat (nat_lit 1)) (nat_lit 0)), (.int (.ofNat (nat_lit 0)) (nat_lit 0)), (.int (.ofNat (nat_lit 0)) (nat_lit 0)), (.int (.ofNat (nat_lit 3)) (nat_lit 0)), (.ref (nat_lit 408)), (.bool true), (.int (.ofNat (nat_lit 181)) (nat_lit 0)), (.ref (nat_lit 409)), .none, (.ref (nat_lit 410)), (.ref (nat_lit 411)), (.ref (nat_lit 412)), (.int (.ofNat (nat_lit 747)) (nat_lit 0)), (.int (.ofNat (nat_lit 303)) (nat_lit 0)), (.str z1 (nat_lit 748))]⟩), ⟨[]⟩⟩
noncomputable abbrev o414_9 : OB := fun p _ => ⟨(.type s7174869446012820540x8), none, (.func ⟨z140, z164, fA (mAt p (nat_lit 51) (nat_lit 13)), (.stmts (fB (mAt p (nat_lit 51) (nat_lit 13)))), fS (mAt p (nat_lit 51) (nat_lit 13)) p, nat_lit 3, [], .none, .none, .none, (.str z102 (nat_lit 601)), none, (.ref (nat_lit 413)), .none, nat_lit 0⟩), ⟨[]⟩⟩
noncomputable abbrev o415_9 : OB := fun _ _ => ⟨(.type s2766695959194262286x5), none, (.seq ⟨[(.int (.ofNat (nat_lit 0)) (nat_lit 750))]⟩ (nat_lit 0)), ⟨[]⟩⟩
noncomputable abbrev o416_9 : OB := fun _ _ => ⟨(.type s2766695959194262286x5), none, (.seq ⟨[]⟩ (nat_lit 0)), ⟨[]⟩⟩
noncomputable abbrev o417_9 : OB := fun _ _ => ⟨.none, none, (.fields ⟨[]⟩), ⟨[]⟩⟩
noncomputable abbrev o418_9 : OB := fun _ _ => ⟨(.type s2766695959194262286x5), none, (.seq ⟨[(.str z24 (nat_lit 754)), (.str z100 (nat_lit 755)), (.str z58 (nat_lit 756))]⟩ (nat_lit 0)), ⟨[]⟩⟩
noncomputable abbrev o419_9 : OB := fun _ _ => ⟨(.type s2766695959194262286x5), none, (.seq ⟨[]⟩ (nat_lit 0)), ⟨[]⟩⟩
noncomputable abbrev z165 : Str := ⟨⟨[nat_lit 82, nat_lit 101, nat_lit 97, nat_lit 100, nat_lit 101, nat_lit 114, nat_lit 46, nat_lit 105, nat_lit 115, nat_lit 95, nat_lit 115, nat_lit 105, nat_lit 103, nat_lit 110]⟩⟩
noncomputable abbrev o420_9 : OB := fun p _ => ⟨.none, none, (.func ⟨z141, z165, fA (mAt p (nat_lit 51) (nat_lit 14)), (.stmts (fB (mAt p (nat_lit 51) (nat_lit 14)))), fS (mAt p (nat_lit 51) (nat_lit 14)) p, nat_lit 0, [], .none, .none, .none, .none, none, .none, .none, nat_lit 0⟩), ⟨[]⟩⟩
noncomputable abbrev o421_9 : OB := fun _ _ => ⟨(.type s5856160107412720595x4), none, (.fields ⟨[(.str z141 (nat_lit 751)), (.str z165 (nat_lit 752)), (.str z1 (nat_lit 753)), (.int (.ofNat (nat_lit 306)) (nat_lit 0)), (.int (.ofNat (nat_lit 3)) (nat_lit 0)), (.int (.ofNat (nat_lit 0)) (nat_lit 0)), (.int (.ofNat (nat_lit 0)) (nat_lit 0)), (.int (.ofNat (nat_lit 3)) (nat_lit 0)), (.ref (nat_lit 416)), (.bool true), (.int (.ofNat (nat_lit 181)) (nat_lit 0)), (.ref (nat_lit 417)), .none, (.ref (nat_lit 418)), (.ref (nat_lit 419)), (.ref (nat_lit 420)), (.int (.ofNat (nat_lit 757)) (nat_lit 0)), (.int (.ofNat (nat_lit 306)) (nat_lit 0)), (.str z1 (nat_lit 758))]⟩), ⟨[]⟩⟩
noncomputable abbrev o422_9 : OB := fun p _ => ⟨(.type s7174869446012820540x8), none, (.func ⟨z141, z165, fA (mAt p (nat_lit 51) (nat_lit 14)), (.stmts (fB (mAt p (nat_lit 51) (nat_lit 14)))), fS (mAt p (nat_lit 51) (nat_lit 14)) p, nat_lit 3, [], (.ref (nat_lit 415)), .none, .none, (.str z102 (nat_lit 601)), none, (.ref (nat_lit 421)), .none, nat_lit 0⟩), ⟨[]⟩⟩
noncomputable abbrev o423_9 : OB := fun _ _ => ⟨(.type s2766695959194262286x5), none, (.seq ⟨[]⟩ (nat_lit 0)), ⟨[]⟩⟩
noncomputable abbrev o424_9 : OB := fun _ _ => ⟨.none, none, (.fields ⟨[]⟩), ⟨[]⟩⟩
noncomputable abbrev o425_9 : OB := fun _ _ => ⟨(.type s2766695959194262286x5), none, (.seq ⟨[(.str z24 (nat_lit 763)), (.str z100 (nat_lit 764))]⟩ (nat_lit 0)), ⟨[]⟩⟩
noncomputable abbrev o426_9 : OB := fun _ _ => ⟨(.type s2766695959194262286x5), none, (.seq ⟨[]⟩ (nat_lit 0)), ⟨[]⟩⟩
noncomputable abbrev z166 : Str := ⟨⟨[nat_lit 82, nat_lit 101, nat_lit 97, nat_lit 100, nat_lit 101, nat_lit 114, nat_lit 46, nat_lit 115, nat_lit 107, nat_lit 105, nat_lit 112, nat_lit 95, nat_lit 115, nat_lit 105, nat_lit 103, nat_lit 110]⟩⟩
noncomputable abbrev o427_9 : OB := fun p _ => ⟨.none, none, (.func ⟨z142, z166, fA (mAt p (nat_lit 51) (nat_lit 15)), (.stmts (fB (mAt p (nat_lit 51) (nat_lit 15)))), fS (mAt p (nat_lit 51) (nat_lit 15)) p, nat_lit 0, [], .none, .none, .none, .none, none, .none, .none, nat_lit 0⟩), ⟨[]⟩⟩
noncomputable abbrev o428_9 : OB := fun _ _ => ⟨(.type s5856160107412720595x4), none, (.fields ⟨[(.str z142 (nat_lit 760)), (.str z166 (nat_lit 761)), (.str z1 (nat_lit 762)), (.int (.ofNat (nat_lit 309)) (nat_lit 0)), (.int (.ofNat (nat_lit 2)) (nat_lit 0)), (.int (.ofNat (nat_lit 0)) (nat_lit 0)), (.int (.ofNat (nat_lit 0)) (nat_lit 0)), (.int (.ofNat (nat_lit 3)) (nat_lit 0)), (.ref (nat_lit 423)), (.bool true), (.int (.ofNat (nat_lit 181)) (nat_lit 0)), (.ref (nat_lit 424)), .none, (.ref (nat_lit 425)), (.ref (nat_lit 426)), (.ref (nat_lit 427)), (.int (.ofNat (nat_lit 765)) (nat_lit 0)), (.int (.ofNat (nat_lit 309)) (nat_lit 0)), (.str z1 (nat_lit 766))]⟩), ⟨[]⟩⟩
noncomputable abbrev o429_9 : OB := fun p _ => ⟨(.type s7174869446012820540x8), none, (.func ⟨z142, z166, fA (mAt p (nat_lit 51) (nat_lit 15)), (.stmts (fB (mAt p (nat_lit 51) (nat_lit 15)))), fS (mAt p (nat_lit 51) (nat_lit 15)) p, nat_lit 3, [], .none, .none, .none, (.str z102 (nat_lit 601)), none, (.ref (nat_lit 428)), .none, nat_lit 0⟩), ⟨[]⟩⟩
noncomputable abbrev o430_9 : OB := fun _ _ => ⟨(.type s2766695959194262286x5), none, (.seq ⟨[]⟩ (nat_lit 0)), ⟨[]⟩⟩
noncomputable abbrev o431_9 : OB := fun _ _ => ⟨.none, none, (.fields ⟨[]⟩), ⟨[]⟩⟩
noncomputable abbrev o432_9 : OB := fun _ _ => ⟨(.type s2766695959194262286x5), none, (.seq ⟨[(.str z24 (nat_lit 771)), (.str z100 (nat_lit 772))]⟩ (nat_lit 0)), ⟨[]⟩⟩
noncomputable abbrev o433_9 : OB := fun _ _ => ⟨(.type s2766695959194262286x5), none, (.seq ⟨[]⟩ (nat_lit 0)), ⟨[]⟩⟩
noncomputable abbrev z167 : Str := ⟨⟨[nat_lit 82, nat_lit 101, nat_lit 97, nat_lit 100, nat_lit 101, nat_lit 114, nat_lit 46, nat_lit 110, nat_lit 101, nat_lit 101, nat_lit 100, nat_lit 95, nat_lit 115, nat_lit 105, nat_lit 103, nat_lit 110]⟩⟩
noncomputable abbrev o434_9 : OB := fun p _ => ⟨.none, none, (.func ⟨z143, z167, fA (mAt p (nat_lit 51) (nat_lit 16)), (.stmts (fB (mAt p (nat_lit 51) (nat_lit 16)))), fS (mAt p (nat_lit 51) (nat_lit 16)) p, nat_lit 0, [], .none, .none, .none, .none, none, .none, .none, nat_lit 0⟩), ⟨[]⟩⟩
noncomputable abbrev o435_9 : OB := fun _ _ => ⟨(.type s5856160107412720595x4), none, (.fields ⟨[(.str z143 (nat_lit 768)), (.str z167 (nat_lit 769)), (.str z1 (nat_lit 770)), (.int (.ofNat (nat_lit 315)) (nat_lit 0)), (.int (.ofNat (nat_lit 2)) (nat_lit 0)), (.int (.ofNat (nat_lit 0)) (nat_lit 0)), (.int (.ofNat (nat_lit 0)) (nat_lit 0)), (.int (.ofNat (nat_lit 3)) (nat_lit 0)), (.ref (nat_lit 430)), (.bool true), (.int (.ofNat (nat_lit 181)) (nat_lit 0)), (.ref (nat_lit 431)), .none, (.ref (nat_lit 432)), (.ref (nat_lit 433)), (.ref (nat_lit 434)), (.int (.ofNat (nat_lit 773)) (nat_lit 0)), (.int (.ofNat (nat_lit 315)) (nat_lit 0)), (.str z1 (nat_lit 774))]⟩), ⟨[]⟩⟩
noncomputable abbrev o436_9 : OB := fun p _ => ⟨(.type s7174869446012820540x8), none, (.func ⟨z143, z167, fA (mAt p (nat_lit 51) (nat_lit 16)), (.stmts (fB (mAt p (nat_lit 51) (nat_lit 16)))), fS (mAt p (nat_lit 51) (nat_lit 16)) p, nat_lit 3, [], .none, .none, .none, (.str z102 (nat_lit 601)), none, (.ref (nat_lit 435)), .none, nat_lit 0⟩), ⟨[]⟩⟩
noncomputable abbrev o437_9 : OB := fun _ _ => ⟨(.type s2766695959194262286x5), none, (.seq ⟨[]⟩ (nat_lit 0)), ⟨[]⟩⟩
noncomputable abbrev o438_9 : OB := fun _ _ => ⟨.none, none, (.fields ⟨[]⟩), ⟨[]⟩⟩
noncomputable abbrev o439_9 : OB := fun _ _ => ⟨(.type s2766695959194262286x5), none, (.seq ⟨[(.str z24 (nat_lit 779))]⟩ (nat_lit 0)), ⟨[]⟩⟩
noncomputable abbrev o440_9 : OB := fun _ _ => ⟨(.type s2766695959194262286x5), none, (.seq ⟨[]⟩ (nat_lit 0)), ⟨[]⟩⟩
noncomputable abbrev z168 : Str := ⟨⟨[nat_lit 82, nat_lit 101, nat_lit 97, nat_lit 100, nat_lit 101, nat_lit 114, nat_lit 46, nat_lit 105, nat_lit 115, nat_lit 95, nat_lit 110, nat_lit 117, nat_lit 109, nat_lit 98, nat_lit 101, nat_lit 114]⟩⟩
noncomputable abbrev o441_9 : OB := fun p _ => ⟨.none, none, (.func ⟨z144, z168, fA (mAt p (nat_lit 51) (nat_lit 17)), (.stmts (fB (mAt p (nat_lit 51) (nat_lit 17)))), fS (mAt p (nat_lit 51) (nat_lit 17)) p, nat_lit 0, [], .none, .none, .none, .none, none, .none, .none, nat_lit 0⟩), ⟨[]⟩⟩
noncomputable abbrev o442_9 : OB := fun _ _ => ⟨(.type s5856160107412720595x4), none, (.fields ⟨[(.str z144 (nat_lit 776)), (.str z168 (nat_lit 777)), (.str z1 (nat_lit 778)), (.int (.ofNat (nat_lit 319)) (nat_lit 0)), (.int (.ofNat (nat_lit 1)) (nat_lit 0)), (.int (.ofNat (nat_lit 0)) (nat_lit 0)), (.int (.ofNat (nat_lit 0)) (nat_lit 0)), (.int (.ofNat (nat_lit 3)) (nat_lit 0)), (.ref (nat_lit 437)), (.bool true), (.int (.ofNat (nat_lit 181)) (nat_lit 0)), (.ref (nat_lit 438)), .none, (.ref (nat_lit 439)), (.ref (nat_lit 440)), (.ref (nat_lit 441)), (.int (.ofNat (nat_lit 780)) (nat_lit 0)), (.int (.ofNat (nat_lit 319)) (nat_lit 0)), (.str z1 (nat_lit 781))]⟩), ⟨[]⟩⟩
noncomputable abbrev o443_9 : OB := fun p _ => ⟨(.type s7174869446012820540x8), none, (.func ⟨z144, z168, fA (mAt p (nat_lit 51) (nat_lit 17)), (.stmts (fB (mAt p (nat_lit 51) (nat_lit 17)))), fS (mAt p (nat_lit 51) (nat_lit 17)) p, nat_lit 3, [], .none, .none, .none, (.str z102 (nat_lit 601)), none, (.ref (nat_lit 442)), .none, nat_lit 0⟩), ⟨[]⟩⟩
noncomputable abbrev o444_9 : OB := fun _ _ => ⟨(.type s2766695959194262286x5), none, (.seq ⟨[]⟩ (nat_lit 0)), ⟨[]⟩⟩
noncomputable abbrev o445_9 : OB := fun _ _ => ⟨.none, none, (.fields ⟨[]⟩), ⟨[]⟩⟩
noncomputable abbrev z169 : Str := ⟨⟨[nat_lit 105, nat_lit 115, nat_lit 95, nat_lit 98, nat_lit 101, nat_lit 108, nat_lit 111, nat_lit 119]⟩⟩
noncomputable abbrev o446_9 : OB := fun _ _ => ⟨(.type s2766695959194262286x5), none, (.seq ⟨[(.str z24 (nat_lit 786)), (.str z169 (nat_lit 787)), (.str z92 (nat_lit 788))]⟩ (nat_lit 0)), ⟨[]⟩⟩
noncomputable abbrev o447_9 : OB := fun _ _ => ⟨(.type s2766695959194262286x5), none, (.seq ⟨[]⟩ (nat_lit 0)), ⟨[]⟩⟩
noncomputable abbrev z170 : Str := ⟨⟨[nat_lit 82, nat_lit 101, nat_lit 97, nat_lit 100, nat_lit 101, nat_lit 114, nat_lit 46, nat_lit 115, nat_lit 105, nat_lit 103, nat_lit 110, nat_lit 101, nat_lit 100]⟩⟩
noncomputable abbrev o448_9 : OB := fun p _ => ⟨.none, none, (.func ⟨z145, z170, fA (mAt p (nat_lit 51) (nat_lit 18)), (.stmts (fB (mAt p (nat_lit 51) (nat_lit 18)))), fS (mAt p (nat_lit 51) (nat_lit 18)) p, nat_lit 0, [], .none, .none, .none, .none, none, .none, .none, nat_lit 0⟩), ⟨[]⟩⟩
noncomputable abbrev o449_9 : OB := fun _ _ => ⟨(.type s5856160107412720595x4), none, (.fields ⟨[(.str z145 (nat_lit 783)), (.str z170 (nat_lit 784)), (.str z1 (nat_lit 785)), (.int (.ofNat (nat_lit 324)) (nat_lit 0)), (.int (.ofNat (nat_lit 1)) (nat_lit 0)), (.int (.ofNat (nat_lit 0)) (nat_lit 0)), (.int (.ofNat (nat_lit 0)) (nat_lit 0)), (.int (.ofNat (nat_lit 3)) (nat_lit 0)), (.ref (nat_lit 444)), (.bool true), (.int (.ofNat (nat_lit 181)) (nat_lit 0)), (.ref (nat_lit 445)), .none, (.ref (nat_lit 446)), (.ref (nat_lit 447)), (.ref (nat_lit 448)), (.int (.ofNat (nat_lit 789)) (nat_lit 0)), (.int (.ofNat (nat_lit 324)) (nat_lit 0)), (.str z1 (nat_lit 790))]⟩), ⟨[]⟩⟩
noncomputable abbrev o450_9 : OB := fun p _ => ⟨(.type s7174869446012820540x8), none, (.func ⟨z145, z170, fA (mAt p (nat_lit 51) (nat_lit 18)), (.stmts (fB (mAt p (nat_lit 51) (nat_lit 18)))), fS (mAt p (nat_lit 51) (nat_lit 18)) p, nat_lit 3, [], .none, .none, .none, (.str z102 (nat_lit 601)), none, (.ref (nat_lit 449)), .none, nat_lit 0⟩), ⟨[]⟩⟩
noncomputable abbrev o451_9 : OB := fun _ _ => ⟨(.type s2766695959194262286x5), none, (.seq ⟨[]⟩ (nat_lit 0)), ⟨[]⟩⟩
noncomputable abbrev o452_9 : OB := fun _ _ => ⟨.none, none, (.fields ⟨[]⟩), ⟨[]⟩⟩
noncomputable abbrev o453_9 : OB := fun _ _ => ⟨(.type s2766695959194262286x5), none, (.seq ⟨[(.str z24 (nat_lit 795)), (.str z92 (nat_lit 796))]⟩ (nat_lit 0)), ⟨[]⟩⟩
noncomputable abbrev o454_9 : OB := fun _ _ => ⟨(.type s2766695959194262286x5), none, (.seq ⟨[]⟩ (nat_lit 0)), ⟨[]⟩⟩
noncomputable abbrev z171 : Str := ⟨⟨[nat_lit 82, nat_lit 101, nat_lit 97, nat_lit 100, nat_lit 101, nat_lit 114, nat_lit 46, nat_lit 119, nat_lit 104, nat_lit 111, nat_lit 108, nat_lit 101]⟩⟩
noncomputable abbrev o455_9 : OB := fun p _ => ⟨.none, none, (.func ⟨z146, z171, fA (mAt p (nat_lit 51) (nat_lit 19)), (.stmts (fB (mAt p (nat_lit 51) (nat_lit 19)))), fS (mAt p (nat_lit 51) (nat_lit 19)) p, nat_lit 0, [], .none, .none, .none, .none, none, .none, .none, nat_lit 0⟩), ⟨[]⟩⟩
noncomputable abbrev o456_9 : OB := fun _ _ => ⟨(.type s5856160107412720595x4), none, (.fields ⟨[(.str z146 (nat_lit 792)), (.str z171 (nat_lit 793)), (.str z1 (nat_lit 794)), (.int (.ofNat (nat_lit 333)) (nat_lit 0)), (.int (.ofNat (nat_lit 1)) (nat_lit 0)), (.int (.ofNat (nat_lit 0)) (nat_lit 0)), (.int (.ofNat (nat_lit 0)) (nat_lit 0)), (.int (.ofNat (nat_lit 3)) (nat_lit 0)), (.ref (nat_lit 451)), (.bool true), (.int (.ofNat (nat_lit 181)) (nat_lit 0)), (.ref (nat_lit 452)), .none, (.ref (nat_lit 453)), (.ref (nat_lit 454)), (.ref (nat_lit 455)), (.int (.ofNat (nat_lit 797)) (nat_lit 0)), (.int (.ofNat (nat_lit 333)) (nat_lit 0)), (.str z1 (nat_lit 798))]⟩), ⟨[]⟩⟩
noncomputable abbrev o457_9 : OB := fun p _ => ⟨(.type s7174869446012820540x8), none, (.func ⟨z146, z171, fA (mAt p (nat_lit 51) (nat_lit 19)), (.stmts (fB (mAt p (nat_lit 51) (nat_lit 19)))), fS (mAt p (nat_lit 51) (nat_lit 19)) p, nat_lit 3, [], .none, .none, .none, (.str z102 (nat_lit 601)), none, (.ref (nat_lit 456)), .none, nat_lit 0⟩), ⟨[]⟩⟩
noncomputable abbrev o458_9 : OB := fun _ _ => ⟨(.type s2766695959194262286x5), none, (.seq ⟨[]⟩ (nat_lit 0)), ⟨[]⟩⟩
noncomputable abbrev o459_9 : OB := fun _ _ => ⟨.none, none, (.fields ⟨[]⟩), ⟨[]⟩⟩
noncomputable abbrev o460_9 : OB := fun _ _ => ⟨(.type s2766695959194262286x5), none, (.seq ⟨[(.str z24 (nat_lit 803))]⟩ (nat_lit 0)), ⟨[]⟩⟩
noncomputable abbrev o461_9 : OB := fun _ _ => ⟨(.type s2766695959194262286x5), none, (.seq ⟨[]⟩ (nat_lit 0)), ⟨[]⟩⟩
noncomputable abbrev z172 : Str := ⟨⟨[nat_lit 82, nat_lit 101, nat_lit 97, nat_lit 100, nat_lit 101, nat_lit 114, nat_lit 46, nat_lit 108, nat_lit 105, nat_lit 116, nat_lit 101, nat_lit 114, nat_lit 97, nat_lit 108]⟩⟩
noncomputable abbrev o462_9 : OB := fun p _ => ⟨.none, none, (.func ⟨z147, z172, fA (mAt p (nat_lit 51) (nat_lit 20)), (.stmts (fB (mAt p (nat_lit 51) (nat_lit 20)))), fS (mAt p (nat_lit 51) (nat_lit 20)) p, nat_lit 0, [], .none, .none, .none, .none, none, .none, .none, nat_lit 0⟩), ⟨[]⟩⟩
noncomputable abbrev o463_9 : OB := fun _ _ => ⟨(.type s5856160107412720595x4), none, (.fields ⟨[(.str z147 (nat_lit 800)), (.str z172 (nat_lit 801)), (.str z1 (nat_lit 802)), (.int (.ofNat (nat_lit 342)) (nat_lit 0)), (.int (.ofNat (nat_lit 1)) (nat_lit 0)), (.int (.ofNat (nat_lit 0)) (nat_lit 0)), (.int (.ofNat (nat_lit 0)) (nat_lit 0)), (.int (.ofNat (nat_lit 3)) (nat_lit 0)), (.ref (nat_lit 458)), (.bool true), (.int (.ofNat (nat_lit 181)) (nat_lit 0)), (.ref (nat_lit 459)), .none, (.ref (nat_lit 460)), (.ref (nat_lit 461)), (.ref (nat_lit 462)), (.int (.ofNat (nat_lit 804)) (nat_lit 0)), (.int (.ofNat (nat_lit 342)) (nat_lit 0)), (.str z1 (nat_lit 805))]⟩), ⟨[]⟩⟩
noncomputable abbrev o464_9 : OB := fun p _ => ⟨(.type s7174869446012820540x8), none, (.func ⟨z147, z172, fA (mAt p (nat_lit 51) (nat_lit 20)), (.stmts (fB (mAt p (nat_lit 51) (nat_lit 20)))), fS (mAt p (nat_lit 51) (nat_lit 20)) p, nat_lit 3, [], .none, .none, .none, (.str z102 (nat_lit 601)), none, (.ref (nat_lit 463)), .none, nat_lit 0⟩), ⟨[]⟩⟩
noncomputable abbrev o465_9 : OB := fun _ _ => ⟨(.type s2766695959194262286x5), none, (.seq ⟨[]⟩ (nat_lit 0)), ⟨[]⟩⟩
noncomputable abbrev o466_9 : OB := fun _ _ => ⟨.none, none, (.fields ⟨[]⟩), ⟨[]⟩⟩
noncomputable abbrev o467_9 : OB := fun _ _ => ⟨(.type s2766695959194262286x5), none, (.seq ⟨[(.str z24 (nat_lit 810)), (.str z92 (nat_lit 811))]⟩ (nat_lit 0)), ⟨[]⟩⟩
noncomputable abbrev o468_9 : OB := fun _ _ => ⟨(.type s2766695959194262286x5), none, (.seq ⟨[]⟩ (nat_lit 0)), ⟨[]⟩⟩
noncomputable abbrev z173 : Str := ⟨⟨[nat_lit 82, nat_lit 101, nat_lit 97, nat_lit 100, nat_lit 101, nat_lit 114, nat_lit 46, nat_lit 111, nat_lit 99, nat_lit 116, nat_lit 101, nat_lit 116, nat_lit 115]⟩⟩
noncomputable abbrev o469_9 : OB := fun p _ => ⟨.none, none, (.func ⟨z148, z173, fA (mAt p (nat_lit 51) (nat_lit 21)), (.stmts (fB (mAt p (nat_lit 51) (nat_lit 21)))), fS (mAt p (nat_lit 51) (nat_lit 21)) p, nat_lit 0, [], .none, .none, .none, .none, none, .none, .none, nat_lit 0⟩), ⟨[]⟩⟩
noncomputable abbrev o470_9 : OB := fun _ _ => ⟨(.type s5856160107412720595x4), none, (.fields ⟨[(.str z148 (nat_lit 807)), (.str z173 (nat_lit 808)), (.str z1 (nat_lit 809)), (.int (.ofNat (nat_lit 347)) (nat_lit 0)), (.int (.ofNat (nat_lit 1)) (nat_lit 0)), (.int (.ofNat (nat_lit 0)) (nat_lit 0)), (.int (.ofNat (nat_lit 0)) (nat_lit 0)), (.int (.ofNat (nat_lit 3)) (nat_lit 0)), (.ref (nat_lit 465)), (.bool true), (.int (.ofNat (nat_lit 181)) (nat_lit 0)), (.ref (nat_lit 466)), .none, (.ref (nat_lit 467)), (.ref (nat_lit 468)), (.ref (nat_lit 469)), (.int (.ofNat (nat_lit 812)) (nat_lit 0)), (.int (.ofNat (nat_lit 347)) (nat_lit 0)), (.str z1 (nat_lit 813))]⟩), ⟨[]⟩⟩
noncomputable abbrev o471_9 : OB := fun p _ => ⟨(.type s7174869446012820540x8), none, (.func ⟨z148, z173, fA (mAt p (nat_lit 51) (nat_lit 21)), (.stmts (fB (mAt p (nat_lit 51) (nat_lit 21)))), fS (mAt p (nat_lit 51) (nat_lit 21)) p, nat_lit 3, [], .none, .none, .none, (.str z102 (nat_lit 601)), none, (.ref (nat_lit 470)), .none, nat_lit 0⟩), ⟨[]⟩⟩
noncomputable abbrev z174 : Str := ⟨⟨[nat_lit 110, nat_lit 97, nat_lit 109, nat_lit 101, nat_lit 100]⟩⟩
noncomputable abbrev o472_9 : OB := fun _ _ => ⟨(.type s2766695959194262286x5), none, (.seq ⟨[(.str z26 (nat_lit 815)), (.str z174 (nat_lit 816)), (.str z149 (nat_lit 817))]⟩ (nat_lit 0)), ⟨[]⟩⟩
noncomputable abbrev z175 : Str := ⟨⟨[nat_lit 95, nat_lit 95, nat_lit 100, nat_lit 105, nat_lit 99, nat_lit 116, nat_lit 95, nat_lit 95]⟩⟩
noncomputable abbrev o473_9 : OB := fun _ P => ⟨(.type s14018661285674007319x4), none, (.dict ⟨[⟨PyData.keyHash P z18, (.str z18 (nat_lit 627)), (.str z102 (nat_lit 601))⟩, ⟨PyData.keyHash P z20, (.str z20 (nat_lit 631)), (.int (.ofNat (nat_lit 235)) (nat_lit 630))⟩, ⟨PyData.keyHash P z21, (.str z21 (nat_lit 641)), (.ref (nat_lit 320))⟩, ⟨PyData.keyHash P z130, (.str z130 (nat_lit 650)), (.ref (nat_lit 328))⟩, ⟨PyData.keyHash P z131, (.str z131 (nat_lit 657)), (.ref (nat_lit 335))⟩, ⟨PyData.keyHash P z132, (.str z132 (nat_lit 665)), (.ref (nat_lit 342))⟩, ⟨PyData.keyHash P z133, (.str z133 (nat_lit 673)), (.ref (nat_lit 349))⟩, ⟨PyData.keyHash P z134, (.str z134 (nat_lit 684)), (.ref (nat_lit 357))⟩, ⟨PyData.keyHash P z135, (.str z135 (nat_lit 694)), (.ref (nat_lit 364))⟩, ⟨PyData.keyHash P z136, (.str z136 (nat_lit 702)), (.ref (nat_lit 371))⟩, ⟨PyData.keyHash P z137, (.str z137 (nat_lit 710)), (.ref (nat_lit 378))⟩, ⟨PyData.keyHash P z138, (.str z138 (nat_lit 719)), (.ref (nat_lit 385))⟩, ⟨PyData.keyHash P z128, (.str z128 (nat_lit 726)), (.ref (nat_lit 392))⟩, ⟨PyData.keyHash P z139, (.str z139 (nat_lit 735)), (.ref (nat_lit 400))⟩, ⟨PyData.keyHash P z94, (.str z94 (nat_lit 742)), (.ref (nat_lit 407))⟩, ⟨PyData.keyHash P z140, (.str z140 (nat_lit 749)), (.ref (nat_lit 414))⟩, ⟨PyData.keyHash P z141, (.str z141 (nat_lit 759)), (.ref (nat_lit 422))⟩, ⟨PyData.keyHash P z142, (.str z142 (nat_lit 767)), (.ref (nat_lit 429))⟩, ⟨PyData.keyHash P z143, (.str z143 (nat_lit 775)), (.ref (nat_lit 436))⟩, ⟨PyData.keyHash P z144, (.str z144 (nat_lit 782)), (.ref (nat_lit 443))⟩, ⟨PyData.keyHash P z145, (.str z145 (nat_lit 791)), (.ref (nat_lit 450))⟩, ⟨PyData.keyHash P z146, (.str z146 (nat_lit 799)), (.ref (nat_lit 457))⟩, ⟨PyData.keyHash P z147, (.str z147 (nat_lit 806)), (.ref (nat_lit 464))⟩, ⟨PyData.keyHash P z148, (.str z148 (nat_lit 814)), (.ref (nat_lit 471))⟩, ⟨PyData.keyHash P z23, (.str z23 (nat_lit 818)), (.ref (nat_lit 472))⟩, ⟨PyData.keyHash P z175, (.str z175 (nat_lit 820)), (.ref (nat_lit 475))⟩, ⟨PyData.keyHash P z29, (.str z29 (nat_lit 822)), (.ref (nat_lit 476))⟩, ⟨PyData.keyHash P z7, (.str z7 (nat_lit 823)), .none⟩]⟩ (nat_lit 4)), ⟨[]⟩⟩
noncomputable abbrev o474_9 : OB := fun _ _ => ⟨(.type s17162191345867700912x4), none, (.cls ⟨z129, [(.type s2742458400755230247x6)], [(.ref (nat_lit 474)), (.type s2742458400755230247x6)], nat_lit 473, z129, true, [], [], false, none, false⟩), ⟨[none, none, (some (.str z129 (nat_lit 620))), (some (.str z129 (nat_lit 628))), (some (.builtin s11443829558043349243x14)), (some (.bool true))]⟩⟩
noncomputable abbrev o475_9 : OB := fun _ _ => ⟨(.type s14755015743595814543x17), none, (.fields ⟨[(.str z175 (nat_lit 819)), (.ref (nat_lit 474)), (.builtin s6511155373996960695x17), (.builtin s12411053484034534018x21)]⟩), ⟨[]⟩⟩
noncomputable abbrev o476_9 : OB := fun _ _ => ⟨(.type s14755015743595814543x17), none, (.fields ⟨[(.str z29 (nat_lit 821)), (.ref (nat_lit 474)), (.builtin s10220274742760427390x26), .none]⟩), ⟨[]⟩⟩
noncomputable abbrev o477_9 : OB := fun _ _ => ⟨(.type s4290257624100764138x5), none, (.fields ⟨[(.ref (nat_lit 474)), (.ref (nat_lit 474)), (.ref (nat_lit 474))]⟩), ⟨[]⟩⟩
noncomputable abbrev o478_9 : OB := fun _ _ => ⟨(.type s11030030927630378310x26), none, (.fields ⟨[(.builtin s4860613602091757760x24), (.ref (nat_lit 474))]⟩), ⟨[]⟩⟩
noncomputable abbrev tr9 (P : Params) : BT := ((((((((((((((((((((((((((((((((((((((((((((((((((((((((((((((((((((((((((((((((((((((((((((((((((((((((((((((((((((((((((((((((((((((((((((((((((((((((((((((((((((((((((((((((tr8 P).ins (nat_lit 3) (o3_9 prgQ P)).ins (nat_lit 12) (o12_9 prgQ P)).ins (nat_lit 306) (o306_9 prgQ P)).ins (nat_lit 307) (o307_9 prgQ P)).ins (nat_lit 308) (o308_9 prgQ P)).ins (nat_lit 309) (o309_9 prgQ P)).ins (nat_lit 310) (o310_9 prgQ P)).ins (nat_lit 311) (o311_9 prgQ P)).ins (nat_lit 312) (o312_9 prgQ P)).ins (nat_lit 313) (o313_9 prgQ P)).ins (nat_lit 314) (o314_9 prgQ P)).ins (nat_lit 315) (o315_9 prgQ P)).ins (nat_lit 316) (o316_9 prgQ P)).ins (nat_lit 317) (o317_9 prgQ P)).ins (nat_lit 318) (o318_9 prgQ P)).ins (nat_lit 319) (o319_9 prgQ P)).ins (nat_lit 320) (o320_9 prgQ P)).ins (nat_lit 321) (o321_9 prgQ P)).ins (nat_lit 322) (o322_9 prgQ P)).ins (nat_lit 323) (o323_9 prgQ P)).ins (nat_lit 324) (o324_9 prgQ P)).ins (nat_lit 325) (o325_9 prgQ P)).ins (nat_lit 326) (o326_9 prgQ P)).ins (nat_lit 327) (o327_9 prgQ P)).ins (nat_lit 328) (o328_9 prgQ P)).ins (nat_lit 329) (o329_9 prgQ P)).ins (nat_lit 330) (o330_9 prgQ P)).ins (nat_lit 331) (o331_9 prgQ P)).ins (nat_lit 332) (o332_9 prgQ P)).ins (nat_lit 333) (o333_9 prgQ P)).ins (nat_lit 334) (o334_9 prgQ P)).ins (nat_lit 335) (o335_9 prgQ P)).ins (nat_lit 336) (o336_9 prgQ P)).ins (nat_lit 337) (o337_9 prgQ P)).ins (nat_lit 338) (o338_9 prgQ P)).ins (nat_lit 339) (o339_9 prgQ P)).ins (nat_lit 340) (o340_9 prgQ P)).ins (nat_lit 341) (o341_9 prgQ P)).ins (nat_lit 342) (o342_9 prgQ P)).ins (nat_lit 343) (o343_9 prgQ P)).ins (nat_lit 344) (o344_9 prgQ P)).ins (nat_lit 345) (o345_9 prgQ P)).ins (nat_lit 346) (o346_9 prgQ P)).ins (nat_lit 347) (o347_9 prgQ P)).ins (nat_lit 348) (o348_9 prgQ P)).ins (nat_lit 349) (o349_9 prgQ P)).ins (nat_lit 350) (o350_9 prgQ P)).ins (nat_lit 351) (o351_9 prgQ P)).ins (nat_lit 352) (o352_9 prgQ P)).ins (nat_lit 353) (o353_9 prgQ P)).ins (nat_lit 354) (o354_9 prgQ P)).ins (nat_lit 355) (o355_9 prgQ P)).ins (nat_lit 356) (o356_9 prgQ P)).ins (nat_lit 357) (o357_9 prgQ P)).ins (nat_lit 358) (o358_9 prgQ P)).ins (nat_lit 359) (o359_9 prgQ P)).ins (nat_lit 360) (o360_9 prgQ P)).ins (nat_lit 361) (o361_9 prgQ P)).ins (nat_lit 362) (o362_9 prgQ P)).ins (nat_lit 363) (o363_9 prgQ P)).ins (nat_lit 364) (o364_9 prgQ P)).ins (nat_lit 365) (o365_9 prgQ P)).ins (nat_lit 366) (o366_9 prgQ P)).ins (nat_lit 367) (o367_9 prgQ P)).ins (nat_lit 368) (o368_9 prgQ P)).ins (nat_lit 369) (o369_9 prgQ P)).ins (nat_lit 370) (o370_9 prgQ P)).ins (nat_lit 371) (o371_9 prgQ P)).ins (nat_lit 372) (o372_9 prgQ P)).ins (nat_lit 373) (o373_9 prgQ P)).ins (nat_lit 374) (o374_9 prgQ P)).ins (nat_lit 375) (o375_9 prgQ P)).ins (nat_lit 376) (o376_9 prgQ P)).ins (nat_lit 377) (o377_9 prgQ P)).ins (nat_lit 378) (o378_9 prgQ P)).ins (nat_lit 379) (o379_9 prgQ P)).ins (nat_lit 380) (o380_9 prgQ P)).ins (nat_lit 381) (o381_9 prgQ P)).ins (nat_lit 382) (o382_9 prgQ P)).ins (nat_lit 383) (o383_9 prgQ P)).ins (nat_lit 384) (o384_9 prgQ P)).ins (nat_lit 385) (o385_9 prgQ P)).ins (nat_lit 386) (o386_9 prgQ P)).ins (nat_lit 387) (o387_9 prgQ P)).ins (nat_lit 388) (o388_9 prgQ P)).ins (nat_lit 389) (o389_9 prgQ P)).ins (nat_lit 390) (o390_9 prgQ P)).ins (nat_lit 391) (o391_9 prgQ P)).ins (nat_lit 392) (o392_9 prgQ P)).ins (nat_lit 393) (o393_9 prgQ P)).ins (nat_lit 394) (o394_9 prgQ P)).ins (nat_lit 395) (o395_9 prgQ P)).ins (nat_lit 396) (o396_9 prgQ P)).ins (nat_lit 397) (o397_9 prgQ P)).ins (nat_lit 398) (o398_9 prgQ P)).ins (nat_lit 399) (o399_9 prgQ P)).ins (nat_lit 400) (o400_9 prgQ P)).ins (nat_lit 401) (o401_9 prgQ P)).ins (nat_lit 402) (o402_9 prgQ P)).ins (nat_lit 403) (o403_9 prgQ P)).ins (nat_lit 404) (o404_9 prgQ P)).ins (nat_lit 405) (o405_9 prgQ P)).ins (nat_lit 406) (o406_9 prgQ P)).ins (nat_lit 407) (o407_9 prgQ P)).ins (nat_lit 408) (o408_9 prgQ P)).ins (nat_lit 409) (o409_9 prgQ P)).ins (nat_lit 410) (o410_9 prgQ P)).ins (nat_lit 411) (o411_9 prgQ P)).ins (nat_lit 412) (o412_9 prgQ P)).ins (nat_lit 413) (o413_9 prgQ P)).ins (nat_lit 414) (o414_9 prgQ P)).ins (nat_lit 415) (o415_9 prgQ P)).ins (nat_lit 416) (o416_9 prgQ P)).ins (nat_lit 417) (o417_9 prgQ P)).ins (nat_lit 418) (o418_9 prgQ P)).ins (nat_lit 419) (o419_9 prgQ P)).ins (nat_lit 420) (o420_9 prgQ P)).ins (nat_lit 421) (o421_9 prgQ P)).ins (nat_lit 422) (o422_9 prgQ P)).ins (nat_lit 423) (o423_9 prgQ P)).ins (nat_lit 424) (o424_9 prgQ P)).ins (nat_lit 425) (o425_9 prgQ P)).ins (nat_lit 426) (o426_9 prgQ P)).ins (nat_lit 427) (o427_9 prgQ P)).ins (nat_lit 428) (o428_9 prgQ P)).ins (nat_lit 429) (o429_9 prgQ P)).ins (nat_lit 430) (o430_9 prgQ P)).ins (nat_lit 431) (o431_9 prgQ P)).ins (nat_lit 432) (o432_9 prgQ P)).ins (nat_lit 433) (o433_9 prgQ P)).ins (nat_lit 434) (o434_9 prgQ P)).ins (nat_lit 435) (o435_9 prgQ P)).ins (nat_lit 436) (o436_9 prgQ P)).ins (nat_lit 437) (o437_9 prgQ P)).ins (nat_lit 438) (o438_9 prgQ P)).ins (nat_lit 439) (o439_9 prgQ P)).ins (nat_lit 440) (o440_9 prgQ P)).ins (nat_lit 441) (o441_9 prgQ P)).ins (nat_lit 442) (o442_9 prgQ P)).ins (nat_lit 443) (o443_9 prgQ P)).ins (nat_lit 444) (o444_9 prgQ P)).ins (nat_lit 445) (o445_9 prgQ P)).ins (nat_lit 446) (o446_9 prgQ P)).ins (nat_lit 447) (o447_9 prgQ P)).ins (nat_lit 448) (o448_9 prgQ P)).ins (nat_lit 449) (o449_9 prgQ P)).ins (nat_lit 450) (o450_9 prgQ P)).ins (nat_lit 451) (o451_9 prgQ P)).ins (nat_lit 452) (o452_9 prgQ P)).ins (nat_lit 453) (o453_9 prgQ P)).ins (nat_lit 454) (o454_9 prgQ P)).ins (nat_lit 455) (o455_9 prgQ P)).ins (nat_lit 456) (o456_9 prgQ P)).ins (nat_lit 457) (o457_9 prgQ P)).ins (nat_lit 458) (o458_9 prgQ P)).ins (nat_lit 459) (o459_9 prgQ P)).ins (nat_lit 460) (o460_9 prgQ P)).ins (nat_lit 461) (o461_9 prgQ P)).ins (nat_lit 462) (o462_9 prgQ P)).ins (nat_lit 463) (o463_9 prgQ P)).ins (nat_lit 464) (o464_9 prgQ P)).ins (nat_lit 465) (o465_9 prgQ P)).ins (nat_lit 466) (o466_9 prgQ P)).ins (nat_lit 467) (o467_9 prgQ P)).ins (nat_lit 468) (o468_9 prgQ P)).ins (nat_lit 469) (o469_9 prgQ P)).ins (nat_lit 470) (o470_9 prgQ P)).ins (nat_lit 471) (o471_9 prgQ P)).ins (nat_lit 472) (o472_9 prgQ P)).ins (nat_lit 473) (o473_9 prgQ P)).ins (nat_lit 474) (o474_9 prgQ P)).ins (nat_lit 475) (o475_9 prgQ P)).ins (nat_lit 476) (o476_9 prgQ P)).ins (nat_lit 477) (o477_9 prgQ P)).ins (nat_lit 478) (o478_9 prgQ P))
noncomputable abbrev st9 (w : World) (os : OsState) : SharedT := ⟨tr9 w.params, nat_lit 479, lifeQ, ⟨[]⟩, boot_drawn, nat_lit 826, os⟩
/-! GROUP 9 51 1 908 [] [] from ⟨nat_lit 230, nat_lit 0, nat_lit 234, nat_lit 25⟩ to ⟨nat_lit 235, nat_lit 0, nat_lit 354, nat_lit 20⟩ -/
noncomputable abbrev z176 : Str := ⟨⟨[nat_lit 108, nat_lit 97, nat_lit 119, nat_lit 95, nat_lit 112, nat_lit 98, nat_lit 48, nat_lit 50, nat_lit 54, nat_lit 55, nat_lit 95, nat_lit 48, nat_lit 49]⟩⟩
noncomputable abbrev z177 : Str := ⟨⟨[nat_lit 84, nat_lit 111, nat_lit 107, nat_lit 101, nat_lit 110]⟩⟩
noncomputable abbrev z178 : Str := ⟨⟨[nat_lit 95, nat_lit 108, nat_lit 97, nat_lit 119, nat_lit 95, nat_lit 112, nat_lit 101, nat_lit 110]⟩⟩
noncomputable abbrev z179 : Str := ⟨⟨[nat_lit 95, nat_lit 108, nat_lit 97, nat_lit 119, nat_lit 95, nat_lit 100, nat_lit 114, nat_lit 97, nat_lit 119]⟩⟩
noncomputable abbrev z180 : Str := ⟨⟨[nat_lit 95, nat_lit 108, nat_lit 97, nat_lit 119, nat_lit 95, nat_lit 112, nat_lit 105, nat_lit 99, nat_lit 107]⟩⟩
noncomputable abbrev z181 : Str := ⟨⟨[nat_lit 95, nat_lit 108, nat_lit 97, nat_lit 119, nat_lit 95, nat_lit 119, nat_lit 111, nat_lit 114, nat_lit 100, nat_lit 115]⟩⟩
noncomputable abbrev o3_10 : OB := fun p P => ⟨(.type s14018661285674007319x4), none, (.dict ⟨[⟨PyData.keyHash P z5, (.str z5 (nat_lit 165)), (.str z176 (nat_lit 872))⟩, ⟨PyData.keyHash P z7, (.str z7 (nat_lit 166)), .none⟩, ⟨PyData.keyHash P z8, (.str z8 (nat_lit 167)), .none⟩, ⟨PyData.keyHash P z9, (.str z9 (nat_lit 168)), (.builtin s7097527257260152453x26)⟩, ⟨PyData.keyHash P z10, (.str z10 (nat_lit 169)), .none⟩, ⟨PyData.keyHash P z11, (.str z11 (nat_lit 170)), (.ref (nat_lit 6))⟩, ⟨PyData.keyHash P z12, (.str z12 (nat_lit 171)), (.ref (nat_lit 4))⟩, ⟨PyData.keyHash P z13, (.str z13 (nat_lit 173)), (.str z1 (nat_lit 172))⟩, ⟨PyData.keyHash P z14, (.str z14 (nat_lit 174)), .none⟩, ⟨PyData.keyHash P z15, (.str z15 (nat_lit 193)), (.ref (nat_lit 21))⟩, ⟨PyData.keyHash P z16, (.str z16 (nat_lit 235)), (.ref (nat_lit 47))⟩, ⟨PyData.keyHash P z30, (.str z30 (nat_lit 251)), (.ref (nat_lit 60))⟩, ⟨PyData.keyHash P z32, (.str z32 (nat_lit 267)), (.ref (nat_lit 72))⟩, ⟨PyData.keyHash P z33, (.str z33 (nat_lit 271)), (.str z34 (nat_lit 270))⟩, ⟨PyData.keyHash P z35, (.str z35 (nat_lit 279)), (.ref (nat_lit 81))⟩, ⟨PyData.keyHash P z36, (.str z36 (nat_lit 288)), (.ref (nat_lit 89))⟩, ⟨PyData.keyHash P z37, (.str z37 (nat_lit 295)), (.ref (nat_lit 96))⟩, ⟨PyData.keyHash P z38, (.str z38 (nat_lit 306)), (.ref (nat_lit 103))⟩, ⟨PyData.keyHash P z39, (.str z39 (nat_lit 313)), (.ref (nat_lit 110))⟩, ⟨PyData.keyHash P z49, (.str z49 (nat_lit 320)), (.ref (nat_lit 117))⟩, ⟨PyData.keyHash P z50, (.str z50 (nat_lit 329)), (.ref (nat_lit 124))⟩, ⟨PyData.keyHash P z51, (.str z51 (nat_lit 342)), (.ref (nat_lit 131))⟩, ⟨PyData.keyHash P z52, (.str z52 (nat_lit 346)), (.int (.ofNat (nat_lit 7)) (nat_lit 345))⟩, ⟨PyData.keyHash P z61, (.str z61 (nat_lit 380)), (.ref (nat_lit 132))⟩, ⟨PyData.keyHash P z76, (.str z76 (nat_lit 389)), (.ref (nat_lit 139))⟩, ⟨PyData.keyHash P z77, (.str z77 (nat_lit 398)), (.ref (nat_lit 146))⟩, ⟨PyData.keyHash P z78, (.str z78 (nat_lit 408)), (.ref (nat_lit 153))⟩, ⟨PyData.keyHash P z79, (.str z79 (nat_lit 420)), (.ref (nat_lit 160))⟩, ⟨PyData.keyHash P z80, (.str z80 (nat_lit 428)), (.ref (nat_lit 167))⟩, ⟨PyData.keyHash P z81, (.str z81 (nat_lit 435)), (.ref (nat_lit 174))⟩, ⟨PyData.keyHash P z82, (.str z82 (nat_lit 444)), (.ref (nat_lit 181))⟩, ⟨PyData.keyHash P z83, (.str z83 (nat_lit 448)), (.int (.ofNat (nat_lit 20)) (nat_lit 447))⟩, ⟨PyData.keyHash P z84, (.str z84 (nat_lit 455)), (.ref (nat_lit 188))⟩, ⟨PyData.keyHash P z85, (.str z85 (nat_lit 464)), (.ref (nat_lit 195))⟩, ⟨PyData.keyHash P z86, (.str z86 (nat_lit 474)), (.ref (nat_lit 202))⟩, ⟨PyData.keyHash P z87, (.str z87 (nat_lit 484)), (.ref (nat_lit 209))⟩, ⟨PyData.keyHash P z88, (.str z88 (nat_lit 495)), (.ref (nat_lit 216))⟩, ⟨PyData.keyHash P z103, (.str z103 (nat_lit 504)), (.ref (nat_lit 223))⟩, ⟨PyData.keyHash P z104, (.str z104 (nat_lit 513)), (.ref (nat_lit 230))⟩, ⟨PyData.keyHash P z105, (.str z105 (nat_lit 523)), (.ref (nat_lit 237))⟩, ⟨PyData.keyHash P z106, (.str z106 (nat_lit 527)), (.str z107 (nat_lit 526))⟩, ⟨PyData.keyHash P z108, (.str z108 (nat_lit 534)), (.ref (nat_lit 244))⟩, ⟨PyData.keyHash P z109, (.str z109 (nat_lit 543)), (.ref (nat_lit 251))⟩, ⟨PyData.keyHash P z110, (.str z110 (nat_lit 552)), (.ref (nat_lit 258))⟩, ⟨PyData.keyHash P z111, (.str z111 (nat_lit 561)), (.ref (nat_lit 265))⟩, ⟨PyData.keyHash P z112, (.str z112 (nat_lit 570)), (.ref (nat_lit 272))⟩, ⟨PyData.keyHash P z113, (.str z113 (nat_lit 578)), (.ref (nat_lit 279))⟩, ⟨PyData.keyHash P z114, (.str z114 (nat_lit 588)), (.ref (nat_lit 286))⟩, ⟨PyData.keyHash P z115, (.str z115 (nat_lit 600)), (.ref (nat_lit 293))⟩, ⟨PyData.keyHash P z116, (.str z116 (nat_lit 604)), (.int (.ofNat (nat_lit 255)) (nat_lit 603))⟩, ⟨PyData.keyHash P z117, (.str z117 (nat_lit 606)), (.str (longQ p) (nat_lit 605))⟩, ⟨PyData.keyHash P z126, (.str z126 (nat_lit 613)), (.ref (nat_lit 300))⟩, ⟨PyData.keyHash P z127, (.str z127 (nat_lit 619)), (.ref (nat_lit 305))⟩, ⟨PyData.keyHash P z129, (.str z129 (nat_lit 825)), (.ref (nat_lit 474))⟩, ⟨PyData.keyHash P z177, (.str z177 (nat_lit 871)), (.ref (nat_lit 504))⟩, ⟨PyData.keyHash P z178, (.str z178 (nat_lit 879)), (.ref (nat_lit 513))⟩, ⟨PyData.keyHash P z179, (.str z179 (nat_lit 890)), (.ref (nat_lit 520))⟩, ⟨PyData.keyHash P z180, (.str z180 (nat_lit 898)), (.ref (nat_lit 527))⟩, ⟨PyData.keyHash P z181, (.str z181 (nat_lit 904)), (.ref (nat_lit 532))⟩]⟩ (nat_lit 59)), ⟨[]⟩⟩
noncomputable abbrev o12_10 : OB := fun _ _ => ⟨.none, none, (.fields ⟨((.int (.ofNat (nat_lit 1)) (nat_lit 0)) :: (.int (.ofNat (nat_lit 0)) (nat_lit 0)) :: (.ref (nat_lit 20)) :: (.int (.ofNat (nat_lit 5)) (nat_lit 0)) :: (.int (.ofNat (nat_lit 0)) (nat_lit 0)) :: (.ref (nat_lit 27)) :: (.int (.ofNat (nat_lit 14)) (nat_lit 0)) :: (.int (.ofNat (nat_lit 0)) (nat_lit 0)) :: (.ref (nat_lit 56)) :: (.int (.ofNat (nat_lit 16)) (nat_lit 0)) :: (.int (.ofNat (nat_lit 0)) (nat_lit 0)) :: (.ref (nat_lit 68)) :: (.int (.ofNat (nat_lit 20)) (nat_lit 0)) :: (.int (.ofNat (nat_lit 0)) (nat_lit 0)) :: (.ref (nat_lit 80)) :: (.int (.ofNat (nat_lit 24)) (nat_lit 0)) :: (.int (.ofNat (nat_lit 0)) (nat_lit 0)) :: (.ref (nat_lit 88)) :: (.int (.ofNat (nat_lit 31)) (nat_lit 0)) :: (.int (.ofNat (nat_lit 0)) (nat_lit 0)) :: (.ref (nat_lit 95)) :: (.int (.ofNat (nat_lit 33)) (nat_lit 0)) :: (.int (.ofNat (nat_lit 0)) (nat_lit 0)) :: (.ref (nat_lit 102)) :: (.int (.ofNat (nat_lit 41)) (nat_lit 0)) :: (.int (.ofNat (nat_lit 0)) (nat_lit 0)) :: (.ref (nat_lit 109)) :: (.int (.ofNat (nat_lit 43)) (nat_lit 0)) :: (.int (.ofNat (nat_lit 0)) (nat_lit 0)) :: (.ref (nat_lit 116)) :: (.int (.ofNat (nat_lit 45)) (nat_lit 0)) :: (.int (.ofNat (nat_lit 0)) (nat_lit 0)) :: (.ref (nat_lit 123)) :: (.int (.ofNat (nat_lit 50)) (nat_lit 0)) :: (.int (.ofNat (nat_lit 0)) (nat_lit 0)) :: (.ref (nat_lit 130)) :: (.int (.ofNat (nat_lit 68)) (nat_lit 0)) :: (.int (.ofNat (nat_lit 0)) (nat_lit 0)) :: (.ref (nat_lit 138)) :: (.int (.ofNat (nat_lit 81)) (nat_lit 0)) :: (.int (.ofNat (nat_lit 0)) (nat_lit 0)) :: (.ref (nat_lit 145)) :: (.int (.ofNat (nat_lit 89)) (nat_lit 0)) :: (.int (.ofNat (nat_lit 0)) (nat_lit 0)) :: (.ref (nat_lit 152)) :: (.int (.ofNat (nat_lit 96)) (nat_lit 0)) :: (.int (.ofNat (nat_lit 0)) (nat_lit 0)) :: (.ref (nat_lit 159)) :: (.int (.ofNat (nat_lit 106)) (nat_lit 0)) :: (.int (.ofNat (nat_lit 0)) (nat_lit 0)) :: (.ref (nat_lit 166)) :: (.int (.ofNat (nat_lit 113)) (nat_lit 0)) :: (.int (.ofNat (nat_lit 0)) (nat_lit 0)) :: (.ref (nat_lit 173)) :: (.int (.ofNat (nat_lit 117)) (nat_lit 0)) :: (.int (.ofNat (nat_lit 0)) (nat_lit 0)) :: (.ref (nat_lit 180)) :: (.int (.ofNat (nat_lit 128)) (nat_lit 0)) :: (.int (.ofNat (nat_lit 0)) (nat_lit 0)) :: (.ref (nat_lit 187)) :: (.int (.ofNat (nat_lit 130)) (nat_lit 0)) :: (.int (.ofNat (nat_lit 0)) (nat_lit 0)) :: (.ref (nat_lit 194)) :: (.int (.ofNat (nat_lit 135)) (nat_lit 0)) :: (.int (.ofNat (nat_lit 0)) (nat_lit 0)) :: (.ref (nat_lit 201)) :: (.int (.ofNat (nat_lit 143)) (nat_lit 0)) :: (.int (.ofNat (nat_lit 0)) (nat_lit 0)) :: (.ref (nat_lit 208)) :: (.int (.ofNat (nat_lit 149)) (nat_lit 0)) :: (.int (.ofNat (nat_lit 0)) (nat_lit 0)) :: (.ref (nat_lit 215)) :: (.int (.ofNat (nat_lit 159)) (nat_lit 0)) :: (.int (.ofNat (nat_lit 0)) (nat_lit 0)) :: (.ref (nat_lit 222)) :: (.int (.ofNat (nat_lit 164)) (nat_lit 0)) :: (.int (.ofNat (nat_lit 0)) (nat_lit 0)) :: (.ref (nat_lit 229)) :: (.int (.ofNat (nat_lit 170)) (nat_lit 0)) :: (.int (.ofNat (nat_lit 0)) (nat_lit 0)) :: (.ref (nat_lit 236)) :: (.int (.ofNat (nat_lit 180)) (nat_lit 0)) :: (.int (.ofNat (nat_lit 0)) (nat_lit 0)) :: (.ref (nat_lit 243)) :: (.int (.ofNat (nat_lit 184)) (nat_lit 0)) :: (.int (.ofNat (nat_lit 0)) (nat_lit 0)) :: (.ref (nat_lit 250)) :: (.int (.ofNat (nat_lit 188)) (nat_lit 0)) :: (.int (.ofNat (nat_lit 0)) (nat_lit 0)) :: (.ref (nat_lit 257)) :: (.int (.ofNat (nat_lit 192)) (nat_lit 0)) :: (.int (.ofNat (nat_lit 0)) (nat_lit 0)) :: (.ref (nat_lit 264)) :: (.int (.ofNat (nat_lit 198)) (nat_lit 0)) :: (.int (.ofNat (nat_lit 0)) (nat_lit 0)) :: (.ref (nat_lit 271)) :: (.int (.ofNat (nat_lit 209)) (nat_lit 0)) :: (.int (.ofNat (nat_lit 0)) (nat_lit 0)) :: (.ref (nat_lit 278)) :: (.int (.ofNat (nat_lit 213)) (nat_lit 0)) :: (.int (.ofNat (nat_lit 0)) (nat_lit 0)) :: (.ref (nat_lit 285)) :: (.int (.ofNat (nat_lit 219)) (nat_lit 0)) :: (.int (.ofNat (nat_lit 0)) (nat_lit 0)) :: (.ref (nat_lit 292)) :: (.int (.ofNat (nat_lit 228)) (nat_lit 0)) :: (.int (.ofNat (nat_lit 0)) (nat_lit 0)) :: (.ref (nat_lit 299)) :: (.int (.ofNat (nat_lit 230)) (nat_lit 0)) :: (.int (.ofNat (nat_lit 0)) (nat_lit 0)) :: (.ref (nat_lit 304)) :: (.int (.ofNat (nat_lit 235)) (nat_lit 0)) :: (.int (.ofNat (nat_lit 0)) (nat_lit 0)) :: (.ref (nat_lit 311)) :: (.int (.ofNat (nat_lit 356)) (nat_lit 0)) :: (.int (.ofNat (nat_lit 0)) (nat_lit 0)) :: (.ref (nat_lit 484)) :: (.int (.ofNat (nat_lit 367)) (nat_lit 0)) :: (.int (.ofNat (nat_lit 0)) (nat_lit 0)) :: (.ref (nat_lit 512)) :: (.int (.ofNat (nat_lit 370)) (nat_lit 0)) :: (.int (.ofNat (nat_lit 0)) (nat_lit 0)) :: (.ref (nat_lit 519)) :: (.int (.ofNat (nat_lit 379)) (nat_lit 0)) :: (.int (.ofNat (nat_lit 0)) (nat_lit 0)) :: (.ref (nat_lit 526)) :: (.int (.ofNat (nat_lit 381)) (nat_lit 0)) :: (.int (.ofNat (nat_lit 0)) (nat_lit 0)) :: (.ref (nat_lit 531)) :: [])⟩), ⟨[]⟩⟩
noncomputable abbrev o479_10 : OB := fun _ _ => ⟨(.type s2766695959194262286x5), none, (.seq ⟨[]⟩ (nat_lit 0)), ⟨[]⟩⟩
noncomputable abbrev o480_10 : OB := fun _ _ => ⟨(.type s11030030927630378310x26), none, (.fields ⟨[(.builtin s10062305145149207511x16), (.type s17162191345867700912x4)]⟩), ⟨[]⟩⟩
noncomputable abbrev z182 : Str := ⟨⟨[nat_lit 108, nat_lit 101, nat_lit 100, nat_lit 103, nat_lit 101, nat_lit 114, nat_lit 115, nat_lit 112, nat_lit 101, nat_lit 97, nat_lit 107, nat_lit 46, nat_lit 116, nat_lit 111, nat_lit 107, nat_lit 101, nat_lit 110, nat_lit 115]⟩⟩
noncomputable abbrev o481_10 : OB := fun _ P => ⟨(.type s14018661285674007319x4), none, (.dict ⟨[⟨PyData.keyHash P z18, (.str z18 (nat_lit 835)), (.str z182 (nat_lit 826))⟩, ⟨PyData.keyHash P z19, (.str z19 (nat_lit 837)), (.str z177 (nat_lit 836))⟩, ⟨PyData.keyHash P z20, (.str z20 (nat_lit 839)), (.int (.ofNat (nat_lit 356)) (nat_lit 838))⟩, ⟨PyData.keyHash P z21, (.str z21 (nat_lit 852)), (.ref (nat_lit 494))⟩, ⟨PyData.keyHash P z22, (.str z22 (nat_lit 859)), (.ref (nat_lit 501))⟩, ⟨PyData.keyHash P z23, (.str z23 (nat_lit 864)), (.ref (nat_lit 502))⟩]⟩ (nat_lit 6)), ⟨[]⟩⟩
noncomputable abbrev o482_10 : OB := fun _ _ => ⟨(.type s2766695959194262286x5), none, (.seq ⟨[]⟩ (nat_lit 0)), ⟨[]⟩⟩
noncomputable abbrev o483_10 : OB := fun _ _ => ⟨.none, none, (.fields ⟨[(.int (.ofNat (nat_lit 358)) (nat_lit 0)), (.int (.ofNat (nat_lit 4)) (nat_lit 0)), (.ref (nat_lit 493)), (.int (.ofNat (nat_lit 364)) (nat_lit 0)), (.int (.ofNat (nat_lit 4)) (nat_lit 0)), (.ref (nat_lit 500))]⟩), ⟨[]⟩⟩
noncomputable abbrev o484_10 : OB := fun _ _ => ⟨(.type s5856160107412720595x4), none, (.fields ⟨[(.str z177 (nat_lit 830)), (.str z177 (nat_lit 831)), (.str z1 (nat_lit 832)), (.int (.ofNat (nat_lit 356)) (nat_lit 0)), (.int (.ofNat (nat_lit 0)) (nat_lit 0)), (.int (.ofNat (nat_lit 0)) (nat_lit 0)), (.int (.ofNat (nat_lit 0)) (nat_lit 0)), (.int (.ofNat (nat_lit 0)) (nat_lit 0)), (.ref (nat_lit 482)), (.bool false), (.int (.ofNat (nat_lit 181)) (nat_lit 0)), (.ref (nat_lit 483)), .none, .none, .none, .none, (.int (.ofNat (nat_lit 833)) (nat_lit 0)), (.int (.ofNat (nat_lit 356)) (nat_lit 0)), (.str z1 (nat_lit 834))]⟩), ⟨[]⟩⟩
noncomputable abbrev o485_10 : OB := fun _ _ => ⟨(.type s658472552662922059x5), none, .plain, ⟨[(some (.ref (nat_lit 484))), (some (.ref (nat_lit 3))), (some (.ref (nat_lit 481))), none, (some (.str z182 (nat_lit 826))), none, (some (.ref (nat_lit 0)))]⟩⟩
noncomputable abbrev o486_10 : OB := fun _ _ => ⟨(.type s2766695959194262286x5), none, (.seq ⟨[(.int (.ofNat (nat_lit 0)) (nat_lit 840)), (.int (.ofNat (nat_lit 0)) (nat_lit 841))]⟩ (nat_lit 0)), ⟨[]⟩⟩
noncomputable abbrev o487_10 : OB := fun _ _ => ⟨(.type s2766695959194262286x5), none, (.seq ⟨[(.ref (nat_lit 486)), (.bool false)]⟩ (nat_lit 0)), ⟨[]⟩⟩
noncomputable abbrev o488_10 : OB := fun _ _ => ⟨(.type s2766695959194262286x5), none, (.seq ⟨[]⟩ (nat_lit 0)), ⟨[]⟩⟩
noncomputable abbrev o489_10 : OB := fun _ _ => ⟨.none, none, (.fields ⟨[]⟩), ⟨[]⟩⟩
noncomputable abbrev z183 : Str := ⟨⟨[nat_lit 119, nat_lit 111, nat_lit 114, nat_lit 116, nat_lit 104]⟩⟩
noncomputable abbrev z184 : Str := ⟨⟨[nat_lit 105, nat_lit 115, nat_lit 95, nat_lit 105, nat_lit 110, nat_lit 95, nat_lit 97]⟩⟩
noncomputable abbrev o490_10 : OB := fun _ _ => ⟨(.type s2766695959194262286x5), none, (.seq ⟨[(.str z24 (nat_lit 845)), (.str z125 (nat_lit 846)), (.str z183 (nat_lit 847)), (.str z26 (nat_lit 848)), (.str z184 (nat_lit 849))]⟩ (nat_lit 0)), ⟨[]⟩⟩
noncomputable abbrev o491_10 : OB := fun _ _ => ⟨(.type s2766695959194262286x5), none, (.seq ⟨[]⟩ (nat_lit 0)), ⟨[]⟩⟩
noncomputable abbrev z185 : Str := ⟨⟨[nat_lit 84, nat_lit 111, nat_lit 107, nat_lit 101, nat_lit 110, nat_lit 46, nat_lit 95, nat_lit 95, nat_lit 105, nat_lit 110, nat_lit 105, nat_lit 116, nat_lit 95, nat_lit 95]⟩⟩
noncomputable abbrev o492_10 : OB := fun p _ => ⟨.none, none, (.func ⟨z21, z185, fA (mAt p (nat_lit 53) (nat_lit 0)), (.stmts (fB (mAt p (nat_lit 53) (nat_lit 0)))), fS (mAt p (nat_lit 53) (nat_lit 0)) p, nat_lit 0, [], .none, .none, .none, .none, none, .none, .none, nat_lit 0⟩), ⟨[]⟩⟩
noncomputable abbrev o493_10 : OB := fun _ _ => ⟨(.type s5856160107412720595x4), none, (.fields ⟨[(.str z21 (nat_lit 842)), (.str z185 (nat_lit 843)), (.str z1 (nat_lit 844)), (.int (.ofNat (nat_lit 358)) (nat_lit 0)), (.int (.ofNat (nat_lit 5)) (nat_lit 0)), (.int (.ofNat (nat_lit 0)) (nat_lit 0)), (.int (.ofNat (nat_lit 0)) (nat_lit 0)), (.int (.ofNat (nat_lit 3)) (nat_lit 0)), (.ref (nat_lit 488)), (.bool true), (.int (.ofNat (nat_lit 181)) (nat_lit 0)), (.ref (nat_lit 489)), .none, (.ref (nat_lit 490)), (.ref (nat_lit 491)), (.ref (nat_lit 492)), (.int (.ofNat (nat_lit 850)) (nat_lit 0)), (.int (.ofNat (nat_lit 358)) (nat_lit 0)), (.str z1 (nat_lit 851))]⟩), ⟨[]⟩⟩
noncomputable abbrev o494_10 : OB := fun p _ => ⟨(.type s7174869446012820540x8), none, (.func ⟨z21, z185, fA (mAt p (nat_lit 53) (nat_lit 0)), (.stmts (fB (mAt p (nat_lit 53) (nat_lit 0)))), fS (mAt p (nat_lit 53) (nat_lit 0)) p, nat_lit 3, [], (.ref (nat_lit 487)), .none, .none, (.str z182 (nat_lit 826)), none, (.ref (nat_lit 493)), .none, nat_lit 0⟩), ⟨[]⟩⟩
noncomputable abbrev o495_10 : OB := fun _ _ => ⟨(.type s2766695959194262286x5), none, (.seq ⟨[]⟩ (nat_lit 0)), ⟨[]⟩⟩
noncomputable abbrev o496_10 : OB := fun _ _ => ⟨.none, none, (.fields ⟨[]⟩), ⟨[]⟩⟩
noncomputable abbrev o497_10 : OB := fun _ _ => ⟨(.type s2766695959194262286x5), none, (.seq ⟨[(.str z24 (nat_lit 856))]⟩ (nat_lit 0)), ⟨[]⟩⟩
noncomputable abbrev o498_10 : OB := fun _ _ => ⟨(.type s2766695959194262286x5), none, (.seq ⟨[]⟩ (nat_lit 0)), ⟨[]⟩⟩
noncomputable abbrev z186 : Str := ⟨⟨[nat_lit 84, nat_lit 111, nat_lit 107, nat_lit 101, nat_lit 110, nat_lit 46, nat_lit 116, nat_lit 111, nat_lit 108, nat_lit 100]⟩⟩
noncomputable abbrev o499_10 : OB := fun p _ => ⟨.none, none, (.func ⟨z22, z186, fA (mAt p (nat_lit 53) (nat_lit 1)), (.stmts (fB (mAt p (nat_lit 53) (nat_lit 1)))), fS (mAt p (nat_lit 53) (nat_lit 1)) p, nat_lit 0, [], .none, .none, .none, .none, none, .none, .none, nat_lit 0⟩), ⟨[]⟩⟩
noncomputable abbrev o500_10 : OB := fun _ _ => ⟨(.type s5856160107412720595x4), none, (.fields ⟨[(.str z22 (nat_lit 853)), (.str z186 (nat_lit 854)), (.str z1 (nat_lit 855)), (.int (.ofNat (nat_lit 364)) (nat_lit 0)), (.int (.ofNat (nat_lit 1)) (nat_lit 0)), (.int (.ofNat (nat_lit 0)) (nat_lit 0)), (.int (.ofNat (nat_lit 0)) (nat_lit 0)), (.int (.ofNat (nat_lit 3)) (nat_lit 0)), (.ref (nat_lit 495)), (.bool true), (.int (.ofNat (nat_lit 181)) (nat_lit 0)), (.ref (nat_lit 496)), .none, (.ref (nat_lit 497)), (.ref (nat_lit 498)), (.ref (nat_lit 499)), (.int (.ofNat (nat_lit 857)) (nat_lit 0)), (.int (.ofNat (nat_lit 364)) (nat_lit 0)), (.str z1 (nat_lit 858))]⟩), ⟨[]⟩⟩
noncomputable abbrev o501_10 : OB := fun p _ => ⟨(.type s7174869446012820540x8), none, (.func ⟨z22, z186, fA (mAt p (nat_lit 53) (nat_lit 1)), (.stmts (fB (mAt p (nat_lit 53) (nat_lit 1)))), fS (mAt p (nat_lit 53) (nat_lit 1)) p, nat_lit 3, [], .none, .none, .none, (.str z182 (nat_lit 826)), none, (.ref (nat_lit 500)), .none, nat_lit 0⟩), ⟨[]⟩⟩
noncomputable abbrev o502_10 : OB := fun _ _ => ⟨(.type s2766695959194262286x5), none, (.seq ⟨[(.str z26 (nat_lit 860)), (.str z184 (nat_lit 861)), (.str z125 (nat_lit 862)), (.str z183 (nat_lit 863))]⟩ (nat_lit 0)), ⟨[]⟩⟩
noncomputable abbrev o503_10 : OB := fun _ P => ⟨(.type s14018661285674007319x4), none, (.dict ⟨[⟨PyData.keyHash P z18, (.str z18 (nat_lit 835)), (.str z182 (nat_lit 826))⟩, ⟨PyData.keyHash P z20, (.str z20 (nat_lit 839)), (.int (.ofNat (nat_lit 356)) (nat_lit 838))⟩, ⟨PyData.keyHash P z21, (.str z21 (nat_lit 852)), (.ref (nat_lit 494))⟩, ⟨PyData.keyHash P z22, (.str z22 (nat_lit 859)), (.ref (nat_lit 501))⟩, ⟨PyData.keyHash P z23, (.str z23 (nat_lit 864)), (.ref (nat_lit 502))⟩, ⟨PyData.keyHash P z175, (.str z175 (nat_lit 866)), (.ref (nat_lit 505))⟩, ⟨PyData.keyHash P z29, (.str z29 (nat_lit 868)), (.ref (nat_lit 506))⟩, ⟨PyData.keyHash P z7, (.str z7 (nat_lit 869)), .none⟩]⟩ (nat_lit 4)), ⟨[]⟩⟩
noncomputable abbrev o504_10 : OB := fun _ _ => ⟨(.type s17162191345867700912x4), none, (.cls ⟨z177, [(.type s2742458400755230247x6)], [(.ref (nat_lit 504)), (.type s2742458400755230247x6)], nat_lit 503, z177, true, [], [], false, none, false⟩), ⟨[none, none, (some (.str z177 (nat_lit 828))), (some (.str z177 (nat_lit 836))), (some (.builtin s11443829558043349243x14)), (some (.bool true))]⟩⟩
noncomputable abbrev o505_10 : OB := fun _ _ => ⟨(.type s14755015743595814543x17), none, (.fields ⟨[(.str z175 (nat_lit 865)), (.ref (nat_lit 504)), (.builtin s6511155373996960695x17), (.builtin s12411053484034534018x21)]⟩), ⟨[]⟩⟩
noncomputable abbrev o506_10 : OB := fun _ _ => ⟨(.type s14755015743595814543x17), none, (.fields ⟨[(.str z29 (nat_lit 867)), (.ref (nat_lit 504)), (.builtin s10220274742760427390x26), .none]⟩), ⟨[]⟩⟩
noncomputable abbrev o507_10 : OB := fun _ _ => ⟨(.type s4290257624100764138x5), none, (.fields ⟨[(.ref (nat_lit 504)), (.ref (nat_lit 504)), (.ref (nat_lit 504))]⟩), ⟨[]⟩⟩
noncomputable abbrev o508_10 : OB := fun _ _ => ⟨(.type s11030030927630378310x26), none, (.fields ⟨[(.builtin s4860613602091757760x24), (.ref (nat_lit 504))]⟩), ⟨[]⟩⟩
noncomputable abbrev o509_10 : OB := fun _ _ => ⟨(.type s2766695959194262286x5), none, (.seq ⟨[]⟩ (nat_lit 0)), ⟨[]⟩⟩
noncomputable abbrev o510_10 : OB := fun _ _ => ⟨.none, none, (.fields ⟨[]⟩), ⟨[]⟩⟩
noncomputable abbrev o511_10 : OB := fun p _ => ⟨.none, none, (.func ⟨z178, z178, fA (sAt p (nat_lit 55)), (.stmts (fB (sAt p (nat_lit 55)))), fS (sAt p (nat_lit 55)) p, nat_lit 0, [], .none, .none, .none, .none, none, .none, .none, nat_lit 0⟩), ⟨[]⟩⟩
noncomputable abbrev o512_10 : OB := fun _ _ => ⟨(.type s5856160107412720595x4), none, (.fields ⟨[(.str z178 (nat_lit 874)), (.str z178 (nat_lit 875)), (.str z1 (nat_lit 876)), (.int (.ofNat (nat_lit 367)) (nat_lit 0)), (.int (.ofNat (nat_lit 1)) (nat_lit 0)), (.int (.ofNat (nat_lit 0)) (nat_lit 0)), (.int (.ofNat (nat_lit 0)) (nat_lit 0)), (.int (.ofNat (nat_lit 3)) (nat_lit 0)), (.ref (nat_lit 509)), (.bool true), (.int (.ofNat (nat_lit 181)) (nat_lit 0)), (.ref (nat_lit 510)), .none, .none, .none, (.ref (nat_lit 511)), (.int (.ofNat (nat_lit 877)) (nat_lit 0)), (.int (.ofNat (nat_lit 367)) (nat_lit 0)), (.str z1 (nat_lit 878))]⟩), ⟨[]⟩⟩
noncomputable abbrev o513_10 : OB := fun p _ => ⟨(.type s7174869446012820540x8), none, (.func ⟨z178, z178, fA (sAt p (nat_lit 55)), (.stmts (fB (sAt p (nat_lit 55)))), fS (sAt p (nat_lit 55)) p, nat_lit 3, [], .none, .none, .none, (.str z176 (nat_lit 872)), none, (.ref (nat_lit 512)), .none, nat_lit 0⟩), ⟨[]⟩⟩
noncomputable abbrev o514_10 : OB := fun _ _ => ⟨(.type s2766695959194262286x5), none, (.seq ⟨[]⟩ (nat_lit 0)), ⟨[]⟩⟩
noncomputable abbrev o515_10 : OB := fun _ _ => ⟨.none, none, (.fields ⟨[]⟩), ⟨[]⟩⟩
noncomputable abbrev z187 : Str := ⟨⟨[nat_lit 112, nat_lit 101, nat_lit 110]⟩⟩
noncomputable abbrev z188 : Str := ⟨⟨[nat_lit 109, nat_lit 97, nat_lit 110, nat_lit 121]⟩⟩
noncomputable abbrev z189 : Str := ⟨⟨[nat_lit 116, nat_lit 117, nat_lit 114, nat_lit 110]⟩⟩
noncomputable abbrev z190 : Str := ⟨⟨[nat_lit 102, nat_lit 114, nat_lit 101, nat_lit 115, nat_lit 104]⟩⟩
noncomputable abbrev z191 : Str := ⟨⟨[nat_lit 100, nat_lit 105, nat_lit 103, nat_lit 105, nat_lit 116]⟩⟩
noncomputable abbrev o516_10 : OB := fun _ _ => ⟨(.type s2766695959194262286x5), none, (.seq ⟨[(.str z187 (nat_lit 883)), (.str z188 (nat_lit 884)), (.str z189 (nat_lit 885)), (.str z190 (nat_lit 886)), (.str z191 (nat_lit 887))]⟩ (nat_lit 0)), ⟨[]⟩⟩
noncomputable abbrev o517_10 : OB := fun _ _ => ⟨(.type s2766695959194262286x5), none, (.seq ⟨[]⟩ (nat_lit 0)), ⟨[]⟩⟩
noncomputable abbrev o518_10 : OB := fun p _ => ⟨.none, none, (.func ⟨z179, z179, fA (sAt p (nat_lit 56)), (.stmts (fB (sAt p (nat_lit 56)))), fS (sAt p (nat_lit 56)) p, nat_lit 0, [], .none, .none, .none, .none, none, .none, .none, nat_lit 0⟩), ⟨[]⟩⟩
noncomputable abbrev o519_10 : OB := fun _ _ => ⟨(.type s5856160107412720595x4), none, (.fields ⟨[(.str z179 (nat_lit 880)), (.str z179 (nat_lit 881)), (.str z1 (nat_lit 882)), (.int (.ofNat (nat_lit 370)) (nat_lit 0)), (.int (.ofNat (nat_lit 2)) (nat_lit 0)), (.int (.ofNat (nat_lit 0)) (nat_lit 0)), (.int (.ofNat (nat_lit 0)) (nat_lit 0)), (.int (.ofNat (nat_lit 3)) (nat_lit 0)), (.ref (nat_lit 514)), (.bool true), (.int (.ofNat (nat_lit 181)) (nat_lit 0)), (.ref (nat_lit 515)), .none, (.ref (nat_lit 516)), (.ref (nat_lit 517)), (.ref (nat_lit 518)), (.int (.ofNat (nat_lit 888)) (nat_lit 0)), (.int (.ofNat (nat_lit 370)) (nat_lit 0)), (.str z1 (nat_lit 889))]⟩), ⟨[]⟩⟩
noncomputable abbrev o520_10 : OB := fun p _ => ⟨(.type s7174869446012820540x8), none, (.func ⟨z179, z179, fA (sAt p (nat_lit 56)), (.stmts (fB (sAt p (nat_lit 56)))), fS (sAt p (nat_lit 56)) p, nat_lit 3, [], .none, .none, .none, (.str z176 (nat_lit 872)), none, (.ref (nat_lit 519)), .none, nat_lit 0⟩), ⟨[]⟩⟩
noncomputable abbrev o521_10 : OB := fun _ _ => ⟨(.type s2766695959194262286x5), none, (.seq ⟨[]⟩ (nat_lit 0)), ⟨[]⟩⟩
noncomputable abbrev o522_10 : OB := fun _ _ => ⟨.none, none, (.fields ⟨[]⟩), ⟨[]⟩⟩
noncomputable abbrev z192 : Str := ⟨⟨[nat_lit 115, nat_lit 111, nat_lit 109, nat_lit 101]⟩⟩
noncomputable abbrev o523_10 : OB := fun _ _ => ⟨(.type s2766695959194262286x5), none, (.seq ⟨[(.str z187 (nat_lit 894)), (.str z192 (nat_lit 895))]⟩ (nat_lit 0)), ⟨[]⟩⟩
noncomputable abbrev o524_10 : OB := fun _ _ => ⟨(.type s2766695959194262286x5), none, (.seq ⟨[]⟩ (nat_lit 0)), ⟨[]⟩⟩
noncomputable abbrev o525_10 : OB := fun p _ => ⟨.none, none, (.func ⟨z180, z180, fA (sAt p (nat_lit 57)), (.stmts (fB (sAt p (nat_lit 57)))), fS (sAt p (nat_lit 57)) p, nat_lit 0, [], .none, .none, .none, .none, none, .none, .none, nat_lit 0⟩), ⟨[]⟩⟩
noncomputable abbrev o526_10 : OB := fun _ _ => ⟨(.type s5856160107412720595x4), none, (.fields ⟨[(.str z180 (nat_lit 891)), (.str z180 (nat_lit 892)), (.str z1 (nat_lit 893)), (.int (.ofNat (nat_lit 379)) (nat_lit 0)), (.int (.ofNat (nat_lit 2)) (nat_lit 0)), (.int (.ofNat (nat_lit 0)) (nat_lit 0)), (.int (.ofNat (nat_lit 0)) (nat_lit 0)), (.int (.ofNat (nat_lit 3)) (nat_lit 0)), (.ref (nat_lit 521)), (.bool true), (.int (.ofNat (nat_lit 181)) (nat_lit 0)), (.ref (nat_lit 522)), .none, (.ref (nat_lit 523)), (.ref (nat_lit 524)), (.ref (nat_lit 525)), (.int (.ofNat (nat_lit 896)) (nat_lit 0)), (.int (.ofNat (nat_lit 379)) (nat_lit 0)), (.str z1 (nat_lit 897))]⟩), ⟨[]⟩⟩
noncomputable abbrev o527_10 : OB := fun p _ => ⟨(.type s7174869446012820540x8), none, (.func ⟨z180, z180, fA (sAt p (nat_lit 57)), (.stmts (fB (sAt p (nat_lit 57)))), fS (sAt p (nat_lit 57)) p, nat_lit 3, [], .none, .none, .none, (.str z176 (nat_lit 872)), none, (.ref (nat_lit 526)), .none, nat_lit 0⟩), ⟨[]⟩⟩
noncomputable abbrev o528_10 : OB := fun _ _ => ⟨(.type s2766695959194262286x5), none, (.seq ⟨[]⟩ (nat_lit 0)), ⟨[]⟩⟩
noncomputable abbrev o529_10 : OB := fun _ _ => ⟨.none, none, (.fields ⟨[]⟩), ⟨[]⟩⟩
noncomputable abbrev o530_10 : OB := fun p _ => ⟨.none, none, (.func ⟨z181, z181, fA (sAt p (nat_lit 58)), (.stmts (fB (sAt p (nat_lit 58)))), fS (sAt p (nat_lit 58)) p, nat_lit 0, [], .none, .none, .none, .none, none, .none, .none, nat_lit 0⟩), ⟨[]⟩⟩
noncomputable abbrev o531_10 : OB := fun _ _ => ⟨(.type s5856160107412720595x4), none, (.fields ⟨[(.str z181 (nat_lit 899)), (.str z181 (nat_lit 900)), (.str z1 (nat_lit 901)), (.int (.ofNat (nat_lit 381)) (nat_lit 0)), (.int (.ofNat (nat_lit 1)) (nat_lit 0)), (.int (.ofNat (nat_lit 0)) (nat_lit 0)), (.int (.ofNat (nat_lit 0)) (nat_lit 0)), (.int (.ofNat (nat_lit 3)) (nat_lit 0)), (.ref (nat_lit 528)), (.bool true), (.int (.ofNat (nat_lit 181)) (nat_lit 0)), (.ref (nat_lit 529)), .none, .none, .none, (.ref (nat_lit 530)), (.int (.ofNat (nat_lit 902)) (nat_lit 0)), (.int (.ofNat (nat_lit 381)) (nat_lit 0)), (.str z1 (nat_lit 903))]⟩), ⟨[]⟩⟩
noncomputable abbrev o532_10 : OB := fun p _ => ⟨(.type s7174869446012820540x8), none, (.func ⟨z181, z181, fA (sAt p (nat_lit 58)), (.stmts (fB (sAt p (nat_lit 58)))), fS (sAt p (nat_lit 58)) p, nat_lit 3, [], .none, .none, .none, (.str z176 (nat_lit 872)), none, (.ref (nat_lit 531)), .none, nat_lit 0⟩), ⟨[]⟩⟩
noncomputable abbrev tr10 (P : Params) : BT := (((((((((((((((((((((((((((((((((((((((((((((((((((((((((tr9 P).ins (nat_lit 3) (o3_10 prgQ P)).ins (nat_lit 12) (o12_10 prgQ P)).ins (nat_lit 479) (o479_10 prgQ P)).ins (nat_lit 480) (o480_10 prgQ P)).ins (nat_lit 481) (o481_10 prgQ P)).ins (nat_lit 482) (o482_10 prgQ P)).ins (nat_lit 483) (o483_10 prgQ P)).ins (nat_lit 484) (o484_10 prgQ P)).ins (nat_lit 485) (o485_10 prgQ P)).ins (nat_lit 486) (o486_10 prgQ P)).ins (nat_lit 487) (o487_10 prgQ P)).ins (nat_lit 488) (o488_10 prgQ P)).ins (nat_lit 489) (o489_10 prgQ P)).ins (nat_lit 490) (o490_10 prgQ P)).ins (nat_lit 491) (o491_10 prgQ P)).ins (nat_lit 492) (o492_10 prgQ P)).ins (nat_lit 493) (o493_10 prgQ P)).ins (nat_lit 494) (o494_10 prgQ P)).ins (nat_lit 495) (o495_10 prgQ P)).ins (nat_lit 496) (o496_10 prgQ P)).ins (nat_lit 497) (o497_10 prgQ P)).ins (nat_lit 498) (o498_10 prgQ P)).ins (nat_lit 499) (o499_10 prgQ P)).ins (nat_lit 500) (o500_10 prgQ P)).ins (nat_lit 501) (o501_10 prgQ P)).ins (nat_lit 502) (o502_10 prgQ P)).ins (nat_lit 503) (o503_10 prgQ P)).ins (nat_lit 504) (o504_10 prgQ P)).ins (nat_lit 505) (o505_10 prgQ P)).ins (nat_lit 506) (o506_10 prgQ P)).ins (nat_lit 507) (o507_10 prgQ P)).ins (nat_lit 508) (o508_10 prgQ P)).ins (nat_lit 509) (o509_10 prgQ P)).ins (nat_lit 510) (o510_10 prgQ P)).ins (nat_lit 511) (o511_10 prgQ P)).ins (nat_lit 512) (o512_10 prgQ P)).ins (nat_lit 513) (o513_10 prgQ P)).ins (nat_lit 514) (o514_10 prgQ P)).ins (nat_lit 515) (o515_10 prgQ P)).ins (nat_lit 516) (o516_10 prgQ P)).ins (nat_lit 517) (o517_10 prgQ P)).ins (nat_lit 518) (o518_10 prgQ P)).ins (nat_lit 519) (o519_10 prgQ P)).ins (nat_lit 520) (o520_10 prgQ P)).ins (nat_lit 521) (o521_10 prgQ P)).ins (nat_lit 522) (o522_10 prgQ P)).ins (nat_lit 523) (o523_10 prgQ P)).ins (nat_lit 524) (o524_10 prgQ P)).ins (nat_lit 525) (o525_10 prgQ P)).ins (nat_lit 526) (o526_10 prgQ P)).ins (nat_lit 527) (o527_10 prgQ P)).ins (nat_lit 528) (o528_10 prgQ P)).ins (nat_lit 529) (o529_10 prgQ P)).ins (nat_lit 530) (o530_10 prgQ P)).ins (nat_lit 531) (o531_10 prgQ P)).ins (nat_lit 532) (o532_10 prgQ P))
noncomputable abbrev st10 (w : World) (os : OsState) : SharedT := ⟨tr10 w.params, nat_lit 533, lifeQ, ⟨[]⟩, boot_drawn, nat_lit 905, os⟩
/-! GROUP 10 52 7 397 [] [] from ⟨nat_lit 235, nat_lit 0, nat_lit 354, nat_lit 20⟩ to ⟨nat_lit 381, nat_lit 0, nat_lit 382, nat_lit 77⟩ -/
noncomputable abbrev z193 : Str := ⟨⟨[nat_lit 95, nat_lit 108, nat_lit 97, nat_lit 119, nat_lit 95, nat_lit 114, nat_lit 101, nat_lit 97, nat_lit 100, nat_lit 101, nat_lit 114]⟩⟩
noncomputable abbrev z194 : Str := ⟨⟨[nat_lit 95, nat_lit 108, nat_lit 97, nat_lit 119, nat_lit 95, nat_lit 108, nat_lit 105, nat_lit 116, nat_lit 101, nat_lit 114, nat_lit 97, nat_lit 108]⟩⟩
noncomputable abbrev z195 : Str := ⟨⟨[nat_lit 95, nat_lit 108, nat_lit 97, nat_lit 119, nat_lit 95, nat_lit 115, nat_lit 111, nat_lit 114, nat_lit 116, nat_lit 115]⟩⟩
noncomputable abbrev z196 : Str := ⟨⟨[nat_lit 95, nat_lit 108, nat_lit 97, nat_lit 119, nat_lit 95, nat_lit 98, nat_lit 111, nat_lit 117, nat_lit 110, nat_lit 100, nat_lit 115]⟩⟩
noncomputable abbrev z197 : Str := ⟨⟨[nat_lit 95, nat_lit 108, nat_lit 97, nat_lit 119, nat_lit 95, nat_lit 109, nat_lit 97, nat_lit 121]⟩⟩
noncomputable abbrev z198 : Str := ⟨⟨[nat_lit 95, nat_lit 108, nat_lit 97, nat_lit 119, nat_lit 95, nat_lit 114, nat_lit 105, nat_lit 103, nat_lit 104, nat_lit 116]⟩⟩
noncomputable abbrev z199 : Str := ⟨⟨[nat_lit 108, nat_lit 97, nat_lit 119]⟩⟩
noncomputable abbrev o3_11 : OB := fun p P => ⟨(.type s14018661285674007319x4), none, (.dict ⟨(⟨PyData.keyHash P z5, (.str z5 (nat_lit 165)), (.str z176 (nat_lit 872))⟩ :: ⟨PyData.keyHash P z7, (.str z7 (nat_lit 166)), .none⟩ :: ⟨PyData.keyHash P z8, (.str z8 (nat_lit 167)), .none⟩ :: ⟨PyData.keyHash P z9, (.str z9 (nat_lit 168)), (.builtin s7097527257260152453x26)⟩ :: ⟨PyData.keyHash P z10, (.str z10 (nat_lit 169)), .none⟩ :: ⟨PyData.keyHash P z11, (.str z11 (nat_lit 170)), (.ref (nat_lit 6))⟩ :: ⟨PyData.keyHash P z12, (.str z12 (nat_lit 171)), (.ref (nat_lit 4))⟩ :: ⟨PyData.keyHash P z13, (.str z13 (nat_lit 173)), (.str z1 (nat_lit 172))⟩ :: ⟨PyData.keyHash P z14, (.str z14 (nat_lit 174)), .none⟩ :: ⟨PyData.keyHash P z15, (.str z15 (nat_lit 193)), (.ref (nat_lit 21))⟩ :: ⟨PyData.keyHash P z16, (.str z16 (nat_lit 235)), (.ref (nat_lit 47))⟩ :: ⟨PyData.keyHash P z30, (.str z30 (nat_lit 251)), (.ref (nat_lit 60))⟩ :: ⟨PyData.keyHash P z32, (.str z32 (nat_lit 267)), (.ref (nat_lit 72))⟩ :: ⟨PyData.keyHash P z33, (.str z33 (nat_lit 271)), (.str z34 (nat_lit 270))⟩ :: ⟨PyData.keyHash P z35, (.str z35 (nat_lit 279)), (.ref (nat_lit 81))⟩ :: ⟨PyData.keyHash P z36, (.str z36 (nat_lit 288)), (.ref (nat_lit 89))⟩ :: ⟨PyData.keyHash P z37, (.str z37 (nat_lit 295)), (.ref (nat_lit 96))⟩ :: ⟨PyData.keyHash P z38, (.str z38 (nat_lit 306)), (.ref (nat_lit 103))⟩ :: ⟨PyData.keyHash P z39, (.str z39 (nat_lit 313)), (.ref (nat_lit 110))⟩ :: ⟨PyData.keyHash P z49, (.str z49 (nat_lit 320)), (.ref (nat_lit 117))⟩ :: ⟨PyData.keyHash P z50, (.str z50 (nat_lit 329)), (.ref (nat_lit 124))⟩ :: ⟨PyData.keyHash P z51, (.str z51 (nat_lit 342)), (.ref (nat_lit 131))⟩ :: ⟨PyData.keyHash P z52, (.str z52 (nat_lit 346)), (.int (.ofNat (nat_lit 7)) (nat_lit 345))⟩ :: ⟨PyData.keyHash P z61, (.str z61 (nat_lit 380)), (.ref (nat_lit 132))⟩ :: ⟨PyData.keyHash P z76, (.str z76 (nat_lit 389)), (.ref (nat_lit 139))⟩ :: ⟨PyData.keyHash P z77, (.str z77 (nat_lit 398)), (.ref (nat_lit 146))⟩ :: ⟨PyData.keyHash P z78, (.str z78 (nat_lit 408)), (.ref (nat_lit 153))⟩ :: ⟨PyData.keyHash P z79, (.str z79 (nat_lit 420)), (.ref (nat_lit 160))⟩ :: ⟨PyData.keyHash P z80, (.str z80 (nat_lit 428)), (.ref (nat_lit 167))⟩ :: ⟨PyData.keyHash P z81, (.str z81 (nat_lit 435)), (.ref (nat_lit 174))⟩ :: ⟨PyData.keyHash P z82, (.str z82 (nat_lit 444)), (.ref (nat_lit 181))⟩ :: ⟨PyData.keyHash P z83, (.str z83 (nat_lit 448)), (.int (.ofNat (nat_lit 20)) (nat_lit 447))⟩ :: ⟨PyData.keyHash P z84, (.str z84 (nat_lit 455)), (.ref (nat_lit 188))⟩ :: ⟨PyData.keyHash P z85, (.str z85 (nat_lit 464)), (.ref (nat_lit 195))⟩ :: ⟨PyData.keyHash P z86, (.str z86 (nat_lit 474)), (.ref (nat_lit 202))⟩ :: ⟨PyData.keyHash P z87, (.str z87 (nat_lit 484)), (.ref (nat_lit 209))⟩ :: ⟨PyData.keyHash P z88, (.str z88 (nat_lit 495)), (.ref (nat_lit 216))⟩ :: ⟨PyData.keyHash P z103, (.str z103 (nat_lit 504)), (.ref (nat_lit 223))⟩ :: ⟨PyData.keyHash P z104, (.str z104 (nat_lit 513)), (.ref (nat_lit 230))⟩ :: ⟨PyData.keyHash P z105, (.str z105 (nat_lit 523)), (.ref (nat_lit 237))⟩ :: ⟨PyData.keyHash P z106, (.str z106 (nat_lit 527)), (.str z107 (nat_lit 526))⟩ :: ⟨PyData.keyHash P z108, (.str z108 (nat_lit 534)), (.ref (nat_lit 244))⟩ :: ⟨PyData.keyHash P z109, (.str z109 (nat_lit 543)), (.ref (nat_lit 251))⟩ :: ⟨PyData.keyHash P z110, (.str z110 (nat_lit 552)), (.ref (nat_lit 258))⟩ :: ⟨PyData.keyHash P z111, (.str z111 (nat_lit 561)), (.ref (nat_lit 265))⟩ :: ⟨PyData.keyHash P z112, (.str z112 (nat_lit 570)), (.ref (nat_lit 272))⟩ :: ⟨PyData.keyHash P z113, (.str z113 (nat_lit 578)), (.ref (nat_lit 279))⟩ :: ⟨PyData.keyHash P z114, (.str z114 (nat_lit 588)), (.ref (nat_lit 286))⟩ :: ⟨PyData.keyHash P z115, (.str z115 (nat_lit 600)), (.ref (nat_lit 293))⟩ :: ⟨PyData.keyHash P z116, (.str z116 (nat_lit 604)), (.int (.ofNat (nat_lit 255)) (nat_lit 603))⟩ :: ⟨PyData.keyHash P z117, (.str z117 (nat_lit 606)), (.str (longQ p) (nat_lit 605))⟩ :: ⟨PyData.keyHash P z126, (.str z126 (nat_lit 613)), (.ref (nat_lit 300))⟩ :: ⟨PyData.keyHash P z127, (.str z127 (nat_lit 619)), (.ref (nat_lit 305))⟩ :: ⟨PyData.keyHash P z129, (.str z129 (nat_lit 825)), (.ref (nat_lit 474))⟩ :: ⟨PyData.keyHash P z177, (.str z177 (nat_lit 871)), (.ref (nat_lit 504))⟩ :: ⟨PyData.keyHash P z178, (.str z178 (nat_lit 879)), (.ref (nat_lit 513))⟩ :: ⟨PyData.keyHash P z179, (.str z179 (nat_lit 890)), (.ref (nat_lit 520))⟩ :: ⟨PyData.keyHash P z180, (.str z180 (nat_lit 898)), (.ref (nat_lit 527))⟩ :: ⟨PyData.keyHash P z181, (.str z181 (nat_lit 904)), (.ref (nat_lit 532))⟩ :: ⟨PyData.keyHash P z193, (.str z193 (nat_lit 910)), (.ref (nat_lit 537))⟩ :: ⟨PyData.keyHash P z194, (.str z194 (nat_lit 916)), (.ref (nat_lit 542))⟩ :: ⟨PyData.keyHash P z195, (.str z195 (nat_lit 929)), (.ref (nat_lit 549))⟩ :: ⟨PyData.keyHash P z196, (.str z196 (nat_lit 940)), (.ref (nat_lit 556))⟩ :: ⟨PyData.keyHash P z197, (.str z197 (nat_lit 948)), (.ref (nat_lit 563))⟩ :: ⟨PyData.keyHash P z198, (.str z198 (nat_lit 966)), (.ref (nat_lit 570))⟩ :: ⟨PyData.keyHash P z199, (.str z199 (nat_lit 978)), (.ref (nat_lit 577))⟩ :: [])⟩ (nat_lit 66)), ⟨[]⟩⟩
noncomputable abbrev o12_11 : OB := fun _ _ => ⟨.none, none, (.fields ⟨((.int (.ofNat (nat_lit 1)) (nat_lit 0)) :: (.int (.ofNat (nat_lit 0)) (nat_lit 0)) :: (.ref (nat_lit 20)) :: (.int (.ofNat (nat_lit 5)) (nat_lit 0)) :: (.int (.ofNat (nat_lit 0)) (nat_lit 0)) :: (.ref (nat_lit 27)) :: (.int (.ofNat (nat_lit 14)) (nat_lit 0)) :: (.int (.ofNat (nat_lit 0)) (nat_lit 0)) :: (.ref (nat_lit 56)) :: (.int (.ofNat (nat_lit 16)) (nat_lit 0)) :: (.int (.ofNat (nat_lit 0)) (nat_lit 0)) :: (.ref (nat_lit 68)) :: (.int (.ofNat (nat_lit 20)) (nat_lit 0)) :: (.int (.ofNat (nat_lit 0)) (nat_lit 0)) :: (.ref (nat_lit 80)) :: (.int (.ofNat (nat_lit 24)) (nat_lit 0)) :: (.int (.ofNat (nat_lit 0)) (nat_lit 0)) :: (.ref (nat_lit 88)) :: (.int (.ofNat (nat_lit 31)) (nat_lit 0)) :: (.int (.ofNat (nat_lit 0)) (nat_lit 0)) :: (.ref (nat_lit 95)) :: (.int (.ofNat (nat_lit 33)) (nat_lit 0)) :: (.int (.ofNat (nat_lit 0)) (nat_lit 0)) :: (.ref (nat_lit 102)) :: (.int (.ofNat (nat_lit 41)) (nat_lit 0)) :: (.int (.ofNat (nat_lit 0)) (nat_lit 0)) :: (.ref (nat_lit 109)) :: (.int (.ofNat (nat_lit 43)) (nat_lit 0)) :: (.int (.ofNat (nat_lit 0)) (nat_lit 0)) :: (.ref (nat_lit 116)) :: (.int (.ofNat (nat_lit 45)) (nat_lit 0)) :: (.int (.ofNat (nat_lit 0)) (nat_lit 0)) :: (.ref (nat_lit 123)) :: (.int (.ofNat (nat_lit 50)) (nat_lit 0)) :: (.int (.ofNat (nat_lit 0)) (nat_lit 0)) :: (.ref (nat_lit 130)) :: (.int (.ofNat (nat_lit 68)) (nat_lit 0)) :: (.int (.ofNat (nat_lit 0)) (nat_lit 0)) :: (.ref (nat_lit 138)) :: (.int (.ofNat (nat_lit 81)) (nat_lit 0)) :: (.int (.ofNat (nat_lit 0)) (nat_lit 0)) :: (.ref (nat_lit 145)) :: (.int (.ofNat (nat_lit 89)) (nat_lit 0)) :: (.int (.ofNat (nat_lit 0)) (nat_lit 0)) :: (.ref (nat_lit 152)) :: (.int (.ofNat (nat_lit 96)) (nat_lit 0)) :: (.int (.ofNat (nat_lit 0)) (nat_lit 0)) :: (.ref (nat_lit 159)) :: (.int (.ofNat (nat_lit 106)) (nat_lit 0)) :: (.int (.ofNat (nat_lit 0)) (nat_lit 0)) :: (.ref (nat_lit 166)) :: (.int (.ofNat (nat_lit 113)) (nat_lit 0)) :: (.int (.ofNat (nat_lit 0)) (nat_lit 0)) :: (.ref (nat_lit 173)) :: (.int (.ofNat (nat_lit 117)) (nat_lit 0)) :: (.int (.ofNat (nat_lit 0)) (nat_lit 0)) :: (.ref (nat_lit 180)) :: (.int (.ofNat (nat_lit 128)) (nat_lit 0)) :: (.int (.ofNat (nat_lit 0)) (nat_lit 0)) :: (.ref (nat_lit 187)) :: (.int (.ofNat (nat_lit 130)) (nat_lit 0)) :: (.int (.ofNat (nat_lit 0)) (nat_lit 0)) :: (.ref (nat_lit 194)) :: (.int (.ofNat (nat_lit 135)) (nat_lit 0)) :: (.int (.ofNat (nat_lit 0)) (nat_lit 0)) :: (.ref (nat_lit 201)) :: (.int (.ofNat (nat_lit 143)) (nat_lit 0)) :: (.int (.ofNat (nat_lit 0)) (nat_lit 0)) :: (.ref (nat_lit 208)) :: (.int (.ofNat (nat_lit 149)) (nat_lit 0)) :: (.int (.ofNat (nat_lit 0)) (nat_lit 0)) :: (.ref (nat_lit 215)) :: (.int (.ofNat (nat_lit 159)) (nat_lit 0)) :: (.int (.ofNat (nat_lit 0)) (nat_lit 0)) :: (.ref (nat_lit 222)) :: (.int (.ofNat (nat_lit 164)) (nat_lit 0)) :: (.int (.ofNat (nat_lit 0)) (nat_lit 0)) :: (.ref (nat_lit 229)) :: (.int (.ofNat (nat_lit 170)) (nat_lit 0)) :: (.int (.ofNat (nat_lit 0)) (nat_lit 0)) :: (.ref (nat_lit 236)) :: (.int (.ofNat (nat_lit 180)) (nat_lit 0)) :: (.int (.ofNat (nat_lit 0)) (nat_lit 0)) :: (.ref (nat_lit 243)) :: (.int (.ofNat (nat_lit 184)) (nat_lit 0)) :: (.int (.ofNat (nat_lit 0)) (nat_lit 0)) :: (.ref (nat_lit 250)) :: (.int (.ofNat (nat_lit 188)) (nat_lit 0)) :: (.int (.ofNat (nat_lit 0)) (nat_lit 0)) :: (.ref (nat_lit 257)) :: (.int (.ofNat (nat_lit 192)) (nat_lit 0)) :: (.int (.ofNat (nat_lit 0)) (nat_lit 0)) :: (.ref (nat_lit 264)) :: (.int (.ofNat (nat_lit 198)) (nat_lit 0)) :: (.int (.ofNat (nat_lit 0)) (nat_lit 0)) :: (.ref (nat_lit 271)) :: (.int (.ofNat (nat_lit 209)) (nat_lit 0)) :: (.int (.ofNat (nat_lit 0)) (nat_lit 0)) :: (.ref (nat_lit 278)) :: (.int (.ofNat (nat_lit 213)) (nat_lit 0)) :: (.int (.ofNat (nat_lit 0)) (nat_lit 0)) :: (.ref (nat_lit 285)) :: (.int (.ofNat (nat_lit 219)) (nat_lit 0)) :: (.int (.ofNat (nat_lit 0)) (nat_lit 0)) :: (.ref (nat_lit 292)) :: (.int (.ofNat (nat_lit 228)) (nat_lit 0)) :: (.int (.ofNat (nat_lit 0)) (nat_lit 0)) :: (.ref (nat_lit 299)) :: (.int (.ofNat (nat_lit 230)) (nat_lit 0)) :: (.int (.ofNat (nat_lit 0)) (nat_lit 0)) :: (.ref (nat_lit 304)) :: (.int (.ofNat (nat_lit 235)) (nat_lit 0)) :: (.int (.ofNat (nat_lit 0)) (nat_lit 0)) :: (.ref (nat_lit 311)) :: (.int (.ofNat (nat_lit 356)) (nat_lit 0)) :: (.int (.ofNat (nat_lit 0)) (nat_lit 0)) :: (.ref (nat_lit 484)) :: (.int (.ofNat (nat_lit 367)) (nat_lit 0)) :: (.int (.ofNat (nat_lit 0)) (nat_lit 0)) :: (.ref (nat_lit 512)) :: (.int (.ofNat (nat_lit 370)) (nat_lit 0)) :: (.int (.ofNat (nat_lit 0)) (nat_lit 0)) :: (.ref (nat_lit 519)) :: (.int (.ofNat (nat_lit 379)) (nat_lit 0)) :: (.int (.ofNat (nat_lit 0)) (nat_lit 0)) :: (.ref (nat_lit 526)) :: (.int (.ofNat (nat_lit 381)) (nat_lit 0)) :: (.int (.ofNat (nat_lit 0)) (nat_lit 0)) :: (.ref (nat_lit 531)) :: (.int (.ofNat (nat_lit 383)) (nat_lit 0)) :: (.int (.ofNat (nat_lit 0)) (nat_lit 0)) :: (.ref (nat_lit 536)) :: (.int (.ofNat (nat_lit 385)) (nat_lit 0)) :: (.int (.ofNat (nat_lit 0)) (nat_lit 0)) :: (.ref (nat_lit 541)) :: (.int (.ofNat (nat_lit 388)) (nat_lit 0)) :: (.int (.ofNat (nat_lit 0)) (nat_lit 0)) :: (.ref (nat_lit 548)) :: (.int (.ofNat (nat_lit 395)) (nat_lit 0)) :: (.int (.ofNat (nat_lit 0)) (nat_lit 0)) :: (.ref (nat_lit 555)) :: (.int (.ofNat (nat_lit 401)) (nat_lit 0)) :: (.int (.ofNat (nat_lit 0)) (nat_lit 0)) :: (.ref (nat_lit 562)) :: (.int (.ofNat (nat_lit 405)) (nat_lit 0)) :: (.int (.ofNat (nat_lit 0)) (nat_lit 0)) :: (.ref (nat_lit 569)) :: (.int (.ofNat (nat_lit 416)) (nat_lit 0)) :: (.int (.ofNat (nat_lit 0)) (nat_lit 0)) :: (.ref (nat_lit 576)) :: [])⟩), ⟨[]⟩⟩
noncomputable abbrev o533_11 : OB := fun _ _ => ⟨(.type s2766695959194262286x5), none, (.seq ⟨[]⟩ (nat_lit 0)), ⟨[]⟩⟩
noncomputable abbrev o534_11 : OB := fun _ _ => ⟨.none, none, (.fields ⟨[]⟩), ⟨[]⟩⟩
noncomputable abbrev o535_11 : OB := fun p _ => ⟨.none, none, (.func ⟨z193, z193, fA (sAt p (nat_lit 59)), (.stmts (fB (sAt p (nat_lit 59)))), fS (sAt p (nat_lit 59)) p, nat_lit 0, [], .none, .none, .none, .none, none, .none, .none, nat_lit 0⟩), ⟨[]⟩⟩
noncomputable abbrev o536_11 : OB := fun _ _ => ⟨(.type s5856160107412720595x4), none, (.fields ⟨[(.str z193 (nat_lit 905)), (.str z193 (nat_lit 906)), (.str z1 (nat_lit 907)), (.int (.ofNat (nat_lit 383)) (nat_lit 0)), (.int (.ofNat (nat_lit 1)) (nat_lit 0)), (.int (.ofNat (nat_lit 0)) (nat_lit 0)), (.int (.ofNat (nat_lit 0)) (nat_lit 0)), (.int (.ofNat (nat_lit 3)) (nat_lit 0)), (.ref (nat_lit 533)), (.bool true), (.int (.ofNat (nat_lit 181)) (nat_lit 0)), (.ref (nat_lit 534)), .none, .none, .none, (.ref (nat_lit 535)), (.int (.ofNat (nat_lit 908)) (nat_lit 0)), (.int (.ofNat (nat_lit 383)) (nat_lit 0)), (.str z1 (nat_lit 909))]⟩), ⟨[]⟩⟩
noncomputable abbrev o537_11 : OB := fun p _ => ⟨(.type s7174869446012820540x8), none, (.func ⟨z193, z193, fA (sAt p (nat_lit 59)), (.stmts (fB (sAt p (nat_lit 59)))), fS (sAt p (nat_lit 59)) p, nat_lit 3, [], .none, .none, .none, (.str z176 (nat_lit 872)), none, (.ref (nat_lit 536)), .none, nat_lit 0⟩), ⟨[]⟩⟩
noncomputable abbrev o538_11 : OB := fun _ _ => ⟨(.type s2766695959194262286x5), none, (.seq ⟨[]⟩ (nat_lit 0)), ⟨[]⟩⟩
noncomputable abbrev o539_11 : OB := fun _ _ => ⟨.none, none, (.fields ⟨[]⟩), ⟨[]⟩⟩
noncomputable abbrev o540_11 : OB := fun p _ => ⟨.none, none, (.func ⟨z194, z194, fA (sAt p (nat_lit 60)), (.stmts (fB (sAt p (nat_lit 60)))), fS (sAt p (nat_lit 60)) p, nat_lit 0, [], .none, .none, .none, .none, none, .none, .none, nat_lit 0⟩), ⟨[]⟩⟩
noncomputable abbrev o541_11 : OB := fun _ _ => ⟨(.type s5856160107412720595x4), none, (.fields ⟨[(.str z194 (nat_lit 911)), (.str z194 (nat_lit 912)), (.str z1 (nat_lit 913)), (.int (.ofNat (nat_lit 385)) (nat_lit 0)), (.int (.ofNat (nat_lit 2)) (nat_lit 0)), (.int (.ofNat (nat_lit 0)) (nat_lit 0)), (.int (.ofNat (nat_lit 0)) (nat_lit 0)), (.int (.ofNat (nat_lit 3)) (nat_lit 0)), (.ref (nat_lit 538)), (.bool true), (.int (.ofNat (nat_lit 181)) (nat_lit 0)), (.ref (nat_lit 539)), .none, .none, .none, (.ref (nat_lit 540)), (.int (.ofNat (nat_lit 914)) (nat_lit 0)), (.int (.ofNat (nat_lit 385)) (nat_lit 0)), (.str z1 (nat_lit 915))]⟩), ⟨[]⟩⟩
noncomputable abbrev o542_11 : OB := fun p _ => ⟨(.type s7174869446012820540x8), none, (.func ⟨z194, z194, fA (sAt p (nat_lit 60)), (.stmts (fB (sAt p (nat_lit 60)))), fS (sAt p (nat_lit 60)) p, nat_lit 3, [], .none, .none, .none, (.str z176 (nat_lit 872)), none, (.ref (nat_lit 541)), .none, nat_lit 0⟩), ⟨[]⟩⟩
noncomputable abbrev o543_11 : OB := fun _ _ => ⟨(.type s2766695959194262286x5), none, (.seq ⟨[]⟩ (nat_lit 0)), ⟨[]⟩⟩
noncomputable abbrev o544_11 : OB := fun _ _ => ⟨.none, none, (.fields ⟨[]⟩), ⟨[]⟩⟩
noncomputable abbrev z200 : Str := ⟨⟨[nat_lit 114, nat_lit 111, nat_lit 119, nat_lit 115]⟩⟩
noncomputable abbrev z201 : Str := ⟨⟨[nat_lit 116, nat_lit 114, nat_lit 101, nat_lit 101]⟩⟩
noncomputable abbrev o545_11 : OB := fun _ _ => ⟨(.type s2766695959194262286x5), none, (.seq ⟨[(.str z187 (nat_lit 920)), (.str z128 (nat_lit 921)), (.str z55 (nat_lit 922)), (.str z200 (nat_lit 923)), (.str z46 (nat_lit 924)), (.str z149 (nat_lit 925)), (.str z201 (nat_lit 926))]⟩ (nat_lit 0)), ⟨[]⟩⟩
noncomputable abbrev o546_11 : OB := fun _ _ => ⟨(.type s2766695959194262286x5), none, (.seq ⟨[]⟩ (nat_lit 0)), ⟨[]⟩⟩
noncomputable abbrev o547_11 : OB := fun p _ => ⟨.none, none, (.func ⟨z195, z195, fA (sAt p (nat_lit 61)), (.stmts (fB (sAt p (nat_lit 61)))), fS (sAt p (nat_lit 61)) p, nat_lit 0, [], .none, .none, .none, .none, none, .none, .none, nat_lit 0⟩), ⟨[]⟩⟩
noncomputable abbrev o548_11 : OB := fun _ _ => ⟨(.type s5856160107412720595x4), none, (.fields ⟨[(.str z195 (nat_lit 917)), (.str z195 (nat_lit 918)), (.str z1 (nat_lit 919)), (.int (.ofNat (nat_lit 388)) (nat_lit 0)), (.int (.ofNat (nat_lit 1)) (nat_lit 0)), (.int (.ofNat (nat_lit 0)) (nat_lit 0)), (.int (.ofNat (nat_lit 0)) (nat_lit 0)), (.int (.ofNat (nat_lit 3)) (nat_lit 0)), (.ref (nat_lit 543)), (.bool true), (.int (.ofNat (nat_lit 181)) (nat_lit 0)), (.ref (nat_lit 544)), .none, (.ref (nat_lit 545)), (.ref (nat_lit 546)), (.ref (nat_lit 547)), (.int (.ofNat (nat_lit 927)) (nat_lit 0)), (.int (.ofNat (nat_lit 388)) (nat_lit 0)), (.str z1 (nat_lit 928))]⟩), ⟨[]⟩⟩
noncomputable abbrev o549_11 : OB := fun p _ => ⟨(.type s7174869446012820540x8), none, (.func ⟨z195, z195, fA (sAt p (nat_lit 61)), (.stmts (fB (sAt p (nat_lit 61)))), fS (sAt p (nat_lit 61)) p, nat_lit 3, [], .none, .none, .none, (.str z176 (nat_lit 872)), none, (.ref (nat_lit 548)), .none, nat_lit 0⟩), ⟨[]⟩⟩
noncomputable abbrev o550_11 : OB := fun _ _ => ⟨(.type s2766695959194262286x5), none, (.seq ⟨[]⟩ (nat_lit 0)), ⟨[]⟩⟩
noncomputable abbrev o551_11 : OB := fun _ _ => ⟨.none, none, (.fields ⟨[]⟩), ⟨[]⟩⟩
noncomputable abbrev z202 : Str := ⟨⟨[nat_lit 109, nat_lit 111, nat_lit 114, nat_lit 101]⟩⟩
noncomputable abbrev o552_11 : OB := fun _ _ => ⟨(.type s2766695959194262286x5), none, (.seq ⟨[(.str z187 (nat_lit 933)), (.str z149 (nat_lit 934)), (.str z22 (nat_lit 935)), (.str z26 (nat_lit 936)), (.str z202 (nat_lit 937))]⟩ (nat_lit 0)), ⟨[]⟩⟩
noncomputable abbrev o553_11 : OB := fun _ _ => ⟨(.type s2766695959194262286x5), none, (.seq ⟨[]⟩ (nat_lit 0)), ⟨[]⟩⟩
noncomputable abbrev o554_11 : OB := fun p _ => ⟨.none, none, (.func ⟨z196, z196, fA (sAt p (nat_lit 62)), (.stmts (fB (sAt p (nat_lit 62)))), fS (sAt p (nat_lit 62)) p, nat_lit 0, [], .none, .none, .none, .none, none, .none, .none, nat_lit 0⟩), ⟨[]⟩⟩
noncomputable abbrev o555_11 : OB := fun _ _ => ⟨(.type s5856160107412720595x4), none, (.fields ⟨[(.str z196 (nat_lit 930)), (.str z196 (nat_lit 931)), (.str z1 (nat_lit 932)), (.int (.ofNat (nat_lit 395)) (nat_lit 0)), (.int (.ofNat (nat_lit 1)) (nat_lit 0)), (.int (.ofNat (nat_lit 0)) (nat_lit 0)), (.int (.ofNat (nat_lit 0)) (nat_lit 0)), (.int (.ofNat (nat_lit 3)) (nat_lit 0)), (.ref (nat_lit 550)), (.bool true), (.int (.ofNat (nat_lit 181)) (nat_lit 0)), (.ref (nat_lit 551)), .none, (.ref (nat_lit 552)), (.ref (nat_lit 553)), (.ref (nat_lit 554)), (.int (.ofNat (nat_lit 938)) (nat_lit 0)), (.int (.ofNat (nat_lit 395)) (nat_lit 0)), (.str z1 (nat_lit 939))]⟩), ⟨[]⟩⟩
noncomputable abbrev o556_11 : OB := fun p _ => ⟨(.type s7174869446012820540x8), none, (.func ⟨z196, z196, fA (sAt p (nat_lit 62)), (.stmts (fB (sAt p (nat_lit 62)))), fS (sAt p (nat_lit 62)) p, nat_lit 3, [], .none, .none, .none, (.str z176 (nat_lit 872)), none, (.ref (nat_lit 555)), .none, nat_lit 0⟩), ⟨[]⟩⟩
noncomputable abbrev o557_11 : OB := fun _ _ => ⟨(.type s2766695959194262286x5), none, (.seq ⟨[]⟩ (nat_lit 0)), ⟨[]⟩⟩
noncomputable abbrev o558_11 : OB := fun _ _ => ⟨.none, none, (.fields ⟨[]⟩), ⟨[]⟩⟩
noncomputable abbrev z203 : Str := ⟨⟨[nat_lit 115, nat_lit 101, nat_lit 101, nat_lit 107, nat_lit 105, nat_lit 110, nat_lit 103]⟩⟩
noncomputable abbrev z204 : Str := ⟨⟨[nat_lit 112, nat_lit 117, nat_lit 116]⟩⟩
noncomputable abbrev o559_11 : OB := fun _ _ => ⟨(.type s2766695959194262286x5), none, (.seq ⟨[(.str z203 (nat_lit 944)), (.str z204 (nat_lit 945))]⟩ (nat_lit 0)), ⟨[]⟩⟩
noncomputable abbrev o560_11 : OB := fun _ _ => ⟨(.type s2766695959194262286x5), none, (.seq ⟨[]⟩ (nat_lit 0)), ⟨[]⟩⟩
noncomputable abbrev o561_11 : OB := fun p _ => ⟨.none, none, (.func ⟨z197, z197, fA (sAt p (nat_lit 63)), (.stmts (fB (sAt p (nat_lit 63)))), fS (sAt p (nat_lit 63)) p, nat_lit 0, [], .none, .none, .none, .none, none, .none, .none, nat_lit 0⟩), ⟨[]⟩⟩
noncomputable abbrev o562_11 : OB := fun _ _ => ⟨(.type s5856160107412720595x4), none, (.fields ⟨[(.str z197 (nat_lit 941)), (.str z197 (nat_lit 942)), (.str z1 (nat_lit 943)), (.int (.ofNat (nat_lit 401)) (nat_lit 0)), (.int (.ofNat (nat_lit 2)) (nat_lit 0)), (.int (.ofNat (nat_lit 0)) (nat_lit 0)), (.int (.ofNat (nat_lit 0)) (nat_lit 0)), (.int (.ofNat (nat_lit 3)) (nat_lit 0)), (.ref (nat_lit 557)), (.bool true), (.int (.ofNat (nat_lit 181)) (nat_lit 0)), (.ref (nat_lit 558)), .none, (.ref (nat_lit 559)), (.ref (nat_lit 560)), (.ref (nat_lit 561)), (.int (.ofNat (nat_lit 946)) (nat_lit 0)), (.int (.ofNat (nat_lit 401)) (nat_lit 0)), (.str z1 (nat_lit 947))]⟩), ⟨[]⟩⟩
noncomputable abbrev o563_11 : OB := fun p _ => ⟨(.type s7174869446012820540x8), none, (.func ⟨z197, z197, fA (sAt p (nat_lit 63)), (.stmts (fB (sAt p (nat_lit 63)))), fS (sAt p (nat_lit 63)) p, nat_lit 3, [], .none, .none, .none, (.str z176 (nat_lit 872)), none, (.ref (nat_lit 562)), .none, nat_lit 0⟩), ⟨[]⟩⟩
noncomputable abbrev o564_11 : OB := fun _ _ => ⟨(.type s2766695959194262286x5), none, (.seq ⟨[]⟩ (nat_lit 0)), ⟨[]⟩⟩
noncomputable abbrev o565_11 : OB := fun _ _ => ⟨.none, none, (.fields ⟨[]⟩), ⟨[]⟩⟩
noncomputable abbrev z205 : Str := ⟨⟨[nat_lit 98, nat_lit 111, nat_lit 117, nat_lit 110, nat_lit 100, nat_lit 115]⟩⟩
noncomputable abbrev z206 : Str := ⟨⟨[nat_lit 114, nat_lit 111, nat_lit 119]⟩⟩
noncomputable abbrev z207 : Str := ⟨⟨[nat_lit 111, nat_lit 100, nat_lit 100]⟩⟩
noncomputable abbrev z208 : Str := ⟨⟨[nat_lit 100, nat_lit 117, nat_lit 101]⟩⟩
noncomputable abbrev o566_11 : OB := fun _ _ => ⟨(.type s2766695959194262286x5), none, (.seq ⟨[(.str z187 (nat_lit 952)), (.str z125 (nat_lit 953)), (.str z203 (nat_lit 954)), (.str z204 (nat_lit 955)), (.str z58 (nat_lit 956)), (.str z205 (nat_lit 957)), (.str z22 (nat_lit 958)), (.str z149 (nat_lit 959)), (.str z89 (nat_lit 960)), (.str z206 (nat_lit 961)), (.str z207 (nat_lit 962)), (.str z208 (nat_lit 963))]⟩ (nat_lit 0)), ⟨[]⟩⟩
noncomputable abbrev o567_11 : OB := fun _ _ => ⟨(.type s2766695959194262286x5), none, (.seq ⟨[]⟩ (nat_lit 0)), ⟨[]⟩⟩
noncomputable abbrev o568_11 : OB := fun p _ => ⟨.none, none, (.func ⟨z198, z198, fA (sAt p (nat_lit 64)), (.stmts (fB (sAt p (nat_lit 64)))), fS (sAt p (nat_lit 64)) p, nat_lit 0, [], .none, .none, .none, .none, none, .none, .none, nat_lit 0⟩), ⟨[]⟩⟩
noncomputable abbrev o569_11 : OB := fun _ _ => ⟨(.type s5856160107412720595x4), none, (.fields ⟨[(.str z198 (nat_lit 949)), (.str z198 (nat_lit 950)), (.str z1 (nat_lit 951)), (.int (.ofNat (nat_lit 405)) (nat_lit 0)), (.int (.ofNat (nat_lit 4)) (nat_lit 0)), (.int (.ofNat (nat_lit 0)) (nat_lit 0)), (.int (.ofNat (nat_lit 0)) (nat_lit 0)), (.int (.ofNat (nat_lit 3)) (nat_lit 0)), (.ref (nat_lit 564)), (.bool true), (.int (.ofNat (nat_lit 181)) (nat_lit 0)), (.ref (nat_lit 565)), .none, (.ref (nat_lit 566)), (.ref (nat_lit 567)), (.ref (nat_lit 568)), (.int (.ofNat (nat_lit 964)) (nat_lit 0)), (.int (.ofNat (nat_lit 405)) (nat_lit 0)), (.str z1 (nat_lit 965))]⟩), ⟨[]⟩⟩
noncomputable abbrev o570_11 : OB := fun p _ => ⟨(.type s7174869446012820540x8), none, (.func ⟨z198, z198, fA (sAt p (nat_lit 64)), (.stmts (fB (sAt p (nat_lit 64)))), fS (sAt p (nat_lit 64)) p, nat_lit 3, [], .none, .none, .none, (.str z176 (nat_lit 872)), none, (.ref (nat_lit 569)), .none, nat_lit 0⟩), ⟨[]⟩⟩
noncomputable abbrev o571_11 : OB := fun _ _ => ⟨(.type s2766695959194262286x5), none, (.seq ⟨[]⟩ (nat_lit 0)), ⟨[]⟩⟩
noncomputable abbrev o572_11 : OB := fun _ _ => ⟨.none, none, (.fields ⟨[]⟩), ⟨[]⟩⟩
noncomputable abbrev z209 : Str := ⟨⟨[nat_lit 115, nat_lit 99, nat_lit 114, nat_lit 105, nat_lit 112, nat_lit 116]⟩⟩
noncomputable abbrev z210 : Str := ⟨⟨[nat_lit 115, nat_lit 101, nat_lit 101, nat_lit 107, nat_lit 115]⟩⟩
noncomputable abbrev z211 : Str := ⟨⟨[nat_lit 112, nat_lit 117, nat_lit 116, nat_lit 115]⟩⟩
noncomputable abbrev o573_11 : OB := fun _ _ => ⟨(.type s2766695959194262286x5), none, (.seq ⟨[(.str z209 (nat_lit 970)), (.str z187 (nat_lit 971)), (.str z210 (nat_lit 972)), (.str z211 (nat_lit 973)), (.str z204 (nat_lit 974)), (.str z203 (nat_lit 975))]⟩ (nat_lit 0)), ⟨[]⟩⟩
noncomputable abbrev o574_11 : OB := fun _ _ => ⟨(.type s2766695959194262286x5), none, (.seq ⟨[]⟩ (nat_lit 0)), ⟨[]⟩⟩
noncomputable abbrev o575_11 : OB := fun p _ => ⟨.none, none, (.func ⟨z199, z199, fA (sAt p (nat_lit 65)), (.stmts (fB (sAt p (nat_lit 65)))), fS (sAt p (nat_lit 65)) p, nat_lit 0, [], .none, .none, .none, .none, none, .none, .none, nat_lit 0⟩), ⟨[]⟩⟩
noncomputable abbrev o576_11 : OB := fun _ _ => ⟨(.type s5856160107412720595x4), none, (.fields ⟨[(.str z199 (nat_lit 967)), (.str z199 (nat_lit 968)), (.str z1 (nat_lit 969)), (.int (.ofNat (nat_lit 416)) (nat_lit 0)), (.int (.ofNat (nat_lit 1)) (nat_lit 0)), (.int (.ofNat (nat_lit 0)) (nat_lit 0)), (.int (.ofNat (nat_lit 0)) (nat_lit 0)), (.int (.ofNat (nat_lit 3)) (nat_lit 0)), (.ref (nat_lit 571)), (.bool true), (.int (.ofNat (nat_lit 181)) (nat_lit 0)), (.ref (nat_lit 572)), .none, (.ref (nat_lit 573)), (.ref (nat_lit 574)), (.ref (nat_lit 575)), (.int (.ofNat (nat_lit 976)) (nat_lit 0)), (.int (.ofNat (nat_lit 416)) (nat_lit 0)), (.str z1 (nat_lit 977))]⟩), ⟨[]⟩⟩
noncomputable abbrev o577_11 : OB := fun p _ => ⟨(.type s7174869446012820540x8), none, (.func ⟨z199, z199, fA (sAt p (nat_lit 65)), (.stmts (fB (sAt p (nat_lit 65)))), fS (sAt p (nat_lit 65)) p, nat_lit 3, [], .none, .none, .none, (.str z176 (nat_lit 872)), none, (.ref (nat_lit 576)), .none, nat_lit 0⟩), ⟨[]⟩⟩
noncomputable abbrev tr11 (P : Params) : BT := ((((((((((((((((((((((((((((((((((((((((((((((((tr10 P).ins (nat_lit 3) (o3_11 prgQ P)).ins (nat_lit 12) (o12_11 prgQ P)).ins (nat_lit 533) (o533_11 prgQ P)).ins (nat_lit 534) (o534_11 prgQ P)).ins (nat_lit 535) (o535_11 prgQ P)).ins (nat_lit 536) (o536_11 prgQ P)).ins (nat_lit 537) (o537_11 prgQ P)).ins (nat_lit 538) (o538_11 prgQ P)).ins (nat_lit 539) (o539_11 prgQ P)).ins (nat_lit 540) (o540_11 prgQ P)).ins (nat_lit 541) (o541_11 prgQ P)).ins (nat_lit 542) (o542_11 prgQ P)).ins (nat_lit 543) (o543_11 prgQ P)).ins (nat_lit 544) (o544_11 prgQ P)).ins (nat_lit 545) (o545_11 prgQ P)).ins (nat_lit 546) (o546_11 prgQ P)).ins (nat_lit 547) (o547_11 prgQ P)).ins (nat_lit 548) (o548_11 prgQ P)).ins (nat_lit 549) (o549_11 prgQ P)).ins (nat_lit 550) (o550_11 prgQ P)).ins (nat_lit 551) (o551_11 prgQ P)).ins (nat_lit 552) (o552_11 prgQ P)).ins (nat_lit 553) (o553_11 prgQ P)).ins (nat_lit 554) (o554_11 prgQ P)).ins (nat_lit 555) (o555_11 prgQ P)).ins (nat_lit 556) (o556_11 prgQ P)).ins (nat_lit 557) (o557_11 prgQ P)).ins (nat_lit 558) (o558_11 prgQ P)).ins (nat_lit 559) (o559_11 prgQ P)).ins (nat_lit 560) (o560_11 prgQ P)).ins (nat_lit 561) (o561_11 prgQ P)).ins (nat_lit 562) (o562_11 prgQ P)).ins (nat_lit 563) (o563_11 prgQ P)).ins (nat_lit 564) (o564_11 prgQ P)).ins (nat_lit 565) (o565_11 prgQ P)).ins (nat_lit 566) (o566_11 prgQ P)).ins (nat_lit 567) (o567_11 prgQ P)).ins (nat_lit 568) (o568_11 prgQ P)).ins (nat_lit 569) (o569_11 prgQ P)).ins (nat_lit 570) (o570_11 prgQ P)).ins (nat_lit 571) (o571_11 prgQ P)).ins (nat_lit 572) (o572_11 prgQ P)).ins (nat_lit 573) (o573_11 prgQ P)).ins (nat_lit 574) (o574_11 prgQ P)).ins (nat_lit 575) (o575_11 prgQ P)).ins (nat_lit 576) (o576_11 prgQ P)).ins (nat_lit 577) (o577_11 prgQ P))
noncomputable abbrev st11 (w : World) (os : OsState) : SharedT := ⟨tr11 w.params, nat_lit 578, lifeQ, ⟨[]⟩, boot_drawn, nat_lit 979, os⟩
/-! GROUP 11 59 7 224 [] [] from ⟨nat_lit 381, nat_lit 0, nat_lit 382, nat_lit 77⟩ to ⟨nat_lit 416, nat_lit 0, nat_lit 425, nat_lit 15⟩ -/
/-! FIN 1 changes [] -/
noncomputable abbrev looseQ : List Str := [z15, z16, z30, z32, z33, z35, z36, z37, z38, z39, z49, z50, z51, z52, z61, z76, z77, z78, z79, z80, z81, z82, z83, z84, z85, z86, z87, z88, z103, z104, z105, z106, z108, z109, z110, z111, z112, z113, z114, z115, z116, z117, z126, z127, z129, z177, z178, z179, z180, z181, z193, z194, z195, z196, z197, z198]
noncomputable abbrev KQ (P : Params) : Frag := ((nat_lit 2, o2_1 prgQ P) :: (nat_lit 3, o3_11 prgQ P) :: (nat_lit 29, o29_1 prgQ P) :: (nat_lit 30, o30_1 prgQ P) :: (nat_lit 36, o36_1 prgQ P) :: (nat_lit 37, o37_1 prgQ P) :: (nat_lit 46, o46_1 prgQ P) :: (nat_lit 47, o47_3 prgQ P) :: (nat_lit 59, o59_2 prgQ P) :: (nat_lit 60, o60_2 prgQ P) :: (nat_lit 71, o71_3 prgQ P) :: (nat_lit 72, o72_3 prgQ P) :: (nat_lit 132, o132_5 prgQ P) :: (nat_lit 138, o138_6 prgQ P) :: (nat_lit 139, o139_6 prgQ P) :: (nat_lit 159, o159_6 prgQ P) :: (nat_lit 160, o160_6 prgQ P) :: (nat_lit 173, o173_6 prgQ P) :: (nat_lit 174, o174_6 prgQ P) :: (nat_lit 180, o180_6 prgQ P) :: (nat_lit 181, o181_6 prgQ P) :: (nat_lit 187, o187_6 prgQ P) :: (nat_lit 188, o188_6 prgQ P) :: (nat_lit 243, o243_7 prgQ P) :: (nat_lit 244, o244_7 prgQ P) :: (nat_lit 250, o250_7 prgQ P) :: (nat_lit 251, o251_7 prgQ P) :: (nat_lit 257, o257_7 prgQ P) :: (nat_lit 258, o258_7 prgQ P) :: (nat_lit 264, o264_7 prgQ P) :: (nat_lit 265, o265_7 prgQ P) :: (nat_lit 271, o271_7 prgQ P) :: (nat_lit 272, o272_7 prgQ P) :: (nat_lit 278, o278_7 prgQ P) :: (nat_lit 279, o279_7 prgQ P) :: (nat_lit 285, o285_7 prgQ P) :: (nat_lit 286, o286_7 prgQ P) :: (nat_lit 292, o292_7 prgQ P) :: (nat_lit 293, o293_7 prgQ P) :: (nat_lit 299, o299_8 prgQ P) :: (nat_lit 300, o300_8 prgQ P) :: (nat_lit 304, o304_8 prgQ P) :: (nat_lit 305, o305_8 prgQ P) :: (nat_lit 313, o313_9 prgQ P) :: (nat_lit 319, o319_9 prgQ P) :: (nat_lit 320, o320_9 prgQ P) :: (nat_lit 321, o321_9 prgQ P) :: (nat_lit 327, o327_9 prgQ P) :: (nat_lit 328, o328_9 prgQ P) :: (nat_lit 341, o341_9 prgQ P) :: (nat_lit 342, o342_9 prgQ P) :: (nat_lit 348, o348_9 prgQ P) :: (nat_lit 349, o349_9 prgQ P) :: (nat_lit 350, o350_9 prgQ P) :: (nat_lit 356, o356_9 prgQ P) :: (nat_lit 357, o357_9 prgQ P) :: (nat_lit 363, o363_9 prgQ P) :: (nat_lit 364, o364_9 prgQ P) :: (nat_lit 370, o370_9 prgQ P) :: (nat_lit 371, o371_9 prgQ P) :: (nat_lit 377, o377_9 prgQ P) :: (nat_lit 378, o378_9 prgQ P) :: (nat_lit 384, o384_9 prgQ P) :: (nat_lit 385, o385_9 prgQ P) :: (nat_lit 393, o393_9 prgQ P) :: (nat_lit 399, o399_9 prgQ P) :: (nat_lit 400, o400_9 prgQ P) :: (nat_lit 406, o406_9 prgQ P) :: (nat_lit 407, o407_9 prgQ P) :: (nat_lit 415, o415_9 prgQ P) :: (nat_lit 421, o421_9 prgQ P) :: (nat_lit 422, o422_9 prgQ P) :: (nat_lit 442, o442_9 prgQ P) :: (nat_lit 443, o443_9 prgQ P) :: (nat_lit 470, o470_9 prgQ P) :: (nat_lit 471, o471_9 prgQ P) :: (nat_lit 473, o473_9 prgQ P) :: (nat_lit 474, o474_9 prgQ P) :: (nat_lit 486, o486_10 prgQ P) :: (nat_lit 487, o487_10 prgQ P) :: (nat_lit 493, o493_10 prgQ P) :: (nat_lit 494, o494_10 prgQ P) :: (nat_lit 503, o503_10 prgQ P) :: (nat_lit 504, o504_10 prgQ P) :: (nat_lit 512, o512_10 prgQ P) :: (nat_lit 513, o513_10 prgQ P) :: (nat_lit 519, o519_10 prgQ P) :: (nat_lit 520, o520_10 prgQ P) :: (nat_lit 526, o526_10 prgQ P) :: (nat_lit 527, o527_10 prgQ P) :: (nat_lit 531, o531_10 prgQ P) :: (nat_lit 532, o532_10 prgQ P) :: (nat_lit 536, o536_11 prgQ P) :: (nat_lit 537, o537_11 prgQ P) :: (nat_lit 541, o541_11 prgQ P) :: (nat_lit 542, o542_11 prgQ P) :: (nat_lit 548, o548_11 prgQ P) :: (nat_lit 549, o549_11 prgQ P) :: (nat_lit 555, o555_11 prgQ P) :: (nat_lit 556, o556_11 prgQ P) :: (nat_lit 562, o562_11 prgQ P) :: (nat_lit 563, o563_11 prgQ P) :: (nat_lit 569, o569_11 prgQ P) :: (nat_lit 570, o570_11 prgQ P) :: (nat_lit 576, o576_11 prgQ P) :: (nat_lit 577, o577_11 prgQ P) :: [])
noncomputable abbrev k2 : OB := fun _ P => ⟨.none, none, (.dict ⟨[⟨PyData.keyHash P (Str.ofString "type.__subclasses__.Exception.0"), (.str (Str.ofString "type.__subclasses__.Exception.0") (nat_lit 232)), (.int (.ofNat (nat_lit 47)) (nat_lit 0))⟩, ⟨PyData.keyHash P (Str.ofString "type.__subclasses__.Exception.n"), (.str (Str.ofString "type.__subclasses__.Exception.n") (nat_lit 233)), (.int (.ofNat (nat_lit 1)) (nat_lit 0))⟩]⟩ (nat_lit 2)), ⟨[]⟩⟩
noncomputable abbrev k3 : OB := fun p P => ⟨(.type "dict"), none, (.dict ⟨(⟨PyData.keyHash P (Str.ofString "__name__"), (.str (Str.ofString "__name__") (nat_lit 165)), (.str (Str.ofString "law_pb0267_01") (nat_lit 872))⟩ :: ⟨PyData.keyHash P (Str.ofString "__doc__"), (.str (Str.ofString "__doc__") (nat_lit 166)), .none⟩ :: ⟨PyData.keyHash P (Str.ofString "__package__"), (.str (Str.ofString "__package__") (nat_lit 167)), .none⟩ :: ⟨PyData.keyHash P (Str.ofString "__loader__"), (.str (Str.ofString "__loader__") (nat_lit 168)), (.builtin "__main__.__loader__#opaque")⟩ :: ⟨PyData.keyHash P (Str.ofString "__spec__"), (.str (Str.ofString "__spec__") (nat_lit 169)), .none⟩ :: ⟨PyData.keyHash P (Str.ofString "__annotations__"), (.str (Str.ofString "__annotations__") (nat_lit 170)), (.ref (nat_lit 6))⟩ :: ⟨PyData.keyHash P (Str.ofString "__builtins__"), (.str (Str.ofString "__builtins__") (nat_lit 171)), (.ref (nat_lit 4))⟩ :: ⟨PyData.keyHash P (Str.ofString "__file__"), (.str (Str.ofString "__file__") (nat_lit 173)), (.str (Str.ofString "/claim/cut.py") (nat_lit 172))⟩ :: ⟨PyData.keyHash P (Str.ofString "__cached__"), (.str (Str.ofString "__cached__") (nat_lit 174)), .none⟩ :: ⟨PyData.keyHash P (Str.ofString "_wall"), (.str (Str.ofString "_wall") (nat_lit 193)), (.ref (nat_lit 21))⟩ :: ⟨PyData.keyHash P (Str.ofString "LedgerError"), (.str (Str.ofString "LedgerError") (nat_lit 235)), (.ref (nat_lit 47))⟩ :: ⟨PyData.keyHash P (Str.ofString "TokenFault"), (.str (Str.ofString "TokenFault") (nat_lit 251)), (.ref (nat_lit 60))⟩ :: ⟨PyData.keyHash P (Str.ofString "GrammarFault"), (.str (Str.ofString "GrammarFault") (nat_lit 267)), (.ref (nat_lit 72))⟩ :: ⟨PyData.keyHash P (Str.ofString "FIGURES"), (.str (Str.ofString "FIGURES") (nat_lit 271)), (.str (Str.ofString "0123456789") (nat_lit 270))⟩ :: ⟨PyData.keyHash P (Str.ofString "cut_quotient"), (.str (Str.ofString "cut_quotient") (nat_lit 279)), (.ref (nat_lit 81))⟩ :: ⟨PyData.keyHash P (Str.ofString "decimal"), (.str (Str.ofString "decimal") (nat_lit 288)), (.ref (nat_lit 89))⟩ :: ⟨PyData.keyHash P (Str.ofString "negated"), (.str (Str.ofString "negated") (nat_lit 295)), (.ref (nat_lit 96))⟩ :: ⟨PyData.keyHash P (Str.ofString "units_at"), (.str (Str.ofString "units_at") (nat_lit 306)), (.ref (nat_lit 103))⟩ :: ⟨PyData.keyHash P (Str.ofString "is_whole"), (.str (Str.ofString "is_whole") (nat_lit 313)), (.ref (nat_lit 110))⟩ :: ⟨PyData.keyHash P (Str.ofString "whole_of"), (.str (Str.ofString "whole_of") (nat_lit 320)), (.ref (nat_lit 117))⟩ :: ⟨PyData.keyHash P (Str.ofString "worth_of"), (.str (Str.ofString "worth_of") (nat_lit 329)), (.ref (nat_lit 124))⟩ :: ⟨PyData.keyHash P (Str.ofString "read_decimal"), (.str (Str.ofString "read_decimal") (nat_lit 342)), (.ref (nat_lit 131))⟩ :: ⟨PyData.keyHash P (Str.ofString "MOST_SUBSCRIPTS"), (.str (Str.ofString "MOST_SUBSCRIPTS") (nat_lit 346)), (.int (.ofNat (nat_lit 7)) (nat_lit 345))⟩ :: ⟨PyData.keyHash P (Str.ofString "FIGURE_NAMES"), (.str (Str.ofString "FIGURE_NAMES") (nat_lit 380)), (.ref (nat_lit 132))⟩ :: ⟨PyData.keyHash P (Str.ofString "is_part_next"), (.str (Str.ofString "is_part_next") (nat_lit 389)), (.ref (nat_lit 139))⟩ :: ⟨PyData.keyHash P (Str.ofString "read_subscripts"), (.str (Str.ofString "read_subscripts") (nat_lit 398)), (.ref (nat_lit 146))⟩ :: ⟨PyData.keyHash P (Str.ofString "read_part"), (.str (Str.ofString "read_part") (nat_lit 408)), (.ref (nat_lit 153))⟩ :: ⟨PyData.keyHash P (Str.ofString "read_ref"), (.str (Str.ofString "read_ref") (nat_lit 420)), (.ref (nat_lit 160))⟩ :: ⟨PyData.keyHash P (Str.ofString "read_all"), (.str (Str.ofString "read_all") (nat_lit 428)), (.ref (nat_lit 167))⟩ :: ⟨PyData.keyHash P (Str.ofString "read_figure"), (.str (Str.ofString "read_figure") (nat_lit 435)), (.ref (nat_lit 174))⟩ :: ⟨PyData.keyHash P (Str.ofString "read_operand"), (.str (Str.ofString "read_operand") (nat_lit 444)), (.ref (nat_lit 181))⟩ :: ⟨PyData.keyHash P (Str.ofString "MOST_DEEP"), (.str (Str.ofString "MOST_DEEP") (nat_lit 448)), (.int (.ofNat (nat_lit 20)) (nat_lit 447))⟩ :: ⟨PyData.keyHash P (Str.ofString "read_expression"), (.str (Str.ofString "read_expression") (nat_lit 455)), (.ref (nat_lit 188))⟩ :: ⟨PyData.keyHash P (Str.ofString "sign_among"), (.str (Str.ofString "sign_among") (nat_lit 464)), (.ref (nat_lit 195))⟩ :: ⟨PyData.keyHash P (Str.ofString "read_sum"), (.str (Str.ofString "read_sum") (nat_lit 474)), (.ref (nat_lit 202))⟩ :: ⟨PyData.keyHash P (Str.ofString "read_product"), (.str (Str.ofString "read_product") (nat_lit 484)), (.ref (nat_lit 209))⟩ :: ⟨PyData.keyHash P (Str.ofString "read_factor"), (.str (Str.ofString "read_factor") (nat_lit 495)), (.ref (nat_lit 216))⟩ :: ⟨PyData.keyHash P (Str.ofString "is_lone_number"), (.str (Str.ofString "is_lone_number") (nat_lit 504)), (.ref (nat_lit 223))⟩ :: ⟨PyData.keyHash P (Str.ofString "read_power"), (.str (Str.ofString "read_power") (nat_lit 513)), (.ref (nat_lit 230))⟩ :: ⟨PyData.keyHash P (Str.ofString "read_primary"), (.str (Str.ofString "read_primary") (nat_lit 523)), (.ref (nat_lit 237))⟩ :: ⟨PyData.keyHash P (Str.ofString "FIGURE_WORDS"), (.str (Str.ofString "FIGURE_WORDS") (nat_lit 527)), (.str (Str.ofString " ZERO ZEROS ZEROES SPACE SPACES HIGH-VALUE HIGH-VALUES LOW-VALUE LOW-VALUES QUOTE QUOTES ALL ") (nat_lit 526))⟩ :: ⟨PyData.keyHash P (Str.ofString "begins_operand"), (.str (Str.ofString "begins_operand") (nat_lit 534)), (.ref (nat_lit 244))⟩ :: ⟨PyData.keyHash P (Str.ofString "refuse_at"), (.str (Str.ofString "refuse_at") (nat_lit 543)), (.ref (nat_lit 251))⟩ :: ⟨PyData.keyHash P (Str.ofString "operand_here"), (.str (Str.ofString "operand_here") (nat_lit 552)), (.ref (nat_lit 258))⟩ :: ⟨PyData.keyHash P (Str.ofString "text_here"), (.str (Str.ofString "text_here") (nat_lit 561)), (.ref (nat_lit 265))⟩ :: ⟨PyData.keyHash P (Str.ofString "bounds_here"), (.str (Str.ofString "bounds_here") (nat_lit 570)), (.ref (nat_lit 272))⟩ :: ⟨PyData.keyHash P (Str.ofString "widths_meet"), (.str (Str.ofString "widths_meet") (nat_lit 578)), (.ref (nat_lit 279))⟩ :: ⟨PyData.keyHash P (Str.ofString "by_here"), (.str (Str.ofString "by_here") (nat_lit 588)), (.ref (nat_lit 286))⟩ :: ⟨PyData.keyHash P (Str.ofString "exchange_here"), (.str (Str.ofString "exchange_here") (nat_lit 600)), (.ref (nat_lit 293))⟩ :: ⟨PyData.keyHash P (Str.ofString "MOST_OCTET"), (.str (Str.ofString "MOST_OCTET") (nat_lit 604)), (.int (.ofNat (nat_lit 255)) (nat_lit 603))⟩ :: ⟨PyData.keyHash P (Str.ofString "RESERVED"), (.str (Str.ofString "RESERVED") (nat_lit 606)), (.str (longQ p) (nat_lit 605))⟩ :: ⟨PyData.keyHash P (Str.ofString "is_reserved"), (.str (Str.ofString "is_reserved") (nat_lit 613)), (.ref (nat_lit 300))⟩ :: ⟨PyData.keyHash P (Str.ofString "octets_of_text"), (.str (Str.ofString "octets_of_text") (nat_lit 619)), (.ref (nat_lit 305))⟩ :: ⟨PyData.keyHash P (Str.ofString "Reader"), (.str (Str.ofString "Reader") (nat_lit 825)), (.ref (nat_lit 474))⟩ :: ⟨PyData.keyHash P (Str.ofString "Token"), (.str (Str.ofString "Token") (nat_lit 871)), (.ref (nat_lit 504))⟩ :: ⟨PyData.keyHash P (Str.ofString "_law_pen"), (.str (Str.ofString "_law_pen") (nat_lit 879)), (.ref (nat_lit 513))⟩ :: ⟨PyData.keyHash P (Str.ofString "_law_draw"), (.str (Str.ofString "_law_draw") (nat_lit 890)), (.ref (nat_lit 520))⟩ :: ⟨PyData.keyHash P (Str.ofString "_law_pick"), (.str (Str.ofString "_law_pick") (nat_lit 898)), (.ref (nat_lit 527))⟩ :: ⟨PyData.keyHash P (Str.ofString "_law_words"), (.str (Str.ofString "_law_words") (nat_lit 904)), (.ref (nat_lit 532))⟩ :: ⟨PyData.keyHash P (Str.ofString "_law_reader"), (.str (Str.ofString "_law_reader") (nat_lit 910)), (.ref (nat_lit 537))⟩ :: ⟨PyData.keyHash P (Str.ofString "_law_literal"), (.str (Str.ofString "_law_literal") (nat_lit 916)), (.ref (nat_lit 542))⟩ :: ⟨PyData.keyHash P (Str.ofString "_law_sorts"), (.str (Str.ofString "_law_sorts") (nat_lit 929)), (.ref (nat_lit 549))⟩ :: ⟨PyData.keyHash P (Str.ofString "_law_bounds"), (.str (Str.ofString "_law_bounds") (nat_lit 940)), (.ref (nat_lit 556))⟩ :: ⟨PyData.keyHash P (Str.ofString "_law_may"), (.str (Str.ofString "_law_may") (nat_lit 948)), (.ref (nat_lit 563))⟩ :: ⟨PyData.keyHash P (Str.ofString "_law_right"), (.str (Str.ofString "_law_right") (nat_lit 966)), (.ref (nat_lit 570))⟩ :: ⟨PyData.keyHash P (Str.ofString "law"), (.str (Str.ofString "law") (nat_lit 978)), (.ref (nat_lit 577))⟩ :: [])⟩ (nat_lit 66)), ⟨[]⟩⟩
noncomputable abbrev k29 : OB := fun _ _ => ⟨(.type "tuple"), none, (.seq ⟨[(.int (.ofNat (nat_lit 0)) (nat_lit 208)), (.int (.ofNat (nat_lit 0)) (nat_lit 209))]⟩ (nat_lit 0)), ⟨[]⟩⟩
noncomputable abbrev k30 : OB := fun _ _ => ⟨(.type "tuple"), none, (.seq ⟨[(.ref (nat_lit 29))]⟩ (nat_lit 0)), ⟨[]⟩⟩
noncomputable abbrev k36 : OB := fun _ _ => ⟨(.type "code"), none, (.fields ⟨[(.str (Str.ofString "__init__") (nat_lit 210)), (.str (Str.ofString "LedgerError.__init__") (nat_lit 211)), (.str (Str.ofString "/claim/cut.py") (nat_lit 212)), (.int (.ofNat (nat_lit 7)) (nat_lit 0)), (.int (.ofNat (nat_lit 3)) (nat_lit 0)), (.int (.ofNat (nat_lit 0)) (nat_lit 0)), (.int (.ofNat (nat_lit 0)) (nat_lit 0)), (.int (.ofNat (nat_lit 3)) (nat_lit 0)), (.ref (nat_lit 31)), (.bool true), (.int (.ofNat (nat_lit 181)) (nat_lit 0)), (.ref (nat_lit 32)), .none, (.ref (nat_lit 33)), (.ref (nat_lit 34)), (.ref (nat_lit 35)), (.int (.ofNat (nat_lit 216)) (nat_lit 0)), (.int (.ofNat (nat_lit 7)) (nat_lit 0)), (.str (Str.ofString "/claim/cut.py") (nat_lit 217))]⟩), ⟨[]⟩⟩
noncomputable abbrev k37 : OB := fun p _ => ⟨(.type "function"), none, (.func ⟨(Str.ofString "__init__"), (Str.ofString "LedgerError.__init__"), fA (mAt p (nat_lit 2) (nat_lit 0)), (.stmts (fB (mAt p (nat_lit 2) (nat_lit 0)))), fS (mAt p (nat_lit 2) (nat_lit 0)) p, nat_lit 3, [], (.ref (nat_lit 30)), .none, .none, (.str (Str.ofString "ledgerspeak.errors") (nat_lit 194)), none, (.ref (nat_lit 36)), .none, nat_lit 0⟩), ⟨[]⟩⟩
noncomputable abbrev k46 : OB := fun _ P => ⟨(.type "dict"), none, (.dict ⟨[⟨PyData.keyHash P (Str.ofString "__module__"), (.str (Str.ofString "__module__") (nat_lit 203)), (.str (Str.ofString "ledgerspeak.errors") (nat_lit 194))⟩, ⟨PyData.keyHash P (Str.ofString "__firstlineno__"), (.str (Str.ofString "__firstlineno__") (nat_lit 207)), (.int (.ofNat (nat_lit 5)) (nat_lit 206))⟩, ⟨PyData.keyHash P (Str.ofString "__init__"), (.str (Str.ofString "__init__") (nat_lit 218)), (.ref (nat_lit 37))⟩, ⟨PyData.keyHash P (Str.ofString "told"), (.str (Str.ofString "told") (nat_lit 225)), (.ref (nat_lit 44))⟩, ⟨PyData.keyHash P (Str.ofString "__static_attributes__"), (.str (Str.ofString "__static_attributes__") (nat_lit 228)), (.ref (nat_lit 45))⟩, ⟨PyData.keyHash P (Str.ofString "__weakref__"), (.str (Str.ofString "__weakref__") (nat_lit 230)), (.ref (nat_lit 48))⟩, ⟨PyData.keyHash P (Str.ofString "__doc__"), (.str (Str.ofString "__doc__") (nat_lit 231)), .none⟩]⟩ (nat_lit 3)), ⟨[]⟩⟩
noncomputable abbrev k47 : OB := fun _ _ => ⟨(.type "type"), none, (.cls ⟨(Str.ofString "LedgerError"), [(.type "Exception")], [(.ref (nat_lit 47)), (.type "Exception"), (.type "BaseException"), (.type "object")], nat_lit 46, (Str.ofString "LedgerError"), true, [], [(.ref (nat_lit 60)), (.ref (nat_lit 72))], false, none, false⟩), ⟨[(some (.ref (nat_lit 22))), none, (some (.str (Str.ofString "LedgerError") (nat_lit 196))), (some (.str (Str.ofString "LedgerError") (nat_lit 204))), (some (.builtin "Exception.__new__")), (some (.bool true))]⟩⟩
noncomputable abbrev k59 : OB := fun _ P => ⟨(.type "dict"), none, (.dict ⟨[⟨PyData.keyHash P (Str.ofString "__module__"), (.str (Str.ofString "__module__") (nat_lit 243)), (.str (Str.ofString "ledgerspeak.errors") (nat_lit 194))⟩, ⟨PyData.keyHash P (Str.ofString "__firstlineno__"), (.str (Str.ofString "__firstlineno__") (nat_lit 247)), (.int (.ofNat (nat_lit 14)) (nat_lit 246))⟩, ⟨PyData.keyHash P (Str.ofString "__static_attributes__"), (.str (Str.ofString "__static_attributes__") (nat_lit 248)), (.ref (nat_lit 58))⟩, ⟨PyData.keyHash P (Str.ofString "__doc__"), (.str (Str.ofString "__doc__") (nat_lit 249)), .none⟩]⟩ (nat_lit 2)), ⟨[]⟩⟩
noncomputable abbrev k60 : OB := fun _ _ => ⟨(.type "type"), none, (.cls ⟨(Str.ofString "TokenFault"), [(.ref (nat_lit 47))], [(.ref (nat_lit 60)), (.ref (nat_lit 47)), (.type "Exception"), (.type "BaseException"), (.type "object")], nat_lit 59, (Str.ofString "TokenFault"), true, [], [], false, none, false⟩), ⟨[(some (.ref (nat_lit 51))), none, (some (.str (Str.ofString "TokenFault") (nat_lit 236))), (some (.str (Str.ofString "TokenFault") (nat_lit 244))), (some (.builtin "Exception.__new__")), (some (.bool true))]⟩⟩
noncomputable abbrev k71 : OB := fun _ P => ⟨(.type "dict"), none, (.dict ⟨[⟨PyData.keyHash P (Str.ofString "__module__"), (.str (Str.ofString "__module__") (nat_lit 259)), (.str (Str.ofString "ledgerspeak.errors") (nat_lit 194))⟩, ⟨PyData.keyHash P (Str.ofString "__firstlineno__"), (.str (Str.ofString "__firstlineno__") (nat_lit 263)), (.int (.ofNat (nat_lit 16)) (nat_lit 262))⟩, ⟨PyData.keyHash P (Str.ofString "__static_attributes__"), (.str (Str.ofString "__static_attributes__") (nat_lit 264)), (.ref (nat_lit 70))⟩, ⟨PyData.keyHash P (Str.ofString "__doc__"), (.str (Str.ofString "__doc__") (nat_lit 265)), .none⟩]⟩ (nat_lit 2)), ⟨[]⟩⟩
noncomputable abbrev k72 : OB := fun _ _ => ⟨(.type "type"), none, (.cls ⟨(Str.ofString "GrammarFault"), [(.ref (nat_lit 47))], [(.ref (nat_lit 72)), (.ref (nat_lit 47)), (.type "Exception"), (.type "BaseException"), (.type "object")], nat_lit 71, (Str.ofString "GrammarFault"), true, [], [], false, none, false⟩), ⟨[(some (.ref (nat_lit 63))), none, (some (.str (Str.ofString "GrammarFault") (nat_lit 252))), (some (.str (Str.ofString "GrammarFault") (nat_lit 260))), (some (.builtin "Exception.__new__")), (some (.bool true))]⟩⟩
noncomputable abbrev k132 : OB := fun _ P => ⟨(.type "dict"), none, (.dict ⟨[⟨PyData.keyHash P (Str.ofString "ZERO"), (.str (Str.ofString "ZERO") (nat_lit 347)), (.str (Str.ofString "ZERO") (nat_lit 348))⟩, ⟨PyData.keyHash P (Str.ofString "ZEROS"), (.str (Str.ofString "ZEROS") (nat_lit 349)), (.str (Str.ofString "ZERO") (nat_lit 350))⟩, ⟨PyData.keyHash P (Str.ofString "ZEROES"), (.str (Str.ofString "ZEROES") (nat_lit 351)), (.str (Str.ofString "ZERO") (nat_lit 352))⟩, ⟨PyData.keyHash P (Str.ofString "SPACE"), (.str (Str.ofString "SPACE") (nat_lit 353)), (.str (Str.ofString "SPACE") (nat_lit 354))⟩, ⟨PyData.keyHash P (Str.ofString "SPACES"), (.str (Str.ofString "SPACES") (nat_lit 355)), (.str (Str.ofString "SPACE") (nat_lit 356))⟩, ⟨PyData.keyHash P (Str.ofString "HIGH-VALUE"), (.str (Str.ofString "HIGH-VALUE") (nat_lit 357)), (.str (Str.ofString "HIGH") (nat_lit 358))⟩, ⟨PyData.keyHash P (Str.ofString "HIGH-VALUES"), (.str (Str.ofString "HIGH-VALUES") (nat_lit 359)), (.str (Str.ofString "HIGH") (nat_lit 360))⟩, ⟨PyData.keyHash P (Str.ofString "LOW-VALUE"), (.str (Str.ofString "LOW-VALUE") (nat_lit 361)), (.str (Str.ofString "LOW") (nat_lit 362))⟩, ⟨PyData.keyHash P (Str.ofString "LOW-VALUES"), (.str (Str.ofString "LOW-VALUES") (nat_lit 363)), (.str (Str.ofString "LOW") (nat_lit 364))⟩, ⟨PyData.keyHash P (Str.ofString "QUOTE"), (.str (Str.ofString "QUOTE") (nat_lit 365)), (.str (Str.ofString "QUOTE") (nat_lit 366))⟩, ⟨PyData.keyHash P (Str.ofString "QUOTES"), (.str (Str.ofString "QUOTES") (nat_lit 367)), (.str (Str.ofString "QUOTE") (nat_lit 368))⟩]⟩ (nat_lit 11)), ⟨[]⟩⟩
noncomputable abbrev k138 : OB := fun _ _ => ⟨(.type "code"), none, (.fields ⟨[(.str (Str.ofString "is_part_next") (nat_lit 381)), (.str (Str.ofString "is_part_next") (nat_lit 382)), (.str (Str.ofString "/claim/cut.py") (nat_lit 383)), (.int (.ofNat (nat_lit 68)) (nat_lit 0)), (.int (.ofNat (nat_lit 1)) (nat_lit 0)), (.int (.ofNat (nat_lit 0)) (nat_lit 0)), (.int (.ofNat (nat_lit 0)) (nat_lit 0)), (.int (.ofNat (nat_lit 3)) (nat_lit 0)), (.ref (nat_lit 133)), (.bool true), (.int (.ofNat (nat_lit 181)) (nat_lit 0)), (.ref (nat_lit 134)), .none, (.ref (nat_lit 135)), (.ref (nat_lit 136)), (.ref (nat_lit 137)), (.int (.ofNat (nat_lit 387)) (nat_lit 0)), (.int (.ofNat (nat_lit 68)) (nat_lit 0)), (.str (Str.ofString "/claim/cut.py") (nat_lit 388))]⟩), ⟨[]⟩⟩
noncomputable abbrev k139 : OB := fun p _ => ⟨(.type "function"), none, (.func ⟨(Str.ofString "is_part_next"), (Str.ofString "is_part_next"), fA (sAt p (nat_lit 18)), (.stmts (fB (sAt p (nat_lit 18)))), fS (sAt p (nat_lit 18)) p, nat_lit 3, [], .none, .none, .none, (.str (Str.ofString "ledgerspeak.references") (nat_lit 343)), none, (.ref (nat_lit 138)), .none, nat_lit 0⟩), ⟨[]⟩⟩
noncomputable abbrev k159 : OB := fun _ _ => ⟨(.type "code"), none, (.fields ⟨[(.str (Str.ofString "read_ref") (nat_lit 409)), (.str (Str.ofString "read_ref") (nat_lit 410)), (.str (Str.ofString "/claim/cut.py") (nat_lit 411)), (.int (.ofNat (nat_lit 96)) (nat_lit 0)), (.int (.ofNat (nat_lit 2)) (nat_lit 0)), (.int (.ofNat (nat_lit 0)) (nat_lit 0)), (.int (.ofNat (nat_lit 0)) (nat_lit 0)), (.int (.ofNat (nat_lit 3)) (nat_lit 0)), (.ref (nat_lit 154)), (.bool true), (.int (.ofNat (nat_lit 181)) (nat_lit 0)), (.ref (nat_lit 155)), .none, (.ref (nat_lit 156)), (.ref (nat_lit 157)), (.ref (nat_lit 158)), (.int (.ofNat (nat_lit 418)) (nat_lit 0)), (.int (.ofNat (nat_lit 96)) (nat_lit 0)), (.str (Str.ofString "/claim/cut.py") (nat_lit 419))]⟩), ⟨[]⟩⟩
noncomputable abbrev k160 : OB := fun p _ => ⟨(.type "function"), none, (.func ⟨(Str.ofString "read_ref"), (Str.ofString "read_ref"), fA (sAt p (nat_lit 21)), (.stmts (fB (sAt p (nat_lit 21)))), fS (sAt p (nat_lit 21)) p, nat_lit 3, [], .none, .none, .none, (.str (Str.ofString "ledgerspeak.references") (nat_lit 343)), none, (.ref (nat_lit 159)), .none, nat_lit 0⟩), ⟨[]⟩⟩
noncomputable abbrev k173 : OB := fun _ _ => ⟨(.type "code"), none, (.fields ⟨[(.str (Str.ofString "read_figure") (nat_lit 429)), (.str (Str.ofString "read_figure") (nat_lit 430)), (.str (Str.ofString "/claim/cut.py") (nat_lit 431)), (.int (.ofNat (nat_lit 113)) (nat_lit 0)), (.int (.ofNat (nat_lit 1)) (nat_lit 0)), (.int (.ofNat (nat_lit 0)) (nat_lit 0)), (.int (.ofNat (nat_lit 0)) (nat_lit 0)), (.int (.ofNat (nat_lit 3)) (nat_lit 0)), (.ref (nat_lit 168)), (.bool true), (.int (.ofNat (nat_lit 181)) (nat_lit 0)), (.ref (nat_lit 169)), .none, (.ref (nat_lit 170)), (.ref (nat_lit 171)), (.ref (nat_lit 172)), (.int (.ofNat (nat_lit 433)) (nat_lit 0)), (.int (.ofNat (nat_lit 113)) (nat_lit 0)), (.str (Str.ofString "/claim/cut.py") (nat_lit 434))]⟩), ⟨[]⟩⟩
noncomputable abbrev k174 : OB := fun p _ => ⟨(.type "function"), none, (.func ⟨(Str.ofString "read_figure"), (Str.ofString "read_figure"), fA (sAt p (nat_lit 23)), (.stmts (fB (sAt p (nat_lit 23)))), fS (sAt p (nat_lit 23)) p, nat_lit 3, [], .none, .none, .none, (.str (Str.ofString "ledgerspeak.references") (nat_lit 343)), none, (.ref (nat_lit 173)), .none, nat_lit 0⟩), ⟨[]⟩⟩
noncomputable abbrev k180 : OB := fun _ _ => ⟨(.type "code"), none, (.fields ⟨[(.str (Str.ofString "read_operand") (nat_lit 436)), (.str (Str.ofString "read_operand") (nat_lit 437)), (.str (Str.ofString "/claim/cut.py") (nat_lit 438)), (.int (.ofNat (nat_lit 117)) (nat_lit 0)), (.int (.ofNat (nat_lit 2)) (nat_lit 0)), (.int (.ofNat (nat_lit 0)) (nat_lit 0)), (.int (.ofNat (nat_lit 0)) (nat_lit 0)), (.int (.ofNat (nat_lit 3)) (nat_lit 0)), (.ref (nat_lit 175)), (.bool true), (.int (.ofNat (nat_lit 181)) (nat_lit 0)), (.ref (nat_lit 176)), .none, (.ref (nat_lit 177)), (.ref (nat_lit 178)), (.ref (nat_lit 179)), (.int (.ofNat (nat_lit 442)) (nat_lit 0)), (.int (.ofNat (nat_lit 117)) (nat_lit 0)), (.str (Str.ofString "/claim/cut.py") (nat_lit 443))]⟩), ⟨[]⟩⟩
noncomputable abbrev k181 : OB := fun p _ => ⟨(.type "function"), none, (.func ⟨(Str.ofString "read_operand"), (Str.ofString "read_operand"), fA (sAt p (nat_lit 24)), (.stmts (fB (sAt p (nat_lit 24)))), fS (sAt p (nat_lit 24)) p, nat_lit 3, [], .none, .none, .none, (.str (Str.ofString "ledgerspeak.references") (nat_lit 343)), none, (.ref (nat_lit 180)), .none, nat_lit 0⟩), ⟨[]⟩⟩
noncomputable abbrev k187 : OB := fun _ _ => ⟨(.type "code"), none, (.fields ⟨[(.str (Str.ofString "read_expression") (nat_lit 449)), (.str (Str.ofString "read_expression") (nat_lit 450)), (.str (Str.ofString "/claim/cut.py") (nat_lit 451)), (.int (.ofNat (nat_lit 128)) (nat_lit 0)), (.int (.ofNat (nat_lit 1)) (nat_lit 0)), (.int (.ofNat (nat_lit 0)) (nat_lit 0)), (.int (.ofNat (nat_lit 0)) (nat_lit 0)), (.int (.ofNat (nat_lit 3)) (nat_lit 0)), (.ref (nat_lit 182)), (.bool true), (.int (.ofNat (nat_lit 181)) (nat_lit 0)), (.ref (nat_lit 183)), .none, (.ref (nat_lit 184)), (.ref (nat_lit 185)), (.ref (nat_lit 186)), (.int (.ofNat (nat_lit 453)) (nat_lit 0)), (.int (.ofNat (nat_lit 128)) (nat_lit 0)), (.str (Str.ofString "/claim/cut.py") (nat_lit 454))]⟩), ⟨[]⟩⟩
noncomputable abbrev k188 : OB := fun p _ => ⟨(.type "function"), none, (.func ⟨(Str.ofString "read_expression"), (Str.ofString "read_expression"), fA (sAt p (nat_lit 27)), (.stmts (fB (sAt p (nat_lit 27)))), fS (sAt p (nat_lit 27)) p, nat_lit 3, [], .none, .none, .none, (.str (Str.ofString "ledgerspeak.expressions") (nat_lit 445)), none, (.ref (nat_lit 187)), .none, nat_lit 0⟩), ⟨[]⟩⟩
noncomputable abbrev k243 : OB := fun _ _ => ⟨(.type "code"), none, (.fields ⟨[(.str (Str.ofString "begins_operand") (nat_lit 528)), (.str (Str.ofString "begins_operand") (nat_lit 529)), (.str (Str.ofString "/claim/cut.py") (nat_lit 530)), (.int (.ofNat (nat_lit 180)) (nat_lit 0)), (.int (.ofNat (nat_lit 1)) (nat_lit 0)), (.int (.ofNat (nat_lit 0)) (nat_lit 0)), (.int (.ofNat (nat_lit 0)) (nat_lit 0)), (.int (.ofNat (nat_lit 3)) (nat_lit 0)), (.ref (nat_lit 238)), (.bool true), (.int (.ofNat (nat_lit 181)) (nat_lit 0)), (.ref (nat_lit 239)), .none, (.ref (nat_lit 240)), (.ref (nat_lit 241)), (.ref (nat_lit 242)), (.int (.ofNat (nat_lit 532)) (nat_lit 0)), (.int (.ofNat (nat_lit 180)) (nat_lit 0)), (.str (Str.ofString "/claim/cut.py") (nat_lit 533))]⟩), ⟨[]⟩⟩
noncomputable abbrev k244 : OB := fun p _ => ⟨(.type "function"), none, (.func ⟨(Str.ofString "begins_operand"), (Str.ofString "begins_operand"), fA (sAt p (nat_lit 37)), (.stmts (fB (sAt p (nat_lit 37)))), fS (sAt p (nat_lit 37)) p, nat_lit 3, [], .none, .none, .none, (.str (Str.ofString "ledgerspeak.readarith") (nat_lit 524)), none, (.ref (nat_lit 243)), .none, nat_lit 0⟩), ⟨[]⟩⟩
noncomputable abbrev k250 : OB := fun _ _ => ⟨(.type "code"), none, (.fields ⟨[(.str (Str.ofString "refuse_at") (nat_lit 535)), (.str (Str.ofString "refuse_at") (nat_lit 536)), (.str (Str.ofString "/claim/cut.py") (nat_lit 537)), (.int (.ofNat (nat_lit 184)) (nat_lit 0)), (.int (.ofNat (nat_lit 3)) (nat_lit 0)), (.int (.ofNat (nat_lit 0)) (nat_lit 0)), (.int (.ofNat (nat_lit 0)) (nat_lit 0)), (.int (.ofNat (nat_lit 3)) (nat_lit 0)), (.ref (nat_lit 245)), (.bool true), (.int (.ofNat (nat_lit 181)) (nat_lit 0)), (.ref (nat_lit 246)), .none, (.ref (nat_lit 247)), (.ref (nat_lit 248)), (.ref (nat_lit 249)), (.int (.ofNat (nat_lit 541)) (nat_lit 0)), (.int (.ofNat (nat_lit 184)) (nat_lit 0)), (.str (Str.ofString "/claim/cut.py") (nat_lit 542))]⟩), ⟨[]⟩⟩
noncomputable abbrev k251 : OB := fun p _ => ⟨(.type "function"), none, (.func ⟨(Str.ofString "refuse_at"), (Str.ofString "refuse_at"), fA (sAt p (nat_lit 38)), (.stmts (fB (sAt p (nat_lit 38)))), fS (sAt p (nat_lit 38)) p, nat_lit 3, [], .none, .none, .none, (.str (Str.ofString "ledgerspeak.readarith") (nat_lit 524)), none, (.ref (nat_lit 250)), .none, nat_lit 0⟩), ⟨[]⟩⟩
noncomputable abbrev k257 : OB := fun _ _ => ⟨(.type "code"), none, (.fields ⟨[(.str (Str.ofString "operand_here") (nat_lit 546)), (.str (Str.ofString "operand_here") (nat_lit 547)), (.str (Str.ofString "/claim/cut.py") (nat_lit 548)), (.int (.ofNat (nat_lit 188)) (nat_lit 0)), (.int (.ofNat (nat_lit 1)) (nat_lit 0)), (.int (.ofNat (nat_lit 0)) (nat_lit 0)), (.int (.ofNat (nat_lit 0)) (nat_lit 0)), (.int (.ofNat (nat_lit 3)) (nat_lit 0)), (.ref (nat_lit 252)), (.bool true), (.int (.ofNat (nat_lit 181)) (nat_lit 0)), (.ref (nat_lit 253)), .none, (.ref (nat_lit 254)), (.ref (nat_lit 255)), (.ref (nat_lit 256)), (.int (.ofNat (nat_lit 550)) (nat_lit 0)), (.int (.ofNat (nat_lit 188)) (nat_lit 0)), (.str (Str.ofString "/claim/cut.py") (nat_lit 551))]⟩), ⟨[]⟩⟩
noncomputable abbrev k258 : OB := fun p _ => ⟨(.type "function"), none, (.func ⟨(Str.ofString "operand_here"), (Str.ofString "operand_here"), fA (sAt p (nat_lit 40)), (.stmts (fB (sAt p (nat_lit 40)))), fS (sAt p (nat_lit 40)) p, nat_lit 3, [], .none, .none, .none, (.str (Str.ofString "ledgerspeak.readdata") (nat_lit 544)), none, (.ref (nat_lit 257)), .none, nat_lit 0⟩), ⟨[]⟩⟩
noncomputable abbrev k264 : OB := fun _ _ => ⟨(.type "code"), none, (.fields ⟨[(.str (Str.ofString "text_here") (nat_lit 553)), (.str (Str.ofString "text_here") (nat_lit 554)), (.str (Str.ofString "/claim/cut.py") (nat_lit 555)), (.int (.ofNat (nat_lit 192)) (nat_lit 0)), (.int (.ofNat (nat_lit 1)) (nat_lit 0)), (.int (.ofNat (nat_lit 0)) (nat_lit 0)), (.int (.ofNat (nat_lit 0)) (nat_lit 0)), (.int (.ofNat (nat_lit 3)) (nat_lit 0)), (.ref (nat_lit 259)), (.bool true), (.int (.ofNat (nat_lit 181)) (nat_lit 0)), (.ref (nat_lit 260)), .none, (.ref (nat_lit 261)), (.ref (nat_lit 262)), (.ref (nat_lit 263)), (.int (.ofNat (nat_lit 559)) (nat_lit 0)), (.int (.ofNat (nat_lit 192)) (nat_lit 0)), (.str (Str.ofString "/claim/cut.py") (nat_lit 560))]⟩), ⟨[]⟩⟩
noncomputable abbrev k265 : OB := fun p _ => ⟨(.type "function"), none, (.func ⟨(Str.ofString "text_here"), (Str.ofString "text_here"), fA (sAt p (nat_lit 41)), (.stmts (fB (sAt p (nat_lit 41)))), fS (sAt p (nat_lit 41)) p, nat_lit 3, [], .none, .none, .none, (.str (Str.ofString "ledgerspeak.readdata") (nat_lit 544)), none, (.ref (nat_lit 264)), .none, nat_lit 0⟩), ⟨[]⟩⟩
noncomputable abbrev k271 : OB := fun _ _ => ⟨(.type "code"), none, (.fields ⟨[(.str (Str.ofString "bounds_here") (nat_lit 562)), (.str (Str.ofString "bounds_here") (nat_lit 563)), (.str (Str.ofString "/claim/cut.py") (nat_lit 564)), (.int (.ofNat (nat_lit 198)) (nat_lit 0)), (.int (.ofNat (nat_lit 1)) (nat_lit 0)), (.int (.ofNat (nat_lit 0)) (nat_lit 0)), (.int (.ofNat (nat_lit 0)) (nat_lit 0)), (.int (.ofNat (nat_lit 3)) (nat_lit 0)), (.ref (nat_lit 266)), (.bool true), (.int (.ofNat (nat_lit 181)) (nat_lit 0)), (.ref (nat_lit 267)), .none, (.ref (nat_lit 268)), (.ref (nat_lit 269)), (.ref (nat_lit 270)), (.int (.ofNat (nat_lit 568)) (nat_lit 0)), (.int (.ofNat (nat_lit 198)) (nat_lit 0)), (.str (Str.ofString "/claim/cut.py") (nat_lit 569))]⟩), ⟨[]⟩⟩
noncomputable abbrev k272 : OB := fun p _ => ⟨(.type "function"), none, (.func ⟨(Str.ofString "bounds_here"), (Str.ofString "bounds_here"), fA (sAt p (nat_lit 42)), (.stmts (fB (sAt p (nat_lit 42)))), fS (sAt p (nat_lit 42)) p, nat_lit 3, [], .none, .none, .none, (.str (Str.ofString "ledgerspeak.readdata") (nat_lit 544)), none, (.ref (nat_lit 271)), .none, nat_lit 0⟩), ⟨[]⟩⟩
noncomputable abbrev k278 : OB := fun _ _ => ⟨(.type "code"), none, (.fields ⟨[(.str (Str.ofString "widths_meet") (nat_lit 571)), (.str (Str.ofString "widths_meet") (nat_lit 572)), (.str (Str.ofString "/claim/cut.py") (nat_lit 573)), (.int (.ofNat (nat_lit 209)) (nat_lit 0)), (.int (.ofNat (nat_lit 2)) (nat_lit 0)), (.int (.ofNat (nat_lit 0)) (nat_lit 0)), (.int (.ofNat (nat_lit 0)) (nat_lit 0)), (.int (.ofNat (nat_lit 3)) (nat_lit 0)), (.ref (nat_lit 273)), (.bool true), (.int (.ofNat (nat_lit 181)) (nat_lit 0)), (.ref (nat_lit 274)), .none, (.ref (nat_lit 275)), (.ref (nat_lit 276)), (.ref (nat_lit 277)), (.int (.ofNat (nat_lit 576)) (nat_lit 0)), (.int (.ofNat (nat_lit 209)) (nat_lit 0)), (.str (Str.ofString "/claim/cut.py") (nat_lit 577))]⟩), ⟨[]⟩⟩
noncomputable abbrev k279 : OB := fun p _ => ⟨(.type "function"), none, (.func ⟨(Str.ofString "widths_meet"), (Str.ofString "widths_meet"), fA (sAt p (nat_lit 43)), (.stmts (fB (sAt p (nat_lit 43)))), fS (sAt p (nat_lit 43)) p, nat_lit 3, [], .none, .none, .none, (.str (Str.ofString "ledgerspeak.readdata") (nat_lit 544)), none, (.ref (nat_lit 278)), .none, nat_lit 0⟩), ⟨[]⟩⟩
noncomputable abbrev k285 : OB := fun _ _ => ⟨(.type "code"), none, (.fields ⟨[(.str (Str.ofString "by_here") (nat_lit 579)), (.str (Str.ofString "by_here") (nat_lit 580)), (.str (Str.ofString "/claim/cut.py") (nat_lit 581)), (.int (.ofNat (nat_lit 213)) (nat_lit 0)), (.int (.ofNat (nat_lit 2)) (nat_lit 0)), (.int (.ofNat (nat_lit 0)) (nat_lit 0)), (.int (.ofNat (nat_lit 0)) (nat_lit 0)), (.int (.ofNat (nat_lit 3)) (nat_lit 0)), (.ref (nat_lit 280)), (.bool true), (.int (.ofNat (nat_lit 181)) (nat_lit 0)), (.ref (nat_lit 281)), .none, (.ref (nat_lit 282)), (.ref (nat_lit 283)), (.ref (nat_lit 284)), (.int (.ofNat (nat_lit 586)) (nat_lit 0)), (.int (.ofNat (nat_lit 213)) (nat_lit 0)), (.str (Str.ofString "/claim/cut.py") (nat_lit 587))]⟩), ⟨[]⟩⟩
noncomputable abbrev k286 : OB := fun p _ => ⟨(.type "function"), none, (.func ⟨(Str.ofString "by_here"), (Str.ofString "by_here"), fA (sAt p (nat_lit 44)), (.stmts (fB (sAt p (nat_lit 44)))), fS (sAt p (nat_lit 44)) p, nat_lit 3, [], .none, .none, .none, (.str (Str.ofString "ledgerspeak.readdata") (nat_lit 544)), none, (.ref (nat_lit 285)), .none, nat_lit 0⟩), ⟨[]⟩⟩
noncomputable abbrev k292 : OB := fun _ _ => ⟨(.type "code"), none, (.fields ⟨[(.str (Str.ofString "exchange_here") (nat_lit 589)), (.str (Str.ofString "exchange_here") (nat_lit 590)), (.str (Str.ofString "/claim/cut.py") (nat_lit 591)), (.int (.ofNat (nat_lit 219)) (nat_lit 0)), (.int (.ofNat (nat_lit 2)) (nat_lit 0)), (.int (.ofNat (nat_lit 0)) (nat_lit 0)), (.int (.ofNat (nat_lit 0)) (nat_lit 0)), (.int (.ofNat (nat_lit 3)) (nat_lit 0)), (.ref (nat_lit 287)), (.bool true), (.int (.ofNat (nat_lit 181)) (nat_lit 0)), (.ref (nat_lit 288)), .none, (.ref (nat_lit 289)), (.ref (nat_lit 290)), (.ref (nat_lit 291)), (.int (.ofNat (nat_lit 598)) (nat_lit 0)), (.int (.ofNat (nat_lit 219)) (nat_lit 0)), (.str (Str.ofString "/claim/cut.py") (nat_lit 599))]⟩), ⟨[]⟩⟩
noncomputable abbrev k293 : OB := fun p _ => ⟨(.type "function"), none, (.func ⟨(Str.ofString "exchange_here"), (Str.ofString "exchange_here"), fA (sAt p (nat_lit 45)), (.stmts (fB (sAt p (nat_lit 45)))), fS (sAt p (nat_lit 45)) p, nat_lit 3, [], .none, .none, .none, (.str (Str.ofString "ledgerspeak.readdata") (nat_lit 544)), none, (.ref (nat_lit 292)), .none, nat_lit 0⟩), ⟨[]⟩⟩
noncomputable abbrev k299 : OB := fun _ _ => ⟨(.type "code"), none, (.fields ⟨[(.str (Str.ofString "is_reserved") (nat_lit 607)), (.str (Str.ofString "is_reserved") (nat_lit 608)), (.str (Str.ofString "/claim/cut.py") (nat_lit 609)), (.int (.ofNat (nat_lit 228)) (nat_lit 0)), (.int (.ofNat (nat_lit 1)) (nat_lit 0)), (.int (.ofNat (nat_lit 0)) (nat_lit 0)), (.int (.ofNat (nat_lit 0)) (nat_lit 0)), (.int (.ofNat (nat_lit 3)) (nat_lit 0)), (.ref (nat_lit 294)), (.bool true), (.int (.ofNat (nat_lit 181)) (nat_lit 0)), (.ref (nat_lit 295)), .none, (.ref (nat_lit 296)), (.ref (nat_lit 297)), (.ref (nat_lit 298)), (.int (.ofNat (nat_lit 611)) (nat_lit 0)), (.int (.ofNat (nat_lit 228)) (nat_lit 0)), (.str (Str.ofString "/claim/cut.py") (nat_lit 612))]⟩), ⟨[]⟩⟩
noncomputable abbrev k300 : OB := fun p _ => ⟨(.type "function"), none, (.func ⟨(Str.ofString "is_reserved"), (Str.ofString "is_reserved"), fA (sAt p (nat_lit 49)), (.stmts (fB (sAt p (nat_lit 49)))), fS (sAt p (nat_lit 49)) p, nat_lit 3, [], .none, .none, .none, (.str (Str.ofString "ledgerspeak.reader") (nat_lit 601)), none, (.ref (nat_lit 299)), .none, nat_lit 0⟩), ⟨[]⟩⟩
noncomputable abbrev k304 : OB := fun _ _ => ⟨(.type "code"), none, (.fields ⟨[(.str (Str.ofString "octets_of_text") (nat_lit 614)), (.str (Str.ofString "octets_of_text") (nat_lit 615)), (.str (Str.ofString "/claim/cut.py") (nat_lit 616)), (.int (.ofNat (nat_lit 230)) (nat_lit 0)), (.int (.ofNat (nat_lit 1)) (nat_lit 0)), (.int (.ofNat (nat_lit 0)) (nat_lit 0)), (.int (.ofNat (nat_lit 0)) (nat_lit 0)), (.int (.ofNat (nat_lit 3)) (nat_lit 0)), (.ref (nat_lit 301)), (.bool true), (.int (.ofNat (nat_lit 181)) (nat_lit 0)), (.ref (nat_lit 302)), .none, .none, .none, (.ref (nat_lit 303)), (.int (.ofNat (nat_lit 617)) (nat_lit 0)), (.int (.ofNat (nat_lit 230)) (nat_lit 0)), (.str (Str.ofString "/claim/cut.py") (nat_lit 618))]⟩), ⟨[]⟩⟩
noncomputable abbrev k305 : OB := fun p _ => ⟨(.type "function"), none, (.func ⟨(Str.ofString "octets_of_text"), (Str.ofString "octets_of_text"), fA (sAt p (nat_lit 50)), (.stmts (fB (sAt p (nat_lit 50)))), fS (sAt p (nat_lit 50)) p, nat_lit 3, [], .none, .none, .none, (.str (Str.ofString "ledgerspeak.reader") (nat_lit 601)), none, (.ref (nat_lit 304)), .none, nat_lit 0⟩), ⟨[]⟩⟩
noncomputable abbrev k313 : OB := fun _ _ => ⟨(.type "tuple"), none, (.seq ⟨[(.int (.ofNat (nat_lit 0)) (nat_lit 632))]⟩ (nat_lit 0)), ⟨[]⟩⟩
noncomputable abbrev k319 : OB := fun _ _ => ⟨(.type "code"), none, (.fields ⟨[(.str (Str.ofString "__init__") (nat_lit 633)), (.str (Str.ofString "Reader.__init__") (nat_lit 634)), (.str (Str.ofString "/claim/cut.py") (nat_lit 635)), (.int (.ofNat (nat_lit 237)) (nat_lit 0)), (.int (.ofNat (nat_lit 3)) (nat_lit 0)), (.int (.ofNat (nat_lit 0)) (nat_lit 0)), (.int (.ofNat (nat_lit 0)) (nat_lit 0)), (.int (.ofNat (nat_lit 3)) (nat_lit 0)), (.ref (nat_lit 314)), (.bool true), (.int (.ofNat (nat_lit 181)) (nat_lit 0)), (.ref (nat_lit 315)), .none, (.ref (nat_lit 316)), (.ref (nat_lit 317)), (.ref (nat_lit 318)), (.int (.ofNat (nat_lit 639)) (nat_lit 0)), (.int (.ofNat (nat_lit 237)) (nat_lit 0)), (.str (Str.ofString "/claim/cut.py") (nat_lit 640))]⟩), ⟨[]⟩⟩
noncomputable abbrev k320 : OB := fun p _ => ⟨(.type "function"), none, (.func ⟨(Str.ofString "__init__"), (Str.ofString "Reader.__init__"), fA (mAt p (nat_lit 51) (nat_lit 0)), (.stmts (fB (mAt p (nat_lit 51) (nat_lit 0)))), fS (mAt p (nat_lit 51) (nat_lit 0)) p, nat_lit 3, [], (.ref (nat_lit 313)), .none, .none, (.str (Str.ofString "ledgerspeak.reader") (nat_lit 601)), none, (.ref (nat_lit 319)), .none, nat_lit 0⟩), ⟨[]⟩⟩
noncomputable abbrev k321 : OB := fun _ _ => ⟨(.type "tuple"), none, (.seq ⟨[(.int (.ofNat (nat_lit 0)) (nat_lit 642))]⟩ (nat_lit 0)), ⟨[]⟩⟩
noncomputable abbrev k327 : OB := fun _ _ => ⟨(.type "code"), none, (.fields ⟨[(.str (Str.ofString "peek") (nat_lit 643)), (.str (Str.ofString "Reader.peek") (nat_lit 644)), (.str (Str.ofString "/claim/cut.py") (nat_lit 645)), (.int (.ofNat (nat_lit 242)) (nat_lit 0)), (.int (.ofNat (nat_lit 2)) (nat_lit 0)), (.int (.ofNat (nat_lit 0)) (nat_lit 0)), (.int (.ofNat (nat_lit 0)) (nat_lit 0)), (.int (.ofNat (nat_lit 3)) (nat_lit 0)), (.ref (nat_lit 322)), (.bool true), (.int (.ofNat (nat_lit 181)) (nat_lit 0)), (.ref (nat_lit 323)), .none, (.ref (nat_lit 324)), (.ref (nat_lit 325)), (.ref (nat_lit 326)), (.int (.ofNat (nat_lit 648)) (nat_lit 0)), (.int (.ofNat (nat_lit 242)) (nat_lit 0)), (.str (Str.ofString "/claim/cut.py") (nat_lit 649))]⟩), ⟨[]⟩⟩
noncomputable abbrev k328 : OB := fun p _ => ⟨(.type "function"), none, (.func ⟨(Str.ofString "peek"), (Str.ofString "Reader.peek"), fA (mAt p (nat_lit 51) (nat_lit 1)), (.stmts (fB (mAt p (nat_lit 51) (nat_lit 1)))), fS (mAt p (nat_lit 51) (nat_lit 1)) p, nat_lit 3, [], (.ref (nat_lit 321)), .none, .none, (.str (Str.ofString "ledgerspeak.reader") (nat_lit 601)), none, (.ref (nat_lit 327)), .none, nat_lit 0⟩), ⟨[]⟩⟩
noncomputable abbrev k341 : OB := fun _ _ => ⟨(.type "code"), none, (.fields ⟨[(.str (Str.ofString "fault") (nat_lit 658)), (.str (Str.ofString "Reader.fault") (nat_lit 659)), (.str (Str.ofString "/claim/cut.py") (nat_lit 660)), (.int (.ofNat (nat_lit 250)) (nat_lit 0)), (.int (.ofNat (nat_lit 2)) (nat_lit 0)), (.int (.ofNat (nat_lit 0)) (nat_lit 0)), (.int (.ofNat (nat_lit 0)) (nat_lit 0)), (.int (.ofNat (nat_lit 3)) (nat_lit 0)), (.ref (nat_lit 336)), (.bool true), (.int (.ofNat (nat_lit 181)) (nat_lit 0)), (.ref (nat_lit 337)), .none, (.ref (nat_lit 338)), (.ref (nat_lit 339)), (.ref (nat_lit 340)), (.int (.ofNat (nat_lit 663)) (nat_lit 0)), (.int (.ofNat (nat_lit 250)) (nat_lit 0)), (.str (Str.ofString "/claim/cut.py") (nat_lit 664))]⟩), ⟨[]⟩⟩
noncomputable abbrev k342 : OB := fun p _ => ⟨(.type "function"), none, (.func ⟨(Str.ofString "fault"), (Str.ofString "Reader.fault"), fA (mAt p (nat_lit 51) (nat_lit 3)), (.stmts (fB (mAt p (nat_lit 51) (nat_lit 3)))), fS (mAt p (nat_lit 51) (nat_lit 3)) p, nat_lit 3, [], .none, .none, .none, (.str (Str.ofString "ledgerspeak.reader") (nat_lit 601)), none, (.ref (nat_lit 341)), .none, nat_lit 0⟩), ⟨[]⟩⟩
noncomputable abbrev k348 : OB := fun _ _ => ⟨(.type "code"), none, (.fields ⟨[(.str (Str.ofString "take") (nat_lit 666)), (.str (Str.ofString "Reader.take") (nat_lit 667)), (.str (Str.ofString "/claim/cut.py") (nat_lit 668)), (.int (.ofNat (nat_lit 255)) (nat_lit 0)), (.int (.ofNat (nat_lit 1)) (nat_lit 0)), (.int (.ofNat (nat_lit 0)) (nat_lit 0)), (.int (.ofNat (nat_lit 0)) (nat_lit 0)), (.int (.ofNat (nat_lit 3)) (nat_lit 0)), (.ref (nat_lit 343)), (.bool true), (.int (.ofNat (nat_lit 181)) (nat_lit 0)), (.ref (nat_lit 344)), .none, (.ref (nat_lit 345)), (.ref (nat_lit 346)), (.ref (nat_lit 347)), (.int (.ofNat (nat_lit 671)) (nat_lit 0)), (.int (.ofNat (nat_lit 255)) (nat_lit 0)), (.str (Str.ofString "/claim/cut.py") (nat_lit 672))]⟩), ⟨[]⟩⟩
noncomputable abbrev k349 : OB := fun p _ => ⟨(.type "function"), none, (.func ⟨(Str.ofString "take"), (Str.ofString "Reader.take"), fA (mAt p (nat_lit 51) (nat_lit 4)), (.stmts (fB (mAt p (nat_lit 51) (nat_lit 4)))), fS (mAt p (nat_lit 51) (nat_lit 4)) p, nat_lit 3, [], .none, .none, .none, (.str (Str.ofString "ledgerspeak.reader") (nat_lit 601)), none, (.ref (nat_lit 348)), .none, nat_lit 0⟩), ⟨[]⟩⟩
noncomputable abbrev k350 : OB := fun _ _ => ⟨(.type "tuple"), none, (.seq ⟨[(.int (.ofNat (nat_lit 0)) (nat_lit 674))]⟩ (nat_lit 0)), ⟨[]⟩⟩
noncomputable abbrev k356 : OB := fun _ _ => ⟨(.type "code"), none, (.fields ⟨[(.str (Str.ofString "is_kind") (nat_lit 675)), (.str (Str.ofString "Reader.is_kind") (nat_lit 676)), (.str (Str.ofString "/claim/cut.py") (nat_lit 677)), (.int (.ofNat (nat_lit 262)) (nat_lit 0)), (.int (.ofNat (nat_lit 3)) (nat_lit 0)), (.int (.ofNat (nat_lit 0)) (nat_lit 0)), (.int (.ofNat (nat_lit 0)) (nat_lit 0)), (.int (.ofNat (nat_lit 3)) (nat_lit 0)), (.ref (nat_lit 351)), (.bool true), (.int (.ofNat (nat_lit 181)) (nat_lit 0)), (.ref (nat_lit 352)), .none, (.ref (nat_lit 353)), (.ref (nat_lit 354)), (.ref (nat_lit 355)), (.int (.ofNat (nat_lit 682)) (nat_lit 0)), (.int (.ofNat (nat_lit 262)) (nat_lit 0)), (.str (Str.ofString "/claim/cut.py") (nat_lit 683))]⟩), ⟨[]⟩⟩
noncomputable abbrev k357 : OB := fun p _ => ⟨(.type "function"), none, (.func ⟨(Str.ofString "is_kind"), (Str.ofString "Reader.is_kind"), fA (mAt p (nat_lit 51) (nat_lit 5)), (.stmts (fB (mAt p (nat_lit 51) (nat_lit 5)))), fS (mAt p (nat_lit 51) (nat_lit 5)) p, nat_lit 3, [], (.ref (nat_lit 350)), .none, .none, (.str (Str.ofString "ledgerspeak.reader") (nat_lit 601)), none, (.ref (nat_lit 356)), .none, nat_lit 0⟩), ⟨[]⟩⟩
noncomputable abbrev k363 : OB := fun _ _ => ⟨(.type "code"), none, (.fields ⟨[(.str (Str.ofString "is_word") (nat_lit 685)), (.str (Str.ofString "Reader.is_word") (nat_lit 686)), (.str (Str.ofString "/claim/cut.py") (nat_lit 687)), (.int (.ofNat (nat_lit 266)) (nat_lit 0)), (.int (.ofNat (nat_lit 2)) (nat_lit 0)), (.int (.ofNat (nat_lit 0)) (nat_lit 0)), (.int (.ofNat (nat_lit 0)) (nat_lit 0)), (.int (.ofNat (nat_lit 3)) (nat_lit 0)), (.ref (nat_lit 358)), (.bool true), (.int (.ofNat (nat_lit 181)) (nat_lit 0)), (.ref (nat_lit 359)), .none, (.ref (nat_lit 360)), (.ref (nat_lit 361)), (.ref (nat_lit 362)), (.int (.ofNat (nat_lit 692)) (nat_lit 0)), (.int (.ofNat (nat_lit 266)) (nat_lit 0)), (.str (Str.ofString "/claim/cut.py") (nat_lit 693))]⟩), ⟨[]⟩⟩
noncomputable abbrev k364 : OB := fun p _ => ⟨(.type "function"), none, (.func ⟨(Str.ofString "is_word"), (Str.ofString "Reader.is_word"), fA (mAt p (nat_lit 51) (nat_lit 6)), (.stmts (fB (mAt p (nat_lit 51) (nat_lit 6)))), fS (mAt p (nat_lit 51) (nat_lit 6)) p, nat_lit 3, [], .none, .none, .none, (.str (Str.ofString "ledgerspeak.reader") (nat_lit 601)), none, (.ref (nat_lit 363)), .none, nat_lit 0⟩), ⟨[]⟩⟩
noncomputable abbrev k370 : OB := fun _ _ => ⟨(.type "code"), none, (.fields ⟨[(.str (Str.ofString "skip") (nat_lit 695)), (.str (Str.ofString "Reader.skip") (nat_lit 696)), (.str (Str.ofString "/claim/cut.py") (nat_lit 697)), (.int (.ofNat (nat_lit 274)) (nat_lit 0)), (.int (.ofNat (nat_lit 2)) (nat_lit 0)), (.int (.ofNat (nat_lit 0)) (nat_lit 0)), (.int (.ofNat (nat_lit 0)) (nat_lit 0)), (.int (.ofNat (nat_lit 3)) (nat_lit 0)), (.ref (nat_lit 365)), (.bool true), (.int (.ofNat (nat_lit 181)) (nat_lit 0)), (.ref (nat_lit 366)), .none, (.ref (nat_lit 367)), (.ref (nat_lit 368)), (.ref (nat_lit 369)), (.int (.ofNat (nat_lit 700)) (nat_lit 0)), (.int (.ofNat (nat_lit 274)) (nat_lit 0)), (.str (Str.ofString "/claim/cut.py") (nat_lit 701))]⟩), ⟨[]⟩⟩
noncomputable abbrev k371 : OB := fun p _ => ⟨(.type "function"), none, (.func ⟨(Str.ofString "skip"), (Str.ofString "Reader.skip"), fA (mAt p (nat_lit 51) (nat_lit 7)), (.stmts (fB (mAt p (nat_lit 51) (nat_lit 7)))), fS (mAt p (nat_lit 51) (nat_lit 7)) p, nat_lit 3, [], .none, .none, .none, (.str (Str.ofString "ledgerspeak.reader") (nat_lit 601)), none, (.ref (nat_lit 370)), .none, nat_lit 0⟩), ⟨[]⟩⟩
noncomputable abbrev k377 : OB := fun _ _ => ⟨(.type "code"), none, (.fields ⟨[(.str (Str.ofString "need") (nat_lit 703)), (.str (Str.ofString "Reader.need") (nat_lit 704)), (.str (Str.ofString "/claim/cut.py") (nat_lit 705)), (.int (.ofNat (nat_lit 280)) (nat_lit 0)), (.int (.ofNat (nat_lit 2)) (nat_lit 0)), (.int (.ofNat (nat_lit 0)) (nat_lit 0)), (.int (.ofNat (nat_lit 0)) (nat_lit 0)), (.int (.ofNat (nat_lit 3)) (nat_lit 0)), (.ref (nat_lit 372)), (.bool true), (.int (.ofNat (nat_lit 181)) (nat_lit 0)), (.ref (nat_lit 373)), .none, (.ref (nat_lit 374)), (.ref (nat_lit 375)), (.ref (nat_lit 376)), (.int (.ofNat (nat_lit 708)) (nat_lit 0)), (.int (.ofNat (nat_lit 280)) (nat_lit 0)), (.str (Str.ofString "/claim/cut.py") (nat_lit 709))]⟩), ⟨[]⟩⟩
noncomputable abbrev k378 : OB := fun p _ => ⟨(.type "function"), none, (.func ⟨(Str.ofString "need"), (Str.ofString "Reader.need"), fA (mAt p (nat_lit 51) (nat_lit 8)), (.stmts (fB (mAt p (nat_lit 51) (nat_lit 8)))), fS (mAt p (nat_lit 51) (nat_lit 8)) p, nat_lit 3, [], .none, .none, .none, (.str (Str.ofString "ledgerspeak.reader") (nat_lit 601)), none, (.ref (nat_lit 377)), .none, nat_lit 0⟩), ⟨[]⟩⟩
noncomputable abbrev k384 : OB := fun _ _ => ⟨(.type "code"), none, (.fields ⟨[(.str (Str.ofString "one_of") (nat_lit 711)), (.str (Str.ofString "Reader.one_of") (nat_lit 712)), (.str (Str.ofString "/claim/cut.py") (nat_lit 713)), (.int (.ofNat (nat_lit 284)) (nat_lit 0)), (.int (.ofNat (nat_lit 2)) (nat_lit 0)), (.int (.ofNat (nat_lit 0)) (nat_lit 0)), (.int (.ofNat (nat_lit 0)) (nat_lit 0)), (.int (.ofNat (nat_lit 3)) (nat_lit 0)), (.ref (nat_lit 379)), (.bool true), (.int (.ofNat (nat_lit 181)) (nat_lit 0)), (.ref (nat_lit 380)), .none, (.ref (nat_lit 381)), (.ref (nat_lit 382)), (.ref (nat_lit 383)), (.int (.ofNat (nat_lit 717)) (nat_lit 0)), (.int (.ofNat (nat_lit 284)) (nat_lit 0)), (.str (Str.ofString "/claim/cut.py") (nat_lit 718))]⟩), ⟨[]⟩⟩
noncomputable abbrev k385 : OB := fun p _ => ⟨(.type "function"), none, (.func ⟨(Str.ofString "one_of"), (Str.ofString "Reader.one_of"), fA (mAt p (nat_lit 51) (nat_lit 9)), (.stmts (fB (mAt p (nat_lit 51) (nat_lit 9)))), fS (mAt p (nat_lit 51) (nat_lit 9)) p, nat_lit 3, [], .none, .none, .none, (.str (Str.ofString "ledgerspeak.reader") (nat_lit 601)), none, (.ref (nat_lit 384)), .none, nat_lit 0⟩), ⟨[]⟩⟩
noncomputable abbrev k393 : OB := fun _ _ => ⟨(.type "tuple"), none, (.seq ⟨[(.int (.ofNat (nat_lit 0)) (nat_lit 727))]⟩ (nat_lit 0)), ⟨[]⟩⟩
noncomputable abbrev k399 : OB := fun _ _ => ⟨(.type "code"), none, (.fields ⟨[(.str (Str.ofString "is_name") (nat_lit 728)), (.str (Str.ofString "Reader.is_name") (nat_lit 729)), (.str (Str.ofString "/claim/cut.py") (nat_lit 730)), (.int (.ofNat (nat_lit 295)) (nat_lit 0)), (.int (.ofNat (nat_lit 2)) (nat_lit 0)), (.int (.ofNat (nat_lit 0)) (nat_lit 0)), (.int (.ofNat (nat_lit 0)) (nat_lit 0)), (.int (.ofNat (nat_lit 3)) (nat_lit 0)), (.ref (nat_lit 394)), (.bool true), (.int (.ofNat (nat_lit 181)) (nat_lit 0)), (.ref (nat_lit 395)), .none, (.ref (nat_lit 396)), (.ref (nat_lit 397)), (.ref (nat_lit 398)), (.int (.ofNat (nat_lit 733)) (nat_lit 0)), (.int (.ofNat (nat_lit 295)) (nat_lit 0)), (.str (Str.ofString "/claim/cut.py") (nat_lit 734))]⟩), ⟨[]⟩⟩
noncomputable abbrev k400 : OB := fun p _ => ⟨(.type "function"), none, (.func ⟨(Str.ofString "is_name"), (Str.ofString "Reader.is_name"), fA (mAt p (nat_lit 51) (nat_lit 11)), (.stmts (fB (mAt p (nat_lit 51) (nat_lit 11)))), fS (mAt p (nat_lit 51) (nat_lit 11)) p, nat_lit 3, [], (.ref (nat_lit 393)), .none, .none, (.str (Str.ofString "ledgerspeak.reader") (nat_lit 601)), none, (.ref (nat_lit 399)), .none, nat_lit 0⟩), ⟨[]⟩⟩
noncomputable abbrev k406 : OB := fun _ _ => ⟨(.type "code"), none, (.fields ⟨[(.str (Str.ofString "name") (nat_lit 736)), (.str (Str.ofString "Reader.name") (nat_lit 737)), (.str (Str.ofString "/claim/cut.py") (nat_lit 738)), (.int (.ofNat (nat_lit 298)) (nat_lit 0)), (.int (.ofNat (nat_lit 1)) (nat_lit 0)), (.int (.ofNat (nat_lit 0)) (nat_lit 0)), (.int (.ofNat (nat_lit 0)) (nat_lit 0)), (.int (.ofNat (nat_lit 3)) (nat_lit 0)), (.ref (nat_lit 401)), (.bool true), (.int (.ofNat (nat_lit 181)) (nat_lit 0)), (.ref (nat_lit 402)), .none, (.ref (nat_lit 403)), (.ref (nat_lit 404)), (.ref (nat_lit 405)), (.int (.ofNat (nat_lit 740)) (nat_lit 0)), (.int (.ofNat (nat_lit 298)) (nat_lit 0)), (.str (Str.ofString "/claim/cut.py") (nat_lit 741))]⟩), ⟨[]⟩⟩
noncomputable abbrev k407 : OB := fun p _ => ⟨(.type "function"), none, (.func ⟨(Str.ofString "name"), (Str.ofString "Reader.name"), fA (mAt p (nat_lit 51) (nat_lit 12)), (.stmts (fB (mAt p (nat_lit 51) (nat_lit 12)))), fS (mAt p (nat_lit 51) (nat_lit 12)) p, nat_lit 3, [], .none, .none, .none, (.str (Str.ofString "ledgerspeak.reader") (nat_lit 601)), none, (.ref (nat_lit 406)), .none, nat_lit 0⟩), ⟨[]⟩⟩
noncomputable abbrev k415 : OB := fun _ _ => ⟨(.type "tuple"), none, (.seq ⟨[(.int (.ofNat (nat_lit 0)) (nat_lit 750))]⟩ (nat_lit 0)), ⟨[]⟩⟩
noncomputable abbrev k421 : OB := fun _ _ => ⟨(.type "code"), none, (.fields ⟨[(.str (Str.ofString "is_sign") (nat_lit 751)), (.str (Str.ofString "Reader.is_sign") (nat_lit 752)), (.str (Str.ofString "/claim/cut.py") (nat_lit 753)), (.int (.ofNat (nat_lit 306)) (nat_lit 0)), (.int (.ofNat (nat_lit 3)) (nat_lit 0)), (.int (.ofNat (nat_lit 0)) (nat_lit 0)), (.int (.ofNat (nat_lit 0)) (nat_lit 0)), (.int (.ofNat (nat_lit 3)) (nat_lit 0)), (.ref (nat_lit 416)), (.bool true), (.int (.ofNat (nat_lit 181)) (nat_lit 0)), (.ref (nat_lit 417)), .none, (.ref (nat_lit 418)), (.ref (nat_lit 419)), (.ref (nat_lit 420)), (.int (.ofNat (nat_lit 757)) (nat_lit 0)), (.int (.ofNat (nat_lit 306)) (nat_lit 0)), (.str (Str.ofString "/claim/cut.py") (nat_lit 758))]⟩), ⟨[]⟩⟩
noncomputable abbrev k422 : OB := fun p _ => ⟨(.type "function"), none, (.func ⟨(Str.ofString "is_sign"), (Str.ofString "Reader.is_sign"), fA (mAt p (nat_lit 51) (nat_lit 14)), (.stmts (fB (mAt p (nat_lit 51) (nat_lit 14)))), fS (mAt p (nat_lit 51) (nat_lit 14)) p, nat_lit 3, [], (.ref (nat_lit 415)), .none, .none, (.str (Str.ofString "ledgerspeak.reader") (nat_lit 601)), none, (.ref (nat_lit 421)), .none, nat_lit 0⟩), ⟨[]⟩⟩
noncomputable abbrev k442 : OB := fun _ _ => ⟨(.type "code"), none, (.fields ⟨[(.str (Str.ofString "is_number") (nat_lit 776)), (.str (Str.ofString "Reader.is_number") (nat_lit 777)), (.str (Str.ofString "/claim/cut.py") (nat_lit 778)), (.int (.ofNat (nat_lit 319)) (nat_lit 0)), (.int (.ofNat (nat_lit 1)) (nat_lit 0)), (.int (.ofNat (nat_lit 0)) (nat_lit 0)), (.int (.ofNat (nat_lit 0)) (nat_lit 0)), (.int (.ofNat (nat_lit 3)) (nat_lit 0)), (.ref (nat_lit 437)), (.bool true), (.int (.ofNat (nat_lit 181)) (nat_lit 0)), (.ref (nat_lit 438)), .none, (.ref (nat_lit 439)), (.ref (nat_lit 440)), (.ref (nat_lit 441)), (.int (.ofNat (nat_lit 780)) (nat_lit 0)), (.int (.ofNat (nat_lit 319)) (nat_lit 0)), (.str (Str.ofString "/claim/cut.py") (nat_lit 781))]⟩), ⟨[]⟩⟩
noncomputable abbrev k443 : OB := fun p _ => ⟨(.type "function"), none, (.func ⟨(Str.ofString "is_number"), (Str.ofString "Reader.is_number"), fA (mAt p (nat_lit 51) (nat_lit 17)), (.stmts (fB (mAt p (nat_lit 51) (nat_lit 17)))), fS (mAt p (nat_lit 51) (nat_lit 17)) p, nat_lit 3, [], .none, .none, .none, (.str (Str.ofString "ledgerspeak.reader") (nat_lit 601)), none, (.ref (nat_lit 442)), .none, nat_lit 0⟩), ⟨[]⟩⟩
noncomputable abbrev k470 : OB := fun _ _ => ⟨(.type "code"), none, (.fields ⟨[(.str (Str.ofString "octets") (nat_lit 807)), (.str (Str.ofString "Reader.octets") (nat_lit 808)), (.str (Str.ofString "/claim/cut.py") (nat_lit 809)), (.int (.ofNat (nat_lit 347)) (nat_lit 0)), (.int (.ofNat (nat_lit 1)) (nat_lit 0)), (.int (.ofNat (nat_lit 0)) (nat_lit 0)), (.int (.ofNat (nat_lit 0)) (nat_lit 0)), (.int (.ofNat (nat_lit 3)) (nat_lit 0)), (.ref (nat_lit 465)), (.bool true), (.int (.ofNat (nat_lit 181)) (nat_lit 0)), (.ref (nat_lit 466)), .none, (.ref (nat_lit 467)), (.ref (nat_lit 468)), (.ref (nat_lit 469)), (.int (.ofNat (nat_lit 812)) (nat_lit 0)), (.int (.ofNat (nat_lit 347)) (nat_lit 0)), (.str (Str.ofString "/claim/cut.py") (nat_lit 813))]⟩), ⟨[]⟩⟩
noncomputable abbrev k471 : OB := fun p _ => ⟨(.type "function"), none, (.func ⟨(Str.ofString "octets"), (Str.ofString "Reader.octets"), fA (mAt p (nat_lit 51) (nat_lit 21)), (.stmts (fB (mAt p (nat_lit 51) (nat_lit 21)))), fS (mAt p (nat_lit 51) (nat_lit 21)) p, nat_lit 3, [], .none, .none, .none, (.str (Str.ofString "ledgerspeak.reader") (nat_lit 601)), none, (.ref (nat_lit 470)), .none, nat_lit 0⟩), ⟨[]⟩⟩
noncomputable abbrev k473 : OB := fun _ P => ⟨(.type "dict"), none, (.dict ⟨[⟨PyData.keyHash P (Str.ofString "__module__"), (.str (Str.ofString "__module__") (nat_lit 627)), (.str (Str.ofString "ledgerspeak.reader") (nat_lit 601))⟩, ⟨PyData.keyHash P (Str.ofString "__firstlineno__"), (.str (Str.ofString "__firstlineno__") (nat_lit 631)), (.int (.ofNat (nat_lit 235)) (nat_lit 630))⟩, ⟨PyData.keyHash P (Str.ofString "__init__"), (.str (Str.ofString "__init__") (nat_lit 641)), (.ref (nat_lit 320))⟩, ⟨PyData.keyHash P (Str.ofString "peek"), (.str (Str.ofString "peek") (nat_lit 650)), (.ref (nat_lit 328))⟩, ⟨PyData.keyHash P (Str.ofString "is_done"), (.str (Str.ofString "is_done") (nat_lit 657)), (.ref (nat_lit 335))⟩, ⟨PyData.keyHash P (Str.ofString "fault"), (.str (Str.ofString "fault") (nat_lit 665)), (.ref (nat_lit 342))⟩, ⟨PyData.keyHash P (Str.ofString "take"), (.str (Str.ofString "take") (nat_lit 673)), (.ref (nat_lit 349))⟩, ⟨PyData.keyHash P (Str.ofString "is_kind"), (.str (Str.ofString "is_kind") (nat_lit 684)), (.ref (nat_lit 357))⟩, ⟨PyData.keyHash P (Str.ofString "is_word"), (.str (Str.ofString "is_word") (nat_lit 694)), (.ref (nat_lit 364))⟩, ⟨PyData.keyHash P (Str.ofString "skip"), (.str (Str.ofString "skip") (nat_lit 702)), (.ref (nat_lit 371))⟩, ⟨PyData.keyHash P (Str.ofString "need"), (.str (Str.ofString "need") (nat_lit 710)), (.ref (nat_lit 378))⟩, ⟨PyData.keyHash P (Str.ofString "one_of"), (.str (Str.ofString "one_of") (nat_lit 719)), (.ref (nat_lit 385))⟩, ⟨PyData.keyHash P (Str.ofString "word"), (.str (Str.ofString "word") (nat_lit 726)), (.ref (nat_lit 392))⟩, ⟨PyData.keyHash P (Str.ofString "is_name"), (.str (Str.ofString "is_name") (nat_lit 735)), (.ref (nat_lit 400))⟩, ⟨PyData.keyHash P (Str.ofString "name"), (.str (Str.ofString "name") (nat_lit 742)), (.ref (nat_lit 407))⟩, ⟨PyData.keyHash P (Str.ofString "names"), (.str (Str.ofString "names") (nat_lit 749)), (.ref (nat_lit 414))⟩, ⟨PyData.keyHash P (Str.ofString "is_sign"), (.str (Str.ofString "is_sign") (nat_lit 759)), (.ref (nat_lit 422))⟩, ⟨PyData.keyHash P (Str.ofString "skip_sign"), (.str (Str.ofString "skip_sign") (nat_lit 767)), (.ref (nat_lit 429))⟩, ⟨PyData.keyHash P (Str.ofString "need_sign"), (.str (Str.ofString "need_sign") (nat_lit 775)), (.ref (nat_lit 436))⟩, ⟨PyData.keyHash P (Str.ofString "is_number"), (.str (Str.ofString "is_number") (nat_lit 782)), (.ref (nat_lit 443))⟩, ⟨PyData.keyHash P (Str.ofString "signed"), (.str (Str.ofString "signed") (nat_lit 791)), (.ref (nat_lit 450))⟩, ⟨PyData.keyHash P (Str.ofString "whole"), (.str (Str.ofString "whole") (nat_lit 799)), (.ref (nat_lit 457))⟩, ⟨PyData.keyHash P (Str.ofString "literal"), (.str (Str.ofString "literal") (nat_lit 806)), (.ref (nat_lit 464))⟩, ⟨PyData.keyHash P (Str.ofString "octets"), (.str (Str.ofString "octets") (nat_lit 814)), (.ref (nat_lit 471))⟩, ⟨PyData.keyHash P (Str.ofString "__static_attributes__"), (.str (Str.ofString "__static_attributes__") (nat_lit 818)), (.ref (nat_lit 472))⟩, ⟨PyData.keyHash P (Str.ofString "__dict__"), (.str (Str.ofString "__dict__") (nat_lit 820)), (.ref (nat_lit 475))⟩, ⟨PyData.keyHash P (Str.ofString "__weakref__"), (.str (Str.ofString "__weakref__") (nat_lit 822)), (.ref (nat_lit 476))⟩, ⟨PyData.keyHash P (Str.ofString "__doc__"), (.str (Str.ofString "__doc__") (nat_lit 823)), .none⟩]⟩ (nat_lit 4)), ⟨[]⟩⟩
noncomputable abbrev k474 : OB := fun _ _ => ⟨(.type "type"), none, (.cls ⟨(Str.ofString "Reader"), [(.type "object")], [(.ref (nat_lit 474)), (.type "object")], nat_lit 473, (Str.ofString "Reader"), true, [], [], false, none, false⟩), ⟨[none, none, (some (.str (Str.ofString "Reader") (nat_lit 620))), (some (.str (Str.ofString "Reader") (nat_lit 628))), (some (.builtin "object.__new__")), (some (.bool true))]⟩⟩
noncomputable abbrev k486 : OB := fun _ _ => ⟨(.type "tuple"), none, (.seq ⟨[(.int (.ofNat (nat_lit 0)) (nat_lit 840)), (.int (.ofNat (nat_lit 0)) (nat_lit 841))]⟩ (nat_lit 0)), ⟨[]⟩⟩
noncomputable abbrev k487 : OB := fun _ _ => ⟨(.type "tuple"), none, (.seq ⟨[(.ref (nat_lit 486)), (.bool false)]⟩ (nat_lit 0)), ⟨[]⟩⟩
noncomputable abbrev k493 : OB := fun _ _ => ⟨(.type "code"), none, (.fields ⟨[(.str (Str.ofString "__init__") (nat_lit 842)), (.str (Str.ofString "Token.__init__") (nat_lit 843)), (.str (Str.ofString "/claim/cut.py") (nat_lit 844)), (.int (.ofNat (nat_lit 358)) (nat_lit 0)), (.int (.ofNat (nat_lit 5)) (nat_lit 0)), (.int (.ofNat (nat_lit 0)) (nat_lit 0)), (.int (.ofNat (nat_lit 0)) (nat_lit 0)), (.int (.ofNat (nat_lit 3)) (nat_lit 0)), (.ref (nat_lit 488)), (.bool true), (.int (.ofNat (nat_lit 181)) (nat_lit 0)), (.ref (nat_lit 489)), .none, (.ref (nat_lit 490)), (.ref (nat_lit 491)), (.ref (nat_lit 492)), (.int (.ofNat (nat_lit 850)) (nat_lit 0)), (.int (.ofNat (nat_lit 358)) (nat_lit 0)), (.str (Str.ofString "/claim/cut.py") (nat_lit 851))]⟩), ⟨[]⟩⟩
noncomputable abbrev k494 : OB := fun p _ => ⟨(.type "function"), none, (.func ⟨(Str.ofString "__init__"), (Str.ofString "Token.__init__"), fA (mAt p (nat_lit 53) (nat_lit 0)), (.stmts (fB (mAt p (nat_lit 53) (nat_lit 0)))), fS (mAt p (nat_lit 53) (nat_lit 0)) p, nat_lit 3, [], (.ref (nat_lit 487)), .none, .none, (.str (Str.ofString "ledgerspeak.tokens") (nat_lit 826)), none, (.ref (nat_lit 493)), .none, nat_lit 0⟩), ⟨[]⟩⟩
noncomputable abbrev k503 : OB := fun _ P => ⟨(.type "dict"), none, (.dict ⟨[⟨PyData.keyHash P (Str.ofString "__module__"), (.str (Str.ofString "__module__") (nat_lit 835)), (.str (Str.ofString "ledgerspeak.tokens") (nat_lit 826))⟩, ⟨PyData.keyHash P (Str.ofString "__firstlineno__"), (.str (Str.ofString "__firstlineno__") (nat_lit 839)), (.int (.ofNat (nat_lit 356)) (nat_lit 838))⟩, ⟨PyData.keyHash P (Str.ofString "__init__"), (.str (Str.ofString "__init__") (nat_lit 852)), (.ref (nat_lit 494))⟩, ⟨PyData.keyHash P (Str.ofString "told"), (.str (Str.ofString "told") (nat_lit 859)), (.ref (nat_lit 501))⟩, ⟨PyData.keyHash P (Str.ofString "__static_attributes__"), (.str (Str.ofString "__static_attributes__") (nat_lit 864)), (.ref (nat_lit 502))⟩, ⟨PyData.keyHash P (Str.ofString "__dict__"), (.str (Str.ofString "__dict__") (nat_lit 866)), (.ref (nat_lit 505))⟩, ⟨PyData.keyHash P (Str.ofString "__weakref__"), (.str (Str.ofString "__weakref__") (nat_lit 868)), (.ref (nat_lit 506))⟩, ⟨PyData.keyHash P (Str.ofString "__doc__"), (.str (Str.ofString "__doc__") (nat_lit 869)), .none⟩]⟩ (nat_lit 4)), ⟨[]⟩⟩
noncomputable abbrev k504 : OB := fun _ _ => ⟨(.type "type"), none, (.cls ⟨(Str.ofString "Token"), [(.type "object")], [(.ref (nat_lit 504)), (.type "object")], nat_lit 503, (Str.ofString "Token"), true, [], [], false, none, false⟩), ⟨[none, none, (some (.str (Str.ofString "Token") (nat_lit 828))), (some (.str (Str.ofString "Token") (nat_lit 836))), (some (.builtin "object.__new__")), (some (.bool true))]⟩⟩
noncomputable abbrev k512 : OB := fun _ _ => ⟨(.type "code"), none, (.fields ⟨[(.str (Str.ofString "_law_pen") (nat_lit 874)), (.str (Str.ofString "_law_pen") (nat_lit 875)), (.str (Str.ofString "/claim/cut.py") (nat_lit 876)), (.int (.ofNat (nat_lit 367)) (nat_lit 0)), (.int (.ofNat (nat_lit 1)) (nat_lit 0)), (.int (.ofNat (nat_lit 0)) (nat_lit 0)), (.int (.ofNat (nat_lit 0)) (nat_lit 0)), (.int (.ofNat (nat_lit 3)) (nat_lit 0)), (.ref (nat_lit 509)), (.bool true), (.int (.ofNat (nat_lit 181)) (nat_lit 0)), (.ref (nat_lit 510)), .none, .none, .none, (.ref (nat_lit 511)), (.int (.ofNat (nat_lit 877)) (nat_lit 0)), (.int (.ofNat (nat_lit 367)) (nat_lit 0)), (.str (Str.ofString "/claim/cut.py") (nat_lit 878))]⟩), ⟨[]⟩⟩
noncomputable abbrev k513 : OB := fun p _ => ⟨(.type "function"), none, (.func ⟨(Str.ofString "_law_pen"), (Str.ofString "_law_pen"), fA (sAt p (nat_lit 55)), (.stmts (fB (sAt p (nat_lit 55)))), fS (sAt p (nat_lit 55)) p, nat_lit 3, [], .none, .none, .none, (.str (Str.ofString "law_pb0267_01") (nat_lit 872)), none, (.ref (nat_lit 512)), .none, nat_lit 0⟩), ⟨[]⟩⟩
noncomputable abbrev k519 : OB := fun _ _ => ⟨(.type "code"), none, (.fields ⟨[(.str (Str.ofString "_law_draw") (nat_lit 880)), (.str (Str.ofString "_law_draw") (nat_lit 881)), (.str (Str.ofString "/claim/cut.py") (nat_lit 882)), (.int (.ofNat (nat_lit 370)) (nat_lit 0)), (.int (.ofNat (nat_lit 2)) (nat_lit 0)), (.int (.ofNat (nat_lit 0)) (nat_lit 0)), (.int (.ofNat (nat_lit 0)) (nat_lit 0)), (.int (.ofNat (nat_lit 3)) (nat_lit 0)), (.ref (nat_lit 514)), (.bool true), (.int (.ofNat (nat_lit 181)) (nat_lit 0)), (.ref (nat_lit 515)), .none, (.ref (nat_lit 516)), (.ref (nat_lit 517)), (.ref (nat_lit 518)), (.int (.ofNat (nat_lit 888)) (nat_lit 0)), (.int (.ofNat (nat_lit 370)) (nat_lit 0)), (.str (Str.ofString "/claim/cut.py") (nat_lit 889))]⟩), ⟨[]⟩⟩
noncomputable abbrev k520 : OB := fun p _ => ⟨(.type "function"), none, (.func ⟨(Str.ofString "_law_draw"), (Str.ofString "_law_draw"), fA (sAt p (nat_lit 56)), (.stmts (fB (sAt p (nat_lit 56)))), fS (sAt p (nat_lit 56)) p, nat_lit 3, [], .none, .none, .none, (.str (Str.ofString "law_pb0267_01") (nat_lit 872)), none, (.ref (nat_lit 519)), .none, nat_lit 0⟩), ⟨[]⟩⟩
noncomputable abbrev k526 : OB := fun _ _ => ⟨(.type "code"), none, (.fields ⟨[(.str (Str.ofString "_law_pick") (nat_lit 891)), (.str (Str.ofString "_law_pick") (nat_lit 892)), (.str (Str.ofString "/claim/cut.py") (nat_lit 893)), (.int (.ofNat (nat_lit 379)) (nat_lit 0)), (.int (.ofNat (nat_lit 2)) (nat_lit 0)), (.int (.ofNat (nat_lit 0)) (nat_lit 0)), (.int (.ofNat (nat_lit 0)) (nat_lit 0)), (.int (.ofNat (nat_lit 3)) (nat_lit 0)), (.ref (nat_lit 521)), (.bool true), (.int (.ofNat (nat_lit 181)) (nat_lit 0)), (.ref (nat_lit 522)), .none, (.ref (nat_lit 523)), (.ref (nat_lit 524)), (.ref (nat_lit 525)), (.int (.ofNat (nat_lit 896)) (nat_lit 0)), (.int (.ofNat (nat_lit 379)) (nat_lit 0)), (.str (Str.ofString "/claim/cut.py") (nat_lit 897))]⟩), ⟨[]⟩⟩
noncomputable abbrev k527 : OB := fun p _ => ⟨(.type "function"), none, (.func ⟨(Str.ofString "_law_pick"), (Str.ofString "_law_pick"), fA (sAt p (nat_lit 57)), (.stmts (fB (sAt p (nat_lit 57)))), fS (sAt p (nat_lit 57)) p, nat_lit 3, [], .none, .none, .none, (.str (Str.ofString "law_pb0267_01") (nat_lit 872)), none, (.ref (nat_lit 526)), .none, nat_lit 0⟩), ⟨[]⟩⟩
noncomputable abbrev k531 : OB := fun _ _ => ⟨(.type "code"), none, (.fields ⟨[(.str (Str.ofString "_law_words") (nat_lit 899)), (.str (Str.ofString "_law_words") (nat_lit 900)), (.str (Str.ofString "/claim/cut.py") (nat_lit 901)), (.int (.ofNat (nat_lit 381)) (nat_lit 0)), (.int (.ofNat (nat_lit 1)) (nat_lit 0)), (.int (.ofNat (nat_lit 0)) (nat_lit 0)), (.int (.ofNat (nat_lit 0)) (nat_lit 0)), (.int (.ofNat (nat_lit 3)) (nat_lit 0)), (.ref (nat_lit 528)), (.bool true), (.int (.ofNat (nat_lit 181)) (nat_lit 0)), (.ref (nat_lit 529)), .none, .none, .none, (.ref (nat_lit 530)), (.int (.ofNat (nat_lit 902)) (nat_lit 0)), (.int (.ofNat (nat_lit 381)) (nat_lit 0)), (.str (Str.ofString "/claim/cut.py") (nat_lit 903))]⟩), ⟨[]⟩⟩
noncomputable abbrev k532 : OB := fun p _ => ⟨(.type "function"), none, (.func ⟨(Str.ofString "_law_words"), (Str.ofString "_law_words"), fA (sAt p (nat_lit 58)), (.stmts (fB (sAt p (nat_lit 58)))), fS (sAt p (nat_lit 58)) p, nat_lit 3, [], .none, .none, .none, (.str (Str.ofString "law_pb0267_01") (nat_lit 872)), none, (.ref (nat_lit 531)), .none, nat_lit 0⟩), ⟨[]⟩⟩
noncomputable abbrev k536 : OB := fun _ _ => ⟨(.type "code"), none, (.fields ⟨[(.str (Str.ofString "_law_reader") (nat_lit 905)), (.str (Str.ofString "_law_reader") (nat_lit 906)), (.str (Str.ofString "/claim/cut.py") (nat_lit 907)), (.int (.ofNat (nat_lit 383)) (nat_lit 0)), (.int (.ofNat (nat_lit 1)) (nat_lit 0)), (.int (.ofNat (nat_lit 0)) (nat_lit 0)), (.int (.ofNat (nat_lit 0)) (nat_lit 0)), (.int (.ofNat (nat_lit 3)) (nat_lit 0)), (.ref (nat_lit 533)), (.bool true), (.int (.ofNat (nat_lit 181)) (nat_lit 0)), (.ref (nat_lit 534)), .none, .none, .none, (.ref (nat_lit 535)), (.int (.ofNat (nat_lit 908)) (nat_lit 0)), (.int (.ofNat (nat_lit 383)) (nat_lit 0)), (.str (Str.ofString "/claim/cut.py") (nat_lit 909))]⟩), ⟨[]⟩⟩
noncomputable abbrev k537 : OB := fun p _ => ⟨(.type "function"), none, (.func ⟨(Str.ofString "_law_reader"), (Str.ofString "_law_reader"), fA (sAt p (nat_lit 59)), (.stmts (fB (sAt p (nat_lit 59)))), fS (sAt p (nat_lit 59)) p, nat_lit 3, [], .none, .none, .none, (.str (Str.ofString "law_pb0267_01") (nat_lit 872)), none, (.ref (nat_lit 536)), .none, nat_lit 0⟩), ⟨[]⟩⟩
noncomputable abbrev k541 : OB := fun _ _ => ⟨(.type "code"), none, (.fields ⟨[(.str (Str.ofString "_law_literal") (nat_lit 911)), (.str (Str.ofString "_law_literal") (nat_lit 912)), (.str (Str.ofString "/claim/cut.py") (nat_lit 913)), (.int (.ofNat (nat_lit 385)) (nat_lit 0)), (.int (.ofNat (nat_lit 2)) (nat_lit 0)), (.int (.ofNat (nat_lit 0)) (nat_lit 0)), (.int (.ofNat (nat_lit 0)) (nat_lit 0)), (.int (.ofNat (nat_lit 3)) (nat_lit 0)), (.ref (nat_lit 538)), (.bool true), (.int (.ofNat (nat_lit 181)) (nat_lit 0)), (.ref (nat_lit 539)), .none, .none, .none, (.ref (nat_lit 540)), (.int (.ofNat (nat_lit 914)) (nat_lit 0)), (.int (.ofNat (nat_lit 385)) (nat_lit 0)), (.str (Str.ofString "/claim/cut.py") (nat_lit 915))]⟩), ⟨[]⟩⟩
noncomputable abbrev k542 : OB := fun p _ => ⟨(.type "function"), none, (.func ⟨(Str.ofString "_law_literal"), (Str.ofString "_law_literal"), fA (sAt p (nat_lit 60)), (.stmts (fB (sAt p (nat_lit 60)))), fS (sAt p (nat_lit 60)) p, nat_lit 3, [], .none, .none, .none, (.str (Str.ofString "law_pb0267_01") (nat_lit 872)), none, (.ref (nat_lit 541)), .none, nat_lit 0⟩), ⟨[]⟩⟩
noncomputable abbrev k548 : OB := fun _ _ => ⟨(.type "code"), none, (.fields ⟨[(.str (Str.ofString "_law_sorts") (nat_lit 917)), (.str (Str.ofString "_law_sorts") (nat_lit 918)), (.str (Str.ofString "/claim/cut.py") (nat_lit 919)), (.int (.ofNat (nat_lit 388)) (nat_lit 0)), (.int (.ofNat (nat_lit 1)) (nat_lit 0)), (.int (.ofNat (nat_lit 0)) (nat_lit 0)), (.int (.ofNat (nat_lit 0)) (nat_lit 0)), (.int (.ofNat (nat_lit 3)) (nat_lit 0)), (.ref (nat_lit 543)), (.bool true), (.int (.ofNat (nat_lit 181)) (nat_lit 0)), (.ref (nat_lit 544)), .none, (.ref (nat_lit 545)), (.ref (nat_lit 546)), (.ref (nat_lit 547)), (.int (.ofNat (nat_lit 927)) (nat_lit 0)), (.int (.ofNat (nat_lit 388)) (nat_lit 0)), (.str (Str.ofString "/claim/cut.py") (nat_lit 928))]⟩), ⟨[]⟩⟩
noncomputable abbrev k549 : OB := fun p _ => ⟨(.type "function"), none, (.func ⟨(Str.ofString "_law_sorts"), (Str.ofString "_law_sorts"), fA (sAt p (nat_lit 61)), (.stmts (fB (sAt p (nat_lit 61)))), fS (sAt p (nat_lit 61)) p, nat_lit 3, [], .none, .none, .none, (.str (Str.ofString "law_pb0267_01") (nat_lit 872)), none, (.ref (nat_lit 548)), .none, nat_lit 0⟩), ⟨[]⟩⟩
noncomputable abbrev k555 : OB := fun _ _ => ⟨(.type "code"), none, (.fields ⟨[(.str (Str.ofString "_law_bounds") (nat_lit 930)), (.str (Str.ofString "_law_bounds") (nat_lit 931)), (.str (Str.ofString "/claim/cut.py") (nat_lit 932)), (.int (.ofNat (nat_lit 395)) (nat_lit 0)), (.int (.ofNat (nat_lit 1)) (nat_lit 0)), (.int (.ofNat (nat_lit 0)) (nat_lit 0)), (.int (.ofNat (nat_lit 0)) (nat_lit 0)), (.int (.ofNat (nat_lit 3)) (nat_lit 0)), (.ref (nat_lit 550)), (.bool true), (.int (.ofNat (nat_lit 181)) (nat_lit 0)), (.ref (nat_lit 551)), .none, (.ref (nat_lit 552)), (.ref (nat_lit 553)), (.ref (nat_lit 554)), (.int (.ofNat (nat_lit 938)) (nat_lit 0)), (.int (.ofNat (nat_lit 395)) (nat_lit 0)), (.str (Str.ofString "/claim/cut.py") (nat_lit 939))]⟩), ⟨[]⟩⟩
noncomputable abbrev k556 : OB := fun p _ => ⟨(.type "function"), none, (.func ⟨(Str.ofString "_law_bounds"), (Str.ofString "_law_bounds"), fA (sAt p (nat_lit 62)), (.stmts (fB (sAt p (nat_lit 62)))), fS (sAt p (nat_lit 62)) p, nat_lit 3, [], .none, .none, .none, (.str (Str.ofString "law_pb0267_01") (nat_lit 872)), none, (.ref (nat_lit 555)), .none, nat_lit 0⟩), ⟨[]⟩⟩
noncomputable abbrev k562 : OB := fun _ _ => ⟨(.type "code"), none, (.fields ⟨[(.str (Str.ofString "_law_may") (nat_lit 941)), (.str (Str.ofString "_law_may") (nat_lit 942)), (.str (Str.ofString "/claim/cut.py") (nat_lit 943)), (.int (.ofNat (nat_lit 401)) (nat_lit 0)), (.int (.ofNat (nat_lit 2)) (nat_lit 0)), (.int (.ofNat (nat_lit 0)) (nat_lit 0)), (.int (.ofNat (nat_lit 0)) (nat_lit 0)), (.int (.ofNat (nat_lit 3)) (nat_lit 0)), (.ref (nat_lit 557)), (.bool true), (.int (.ofNat (nat_lit 181)) (nat_lit 0)), (.ref (nat_lit 558)), .none, (.ref (nat_lit 559)), (.ref (nat_lit 560)), (.ref (nat_lit 561)), (.int (.ofNat (nat_lit 946)) (nat_lit 0)), (.int (.ofNat (nat_lit 401)) (nat_lit 0)), (.str (Str.ofString "/claim/cut.py") (nat_lit 947))]⟩), ⟨[]⟩⟩
noncomputable abbrev k563 : OB := fun p _ => ⟨(.type "function"), none, (.func ⟨(Str.ofString "_law_may"), (Str.ofString "_law_may"), fA (sAt p (nat_lit 63)), (.stmts (fB (sAt p (nat_lit 63)))), fS (sAt p (nat_lit 63)) p, nat_lit 3, [], .none, .none, .none, (.str (Str.ofString "law_pb0267_01") (nat_lit 872)), none, (.ref (nat_lit 562)), .none, nat_lit 0⟩), ⟨[]⟩⟩
noncomputable abbrev k569 : OB := fun _ _ => ⟨(.type "code"), none, (.fields ⟨[(.str (Str.ofString "_law_right") (nat_lit 949)), (.str (Str.ofString "_law_right") (nat_lit 950)), (.str (Str.ofString "/claim/cut.py") (nat_lit 951)), (.int (.ofNat (nat_lit 405)) (nat_lit 0)), (.int (.ofNat (nat_lit 4)) (nat_lit 0)), (.int (.ofNat (nat_lit 0)) (nat_lit 0)), (.int (.ofNat (nat_lit 0)) (nat_lit 0)), (.int (.ofNat (nat_lit 3)) (nat_lit 0)), (.ref (nat_lit 564)), (.bool true), (.int (.ofNat (nat_lit 181)) (nat_lit 0)), (.ref (nat_lit 565)), .none, (.ref (nat_lit 566)), (.ref (nat_lit 567)), (.ref (nat_lit 568)), (.int (.ofNat (nat_lit 964)) (nat_lit 0)), (.int (.ofNat (nat_lit 405)) (nat_lit 0)), (.str (Str.ofString "/claim/cut.py") (nat_lit 965))]⟩), ⟨[]⟩⟩
noncomputable abbrev k570 : OB := fun p _ => ⟨(.type "function"), none, (.func ⟨(Str.ofString "_law_right"), (Str.ofString "_law_right"), fA (sAt p (nat_lit 64)), (.stmts (fB (sAt p (nat_lit 64)))), fS (sAt p (nat_lit 64)) p, nat_lit 3, [], .none, .none, .none, (.str (Str.ofString "law_pb0267_01") (nat_lit 872)), none, (.ref (nat_lit 569)), .none, nat_lit 0⟩), ⟨[]⟩⟩
noncomputable abbrev k576 : OB := fun _ _ => ⟨(.type "code"), none, (.fields ⟨[(.str (Str.ofString "law") (nat_lit 967)), (.str (Str.ofString "law") (nat_lit 968)), (.str (Str.ofString "/claim/cut.py") (nat_lit 969)), (.int (.ofNat (nat_lit 416)) (nat_lit 0)), (.int (.ofNat (nat_lit 1)) (nat_lit 0)), (.int (.ofNat (nat_lit 0)) (nat_lit 0)), (.int (.ofNat (nat_lit 0)) (nat_lit 0)), (.int (.ofNat (nat_lit 3)) (nat_lit 0)), (.ref (nat_lit 571)), (.bool true), (.int (.ofNat (nat_lit 181)) (nat_lit 0)), (.ref (nat_lit 572)), .none, (.ref (nat_lit 573)), (.ref (nat_lit 574)), (.ref (nat_lit 575)), (.int (.ofNat (nat_lit 976)) (nat_lit 0)), (.int (.ofNat (nat_lit 416)) (nat_lit 0)), (.str (Str.ofString "/claim/cut.py") (nat_lit 977))]⟩), ⟨[]⟩⟩
noncomputable abbrev k577 : OB := fun p _ => ⟨(.type "function"), none, (.func ⟨(Str.ofString "law"), (Str.ofString "law"), fA (sAt p (nat_lit 65)), (.stmts (fB (sAt p (nat_lit 65)))), fS (sAt p (nat_lit 65)) p, nat_lit 3, [], .none, .none, .none, (.str (Str.ofString "law_pb0267_01") (nat_lit 872)), none, (.ref (nat_lit 576)), .none, nat_lit 0⟩), ⟨[]⟩⟩
noncomputable abbrev KG (p : Program) (P : Params) : Frag := ((nat_lit 2, k2 p P) :: (nat_lit 3, k3 p P) :: (nat_lit 29, k29 p P) :: (nat_lit 30, k30 p P) :: (nat_lit 36, k36 p P) :: (nat_lit 37, k37 p P) :: (nat_lit 46, k46 p P) :: (nat_lit 47, k47 p P) :: (nat_lit 59, k59 p P) :: (nat_lit 60, k60 p P) :: (nat_lit 71, k71 p P) :: (nat_lit 72, k72 p P) :: (nat_lit 132, k132 p P) :: (nat_lit 138, k138 p P) :: (nat_lit 139, k139 p P) :: (nat_lit 159, k159 p P) :: (nat_lit 160, k160 p P) :: (nat_lit 173, k173 p P) :: (nat_lit 174, k174 p P) :: (nat_lit 180, k180 p P) :: (nat_lit 181, k181 p P) :: (nat_lit 187, k187 p P) :: (nat_lit 188, k188 p P) :: (nat_lit 243, k243 p P) :: (nat_lit 244, k244 p P) :: (nat_lit 250, k250 p P) :: (nat_lit 251, k251 p P) :: (nat_lit 257, k257 p P) :: (nat_lit 258, k258 p P) :: (nat_lit 264, k264 p P) :: (nat_lit 265, k265 p P) :: (nat_lit 271, k271 p P) :: (nat_lit 272, k272 p P) :: (nat_lit 278, k278 p P) :: (nat_lit 279, k279 p P) :: (nat_lit 285, k285 p P) :: (nat_lit 286, k286 p P) :: (nat_lit 292, k292 p P) :: (nat_lit 293, k293 p P) :: (nat_lit 299, k299 p P) :: (nat_lit 300, k300 p P) :: (nat_lit 304, k304 p P) :: (nat_lit 305, k305 p P) :: (nat_lit 313, k313 p P) :: (nat_lit 319, k319 p P) :: (nat_lit 320, k320 p P) :: (nat_lit 321, k321 p P) :: (nat_lit 327, k327 p P) :: (nat_lit 328, k328 p P) :: (nat_lit 341, k341 p P) :: (nat_lit 342, k342 p P) :: (nat_lit 348, k348 p P) :: (nat_lit 349, k349 p P) :: (nat_lit 350, k350 p P) :: (nat_lit 356, k356 p P) :: (nat_lit 357, k357 p P) :: (nat_lit 363, k363 p P) :: (nat_lit 364, k364 p P) :: (nat_lit 370, k370 p P) :: (nat_lit 371, k371 p P) :: (nat_lit 377, k377 p P) :: (nat_lit 378, k378 p P) :: (nat_lit 384, k384 p P) :: (nat_lit 385, k385 p P) :: (nat_lit 393, k393 p P) :: (nat_lit 399, k399 p P) :: (nat_lit 400, k400 p P) :: (nat_lit 406, k406 p P) :: (nat_lit 407, k407 p P) :: (nat_lit 415, k415 p P) :: (nat_lit 421, k421 p P) :: (nat_lit 422, k422 p P) :: (nat_lit 442, k442 p P) :: (nat_lit 443, k443 p P) :: (nat_lit 470, k470 p P) :: (nat_lit 471, k471 p P) :: (nat_lit 473, k473 p P) :: (nat_lit 474, k474 p P) :: (nat_lit 486, k486 p P) :: (nat_lit 487, k487 p P) :: (nat_lit 493, k493 p P) :: (nat_lit 494, k494 p P) :: (nat_lit 503, k503 p P) :: (nat_lit 504, k504 p P) :: (nat_lit 512, k512 p P) :: (nat_lit 513, k513 p P) :: (nat_lit 519, k519 p P) :: (nat_lit 520, k520 p P) :: (nat_lit 526, k526 p P) :: (nat_lit 527, k527 p P) :: (nat_lit 531, k531 p P) :: (nat_lit 532, k532 p P) :: (nat_lit 536, k536 p P) :: (nat_lit 537, k537 p P) :: (nat_lit 541, k541 p P) :: (nat_lit 542, k542 p P) :: (nat_lit 548, k548 p P) :: (nat_lit 549, k549 p P) :: (nat_lit 555, k555 p P) :: (nat_lit 556, k556 p P) :: (nat_lit 562, k562 p P) :: (nat_lit 563, k563 p P) :: (nat_lit 569, k569 p P) :: (nat_lit 570, k570 p P) :: (nat_lit 576, k576 p P) :: (nat_lit 577, k577 p P) :: [])
noncomputable abbrev KW (P : Params) : Frag := ((nat_lit 2, k2 PySem.Challenge.pw_pb0267_01 P) :: (nat_lit 3, k3 PySem.Challenge.pw_pb0267_01 P) :: (nat_lit 29, k29 PySem.Challenge.pw_pb0267_01 P) :: (nat_lit 30, k30 PySem.Challenge.pw_pb0267_01 P) :: (nat_lit 36, k36 PySem.Challenge.pw_pb0267_01 P) :: (nat_lit 37, k37 PySem.Challenge.pw_pb0267_01 P) :: (nat_lit 46, k46 PySem.Challenge.pw_pb0267_01 P) :: (nat_lit 47, k47 PySem.Challenge.pw_pb0267_01 P) :: (nat_lit 59, k59 PySem.Challenge.pw_pb0267_01 P) :: (nat_lit 60, k60 PySem.Challenge.pw_pb0267_01 P) :: (nat_lit 71, k71 PySem.Challenge.pw_pb0267_01 P) :: (nat_lit 72, k72 PySem.Challenge.pw_pb0267_01 P) :: (nat_lit 132, k132 PySem.Challenge.pw_pb0267_01 P) :: (nat_lit 138, k138 PySem.Challenge.pw_pb0267_01 P) :: (nat_lit 139, k139 PySem.Challenge.pw_pb0267_01 P) :: (nat_lit 159, k159 PySem.Challenge.pw_pb0267_01 P) :: (nat_lit 160, k160 PySem.Challenge.pw_pb0267_01 P) :: (nat_lit 173, k173 PySem.Challenge.pw_pb0267_01 P) :: (nat_lit 174, k174 PySem.Challenge.pw_pb0267_01 P) :: (nat_lit 180, k180 PySem.Challenge.pw_pb0267_01 P) :: (nat_lit 181, k181 PySem.Challenge.pw_pb0267_01 P) :: (nat_lit 187, k187 PySem.Challenge.pw_pb0267_01 P) :: (nat_lit 188, k188 PySem.Challenge.pw_pb0267_01 P) :: (nat_lit 243, k243 PySem.Challenge.pw_pb0267_01 P) :: (nat_lit 244, k244 PySem.Challenge.pw_pb0267_01 P) :: (nat_lit 250, k250 PySem.Challenge.pw_pb0267_01 P) :: (nat_lit 251, k251 PySem.Challenge.pw_pb0267_01 P) :: (nat_lit 257, k257 PySem.Challenge.pw_pb0267_01 P) :: (nat_lit 258, k258 PySem.Challenge.pw_pb0267_01 P) :: (nat_lit 264, k264 PySem.Challenge.pw_pb0267_01 P) :: (nat_lit 265, k265 PySem.Challenge.pw_pb0267_01 P) :: (nat_lit 271, k271 PySem.Challenge.pw_pb0267_01 P) :: (nat_lit 272, k272 PySem.Challenge.pw_pb0267_01 P) :: (nat_lit 278, k278 PySem.Challenge.pw_pb0267_01 P) :: (nat_lit 279, k279 PySem.Challenge.pw_pb0267_01 P) :: (nat_lit 285, k285 PySem.Challenge.pw_pb0267_01 P) :: (nat_lit 286, k286 PySem.Challenge.pw_pb0267_01 P) :: (nat_lit 292, k292 PySem.Challenge.pw_pb0267_01 P) :: (nat_lit 293, k293 PySem.Challenge.pw_pb0267_01 P) :: (nat_lit 299, k299 PySem.Challenge.pw_pb0267_01 P) :: (nat_lit 300, k300 PySem.Challenge.pw_pb0267_01 P) :: (nat_lit 304, k304 PySem.Challenge.pw_pb0267_01 P) :: (nat_lit 305, k305 PySem.Challenge.pw_pb0267_01 P) :: (nat_lit 313, k313 PySem.Challenge.pw_pb0267_01 P) :: (nat_lit 319, k319 PySem.Challenge.pw_pb0267_01 P) :: (nat_lit 320, k320 PySem.Challenge.pw_pb0267_01 P) :: (nat_lit 321, k321 PySem.Challenge.pw_pb0267_01 P) :: (nat_lit 327, k327 PySem.Challenge.pw_pb0267_01 P) :: (nat_lit 328, k328 PySem.Challenge.pw_pb0267_01 P) :: (nat_lit 341, k341 PySem.Challenge.pw_pb0267_01 P) :: (nat_lit 342, k342 PySem.Challenge.pw_pb0267_01 P) :: (nat_lit 348, k348 PySem.Challenge.pw_pb0267_01 P) :: (nat_lit 349, k349 PySem.Challenge.pw_pb0267_01 P) :: (nat_lit 350, k350 PySem.Challenge.pw_pb0267_01 P) :: (nat_lit 356, k356 PySem.Challenge.pw_pb0267_01 P) :: (nat_lit 357, k357 PySem.Challenge.pw_pb0267_01 P) :: (nat_lit 363, k363 PySem.Challenge.pw_pb0267_01 P) :: (nat_lit 364, k364 PySem.Challenge.pw_pb0267_01 P) :: (nat_lit 370, k370 PySem.Challenge.pw_pb0267_01 P) :: (nat_lit 371, k371 PySem.Challenge.pw_pb0267_01 P) :: (nat_lit 377, k377 PySem.Challenge.pw_pb0267_01 P) :: (nat_lit 378, k378 PySem.Challenge.pw_pb0267_01 P) :: (nat_lit 384, k384 PySem.Challenge.pw_pb0267_01 P) :: (nat_lit 385, k385 PySem.Challenge.pw_pb0267_01 P) :: (nat_lit 393, k393 PySem.Challenge.pw_pb0267_01 P) :: (nat_lit 399, k399 PySem.Challenge.pw_pb0267_01 P) :: (nat_lit 400, k400 PySem.Challenge.pw_pb0267_01 P) :: (nat_lit 406, k406 PySem.Challenge.pw_pb0267_01 P) :: (nat_lit 407, k407 PySem.Challenge.pw_pb0267_01 P) :: (nat_lit 415, k415 PySem.Challenge.pw_pb0267_01 P) :: (nat_lit 421, k421 PySem.Challenge.pw_pb0267_01 P) :: (nat_lit 422, k422 PySem.Challenge.pw_pb0267_01 P) :: (nat_lit 442, k442 PySem.Challenge.pw_pb0267_01 P) :: (nat_lit 443, k443 PySem.Challenge.pw_pb0267_01 P) :: (nat_lit 470, k470 PySem.Challenge.pw_pb0267_01 P) :: (nat_lit 471, k471 PySem.Challenge.pw_pb0267_01 P) :: (nat_lit 473, k473 PySem.Challenge.pw_pb0267_01 P) :: (nat_lit 474, k474 PySem.Challenge.pw_pb0267_01 P) :: (nat_lit 486, k486 PySem.Challenge.pw_pb0267_01 P) :: (nat_lit 487, k487 PySem.Challenge.pw_pb0267_01 P) :: (nat_lit 493, k493 PySem.Challenge.pw_pb0267_01 P) :: (nat_lit 494, k494 PySem.Challenge.pw_pb0267_01 P) :: (nat_lit 503, k503 PySem.Challenge.pw_pb0267_01 P) :: (nat_lit 504, k504 PySem.Challenge.pw_pb0267_01 P) :: (nat_lit 512, k512 PySem.Challenge.pw_pb0267_01 P) :: (nat_lit 513, k513 PySem.Challenge.pw_pb0267_01 P) :: (nat_lit 519, k519 PySem.Challenge.pw_pb0267_01 P) :: (nat_lit 520, k520 PySem.Challenge.pw_pb0267_01 P) :: (nat_lit 526, k526 PySem.Challenge.pw_pb0267_01 P) :: (nat_lit 527, k527 PySem.Challenge.pw_pb0267_01 P) :: (nat_lit 531, k531 PySem.Challenge.pw_pb0267_01 P) :: (nat_lit 532, k532 PySem.Challenge.pw_pb0267_01 P) :: (nat_lit 536, k536 PySem.Challenge.pw_pb0267_01 P) :: (nat_lit 537, k537 PySem.Challenge.pw_pb0267_01 P) :: (nat_lit 541, k541 PySem.Challenge.pw_pb0267_01 P) :: (nat_lit 542, k542 PySem.Challenge.pw_pb0267_01 P) :: (nat_lit 548, k548 PySem.Challenge.pw_pb0267_01 P) :: (nat_lit 549, k549 PySem.Challenge.pw_pb0267_01 P) :: (nat_lit 555, k555 PySem.Challenge.pw_pb0267_01 P) :: (nat_lit 556, k556 PySem.Challenge.pw_pb0267_01 P) :: (nat_lit 562, k562 PySem.Challenge.pw_pb0267_01 P) :: (nat_lit 563, k563 PySem.Challenge.pw_pb0267_01 P) :: (nat_lit 569, k569 PySem.Challenge.pw_pb0267_01 P) :: (nat_lit 570, k570 PySem.Challenge.pw_pb0267_01 P) :: (nat_lit 576, k576 PySem.Challenge.pw_pb0267_01 P) :: (nat_lit 577, k577 PySem.Challenge.pw_pb0267_01 P) :: [])
noncomputable abbrev kAs : List Addr := (nat_lit 2 :: nat_lit 3 :: nat_lit 29 :: nat_lit 30 :: nat_lit 36 :: nat_lit 37 :: nat_lit 46 :: nat_lit 47 :: nat_lit 59 :: nat_lit 60 :: nat_lit 71 :: nat_lit 72 :: nat_lit 132 :: nat_lit 138 :: nat_lit 139 :: nat_lit 159 :: nat_lit 160 :: nat_lit 173 :: nat_lit 174 :: nat_lit 180 :: nat_lit 181 :: nat_lit 187 :: nat_lit 188 :: nat_lit 243 :: nat_lit 244 :: nat_lit 250 :: nat_lit 251 :: nat_lit 257 :: nat_lit 258 :: nat_lit 264 :: nat_lit 265 :: nat_lit 271 :: nat_lit 272 :: nat_lit 278 :: nat_lit 279 :: nat_lit 285 :: nat_lit 286 :: nat_lit 292 :: nat_lit 293 :: nat_lit 299 :: nat_lit 300 :: nat_lit 304 :: nat_lit 305 :: nat_lit 313 :: nat_lit 319 :: nat_lit 320 :: nat_lit 321 :: nat_lit 327 :: nat_lit 328 :: nat_lit 341 :: nat_lit 342 :: nat_lit 348 :: nat_lit 349 :: nat_lit 350 :: nat_lit 356 :: nat_lit 357 :: nat_lit 363 :: nat_lit 364 :: nat_lit 370 :: nat_lit 371 :: nat_lit 377 :: nat_lit 378 :: nat_lit 384 :: nat_lit 385 :: nat_lit 393 :: nat_lit 399 :: nat_lit 400 :: nat_lit 406 :: nat_lit 407 :: nat_lit 415 :: nat_lit 421 :: nat_lit 422 :: nat_lit 442 :: nat_lit 443 :: nat_lit 470 :: nat_lit 471 :: nat_lit 473 :: nat_lit 474 :: nat_lit 486 :: nat_lit 487 :: nat_lit 493 :: nat_lit 494 :: nat_lit 503 :: nat_lit 504 :: nat_lit 512 :: nat_lit 513 :: nat_lit 519 :: nat_lit 520 :: nat_lit 526 :: nat_lit 527 :: nat_lit 531 :: nat_lit 532 :: nat_lit 536 :: nat_lit 537 :: nat_lit 541 :: nat_lit 542 :: nat_lit 548 :: nat_lit 549 :: nat_lit 555 :: nat_lit 556 :: nat_lit 562 :: nat_lit 563 :: nat_lit 569 :: nat_lit 570 :: nat_lit 576 :: nat_lit 577 :: [])
noncomputable abbrev kTs : List Addr := [nat_lit 32, nat_lit 134, nat_lit 155, nat_lit 169, nat_lit 176, nat_lit 183, nat_lit 239, nat_lit 246, nat_lit 253, nat_lit 260, nat_lit 267, nat_lit 274, nat_lit 281, nat_lit 288, nat_lit 295, nat_lit 302, nat_lit 315, nat_lit 323, nat_lit 337, nat_lit 344, nat_lit 352, nat_lit 359, nat_lit 366, nat_lit 373, nat_lit 380, nat_lit 395, nat_lit 402, nat_lit 417, nat_lit 438, nat_lit 466, nat_lit 489, nat_lit 510, nat_lit 515, nat_lit 522, nat_lit 529, nat_lit 534, nat_lit 539, nat_lit 544, nat_lit 551, nat_lit 558, nat_lit 565, nat_lit 572]
noncomputable abbrev stm1 : List Stmt := (restQ.drop (nat_lit 0)).take (nat_lit 3)
theorem piece1 : ∀ (w : World), (fun os => segRunT treeTable prgQ (w) m0Q annQ (nat_lit 1) (nat_lit 305) (st0 (w) os) (piecesOf stm1 envQ codeQ ⟨nat_lit 0, nat_lit 0, nat_lit 0, nat_lit 0⟩ stackQ)) = (fun os => some (.next, st1 (w) os, codeQ, ⟨nat_lit 5, nat_lit 0, nat_lit 13, nat_lit 35⟩)) := by
  rw [PySem.W.Fast.te10110043849684766642, PySem.W.Fast.te14364793385576792824]
  intro w
  kernel_rfl
noncomputable abbrev stm2 : List Stmt := (restQ.drop (nat_lit 3)).take (nat_lit 1)
theorem piece2 : ∀ (w : World), (fun os => segRunT treeTable prgQ (w) m0Q annQ (nat_lit 1) (nat_lit 214) (st1 (w) os) (piecesOf stm2 envQ codeQ ⟨nat_lit 5, nat_lit 0, nat_lit 13, nat_lit 35⟩ stackQ)) = (fun os => some (.next, st2 (w) os, codeQ, ⟨nat_lit 14, nat_lit 0, nat_lit 15, nat_lit 8⟩)) := by
  rw [PySem.W.Fast.te10110043849684766642, PySem.W.Fast.te14364793385576792824]
  intro w
  kernel_rfl
noncomputable abbrev stm3 : List Stmt := (restQ.drop (nat_lit 4)).take (nat_lit 8)
theorem piece3 : ∀ (w : World), (fun os => segRunT treeTable prgQ (w) m0Q annQ (nat_lit 1) (nat_lit 385) (st2 (w) os) (piecesOf stm3 envQ codeQ ⟨nat_lit 14, nat_lit 0, nat_lit 15, nat_lit 8⟩ stackQ)) = (fun os => some (.next, st3 (w) os, codeQ, ⟨nat_lit 41, nat_lit 0, nat_lit 42, nat_lit 20⟩)) := by
  rw [PySem.W.Fast.te10110043849684766642, PySem.W.Fast.te14364793385576792824]
  intro w
  kernel_rfl
noncomputable abbrev stm4 : List Stmt := (restQ.drop (nat_lit 12)).take (nat_lit 5)
theorem piece4 : ∀ (w : World), (fun os => segRunT treeTable prgQ (w) m0Q annQ (nat_lit 1) (nat_lit 114) (st3 (w) os) (piecesOf stm4 envQ codeQ ⟨nat_lit 41, nat_lit 0, nat_lit 42, nat_lit 20⟩ stackQ)) = (fun os => some (.next, st4 (w) os, codeQ, ⟨nat_lit 66, nat_lit 0, nat_lit 66, nat_lit 15⟩)) := by
  rw [PySem.W.Fast.te10110043849684766642, PySem.W.Fast.te14364793385576792824]
  intro w
  kernel_rfl
noncomputable abbrev stm5 : List Stmt := (restQ.drop (nat_lit 17)).take (nat_lit 1)
theorem piece5f : ∀ (w : World), (fun os => segRunT treeTable prgQ (w.withFollow "special-get-raises" false) m0Q annQ (nat_lit 1) (nat_lit 176) (st4 (w.withFollow "special-get-raises" false) os) (piecesOf stm5 envQ codeQ ⟨nat_lit 66, nat_lit 0, nat_lit 66, nat_lit 15⟩ stackQ)) = (fun os => some (.next, st5 (w.withFollow "special-get-raises" false) os, codeQ, ⟨nat_lit 67, nat_lit 0, nat_lit 67, nat_lit 12⟩)) := by
  rw [PySem.W.Fast.te10110043849684766642, PySem.W.Fast.te14364793385576792824]
  intro w
  kernel_rfl
theorem piece5t : ∀ (w : World), (fun os => segRunT treeTable prgQ (w.withFollow "special-get-raises" true) m0Q annQ (nat_lit 1) (nat_lit 176) (st4 (w.withFollow "special-get-raises" true) os) (piecesOf stm5 envQ codeQ ⟨nat_lit 66, nat_lit 0, nat_lit 66, nat_lit 15⟩ stackQ)) = (fun os => some (.next, st5 (w.withFollow "special-get-raises" true) os, codeQ, ⟨nat_lit 67, nat_lit 0, nat_lit 67, nat_lit 12⟩)) := by
  rw [PySem.W.Fast.te10110043849684766642, PySem.W.Fast.te14364793385576792824]
  intro w
  kernel_rfl
theorem piece5 : ∀ (w : World), (fun os => segRunT treeTable prgQ (w) m0Q annQ (nat_lit 1) (nat_lit 176) (st4 (w) os) (piecesOf stm5 envQ codeQ ⟨nat_lit 66, nat_lit 0, nat_lit 66, nat_lit 15⟩ stackQ)) = (fun os => some (.next, st5 (w) os, codeQ, ⟨nat_lit 67, nat_lit 0, nat_lit 67, nat_lit 12⟩)) := fun w => byRow2 "special-get-raises" (P := fun w => (fun os => segRunT treeTable prgQ (w) m0Q annQ (nat_lit 1) (nat_lit 176) (st4 (w) os) (piecesOf stm5 envQ codeQ ⟨nat_lit 66, nat_lit 0, nat_lit 66, nat_lit 15⟩ stackQ)) = (fun os => some (.next, st5 (w) os, codeQ, ⟨nat_lit 67, nat_lit 0, nat_lit 67, nat_lit 12⟩))) piece5f piece5t w
noncomputable abbrev stm6 : List Stmt := (restQ.drop (nat_lit 18)).take (nat_lit 14)
theorem piece6 : ∀ (w : World), (fun os => segRunT treeTable prgQ (w) m0Q annQ (nat_lit 1) (nat_lit 394) (st5 (w) os) (piecesOf stm6 envQ codeQ ⟨nat_lit 67, nat_lit 0, nat_lit 67, nat_lit 12⟩ stackQ)) = (fun os => some (.next, st6 (w) os, codeQ, ⟨nat_lit 149, nat_lit 0, nat_lit 158, nat_lit 51⟩)) := by
  rw [PySem.W.Fast.te10110043849684766642, PySem.W.Fast.te14364793385576792824]
  intro w
  kernel_rfl
noncomputable abbrev stm7 : List Stmt := (restQ.drop (nat_lit 32)).take (nat_lit 17)
theorem piece7 : ∀ (w : World), (fun os => segRunT treeTable prgQ (w) m0Q annQ (nat_lit 1) (nat_lit 396) (st6 (w) os) (piecesOf stm7 envQ codeQ ⟨nat_lit 149, nat_lit 0, nat_lit 158, nat_lit 51⟩ stackQ)) = (fun os => some (.next, st7 (w) os, codeQ, ⟨nat_lit 227, nat_lit 0, nat_lit 227, nat_lit 8⟩)) := by
  rw [PySem.W.Fast.te10110043849684766642, PySem.W.Fast.te14364793385576792824]
  intro w
  kernel_rfl
noncomputable abbrev stm8 : List Stmt := (restQ.drop (nat_lit 49)).take (nat_lit 2)
theorem piece8 : ∀ (w : World), (fun os => segRunT treeTable prgQ (w) m0Q annQ (nat_lit 1) (nat_lit 56) (st7 (w) os) (piecesOf stm8 envQ codeQ ⟨nat_lit 227, nat_lit 0, nat_lit 227, nat_lit 8⟩ stackQ)) = (fun os => some (.next, st8 (w) os, codeQ, ⟨nat_lit 230, nat_lit 0, nat_lit 234, nat_lit 25⟩)) := by
  rw [PySem.W.Fast.te10110043849684766642, PySem.W.Fast.te14364793385576792824]
  intro w
  kernel_rfl
noncomputable abbrev stm9 : List Stmt := (restQ.drop (nat_lit 51)).take (nat_lit 1)
theorem piece9 : ∀ (w : World), (fun os => segRunT treeTable prgQ (w) m0Q annQ (nat_lit 1) (nat_lit 909) (st8 (w) os) (piecesOf stm9 envQ codeQ ⟨nat_lit 230, nat_lit 0, nat_lit 234, nat_lit 25⟩ stackQ)) = (fun os => some (.next, st9 (w) os, codeQ, ⟨nat_lit 235, nat_lit 0, nat_lit 354, nat_lit 20⟩)) := by
  rw [PySem.W.Fast.te10110043849684766642, PySem.W.Fast.te14364793385576792824]
  intro w
  kernel_rfl
noncomputable abbrev stm10 : List Stmt := (restQ.drop (nat_lit 52)).take (nat_lit 7)
theorem piece10 : ∀ (w : World), (fun os => segRunT treeTable prgQ (w) m0Q annQ (nat_lit 1) (nat_lit 398) (st9 (w) os) (piecesOf stm10 envQ codeQ ⟨nat_lit 235, nat_lit 0, nat_lit 354, nat_lit 20⟩ stackQ)) = (fun os => some (.next, st10 (w) os, codeQ, ⟨nat_lit 381, nat_lit 0, nat_lit 382, nat_lit 77⟩)) := by
  rw [PySem.W.Fast.te10110043849684766642, PySem.W.Fast.te14364793385576792824]
  intro w
  kernel_rfl
noncomputable abbrev stm11 : List Stmt := (restQ.drop (nat_lit 59)).take (nat_lit 7)
theorem piece11 : ∀ (w : World), (fun os => segRunT treeTable prgQ (w) m0Q annQ (nat_lit 1) (nat_lit 225) (st10 (w) os) (piecesOf stm11 envQ codeQ ⟨nat_lit 381, nat_lit 0, nat_lit 382, nat_lit 77⟩ stackQ)) = (fun os => some (.next, st11 (w) os, codeQ, ⟨nat_lit 416, nat_lit 0, nat_lit 425, nat_lit 15⟩)) := by
  rw [PySem.W.Fast.te10110043849684766642, PySem.W.Fast.te14364793385576792824]
  intro w
  kernel_rfl
noncomputable abbrev p0Q : Pos := ⟨nat_lit 0, nat_lit 0, nat_lit 0, nat_lit 0⟩
noncomputable abbrev pEndQ : Pos := ⟨nat_lit 416, nat_lit 0, nat_lit 425, nat_lit 15⟩
theorem pre0 : ∀ (w : World), (fun os => topGo treeTable prgQ w m0Q annQ (nat_lit 12) ⟨boot_heap w.params, ⟨[]⟩, boot_drawn, boot_toks, os⟩ (topStub prgQ)) = (fun os => some (sA w os, ⟨denote treeTable codeQ, codeQ, p0Q, stackQ⟩)) := by
  rw [PySem.W.Fast.te15667345088766844465, PySem.W.Fast.te14364793385576792824, PySem.W.Fast.te11892475500146522536]
  intro w
  kernel_rfl
theorem block0 : ∀ (w : World), (fun os => segRun treeTable prgQ w m0Q annQ (nat_lit 1) (nat_lit 1) (sA w os) (blockOf restQ envQ codeQ p0Q stackQ)) = (fun os => some (.next, (st0 w os).abs, codeQ, p0Q)) := by
  rw [PySem.W.Fast.te14374325043358763698, PySem.W.Fast.te14364793385576792824]
  intro w
  kernel_rfl
theorem fin0 : ∀ (w : World), (fun os => topRun treeTable prgQ w m0Q annQ (nat_lit 2) (st11 w os).abs ⟨doneF .next, codeQ, pEndQ, stackQ⟩) = (fun os => some (st11 w os).abs) := by
  rw [PySem.W.Fast.te14082659384304107361, PySem.W.Fast.te14364793385576792824]
  intro w
  kernel_rfl
theorem rest_split : restQ = stm1 ++ (stm2 ++ (stm3 ++ (stm4 ++ (stm5 ++ (stm6 ++ (stm7 ++ (stm8 ++ (stm9 ++ (stm10 ++ (stm11 ++ [])))))))))) := by kernel_rfl
theorem openE : opening prgQ = plainProg prgQ.main.scope.names := by kernel_rfl
theorem fenceE : ∀ s, fenceModules? prgQ s = some s := by
  intro s
  kernel_rfl
theorem sizeE : ∀ w : World, ((boot_heap w.params).isNs mainGlobals && (⟨[]⟩ : Array GenState).size == 0, (boot_heap w.params).objs.size, (boot_heap w.params).nsMap mainGlobals "__annotations__") = (true, m0Q, annQ) := by
  intro w
  kernel_rfl

noncomputable abbrev hpQ (P : Params) : Heap := absHeap (tr11 P) (nat_lit 578) lifeQ
theorem runQ : ∀ (w : World) (os : OsState), topRun treeTable prgQ w m0Q annQ (nat_lit 12 + (nat_lit 1 + (nat_lit 305 + (nat_lit 214 + (nat_lit 385 + (nat_lit 114 + (nat_lit 176 + (nat_lit 394 + (nat_lit 396 + (nat_lit 56 + (nat_lit 909 + (nat_lit 398 + (nat_lit 225 + (nat_lit 2)))))))))))))) ⟨boot_heap w.params, ⟨[]⟩, boot_drawn, boot_toks, os⟩ (topStub prgQ) = some ⟨hpQ w.params, ⟨[]⟩, boot_drawn, nat_lit 979, os⟩ := by
  intro w os
  have h12 : topRun treeTable prgQ w m0Q annQ (nat_lit 2) (st11 w os).abs (restOf [] envQ codeQ pEndQ stackQ) = some (st11 w os).abs := piece_nil (congrFun (fin0 w) os)
  have h11 : topRun treeTable prgQ w m0Q annQ (nat_lit 225 + (nat_lit 2)) (st10 w os).abs (restOf (stm11 ++ []) envQ codeQ ⟨nat_lit 381, nat_lit 0, nat_lit 382, nat_lit 77⟩ stackQ) = some (st11 w os).abs := piece_app (segRun_of (congrFun (piece11 w) os)) h12
  have h10 : topRun treeTable prgQ w m0Q annQ (nat_lit 398 + (nat_lit 225 + (nat_lit 2))) (st9 w os).abs (restOf (stm10 ++ (stm11 ++ [])) envQ codeQ ⟨nat_lit 235, nat_lit 0, nat_lit 354, nat_lit 20⟩ stackQ) = some (st11 w os).abs := piece_app (segRun_of (congrFun (piece10 w) os)) h11
  have h9 : topRun treeTable prgQ w m0Q annQ (nat_lit 909 + (nat_lit 398 + (nat_lit 225 + (nat_lit 2)))) (st8 w os).abs (restOf (stm9 ++ (stm10 ++ (stm11 ++ []))) envQ codeQ ⟨nat_lit 230, nat_lit 0, nat_lit 234, nat_lit 25⟩ stackQ) = some (st11 w os).abs := piece_app (segRun_of (congrFun (piece9 w) os)) h10
  have h8 : topRun treeTable prgQ w m0Q annQ (nat_lit 56 + (nat_lit 909 + (nat_lit 398 + (nat_lit 225 + (nat_lit 2))))) (st7 w os).abs (restOf (stm8 ++ (stm9 ++ (stm10 ++ (stm11 ++ [])))) envQ codeQ ⟨nat_lit 227, nat_lit 0, nat_lit 227, nat_lit 8⟩ stackQ) = some (st11 w os).abs := piece_app (segRun_of (congrFun (piece8 w) os)) h9
  have h7 : topRun treeTable prgQ w m0Q annQ (nat_lit 396 + (nat_lit 56 + (nat_lit 909 + (nat_lit 398 + (nat_lit 225 + (nat_lit 2)))))) (st6 w os).abs (restOf (stm7 ++ (stm8 ++ (stm9 ++ (stm10 ++ (stm11 ++ []))))) envQ codeQ ⟨nat_lit 149, nat_lit 0, nat_lit 158, nat_lit 51⟩ stackQ) = some (st11 w os).abs := piece_app (segRun_of (congrFun (piece7 w) os)) h8
  have h6 : topRun treeTable prgQ w m0Q annQ (nat_lit 394 + (nat_lit 396 + (nat_lit 56 + (nat_lit 909 + (nat_lit 398 + (nat_lit 225 + (nat_lit 2))))))) (st5 w os).abs (restOf (stm6 ++ (stm7 ++ (stm8 ++ (stm9 ++ (stm10 ++ (stm11 ++ [])))))) envQ codeQ ⟨nat_lit 67, nat_lit 0, nat_lit 67, nat_lit 12⟩ stackQ) = some (st11 w os).abs := piece_app (segRun_of (congrFun (piece6 w) os)) h7
  have h5 : topRun treeTable prgQ w m0Q annQ (nat_lit 176 + (nat_lit 394 + (nat_lit 396 + (nat_lit 56 + (nat_lit 909 + (nat_lit 398 + (nat_lit 225 + (nat_lit 2)))))))) (st4 w os).abs (restOf (stm5 ++ (stm6 ++ (stm7 ++ (stm8 ++ (stm9 ++ (stm10 ++ (stm11 ++ []))))))) envQ codeQ ⟨nat_lit 66, nat_lit 0, nat_lit 66, nat_lit 15⟩ stackQ) = some (st11 w os).abs := piece_app (segRun_of (congrFun (piece5 w) os)) h6
  have h4 : topRun treeTable prgQ w m0Q annQ (nat_lit 114 + (nat_lit 176 + (nat_lit 394 + (nat_lit 396 + (nat_lit 56 + (nat_lit 909 + (nat_lit 398 + (nat_lit 225 + (nat_lit 2))))))))) (st3 w os).abs (restOf (stm4 ++ (stm5 ++ (stm6 ++ (stm7 ++ (stm8 ++ (stm9 ++ (stm10 ++ (stm11 ++ [])))))))) envQ codeQ ⟨nat_lit 41, nat_lit 0, nat_lit 42, nat_lit 20⟩ stackQ) = some (st11 w os).abs := piece_app (segRun_of (congrFun (piece4 w) os)) h5
  have h3 : topRun treeTable prgQ w m0Q annQ (nat_lit 385 + (nat_lit 114 + (nat_lit 176 + (nat_lit 394 + (nat_lit 396 + (nat_lit 56 + (nat_lit 909 + (nat_lit 398 + (nat_lit 225 + (nat_lit 2)))))))))) (st2 w os).abs (restOf (stm3 ++ (stm4 ++ (stm5 ++ (stm6 ++ (stm7 ++ (stm8 ++ (stm9 ++ (stm10 ++ (stm11 ++ []))))))))) envQ codeQ ⟨nat_lit 14, nat_lit 0, nat_lit 15, nat_lit 8⟩ stackQ) = some (st11 w os).abs := piece_app (segRun_of (congrFun (piece3 w) os)) h4
  have h2 : topRun treeTable prgQ w m0Q annQ (nat_lit 214 + (nat_lit 385 + (nat_lit 114 + (nat_lit 176 + (nat_lit 394 + (nat_lit 396 + (nat_lit 56 + (nat_lit 909 + (nat_lit 398 + (nat_lit 225 + (nat_lit 2))))))))))) (st1 w os).abs (restOf (stm2 ++ (stm3 ++ (stm4 ++ (stm5 ++ (stm6 ++ (stm7 ++ (stm8 ++ (stm9 ++ (stm10 ++ (stm11 ++ [])))))))))) envQ codeQ ⟨nat_lit 5, nat_lit 0, nat_lit 13, nat_lit 35⟩ stackQ) = some (st11 w os).abs := piece_app (segRun_of (congrFun (piece2 w) os)) h3
  have h1 : topRun treeTable prgQ w m0Q annQ (nat_lit 305 + (nat_lit 214 + (nat_lit 385 + (nat_lit 114 + (nat_lit 176 + (nat_lit 394 + (nat_lit 396 + (nat_lit 56 + (nat_lit 909 + (nat_lit 398 + (nat_lit 225 + (nat_lit 2)))))))))))) (st0 w os).abs (restOf (stm1 ++ (stm2 ++ (stm3 ++ (stm4 ++ (stm5 ++ (stm6 ++ (stm7 ++ (stm8 ++ (stm9 ++ (stm10 ++ (stm11 ++ []))))))))))) envQ codeQ ⟨nat_lit 0, nat_lit 0, nat_lit 0, nat_lit 0⟩ stackQ) = some (st11 w os).abs := piece_app (segRun_of (congrFun (piece1 w) os)) h2
  rw [← rest_split] at h1
  have hb : topRun treeTable prgQ w m0Q annQ (nat_lit 1 + (nat_lit 305 + (nat_lit 214 + (nat_lit 385 + (nat_lit 114 + (nat_lit 176 + (nat_lit 394 + (nat_lit 396 + (nat_lit 56 + (nat_lit 909 + (nat_lit 398 + (nat_lit 225 + (nat_lit 2))))))))))))) (sA w os) ⟨denote treeTable codeQ, codeQ, p0Q, stackQ⟩ = some (st11 w os).abs := piece_block (b := restQ) (env := envQ) (c := codeQ) (pos := p0Q) (congrFun (block0 w) os) h1
  have ha : topRun treeTable prgQ w m0Q annQ (nat_lit 12 + (nat_lit 1 + (nat_lit 305 + (nat_lit 214 + (nat_lit 385 + (nat_lit 114 + (nat_lit 176 + (nat_lit 394 + (nat_lit 396 + (nat_lit 56 + (nat_lit 909 + (nat_lit 398 + (nat_lit 225 + (nat_lit 2)))))))))))))) ⟨boot_heap w.params, ⟨[]⟩, boot_drawn, boot_toks, os⟩ (topStub prgQ) = some (st11 w os).abs := go_top (congrFun (pre0 w) os) hb
  exact ha.trans (congrArg some (by kernel_rfl))
theorem openQ : ∀ w : World, (fencedOpening treeTable prgQ w (nat_lit 8000)).map (fun s => (s.heap, s.gens, s.drawn, s.toks)) = some (boot_heap w.params, (⟨[]⟩ : Array GenState), boot_drawn, boot_toks) := boot_open openE (by decide) fenceE
theorem leQ : Nat.ble (nat_lit 12 + (nat_lit 1 + (nat_lit 305 + (nat_lit 214 + (nat_lit 385 + (nat_lit 114 + (nat_lit 176 + (nat_lit 394 + (nat_lit 396 + (nat_lit 56 + (nat_lit 909 + (nat_lit 398 + (nat_lit 225 + (nat_lit 2)))))))))))))) (nat_lit 8000) = true := by decide
end
end Mine
namespace Mine
noncomputable section
set_option maxRecDepth 100000
open PySem PySem.W PySem.Calls
noncomputable abbrev qQ : Program := { prgQ with main := { prgQ.main with body := [sAt prgQ (nat_lit 65)] } }
noncomputable abbrev s1Q (w : World) (os : OsState) : Shared := ⟨hpQ w.params, ⟨[]⟩, boot_drawn, nat_lit 979, os⟩
noncomputable abbrev XtQ : Shared → Bool := fun s => xlAt qQ [] s && recOk [] s

theorem lk1 : ∀ (w : World), staticsOk (importedModules prgQ.main.body) (boot_heap w.params) (hpQ w.params) = true := by
  rw [PySem.W.Fast.te5923862056798008813]
  intro w
  kernel_rfl
theorem lk2 : ∀ (w : World), namesBound prgQ (hpQ w.params) = true := by
  intro w
  kernel_rfl
theorem lk3 : ∀ (w : World), laidKept (boot_heap w.params) (hpQ w.params) = true := by
  intro w
  kernel_rfl
theorem lk4 : ∀ (w : World) (os : OsState), gensDone (s1Q w os) = true := by
  intro w os
  kernel_rfl
theorem mods_nil : importedModules prgQ.main.body = [] := by
  rw [PySem.W.Fast.te5923862056798008813]
  kernel_rfl
theorem os1 : ∀ (w : World), (fun os => seen ((recsOf qQ).map (·.name)) (ownsOf qQ) [] { s1Q w os with gens := #[] }) = (fun os => expectedOf qQ) := by
  rw [PySem.W.Fast.te5160383126252970620, PySem.W.R.mapR_eq, PySem.W.Fast.te3399658132070893891, PySem.W.Fast.te5991557255702980513]
  intro w
  kernel_rfl
theorem os2 : ∀ (w : World), (hpQ w.params).bltView = bltViewBooted := by
  intro w
  kernel_rfl

theorem os3a : ∀ (w : World), (hpQ w.params).keysOk (looseW qQ looseQ) ((recsOf qQ).map (·.name)) ((litsOf qQ).map (·.1)) ((clssOf qQ (looseW qQ looseQ)).map (·.name)) = true := by
  rw [PySem.W.Fast.te10880121769531294198, PySem.W.Fast.te821141287760084731, PySem.W.Fast.te3399658132070893891, PySem.W.R.mapR_eq, PySem.W.Fast.te7409074990110511671, PySem.W.Fast.te13664370479719496447]
  intro w
  kernel_rfl
theorem os3b : ∀ (w : World), (hpQ w.params).accountedOkI (importedModules prgQ.main.body) = true := by
  rw [PySem.W.Fast.te14722251495701143533, PySem.W.Fast.te5923862056798008813]
  intro w
  kernel_rfl
theorem os3c : ∀ (w : World), ((hpQ w.params).isNs mainGlobals && (hpQ w.params).isNs builtinsNs) = true := by
  intro w
  kernel_rfl
theorem os3d : ∀ (w : World), tablesOk qQ (hpQ w.params) = true := by
  rw [PySem.W.Fast.te10994771534591457954]
  intro w
  kernel_rfl
theorem os3e : ∀ (w : World) (os : OsState), XtQ (s1Q w os) = true := by
  intro w os
  kernel_rfl
theorem os4 : ∀ (w : World) (os : OsState), tabsOk qQ (s1Q w os) = true := by
  rw [PySem.W.Fast.te479339242167458305]
  intro w os
  kernel_rfl
theorem os5 : ∀ (w : World) (os : OsState), pinSeenD qQ (drecsOf qQ) (s1Q w os) = pinGoodD (drecsOf qQ) := by
  rw [PySem.W.Fast.te16090120013241838585, PySem.W.Fast.te3247288618530077131]
  intro w os
  kernel_rfl
theorem os6 : ∀ (w : World) (os : OsState), plainSeenE qQ (looseW qQ looseQ) (s1Q w os) = plainGoodE qQ (looseW qQ looseQ) := by
  rw [PySem.W.Fast.te2386780881361962483, PySem.W.Fast.te821141287760084731]
  intro w os
  kernel_rfl
theorem os7 : ∀ (w : World) (os : OsState), plainSeenD qQ looseQ (s1Q w os) = plainGoodD qQ looseQ := by
  rw [PySem.W.Fast.te11698064438423848299]
  intro w os
  kernel_rfl
theorem os8 : ∀ (w : World) (os : OsState), wideSeen qQ (s1Q w os) = wideGood qQ := by
  rw [PySem.W.Fast.te7317090234206586261]
  intro w os
  kernel_rfl
theorem os9 : ∀ (w : World) (os : OsState), clsSeenW qQ looseQ (s1Q w os) = clsGoodW qQ looseQ := by
  rw [PySem.W.Fast.te7369524293546568484]
  intro w os
  kernel_rfl
theorem kq_as : ∀ P : Params, kAs = (KQ P).map (·.1) := by
  intro P
  kernel_rfl
theorem kq_at : ∀ (w : World), kAs.map (hpQ w.params).get? = (KQ w.params).map (fun p => some p.2) := by
  intro w
  kernel_rfl
theorem kt_at' : ∀ (w : World), kTs.map (hpQ w.params).get? = kTs.map (fun _ => some (tabObj #[])) := by
  intro w
  kernel_rfl

noncomputable abbrev hookQ : Hook := kmHook KQ kAs kq_as kTs

theorem openSeen_of {q : Program} {loose mods : List Str} {Xt : Shared → Bool} {s : Shared}
    (h1 : seen ((recsOf q).map (·.name)) (ownsOf q) [] { s with gens := #[] } = expectedOf q) (h2 : s.heap.bltView = bltViewBooted)
    (h3 : s.heap.keysOk (looseW q loose) ((recsOf q).map (·.name)) ((litsOf q).map (·.1)) ((clssOf q (looseW q loose)).map (·.name)) = true)
    (h4 : s.heap.accountedOkI mods = true) (h5 : (s.heap.isNs mainGlobals && s.heap.isNs builtinsNs) = true) (h6 : tablesOk q s.heap = true) (h7 : Xt s = true) (h8 : (s.gens.size == 0) = true)
    (k1 : tabsOk q s = true) (k2 : pinSeenD q (drecsOf q) s = pinGoodD (drecsOf q)) (k3 : plainSeenE q (looseW q loose) s = plainGoodE q (looseW q loose))
    (k4 : plainSeenD q loose s = plainGoodD q loose) (k5 : wideSeen q s = wideGood q) (k6 : clsSeenW q loose s = clsGoodW q loose) : openSeen q loose mods Xt true s = openGood q loose := by
  unfold openSeen openGood
  rw [Bool.and_eq_true] at h5
  rw [h1, h2, h3, h4, h5.1, h5.2, h6, h7, k1, k2, k3, k4, k5, k6, if_pos rfl, h8]
  rfl
theorem looks_of {p q : Program} {loose : List Str} {Xt : Shared → Bool} {H₀ H₁ : Params → Heap} {w : World} {s : OsState → Shared} {α : Type} {Yf : Shared → α} {y : α}
    (hh : ∀ os, (s os).heap = H₁ w.params) (a1 : staticsOk (importedModules p.main.body) (H₀ w.params) (H₁ w.params) = true) (a2 : namesBound p (H₁ w.params) = true) (a3 : laidKept (H₀ w.params) (H₁ w.params) = true) (a4 : ∀ os, gensDone (s os) = true)
    (b : ∀ os, openSeen q loose (importedModules p.main.body) Xt true (s os) = openGood q loose) (c : ∀ os, Yf (s os) = y) :
    (fun os => ((staticsOk (importedModules p.main.body) (H₀ w.params) (H₁ w.params) && namesBound p (H₁ w.params) && gensDone (s os) && laidKept (H₀ w.params) (H₁ w.params)),
        openSeen q loose (importedModules p.main.body) Xt true (s os), Yf (s os))) = fun _ => (true, openGood q loose, y) := by
  funext os
  rw [a1, a2, a3, a4, b, c]; rfl
theorem hook_at : ∀ (w : World) (os : OsState), hookQ.obs (s1Q w os) = hookQ.val w := by
  intro w os
  exact looks_pair (kq_at w) (kt_at' w)
theorem seen_at : ∀ (w : World) (os : OsState), openSeen qQ looseQ (importedModules prgQ.main.body) XtQ true (s1Q w os) = openGood qQ looseQ := fun w os =>
  openSeen_of (s := s1Q w os) (congrFun (os1 w) os) (os2 w) (os3a w) (os3b w) (os3c w) (os3d w) (os3e w os) rfl (os4 w os) (os5 w os) (os6 w os) (os7 w os) (os8 w os) (os9 w os)
theorem looksQ : ∀ w : World, (fun os => ((staticsOk (importedModules prgQ.main.body) (boot_heap w.params) (hpQ w.params) && namesBound prgQ (hpQ w.params) && gensDone (s1Q w os) && laidKept (boot_heap w.params) (hpQ w.params)),
    openSeen qQ looseQ (importedModules prgQ.main.body) XtQ true (s1Q w os), hookQ.obs (s1Q w os))) = fun _ => (true, openGood qQ looseQ, hookQ.val w) := fun w =>
  looks_of (p := prgQ) (q := qQ) (loose := looseQ) (Xt := XtQ) (H₀ := boot_heap) (H₁ := hpQ) (s := s1Q w) (fun _ => rfl) (lk1 w) (lk2 w) (lk3 w) (lk4 w) (seen_at w) (hook_at w)
theorem leftQ : LeftO prgQ qQ looseQ XtQ hookQ.obs hookQ.val (nat_lit 8000) :=
  LeftO.of_pieces (p := prgQ) (q := qQ) (loose := looseQ) (Xt := XtQ) (Yf := hookQ.obs) (Ya := hookQ.val) (N := nat_lit 8000) (H₀ := boot_heap) (H₁ := hpQ) openQ sizeE runQ leQ looksQ
end
end Mine
namespace Mine
noncomputable section
set_option maxRecDepth 100000
open PySem PySem.W PySem.Calls
theorem prg_is : PySem.Challenge.pw_pb0267_01 = prgQ := rfl
noncomputable abbrev fN : Stmt → Str
  | .FunctionDef n _ _ _ _ _ _ _ _ _ => n
  | _ => ⟨⟨[]⟩⟩
noncomputable abbrev fP : Stmt → Pos
  | .FunctionDef _ _ _ _ _ _ _ _ _ p => p
  | _ => default
noncomputable abbrev dQ : DefRec := ⟨fN (sAt prgQ (nat_lit 65)), fA (sAt prgQ (nat_lit 65)), fB (sAt prgQ (nat_lit 65)), fS (sAt prgQ (nat_lit 65)) prgQ, fP (sAt prgQ (nat_lit 65))⟩
theorem leftP : LeftO PySem.Challenge.rw_pb0267_01.row.toRowW.prog qQ looseQ XtQ hookQ.obs hookQ.val (nat_lit 8000) := by
  show LeftO PySem.Challenge.pw_pb0267_01 _ _ _ _ _ _
  rw [prg_is]
  exact leftQ
theorem hdefQ : defOf qQ PySem.Challenge.rw_pb0267_01.row.toRowW.name = some (dQ, []) := by kernel_rfl
theorem theDefQ : PySem.Challenge.rw_pb0267_01.row.toRowW.prog.theDef PySem.Challenge.rw_pb0267_01.row.toRowW.name = some (dQ.params, dQ.body, dQ.scope) := by
  show PySem.Challenge.pw_pb0267_01.theDef _ = _
  rw [prg_is]
  kernel_rfl
theorem kwQ : kwWritten? dQ.params.kwonlyargs dQ.params.kw_defaults = some [] := by kernel_rfl
theorem chainsQ : chainsOk qQ = true := by kernel_rfl
theorem opensQ : opensWell PySem.Challenge.pw_pb0267_01 = true := by kernel_rfl
theorem freesQ : (frees PySem.Challenge.rw_pb0267_01.row.toRowW && PySem.Challenge.rw_pb0267_01.row.toRowW.within.isEmpty) = true := by decide +kernel
theorem okQ : (chainsOk qQ && opensWell PySem.Challenge.rw_pb0267_01.row.toRowW.prog && (frees PySem.Challenge.rw_pb0267_01.row.toRowW && PySem.Challenge.rw_pb0267_01.row.toRowW.within.isEmpty)) = true := by
  have h : opensWell PySem.Challenge.rw_pb0267_01.row.toRowW.prog = true := opensQ
  rw [chainsQ, h, freesQ]; rfl
theorem bareQ : PySem.Challenge.rw_pb0267_01.row.toRowW.prog.bare := ⟨rfl, rfl, rfl, rfl, rfl, by decide +kernel⟩
theorem promisedQ : PySem.Challenge.rw_pb0267_01.row.toRowW.promised := by w_witness2
abbrev CallQ : Prop := WalkO qQ looseQ (XL qQ []) hookQ.says PySem.Challenge.rw_pb0267_01.row.toRowW dQ [] fun f vs => PySem.call f vs
theorem headQ (call : CallQ) : PySem.Challenge.rw_pb0267_01.Holds :=
  holds_law law_said fun said =>
    holds_open (r := PySem.Challenge.rw_pb0267_01.row) (q := qQ) (loose := looseQ) (Xt := XtQ) (XP := XL qQ []) (Yf := hookQ.obs) (Ya := hookQ.val) (YP := hookQ.says) (d := dQ) (kwd := []) (N := nat_lit 8000)
      leftP hookQ.of hookQ.keeps (fun s e => xl_of s (Bool.and_eq_true_iff.mp e).1) XL.keeps hdefQ theDefQ kwQ (fun s e => recFacts_of (Bool.and_eq_true_iff.mp e).2) rfl said okQ bareQ promisedQ call
end
end Mine
namespace Mine
noncomputable section
set_option maxRecDepth 100000
open PySem PySem.W PySem.Calls
theorem kg_q : ∀ P : Params, KG prgQ P = KQ P := by
  intro P
  kernel_rfl
theorem kw_q : ∀ P : Params, KW P = KQ P := by
  intro P
  show KG PySem.Challenge.pw_pb0267_01 P = KQ P
  rw [prg_is]
  exact kg_q P
end
end Mine
namespace Mine
section
open PySem PySem.Spec PySem.Calls

section
variable {prog : Program} {w : World} {A : Around} {E : Value → Shared → Prop} {s : Shared} {h₀ : Heap} {L l : Addr} {news : List (Addr × Obj)} {items : Array Value} {n : Nat} {Q : Value → Shared → Prop}
theorem len_mem (N : News h₀ L s.heap news) (hm : (l, listOf items n) ∈ news) (hf : items.size ≤ 1000) (h : Q (.int items.size (s.toks + 1)) { s with toks := s.toks + 1 + 1 }) :
    wpAny (model prog w) A (call (.builtin "len") [.ref l]) Q E s :=
  Calls.call_len_list (News.isList N hm) (by omega) h
theorem item_mem {value slice : Expr} {k : Int} {u : Tok} {v : Value} (N : News h₀ L s.heap news) (hm : (l, listOf items n) ∈ news) (h0 : 0 ≤ k) (h1 : k < 2 ^ 63) (hx : items[k.toNat]? = some v) (h : Q v s)
    (hs : subscripted slice false (.ref l) (.int k u) = operate [.ref l, .int k u] (getItem (.ref l) (.int k u))) (hg : ∀ r, letTemporaryGo value (.ref l) r = pure ()) :
    wpAny (model prog w) A (subscriptTail value slice (.ref l) (.int k u)) Q E s :=
  tail_any (News.isList N hm).typeIs slot_list_getitem.lookup (wpAny_getItem_list (News.isList N hm) h0 h1 hx h) hs
theorem News.differ {a b : Addr} {o o' : Obj} {h : Heap} (N : News h₀ L h news) (ha : (a, o) ∈ news) (hb : (b, o') ∈ news) (hne : o ≠ o') : a ≠ b := by
  rintro rfl
  have := (N _ ha).1
  rw [(N _ hb).1] at this
  cases this
  exact hne rfl
end
abbrev pw : Program := PySem.Challenge.rw_pb0267_01.prog
/-- the Around of a frame of the law's -/
abbrev top9 (hd : Option Value) (dp un : Nat) (gd : Option (List Code)) (cn : Str) (cs : Scope) (L a : Addr) (ccd : Value) (cl : List (Str × Addr)) (outer : List Env) : Around := { handled := hd, depth := dp, frames := some (envX cn cs L a ccd cl :: outer), guards := gd, units := un }
structure Tk where
  a : Addr
  d : Addr
  q : Addr
  kind : Str
  worth : Str
  n : Int
abbrev strK (x : Str) (t : Tok) : Value := .str x t
abbrev tkDict (P : Params) (t : Tk) (a1 a2 a3 a4 b1 b2 : Tok) : Obj := dictOf [⟨PyData.keyHash P (Str.ofString "kind"), .str (Str.ofString "kind") a1, .str t.kind b1⟩, ⟨PyData.keyHash P (Str.ofString "worth"), .str (Str.ofString "worth") a2, .str t.worth b2⟩,
  ⟨PyData.keyHash P (Str.ofString "at"), .str (Str.ofString "at") a3, .ref t.q⟩, ⟨PyData.keyHash P (Str.ofString "is_in_a"), .str (Str.ofString "is_in_a") a4, .bool false⟩] 4
abbrev rdDict (P : Params) (T nd : Addr) (i : Int) (t1 t2 t3 t4 : Tok) : Obj := dictOf [⟨PyData.keyHash P (Str.ofString "tokens"), .str (Str.ofString "tokens") t1, .ref T⟩, ⟨PyData.keyHash P (Str.ofString "at"), .str (Str.ofString "at") t2, .int i t4⟩, ⟨PyData.keyHash P (Str.ofString "named"), .str (Str.ofString "named") t3, .ref nd⟩] 3
abbrev tupOf (vs : List Value) (n : Nat) : Obj := { cls := .type "tuple", data := .seq vs.toArray n }
structure TkIn (P : Params) (news : List (Addr × Obj)) (t : Tk) : Prop where
  ha : (t.a, instObj 504 t.d) ∈ news
  hd : ∃ a1 a2 a3 a4 b1 b2, (t.d, tkDict P t a1 a2 a3 a4 b1 b2) ∈ news
  hq : ∃ u1 u2 n, (t.q, tupOf [.int t.n u1, .int 12 u2] n) ∈ news
  hw : t.worth.length ≤ 60
structure RdW (P : Params) (news : List (Addr × Obj)) (r dx T nd : Addr) (toks : List Tk) (i : Int) : Prop where
  hr : (r, instObj 474 dx) ∈ news
  hd : ∃ t1 t2 t3 t4, (dx, rdDict P T nd i t1 t2 t3 t4) ∈ news
  hT : ∃ n, (T, listOf (toks.map fun t => Value.ref t.a).toArray n) ∈ news
  ht : ∀ t ∈ toks, TkIn P news t
  h0 : 0 ≤ i
  h1 : i ≤ toks.length
  hl : toks.length ≤ 60
section
variable {P : Params} {news : List (Addr × Obj)} {r dx T nd : Addr} {toks : List Tk} {i : Int} {t : Tk} {G : Prop}
theorem RdW.cps (W : RdW P news r dx T nd toks i) (k : (r, instObj 474 dx) ∈ news → ∀ t1 t2 t3 t4, (dx, rdDict P T nd i t1 t2 t3 t4) ∈ news → ∀ n, (T, listOf (toks.map fun t => Value.ref t.a).toArray n) ∈ news → (∀ t ∈ toks, TkIn P news t) → 0 ≤ i → i ≤ toks.length → toks.length ≤ 60 → G) : G :=
  let ⟨t1, t2, t3, t4, hd⟩ := W.hd; let ⟨n, hT⟩ := W.hT; k W.hr t1 t2 t3 t4 hd n hT W.ht W.h0 W.h1 W.hl
theorem RdW.cps4 (W : RdW P news r dx T nd toks i) (k : (r, instObj 474 dx) ∈ news → ∀ t1 t2 t3 t4, (dx, rdDict P T nd i t1 t2 t3 t4) ∈ news → ∀ n, (T, listOf (toks.map fun t => Value.ref t.a).toArray n) ∈ news → (∀ t ∈ toks, TkIn P news t) → G) : G :=
  W.cps fun a t1 t2 t3 t4 b n c d _ _ _ => k a t1 t2 t3 t4 b n c d
theorem RdW.cpsN (W : RdW P news r dx T nd toks i) (k : (r, instObj 474 dx) ∈ news → ∀ n, (T, listOf (toks.map fun t => Value.ref t.a).toArray n) ∈ news → (∀ t ∈ toks, TkIn P news t) → 0 ≤ i → i ≤ toks.length → toks.length ≤ 60 → G) : G :=
  W.cps fun a _ _ _ _ _ n c d e f g => k a n c d e f g
theorem TkIn.cps (z : TkIn P news t) (k : (t.a, instObj 504 t.d) ∈ news → ∀ a1 a2 a3 a4 b1 b2, (t.d, tkDict P t a1 a2 a3 a4 b1 b2) ∈ news → ∀ u1 u2 n, (t.q, tupOf [.int t.n u1, .int 12 u2] n) ∈ news → t.worth.length ≤ 60 → G) : G :=
  let ⟨a1, a2, a3, a4, b1, b2, x⟩ := z.hd; let ⟨u1, u2, n, y⟩ := z.hq; k z.ha a1 a2 a3 a4 b1 b2 x u1 u2 n y z.hw
end
/-- what stands at the k-th place from here -/
def tkAt (toks : List Tk) (i k : Int) : Option Tk := if i + k < toks.length then toks[(i + k).toNat]? else none
def tkVal : Option Tk → Value
  | some t => .ref t.a
  | none => .none
theorem tkAt_some {toks : List Tk} {i k : Int} (h0 : 0 ≤ i + k) (h : i + k < toks.length) : ∃ t, t ∈ toks ∧ tkAt toks i k = some t ∧ toks[(i + k).toNat]? = some t := by
  unfold tkAt
  rw [if_pos h]
  have hl : (i + k).toNat < toks.length := by omega
  exact ⟨toks[(i + k).toNat], List.getElem_mem hl, List.getElem?_eq_getElem hl, List.getElem?_eq_getElem hl⟩
theorem tkAt_none {toks : List Tk} {i k : Int} (h : ¬ i + k < toks.length) : tkAt toks i k = none := by unfold tkAt; rw [if_neg h]

theorem item_tok {prog : Program} {w : World} {A : Around} {E : Value → Shared → Prop} {s : Shared} {h₀ : Heap} {L l : Addr} {news : List (Addr × Obj)} {n : Nat} {Q : Value → Shared → Prop} {toks : List Tk} {i k : Int} {u : Tok} {value slice : Expr}
    (N : News h₀ L s.heap news) (hm : (l, listOf (toks.map fun t => Value.ref t.a).toArray n) ∈ news) (h0 : 0 ≤ i + k) (h1 : i + k < (toks.map fun t => Value.ref t.a).toArray.size) (h2 : toks.length ≤ 60) (h : ∀ t, t ∈ toks → tkAt toks i k = some t → Q (.ref t.a) s)
    (hs : subscripted slice false (.ref l) (.int (i + k) u) = operate [.ref l, .int (i + k) u] (getItem (.ref l) (.int (i + k) u))) (hg : ∀ r, letTemporaryGo value (.ref l) r = pure ()) :
    wpAny (model prog w) A (subscriptTail value slice (.ref l) (.int (i + k) u)) Q E s := by
  rw [List.size_toArray, List.length_map] at h1
  obtain ⟨t, ht, e1, e2⟩ := tkAt_some h0 h1
  refine item_mem N hm h0 (by omega) ?_ (h t ht e1) hs hg
  rw [List.getElem?_toArray, List.getElem?_map, e2]; rfl
theorem tkAt_out {toks : List Tk} {i k : Int} (h : ¬ i + k < (toks.map fun t => Value.ref t.a).toArray.size) : tkAt toks i k = none := by
  rw [List.size_toArray, List.length_map] at h
  exact tkAt_none h

theorem tk_split {P : Params} {news : List (Addr × Obj)} {toks : List Tk} {i k : Int} {C : Value → Prop} (ht : ∀ t ∈ toks, TkIn P news t) (k0 : tkAt toks i k = none → C .none) (k1 : ∀ t, tkAt toks i k = some t → TkIn P news t → C (.ref t.a)) : C (tkVal (tkAt toks i k)) := by
  cases h : tkAt toks i k with
  | none => exact k0 h
  | some t =>
    refine k1 t h (ht t ?_)
    unfold tkAt at h
    split at h
    · exact List.mem_of_getElem? h
    · cases h
def isKind (toks : List Tk) (i k : Int) (kd : Str) : Bool := match tkAt toks i k with
  | some t => t.kind == kd
  | none => false
def isTok (toks : List Tk) (i k : Int) (kd x : Str) : Bool := match tkAt toks i k with
  | some t => t.kind == kd && t.worth == x
  | none => false

theorem kind_some {toks : List Tk} {i k : Int} {kd : Str} (h : isKind toks i k kd = true) (e : tkAt toks i k = none) : False := by
  unfold isKind at h
  rw [e] at h
  cases h
theorem isTok_some {toks : List Tk} {i k : Int} {kd x : Str} {t : Tk} (h : isKind toks i k kd = true) (e : tkAt toks i k = some t) : Value.bool (t.worth == x) = .bool (isTok toks i k kd x) := by
  unfold isKind at h; unfold isTok
  rw [e] at h ⊢
  dsimp only at h ⊢
  rw [h, Bool.true_and]
theorem isTok_no {toks : List Tk} {i k : Int} {kd x : Str} (h : isKind toks i k kd = false) : Value.bool (isKind toks i k kd) = .bool (isTok toks i k kd x) := by
  rw [h]
  unfold isKind at h; unfold isTok
  cases e : tkAt toks i k with
  | none => rfl
  | some t => rw [e] at h; dsimp only at h ⊢; rw [h, Bool.false_and]
theorem isTok_no' {toks : List Tk} {i k : Int} {kd x : Str} (h : isKind toks i k kd = false) : isTok toks i k kd x = false := by
  have := isTok_no (x := x) h
  rw [h] at this
  injection this with e
  exact e.symm
theorem isTok_eq {toks : List Tk} {i k : Int} {kd x : Str} {t : Tk} (h : isKind toks i k kd = true) (e : tkAt toks i k = some t) : isTok toks i k kd x = (t.worth == x) := by
  have := isTok_some (x := x) h e
  injection this with e
  exact e.symm
theorem TkIn.mono {P : Params} {news news' : List (Addr × Obj)} {t : Tk} (h : TkIn P news t) (hs : ∀ q ∈ news, q ∈ news') : TkIn P news' t :=
  ⟨hs _ h.ha, let ⟨a1, a2, a3, a4, b1, b2, x⟩ := h.hd; ⟨a1, a2, a3, a4, b1, b2, hs _ x⟩, let ⟨u1, u2, n, x⟩ := h.hq; ⟨u1, u2, n, hs _ x⟩, h.hw⟩
theorem RdW.mono {P : Params} {news news' : List (Addr × Obj)} {r dx T nd : Addr} {toks : List Tk} {i : Int} (h : RdW P news r dx T nd toks i) (hs : ∀ q ∈ news, q ∈ news') : RdW P news' r dx T nd toks i :=
  ⟨hs _ h.hr, let ⟨t1, t2, t3, t4, x⟩ := h.hd; ⟨t1, t2, t3, t4, hs _ x⟩, let ⟨n, x⟩ := h.hT; ⟨n, hs _ x⟩, fun t ht => (h.ht t ht).mono hs, h.h0, h.h1, h.hl⟩
theorem News.sub {h₀ h : Heap} {L : Addr} {news news' : List (Addr × Obj)} (N : News h₀ L h news') (hs : ∀ q ∈ news, q ∈ news') : News h₀ L h news := fun q hq => N q (hs q hq)
theorem rd_not_inst {P : Params} {T nd C dx : Addr} {i : Int} {t1 t2 t3 t4 : Tok} : instObj C dx ≠ rdDict P T nd i t1 t2 t3 t4 := by
  intro e
  have := congrArg Obj.cls e
  cases this
theorem rd_not_seq {P : Params} {T nd : Addr} {i : Int} {t1 t2 t3 t4 : Tok} {k : Nat} {c : String} {vs : Array Value} : ({ cls := .type c, data := .seq vs k } : Obj) ≠ rdDict P T nd i t1 t2 t3 t4 := by
  intro e
  have := congrArg Obj.data e
  cases this
theorem rd_not_tk {P : Params} {T nd : Addr} {i : Int} {t1 t2 t3 t4 : Tok} {t : Tk} {a1 a2 a3 a4 b1 b2 : Tok} : tkDict P t a1 a2 a3 a4 b1 b2 ≠ rdDict P T nd i t1 t2 t3 t4 := by
  intro e
  have e1 := congrArg Obj.data e
  injection e1 with e2 _
  have e3 := congrArg Array.toList e2
  injection e3 with e4 _
  injection e4 with _ e5 _
  injection e5 with e6 _
  revert e6
  decide
theorem mem_tail {a : Addr} {o o' : Obj} {q : Addr} {l : List (Addr × Obj)} (h : (q, o) ∈ (a, o') :: l) (hne : o ≠ o') : (q, o) ∈ l := by
  rcases List.mem_cons.mp h with e | e
  · exact absurd (Prod.ext_iff.mp e).2 hne
  · exact e
theorem RdW.upd {P : Params} {l : List (Addr × Obj)} {r dx T nd : Addr} {toks : List Tk} {i j : Int} {s1 s2 s3 s4 t1 t2 t3 t4 : Tok} (W : RdW P ((dx, rdDict P T nd i s1 s2 s3 s4) :: l) r dx T nd toks i) (h0 : 0 ≤ j) (h1 : j ≤ toks.length) :
    RdW P ((dx, rdDict P T nd j t1 t2 t3 t4) :: l) r dx T nd toks j :=
  ⟨List.mem_cons_of_mem _ (mem_tail W.hr rd_not_inst), ⟨t1, t2, t3, t4, List.mem_cons_self ..⟩, let ⟨k, x⟩ := W.hT; ⟨k, List.mem_cons_of_mem _ (mem_tail x rd_not_seq)⟩,
   fun t ht => let z := W.ht t ht; ⟨List.mem_cons_of_mem _ (mem_tail z.ha rd_not_inst), let ⟨a1, a2, a3, a4, b1, b2, x⟩ := z.hd; ⟨a1, a2, a3, a4, b1, b2, List.mem_cons_of_mem _ (mem_tail x rd_not_tk)⟩,
     let ⟨u1, u2, k, x⟩ := z.hq; ⟨u1, u2, k, List.mem_cons_of_mem _ (mem_tail x rd_not_seq)⟩, z.hw⟩, h0, h1, W.hl⟩
theorem tkAt_mem {toks : List Tk} {i k : Int} {t : Tk} (h : tkAt toks i k = some t) : t ∈ toks := by
  unfold tkAt at h
  split at h
  · exact List.mem_of_getElem? h
  · cases h
theorem RdW.tk {P : Params} {news : List (Addr × Obj)} {r dx T nd : Addr} {toks : List Tk} {i : Int} {t : Tk} (W : RdW P news r dx T nd toks (i + 1)) (h : tkAt toks i 0 = some t) : TkIn P news t := W.ht t (tkAt_mem h)
/-- the reader's dict first -/
theorem RdW.front {P : Params} {news : List (Addr × Obj)} {h₀ h : Heap} {L : Addr} {r dx T nd : Addr} {toks : List Tk} {i : Int} (W : RdW P news r dx T nd toks i) (N : News h₀ L h news) :
    ∃ t1 t2 t3 t4 rest, News h₀ L h ((dx, rdDict P T nd i t1 t2 t3 t4) :: rest) ∧ (∀ q ∈ rest, q.1 ≠ dx) ∧ (∀ q ∈ news, q.1 ≠ dx → q ∈ rest) ∧ RdW P ((dx, rdDict P T nd i t1 t2 t3 t4) :: rest) r dx T nd toks i ∧ ∀ q ∈ news, q ∈ (dx, rdDict P T nd i t1 t2 t3 t4) :: rest := by
  obtain ⟨t1, t2, t3, t4, hd⟩ := W.hd
  have up : ∀ q ∈ news, q ∈ (dx, rdDict P T nd i t1 t2 t3 t4) :: news.filter (fun q => q.1 != dx) := fun q hq => by
    by_cases e : q.1 = dx
    · have h1 := (N q hq).1
      rw [e, (N _ hd).1] at h1
      rw [show q = (dx, rdDict P T nd i t1 t2 t3 t4) from Prod.ext e (Option.some.inj h1).symm]
      exact List.mem_cons_self ..
    · exact List.mem_cons_of_mem _ (List.mem_filter.mpr ⟨hq, by simpa using e⟩)
  refine ⟨t1, t2, t3, t4, news.filter (fun q => q.1 != dx), fun q hq => ?_, fun q hq => by simpa using (List.mem_filter.mp hq).2, fun q hq e => List.mem_filter.mpr ⟨hq, by simpa using e⟩, W.mono up, up⟩
  rcases List.mem_cons.mp hq with rfl | hq
  · exact N _ hd
  · exact N _ (List.mem_filter.mp hq).1
theorem RdW.frontC {P : Params} {news : List (Addr × Obj)} {h₀ h : Heap} {L : Addr} {r dx T nd : Addr} {toks : List Tk} {i : Int} {G : Prop} (W : RdW P news r dx T nd toks i) (N : News h₀ L h news)
    (k : ∀ t1 t2 t3 t4 rest, News h₀ L h ((dx, rdDict P T nd i t1 t2 t3 t4) :: rest) → (∀ q ∈ rest, q.1 ≠ dx) → (∀ q ∈ news, q.1 ≠ dx → q ∈ rest) → RdW P ((dx, rdDict P T nd i t1 t2 t3 t4) :: rest) r dx T nd toks i → (∀ q ∈ news, q ∈ (dx, rdDict P T nd i t1 t2 t3 t4) :: rest) → G) : G :=
  let ⟨t1, t2, t3, t4, rest, a, b, c, d, e⟩ := W.front N; k t1 t2 t3 t4 rest a b c d e
theorem isTok_lt {toks : List Tk} {i k : Int} {kd x : Str} (h : isTok toks i k kd x = true) : i + k < toks.length := by
  unfold isTok tkAt at h
  split at h
  · rename_i e
    split at e
    · assumption
    · cases e
  · cases h
theorem isKind_lt {toks : List Tk} {i k : Int} {kd : Str} (h : isKind toks i k kd = true) : i + k < toks.length := by
  unfold isKind tkAt at h
  split at h
  · rename_i e
    split at e
    · assumption
    · cases e
  · cases h
/-- what a call that turns the reader alone leaves -/
def Keeps (news news' : List (Addr × Obj)) : Prop := ∀ q ∈ news, q.2.cls ≠ .type "dict" → q ∈ news'
theorem keeps_up {P : Params} {T nd dx : Addr} {i j : Int} {s1 s2 s3 s4 t1 t2 t3 t4 : Tok} {news rest : List (Addr × Obj)} (hup : ∀ q ∈ news, q ∈ (dx, rdDict P T nd i s1 s2 s3 s4) :: rest) : Keeps news ((dx, rdDict P T nd j t1 t2 t3 t4) :: rest) := fun q hq hc => by
  rcases List.mem_cons.mp (hup q hq) with e | e
  · rw [e] at hc; exact absurd rfl hc
  · exact List.mem_cons_of_mem _ e
theorem Keeps.trans {a b c : List (Addr × Obj)} (x : Keeps a b) (y : Keeps b c) : Keeps a c := fun q hq hc => y q (x q hq hc) hc
theorem Keeps.sub {a b c : List (Addr × Obj)} (x : ∀ q ∈ a, q ∈ b) (y : Keeps b c) : Keeps a c := fun q hq hc => y q (x q hq) hc
theorem Keeps.trans' {a b c : List (Addr × Obj)} (y : Keeps b c) (x : Keeps a b) : Keeps a c := x.trans y
theorem Keeps.cons {a b : List (Addr × Obj)} {q : Addr × Obj} (x : Keeps a b) : Keeps a (q :: b) := fun p hp hc => List.mem_cons_of_mem _ (x p hp hc)
theorem Keeps.refl (a : List (Addr × Obj)) : Keeps a a := fun _ hq _ => hq
theorem tkAt_lt {toks : List Tk} {i k : Int} {t : Tk} (h : tkAt toks i k = some t) : i + k < toks.length := by
  unfold tkAt at h
  split at h
  · assumption
  · cases h
end
end Mine
namespace Mine
section
open PySem PySem.Spec PySem.Calls
set_option maxRecDepth 100000
set_option maxHeartbeats 0
local macro_rules | `(tactic| tb_start) => `(tactic| ((have k9 : Mine.KW = Mine.KW ∧ PySem.Challenge.rw_pb0267_01 = PySem.Challenge.rw_pb0267_01 := ⟨rfl, rfl⟩); revert k9; k_fill; intro k9; clear k9))
local macro_rules | `(tactic| ktr_enter) => `(tactic| (refine wpAny_call ?_; k_dflt (refine' code_def ?k1 ?k2 ?k3 ?k4 ?k5 ?kA ?kF ?kK ?k6 ?k7 ?k8 ?k9 ?kB ?_ ?c2 ?c3 ?c4 ?c5; (case kA => exact rfl); (case kF => exact rfl); (case kK => assumption); (case k1 => k_asm); (case k2 => k_asm); (case k3 => k_asm); (case k4 => k_asm); (case k5 => k_asm); (case k6 => k_is); (case k7 => k_is); (case k8 => ktr_room); (case k9 => first | exact BindsTo.of_eq rfl | exact binds_K (by k_in) rfl (by k_is) rfl rfl rfl); (case c5 => decide); (case kB => exact locs rfl); (case c2 => exact rfl); (case c3 => exact rfl); (case c4 => exact rfl); k_whole; intro g' L' h' FG' F' N' B' X' T'; (try dsimp only); (try k_fold))))
local macro_rules | `(tactic| k_mem) => `(tactic| (show _ ∈ (_ : List (Addr × Obj)); ktr_member))
local macro_rules | `(tactic| tb_rel) => `(tactic| first | assumption | exact News.sub (by assumption) (fun q hq => by repeat (first | exact hq | refine List.mem_cons_of_mem _ ?_)))
local macro_rules | `(tactic| k_all) => `(tactic| assumption)
local macro_rules | `(tactic| tb_rel) => `(tactic| ((with_reducible show Keeps _ _); (repeat (first | with_reducible assumption | with_reducible exact Keeps.refl _ | with_reducible refine Keeps.cons ?_ | with_reducible refine Keeps.trans' (by assumption) ?_)); done))
local macro_rules | `(tactic| tb_rel) => `(tactic| ((with_reducible show RdW _ _ _ _ _ _ _ _); first | assumption | exact RdW.mono (by assumption) (fun q hq => by repeat (first | exact hq | refine List.mem_cons_of_mem _ ?_))))
local macro_rules | `(tactic| kfm_turns) => `(tactic| ((case B => k_asm); (case F => k_asm); (case X => k_asm); (case N => k_asm); (case T => k_asm); (case hk => exact rfl); (case hd => ktr_room); (case hu => ktr_units)))
local macro_rules | `(tactic| kpc_turns) => `(tactic| (intro l9 h9 tk9 F9 N9 K9 W9; (refine RdW.cps4 W9 ?_); intro hr9 x1 x2 x3 x4 hd9 n9 hT9 ht9))
local macro_rules | `(tactic| kqd_sub) => `(tactic| ((try dsimp only); (try k_fold)))
local macro_rules | `(tactic| walk_at "t9") => `(tactic| first | (k_here; (with_reducible show wpAny _ _ (call (Value.builtin _) [Value.ref _]) _ _ _); k_dflt (refine' len_mem ?k1 ?k2 ?k3 ?_; (case k1 => k_asm); (case k2 => k_mem); (case k3 => first | omega | (simp only [List.size_toArray, List.length_map]; omega)); k_whole)) | (k_unfold; (try dsimp only)) | (k_end; kc_close) | walk1 | (dsimp only; walk1) | (leave1; (try dsimp only)))
variable {w : World} {p : Program} {loose : List Str} {mean : ExcName → Option Value} {mg mb : Str → Option Value} {hdl : Option Value} {dp un : Nat} {gd : Option (List Code)} {cn : Str} {cs : Scope} {a : Addr} {ccd : Value} {cl : List (Str × Addr)} {outer : List Env} {A₀ : Around} {base h₀ : Heap} {L : Addr} {m : Str → Option Value} {news : List (Addr × Obj)} {s : Shared} {Q E : Value → Shared → Prop}
  (B : Below A₀ base outer h₀) (F : Fr h₀ L s.heap m) (X : (KW w.params).In h₀) (N : News h₀ L s.heap news) (Tp : Top p loose mean mg mb h₀) (hk : cs.kind = .function)
section
include B F X N Tp hk in
theorem peek_spec {r dx T nd : Addr} {toks : List Tk} {i k : Int} {tk : Tok}
    (W : RdW w.params news r dx T nd toks i) (hk0 : 0 ≤ k) (hk1 : k ≤ 50)  (hdp : dp ≤ 600) (hun : un ≤ 5000)
    (ret0 : tkAt toks i k = none → ∀ h' tk', Fr h₀ L h' m → News h₀ L h' news → Q .none { s with heap := h', toks := tk' })
    (ret1 : ∀ t, tkAt toks i k = some t → TkIn w.params news t → ∀ h' tk', Fr h₀ L h' m → News h₀ L h' news → Q (.ref t.a) { s with heap := h', toks := tk' }) :
    wpAny (model pw w) (top9 hdl dp un gd cn cs L a ccd cl outer) (call (.ref (nat_lit 328)) [.ref r, .int k tk]) Q E s := by
  have ret : ∀ h' tk', Fr h₀ L h' m → News h₀ L h' news → Q (tkVal (tkAt toks i k)) { s with heap := h', toks := tk' } := fun h' tk' F' N' => tk_split (C := fun v => Q v { s with heap := h', toks := tk' }) W.ht (fun e => ret0 e h' tk' F' N') (fun t e z => ret1 t e z h' tk' F' N')
  clear ret0 ret1
  tb_start
  refine RdW.cps W ?_
  intro hr t1 t2 t3 t4 hd nT hT ht h0 h1 hl
  ktr_enter
  with_reducible rename Fr _ _ _ (fun y => List.lookup y _) => F2
  replace F2 : Fr _ _ _ (fun y => List.lookup y [(Str.ofString "ahead", .int k tk), (Str.ofString "self", .ref r)]) := F2
  (try (generalize s.toks + List.length _ = tk0))
  repeat' (first
    | (k_here; (with_reducible show wpAny _ _ (subscriptTail _ _ (Value.ref _) (Value.int (_ + _) _)) _ _ _); k_dflt (refine' item_tok ?k1 ?k2 ?k3 ?k4 ?k5 ?_ ?k6 ?k7; (case k6 => with_unfolding_all rfl); (case k7 => intro _; with_unfolding_all rfl); (case k1 => k_asm); (case k2 => k_mem); (case k3 => omega); (case k4 => assumption); (case k5 => assumption); k_whole; intro t' ht' et'))
    | walk_at "t9")
  · rename tkAt toks i k = some _ => e9
    rw [e9] at ret
    exact ret _ _ (by assumption) (by assumption)
  · have e9 := tkAt_out (toks := toks) (i := i) (k := k) (by assumption)
    rw [e9] at ret
    exact ret _ _ (by assumption) (by assumption)
include B F X N Tp hk in
theorem peek0_spec {r dx T nd : Addr} {toks : List Tk} {i : Int}
    (W : RdW w.params news r dx T nd toks i)  (hdp : dp ≤ 600) (hun : un ≤ 5000)
    (ret0 : tkAt toks i 0 = none → ∀ h' tk', Fr h₀ L h' m → News h₀ L h' news → Q .none { s with heap := h', toks := tk' })
    (ret1 : ∀ t, tkAt toks i 0 = some t → TkIn w.params news t → ∀ h' tk', Fr h₀ L h' m → News h₀ L h' news → Q (.ref t.a) { s with heap := h', toks := tk' }) :
    wpAny (model pw w) (top9 hdl dp un gd cn cs L a ccd cl outer) (call (.ref (nat_lit 328)) [.ref r]) Q E s := by
  have ret : ∀ h' tk', Fr h₀ L h' m → News h₀ L h' news → Q (tkVal (tkAt toks i 0)) { s with heap := h', toks := tk' } := fun h' tk' F' N' => tk_split (C := fun v => Q v { s with heap := h', toks := tk' }) W.ht (fun e => ret0 e h' tk' F' N') (fun t e z => ret1 t e z h' tk' F' N')
  clear ret0 ret1
  tb_start
  refine RdW.cps W ?_
  intro hr t1 t2 t3 t4 hd nT hT ht h0 h1 hl
  ktr_enter
  with_reducible rename Fr _ _ _ (fun y => List.lookup y _) => F2
  replace F2 : Fr _ _ _ (fun y => List.lookup y [(Str.ofString "ahead", .int 0 _), (Str.ofString "self", .ref r)]) := F2
  (try (generalize s.toks + List.length _ = tk0))
  repeat' (first
    | (k_here; (with_reducible show wpAny _ _ (subscriptTail _ _ (Value.ref _) (Value.int (_ + _) _)) _ _ _); k_dflt (refine' item_tok ?k1 ?k2 ?k3 ?k4 ?k5 ?_ ?k6 ?k7; (case k6 => with_unfolding_all rfl); (case k7 => intro _; with_unfolding_all rfl); (case k1 => k_asm); (case k2 => k_mem); (case k3 => omega); (case k4 => assumption); (case k5 => assumption); k_whole; intro t' ht' et'))
    | walk_at "t9")
  · rename tkAt toks i 0 = some _ => e9
    rw [e9] at ret
    exact ret _ _ (by assumption) (by assumption)
  · have e9 := tkAt_out (toks := toks) (i := i) (k := 0) (by assumption)
    rw [e9] at ret
    exact ret _ _ (by assumption) (by assumption)

end
section
include B F X N Tp hk in
theorem kind_spec {r dx T nd : Addr} {toks : List Tk} {i k : Int} {tk1 tk : Tok} {kd : Str} {b : Bool}
    (W : RdW w.params news r dx T nd toks i) (hk0 : 0 ≤ k) (hk1 : k ≤ 50) (hb : isKind toks i k kd = b) (hdp : dp ≤ 590) (hun : un ≤ 4800)
    (ret : ∀ h' tk', Fr h₀ L h' m → News h₀ L h' news → Q (.bool b) { s with heap := h', toks := tk' }) :
    wpAny (model pw w) (top9 hdl dp un gd cn cs L a ccd cl outer) (call (.ref (nat_lit 357)) [.ref r, .str kd tk1, .int k tk]) Q E s := by
  replace ret : ∀ v h' tk', Fr h₀ L h' m → News h₀ L h' news → v = .bool (isKind toks i k kd) → Q v { s with heap := h', toks := tk' } := fun v h' tk' F' N' e => by subst e; subst hb; exact ret h' tk' F' N'
  clear hb
  tb_start
  refine RdW.cps W ?_
  intro hr t1 t2 t3 t4 hd nT hT ht h0 h1 hl
  ktr_enter
  with_reducible rename Fr _ _ _ (fun y => List.lookup y _) => F2
  replace F2 : Fr _ _ _ (fun y => List.lookup y [(Str.ofString "ahead", .int k tk), (Str.ofString "kind", .str kd tk1), (Str.ofString "self", .ref r)]) := F2
  (try (generalize s.toks + List.length _ = tk0))
  repeat' (first
    | ((with_reducible show wpAny _ _ (call (Value.ref (nat_lit 328)) _) _ _ _); (first | (refine' peek0_spec ?B ?F ?X ?N ?T ?hk ?x0 ?hd ?hu ?_ ?_; kfm_turns; (case x0 => tb_rel)) | (refine' peek_spec ?B ?F ?X ?N ?T ?hk ?x0 ?x1 ?x2 ?hd ?hu ?_ ?_; kfm_turns; (case x0 => tb_rel); (case x1 => omega); (case x2 => omega))); all_goals (first | ((with_reducible show tkAt _ _ _ = none → _); intro en9; first | exact (kind_some (by assumption) en9).elim | exact (nomatch (en9.symm.trans (by assumption : tkAt _ _ _ = some _))) | (intro h9 tk9 F9 N9; kqd_sub)) | (intro t9 es9 z9 h9 tk9 F9 N9; (refine TkIn.cps z9 ?_); intro ha9 a1 a2 a3 a4 b1 b2 hd9 u1 u2 m9 hq9 hw9; kqd_sub)))
    | walk_at "t9")
  all_goals exact ret _ _ _ (by assumption) (by assumption) (by simp only [isKind, *])
include B F X N Tp hk in
theorem kind0_spec {r dx T nd : Addr} {toks : List Tk} {i : Int} {tk1 : Tok} {kd : Str} {b : Bool}
    (W : RdW w.params news r dx T nd toks i) (hb : isKind toks i 0 kd = b) (hdp : dp ≤ 590) (hun : un ≤ 4800)
    (ret : ∀ h' tk', Fr h₀ L h' m → News h₀ L h' news → Q (.bool b) { s with heap := h', toks := tk' }) :
    wpAny (model pw w) (top9 hdl dp un gd cn cs L a ccd cl outer) (call (.ref (nat_lit 357)) [.ref r, .str kd tk1]) Q E s := by
  replace ret : ∀ v h' tk', Fr h₀ L h' m → News h₀ L h' news → v = .bool (isKind toks i 0 kd) → Q v { s with heap := h', toks := tk' } := fun v h' tk' F' N' e => by subst e; subst hb; exact ret h' tk' F' N'
  clear hb
  tb_start
  refine RdW.cps W ?_
  intro hr t1 t2 t3 t4 hd nT hT ht h0 h1 hl
  ktr_enter
  with_reducible rename Fr _ _ _ (fun y => List.lookup y _) => F2
  replace F2 : Fr _ _ _ (fun y => List.lookup y [(Str.ofString "ahead", .int 0 _), (Str.ofString "kind", .str kd tk1), (Str.ofString "self", .ref r)]) := F2
  (try (generalize s.toks + List.length _ = tk0))
  repeat' (first
    | ((with_reducible show wpAny _ _ (call (Value.ref (nat_lit 328)) _) _ _ _); (first | (refine' peek0_spec ?B ?F ?X ?N ?T ?hk ?x0 ?hd ?hu ?_ ?_; kfm_turns; (case x0 => tb_rel)) | (refine' peek_spec ?B ?F ?X ?N ?T ?hk ?x0 ?x1 ?x2 ?hd ?hu ?_ ?_; kfm_turns; (case x0 => tb_rel); (case x1 => omega); (case x2 => omega))); all_goals (first | ((with_reducible show tkAt _ _ _ = none → _); intro en9; first | exact (kind_some (by assumption) en9).elim | exact (nomatch (en9.symm.trans (by assumption : tkAt _ _ _ = some _))) | (intro h9 tk9 F9 N9; kqd_sub)) | (intro t9 es9 z9 h9 tk9 F9 N9; (refine TkIn.cps z9 ?_); intro ha9 a1 a2 a3 a4 b1 b2 hd9 u1 u2 m9 hq9 hw9; kqd_sub)))
    | walk_at "t9")
  all_goals exact ret _ _ _ (by assumption) (by assumption) (by simp only [isKind, *])

end
section
include B F X N Tp hk in
theorem sign0_spec {r dx T nd : Addr} {toks : List Tk} {i : Int} {tk1 : Tok} {sg : Str} {b : Bool}
    (W : RdW w.params news r dx T nd toks i) (hb : isTok toks i 0 (Str.ofString "sign") sg = b) (hdp : dp ≤ 580) (hun : un ≤ 4600)
    (ret : ∀ h' tk', Fr h₀ L h' m → News h₀ L h' news → Q (.bool b) { s with heap := h', toks := tk' }) :
    wpAny (model pw w) (top9 hdl dp un gd cn cs L a ccd cl outer) (call (.ref (nat_lit 422)) [.ref r, .str sg tk1]) Q E s := by
  replace ret : ∀ v h' tk', Fr h₀ L h' m → News h₀ L h' news → v = .bool (isTok toks i 0 (Str.ofString "sign") sg) → Q v { s with heap := h', toks := tk' } := fun v h' tk' F' N' e => by subst e; subst hb; exact ret h' tk' F' N'
  clear hb
  tb_start
  refine RdW.cps W ?_
  intro hr t1 t2 t3 t4 hd nT hT ht h0 h1 hl
  ktr_enter
  with_reducible rename Fr _ _ _ (fun y => List.lookup y _) => F2
  replace F2 : Fr _ _ _ (fun y => List.lookup y [(Str.ofString "ahead", .int 0 _), (Str.ofString "sign", .str sg tk1), (Str.ofString "self", .ref r)]) := F2
  (try (generalize s.toks + List.length _ = tk0))
  repeat' (first
    | ((with_reducible show wpAny _ _ (call (Value.ref (nat_lit 328)) _) _ _ _); (first | (refine' peek0_spec ?B ?F ?X ?N ?T ?hk ?x0 ?hd ?hu ?_ ?_; kfm_turns; (case x0 => tb_rel)) | (refine' peek_spec ?B ?F ?X ?N ?T ?hk ?x0 ?x1 ?x2 ?hd ?hu ?_ ?_; kfm_turns; (case x0 => tb_rel); (case x1 => omega); (case x2 => omega))); all_goals (first | ((with_reducible show tkAt _ _ _ = none → _); intro en9; first | exact (kind_some (by assumption) en9).elim | exact (nomatch (en9.symm.trans (by assumption : tkAt _ _ _ = some _))) | (intro h9 tk9 F9 N9; kqd_sub)) | (intro t9 es9 z9 h9 tk9 F9 N9; (refine TkIn.cps z9 ?_); intro ha9 a1 a2 a3 a4 b1 b2 hd9 u1 u2 m9 hq9 hw9; kqd_sub)))
    | ((with_reducible show wpAny _ _ (call (Value.ref (nat_lit 357)) _) _ _ _); (first | (refine' kind0_spec ?B ?F ?X ?N ?T ?hk ?x0 ?x1 ?hd ?hu ?_; kfm_turns; (case x0 => tb_rel); (case x1 => first | assumption | exact rfl); k_whole) | (refine' kind_spec ?B ?F ?X ?N ?T ?hk ?x0 ?x1 ?x2 ?x3 ?hd ?hu ?_; kfm_turns; (case x0 => tb_rel); (case x1 => omega); (case x2 => omega); (case x3 => first | assumption | exact rfl); k_whole)); intro h9 tk9 F9 N9; kqd_sub)
    | walk_at "t9")
  all_goals first | exact ret _ _ _ (by assumption) (by assumption) (isTok_some (by assumption) (by assumption)) | exact ret _ _ _ (by assumption) (by assumption) (isTok_no (by assumption))

end
section
include B F X N Tp hk in
theorem number_spec {r dx T nd : Addr} {toks : List Tk} {i : Int}
    (W : RdW w.params news r dx T nd toks i) (hs : isTok toks i 0 (Str.ofString "sign") (Str.ofString "+") = false) (hs2 : isTok toks i 0 (Str.ofString "sign") (Str.ofString "-") = false) (hn : isKind toks i 0 (Str.ofString "number") = false) (hdp : dp ≤ 570) (hun : un ≤ 4400)
    (ret : ∀ h' tk', Fr h₀ L h' m → News h₀ L h' news → Q (.bool false) { s with heap := h', toks := tk' }) :
    wpAny (model pw w) (top9 hdl dp un gd cn cs L a ccd cl outer) (call (.ref (nat_lit 443)) [.ref r]) Q E s := by
  tb_start
  refine RdW.cps W ?_
  intro hr t1 t2 t3 t4 hd nT hT ht h0 h1 hl
  ktr_enter
  with_reducible rename Fr _ _ _ (fun y => List.lookup y _) => F2
  replace F2 : Fr _ _ _ (fun y => List.lookup y [(Str.ofString "self", .ref r)]) := F2
  (try (generalize s.toks + List.length _ = tk0))
  repeat' (first
    | ((with_reducible show wpAny _ _ (call (Value.ref (nat_lit 328)) _) _ _ _); (first | (refine' peek0_spec ?B ?F ?X ?N ?T ?hk ?x0 ?hd ?hu ?_ ?_; kfm_turns; (case x0 => tb_rel)) | (refine' peek_spec ?B ?F ?X ?N ?T ?hk ?x0 ?x1 ?x2 ?hd ?hu ?_ ?_; kfm_turns; (case x0 => tb_rel); (case x1 => omega); (case x2 => omega))); all_goals (first | ((with_reducible show tkAt _ _ _ = none → _); intro en9; first | exact (kind_some (by assumption) en9).elim | exact (nomatch (en9.symm.trans (by assumption : tkAt _ _ _ = some _))) | (intro h9 tk9 F9 N9; kqd_sub)) | (intro t9 es9 z9 h9 tk9 F9 N9; (refine TkIn.cps z9 ?_); intro ha9 a1 a2 a3 a4 b1 b2 hd9 u1 u2 m9 hq9 hw9; kqd_sub)))
    | ((with_reducible show wpAny _ _ (call (Value.ref (nat_lit 357)) _) _ _ _); (first | (refine' kind0_spec ?B ?F ?X ?N ?T ?hk ?x0 ?x1 ?hd ?hu ?_; kfm_turns; (case x0 => tb_rel); (case x1 => first | assumption | exact rfl); k_whole) | (refine' kind_spec ?B ?F ?X ?N ?T ?hk ?x0 ?x1 ?x2 ?x3 ?hd ?hu ?_; kfm_turns; (case x0 => tb_rel); (case x1 => omega); (case x2 => omega); (case x3 => first | assumption | exact rfl); k_whole)); intro h9 tk9 F9 N9; kqd_sub)
    | ((with_reducible show wpAny _ _ (call (Value.ref (nat_lit 422)) _) _ _ _); (refine' sign0_spec ?B ?F ?X ?N ?T ?hk ?x0 ?x1 ?hd ?hu ?_; kfm_turns; (case x0 => tb_rel); (case x1 => first | assumption | exact rfl); k_whole); intro h9 tk9 F9 N9; kqd_sub)
    | (k_here; (with_reducible show wpAny _ _ (call (Value.builtin "str.split") _) _ _ _); (refine KSpl.split1 (by k_asm) (by k_asm) (by decide) ?_ (by rw [sizeLine_eq]; omega)); intro D' l' h' k' e' a' F' N' l1; (try k_lt l1); (rw [(by assumption : Txt.split _ _ = _)] at e'); (kspl_open e'); (simp only [strValues, List.map_cons, List.map_nil] at N' a'))
    | (k_here; (with_reducible show wpAny _ _ (pyIter (Value.ref _)) (fun it s₂ => LoopAtV _ _ _ _ _ _ _ _ _ it s₂) _ _); (rename Fr _ _ _ _ => lF'); (rename News _ _ _ _ => lN'); (with_unfolding_all refine' iter_listUnr ?hh lF' lN' ?hm ?hc ?hd ?_; (case hh => exact rfl); (case hm => k_mem); (case hc => exact rfl); (case hd => exact rfl); k_whole); clear lF'; intro i' lI')
    | (refine UnrEnd.intro (by k_asm) (by k_asm) _ (fun p hp => hp) (fun p hp => Nat.ne_of_lt ((by assumption : ∀ p ∈ _, p.1 < _) p hp)) ⟨by k_mem, ?_⟩)
    | walk_at "t9")
  exact ret _ _ (by assumption) (by assumption)
include B F X N Tp hk in
theorem word_spec {r dx T nd : Addr} {toks : List Tk} {i : Int} {wd : Str} {tk : Tok} {b : Bool}
    (W : RdW w.params news r dx T nd toks i) (hw : Txt.split wd (Str.ofString " ") = [wd]) (hwl : wd.length ≤ 100) (hb : isTok toks i 0 (Str.ofString "word") wd = b) (hdp : dp ≤ 570) (hun : un ≤ 4400)
    (ret : ∀ h' tk', Fr h₀ L h' m → News h₀ L h' news → Q (.bool b) { s with heap := h', toks := tk' }) :
    wpAny (model pw w) (top9 none dp un gd cn cs L a ccd cl outer) (call (.ref (nat_lit 364)) [.ref r, .str wd tk]) Q E s := by
  replace ret : ∀ v h' tk', Fr h₀ L h' m → News h₀ L h' news → v = .bool (isTok toks i 0 (Str.ofString "word") wd) → Q v { s with heap := h', toks := tk' } := fun v h' tk' F' N' e => by subst e; subst hb; exact ret h' tk' F' N'
  clear hb
  tb_start
  refine RdW.cps W ?_
  intro hr t1 t2 t3 t4 hd nT hT ht h0 h1 hl
  ktr_enter
  with_reducible rename Fr _ _ _ (fun y => List.lookup y _) => F2
  replace F2 : Fr _ _ _ (fun y => List.lookup y [(Str.ofString "words", .str wd tk), (Str.ofString "self", .ref r)]) := F2
  (try (generalize s.toks + List.length _ = tk0))
  repeat' (first
    | ((with_reducible show wpAny _ _ (call (Value.ref (nat_lit 328)) _) _ _ _); (first | (refine' peek0_spec ?B ?F ?X ?N ?T ?hk ?x0 ?hd ?hu ?_ ?_; kfm_turns; (case x0 => tb_rel)) | (refine' peek_spec ?B ?F ?X ?N ?T ?hk ?x0 ?x1 ?x2 ?hd ?hu ?_ ?_; kfm_turns; (case x0 => tb_rel); (case x1 => omega); (case x2 => omega))); all_goals (first | ((with_reducible show tkAt _ _ _ = none → _); intro en9; first | exact (kind_some (by assumption) en9).elim | exact (nomatch (en9.symm.trans (by assumption : tkAt _ _ _ = some _))) | (intro h9 tk9 F9 N9; kqd_sub)) | (intro t9 es9 z9 h9 tk9 F9 N9; (refine TkIn.cps z9 ?_); intro ha9 a1 a2 a3 a4 b1 b2 hd9 u1 u2 m9 hq9 hw9; kqd_sub)))
    | ((with_reducible show wpAny _ _ (call (Value.ref (nat_lit 357)) _) _ _ _); (first | (refine' kind0_spec ?B ?F ?X ?N ?T ?hk ?x0 ?x1 ?hd ?hu ?_; kfm_turns; (case x0 => tb_rel); (case x1 => first | assumption | exact rfl); k_whole) | (refine' kind_spec ?B ?F ?X ?N ?T ?hk ?x0 ?x1 ?x2 ?x3 ?hd ?hu ?_; kfm_turns; (case x0 => tb_rel); (case x1 => omega); (case x2 => omega); (case x3 => first | assumption | exact rfl); k_whole)); intro h9 tk9 F9 N9; kqd_sub)
    | ((with_reducible show wpAny _ _ (call (Value.ref (nat_lit 422)) _) _ _ _); (refine' sign0_spec ?B ?F ?X ?N ?T ?hk ?x0 ?x1 ?hd ?hu ?_; kfm_turns; (case x0 => tb_rel); (case x1 => first | assumption | exact rfl); k_whole); intro h9 tk9 F9 N9; kqd_sub)
    | (k_here; (with_reducible show wpAny _ _ (call (Value.builtin "str.split") _) _ _ _); (refine KSpl.split1 (by k_asm) (by k_asm) (by decide) ?_ (by rw [sizeLine_eq]; omega)); intro D' l' h' k' e' a' F' N' l1; (try k_lt l1); (rw [(by assumption : Txt.split _ _ = _)] at e'); (kspl_open e'); (simp only [strValues, List.map_cons, List.map_nil] at N' a'))
    | (k_here; (with_reducible show wpAny _ _ (pyIter (Value.ref _)) (fun it s₂ => LoopAtV _ _ _ _ _ _ _ _ _ it s₂) _ _); (rename Fr _ _ _ _ => lF'); (rename News _ _ _ _ => lN'); (with_unfolding_all refine' iter_listUnr ?hh lF' lN' ?hm ?hc ?hd ?_; (case hh => exact rfl); (case hm => k_mem); (case hc => exact rfl); (case hd => exact rfl); k_whole); clear lF'; intro i' lI')
    | (refine UnrEnd.intro (by k_asm) (by k_asm) _ (fun p hp => hp) (fun p hp => Nat.ne_of_lt ((by assumption : ∀ p ∈ _, p.1 < _) p hp)) ⟨by k_mem, ?_⟩)
    | walk_at "t9")
  all_goals exact ret _ _ _ (by assumption) (by tb_rel) (by first | (rw [isTok_no' (by assumption)]) | (rw [isTok_eq (by assumption) (by assumption)]; simp_all))

end
section
include B F X N Tp hk in
theorem skip_spec {r dx T nd : Addr} {toks : List Tk} {i : Int} {wd : Str} {tk : Tok}
    (W : RdW w.params news r dx T nd toks i) (hw : Txt.split wd (Str.ofString " ") = [wd]) (hwl : wd.length ≤ 100) (hdp : dp ≤ 560) (hun : un ≤ 4200)
    (ret1 : isTok toks i 0 (Str.ofString "word") wd = true → ∀ news' h' tk', Fr h₀ L h' m → News h₀ L h' news' → Keeps news news' → RdW w.params news' r dx T nd toks (i + 1) → Q (.bool true) { s with heap := h', toks := tk' })
    (ret0 : isTok toks i 0 (Str.ofString "word") wd = false → ∀ h' tk', Fr h₀ L h' m → News h₀ L h' news → Q (.bool false) { s with heap := h', toks := tk' }) :
    wpAny (model pw w) (top9 none dp un gd cn cs L a ccd cl outer) (call (.ref (nat_lit 371)) [.ref r, .str wd tk]) Q E s := by
  tb_start
  refine RdW.frontC W N ?_
  intro z1 z2 z3 z4 rest N2 hap hsub W2 hup
  refine RdW.cpsN W2 ?_
  intro hr nT hT ht h0 h1 hl
  ktr_enter
  with_reducible rename Fr _ _ _ (fun y => List.lookup y _) => F2
  replace F2 : Fr _ _ _ (fun y => List.lookup y [(Str.ofString "words", .str wd tk), (Str.ofString "self", .ref r)]) := F2
  (try (generalize s.toks + List.length _ = tk0))
  repeat' (first
    | ((with_reducible show wpAny _ _ (call (Value.ref (nat_lit 364)) _) _ _ _); (refine' word_spec ?B ?F ?X ?N ?T ?hk ?x0 ?x1 ?x2 ?x3 ?hd ?hu ?_; kfm_turns; (case x0 => tb_rel); (case x1 => first | assumption | decide +kernel); (case x2 => first | assumption | decide +kernel); (case x3 => first | assumption | exact rfl); k_whole); intro h9 tk9 F9 N9; kqd_sub)
    | (k_here; (with_reducible show wpAny _ _ (call (Value.builtin "str.split") _) _ _ _); (refine KSpl.split1 (by k_asm) (by k_asm) (by decide) ?_ (by rw [sizeLine_eq]; omega)); intro D' l' h' k' e' a' F' N' l1; (try k_lt l1); (rw [(by assumption : Txt.split _ _ = _)] at e'); (kspl_open e'); (simp only [strValues, List.map_cons, List.map_nil] at N' a'))
    | walk_at "t9")

  · exact ret1 (by assumption) _ _ _ (by assumption) (News.sub (by assumption) fun q hq => List.mem_cons_of_mem _ hq) (keeps_up hup) (W2.upd (by omega) (by have := isTok_lt (by assumption : isTok toks i 0 _ _ = true); omega))
  · exact ret0 (by assumption) _ _ (by assumption) (News.sub (by assumption) hup)

end
section
include B F X N Tp hk in
theorem take_spec {r dx T nd : Addr} {toks : List Tk} {i : Int} {t : Tk}
    (W : RdW w.params news r dx T nd toks i) (ht9 : tkAt toks i 0 = some t) (hdp : dp ≤ 560) (hun : un ≤ 4200)
    (ret : ∀ news' h' tk', Fr h₀ L h' m → News h₀ L h' news' → Keeps news news' → RdW w.params news' r dx T nd toks (i + 1) → Q (.ref t.a) { s with heap := h', toks := tk' }) :
    wpAny (model pw w) (top9 hdl dp un gd cn cs L a ccd cl outer) (call (.ref (nat_lit 349)) [.ref r]) Q E s := by
  tb_start
  refine RdW.frontC W N ?_
  intro z1 z2 z3 z4 rest N2 hap hsub W2 hup
  refine RdW.cpsN W2 ?_
  intro hr nT hT ht h0 h1 hl
  have hlt := tkAt_lt ht9
  ktr_enter
  with_reducible rename Fr _ _ _ (fun y => List.lookup y _) => F2
  replace F2 : Fr _ _ _ (fun y => List.lookup y [(Str.ofString "self", .ref r)]) := F2
  (try (generalize s.toks + List.length _ = tk0))
  repeat' (first
    | ((with_reducible show wpAny _ _ (call (Value.ref (nat_lit 328)) _) _ _ _); (first | (refine' peek0_spec ?B ?F ?X ?N ?T ?hk ?x0 ?hd ?hu ?_ ?_; kfm_turns; (case x0 => tb_rel)) | (refine' peek_spec ?B ?F ?X ?N ?T ?hk ?x0 ?x1 ?x2 ?hd ?hu ?_ ?_; kfm_turns; (case x0 => tb_rel); (case x1 => omega); (case x2 => omega))); all_goals (first | ((with_reducible show tkAt _ _ _ = none → _); intro en9; first | exact (kind_some (by assumption) en9).elim | exact (nomatch (en9.symm.trans (by assumption : tkAt _ _ _ = some _))) | (intro h9 tk9 F9 N9; kqd_sub)) | (intro t9 es9 z9 h9 tk9 F9 N9; (refine TkIn.cps z9 ?_); intro ha9 a1 a2 a3 a4 b1 b2 hd9 u1 u2 m9 hq9 hw9; kqd_sub)))
    | ((with_reducible show wpAny _ _ (call (Value.ref (nat_lit 371)) _) _ _ _); (refine' skip_spec ?B ?F ?X ?N ?T ?hk ?x0 ?x1 ?x2 ?hd ?hu ?_ ?_; kfm_turns; (case x0 => tb_rel); (case x1 => first | assumption | decide +kernel); (case x2 => first | assumption | decide +kernel)); (all_goals (intro e9; (first | exact (Bool.false_ne_true (Eq.trans (Eq.symm e9) (by assumption))).elim | exact (Bool.false_ne_true (Eq.trans (Eq.symm (by assumption)) e9)).elim | ((have := (e9 : _ = false)); (clear this); intro h9 tk9 F9 N9; kqd_sub) | ((have := (e9 : _ = true)); (clear this); kpc_turns; kqd_sub)))))
    | walk_at "t9")
  rename tkAt toks i 0 = some _ => et
  rw [ht9] at et
  injection et with et
  rw [← et]
  exact ret _ _ _ (by assumption) (by assumption) (keeps_up hup) (W2.upd (by omega) (by omega))
include B F X N Tp hk in
theorem need_spec {r dx T nd : Addr} {toks : List Tk} {i : Int} {wd : Str} {tk : Tok}
    (W : RdW w.params news r dx T nd toks i) (hw : Txt.split wd (Str.ofString " ") = [wd]) (hwl : wd.length ≤ 100) (hi : isTok toks i 0 (Str.ofString "word") wd = true) (hdp : dp ≤ 550) (hun : un ≤ 4000)
    (ret : ∀ news' h' tk', Fr h₀ L h' m → News h₀ L h' news' → Keeps news news' → RdW w.params news' r dx T nd toks (i + 1) → Q .none { s with heap := h', toks := tk' }) :
    wpAny (model pw w) (top9 none dp un gd cn cs L a ccd cl outer) (call (.ref (nat_lit 378)) [.ref r, .str wd tk]) Q E s := by
  tb_start
  refine RdW.cps W ?_
  intro hr t1 t2 t3 t4 hd nT hT ht h0 h1 hl
  ktr_enter
  with_reducible rename Fr _ _ _ (fun y => List.lookup y _) => F2
  replace F2 : Fr _ _ _ (fun y => List.lookup y [(Str.ofString "words", .str wd tk), (Str.ofString "self", .ref r)]) := F2
  (try (generalize s.toks + List.length _ = tk0))
  repeat' (first
    | ((with_reducible show wpAny _ _ (call (Value.ref (nat_lit 328)) _) _ _ _); (first | (refine' peek0_spec ?B ?F ?X ?N ?T ?hk ?x0 ?hd ?hu ?_ ?_; kfm_turns; (case x0 => tb_rel)) | (refine' peek_spec ?B ?F ?X ?N ?T ?hk ?x0 ?x1 ?x2 ?hd ?hu ?_ ?_; kfm_turns; (case x0 => tb_rel); (case x1 => omega); (case x2 => omega))); all_goals (first | ((with_reducible show tkAt _ _ _ = none → _); intro en9; first | exact (kind_some (by assumption) en9).elim | exact (nomatch (en9.symm.trans (by assumption : tkAt _ _ _ = some _))) | (intro h9 tk9 F9 N9; kqd_sub)) | (intro t9 es9 z9 h9 tk9 F9 N9; (refine TkIn.cps z9 ?_); intro ha9 a1 a2 a3 a4 b1 b2 hd9 u1 u2 m9 hq9 hw9; kqd_sub)))
    | ((with_reducible show wpAny _ _ (call (Value.ref (nat_lit 371)) _) _ _ _); (refine' skip_spec ?B ?F ?X ?N ?T ?hk ?x0 ?x1 ?x2 ?hd ?hu ?_ ?_; kfm_turns; (case x0 => tb_rel); (case x1 => first | assumption | decide +kernel); (case x2 => first | assumption | decide +kernel)); (all_goals (intro e9; (first | exact (Bool.false_ne_true (Eq.trans (Eq.symm e9) (by assumption))).elim | exact (Bool.false_ne_true (Eq.trans (Eq.symm (by assumption)) e9)).elim | ((have := (e9 : _ = false)); (clear this); intro h9 tk9 F9 N9; kqd_sub) | ((have := (e9 : _ = true)); (clear this); kpc_turns; kqd_sub)))))
    | walk_at "t9")
  exact ret _ _ _ (by assumption) (by assumption) (by assumption) (by assumption)

end
section
include B F X N Tp hk in
theorem oneof_spec {r dx T nd : Addr} {toks : List Tk} {i : Int} {tk : Tok}
    (W : RdW w.params news r dx T nd toks i) (hin : isTok toks i 0 (Str.ofString "word") (Str.ofString "IN") = false) (hdp : dp ≤ 550) (hun : un ≤ 4000)
    (ret1 : isTok toks i 0 (Str.ofString "word") (Str.ofString "OF") = true → ∀ tv news' h' tk', Fr h₀ L h' m → News h₀ L h' news' → Keeps news news' → RdW w.params news' r dx T nd toks (i + 1) → Q (.str (Str.ofString "OF") tv) { s with heap := h', toks := tk' })
    (ret0 : isTok toks i 0 (Str.ofString "word") (Str.ofString "OF") = false → ∀ tv h' tk', Fr h₀ L h' m → News h₀ L h' news → Q (.str (Str.ofString "") tv) { s with heap := h', toks := tk' }) :
    wpAny (model pw w) (top9 none dp un gd cn cs L a ccd cl outer) (call (.ref (nat_lit 385)) [.ref r, .str (Str.ofString "OF IN") tk]) Q E s := by
  tb_start
  refine RdW.cps W ?_
  intro hr t1 t2 t3 t4 hd nT hT ht h0 h1 hl
  have hsp : Txt.split (Str.ofString "OF IN") (Str.ofString " ") = [Str.ofString "OF", Str.ofString "IN"] := by decide +kernel
  ktr_enter
  with_reducible rename Fr _ _ _ (fun y => List.lookup y _) => F2
  replace F2 : Fr _ _ _ (fun y => List.lookup y [(Str.ofString "words", .str (Str.ofString "OF IN") tk), (Str.ofString "self", .ref r)]) := F2
  (try (generalize s.toks + List.length _ = tk0))
  repeat' (first
    | ((with_reducible show wpAny _ _ (call (Value.ref (nat_lit 371)) _) _ _ _); (refine' skip_spec ?B ?F ?X ?N ?T ?hk ?x0 ?x1 ?x2 ?hd ?hu ?_ ?_; kfm_turns; (case x0 => tb_rel); (case x1 => first | assumption | decide +kernel); (case x2 => first | assumption | decide +kernel)); (all_goals (intro e9; (first | exact (Bool.false_ne_true (Eq.trans (Eq.symm e9) (by assumption))).elim | exact (Bool.false_ne_true (Eq.trans (Eq.symm (by assumption)) e9)).elim | ((have := (e9 : _ = false)); (clear this); intro h9 tk9 F9 N9; kqd_sub) | ((have := (e9 : _ = true)); (clear this); kpc_turns; kqd_sub)))))
    | (k_here; (with_reducible show wpAny _ _ (call (Value.builtin "str.split") _) _ _ _); (refine KSpl.split1 (by k_asm) (by k_asm) (by decide) ?_ (by rw [sizeLine_eq]; omega)); intro D' l' h' k' e' a' F' N' l1; (try k_lt l1); (rw [(by assumption : Txt.split _ _ = _)] at e'); (kspl_open e'); (simp only [strValues, List.map_cons, List.map_nil] at N' a'))
    | (k_here; (with_reducible show wpAny _ _ (pyIter (Value.ref _)) (fun it s₂ => LoopAtV _ _ _ _ _ _ _ _ _ it s₂) _ _); (rename Fr _ _ _ _ => lF'); (rename News _ _ _ _ => lN'); (with_unfolding_all refine' iter_listUnr ?hh lF' lN' ?hm ?hc ?hd ?_; (case hh => exact rfl); (case hm => k_mem); (case hc => exact rfl); (case hd => exact rfl); k_whole); clear lF'; intro i' lI')
    | (refine UnrEnd.intro (by k_asm) (by k_asm) _ (fun p hp => hp) (fun p hp => Nat.ne_of_lt ((by assumption : ∀ p ∈ _, p.1 < _) p hp)) ⟨by k_mem, ?_⟩)
    | walk_at "t9")
  · exact ret1 (by assumption) _ _ _ _ (by assumption) (by assumption) (by tb_rel) (by assumption)
  · exact ret0 (by assumption) _ _ _ (by assumption) (by tb_rel)

end
section
def hasIn (y : List Nat) : List Nat → Bool
  | [] => y.isEmpty
  | c :: l => y.isPrefixOf (c :: l) || hasIn y l
theorem hasIn_iff (y : List Nat) : ∀ l : List Nat, hasIn y l = true ↔ ∃ i, y <+: l.drop i
  | [] => by
    simp only [hasIn, List.isEmpty_iff, List.drop_nil, List.prefix_nil, exists_const]
  | c :: l => by
    rw [hasIn, Bool.or_eq_true, hasIn_iff y l, List.isPrefixOf_iff_prefix]
    constructor
    · rintro (h | ⟨i, h⟩)
      · exact ⟨0, h⟩
      · exact ⟨i + 1, h⟩
    · rintro ⟨i, h⟩
      cases i with
      | zero => exact .inl h
      | succ i => exact .inr ⟨i, h⟩
theorem subAt_iff (x y : Str) (i : Nat) : (i + y.length ≤ x.length ∧ Builtin.Str.subAt x y i = true) ↔ i ≤ x.length ∧ y.cps.toList <+: x.cps.toList.drop i := by
  have hx : x.length = x.cps.toList.length := (Array.length_toList ..).symm
  have hy : y.length = y.cps.toList.length := (Array.length_toList ..).symm
  have e : Builtin.Str.subAt x y i = true ↔ (x.cps.toList.drop i).take y.cps.toList.length = y.cps.toList := by
    unfold Builtin.Str.subAt
    rw [beq_iff_eq, ← Array.toList_inj, Array.toList_extract, List.extract_eq_take_drop, hy, Nat.add_sub_cancel_left]
  rw [e, hx, hy, List.prefix_iff_eq_take]
  constructor
  · rintro ⟨h, q⟩
    exact ⟨by omega, q.symm⟩
  · rintro ⟨h, q⟩
    refine ⟨?_, q.symm⟩
    have := congrArg List.length q
    rw [List.length_take, List.length_drop] at this
    omega
theorem contains_eq (x y : Str) : (!(Builtin.Str.occurrences x y 0 x.length 1).isEmpty) = hasIn y.cps.toList x.cps.toList := by
  rw [Bool.eq_iff_iff, PySem.StrLaws.found_iff, hasIn_iff]
  constructor
  · rintro ⟨i, h⟩
    exact ⟨i, ((subAt_iff x y i).mp h).2⟩
  · rintro ⟨i, h⟩
    by_cases hi : i ≤ x.length
    · exact ⟨i, (subAt_iff x y i).mpr ⟨hi, h⟩⟩
    · refine ⟨x.length, (subAt_iff x y _).mpr ⟨Nat.le_refl _, ?_⟩⟩
      have hx : x.length = x.cps.toList.length := (Array.length_toList ..).symm
      rw [hx, List.drop_length]
      rw [List.drop_eq_nil_of_le (by omega)] at h
      exact h
def spaced (x : Str) : Str := Str.ofString " " ++ x ++ Str.ofString " "
def resv (x : Str) : Bool := hasIn (spaced x).cps.toList longText.cps.toList
set_option maxRecDepth 100000 in
set_option maxHeartbeats 4000000 in
theorem resv_X : (!resv (Str.ofString "X")) = true := by
  unfold resv
  rw [longP.2]
  kernel_rfl
set_option maxRecDepth 100000 in
set_option maxHeartbeats 4000000 in
theorem resv_R : (!resv (Str.ofString "R")) = true := by
  unfold resv
  rw [longP.2]
  kernel_rfl
set_option maxRecDepth 100000 in
set_option maxHeartbeats 4000000 in
theorem resv_fig : (["SPACES", "ZERO", "LOW-VALUES", "QUOTE"].all fun x => resv (Str.ofString x)) = true := by
  unfold resv
  rw [longP.2]
  kernel_rfl
include B F X N Tp hk in
theorem reserved_spec {wd : Str} {tk : Tok} {b : Bool}
    (hwl : wd.length ≤ 100) (hb : resv wd = b) (hdp : dp ≤ 590) (hun : un ≤ 4800)
    (ret : ∀ h' tk', Fr h₀ L h' m → News h₀ L h' news → Q (.bool b) { s with heap := h', toks := tk' }) :
    wpAny (model pw w) (top9 hdl dp un gd cn cs L a ccd cl outer) (call (.ref (nat_lit 300)) [.str wd tk]) Q E s := by
  replace ret : ∀ v h' tk', Fr h₀ L h' m → News h₀ L h' news → v = .bool (resv wd) → Q v { s with heap := h', toks := tk' } := fun v h' tk' F' N' e => by subst e; subst hb; exact ret h' tk' F' N'
  clear hb
  tb_start
  ktr_enter
  with_reducible rename Fr _ _ _ (fun y => List.lookup y _) => F2
  replace F2 : Fr _ _ _ (fun y => List.lookup y [(Str.ofString "word", .str wd tk)]) := F2
  (try (generalize s.toks + List.length _ = tk0))
  repeat' (first
    | walk_at "t9")
  exact ret _ _ _ (by assumption) (by tb_rel) (congrArg Value.bool (contains_eq longText (spaced wd)))

end
section
def isName (toks : List Tk) (i k : Int) : Bool := match tkAt toks i k with
  | some t => t.kind == Str.ofString "word" && !resv t.worth
  | none => false
theorem isName_eq {toks : List Tk} {i k : Int} {t : Tk} (h : isKind toks i k (Str.ofString "word") = true) (e : tkAt toks i k = some t) : isName toks i k = !resv t.worth := by
  unfold isKind at h
  unfold isName
  rw [e] at h ⊢
  dsimp only at h ⊢
  rw [h, Bool.true_and]
theorem isName_no {toks : List Tk} {i k : Int} (h : isKind toks i k (Str.ofString "word") = false) : isName toks i k = false := by
  unfold isKind at h
  unfold isName
  cases e : tkAt toks i k with
  | none => rfl
  | some t =>
    rw [e] at h
    dsimp only at h ⊢
    rw [h, Bool.false_and]
include B F X N Tp hk in
theorem isname_spec {r dx T nd : Addr} {toks : List Tk} {i : Int} {b : Bool}
    (W : RdW w.params news r dx T nd toks i) (hb : isName toks i 0 = b) (hdp : dp ≤ 580) (hun : un ≤ 4600)
    (ret : ∀ h' tk', Fr h₀ L h' m → News h₀ L h' news → Q (.bool b) { s with heap := h', toks := tk' }) :
    wpAny (model pw w) (top9 hdl dp un gd cn cs L a ccd cl outer) (call (.ref (nat_lit 400)) [.ref r]) Q E s := by
  replace ret : ∀ v h' tk', Fr h₀ L h' m → News h₀ L h' news → v = .bool (isName toks i 0) → Q v { s with heap := h', toks := tk' } := fun v h' tk' F' N' e => by subst e; subst hb; exact ret h' tk' F' N'
  clear hb
  tb_start
  refine RdW.cps W ?_
  intro hr t1 t2 t3 t4 hd nT hT ht h0 h1 hl
  ktr_enter
  with_reducible rename Fr _ _ _ (fun y => List.lookup y _) => F2
  replace F2 : Fr _ _ _ (fun y => List.lookup y [(Str.ofString "ahead", .int 0 _), (Str.ofString "self", .ref r)]) := F2
  (try (generalize s.toks + List.length _ = tk0))
  repeat' (first
    | ((with_reducible show wpAny _ _ (call (Value.ref (nat_lit 328)) _) _ _ _); (first | (refine' peek0_spec ?B ?F ?X ?N ?T ?hk ?x0 ?hd ?hu ?_ ?_; kfm_turns; (case x0 => tb_rel)) | (refine' peek_spec ?B ?F ?X ?N ?T ?hk ?x0 ?x1 ?x2 ?hd ?hu ?_ ?_; kfm_turns; (case x0 => tb_rel); (case x1 => omega); (case x2 => omega))); all_goals (first | ((with_reducible show tkAt _ _ _ = none → _); intro en9; first | exact (kind_some (by assumption) en9).elim | exact (nomatch (en9.symm.trans (by assumption : tkAt _ _ _ = some _))) | (intro h9 tk9 F9 N9; kqd_sub)) | (intro t9 es9 z9 h9 tk9 F9 N9; (refine TkIn.cps z9 ?_); intro ha9 a1 a2 a3 a4 b1 b2 hd9 u1 u2 m9 hq9 hw9; kqd_sub)))
    | ((with_reducible show wpAny _ _ (call (Value.ref (nat_lit 357)) _) _ _ _); (first | (refine' kind0_spec ?B ?F ?X ?N ?T ?hk ?x0 ?x1 ?hd ?hu ?_; kfm_turns; (case x0 => tb_rel); (case x1 => first | assumption | exact rfl); k_whole) | (refine' kind_spec ?B ?F ?X ?N ?T ?hk ?x0 ?x1 ?x2 ?x3 ?hd ?hu ?_; kfm_turns; (case x0 => tb_rel); (case x1 => omega); (case x2 => omega); (case x3 => first | assumption | exact rfl); k_whole)); intro h9 tk9 F9 N9; kqd_sub)
    | ((with_reducible show wpAny _ _ (call (Value.ref (nat_lit 300)) _) _ _ _); (refine' reserved_spec ?B ?F ?X ?N ?T ?hk ?x0 ?x1 ?hd ?hu ?_; kfm_turns; (case x0 => omega); (case x1 => first | assumption | exact rfl); k_whole); intro h9 tk9 F9 N9; kqd_sub)
    | walk_at "t9")
  all_goals first | exact ret _ _ _ (by assumption) (by assumption) (congrArg Value.bool (isName_eq (by assumption) (by assumption)).symm) | exact ret _ _ _ (by assumption) (by assumption) (congrArg Value.bool ((isName_no (by assumption)).trans (by assumption : isKind _ _ _ _ = false).symm).symm)

end
section
include B F X N Tp hk in
theorem name_spec {r dx T nd : Addr} {toks : List Tk} {i : Int} {t : Tk}
    (W : RdW w.params news r dx T nd toks i) (hn : isName toks i 0 = true) (ht9 : tkAt toks i 0 = some t) (hdp : dp ≤ 550) (hun : un ≤ 4000)
    (ret : ∀ tv, ∀ news' h' tk', Fr h₀ L h' m → News h₀ L h' news' → Keeps news news' → RdW w.params news' r dx T nd toks (i + 1) → Q (.str t.worth tv) { s with heap := h', toks := tk' }) :
    wpAny (model pw w) (top9 none dp un gd cn cs L a ccd cl outer) (call (.ref (nat_lit 407)) [.ref r]) Q E s := by
  tb_start
  refine RdW.cps W ?_
  intro hr t1 t2 t3 t4 hd nT hT ht h0 h1 hl
  ktr_enter
  with_reducible rename Fr _ _ _ (fun y => List.lookup y _) => F2
  replace F2 : Fr _ _ _ (fun y => List.lookup y [(Str.ofString "self", .ref r)]) := F2
  (try (generalize s.toks + List.length _ = tk0))
  repeat' (first
    | ((with_reducible show wpAny _ _ (call (Value.ref (nat_lit 328)) _) _ _ _); (first | (refine' peek0_spec ?B ?F ?X ?N ?T ?hk ?x0 ?hd ?hu ?_ ?_; kfm_turns; (case x0 => tb_rel)) | (refine' peek_spec ?B ?F ?X ?N ?T ?hk ?x0 ?x1 ?x2 ?hd ?hu ?_ ?_; kfm_turns; (case x0 => tb_rel); (case x1 => omega); (case x2 => omega))); all_goals (first | ((with_reducible show tkAt _ _ _ = none → _); intro en9; first | exact (kind_some (by assumption) en9).elim | exact (nomatch (en9.symm.trans (by assumption : tkAt _ _ _ = some _))) | (intro h9 tk9 F9 N9; kqd_sub)) | (intro t9 es9 z9 h9 tk9 F9 N9; (refine TkIn.cps z9 ?_); intro ha9 a1 a2 a3 a4 b1 b2 hd9 u1 u2 m9 hq9 hw9; kqd_sub)))
    | ((with_reducible show wpAny _ _ (call (Value.ref (nat_lit 357)) _) _ _ _); (first | (refine' kind0_spec ?B ?F ?X ?N ?T ?hk ?x0 ?x1 ?hd ?hu ?_; kfm_turns; (case x0 => tb_rel); (case x1 => first | assumption | exact rfl); k_whole) | (refine' kind_spec ?B ?F ?X ?N ?T ?hk ?x0 ?x1 ?x2 ?x3 ?hd ?hu ?_; kfm_turns; (case x0 => tb_rel); (case x1 => omega); (case x2 => omega); (case x3 => first | assumption | exact rfl); k_whole)); intro h9 tk9 F9 N9; kqd_sub)
    | ((with_reducible show wpAny _ _ (call (Value.ref (nat_lit 300)) _) _ _ _); (refine' reserved_spec ?B ?F ?X ?N ?T ?hk ?x0 ?x1 ?hd ?hu ?_; kfm_turns; (case x0 => omega); (case x1 => first | assumption | exact rfl); k_whole); intro h9 tk9 F9 N9; kqd_sub)
    | ((with_reducible show wpAny _ _ (call (Value.ref (nat_lit 400)) _) _ _ _); (refine' isname_spec ?B ?F ?X ?N ?T ?hk ?x0 ?x1 ?hd ?hu ?_; kfm_turns; (case x0 => tb_rel); (case x1 => first | assumption | exact rfl); k_whole); intro h9 tk9 F9 N9; kqd_sub)
    | ((with_reducible show wpAny _ _ (call (Value.ref (nat_lit 349)) _) _ _ _); (refine' take_spec ?B ?F ?X ?N ?T ?hk ?x0 ?x1 ?hd ?hu ?_; kfm_turns; (case x0 => tb_rel); (case x1 => assumption); k_whole); kpc_turns; (have z9 := RdW.tk (by assumption) (by assumption)); (refine TkIn.cps z9 ?_); intro ha9 a1 a2 a3 a4 b1 b2 hx9 u1 u2 m9 hq9 hw9; kqd_sub)
    | walk_at "t9")
  all_goals exact ret _ _ _ _ (by assumption) (by assumption) (by tb_rel) (by assumption)

end
section
/-- a stop in the walk -/
def Halt (p : Prop) : Prop := p
theorem Halt.go {p : Prop} (h : Halt p) : p := h
theorem Halt.back {p : Prop} (h : p) : Halt p := h
section
variable {prog : Program} {w : World} {A : Around} {E : Value → Shared → Prop} {s : Shared} {h₀ : Heap} {L : Addr} {m : Str → Option Value} {env : Env}
open PyProof.Rows.LCg in
def SrcS (prog : Program) (w : World) (A : Around) (h₀ : Heap) (L : Addr) (m : Str → Option Value) (env : Env) (elt : Expr) (x : Str) (scope : Scope) (cl : List (Str × Addr)) (Fin : Shared → List Value → List (Addr × Obj) → Prop) (xv : Value) (s₁ : Shared) : Prop :=
  ∃ z t news, xv = .str z t ∧ A.handled = none ∧ Fr h₀ L s₁.heap m ∧ News h₀ L s₁.heap news ∧ z.cps.all (· < 128) = true ∧ z.cps.size ≤ sizeLine ∧
      ∀ g, CompRest prog w A h₀ L m env elt x scope cl { s₁ with heap := g } (fun _ => True) (SignAt z) (Fin { s₁ with heap := g }) z.cps.size 0 [] news
open PyProof.Rows.LCg in
/-- a list block over a text of plain signs, its list bound to a name -/
theorem Assign_ListComp_S {elt iter : Expr} {x y : Str} {px py : Pos} {scope : Scope} {cl : List (Str × Addr)} {pos spos : Pos} {Q : Flow → Shared → Prop} (_F₀ : Fr h₀ L s.heap m) (hLe : env.locals = L)
    (hsw : swapsWith (.ListComp elt [⟨.Name x px, iter, [], 0⟩] scope pos) (some (.Name y py)) spos.line env = pure true)
    (hclos : closureFor scope env = pure cl) (hcell : ∀ z ∈ scope.names, z.2 ≠ .cell) (hkind : scope.kind = .function)
    (hnames : ∀ z ∈ scope.names, z.2 = .local → scope.names.lookup z.1 = some .local) (hx : scope.names.lookup x = some .local)
    (hy : env.kindOf y = some .local) (hp : (env.scope.kind == .class || (env.scope.kind == .module && env.locals != env.globals)) = false)
    (h : wpAny (model prog w) A (eval iter env) (SrcS prog w A h₀ L m env elt x scope cl (fun s₂ => FinA h₀ L m s₂ y Q)) E s)
    (hs : ∀ x, foldedSetIterable iter env x = pure x := by intro _; rfl) :
    wpAny (model prog w) A (exec (.Assign [.Name y py] (.ListComp elt [⟨.Name x px, iter, [], 0⟩] scope pos) spos) env) Q E s := by
  subst hLe
  rw [exec_Assign_Name_used _ _ _ _ hsw]
  refine wpAny_bind (wpAny_standAt (wpAny_bind ?_))
  show wpAny _ A (do let _ ← comprehension (.ListComp elt [⟨.Name x px, iter, [], 0⟩] scope pos) scope env _ (newList []) false (eval iter env) (some (assign (.Name y py) env))) _ _ s
  refine wpAny_bind (wpAny_mono (wpAny_comprehension_free (use := some (assign (.Name y py) env)) (Q := fun _ s' => Q .next s') rfl hs hclos hkind hnames
    (wpAny_mono h (fun xv s₁ h₁ => ?_) fun _ _ e => e)) (fun _ s' hq => wpAny_pure (wpAny_pure hq)) fun _ _ e => e)
  refine (?_ : let G9 : Prop := _; G9); intro G9
  obtain ⟨z, t, news, eq9_0, hh, F, N, ha, hsz, R⟩ := h₁
  unfold G9; clear G9
  subst eq9_0
  refine wpAny_pyIter_ascii ha ?_
  have st0 : (s₁.heap.push { cls := .type "str_ascii_iterator", data := .fields #[.str z t, .int 0 0] }).IsStrIter s₁.heap.objs.size "str_ascii_iterator" z t 0 := ⟨_, Heap.get?_push_size _ rfl, rfl, rfl⟩
  refine block_U (Walks.strAscii hh s₁.heap.objs.size z t) hsz (fun i h st => let ⟨o, e, _⟩ := st; ⟨o, e⟩) (fun i h h' o nw st e e' _ _ _ => by obtain ⟨o', q, r⟩ := st; rw [e] at q; cases q; exact ⟨o, e', r⟩)
    hcell hkind hx st0 (fun b hb => ?_) (F.keeps fun _ _ e => Heap.get?_push_of_some _ e) (N.grown fun _ _ e => Heap.get?_push_of_some _ e) (Nat.ne_of_lt F.ns.lt) (next_is_new F) (fun p hp => Nat.ne_of_lt (Heap.lt_size (N p hp).1)) trivial (R _) ?_
  · rw [List.mem_singleton.mp hb]
    show s₁.heap.objs.size < (s₁.heap.push _).objs.size
    rw [Heap.size_push]; exact Nat.lt_succ_self _
  · intro D C h' tk m' ys news' F' N' o1 hn hC₀ hD₀ hCL hDL hCD offC fin
    show wpAny _ A (assign (.Name y py) env (.ref D)) _ _ _
    refine wpAny_assign_Name (wpAny_storeName_local hy F'.ns (fun h₂ hn₂ hs₂ => ?_) hp)
    have hL₀ : h₀.get? env.locals = none := Heap.get?_none_of_le F'.above
    have F₂ : Fr h₀ env.locals h₂ (fun z => if z = y then some (.ref D) else m z) := ⟨hn₂, fun b o e => hs₂.extBut b o (fun q => by rw [q, hL₀] at e; cases e) (F'.keep b o e), F'.above⟩
    refine ⟨m', hn.sameBut hs₂ hCL, fun h'' hs'' => fin D h'' _ (F₂.change hs'' hCL hC₀) (fun p hp => ?_) o1⟩
    have z : h₂.get? p.1 = some p.2 := hs₂.extBut _ _ (N' p hp).2.1 (N' p hp).1
    refine ⟨hs''.extBut _ _ ?_ z, (N' p hp).2⟩
    rcases List.mem_cons.mp hp with rfl | hp
    · exact Ne.symm hCD
    · exact offC p hp
end
section
variable {prog : Program} {w : World} {A : Around} {s : Shared} {h₀ : Heap} {L : Addr} {m : Str → Option Value} {env : Env}
open PyProof.Rows.LCg in
/-- a list block of any length that lays nothing down -/
theorem CompRest_ind {elt : Expr} {x : Str} {scope : Scope} {cl : List (Str × Addr)} {S : List (Addr × Obj) → Prop} {P : Nat → Value → Prop} {Fin : List Value → List (Addr × Obj) → Prop} {news : List (Addr × Obj)} {n : Nat} {Inv : Nat → List Value → Prop}
    (hstep : ∀ i v ys I oI C oC D m₂ h tk (E' : Value → Shared → Prop), P i v → Inv i ys → NsObj oC m₂ → m₂ x = some v → Fr h₀ L h m → News h₀ L h ((I, oI) :: (C, oC) :: (D, lst ys) :: news) → Off3 I C D news → ((@Ne Nat I C) ∧ (@Ne Nat I D) ∧ (@Ne Nat C D)) →
      wpAny (model prog w) A (eval elt (compEnvC scope cl C env)) (CompEnd h₀ L m { s with heap := h, toks := tk } I oI C oC D (lst ys) S (fun y news' => news' = news ∧ Inv (i + 1) (ys ++ [y]))) E' { s with heap := h, toks := tk })
    (hend : ∀ ys, Inv n ys → Fin ys news) : ∀ k i ys, Inv i ys → i + k = n → CompRest prog w A h₀ L m env elt x scope cl s S P Fin k i ys news
  | 0, i, ys, inv, e => hend ys (by rw [← e]; exact inv)
  | k + 1, i, ys, inv, e => fun v I oI C oC D m₂ h tk E' hp hC hx F N off ne => wpAny_mono (hstep i v ys I oI C oC D m₂ h tk E' hp inv hC hx F N off ne) (fun y s' z => by
      refine (?_ : let G9 : Prop := _; G9); intro G9
      obtain ⟨h', tk', news', e1, F', N', off', hS, eq9_0, inv'⟩ := z
      unfold G9; clear G9
      subst eq9_0
      exact ⟨h', tk', news', e1, F', N', off', hS, CompRest_ind hstep hend k (i + 1) (ys ++ [y]) inv' (by omega)⟩) fun _ _ z => z
open PyProof.Rows.LCg PyProof.Rows.LCt in
/-- a list block whose test takes nothing -/
theorem CompRestT_none {ct elt : Expr} {x : Str} {scope : Scope} {cl : List (Str × Addr)} {S : List (Addr × Obj) → Prop} {P : Nat → Value → Prop} {Fin : List Value → List (Addr × Obj) → Prop} {news : List (Addr × Obj)}
    (hstep : ∀ i v I oI C oC D m₂ h tk (E' : Value → Shared → Prop), P i v → NsObj oC m₂ → m₂ x = some v → Fr h₀ L h m → News h₀ L h ((I, oI) :: (C, oC) :: (D, lst []) :: news) → Off3 I C D news → ((@Ne Nat I C) ∧ (@Ne Nat I D) ∧ (@Ne Nat C D)) →
      wpAny (model prog w) A (isTrue ct (compEnvC scope cl C env) (eval ct (compEnvC scope cl C env))) (fun ok s' => ok = false ∧ CompEnd h₀ L m { s with heap := h, toks := tk } I oI C oC D (lst []) S (fun _ news' => news' = news) Value.none s') E' { s with heap := h, toks := tk })
    (hend : Fin [] news) : ∀ k i, CompRestT prog w A h₀ L m env ct elt x scope cl s S P Fin k i [] news
  | 0, _ => hend
  | k + 1, i => fun v I oI C oC D m₂ h tk E' hp hC hx F N off ne => wpAny_mono (hstep i v I oI C oC D m₂ h tk E' hp hC hx F N off ne) (fun ok s' z => by
      refine (?_ : let G9 : Prop := _; G9); intro G9
      obtain ⟨e, h', tk', news', e1, F', N', off', hS, e2⟩ := z
      unfold G9; clear G9
      subst e e2
      exact ⟨h', tk', _, e1, F', N', off', hS, CompRestT_none hstep hend k (i + 1)⟩) fun _ _ z => z
end
structure PlainT (x : Str) : Prop where
  h1 : 1 ≤ x.cps.toList.length
  h4 : x.cps.toList.length ≤ 4
  hc : ∀ c ∈ x.cps.toList, c < 128
theorem PlainT.all {x : Str} (h : PlainT x) : x.cps.all (· < 128) = true := by
  rw [← Array.all_toList, List.all_eq_true]
  intro c hc
  exact decide_eq_true (h.hc c hc)
def bts (x : Str) : Array UInt8 := (x.cps.toList.map Nat.toUInt8).toArray
theorem ints_snoc {vs : List Value} {ns : List Int} (h : IntsAre vs ns) (k : Int) (u : Tok) : IntsAre (vs ++ [.int k u]) (ns ++ [k]) := by
  induction h with
  | nil => exact .cons k u .nil
  | cons j t h ih => exact .cons j t ih
theorem ints_at {vs : List Value} {ns : List Int} (h : IntsAre vs ns) : ∀ {i : Nat} {v : Value}, vs.toArray[i]? = some v → ∃ k u, v = .int k u ∧ k ∈ ns := by
  induction h with
  | nil => intro i v e; simp at e
  | cons k u h ih =>
    intro i v e
    cases i with
    | zero =>
      obtain rfl : _ = v := by simpa using e
      exact ⟨_, _, rfl, List.mem_cons_self ..⟩
    | succ i =>
      refine (?_ : let G9 : Prop := _; G9); intro G9
      obtain ⟨k, u, e, m⟩ := ih (by simpa using e)
      unfold G9; clear G9
      exact ⟨k, u, e, List.mem_cons_of_mem _ m⟩
/-- the codes of a text so far -/
def InvS (x : Str) (i : Nat) (ys : List Value) : Prop := IntsAre ys ((x.cps.toList.take i).map Int.ofNat)
theorem InvS.next {x : Str} {i c : Nat} {ys : List Value} {t : Tok} (h : InvS x i ys) (e : x.cps[i]? = some c) : InvS x (i + 1) (ys ++ [.int c t]) := by
  have e2 : x.cps.toList[i]? = some c := by simpa using e
  have z := ints_snoc h c t
  unfold InvS
  rw [List.take_add_one, e2, List.map_append]
  exact z
theorem InvS.whole {x : Str} {ys : List Value} (h : InvS x x.cps.size ys) : IntsAre ys (x.cps.toList.map Int.ofNat) := by
  unfold InvS at h
  rw [List.take_of_length_le (by simp)] at h
  exact h
theorem bts_ints {x : Str} : ((x.cps.toList.map Int.ofNat).map fun n => n.toNat.toUInt8).toArray = bts x := by
  unfold bts
  rw [List.map_map]
  rfl
theorem plain_range {x : Str} (h : PlainT x) : ∀ n ∈ x.cps.toList.map Int.ofNat, 0 ≤ n ∧ n < 128 := fun n hn => by
  refine (?_ : let G9 : Prop := _; G9); intro G9
  obtain ⟨c, hc, eq9_0⟩ := List.mem_map.mp hn
  unfold G9; clear G9
  subst eq9_0
  have := h.hc c hc
  constructor
  · exact Int.natCast_nonneg c
  · exact Int.ofNat_lt.mpr this
theorem gt_no {prog : Program} {w : World} {A : Around} {a b : Int} {t u : Tok} {Q : Value → Shared → Prop} {E : Value → Shared → Prop} {s : Shared} (h : ¬ a > b) (hq : Q (.bool false) s) : wpAny (model prog w) A (compareOp .Gt (.int a t) (.int b u)) Q E s := by
  refine gt_int ?_
  rw [decide_eq_false h]
  exact hq
include B F X N Tp hk in
theorem oot_spec {x : Str} {tx : Tok}
    (hx : PlainT x) (hdp : dp ≤ 590) (hun : un ≤ 4800)
    (ret : ∀ tv h' tk', Fr h₀ L h' m → News h₀ L h' news → Q (.bytes (bts x) tv) { s with heap := h', toks := tk' }) :
    wpAny (model pw w) (top9 none dp un gd cn cs L a ccd cl outer) (call (.ref (nat_lit 305)) [.str x tx]) Q E s := by
  tb_start
  ktr_enter
  with_reducible rename Fr _ _ _ (fun y => List.lookup y _) => F2
  replace F2 : Fr _ _ _ (fun y => List.lookup y [(Str.ofString "text", .str x tx)]) := F2
  (try (generalize s.toks + List.length _ = tk0))
  repeat' (first
    | ((with_reducible show wpAny _ _ (exec (Stmt.Assign _ (Expr.ListComp _ _ _ _) _) _) _ _ _); k_here; k_dflt (refine Assign_ListComp_S (by k_asm) (by rfl) (by with_unfolding_all rfl) (by rfl) (by decide) (by rfl) (by decide) (by rfl) (by rfl) (by rfl) ?_))
    | ((with_reducible show SrcS _ _ _ _ _ _ _ _ _ _ _ _ _ _); (refine Halt.go ?_))
    | walk_at "t9")
  refine Halt.back ?_
  refine ⟨_, _, _, rfl, rfl, by k_asm, by k_asm, hx.all, ?_, fun g => ?_⟩
  · have := hx.h4
    rw [Array.length_toList] at this
    rw [sizeLine_eq]
    omega
  refine CompRest_ind (Inv := InvS x) ?_ ?_ _ 0 [] .nil (Nat.zero_add _)
  · intro i v ys I oI C oC D m2 h tk E' hv inv hC' hx' F' N' off' ne'
    refine (?_ : let G9 : Prop := _; G9); intro G9
    obtain ⟨c9, u9, e9, eq9_0⟩ := hv
    unfold G9; clear G9
    subst eq9_0
    repeat' (first
      | walk_at "t9")
    exact ⟨_, _, _, rfl, by assumption, by assumption, off', trivial, rfl, inv.next e9⟩
  · intro ys inv
    replace inv := inv.whole
    unfold PyProof.Rows.LCg.FinA
    intro D8 h8 tk8 F8 N7 o8
    have hlen := inv.length
    have hlx := hx.h4
    rw [List.length_map] at hlen
    repeat' (first
      | ((with_reducible show wpAny _ _ (eval (Expr.ListComp _ _ _ _) _) _ _ _); k_here; lct_look; k_dflt (refine PyProof.Rows.LCt.ListComp_T (F₀ := by k_asm) (by with_unfolding_all rfl) (by decide) (by rfl) (by decide) (by rfl) ?_))
      | ((with_reducible show PyProof.Rows.LCt.CompSrcT _ _ _ _ _ _ _ _ _ _ _ _ _ _ _); (refine Halt.go ?_))
      | walk_at "t9")
    refine Halt.back ?_
    with_reducible rename News _ _ _ _ => N8
    refine PyProof.Rows.LCt.CompSrcT.ledger rfl (by k_asm) N8 (List.mem_cons_self ..) (by rw [List.size_toArray, sizeLine_eq]; omega) ?_
    intro g9
    refine CompRestT_none ?_ ?_ _ 0
    · intro i v I oI C oC D m2 h tk E' hv hC' hx' F' N' off' ne'
      refine (?_ : let G9 : Prop := _; G9); intro G9
      obtain ⟨k9, u9, eq9_0, m9⟩ := ints_at inv hv
      unfold G9; clear G9
      subst eq9_0
      have r9 := plain_range hx _ m9
      repeat' (first
        | ((with_reducible show wpAny _ _ (compareOp CmpOp.Gt (Value.int _ _) (Value.int _ _)) _ _ _); k_here; k_dflt (refine gt_no (by omega) ?_))
        | walk_at "t9")
      exact ⟨_, _, _, rfl, by assumption, by assumption, off', .inr ⟨_, List.mem_cons_self .., rfl, _, rfl⟩, rfl⟩
    · unfold PyProof.Rows.LCg.FinE
      intro D6 h6 tk6 F6 N6 o6
      repeat' (first
        | ((with_reducible show wpAny _ _ (call (Value.type "bytes") _) _ _ _); (refine Halt.go ?_))
        | walk_at "t9")
      refine Halt.back ?_
      with_reducible rename News _ _ _ _ => N5
      refine bytes_K (by k_asm) N5 (News.isList N5 (List.mem_cons_of_mem _ (List.mem_cons_self ..))) inv (fun n hn => have z := plain_range hx n hn; ⟨z.1, by omega⟩) (by rw [sizeLine_eq]; omega) rfl ?_
      intro h4 t4 k4 F4 N4 _
      rw [bts_ints]
      repeat' (first
        | walk_at "t9")
      exact ret _ _ _ (by assumption) (by tb_rel)

end
section
include B F X N Tp hk in
theorem peekt_spec {r dx T nd : Addr} {toks : List Tk} {i : Int} {t : Tk}
    (W : RdW w.params news r dx T nd toks i) (ht9 : tkAt toks i 0 = some t) (hdp : dp ≤ 600) (hun : un ≤ 5000)
    (ret : ∀ h' tk', Fr h₀ L h' m → News h₀ L h' news → TkIn w.params news t → Q (.ref t.a) { s with heap := h', toks := tk' }) :
    wpAny (model pw w) (top9 hdl dp un gd cn cs L a ccd cl outer) (call (.ref (nat_lit 328)) [.ref r]) Q E s := by
  refine peek0_spec B F X N Tp hk W hdp hun (fun e => nomatch ht9.symm.trans e) fun t' e z h' tk' F' N' => ?_
  obtain rfl := Option.some.inj (e.symm.trans ht9)
  exact ret h' tk' F' N' z
include B F X N Tp hk in
theorem octets_spec {r dx T nd : Addr} {toks : List Tk} {i : Int} {t : Tk}
    (W : RdW w.params news r dx T nd toks i) (hl9 : isKind toks i 0 (Str.ofString "literal") = true) (ht9 : tkAt toks i 0 = some t) (hx : PlainT t.worth) (hdp : dp ≤ 550) (hun : un ≤ 4000)
    (ret : ∀ tv, ∀ news' h' tk', Fr h₀ L h' m → News h₀ L h' news' → Keeps news news' → RdW w.params news' r dx T nd toks (i + 1) → Q (.bytes (bts t.worth) tv) { s with heap := h', toks := tk' }) :
    wpAny (model pw w) (top9 none dp un gd cn cs L a ccd cl outer) (call (.ref (nat_lit 471)) [.ref r]) Q E s := by
  tb_start
  refine RdW.frontC W N ?_
  intro z1 z2 z3 z4 rest N2 hap hsub W2 hup
  refine RdW.cpsN W2 ?_
  intro hr nT hT ht h0 h1 hl
  have hlt := tkAt_lt ht9
  ktr_enter
  with_reducible rename Fr _ _ _ (fun y => List.lookup y _) => F2
  replace F2 : Fr _ _ _ (fun y => List.lookup y [(Str.ofString "self", .ref r)]) := F2
  (try (generalize s.toks + List.length _ = tk0))
  repeat' (first
    | ((with_reducible show wpAny _ _ (call (Value.ref (nat_lit 328)) _) _ _ _); (refine' peekt_spec ?B ?F ?X ?N ?T ?hk ?x0 ?x1 ?hd ?hu ?_; kfm_turns; (case x0 => tb_rel); (case x1 => assumption); k_whole); intro h9 tk9 F9 N9 z9; (refine TkIn.cps z9 ?_); intro ha9 a1 a2 a3 a4 b1 b2 hx9 u1 u2 m9 hq9 hw9; kqd_sub)
    | ((with_reducible show wpAny _ _ (call (Value.ref (nat_lit 328)) _) _ _ _); (first | (refine' peek0_spec ?B ?F ?X ?N ?T ?hk ?x0 ?hd ?hu ?_ ?_; kfm_turns; (case x0 => tb_rel)) | (refine' peek_spec ?B ?F ?X ?N ?T ?hk ?x0 ?x1 ?x2 ?hd ?hu ?_ ?_; kfm_turns; (case x0 => tb_rel); (case x1 => omega); (case x2 => omega))); all_goals (first | ((with_reducible show tkAt _ _ _ = none → _); intro en9; first | exact (kind_some (by assumption) en9).elim | exact (nomatch (en9.symm.trans (by assumption : tkAt _ _ _ = some _))) | (intro h9 tk9 F9 N9; kqd_sub)) | (intro t9 es9 z9 h9 tk9 F9 N9; (refine TkIn.cps z9 ?_); intro ha9 a1 a2 a3 a4 b1 b2 hd9 u1 u2 m9 hq9 hw9; kqd_sub)))
    | ((with_reducible show wpAny _ _ (call (Value.ref (nat_lit 357)) _) _ _ _); (first | (refine' kind0_spec ?B ?F ?X ?N ?T ?hk ?x0 ?x1 ?hd ?hu ?_; kfm_turns; (case x0 => tb_rel); (case x1 => first | assumption | exact rfl); k_whole) | (refine' kind_spec ?B ?F ?X ?N ?T ?hk ?x0 ?x1 ?x2 ?x3 ?hd ?hu ?_; kfm_turns; (case x0 => tb_rel); (case x1 => omega); (case x2 => omega); (case x3 => first | assumption | exact rfl); k_whole)); intro h9 tk9 F9 N9; kqd_sub)
    | ((with_reducible show wpAny _ _ (call (Value.ref (nat_lit 305)) _) _ _ _); (refine' oot_spec ?B ?F ?X ?N ?T ?hk ?x0 ?hd ?hu ?_; kfm_turns; (case x0 => assumption); k_whole); intro tv9 h9 tk9 F9 N9; kqd_sub)
    | walk_at "t9")
  all_goals exact ret _ _ _ _ (by assumption) (by assumption) (keeps_up hup) (W2.upd (by omega) (by omega))

end
section
/-- the law's words: X is no figure, four are -/
def figW (x : Str) : Option (Option Str) :=
  if x = Str.ofString "X" then some none else if x = Str.ofString "SPACES" then some (some (Str.ofString "SPACE")) else if x = Str.ofString "ZERO" then some (some (Str.ofString "ZERO"))
  else if x = Str.ofString "LOW-VALUES" then some (some (Str.ofString "LOW")) else if x = Str.ofString "QUOTE" then some (some (Str.ofString "QUOTE")) else none
theorem figW_ne {x : Str} {o : Option Str} (h : figW x = some o) : x = Str.ofString "X" ∧ o = none ∨ x = Str.ofString "SPACES" ∧ o = some (Str.ofString "SPACE") ∨ x = Str.ofString "ZERO" ∧ o = some (Str.ofString "ZERO") ∨ x = Str.ofString "LOW-VALUES" ∧ o = some (Str.ofString "LOW") ∨ x = Str.ofString "QUOTE" ∧ o = some (Str.ofString "QUOTE") := by
  unfold figW at h
  repeat' split at h
  all_goals first | (injection h with h; subst h; simp_all; done) | cases h
include B F X N Tp hk in
theorem figure_spec {r dx T nd : Addr} {toks : List Tk} {i : Int} {t : Tk} {o : Option Str}
    (W : RdW w.params news r dx T nd toks i) (hl9 : isKind toks i 0 (Str.ofString "word") = true) (ht9 : tkAt toks i 0 = some t) (hf : figW t.worth = some o) (hdp : dp ≤ 550) (hun : un ≤ 4000)
    (ret1 : ∀ y, o = some y → ∀ a u1 u2 n news' h' tk', Fr h₀ L h' m → News h₀ L h' news' → Keeps news news' → RdW w.params news' r dx T nd toks (i + 1) → (a, tupOf [.str (Str.ofString "figure") u1, .str y u2] n) ∈ news' → Q (.ref a) { s with heap := h', toks := tk' })
    (ret0 : o = none → ∀ h' tk', Fr h₀ L h' m → News h₀ L h' news → Q .none { s with heap := h', toks := tk' }) :
    wpAny (model pw w) (top9 none dp un gd cn cs L a ccd cl outer) (call (.ref (nat_lit 174)) [.ref r]) Q E s := by
  tb_start
  refine RdW.cps W ?_
  intro hr t1 t2 t3 t4 hd nT hT ht h0 h1 hl
  ktr_enter
  with_reducible rename Fr _ _ _ (fun y => List.lookup y _) => F2
  replace F2 : Fr _ _ _ (fun y => List.lookup y [(Str.ofString "reader", .ref r)]) := F2
  (try (generalize s.toks + List.length _ = tk0))
  repeat' (first
    | ((with_reducible show wpAny _ _ (call (Value.ref (nat_lit 328)) _) _ _ _); (refine' peekt_spec ?B ?F ?X ?N ?T ?hk ?x0 ?x1 ?hd ?hu ?_; kfm_turns; (case x0 => tb_rel); (case x1 => assumption); k_whole); intro h9 tk9 F9 N9 z9; (refine TkIn.cps z9 ?_); intro ha9 a1 a2 a3 a4 b1 b2 hx9 u1 u2 m9 hq9 hw9; kqd_sub)
    | ((with_reducible show wpAny _ _ (call (Value.ref (nat_lit 328)) _) _ _ _); (first | (refine' peek0_spec ?B ?F ?X ?N ?T ?hk ?x0 ?hd ?hu ?_ ?_; kfm_turns; (case x0 => tb_rel)) | (refine' peek_spec ?B ?F ?X ?N ?T ?hk ?x0 ?x1 ?x2 ?hd ?hu ?_ ?_; kfm_turns; (case x0 => tb_rel); (case x1 => omega); (case x2 => omega))); all_goals (first | ((with_reducible show tkAt _ _ _ = none → _); intro en9; first | exact (kind_some (by assumption) en9).elim | exact (nomatch (en9.symm.trans (by assumption : tkAt _ _ _ = some _))) | (intro h9 tk9 F9 N9; kqd_sub)) | (intro t9 es9 z9 h9 tk9 F9 N9; (refine TkIn.cps z9 ?_); intro ha9 a1 a2 a3 a4 b1 b2 hd9 u1 u2 m9 hq9 hw9; kqd_sub)))
    | ((with_reducible show wpAny _ _ (call (Value.ref (nat_lit 357)) _) _ _ _); (first | (refine' kind0_spec ?B ?F ?X ?N ?T ?hk ?x0 ?x1 ?hd ?hu ?_; kfm_turns; (case x0 => tb_rel); (case x1 => first | assumption | exact rfl); k_whole) | (refine' kind_spec ?B ?F ?X ?N ?T ?hk ?x0 ?x1 ?x2 ?x3 ?hd ?hu ?_; kfm_turns; (case x0 => tb_rel); (case x1 => omega); (case x2 => omega); (case x3 => first | assumption | exact rfl); k_whole)); intro h9 tk9 F9 N9; kqd_sub)
    | ((with_reducible show wpAny _ _ (call (Value.ref (nat_lit 349)) _) _ _ _); (refine' take_spec ?B ?F ?X ?N ?T ?hk ?x0 ?x1 ?hd ?hu ?_; kfm_turns; (case x0 => tb_rel); (case x1 => assumption); k_whole); kpc_turns; (have z9 := RdW.tk (by assumption) (by assumption)); (refine TkIn.cps z9 ?_); intro ha9 a1 a2 a3 a4 b1 b2 hx9 u1 u2 m9 hq9 hw9; kqd_sub)
    | walk_at "t9")
  all_goals first
    | (rename t.worth = _ => e8
       rcases figW_ne hf with ⟨e9, e7⟩ | ⟨e9, e7⟩ | ⟨e9, e7⟩ | ⟨e9, e7⟩ | ⟨e9, e7⟩ <;> first
         | exact absurd (e8.symm.trans e9) (by decide +kernel)
         | exact ret1 _ e7 _ _ _ _ _ _ _ (by assumption) (by assumption) (by tb_rel) (by tb_rel) (List.mem_cons_self ..))
    | (rcases figW_ne hf with ⟨e8, e7⟩ | ⟨e8, -⟩ | ⟨e8, -⟩ | ⟨e8, -⟩ | ⟨e8, -⟩ <;> first
       | exact ret0 e7 _ _ (by assumption) (by tb_rel)
       | (rename (_ || _) = false => e5; rw [e8] at e5; exact absurd e5 (by decide)))

end
section
section
variable {prog : Program} {w : World} {A : Around} {Q : Flow → Shared → Prop}
/-- a loop of at most n passes in which nothing is raised -/
def Loop9 (prog : Program) (w : World) (A : Around) (env : Env) (test : Expr) (body : List Stmt) (Q : Flow → Shared → Prop) : Nat → Shared → Prop
  | 0, _ => False
  | n + 1, s => wpAny (model prog w) A (isTrue test env (eval test env)) (fun b s₂ => if b = true then wpAny (model prog w) A (execs body env) (fun f s₃ => match f with
        | .next => Loop9 prog w A env test body Q n s₃
        | .cont => Loop9 prog w A env test body Q n s₃
        | .brk => Q .next s₃
        | .ret v => Q (.ret v) s₃) (fun _ _ => False) s₂ else Q .next s₂) (fun _ _ => False) s
theorem While9 {test : Expr} {body : List Stmt} {pos : Pos} {env : Env} {E : Value → Shared → Prop} {s : Shared} (n : Nat) (h : Loop9 prog w A env test body Q n s) : wpAny (model prog w) A (exec (.While test body [] pos) env) Q E s := by
  have hE : PassesOwn (model prog w) A env (fun _ _ => False) := by passes_own
  refine wpAny_mono (Q := Q) (E := fun _ _ => False) (wpAny_While (codeAny_whileLoop (fun n s => Loop9 prog w A env test body Q n s) ?_ n h)) (fun _ _ h => h) fun _ _ h => h.elim
  intro n s h
  cases n with
  | zero => exact h.elim
  | succ n =>
    refine wpAny_mono h (fun b s₂ h₂ => ?_) hE
    cases b with
    | false =>
      simp only [Bool.false_eq_true, if_false] at h₂ ⊢
      exact wpAny_execs_nil h₂
    | true =>
      simp only [if_true] at h₂ ⊢
      refine wpAny_mono h₂ (fun f s₃ h₃ => ?_) hE
      cases f with
      | next => exact ⟨n, Nat.lt_succ_self n, h₃⟩
      | cont => exact ⟨n, Nat.lt_succ_self n, h₃⟩
      | brk => exact h₃
      | ret v => exact h₃
end
include B F X N Tp hk in
theorem part_spec {r dx T nd : Addr} {toks : List Tk} {i : Int}
    (W : RdW w.params news r dx T nd toks i) (hs : isTok toks i 0 (Str.ofString "sign") (Str.ofString "(") = false) (hdp : dp ≤ 570) (hun : un ≤ 4400)
    (ret : ∀ h' tk', Fr h₀ L h' m → News h₀ L h' news → Q (.bool false) { s with heap := h', toks := tk' }) :
    wpAny (model pw w) (top9 none dp un gd cn cs L a ccd cl outer) (call (.ref (nat_lit 139)) [.ref r]) Q E s := by
  tb_start
  refine RdW.cps W ?_
  intro hr t1 t2 t3 t4 hd nT hT ht h0 h1 hl
  ktr_enter
  with_reducible rename Fr _ _ _ (fun y => List.lookup y _) => F2
  replace F2 : Fr _ _ _ (fun y => List.lookup y [(Str.ofString "reader", .ref r)]) := F2
  (try (generalize s.toks + List.length _ = tk0))
  repeat' (first
    | ((with_reducible show wpAny _ _ (exec (Stmt.While _ _ _ _) _) _ _ _); (refine While9 4 ?_); (unfold Loop9))
    | ((with_reducible show wpAny _ _ (call (Value.ref (nat_lit 328)) _) _ _ _); (refine' peekt_spec ?B ?F ?X ?N ?T ?hk ?x0 ?x1 ?hd ?hu ?_; kfm_turns; (case x0 => tb_rel); (case x1 => assumption); k_whole); intro h9 tk9 F9 N9 z9; (refine TkIn.cps z9 ?_); intro ha9 a1 a2 a3 a4 b1 b2 hx9 u1 u2 m9 hq9 hw9; kqd_sub)
    | ((with_reducible show wpAny _ _ (call (Value.ref (nat_lit 328)) _) _ _ _); (first | (refine' peek0_spec ?B ?F ?X ?N ?T ?hk ?x0 ?hd ?hu ?_ ?_; kfm_turns; (case x0 => tb_rel)) | (refine' peek_spec ?B ?F ?X ?N ?T ?hk ?x0 ?x1 ?x2 ?hd ?hu ?_ ?_; kfm_turns; (case x0 => tb_rel); (case x1 => omega); (case x2 => omega))); all_goals (first | ((with_reducible show tkAt _ _ _ = none → _); intro en9; first | exact (kind_some (by assumption) en9).elim | exact (nomatch (en9.symm.trans (by assumption : tkAt _ _ _ = some _))) | (intro h9 tk9 F9 N9; kqd_sub)) | (intro t9 es9 z9 h9 tk9 F9 N9; (refine TkIn.cps z9 ?_); intro ha9 a1 a2 a3 a4 b1 b2 hd9 u1 u2 m9 hq9 hw9; kqd_sub)))
    | ((with_reducible show wpAny _ _ (call (Value.ref (nat_lit 422)) _) _ _ _); (refine' sign0_spec ?B ?F ?X ?N ?T ?hk ?x0 ?x1 ?hd ?hu ?_; kfm_turns; (case x0 => tb_rel); (case x1 => first | assumption | exact rfl); k_whole); intro h9 tk9 F9 N9; kqd_sub)
    | walk_at "t9")
  all_goals exact ret _ _ (by assumption) (by tb_rel)

end
section
theorem News.front {h₀ h : Heap} {L a : Addr} {o : Obj} {news : List (Addr × Obj)} (N : News h₀ L h news) (hm : (a, o) ∈ news) :
    ∃ rest, News h₀ L h ((a, o) :: rest) ∧ (∀ q ∈ rest, q.1 ≠ a) ∧ (∀ q ∈ news, q.1 ≠ a → q ∈ rest) ∧ ∀ q ∈ news, q ∈ (a, o) :: rest := by
  have up : ∀ q ∈ news, q ∈ (a, o) :: news.filter (fun q => q.1 != a) := fun q hq => by
    by_cases e : q.1 = a
    · have h1 := (N q hq).1
      rw [e, (N _ hm).1] at h1
      rw [show q = (a, o) from Prod.ext e (Option.some.inj h1).symm]
      exact List.mem_cons_self ..
    · exact List.mem_cons_of_mem _ (List.mem_filter.mpr ⟨hq, by simpa using e⟩)
  refine ⟨news.filter (fun q => q.1 != a), fun q hq => ?_, fun q hq => by simpa using (List.mem_filter.mp hq).2, fun q hq e => List.mem_filter.mpr ⟨hq, by simpa using e⟩, up⟩
  rcases List.mem_cons.mp hq with rfl | hq
  · exact N _ hm
  · exact N _ (List.mem_filter.mp hq).1
/-- all that a list's store leaves -/
theorem mem_rest {a : Addr} {o : Obj} {q : Addr × Obj} {l : List (Addr × Obj)} (h : q ∈ (a, o) :: l) (hne : q.1 ≠ a) : q ∈ l := by
  rcases List.mem_cons.mp h with e | e
  · exact absurd (congrArg Prod.fst e) hne
  · exact e
theorem seq_not_inst {C d : Addr} {k : Nat} {c : String} {vs : Array Value} : instObj C d ≠ ({ cls := .type c, data := .seq vs k } : Obj) := fun e => by
  have := congrArg Obj.cls e
  cases this
theorem seq_not_dict {k n : Nat} {c : String} {vs : Array Value} {es : List DictEntry} : dictOf es n ≠ ({ cls := .type c, data := .seq vs k } : Obj) := fun e => by
  have := congrArg Obj.data e
  cases this
theorem tup_not_list {k k' : Nat} {vs vs' : Array Value} : ({ cls := .type "tuple", data := .seq vs k } : Obj) ≠ listOf vs' k' := fun e => by
  have := congrArg Obj.cls e
  injection this with e
  revert e
  decide
theorem RdW.but {P : Params} {D : Addr} {k : Nat} {items : Array Value} {news rest : List (Addr × Obj)} {h₀ h : Heap} {L r dx T nd : Addr} {toks : List Tk} {i : Int} (W : RdW P news r dx T nd toks i) (N : News h₀ L h news) (hm : (D, listOf items k) ∈ news) (hT : T ≠ D)
    (hs : ∀ q ∈ news, q.1 ≠ D → q ∈ rest) : RdW P rest r dx T nd toks i :=
  have go : ∀ {b : Addr} {o : Obj}, (b, o) ∈ news → o ≠ listOf items k → (b, o) ∈ rest := fun x y => hs _ x (News.differ N x hm y)
  ⟨go W.hr seq_not_inst, let ⟨t1, t2, t3, t4, x⟩ := W.hd; ⟨t1, t2, t3, t4, go x seq_not_dict⟩, let ⟨n, x⟩ := W.hT; ⟨n, hs _ x hT⟩,
   fun t ht => let z := W.ht t ht; ⟨go z.ha seq_not_inst, let ⟨a1, a2, a3, a4, b1, b2, x⟩ := z.hd; ⟨a1, a2, a3, a4, b1, b2, go x seq_not_dict⟩,
     let ⟨u1, u2, k, x⟩ := z.hq; ⟨u1, u2, k, go x tup_not_list⟩, z.hw⟩, W.h0, W.h1, W.hl⟩
theorem Keeps.but {a b c : List (Addr × Obj)} {D : Addr} (x : Keeps a b) (hs : ∀ q ∈ b, q.1 ≠ D → q ∈ c) (hl : ∀ q ∈ a, q.1 ≠ D) : Keeps a c := fun q hq hc => hs _ (x q hq hc) (hl q hq)
theorem append_mem {prog : Program} {w : World} {A : Around} {E : Value → Shared → Prop} {s : Shared} {h₀ : Heap} {L D : Addr} {m : Str → Option Value} {news : List (Addr × Obj)} {its : Array Value} {n : Nat} {x : Value} {Q : Value → Shared → Prop} (F : Fr h₀ L s.heap m) (N : News h₀ L s.heap news)
    (hm : (D, listOf its n) ∈ news) (hz : its.size ≤ 1000)
    (h : ∀ h' rest, Fr h₀ L h' m → News h₀ L h' ((D, listOf (its.push x) (n + 1)) :: rest) → (∀ q ∈ rest, q.1 ≠ D) → (∀ q ∈ news, q.1 ≠ D → q ∈ rest) → Q .none { s with heap := h' }) : wpAny (model prog w) A (call (.builtin "list.append") [.ref D, x]) Q E s := by
  refine (?_ : let G9 : Prop := _; G9); intro G9
  obtain ⟨rest, N2, h1, h2, -⟩ := News.front N hm
  unfold G9; clear G9
  exact append_K F N2 (.head h1) (fun h' F' N' => h h' rest F' N' h1 h2) (by rw [sizeLine_eq]; omega)
theorem list_ok {items : Array Value} {k : Nat} : (listOf items k).cls ≠ .type "dict" := fun q => by
  injection q with q
  revert q
  decide
theorem ne_of_lts {l : List (Addr × Obj)} {d q : Addr} {o : Obj} (h : ∀ p ∈ l, p.1 < d) (hq : (q, o) ∈ l) : q ≠ d := Nat.ne_of_lt (h _ hq)
theorem keeps3 {a b c d e : List (Addr × Obj)} {l : Addr} {o : Obj} (K0 : Keeps a b) (K8 : Keeps ((l, o) :: b) c) (K9 : Keeps c d) (l1 : ∀ p ∈ b, p.1 < l) (sub : ∀ q ∈ d, q.1 ≠ l → q ∈ e) : Keeps a e :=
  fun q hq hc => sub _ (K9 _ (K8 _ (List.mem_cons_of_mem _ (K0 q hq hc)) hc) hc) (ne_of_lts l1 (K0 q hq hc))
include B F X N Tp hk in
theorem ref_spec {r dx T nd : Addr} {toks : List Tk} {i : Int} {t t2 : Tk} {rx : Value}
    (W : RdW w.params news r dx T nd toks i) (hn : isName toks i 0 = true) (ht9 : tkAt toks i 0 = some t) (ho : isTok toks (i + 1) 0 (Str.ofString "word") (Str.ofString "OF") = true) (hoi : isTok toks (i + 1) 0 (Str.ofString "word") (Str.ofString "IN") = false)
    (hn2 : isName toks (i + 1 + 1) 0 = true) (ht92 : tkAt toks (i + 1 + 1) 0 = some t2) (ho3 : isTok toks (i + 1 + 1 + 1) 0 (Str.ofString "word") (Str.ofString "OF") = false) (hoi3 : isTok toks (i + 1 + 1 + 1) 0 (Str.ofString "word") (Str.ofString "IN") = false)
    (hs3 : isTok toks (i + 1 + 1 + 1) 0 (Str.ofString "sign") (Str.ofString "(") = false) (hdp : dp ≤ 540) (hun : un ≤ 3800)
    (ret : ∀ a q e u1 u2 u3 n1 n2 n3 news' h' tk', Fr h₀ L h' m → News h₀ L h' news' → Keeps news news' → RdW w.params news' r dx T nd toks (i + 1 + 1 + 1) → (a, tupOf [.str (Str.ofString "ref") u1, .str t.worth u2, .ref q, .ref e, .none] n1) ∈ news' → (q, tupOf [.str t2.worth u3] n2) ∈ news' → (e, tupOf [] n3) ∈ news' → Q (.ref a) { s with heap := h', toks := tk' }) :
    wpAny (model pw w) (top9 none dp un gd cn cs L a ccd cl outer) (call (.ref (nat_lit 160)) [.ref r, rx]) Q E s := by
  tb_start
  refine RdW.cps W ?_
  intro hr t1 t2 t3 t4 hd nT hT ht h0 h1 hl
  ktr_enter
  with_reducible rename Fr _ _ _ (fun y => List.lookup y _) => F2
  replace F2 : Fr _ _ _ (fun y => List.lookup y [(Str.ofString "read_expr", rx), (Str.ofString "reader", .ref r)]) := F2
  (try (generalize s.toks + List.length _ = tk0))
  repeat' (first
    | ((with_reducible show wpAny _ _ (exec (Stmt.While _ _ _ _) _) _ _ _); (refine While9 4 ?_); (unfold Loop9))
    | ((first | (with_reducible show Loop9 _ _ _ _ _ _ _ _ _) | (dsimp only; (with_reducible show Loop9 _ _ _ _ _ _ _ _ _))); (unfold Loop9); (try dsimp only))
    | ((with_reducible show wpAny _ _ (call (Value.ref (nat_lit 407)) _) _ _ _); (refine' name_spec ?B ?F ?X ?N ?T ?hk ?x0 ?x1 ?x2 ?hd ?hu ?_; kfm_turns; (case x0 => tb_rel); (case x1 => assumption); (case x2 => assumption); k_whole); intro tv9; kpc_turns; kqd_sub)
    | ((with_reducible show wpAny _ _ (call (Value.ref (nat_lit 385)) _) _ _ _); (refine' oneof_spec ?B ?F ?X ?N ?T ?hk ?x0 ?x1 ?hd ?hu ?_ ?_; kfm_turns; (case x0 => tb_rel); (case x1 => first | assumption | decide +kernel)); (all_goals (intro e9; (first | exact (Bool.false_ne_true (Eq.trans (Eq.symm e9) (by assumption))).elim | exact (Bool.false_ne_true (Eq.trans (Eq.symm (by assumption)) e9)).elim | ((have := (e9 : _ = false)); (clear this); intro tv9 h9 tk9 F9 N9; kqd_sub) | ((have := (e9 : _ = true)); (clear this); intro tv9; kpc_turns; kqd_sub)))))
    | ((with_reducible show wpAny _ _ (call (Value.ref (nat_lit 422)) _) _ _ _); (refine' sign0_spec ?B ?F ?X ?N ?T ?hk ?x0 ?x1 ?hd ?hu ?_; kfm_turns; (case x0 => tb_rel); (case x1 => first | assumption | exact rfl); k_whole); intro h9 tk9 F9 N9; kqd_sub)
    | ((with_reducible show wpAny _ _ (call (Value.ref (nat_lit 139)) _) _ _ _); (refine' part_spec ?B ?F ?X ?N ?T ?hk ?x0 ?x1 ?hd ?hu ?_; kfm_turns; (case x0 => tb_rel); (case x1 => first | assumption | decide +kernel); k_whole); intro h9 tk9 F9 N9; kqd_sub)
    | walk_at "t9")
  rename Keeps (_ :: _) _ => K8
  have z8 := K8 _ (List.mem_cons_self ..) list_ok
  repeat' (first
    | ((with_reducible show wpAny _ _ (exec (Stmt.While _ _ _ _) _) _ _ _); (refine While9 4 ?_); (unfold Loop9))
    | ((first | (with_reducible show Loop9 _ _ _ _ _ _ _ _ _) | (dsimp only; (with_reducible show Loop9 _ _ _ _ _ _ _ _ _))); (unfold Loop9); (try dsimp only))
    | ((with_reducible show wpAny _ _ (call (Value.ref (nat_lit 407)) _) _ _ _); (refine' name_spec ?B ?F ?X ?N ?T ?hk ?x0 ?x1 ?x2 ?hd ?hu ?_; kfm_turns; (case x0 => tb_rel); (case x1 => assumption); (case x2 => assumption); k_whole); intro tv9; kpc_turns; kqd_sub)
    | ((with_reducible show wpAny _ _ (call (Value.ref (nat_lit 385)) _) _ _ _); (refine' oneof_spec ?B ?F ?X ?N ?T ?hk ?x0 ?x1 ?hd ?hu ?_ ?_; kfm_turns; (case x0 => tb_rel); (case x1 => first | assumption | decide +kernel)); (all_goals (intro e9; (first | exact (Bool.false_ne_true (Eq.trans (Eq.symm e9) (by assumption))).elim | exact (Bool.false_ne_true (Eq.trans (Eq.symm (by assumption)) e9)).elim | ((have := (e9 : _ = false)); (clear this); intro tv9 h9 tk9 F9 N9; kqd_sub) | ((have := (e9 : _ = true)); (clear this); intro tv9; kpc_turns; kqd_sub)))))
    | ((with_reducible show wpAny _ _ (call (Value.ref (nat_lit 422)) _) _ _ _); (refine' sign0_spec ?B ?F ?X ?N ?T ?hk ?x0 ?x1 ?hd ?hu ?_; kfm_turns; (case x0 => tb_rel); (case x1 => first | assumption | exact rfl); k_whole); intro h9 tk9 F9 N9; kqd_sub)
    | ((with_reducible show wpAny _ _ (call (Value.ref (nat_lit 139)) _) _ _ _); (refine' part_spec ?B ?F ?X ?N ?T ?hk ?x0 ?x1 ?hd ?hu ?_; kfm_turns; (case x0 => tb_rel); (case x1 => first | assumption | decide +kernel); k_whole); intro h9 tk9 F9 N9; kqd_sub)
    | walk_at "t9")
  with_reducible rename News _ _ _ _ => N8
  with_reducible rename RdW _ _ _ _ _ _ _ _ => W8
  rename Keeps _ _ => K9
  have z9 := K9 _ z8 list_ok
  have hne := ne_of_lts (q := T) (by assumption) (by assumption)
  refine append_mem (by assumption) N8 z9 (by decide) fun h5 rest F5 N5 ap5 sub5 => ?_
  have W5 := W8.but N8 z9 hne sub5
  have V5 := W5
  refine (?_ : let G9 : Prop := _; G9); intro G9
  obtain ⟨hr5, ⟨y1, y2, y3, y4, hd5⟩, ⟨n5, hT5⟩, ht5, -, -, -⟩ := V5
  unfold G9; clear G9
  have K5 := keeps3 (by assumption) K8 K9 (by assumption) sub5
  clear N8 W8 K8 K9
  kqd_sub
  repeat' (first
    | ((with_reducible show wpAny _ _ (exec (Stmt.While _ _ _ _) _) _ _ _); (refine While9 4 ?_); (unfold Loop9))
    | ((first | (with_reducible show Loop9 _ _ _ _ _ _ _ _ _) | (dsimp only; (with_reducible show Loop9 _ _ _ _ _ _ _ _ _))); (unfold Loop9); (try dsimp only))
    | ((with_reducible show wpAny _ _ (call (Value.ref (nat_lit 407)) _) _ _ _); (refine' name_spec ?B ?F ?X ?N ?T ?hk ?x0 ?x1 ?x2 ?hd ?hu ?_; kfm_turns; (case x0 => tb_rel); (case x1 => assumption); (case x2 => assumption); k_whole); intro tv9; kpc_turns; kqd_sub)
    | ((with_reducible show wpAny _ _ (call (Value.ref (nat_lit 385)) _) _ _ _); (refine' oneof_spec ?B ?F ?X ?N ?T ?hk ?x0 ?x1 ?hd ?hu ?_ ?_; kfm_turns; (case x0 => tb_rel); (case x1 => first | assumption | decide +kernel)); (all_goals (intro e9; (first | exact (Bool.false_ne_true (Eq.trans (Eq.symm e9) (by assumption))).elim | exact (Bool.false_ne_true (Eq.trans (Eq.symm (by assumption)) e9)).elim | ((have := (e9 : _ = false)); (clear this); intro tv9 h9 tk9 F9 N9; kqd_sub) | ((have := (e9 : _ = true)); (clear this); intro tv9; kpc_turns; kqd_sub)))))
    | ((with_reducible show wpAny _ _ (call (Value.ref (nat_lit 422)) _) _ _ _); (refine' sign0_spec ?B ?F ?X ?N ?T ?hk ?x0 ?x1 ?hd ?hu ?_; kfm_turns; (case x0 => tb_rel); (case x1 => first | assumption | exact rfl); k_whole); intro h9 tk9 F9 N9; kqd_sub)
    | ((with_reducible show wpAny _ _ (call (Value.ref (nat_lit 139)) _) _ _ _); (refine' part_spec ?B ?F ?X ?N ?T ?hk ?x0 ?x1 ?hd ?hu ?_; kfm_turns; (case x0 => tb_rel); (case x1 => first | assumption | decide +kernel); k_whole); intro h9 tk9 F9 N9; kqd_sub)
    | walk_at "t9")
  exact ret _ _ _ _ _ _ _ _ _ _ _ _ (by assumption) (by assumption) (by tb_rel) (by tb_rel) (List.mem_cons_self ..) (List.mem_cons_of_mem _ (List.mem_cons_self ..)) (List.mem_cons_of_mem _ (List.mem_cons_of_mem _ (List.mem_cons_self ..)))

end
section
inductive Od where
  | ref
  | fig (s : Str)
  | text (x : Str)
/-- the value stands for what was read -/
inductive OdIn (news : List (Addr × Obj)) : Value → Od → Prop where
  | ref {a q e : Addr} {u1 u2 u3 : Tok} {n1 n2 n3 : Nat} : (a, tupOf [.str (Str.ofString "ref") u1, .str (Str.ofString "X") u2, .ref q, .ref e, .none] n1) ∈ news → (q, tupOf [.str (Str.ofString "R") u3] n2) ∈ news → (e, tupOf [] n3) ∈ news → OdIn news (.ref a) .ref
  | fig {a : Addr} {s : Str} {u1 u2 : Tok} {n : Nat} : (a, tupOf [.str (Str.ofString "figure") u1, .str s u2] n) ∈ news → OdIn news (.ref a) (.fig s)
  | text {a : Addr} {x : Str} {u1 u2 : Tok} {n : Nat} : PlainT x → (a, tupOf [.str (Str.ofString "text") u1, .bytes (bts x) u2] n) ∈ news → OdIn news (.ref a) (.text x)
theorem tup_ok {items : List Value} {k : Nat} : (tupOf items k).cls ≠ .type "dict" := fun q => by
  injection q with q
  revert q
  decide
theorem OdIn.keeps {a b : List (Addr × Obj)} {v : Value} {o : Od} (h : OdIn a v o) (K : Keeps a b) : OdIn b v o := by
  cases h with
  | ref x y z => exact .ref (K _ x tup_ok) (K _ y tup_ok) (K _ z tup_ok)
  | fig x => exact .fig (K _ x tup_ok)
  | text p x => exact .text p (K _ x tup_ok)
/-- a word or a sign stands here -/
def TkAt (toks : List Tk) (i : Int) (kd x : Str) : Prop := ∃ t, tkAt toks i 0 = some t ∧ t.kind = kd ∧ t.worth = x
structure OdAtF (toks : List Tk) (i : Int) (s : Str) : Prop where
  t : ∃ t, tkAt toks i 0 = some t ∧ t.kind = Str.ofString "word" ∧ figW t.worth = some (some s)
structure OdAtT (toks : List Tk) (i : Int) (x : Str) : Prop where
  t : TkAt toks i (Str.ofString "literal") x
  p : PlainT x
structure OdAtR (toks : List Tk) (i : Int) : Prop where
  t1 : TkAt toks i (Str.ofString "word") (Str.ofString "X")
  t2 : TkAt toks (i + 1) (Str.ofString "word") (Str.ofString "OF")
  t3 : TkAt toks (i + 1 + 1) (Str.ofString "word") (Str.ofString "R")
  h4 : isTok toks (i + 1 + 1 + 1) 0 (Str.ofString "word") (Str.ofString "OF") = false
  h5 : isTok toks (i + 1 + 1 + 1) 0 (Str.ofString "word") (Str.ofString "IN") = false
  h6 : isTok toks (i + 1 + 1 + 1) 0 (Str.ofString "sign") (Str.ofString "(") = false
def OdAt (toks : List Tk) (i : Int) : Od → Prop
  | .ref => OdAtR toks i
  | .fig s => OdAtF toks i s
  | .text x => OdAtT toks i x
def Od.len : Od → Int
  | .ref => 1 + 1 + 1
  | _ => 1
theorem kind_no {toks : List Tk} {i : Int} {t : Tk} (e : tkAt toks i 0 = some t) {kd : Str} (h : (t.kind == kd) = false) : isKind toks i 0 kd = false := by unfold isKind; rw [e]; exact h
theorem kind_yes {toks : List Tk} {i : Int} {t : Tk} (e : tkAt toks i 0 = some t) {kd : Str} (h : t.kind = kd) : isKind toks i 0 kd = true := by unfold isKind; rw [e]; simp [h]
theorem tok_no {toks : List Tk} {i : Int} {t : Tk} (e : tkAt toks i 0 = some t) {kd x : Str} (h : (t.kind == kd && t.worth == x) = false) : isTok toks i 0 kd x = false := by unfold isTok; rw [e]; exact h
theorem tok_yes {toks : List Tk} {i : Int} {kd x : Str} (h : TkAt toks i kd x) : isTok toks i 0 kd x = true := by
  refine (?_ : let G9 : Prop := _; G9); intro G9
  obtain ⟨t, e, h1, h2⟩ := h
  unfold G9; clear G9
  unfold isTok
  rw [e]
  simp [h1, h2]
theorem fig_resv {x s : Str} (h : figW x = some (some s)) : resv x = true ∧ hasIn (spaced x).cps.toList (Str.ofString " ZERO ZEROS ZEROES SPACE SPACES HIGH-VALUE HIGH-VALUES LOW-VALUE LOW-VALUES QUOTE QUOTES ALL ").cps.toList = true ∧ (x == Str.ofString "ALL") = false ∧ x.length ≤ 60 := by
  have r := List.all_eq_true.mp resv_fig
  rcases figW_ne h with ⟨_, e⟩ | ⟨rfl, _⟩ | ⟨rfl, _⟩ | ⟨rfl, _⟩ | ⟨rfl, _⟩
  · cases e
  · exact ⟨r "SPACES" (by decide), by decide +kernel, by decide +kernel, by decide +kernel⟩
  · exact ⟨r "ZERO" (by decide), by decide +kernel, by decide +kernel, by decide +kernel⟩
  · exact ⟨r "LOW-VALUES" (by decide), by decide +kernel, by decide +kernel, by decide +kernel⟩
  · exact ⟨r "QUOTE" (by decide), by decide +kernel, by decide +kernel, by decide +kernel⟩
/-- no number stands here -/
structure NoNum (toks : List Tk) (i : Int) : Prop where
  h1 : isTok toks i 0 (Str.ofString "sign") (Str.ofString "+") = false
  h2 : isTok toks i 0 (Str.ofString "sign") (Str.ofString "-") = false
  h3 : isKind toks i 0 (Str.ofString "number") = false
theorem noNum_word {toks : List Tk} {i : Int} {t : Tk} (e : tkAt toks i 0 = some t) (h : t.kind = Str.ofString "word") : NoNum toks i :=
  ⟨tok_no e (by rw [h]; rfl), tok_no e (by rw [h]; rfl), kind_no e (by rw [h]; decide)⟩
theorem noNum_lit {toks : List Tk} {i : Int} {t : Tk} (e : tkAt toks i 0 = some t) (h : t.kind = Str.ofString "literal") : NoNum toks i :=
  ⟨tok_no e (by rw [h]; rfl), tok_no e (by rw [h]; rfl), kind_no e (by rw [h]; decide)⟩
theorem name_is {toks : List Tk} {i : Int} {t : Tk} (e : tkAt toks i 0 = some t) (h : t.kind = Str.ofString "word") : isName toks i 0 = !resv t.worth := isName_eq (kind_yes e h) e
include B F X N Tp hk in
theorem beginsT_spec {r dx T nd : Addr} {toks : List Tk} {i : Int} {x : Str}
    (W : RdW w.params news r dx T nd toks i) (O : OdAtT toks i x) (hdp : dp ≤ 560) (hun : un ≤ 4200)
    (ret : ∀ h' tk', Fr h₀ L h' m → News h₀ L h' news → Q (.bool true) { s with heap := h', toks := tk' }) :
    wpAny (model pw w) (top9 none dp un gd cn cs L a ccd cl outer) (call (.ref (nat_lit 244)) [.ref r]) Q E s := by
  tb_start
  refine (?_ : let G9 : Prop := _; G9); intro G9
  obtain ⟨⟨t, ht9, hk9, hx9⟩, hp9⟩ := O
  unfold G9; clear G9
  have hl9 := kind_yes ht9 hk9
  refine (?_ : let G9 : Prop := _; G9); intro G9
  obtain ⟨hs1, hs2, hs3⟩ := noNum_lit ht9 hk9
  unfold G9; clear G9
  refine RdW.cps W ?_
  intro hr t1 t2 t3 t4 hd nT hT ht h0 h1 hl
  ktr_enter
  with_reducible rename Fr _ _ _ (fun y => List.lookup y _) => F2
  replace F2 : Fr _ _ _ (fun y => List.lookup y [(Str.ofString "reader", .ref r)]) := F2
  (try (generalize s.toks + List.length _ = tk0))
  repeat' (first
    | ((with_reducible show wpAny _ _ (call (Value.ref (nat_lit 328)) _) _ _ _); (refine' peekt_spec ?B ?F ?X ?N ?T ?hk ?x0 ?x1 ?hd ?hu ?_; kfm_turns; (case x0 => tb_rel); (case x1 => assumption); k_whole); intro h9 tk9 F9 N9 z9; (refine TkIn.cps z9 ?_); intro ha9 a1 a2 a3 a4 b1 b2 hx9 u1 u2 m9 hq9 hw9; kqd_sub)
    | ((with_reducible show wpAny _ _ (call (Value.ref (nat_lit 357)) _) _ _ _); (first | (refine' kind0_spec ?B ?F ?X ?N ?T ?hk ?x0 ?x1 ?hd ?hu ?_; kfm_turns; (case x0 => tb_rel); (case x1 => first | assumption | exact rfl); k_whole) | (refine' kind_spec ?B ?F ?X ?N ?T ?hk ?x0 ?x1 ?x2 ?x3 ?hd ?hu ?_; kfm_turns; (case x0 => tb_rel); (case x1 => omega); (case x2 => omega); (case x3 => first | assumption | exact rfl); k_whole)); intro h9 tk9 F9 N9; kqd_sub)
    | ((with_reducible show wpAny _ _ (call (Value.ref (nat_lit 443)) _) _ _ _); (refine' number_spec ?B ?F ?X ?N ?T ?hk ?x0 ?x1 ?x2 ?x3 ?hd ?hu ?_; kfm_turns; (case x0 => tb_rel); (case x1 => first | assumption | decide +kernel); (case x2 => first | assumption | decide +kernel); (case x3 => first | assumption | decide +kernel); k_whole); intro h9 tk9 F9 N9; kqd_sub)
    | ((with_reducible show wpAny _ _ (call (Value.ref (nat_lit 400)) _) _ _ _); (refine' isname_spec ?B ?F ?X ?N ?T ?hk ?x0 ?x1 ?hd ?hu ?_; kfm_turns; (case x0 => tb_rel); (case x1 => first | assumption | exact rfl); k_whole); intro h9 tk9 F9 N9; kqd_sub)
    | walk_at "t9")
  exact ret _ _ (by assumption) (by assumption)
include B F X N Tp hk in
theorem beginsF_spec {r dx T nd : Addr} {toks : List Tk} {i : Int} {x : Str}
    (W : RdW w.params news r dx T nd toks i) (O : OdAtF toks i x) (hdp : dp ≤ 560) (hun : un ≤ 4200)
    (ret : ∀ h' tk', Fr h₀ L h' m → News h₀ L h' news → Q (.bool true) { s with heap := h', toks := tk' }) :
    wpAny (model pw w) (top9 none dp un gd cn cs L a ccd cl outer) (call (.ref (nat_lit 244)) [.ref r]) Q E s := by
  tb_start
  refine (?_ : let G9 : Prop := _; G9); intro G9
  obtain ⟨t, ht9, hk9, hf9⟩ := O.t
  unfold G9; clear G9
  have hl9 := kind_yes ht9 hk9
  have hl8 : isKind toks i 0 (Str.ofString "literal") = false := kind_no ht9 (by rw [hk9]; decide)
  refine (?_ : let G9 : Prop := _; G9); intro G9
  obtain ⟨hf1, hf2, hf3, hf4⟩ := fig_resv hf9
  unfold G9; clear G9
  have hn9 : isName toks i 0 = false := (name_is ht9 hk9).trans (by rw [hf1]; rfl)
  have hall : isTok toks i 0 (Str.ofString "word") (Str.ofString "ALL") = false := tok_no ht9 (by rw [hf3]; exact Bool.and_false _)
  refine (?_ : let G9 : Prop := _; G9); intro G9
  obtain ⟨hs1, hs2, hs3⟩ := noNum_word ht9 hk9
  unfold G9; clear G9
  refine RdW.cps W ?_
  intro hr t1 t2 t3 t4 hd nT hT ht h0 h1 hl
  ktr_enter
  with_reducible rename Fr _ _ _ (fun y => List.lookup y _) => F2
  replace F2 : Fr _ _ _ (fun y => List.lookup y [(Str.ofString "reader", .ref r)]) := F2
  (try (generalize s.toks + List.length _ = tk0))
  repeat' (first
    | ((with_reducible show wpAny _ _ (call (Value.ref (nat_lit 328)) _) _ _ _); (refine' peekt_spec ?B ?F ?X ?N ?T ?hk ?x0 ?x1 ?hd ?hu ?_; kfm_turns; (case x0 => tb_rel); (case x1 => assumption); k_whole); intro h9 tk9 F9 N9 z9; (refine TkIn.cps z9 ?_); intro ha9 a1 a2 a3 a4 b1 b2 hx9 u1 u2 m9 hq9 hw9; kqd_sub)
    | ((with_reducible show wpAny _ _ (call (Value.ref (nat_lit 357)) _) _ _ _); (first | (refine' kind0_spec ?B ?F ?X ?N ?T ?hk ?x0 ?x1 ?hd ?hu ?_; kfm_turns; (case x0 => tb_rel); (case x1 => first | assumption | exact rfl); k_whole) | (refine' kind_spec ?B ?F ?X ?N ?T ?hk ?x0 ?x1 ?x2 ?x3 ?hd ?hu ?_; kfm_turns; (case x0 => tb_rel); (case x1 => omega); (case x2 => omega); (case x3 => first | assumption | exact rfl); k_whole)); intro h9 tk9 F9 N9; kqd_sub)
    | ((with_reducible show wpAny _ _ (call (Value.ref (nat_lit 443)) _) _ _ _); (refine' number_spec ?B ?F ?X ?N ?T ?hk ?x0 ?x1 ?x2 ?x3 ?hd ?hu ?_; kfm_turns; (case x0 => tb_rel); (case x1 => first | assumption | decide +kernel); (case x2 => first | assumption | decide +kernel); (case x3 => first | assumption | decide +kernel); k_whole); intro h9 tk9 F9 N9; kqd_sub)
    | ((with_reducible show wpAny _ _ (call (Value.ref (nat_lit 400)) _) _ _ _); (refine' isname_spec ?B ?F ?X ?N ?T ?hk ?x0 ?x1 ?hd ?hu ?_; kfm_turns; (case x0 => tb_rel); (case x1 => first | assumption | exact rfl); k_whole); intro h9 tk9 F9 N9; kqd_sub)
    | walk_at "t9")
  exact (congrArg (fun b => Q (Value.bool b) _) ((contains_eq _ (spaced t.worth)).trans hf2)).mpr (ret _ _ (by assumption) (by assumption))
include B F X N Tp hk in
theorem beginsR_spec {r dx T nd : Addr} {toks : List Tk} {i : Int}
    (W : RdW w.params news r dx T nd toks i) (O : OdAtR toks i) (hdp : dp ≤ 560) (hun : un ≤ 4200)
    (ret : ∀ h' tk', Fr h₀ L h' m → News h₀ L h' news → Q (.bool true) { s with heap := h', toks := tk' }) :
    wpAny (model pw w) (top9 none dp un gd cn cs L a ccd cl outer) (call (.ref (nat_lit 244)) [.ref r]) Q E s := by
  tb_start
  refine (?_ : let G9 : Prop := _; G9); intro G9
  obtain ⟨⟨t, ht9, hk9, hx9⟩, y2, ⟨t2, ht92, hk92, hx92⟩, y4, y5, y6⟩ := O
  unfold G9; clear G9
  have hl9 := kind_yes ht9 hk9
  have hl8 : isKind toks i 0 (Str.ofString "literal") = false := kind_no ht9 (by rw [hk9]; decide)
  have hn9 : isName toks i 0 = true := (name_is ht9 hk9).trans (by rw [hx9]; exact resv_X)
  have hn92 : isName toks (i + 1 + 1) 0 = true := (name_is ht92 hk92).trans (by rw [hx92]; exact resv_R)
  have hf9 : figW t.worth = some none := by rw [hx9]; rfl
  have hall : isTok toks i 0 (Str.ofString "word") (Str.ofString "ALL") = false := tok_no ht9 (by rw [hx9]; exact (congrArg (_ && ·) (by decide : (Str.ofString "X" == Str.ofString "ALL") = false)).trans (Bool.and_false _))
  have ho9 := tok_yes y2
  have hoi9 : isTok toks (i + 1) 0 (Str.ofString "word") (Str.ofString "IN") = false := by
    refine (?_ : let G9 : Prop := _; G9); intro G9
    obtain ⟨t3, e3, _, e5⟩ := y2
    unfold G9; clear G9
    exact tok_no e3 (by rw [e5]; exact (congrArg (_ && ·) (by decide : (Str.ofString "OF" == Str.ofString "IN") = false)).trans (Bool.and_false _))
  refine (?_ : let G9 : Prop := _; G9); intro G9
  obtain ⟨hs1, hs2, hs3⟩ := noNum_word ht9 hk9
  unfold G9; clear G9
  refine RdW.cps W ?_
  intro hr t1 t2 t3 t4 hd nT hT ht h0 h1 hl
  ktr_enter
  with_reducible rename Fr _ _ _ (fun y => List.lookup y _) => F2
  replace F2 : Fr _ _ _ (fun y => List.lookup y [(Str.ofString "reader", .ref r)]) := F2
  (try (generalize s.toks + List.length _ = tk0))
  repeat' (first
    | ((with_reducible show wpAny _ _ (call (Value.ref (nat_lit 328)) _) _ _ _); (refine' peekt_spec ?B ?F ?X ?N ?T ?hk ?x0 ?x1 ?hd ?hu ?_; kfm_turns; (case x0 => tb_rel); (case x1 => assumption); k_whole); intro h9 tk9 F9 N9 z9; (refine TkIn.cps z9 ?_); intro ha9 a1 a2 a3 a4 b1 b2 hx9 u1 u2 m9 hq9 hw9; kqd_sub)
    | ((with_reducible show wpAny _ _ (call (Value.ref (nat_lit 357)) _) _ _ _); (first | (refine' kind0_spec ?B ?F ?X ?N ?T ?hk ?x0 ?x1 ?hd ?hu ?_; kfm_turns; (case x0 => tb_rel); (case x1 => first | assumption | exact rfl); k_whole) | (refine' kind_spec ?B ?F ?X ?N ?T ?hk ?x0 ?x1 ?x2 ?x3 ?hd ?hu ?_; kfm_turns; (case x0 => tb_rel); (case x1 => omega); (case x2 => omega); (case x3 => first | assumption | exact rfl); k_whole)); intro h9 tk9 F9 N9; kqd_sub)
    | ((with_reducible show wpAny _ _ (call (Value.ref (nat_lit 443)) _) _ _ _); (refine' number_spec ?B ?F ?X ?N ?T ?hk ?x0 ?x1 ?x2 ?x3 ?hd ?hu ?_; kfm_turns; (case x0 => tb_rel); (case x1 => first | assumption | decide +kernel); (case x2 => first | assumption | decide +kernel); (case x3 => first | assumption | decide +kernel); k_whole); intro h9 tk9 F9 N9; kqd_sub)
    | ((with_reducible show wpAny _ _ (call (Value.ref (nat_lit 400)) _) _ _ _); (refine' isname_spec ?B ?F ?X ?N ?T ?hk ?x0 ?x1 ?hd ?hu ?_; kfm_turns; (case x0 => tb_rel); (case x1 => first | assumption | exact rfl); k_whole); intro h9 tk9 F9 N9; kqd_sub)
    | walk_at "t9")
  exact ret _ _ (by assumption) (by assumption)
include B F X N Tp hk in
theorem begins_spec {r dx T nd : Addr} {toks : List Tk} {i : Int} {od : Od}
    (W : RdW w.params news r dx T nd toks i) (O : OdAt toks i od) (hdp : dp ≤ 560) (hun : un ≤ 4200)
    (ret : ∀ h' tk', Fr h₀ L h' m → News h₀ L h' news → Q (.bool true) { s with heap := h', toks := tk' }) :
    wpAny (model pw w) (top9 none dp un gd cn cs L a ccd cl outer) (call (.ref (nat_lit 244)) [.ref r]) Q E s := by
  cases od with
  | ref => exact beginsR_spec B F X N Tp hk W O hdp hun ret
  | fig x => exact beginsF_spec B F X N Tp hk W O hdp hun ret
  | text x => exact beginsT_spec B F X N Tp hk W O hdp hun ret

end
section
include B F X N Tp hk in
theorem operandT_spec {r dx T nd : Addr} {toks : List Tk} {i : Int} {x : Str} {rx : Value}
    (W : RdW w.params news r dx T nd toks i) (O : OdAtT toks i x) (hdp : dp ≤ 530) (hun : un ≤ 3600)
    (ret : ∀ v news' h' tk', Fr h₀ L h' m → News h₀ L h' news' → Keeps news news' → RdW w.params news' r dx T nd toks (i + 1) → OdIn news' v (.text x) → Q v { s with heap := h', toks := tk' }) :
    wpAny (model pw w) (top9 none dp un gd cn cs L a ccd cl outer) (call (.ref (nat_lit 181)) [.ref r, rx]) Q E s := by
  tb_start
  refine (?_ : let G9 : Prop := _; G9); intro G9
  obtain ⟨⟨t, ht9, hk9, hx9⟩, hp9⟩ := O
  unfold G9; clear G9
  have hl9 := kind_yes ht9 hk9
  refine (?_ : let G9 : Prop := _; G9); intro G9
  obtain ⟨hs1, hs2, hs3⟩ := noNum_lit ht9 hk9
  unfold G9; clear G9
  have hp8 : PlainT t.worth := hx9 ▸ hp9
  refine RdW.cps W ?_
  intro hr t1 t2 t3 t4 hd nT hT ht h0 h1 hl
  ktr_enter
  with_reducible rename Fr _ _ _ (fun y => List.lookup y _) => F2
  replace F2 : Fr _ _ _ (fun y => List.lookup y [(Str.ofString "read_expr", rx), (Str.ofString "reader", .ref r)]) := F2
  (try (generalize s.toks + List.length _ = tk0))
  repeat' (first
    | ((with_reducible show wpAny _ _ (call (Value.ref (nat_lit 443)) _) _ _ _); (refine' number_spec ?B ?F ?X ?N ?T ?hk ?x0 ?x1 ?x2 ?x3 ?hd ?hu ?_; kfm_turns; (case x0 => tb_rel); (case x1 => first | assumption | decide +kernel); (case x2 => first | assumption | decide +kernel); (case x3 => first | assumption | decide +kernel); k_whole); intro h9 tk9 F9 N9; kqd_sub)
    | ((with_reducible show wpAny _ _ (call (Value.ref (nat_lit 357)) _) _ _ _); (first | (refine' kind0_spec ?B ?F ?X ?N ?T ?hk ?x0 ?x1 ?hd ?hu ?_; kfm_turns; (case x0 => tb_rel); (case x1 => first | assumption | exact rfl); k_whole) | (refine' kind_spec ?B ?F ?X ?N ?T ?hk ?x0 ?x1 ?x2 ?x3 ?hd ?hu ?_; kfm_turns; (case x0 => tb_rel); (case x1 => omega); (case x2 => omega); (case x3 => first | assumption | exact rfl); k_whole)); intro h9 tk9 F9 N9; kqd_sub)
    | ((with_reducible show wpAny _ _ (call (Value.ref (nat_lit 471)) _) _ _ _); (refine' octets_spec ?B ?F ?X ?N ?T ?hk ?x0 ?x1 ?x2 ?x3 ?hd ?hu ?_; kfm_turns; (case x0 => tb_rel); (case x1 => assumption); (case x2 => assumption); (case x3 => assumption); k_whole); intro tv9; kpc_turns; kqd_sub)
    | ((with_reducible show wpAny _ _ (call (Value.ref (nat_lit 371)) _) _ _ _); (refine' skip_spec ?B ?F ?X ?N ?T ?hk ?x0 ?x1 ?x2 ?hd ?hu ?_ ?_; kfm_turns; (case x0 => tb_rel); (case x1 => first | assumption | decide +kernel); (case x2 => first | assumption | decide +kernel)); (all_goals (intro e9; (first | exact (Bool.false_ne_true (Eq.trans (Eq.symm e9) (by assumption))).elim | exact (Bool.false_ne_true (Eq.trans (Eq.symm (by assumption)) e9)).elim | ((have := (e9 : _ = false)); (clear this); intro h9 tk9 F9 N9; kqd_sub) | ((have := (e9 : _ = true)); (clear this); kpc_turns; kqd_sub)))))
    | ((with_reducible show wpAny _ _ (call (Value.ref (nat_lit 174)) _) _ _ _); (refine' figure_spec ?B ?F ?X ?N ?T ?hk ?x0 ?x1 ?x2 ?x3 ?hd ?hu ?_ ?_; kfm_turns; (case x0 => tb_rel); (case x1 => assumption); (case x2 => assumption); (case x3 => assumption)); (all_goals (first | (intro y9 ey9; cases ey9; done) | (intro e9; cases e9; done) | (intro y9 ey9; cases ey9; intro a9 w1 w2 n9; kpc_turns; intro hm9; kqd_sub) | (intro e9; cases e9; intro h9 tk9 F9 N9; kqd_sub))))
    | ((with_reducible show wpAny _ _ (call (Value.ref (nat_lit 160)) _) _ _ _); (refine' ref_spec ?B ?F ?X ?N ?T ?hk ?x0 ?x1 ?x2 ?x3 ?x4 ?x5 ?x6 ?x7 ?x8 ?x9 ?hd ?hu ?_; kfm_turns; (case x0 => tb_rel); (case x1 => assumption); (case x2 => assumption); (case x3 => assumption); (case x4 => assumption); (case x5 => assumption); (case x6 => assumption); (case x7 => assumption); (case x8 => assumption); (case x9 => assumption); k_whole); intro a9 q9 e9 w1 w2 w3 n1 n2 n3; kpc_turns; intro m1 m2 m3; kqd_sub)
    | walk_at "t9")
  subst hx9
  exact ret _ _ _ _ (by assumption) (by assumption) (by tb_rel) (by tb_rel) (.text hp8 (List.mem_cons_self ..))
include B F X N Tp hk in
theorem operandF_spec {r dx T nd : Addr} {toks : List Tk} {i : Int} {x : Str} {rx : Value}
    (W : RdW w.params news r dx T nd toks i) (O : OdAtF toks i x) (hdp : dp ≤ 530) (hun : un ≤ 3600)
    (ret : ∀ v news' h' tk', Fr h₀ L h' m → News h₀ L h' news' → Keeps news news' → RdW w.params news' r dx T nd toks (i + 1) → OdIn news' v (.fig x) → Q v { s with heap := h', toks := tk' }) :
    wpAny (model pw w) (top9 none dp un gd cn cs L a ccd cl outer) (call (.ref (nat_lit 181)) [.ref r, rx]) Q E s := by
  tb_start
  refine (?_ : let G9 : Prop := _; G9); intro G9
  obtain ⟨t, ht9, hk9, hf9⟩ := O.t
  unfold G9; clear G9
  have hl9 := kind_yes ht9 hk9
  have hl8 : isKind toks i 0 (Str.ofString "literal") = false := kind_no ht9 (by rw [hk9]; decide)
  refine (?_ : let G9 : Prop := _; G9); intro G9
  obtain ⟨hf1, hf2, hf3, hf4⟩ := fig_resv hf9
  unfold G9; clear G9
  have hn9 : isName toks i 0 = false := (name_is ht9 hk9).trans (by rw [hf1]; rfl)
  have hall : isTok toks i 0 (Str.ofString "word") (Str.ofString "ALL") = false := tok_no ht9 (by rw [hf3]; exact Bool.and_false _)
  refine (?_ : let G9 : Prop := _; G9); intro G9
  obtain ⟨hs1, hs2, hs3⟩ := noNum_word ht9 hk9
  unfold G9; clear G9
  refine RdW.cps W ?_
  intro hr t1 t2 t3 t4 hd nT hT ht h0 h1 hl
  ktr_enter
  with_reducible rename Fr _ _ _ (fun y => List.lookup y _) => F2
  replace F2 : Fr _ _ _ (fun y => List.lookup y [(Str.ofString "read_expr", rx), (Str.ofString "reader", .ref r)]) := F2
  (try (generalize s.toks + List.length _ = tk0))
  repeat' (first
    | ((with_reducible show wpAny _ _ (call (Value.ref (nat_lit 443)) _) _ _ _); (refine' number_spec ?B ?F ?X ?N ?T ?hk ?x0 ?x1 ?x2 ?x3 ?hd ?hu ?_; kfm_turns; (case x0 => tb_rel); (case x1 => first | assumption | decide +kernel); (case x2 => first | assumption | decide +kernel); (case x3 => first | assumption | decide +kernel); k_whole); intro h9 tk9 F9 N9; kqd_sub)
    | ((with_reducible show wpAny _ _ (call (Value.ref (nat_lit 357)) _) _ _ _); (first | (refine' kind0_spec ?B ?F ?X ?N ?T ?hk ?x0 ?x1 ?hd ?hu ?_; kfm_turns; (case x0 => tb_rel); (case x1 => first | assumption | exact rfl); k_whole) | (refine' kind_spec ?B ?F ?X ?N ?T ?hk ?x0 ?x1 ?x2 ?x3 ?hd ?hu ?_; kfm_turns; (case x0 => tb_rel); (case x1 => omega); (case x2 => omega); (case x3 => first | assumption | exact rfl); k_whole)); intro h9 tk9 F9 N9; kqd_sub)
    | ((with_reducible show wpAny _ _ (call (Value.ref (nat_lit 471)) _) _ _ _); (refine' octets_spec ?B ?F ?X ?N ?T ?hk ?x0 ?x1 ?x2 ?x3 ?hd ?hu ?_; kfm_turns; (case x0 => tb_rel); (case x1 => assumption); (case x2 => assumption); (case x3 => assumption); k_whole); intro tv9; kpc_turns; kqd_sub)
    | ((with_reducible show wpAny _ _ (call (Value.ref (nat_lit 371)) _) _ _ _); (refine' skip_spec ?B ?F ?X ?N ?T ?hk ?x0 ?x1 ?x2 ?hd ?hu ?_ ?_; kfm_turns; (case x0 => tb_rel); (case x1 => first | assumption | decide +kernel); (case x2 => first | assumption | decide +kernel)); (all_goals (intro e9; (first | exact (Bool.false_ne_true (Eq.trans (Eq.symm e9) (by assumption))).elim | exact (Bool.false_ne_true (Eq.trans (Eq.symm (by assumption)) e9)).elim | ((have := (e9 : _ = false)); (clear this); intro h9 tk9 F9 N9; kqd_sub) | ((have := (e9 : _ = true)); (clear this); kpc_turns; kqd_sub)))))
    | ((with_reducible show wpAny _ _ (call (Value.ref (nat_lit 174)) _) _ _ _); (refine' figure_spec ?B ?F ?X ?N ?T ?hk ?x0 ?x1 ?x2 ?x3 ?hd ?hu ?_ ?_; kfm_turns; (case x0 => tb_rel); (case x1 => assumption); (case x2 => assumption); (case x3 => assumption)); (all_goals (first | (intro y9 ey9; cases ey9; done) | (intro e9; cases e9; done) | (intro y9 ey9; cases ey9; intro a9 w1 w2 n9; kpc_turns; intro hm9; kqd_sub) | (intro e9; cases e9; intro h9 tk9 F9 N9; kqd_sub))))
    | ((with_reducible show wpAny _ _ (call (Value.ref (nat_lit 160)) _) _ _ _); (refine' ref_spec ?B ?F ?X ?N ?T ?hk ?x0 ?x1 ?x2 ?x3 ?x4 ?x5 ?x6 ?x7 ?x8 ?x9 ?hd ?hu ?_; kfm_turns; (case x0 => tb_rel); (case x1 => assumption); (case x2 => assumption); (case x3 => assumption); (case x4 => assumption); (case x5 => assumption); (case x6 => assumption); (case x7 => assumption); (case x8 => assumption); (case x9 => assumption); k_whole); intro a9 q9 e9 w1 w2 w3 n1 n2 n3; kpc_turns; intro m1 m2 m3; kqd_sub)
    | walk_at "t9")
  all_goals exact ret _ _ _ _ (by assumption) (by assumption) (by tb_rel) (by tb_rel) (.fig (by assumption))
include B F X N Tp hk in
theorem operandR_spec {r dx T nd : Addr} {toks : List Tk} {i : Int} {rx : Value}
    (W : RdW w.params news r dx T nd toks i) (O : OdAtR toks i) (hdp : dp ≤ 530) (hun : un ≤ 3600)
    (ret : ∀ v news' h' tk', Fr h₀ L h' m → News h₀ L h' news' → Keeps news news' → RdW w.params news' r dx T nd toks (i + 1 + 1 + 1) → OdIn news' v .ref → Q v { s with heap := h', toks := tk' }) :
    wpAny (model pw w) (top9 none dp un gd cn cs L a ccd cl outer) (call (.ref (nat_lit 181)) [.ref r, rx]) Q E s := by
  tb_start
  refine (?_ : let G9 : Prop := _; G9); intro G9
  obtain ⟨⟨t, ht9, hk9, hx9⟩, y2, ⟨t2, ht92, hk92, hx92⟩, y4, y5, y6⟩ := O
  unfold G9; clear G9
  have hl9 := kind_yes ht9 hk9
  have hl8 : isKind toks i 0 (Str.ofString "literal") = false := kind_no ht9 (by rw [hk9]; decide)
  have hn9 : isName toks i 0 = true := (name_is ht9 hk9).trans (by rw [hx9]; exact resv_X)
  have hn92 : isName toks (i + 1 + 1) 0 = true := (name_is ht92 hk92).trans (by rw [hx92]; exact resv_R)
  have hf9 : figW t.worth = some none := by rw [hx9]; rfl
  have hall : isTok toks i 0 (Str.ofString "word") (Str.ofString "ALL") = false := tok_no ht9 (by rw [hx9]; exact (congrArg (_ && ·) (by decide : (Str.ofString "X" == Str.ofString "ALL") = false)).trans (Bool.and_false _))
  have ho9 := tok_yes y2
  have hoi9 : isTok toks (i + 1) 0 (Str.ofString "word") (Str.ofString "IN") = false := by
    refine (?_ : let G9 : Prop := _; G9); intro G9
    obtain ⟨t3, e3, _, e5⟩ := y2
    unfold G9; clear G9
    exact tok_no e3 (by rw [e5]; exact (congrArg (_ && ·) (by decide : (Str.ofString "OF" == Str.ofString "IN") = false)).trans (Bool.and_false _))
  refine (?_ : let G9 : Prop := _; G9); intro G9
  obtain ⟨hs1, hs2, hs3⟩ := noNum_word ht9 hk9
  unfold G9; clear G9
  refine RdW.cps W ?_
  intro hr t1 t2 t3 t4 hd nT hT ht h0 h1 hl
  ktr_enter
  with_reducible rename Fr _ _ _ (fun y => List.lookup y _) => F2
  replace F2 : Fr _ _ _ (fun y => List.lookup y [(Str.ofString "read_expr", rx), (Str.ofString "reader", .ref r)]) := F2
  (try (generalize s.toks + List.length _ = tk0))
  repeat' (first
    | ((with_reducible show wpAny _ _ (call (Value.ref (nat_lit 443)) _) _ _ _); (refine' number_spec ?B ?F ?X ?N ?T ?hk ?x0 ?x1 ?x2 ?x3 ?hd ?hu ?_; kfm_turns; (case x0 => tb_rel); (case x1 => first | assumption | decide +kernel); (case x2 => first | assumption | decide +kernel); (case x3 => first | assumption | decide +kernel); k_whole); intro h9 tk9 F9 N9; kqd_sub)
    | ((with_reducible show wpAny _ _ (call (Value.ref (nat_lit 357)) _) _ _ _); (first | (refine' kind0_spec ?B ?F ?X ?N ?T ?hk ?x0 ?x1 ?hd ?hu ?_; kfm_turns; (case x0 => tb_rel); (case x1 => first | assumption | exact rfl); k_whole) | (refine' kind_spec ?B ?F ?X ?N ?T ?hk ?x0 ?x1 ?x2 ?x3 ?hd ?hu ?_; kfm_turns; (case x0 => tb_rel); (case x1 => omega); (case x2 => omega); (case x3 => first | assumption | exact rfl); k_whole)); intro h9 tk9 F9 N9; kqd_sub)
    | ((with_reducible show wpAny _ _ (call (Value.ref (nat_lit 471)) _) _ _ _); (refine' octets_spec ?B ?F ?X ?N ?T ?hk ?x0 ?x1 ?x2 ?x3 ?hd ?hu ?_; kfm_turns; (case x0 => tb_rel); (case x1 => assumption); (case x2 => assumption); (case x3 => assumption); k_whole); intro tv9; kpc_turns; kqd_sub)
    | ((with_reducible show wpAny _ _ (call (Value.ref (nat_lit 371)) _) _ _ _); (refine' skip_spec ?B ?F ?X ?N ?T ?hk ?x0 ?x1 ?x2 ?hd ?hu ?_ ?_; kfm_turns; (case x0 => tb_rel); (case x1 => first | assumption | decide +kernel); (case x2 => first | assumption | decide +kernel)); (all_goals (intro e9; (first | exact (Bool.false_ne_true (Eq.trans (Eq.symm e9) (by assumption))).elim | exact (Bool.false_ne_true (Eq.trans (Eq.symm (by assumption)) e9)).elim | ((have := (e9 : _ = false)); (clear this); intro h9 tk9 F9 N9; kqd_sub) | ((have := (e9 : _ = true)); (clear this); kpc_turns; kqd_sub)))))
    | ((with_reducible show wpAny _ _ (call (Value.ref (nat_lit 174)) _) _ _ _); (refine' figure_spec ?B ?F ?X ?N ?T ?hk ?x0 ?x1 ?x2 ?x3 ?hd ?hu ?_ ?_; kfm_turns; (case x0 => tb_rel); (case x1 => assumption); (case x2 => assumption); (case x3 => assumption)); (all_goals (first | (intro y9 ey9; cases ey9; done) | (intro e9; cases e9; done) | (intro y9 ey9; cases ey9; intro a9 w1 w2 n9; kpc_turns; intro hm9; kqd_sub) | (intro e9; cases e9; intro h9 tk9 F9 N9; kqd_sub))))
    | ((with_reducible show wpAny _ _ (call (Value.ref (nat_lit 160)) _) _ _ _); (refine' ref_spec ?B ?F ?X ?N ?T ?hk ?x0 ?x1 ?x2 ?x3 ?x4 ?x5 ?x6 ?x7 ?x8 ?x9 ?hd ?hu ?_; kfm_turns; (case x0 => tb_rel); (case x1 => assumption); (case x2 => assumption); (case x3 => assumption); (case x4 => assumption); (case x5 => assumption); (case x6 => assumption); (case x7 => assumption); (case x8 => assumption); (case x9 => assumption); k_whole); intro a9 q9 e9 w1 w2 w3 n1 n2 n3; kpc_turns; intro m1 m2 m3; kqd_sub)
    | walk_at "t9")
  all_goals exact ret _ _ _ _ (by assumption) (by assumption) (by tb_rel) (by tb_rel) (.ref (by rw [← hx9]; assumption) (by rw [← hx92]; assumption) (by assumption))
include B F X N Tp hk in
theorem operand_spec {r dx T nd : Addr} {toks : List Tk} {i : Int} {od : Od} {rx : Value}
    (W : RdW w.params news r dx T nd toks i) (O : OdAt toks i od) (hdp : dp ≤ 530) (hun : un ≤ 3600)
    (ret : ∀ v news' h' tk', Fr h₀ L h' m → News h₀ L h' news' → Keeps news news' → RdW w.params news' r dx T nd toks (i + od.len) → OdIn news' v od → Q v { s with heap := h', toks := tk' }) :
    wpAny (model pw w) (top9 none dp un gd cn cs L a ccd cl outer) (call (.ref (nat_lit 181)) [.ref r, rx]) Q E s := by
  cases od with
  | ref =>
    refine operandR_spec B F X N Tp hk W O hdp hun fun v news' h' tk' F' N' K' W' O' => ret v news' h' tk' F' N' K' ?_ O'
    have e : i + Od.ref.len = i + 1 + 1 + 1 := by
      show i + (1 + 1 + 1) = _
      omega
    rw [e]
    exact W'
  | fig x => exact operandF_spec B F X N Tp hk W O hdp hun ret
  | text x => exact operandT_spec B F X N Tp hk W O hdp hun ret

end
section
include B F X N Tp hk in
theorem ohere_spec {r dx T nd : Addr} {toks : List Tk} {i : Int} {od : Od}
    (W : RdW w.params news r dx T nd toks i) (O : OdAt toks i od) (hdp : dp ≤ 520) (hun : un ≤ 3400)
    (ret : ∀ v news' h' tk', Fr h₀ L h' m → News h₀ L h' news' → Keeps news news' → RdW w.params news' r dx T nd toks (i + od.len) → OdIn news' v od → Q v { s with heap := h', toks := tk' }) :
    wpAny (model pw w) (top9 none dp un gd cn cs L a ccd cl outer) (call (.ref (nat_lit 258)) [.ref r]) Q E s := by
  tb_start
  refine RdW.cps W ?_
  intro hr t1 t2 t3 t4 hd nT hT ht h0 h1 hl
  ktr_enter
  with_reducible rename Fr _ _ _ (fun y => List.lookup y _) => F2
  replace F2 : Fr _ _ _ (fun y => List.lookup y [(Str.ofString "reader", .ref r)]) := F2
  (try (generalize s.toks + List.length _ = tk0))
  repeat' (first
    | ((with_reducible show wpAny _ _ (call (Value.ref (nat_lit 244)) _) _ _ _); (refine' begins_spec ?B ?F ?X ?N ?T ?hk ?x0 ?x1 ?hd ?hu ?_; kfm_turns; (case x0 => tb_rel); (case x1 => assumption); k_whole); intro h9 tk9 F9 N9; kqd_sub)
    | ((with_reducible show wpAny _ _ (call (Value.ref (nat_lit 181)) _) _ _ _); (refine' operand_spec ?B ?F ?X ?N ?T ?hk ?x0 ?x1 ?hd ?hu ?_; kfm_turns; (case x0 => tb_rel); (case x1 => assumption); k_whole); intro v9; kpc_turns; intro O9; kqd_sub)
    | walk_at "t9")
  exact ret _ _ _ _ (by assumption) (by assumption) (by tb_rel) (by tb_rel) (by assumption)
include B F X N Tp hk in
theorem text_spec {r dx T nd : Addr} {toks : List Tk} {i : Int} {od : Od}
    (W : RdW w.params news r dx T nd toks i) (O : OdAt toks i od) (hdp : dp ≤ 510) (hun : un ≤ 3200)
    (ret : ∀ v news' h' tk', Fr h₀ L h' m → News h₀ L h' news' → Keeps news news' → RdW w.params news' r dx T nd toks (i + od.len) → OdIn news' v od → Q v { s with heap := h', toks := tk' }) :
    wpAny (model pw w) (top9 none dp un gd cn cs L a ccd cl outer) (call (.ref (nat_lit 265)) [.ref r]) Q E s := by
  tb_start
  refine RdW.cps W ?_
  intro hr t1 t2 t3 t4 hd nT hT ht h0 h1 hl
  ktr_enter
  with_reducible rename Fr _ _ _ (fun y => List.lookup y _) => F2
  replace F2 : Fr _ _ _ (fun y => List.lookup y [(Str.ofString "reader", .ref r)]) := F2
  (try (generalize s.toks + List.length _ = tk0))
  repeat' (first
    | ((with_reducible show wpAny _ _ (call (Value.ref (nat_lit 258)) _) _ _ _); (refine' ohere_spec ?B ?F ?X ?N ?T ?hk ?x0 ?x1 ?hd ?hu ?_; kfm_turns; (case x0 => tb_rel); (case x1 => assumption); k_whole); intro v9; kpc_turns; intro O9; cases O9 <;> kqd_sub)
    | walk_at "t9")
  all_goals exact ret _ _ _ _ (by assumption) (by assumption) (by tb_rel) (by tb_rel) (by first | exact .ref (List.mem_cons_of_mem _ (by assumption)) (List.mem_cons_of_mem _ (by assumption)) (List.mem_cons_of_mem _ (by assumption)) | exact .fig (List.mem_cons_of_mem _ (by assumption)) | exact .text (by assumption) (List.mem_cons_of_mem _ (by assumption)))

end
section
def ini (b : Bool) : Int := if b then 1 else 0
/-- a bound: behind (true) or ahead, INITIAL said or not, the text -/
structure Bd where
  af : Bool
  it : Bool
  x : Str
abbrev bWord (af : Bool) : Str := if af then Str.ofString "AFTER" else Str.ofString "BEFORE"
abbrev bNext (i : Int) (e : Bd) : Int := i + 1 + ini e.it + (Od.text e.x).len
def BdAt (toks : List Tk) : Int → List Bd → Prop
  | i, [] => isTok toks i 0 (Str.ofString "word") (Str.ofString "BEFORE") = false ∧ isTok toks i 0 (Str.ofString "word") (Str.ofString "AFTER") = false
  | i, e :: r => TkAt toks i (Str.ofString "word") (bWord e.af) ∧ isTok toks (i + 1) 0 (Str.ofString "word") (Str.ofString "INITIAL") = e.it ∧ OdAt toks (i + 1 + ini e.it) (.text e.x) ∧ BdAt toks (bNext i e) r
def bEnd : Int → List Bd → Int
  | i, [] => i
  | i, e :: r => bEnd (bNext i e) r
def bOk : List Bd → Bool
  | [] => true
  | [_] => true
  | [a, b] => a.af != b.af
  | _ => false
def bGet (af : Bool) (es : List Bd) : Option Str := (es.find? fun e => e.af == af).map (·.x)
inductive OptIn (news : List (Addr × Obj)) : Value → Option Str → Prop where
  | none : OptIn news .none none
  | some {v : Value} {x : Str} : OdIn news v (.text x) → OptIn news v (some x)
theorem OptIn.keeps {a b : List (Addr × Obj)} {v : Value} {o : Option Str} (h : OptIn a v o) (K : Keeps a b) : OptIn b v o := by
  cases h with
  | none => exact .none
  | some x => exact .some (x.keeps K)
theorem tokB {toks : List Tk} {i : Int} (h : TkAt toks i (Str.ofString "word") (bWord false)) : isTok toks i 0 (Str.ofString "word") (Str.ofString "BEFORE") = true := tok_yes h
theorem tokA {toks : List Tk} {i : Int} (h : TkAt toks i (Str.ofString "word") (bWord true)) : isTok toks i 0 (Str.ofString "word") (Str.ofString "BEFORE") = false ∧ isTok toks i 0 (Str.ofString "word") (Str.ofString "AFTER") = true :=
  ⟨by
    refine (?_ : let G9 : Prop := _; G9); intro G9
    obtain ⟨t, e, h1, h2⟩ := h
    unfold G9; clear G9
    exact tok_no e (by rw [h2]; exact (congrArg (_ && ·) (by decide +kernel : (bWord true == Str.ofString "BEFORE") = false)).trans (Bool.and_false _)), tok_yes h⟩
theorem tokNB {toks : List Tk} {i : Int} (h : TkAt toks i (Str.ofString "word") (bWord false)) : isTok toks i 0 (Str.ofString "word") (Str.ofString "AFTER") = false := by
  refine (?_ : let G9 : Prop := _; G9); intro G9
  obtain ⟨t, e, h1, h2⟩ := h
  unfold G9; clear G9
  exact tok_no e (by rw [h2]; exact (congrArg (_ && ·) (by decide +kernel : (bWord false == Str.ofString "AFTER") = false)).trans (Bool.and_false _))
theorem Loop9.ind {prog : Program} {w : World} {A : Around} {Q : Flow → Shared → Prop} {env : Env} {test : Expr} {body : List Stmt} {α : Type} {Inv : List α → Shared → Prop}
    (h0 : ∀ s, Inv [] s → wpAny (model prog w) A (isTrue test env (eval test env)) (fun b s₂ => if b = true then wpAny (model prog w) A (execs body env) (fun f s₃ => match f with
        | .next => False
        | .cont => False
        | .brk => Q .next s₃
        | .ret v => Q (.ret v) s₃) (fun _ _ => False) s₂ else Q .next s₂) (fun _ _ => False) s)
    (hs : ∀ e r s, Inv (e :: r) s → wpAny (model prog w) A (isTrue test env (eval test env)) (fun b s₂ => if b = true then wpAny (model prog w) A (execs body env) (fun f s₃ => match f with
        | .next => Inv r s₃
        | .cont => Inv r s₃
        | .brk => Q .next s₃
        | .ret v => Q (.ret v) s₃) (fun _ _ => False) s₂ else Q .next s₂) (fun _ _ => False) s) :
    ∀ es s, Inv es s → Loop9 prog w A env test body Q (es.length + 1) s
  | [], s, inv => wpAny_mono (h0 s inv) (fun b s₂ z => by
      cases b with
      | false => exact z
      | true => exact wpAny_mono z (fun f s₃ y => by
          cases f with
          | next => exact y.elim
          | cont => exact y.elim
          | brk => exact y
          | ret v => exact y) fun _ _ y => y) fun _ _ y => y
  | e :: r, s, inv => wpAny_mono (hs e r s inv) (fun b s₂ z => by
      cases b with
      | false => exact z
      | true => exact wpAny_mono z (fun f s₃ y => by
          cases f with
          | next => exact Loop9.ind h0 hs r s₃ y
          | cont => exact Loop9.ind h0 hs r s₃ y
          | brk => exact y
          | ret v => exact y) fun _ _ y => y) fun _ _ y => y
def okB : Option Str → Option Str → List Bd → Prop
  | _, _, [] => True
  | ob, oa, ⟨false, _, x⟩ :: r => ob = none ∧ okB (some x) oa r
  | ob, oa, ⟨true, _, x⟩ :: r => oa = none ∧ okB ob (some x) r
def finB : Option Str → Option Str → List Bd → Option Str × Option Str
  | ob, oa, [] => (ob, oa)
  | _, oa, ⟨false, _, x⟩ :: r => finB (some x) oa r
  | ob, _, ⟨true, _, x⟩ :: r => finB ob (some x) r
theorem ok_fin {es : List Bd} (ok : bOk es = true) : okB none none es ∧ finB none none es = (bGet false es, bGet true es) := by
  rcases es with _ | ⟨⟨a, b, x⟩, _ | ⟨⟨a', b', x'⟩, _ | ⟨c, r⟩⟩⟩
  · exact ⟨trivial, rfl⟩
  · cases a <;> exact ⟨⟨rfl, trivial⟩, rfl⟩
  · cases a <;> cases a' <;> first | exact ⟨⟨rfl, rfl, trivial⟩, rfl⟩ | cases ok
  · cases ok
theorem Fr.name {g h : Heap} {L : Addr} {m : Str → Option Value} {G : Prop} (_F : Fr g L h m) (k : ∀ g' L', g' = g → L' = L → G) : G := k g L rfl rfl
abbrev mW (vb va : Value) (r : Addr) : Str → Option Value := fun y => if y = Str.ofString "after" then some va else if y = Str.ofString "before" then some vb else List.lookup y [(Str.ofString "reader", .ref r)]
/-- ahead of a turn of the loop of bounds -/
structure InvW (P : Params) (g : Heap) (L r dx T nd : Addr) (toks : List Tk) (news : List (Addr × Obj)) (e0 : Int) (B0 A0 : Option Str) (es : List Bd) (i : Int) (l : List (Addr × Obj)) (vb va : Value) (ob oa : Option Str) (h : Heap) : Prop where
  q : BdAt toks i es
  ok : okB ob oa es
  W : RdW P l r dx T nd toks i
  Ob : OptIn l vb ob
  Oa : OptIn l va oa
  K : Keeps news l
  F : Fr g L h (mW vb va r)
  N : News g L h l
  e : bEnd i es = e0
  f : finB ob oa es = (B0, A0)
def InvX (P : Params) (s : Shared) (g : Heap) (L r dx T nd : Addr) (toks : List Tk) (news : List (Addr × Obj)) (e0 : Int) (B0 A0 : Option Str) (es : List Bd) (s' : Shared) : Prop := ∃ i l vb va ob oa h tk, s' = { s with heap := h, toks := tk } ∧ InvW P g L r dx T nd toks news e0 B0 A0 es i l vb va ob oa h
theorem mW_a {v vb va : Value} {r : Addr} : (fun y => if y = Str.ofString "after" then some v else mW vb va r y) = mW vb v r := by
  funext y
  unfold mW
  split <;> rfl
theorem mW_b {v vb va : Value} {r : Addr} : (fun y => if y = Str.ofString "before" then some v else mW vb va r y) = mW v va r := by
  funext y
  unfold mW
  by_cases h1 : y = Str.ofString "before"
  · rw [if_pos h1, if_neg (by rw [h1]; decide +kernel), if_pos h1]
  by_cases h2 : y = Str.ofString "after"
  · rw [if_neg h1, if_pos h2, if_pos h2]
  rw [if_neg h1, if_neg h2, if_neg h1, if_neg h2, if_neg h1]
theorem is_od {M : Model} {A : Around} {E : Value → Shared → Prop} {s : Shared} {news : List (Addr × Obj)} {v : Value} {o : Od} {Q : Value → Shared → Prop} (O : OdIn news v o) (h : Q (.bool false) s) : wpAny M A (compareOp .Is v .none) Q E s := is_none_ne (by cases O <;> (intro x; cases x)) h
include B F X N Tp hk in
theorem skipI_spec {r dx T nd : Addr} {toks : List Tk} {i : Int} {b : Bool} {tk : Tok}
    (W : RdW w.params news r dx T nd toks i) (hI : isTok toks i 0 (Str.ofString "word") (Str.ofString "INITIAL") = b) (hdp : dp ≤ 550) (hun : un ≤ 4000)
    (ret : ∀ v news' h' tk', Fr h₀ L h' m → News h₀ L h' news' → Keeps news news' → RdW w.params news' r dx T nd toks (i + ini b) → Q (.bool v) { s with heap := h', toks := tk' }) :
    wpAny (model pw w) (top9 none dp un gd cn cs L a ccd cl outer) (call (.ref (nat_lit 371)) [.ref r, .str (Str.ofString "INITIAL") tk]) Q E s := by
  refine skip_spec B F X N Tp hk W (by decide +kernel) (by decide +kernel) (by omega) (by omega) (fun e => ?_) (fun e => ?_)
  · intro news' h' tk' F' N' K' W'
    rw [hI] at e
    subst e
    exact ret _ news' h' tk' F' N' K' W'
  · intro h' tk' F' N'
    rw [hI] at e
    subst e
    refine ret _ news h' tk' F' N' (Keeps.refl _) ?_
    have e : i + ini false = i := by
      show i + 0 = i
      omega
    rw [e]
    exact W
include B F X N Tp hk in
theorem bounds_spec {r dx T nd : Addr} {toks : List Tk} {i : Int} {es : List Bd}
    (W : RdW w.params news r dx T nd toks i) (O : BdAt toks i es) (ok : bOk es = true) (hdp : dp ≤ 500) (hun : un ≤ 3000)
    (ret : ∀ a vb va n news' h' tk', Fr h₀ L h' m → News h₀ L h' news' → Keeps news news' → RdW w.params news' r dx T nd toks (bEnd i es) → (a, tupOf [vb, va] n) ∈ news' → OptIn news' vb (bGet false es) → OptIn news' va (bGet true es) → Q (.ref a) { s with heap := h', toks := tk' }) :
    wpAny (model pw w) (top9 none dp un gd cn cs L a ccd cl outer) (call (.ref (nat_lit 272)) [.ref r]) Q E s := by
  tb_start
  ktr_enter
  with_reducible rename Fr _ _ _ (fun y => List.lookup y _) => F2
  replace F2 : Fr _ _ _ (fun y => List.lookup y [(Str.ofString "reader", .ref r)]) := F2
  (try (generalize s.toks + List.length _ = tk0))
  repeat' (first
    | ((with_reducible show wpAny _ _ (exec (Stmt.While _ _ _ _) _) _ _ _); (refine Halt.go ?_))
    | walk_at "t9")
  refine Halt.back ?_
  with_reducible rename Fr _ _ _ _ => F2
  with_reducible rename News _ _ _ _ => N2
  refine Fr.name F2 fun g9 L9 eg eL => ?_
  subst eg eL
  refine While9 (es.length + 1) ?_
  refine Loop9.ind (Inv := InvX w.params s g9 L9 r dx T nd toks news (bEnd i es) (bGet false es) (bGet true es)) ?_ ?_ es _ ⟨i, _, .none, .none, none, none, _, _, rfl, ⟨O, (ok_fin ok).1, W.mono (fun q hq => List.mem_cons_of_mem _ hq), .none, .none, (Keeps.refl _).cons, F2, N2, rfl, (ok_fin ok).2⟩⟩
  · intro s1 hx9_1
    refine (?_ : let G9 : Prop := _; G9); intro G9
    obtain ⟨i1, l1, vb, va, ob, oa, h1, tk1, eq9_0, ⟨⟨q1, q2⟩, -, W9, Ob, Oa, K9, F9, N9, e9, f9⟩⟩ := hx9_1
    unfold G9; clear G9
    subst eq9_0
    clear O ok W N2 F2
    injection f9 with f1 f2
    replace W9 : RdW w.params l1 r dx T nd toks (bEnd i es) := (show i1 = bEnd i es from e9) ▸ W9
    replace q1 : isTok toks (bEnd i es) 0 (Str.ofString "word") (Str.ofString "BEFORE") = false := (show i1 = bEnd i es from e9) ▸ q1
    replace q2 : isTok toks (bEnd i es) 0 (Str.ofString "word") (Str.ofString "AFTER") = false := (show i1 = bEnd i es from e9) ▸ q2
    clear e9
    refine RdW.cps4 W9 ?_
    intro hr9 x1 x2 x3 x4 hd9 n9 hT9 ht9
    cases Ob <;> cases Oa
    all_goals
      repeat' (first
        | ((with_reducible show wpAny _ _ (call (Value.ref (nat_lit 371)) _) _ _ _); (refine' skip_spec ?B ?F ?X ?N ?T ?hk ?x0 ?x1 ?x2 ?hd ?hu ?_ ?_; kfm_turns; (case x0 => tb_rel); (case x1 => first | assumption | decide +kernel); (case x2 => first | assumption | decide +kernel)); (all_goals (intro e9; (first | exact (Bool.false_ne_true (Eq.trans (Eq.symm e9) (by assumption))).elim | exact (Bool.false_ne_true (Eq.trans (Eq.symm (by assumption)) e9)).elim | ((have := (e9 : _ = false)); (clear this); intro h9 tk9 F9 N9; kqd_sub) | ((have := (e9 : _ = true)); (clear this); kpc_turns; kqd_sub)))))
        | ((with_reducible show wpAny _ _ (compareOp CmpOp.Is _ Value.none) _ _ _); (refine is_od (by assumption) ?_))
        | walk_at "t9")
    all_goals exact ret _ _ _ _ _ _ _ (by assumption) (by assumption) (by tb_rel) (by tb_rel) (List.mem_cons_self ..) (by rw [← f1]; first | exact OptIn.none | exact OptIn.some (OdIn.keeps (by assumption) (by tb_rel))) (by rw [← f2]; first | exact OptIn.none | exact OptIn.some (OdIn.keeps (by assumption) (by tb_rel)))
  · intro e r1 s1 hx9_3
    refine (?_ : let G9 : Prop := _; G9); intro G9
    obtain ⟨i1, l1, vb, va, ob, oa, h1, tk1, eq9_0, ⟨q, ok1, W9, Ob, Oa, K9, F9, N9, eE, fE⟩⟩ := hx9_3
    unfold G9; clear G9
    subst eq9_0
    clear O ok W N2 F2
    refine (?_ : let G9 : Prop := _; G9); intro G9
    obtain ⟨af, it, x⟩ := e
    unfold G9; clear G9
    refine (?_ : let G9 : Prop := _; G9); intro G9
    obtain ⟨z1, i9, o9, q⟩ := q
    unfold G9; clear G9
    cases af with
    | false =>
      obtain ⟨eb, ok1⟩ := ok1
      subst eb
      cases Ob
      have hB1 := tokB z1
      dsimp only [bNext] at *
      refine RdW.cps4 W9 ?_
      intro hr9 x1 x2 x3 x4 hd9 n9 hT9 ht9
      repeat' (first
        | ((with_reducible show wpAny _ _ (call (Value.ref (nat_lit 371)) [_, Value.str (Str.ofString "INITIAL") _]) _ _ _); (refine' skipI_spec ?B ?F ?X ?N ?T ?hk ?x0 ?x1 ?hd ?hu ?_; kfm_turns; (case x0 => tb_rel); (case x1 => assumption); k_whole); intro v9; kpc_turns; kqd_sub)
        | ((with_reducible show wpAny _ _ (call (Value.ref (nat_lit 371)) _) _ _ _); (refine' skip_spec ?B ?F ?X ?N ?T ?hk ?x0 ?x1 ?x2 ?hd ?hu ?_ ?_; kfm_turns; (case x0 => tb_rel); (case x1 => first | assumption | decide +kernel); (case x2 => first | assumption | decide +kernel)); (all_goals (intro e9; (first | exact (Bool.false_ne_true (Eq.trans (Eq.symm e9) (by assumption))).elim | exact (Bool.false_ne_true (Eq.trans (Eq.symm (by assumption)) e9)).elim | ((have := (e9 : _ = false)); (clear this); intro h9 tk9 F9 N9; kqd_sub) | ((have := (e9 : _ = true)); (clear this); kpc_turns; kqd_sub)))))
        | ((with_reducible show wpAny _ _ (call (Value.ref (nat_lit 265)) _) _ _ _); (refine' text_spec ?B ?F ?X ?N ?T ?hk ?x0 ?x1 ?hd ?hu ?_; kfm_turns; (case x0 => tb_rel); (case x1 => assumption); k_whole); intro v9; kpc_turns; intro O9; kqd_sub)
        | ((with_reducible show wpAny _ _ (compareOp CmpOp.Is _ Value.none) _ _ _); (refine is_od (by assumption) ?_))
        | walk_at "t9")
      exact ⟨_, _, _, _, _, _, _, _, rfl, ⟨q, ok1, by assumption, .some O9, Oa.keeps (by tb_rel), by tb_rel, mW_b ▸ (by assumption), by assumption, eE, fE⟩⟩
    | true =>
      obtain ⟨eb, ok1⟩ := ok1
      subst eb
      obtain ⟨hA1, hA2⟩ := tokA z1
      dsimp only [bNext] at *
      refine RdW.cps4 W9 ?_
      intro hr9 x1 x2 x3 x4 hd9 n9 hT9 ht9
      cases Oa
      have Ob2 := Ob
      cases Ob
      all_goals
        repeat' (first
          | ((with_reducible show wpAny _ _ (call (Value.ref (nat_lit 371)) [_, Value.str (Str.ofString "INITIAL") _]) _ _ _); (refine' skipI_spec ?B ?F ?X ?N ?T ?hk ?x0 ?x1 ?hd ?hu ?_; kfm_turns; (case x0 => tb_rel); (case x1 => assumption); k_whole); intro v9; kpc_turns; kqd_sub)
          | ((with_reducible show wpAny _ _ (call (Value.ref (nat_lit 371)) _) _ _ _); (refine' skip_spec ?B ?F ?X ?N ?T ?hk ?x0 ?x1 ?x2 ?hd ?hu ?_ ?_; kfm_turns; (case x0 => tb_rel); (case x1 => first | assumption | decide +kernel); (case x2 => first | assumption | decide +kernel)); (all_goals (intro e9; (first | exact (Bool.false_ne_true (Eq.trans (Eq.symm e9) (by assumption))).elim | exact (Bool.false_ne_true (Eq.trans (Eq.symm (by assumption)) e9)).elim | ((have := (e9 : _ = false)); (clear this); intro h9 tk9 F9 N9; kqd_sub) | ((have := (e9 : _ = true)); (clear this); kpc_turns; kqd_sub)))))
          | ((with_reducible show wpAny _ _ (call (Value.ref (nat_lit 265)) _) _ _ _); (refine' text_spec ?B ?F ?X ?N ?T ?hk ?x0 ?x1 ?hd ?hu ?_; kfm_turns; (case x0 => tb_rel); (case x1 => assumption); k_whole); intro v9; kpc_turns; intro O9; kqd_sub)
          | ((with_reducible show wpAny _ _ (compareOp CmpOp.Is _ Value.none) _ _ _); (refine is_od (by assumption) ?_))
          | walk_at "t9")
      all_goals exact ⟨_, _, _, _, _, _, _, _, rfl, ⟨q, ok1, by assumption, Ob2.keeps (by tb_rel), .some O9, by tb_rel, mW_a ▸ (by assumption), by assumption, eE, fE⟩⟩

end
section
inductive OpIn (news : List (Addr × Obj)) : Value → Option Od → Prop where
  | none : OpIn news .none none
  | some {v : Value} {o : Od} : OdIn news v o → OpIn news v (some o)
theorem OpIn.keeps {a b : List (Addr × Obj)} {v : Value} {o : Option Od} (h : OpIn a v o) (K : Keeps a b) : OpIn b v o := by
  cases h with
  | none => exact .none
  | some x => exact .some (x.keeps K)
/-- may what is put in stand for what is sought -/
def meets (op : Option Od) (od : Od) : Bool := match od with
  | .text x => (match op with
    | some .ref => true
    | some (.text y) => decide (((bts x).size : Int) = ((bts y).size : Int))
    | _ => decide (((bts x).size : Int) = 1))
  | _ => true
theorem bts_fit {x : Str} (p : PlainT x) : (bts x).size ≤ 1099511627776 := by
  have h : (bts x).size = x.cps.toList.length := by unfold bts; rw [List.size_toArray, List.length_map]
  have := p.h4
  omega
include B F X N Tp hk in
theorem widths_spec {vo vb : Value} {op : Option Od} {od : Od}
    (P : OpIn news vo op) (O : OdIn news vb od) (hdp : dp ≤ 560) (hun : un ≤ 4200)
    (ret : ∀ b h' tk', Fr h₀ L h' m → News h₀ L h' news → b = meets op od → Q (.bool b) { s with heap := h', toks := tk' }) :
    wpAny (model pw w) (top9 hdl dp un gd cn cs L a ccd cl outer) (call (.ref (nat_lit 279)) [vo, vb]) Q E s := by
  tb_start
  cases O with
  | ref x y z =>
    ktr_enter
    with_reducible rename Fr _ _ _ (fun y => List.lookup y _) => F2
    replace F2 : Fr _ _ _ (fun y => List.lookup y [(Str.ofString "by", _), (Str.ofString "operand", _)]) := F2
    (try (generalize s.toks + List.length _ = tk0))
    repeat' (first
        | ((with_reducible show wpAny _ _ (call (Value.builtin "len") [Value.bytes (bts _) _]) _ _ _); (refine len_bytes (bts_fit (by assumption)) ?_))
        | walk_at "t9")
    exact ret _ _ _ (by assumption) (by assumption) rfl
  | fig x =>
    ktr_enter
    with_reducible rename Fr _ _ _ (fun y => List.lookup y _) => F2
    replace F2 : Fr _ _ _ (fun y => List.lookup y [(Str.ofString "by", _), (Str.ofString "operand", _)]) := F2
    (try (generalize s.toks + List.length _ = tk0))
    repeat' (first
        | ((with_reducible show wpAny _ _ (call (Value.builtin "len") [Value.bytes (bts _) _]) _ _ _); (refine len_bytes (bts_fit (by assumption)) ?_))
        | walk_at "t9")
    exact ret _ _ _ (by assumption) (by assumption) rfl
  | text q x =>
    cases P with
    | none =>
    ktr_enter
    with_reducible rename Fr _ _ _ (fun y => List.lookup y _) => F2
    replace F2 : Fr _ _ _ (fun y => List.lookup y [(Str.ofString "by", _), (Str.ofString "operand", _)]) := F2
    (try (generalize s.toks + List.length _ = tk0))
    repeat' (first
        | ((with_reducible show wpAny _ _ (call (Value.builtin "len") [Value.bytes (bts _) _]) _ _ _); (refine len_bytes (bts_fit (by assumption)) ?_))
        | walk_at "t9")
    exact ret _ _ _ (by assumption) (by assumption) rfl
    | some P2 =>
    cases P2 with
    | ref x' y' z' =>
    ktr_enter
    with_reducible rename Fr _ _ _ (fun y => List.lookup y _) => F2
    replace F2 : Fr _ _ _ (fun y => List.lookup y [(Str.ofString "by", _), (Str.ofString "operand", _)]) := F2
    (try (generalize s.toks + List.length _ = tk0))
    repeat' (first
        | ((with_reducible show wpAny _ _ (call (Value.builtin "len") [Value.bytes (bts _) _]) _ _ _); (refine len_bytes (bts_fit (by assumption)) ?_))
        | walk_at "t9")
    exact ret _ _ _ (by assumption) (by assumption) rfl
    | fig x' =>
    ktr_enter
    with_reducible rename Fr _ _ _ (fun y => List.lookup y _) => F2
    replace F2 : Fr _ _ _ (fun y => List.lookup y [(Str.ofString "by", _), (Str.ofString "operand", _)]) := F2
    (try (generalize s.toks + List.length _ = tk0))
    repeat' (first
        | ((with_reducible show wpAny _ _ (call (Value.builtin "len") [Value.bytes (bts _) _]) _ _ _); (refine len_bytes (bts_fit (by assumption)) ?_))
        | walk_at "t9")
    exact ret _ _ _ (by assumption) (by assumption) rfl
    | text q' x' =>
    ktr_enter
    with_reducible rename Fr _ _ _ (fun y => List.lookup y _) => F2
    replace F2 : Fr _ _ _ (fun y => List.lookup y [(Str.ofString "by", _), (Str.ofString "operand", _)]) := F2
    (try (generalize s.toks + List.length _ = tk0))
    repeat' (first
        | ((with_reducible show wpAny _ _ (call (Value.builtin "len") [Value.bytes (bts _) _]) _ _ _); (refine len_bytes (bts_fit (by assumption)) ?_))
        | walk_at "t9")
    exact ret _ _ _ (by assumption) (by assumption) rfl

end
section
section
open Builtin Builtin.ObjectAttr
variable {w : World} {A : Around} {E : Value → Shared → Prop} {s : Shared} {h₀ : Heap} {L e d t : Addr} {m : Str → Option Value} {rest news : List (Addr × Obj)}
abbrev exObj (d : Option Addr) (t : Addr) : Obj := { cls := .ref 72, dict := d, data := .fields #[.ref t, .none, .none, .none, .bool false, .none] }
abbrev cd72 : ClassData := { name := Str.ofString "GrammarFault", bases := [.ref 47], mro := [.ref 72, .ref 47, .type "Exception", .type "BaseException", .type "object"], ns := 71, qualname := Str.ofString "GrammarFault", hasDict := true, slotNames := [], subclasses := [], abstract := false, collection := none, hasDel := false }
theorem in72 (P : Params) : clsIn (KW P) 72 = some cd72 := rfl
theorem mro72 (P : Params) (b : Value) : mroIn (KW P) 72 b = some (cd72.mro.contains b) := rfl
theorem exa_open {name : Str} {tk : Tok} {v : Value} {ox : Obj} {od : Option Obj} {R : Result → Shared → Prop} (X : (KW w.params).In s.heap) (I : InstAt s.heap e ox 72 od) (ht : findIn (KW w.params) (.ref 72) name = some none)
    (h : wpAny (model pw w) A.in1 (storeInOwnDict (.ref e) (.ref 72) (.str name tk) name v false)
      (fun fin s' => match fin with | .done f => R (.ok f) s' | .again c' => c'.quiet = true ∧ codeAny (model pw w) A c' R s') (fun e s' => R (.error e) s') s) :
    codeAny (model pw w) A (.call (.builtin "object.__setattr__") ⟨[.ref e, .str name tk, v], []⟩) R s := by
  have SF := PySem.F.store_Exception
  have sub : Looks (model pw w) s.heap (isInstance (.ref e) (.type "object")) true := I.type.andThen (looks_mroIn X ((mro72 _ _).trans (congrArg some (by decide))))
  refine codeAny_call_builtin SF.slot.plain SF.entry (@check_slot (model pw w) _ _ s "object.__setattr__" "object" "__setattr__" (.ref e) [.str name tk, v] [] _ SF.kind SF.split sub (SF.args (.ref e) (.str name tk) v) ?_)
  have hm : Looks (model pw w) s.heap (mroOf (.ref 72)) cd72.mro := (looks_clsIn X (in72 _)).andThen .now
  rw [osa_eq, refuse_eq]
  refine wpAny_bind (wpAny_bind (I.type.here (wpAny_bind (hm.here ?_))))
  rw [refuseLoop_ref, refuseLoop_ref, SF.passes]
  exact wpAny_pure (wpAny_bind (I.type.here (wpAny_bind ((looks_findIn X ht).here (wpAny_bind (Looks.now.here h))))))
/-- the store into a dict that stands -/
theorem exd_store {name : Str} {tk : Tok} {v : Value} {es es' : List DictEntry} {n n' : Nat} {Q : Fin → Shared → Prop} {A : Around} {pre : List (Addr × Obj)} (F : Fr h₀ L s.heap m) (N : News h₀ L s.heap (pre ++ (d, dictOf es n) :: rest)) (h1 : ∀ p ∈ pre, p.1 ≠ d) (h2 : ∀ p ∈ rest, p.1 ≠ d)
    (hl : (getL name es).isSome = true) (e9 : (putL name (PyData.keyHash w.params name) (.str name s.toks) v es, putN name es n) = (es', n')) (hz : es'.length ≤ 1000)
    (h : ∀ h', Fr h₀ L h' m → News h₀ L h' (pre ++ (d, dictOf es' n') :: rest) → Q (.done (.ret .none)) { s with heap := h', toks := s.toks + 1 }) :
    wpAny (model pw w) A (storeInDict d (.str name tk) name v) Q E s := by
  obtain ⟨e1, e2⟩ := Prod.mk.inj e9
  have e3 : Obj.putName name (PyData.keyHash w.params name) (.str name s.toks) v (dictOf es n) = dictOf es' n' := by rw [putName_dict, e1, e2]
  obtain ⟨U1, U2⟩ := news_upd (f := Obj.putName name (PyData.keyHash w.params name) (.str name s.toks) v) F N h1 h2 e3 rfl
  have D := (N (d, dictOf es n) (by simp)).1
  have D' := (U2 (d, dictOf es' n') (by simp)).1
  unfold storeInDict newKeyGuard
  refine wpAny_bind (wpAny_pure (wpAny_bind ?_))
  unfold nsSet
  refine wpAny_bind (wpAny_bind (wpAny_askSetting (wpAny_pure (wpAny_bind (wpAny_mkText (wpAny_bind (wpAny_loadPart D ?_)))))))
  dsimp only
  have c : (!es.toArray.any (·.key.isStr name) && es.toArray.any (·.refKey)) = false := by
    rw [← Array.any_toList, ← Array.any_toList]
    unfold getL at hl
    split at hl
    · rename_i en he
      rw [List.any_eq_true.mpr ⟨en, List.mem_of_find?_eq_some he, List.find?_some he⟩]; rfl
    · split at hl
      · cases hl
      · rename_i z; rw [Bool.not_eq_true] at z; rw [z, Bool.and_false]
  rw [aRefKeyMayBeTheName_at, c]
  refine wpAny_updatePart D ?_
  refine wpAny_bind (wpAny_lookBehind D' (by exact pastItsLine_dict (by rw [List.size_toArray, sizeLine_eq]; omega)) ?_)
  exact wpAny_pure (h _ U1 U2)
theorem ex_store {name : Str} {tk : Tok} {v : Value} {es es' : List DictEntry} {n n' : Nat} {R : Result → Shared → Prop} {pre : List (Addr × Obj)} (X : (KW w.params).In s.heap) (F : Fr h₀ L s.heap m) (N : News h₀ L s.heap (pre ++ (d, dictOf es n) :: rest)) (h1 : ∀ p ∈ pre, p.1 ≠ d) (h2 : ∀ p ∈ rest, p.1 ≠ d)
    (hx : s.heap.get? e = some (exObj (some d) t)) (ht : findIn (KW w.params) (.ref 72) name = some none)
    (hl : (getL name es).isSome = true) (e9 : (putL name (PyData.keyHash w.params name) (.str name s.toks) v es, putN name es n) = (es', n')) (hz : es'.length ≤ 1000)
    (h : ∀ h', Fr h₀ L h' m → News h₀ L h' (pre ++ (d, dictOf es' n') :: rest) → R (.ok (.ret .none)) { s with heap := h', toks := s.toks + 1 }) :
    codeAny (model pw w) A (.call (.builtin "object.__setattr__") ⟨[.ref e, .str name tk, v], []⟩) R s := by
  have D := (N (d, dictOf es n) (by simp)).1
  refine exa_open (od := some (dictOf es n)) X ⟨hx, rfl, rfl, D⟩ ht ?_
  refine wpAny_bind (wpAny_pure (wpAny_bind (wpAny_bind (wpAny_loadPart hx (wpAny_bind ((looks_clsIn X (in72 _)).here ?_))))))
  exact wpAny_pure (a := some d) (exd_store F N h1 h2 hl e9 hz h)
theorem ex_store0 {name : Str} {tk : Tok} {v : Value} {es' : List DictEntry} {n' : Nat} {R : Result → Shared → Prop} (X : (KW w.params).In s.heap) (F : Fr h₀ L s.heap m) (N : News h₀ L s.heap ((e, exObj none t) :: rest)) (h2 : ∀ p ∈ rest, p.1 ≠ e)
    (ht : findIn (KW w.params) (.ref 72) name = some none)
    (e9 : (putL name (PyData.keyHash w.params name) (.str name s.toks) v [], putN name [] 0) = (es', n')) (hz : es'.length ≤ 1000)
    (h : ∀ d h', Fr h₀ L h' m → News h₀ L h' ((e, exObj (some d) t) :: (d, dictOf es' n') :: rest) → (∀ p ∈ rest, p.1 ≠ d) → e ≠ d → R (.ok (.ret .none)) { s with heap := h', toks := s.toks + 1 }) :
    codeAny (model pw w) A (.call (.builtin "object.__setattr__") ⟨[.ref e, .str name tk, v], []⟩) R s := by
  have hx := (N _ (List.mem_cons_self ..)).1
  refine exa_open (od := none) X ⟨hx, rfl, rfl, trivial⟩ ht ?_
  refine wpAny_bind (wpAny_pure (wpAny_bind (wpAny_bind (wpAny_loadPart hx (wpAny_bind ((looks_clsIn X (in72 _)).here ?_))))))
  have N1 := News.push F N (dictOf [] 0)
  have F1 := Fr.push F (dictOf [] 0)
  have ne : e ≠ s.heap.objs.size := Nat.ne_of_lt (Heap.lt_size hx)
  have ne2 : ∀ p ∈ rest, p.1 ≠ s.heap.objs.size := fun p hp => Nat.ne_of_lt (Heap.lt_size (N p (List.mem_cons_of_mem _ hp)).1)
  obtain ⟨F2, N2⟩ := news_upd (pre := [(s.heap.objs.size, dictOf [] 0)]) (d := e) (f := fun o => { o with dict := some s.heap.objs.size }) (o' := exObj (some s.heap.objs.size) t) F1 N1 (fun p hp => by
    rcases List.mem_cons.mp hp with rfl | hp
    · exact Ne.symm ne
    · cases hp) h2 rfl rfl
  have hx1 := (N1 _ (List.mem_cons_of_mem _ (List.mem_cons_self ..))).1
  refine wpAny_bind (wpAny_alloc' (wpAny_bind (wpAny_update' hx1 (wpAny_pure ?_))))
  refine exd_store (pre := []) (d := s.heap.objs.size) F2 N2 (fun _ hp => nomatch hp) (fun p hp => ?_) rfl e9 hz fun h' F' N' => h _ h' F' (fun q hq => N' q ?_) ne2 ne
  · rcases List.mem_cons.mp hp with rfl | hp
    · exact ne
    · exact ne2 p hp
  · rcases List.mem_cons.mp hq with rfl | hq
    · exact List.mem_cons_of_mem _ (List.mem_cons_self ..)
    · rcases List.mem_cons.mp hq with rfl | hq
      · exact List.mem_cons_self ..
      · exact List.mem_cons_of_mem _ (List.mem_cons_of_mem _ hq)
end

end
section
section
variable {w : World} {A : Around} {E : Value → Shared → Prop} {s : Shared} {h₀ : Heap} {L e d t : Addr} {m : Str → Option Value} {rest news : List (Addr × Obj)}
theorem cls72 {h : Heap} {P : Params} (X : (KW P).In h) : h.get? 72 = some (excClassObj (Str.ofString "GrammarFault") (Str.ofString "GrammarFault") 72 71 [.ref 47] [.ref 47, .type "Exception", .type "BaseException", .type "object"] true [] [] false none none
    (some (.ref 63)) none (some (.str (Str.ofString "GrammarFault") 252)) (some (.str (Str.ofString "GrammarFault") 260)) (some (.bool true)) "Exception.__new__") := X _ _ rfl
abbrev bm72 : List Value := [.ref 47, .type "Exception", .type "BaseException", .type "object"]
theorem exi_check {M : Model} {h : Heap} {g : Array GenState} {dr : Drawn} {tk : Nat} {os : OsState} {P : Params} {oe : Obj} {x : Value} {Q : Unit → Shared → Prop} (X : (KW P).In h) (he : h.get? e = some oe) (hcls : oe.cls = .ref 72) (q : Q () ⟨h, g, dr, tk, os⟩) :
    wpAny M A (checkBuiltinCall "Exception.__init__" ⟨[.ref e, x], []⟩) Q E ⟨h, g, dr, tk, os⟩ := by
  have EF := PySem.F.excBase_Exception
  have hC := cls72 X
  have hcB : (Value.ref 72 :: bm72).contains (.type "Exception") = true := by decide
  have hshort := EF.noStar
  simp only [checkBuiltinCall, EF.initKind, EF.initSplit, EF.initRow]
  repeat (first | (with_reducible refine wpAny_loadPart_at he ?_; rw [hcls]) | with_reducible refine wpAny_loadPart_at hC ?_ | (with_reducible refine wpAny_isSubtype_exc hC ?_; rw [hcB]) | wp_step)
  exact q
theorem ex_init {x : Value} {Q : Value → Shared → Prop} (X : (KW w.params).In s.heap) (F : Fr h₀ L s.heap m) (N : News h₀ L s.heap ((e, exObj none t) :: rest)) (h2 : ∀ p ∈ rest, p.1 ≠ e)
    (h : ∀ t' h', Fr h₀ L h' m → News h₀ L h' ((e, exObj none t') :: (t', tupOf [x] 0) :: rest) → (∀ p ∈ ((t', tupOf [x] 0) :: rest), p.1 ≠ e) → (∀ p ∈ rest, p.1 ≠ t') → Q .none { s with heap := h' }) :
    wpAny (model pw w) A (call (.builtin "Exception.__init__") [.ref e, x]) Q E s := by
  have EF := PySem.F.excBase_Exception
  have hx := (N _ (List.mem_cons_self ..)).1
  refine wpAny_call (codeAny_call_builtin EF.init.plain EF.initEntry (exi_check X hx rfl ?_))
  unfold Builtin.«BaseException.__init__»
  dsimp only
  rw [if_neg (by decide)]
  have ne : e ≠ s.heap.objs.size := Nat.ne_of_lt (Heap.lt_size hx)
  refine wpAny_bind (newTuple_N (hsz := by show 1 ≤ _; rw [sizeLine_eq]; decide) F N fun h1 F1 N1 => ?_)
  have hx1 := (N1 _ (List.mem_cons_of_mem _ (List.mem_cons_self ..))).1
  obtain ⟨F2, N2⟩ := news_upd (pre := [(s.heap.objs.size, tupOf [x] 0)]) (d := e) (f := Obj.mapFields (·.setIfInBounds 0 (.ref s.heap.objs.size))) (o' := exObj none s.heap.objs.size) F1 N1 (fun p hp => by
    rcases List.mem_cons.mp hp with rfl | hp
    · exact Ne.symm ne
    · cases hp) h2 rfl rfl
  unfold Builtin.BaseException.bexcPut
  refine wpAny_bind (wpAny_bind (wpAny_field hx1 rfl (x := .ref t) rfl (wpAny_bind (wpAny_setField hx1 rfl (by show 0 < 6; decide) ?_))))
  have z := h _ _ F2 (fun q hq => N2 q (by
    rcases List.mem_cons.mp hq with rfl | hq
    · exact List.mem_cons_of_mem _ (List.mem_cons_self ..)
    · rcases List.mem_cons.mp hq with rfl | hq
      · exact List.mem_cons_self ..
      · exact List.mem_cons_of_mem _ (List.mem_cons_of_mem _ hq))) (fun p hp => by
    rcases List.mem_cons.mp hp with rfl | hp
    · exact Ne.symm ne
    · exact h2 p hp) (fun p hp => Nat.ne_of_lt (Heap.lt_size (N p (List.mem_cons_of_mem _ hp)).1))
  dsimp only
  unfold letGo
  refine wpAny_bind (wpAny_holding (wpAny_point ?_))
  unfold letGo
  exact wpAny_pure (wpAny_pure z)
theorem ex_new {A : Around} {h : Heap} {g : Array GenState} {dr : Drawn} {tk : Nat} {os : OsState} {R : Result → Shared → Prop} {args : List Value} {P : Params} (X : (KW P).In h) (hz : args.length ≤ 100)
    (hq : R (.ok (.ret (.ref (h.objs.size + 1)))) ⟨(h.push (tupOf args 0)).push (exObj none h.objs.size), g, dr, tk, os⟩) :
    codeAny (model pw w) A (.builtin "Exception.__new__" ⟨.ref 72 :: args, []⟩) R ⟨h, g, dr, tk, os⟩ := by
  have EF := PySem.F.excBase_Exception
  have hC := cls72 X
  have hends := EF.ends
  have hcB : (Value.ref 72 :: bm72).contains (.type "Exception") = true := by decide
  have hcA : (Value.ref 72 :: bm72).contains (.type "AttributeError") = false := by decide
  have hcN : (Value.ref 72 :: bm72).contains (.type "NameError") = false := by decide
  have hrest : args.length ≤ sizeLine := by rw [sizeLine_eq]; omega
  refine codeAny_builtinAt EF.entry ?_
  unfold Builtin.«BaseException.__new__»
  refine PySem.wpAt_bind ?_
  show PySem.wpAt _ _ _ (stack >>= _) _ _ _
  refine PySem.wpAt_bind (PySem.wpAt_stack fun p below => PySem.wpAt_of_wpAny ?_)
  wp_walk
  refine PySem.wpAt_of_wpAny ?_
  rw [EF.owner]
  repeat (first | with_reducible refine wpAny_madeHere_exc EF.canon hC ?_ | with_reducible refine wpAny_loadPart_at hC ?_ | (with_reducible refine wpAny_isSubtype_exc hC ?_; first | rw [hcB] | rw [hcA] | rw [hcN]) | wp_step)
  show R _ _
  rw [Heap.size_push]
  exact hq
theorem ex_checkNew {M : Model} {h : Heap} {g : Array GenState} {dr : Drawn} {tk : Nat} {os : OsState} {args : List Value} {Q : Unit → Shared → Prop} {P : Params} (X : (KW P).In h) (hq : Q () ⟨h, g, dr, tk, os⟩) : wpAny M A (checkBuiltinCall "Exception.__new__" ⟨.ref 72 :: args, []⟩) Q E ⟨h, g, dr, tk, os⟩ := by
  have EF := PySem.F.excBase_Exception
  have hC := cls72 X
  have hcont : (Value.ref 72 :: bm72).contains (.type "Exception") = true := by decide
  have hstar := EF.noStar
  simp only [checkBuiltinCall, EF.newKind, EF.newSplit, EF.newRow]
  repeat (first | refine wpAny_loadPart_at hC ?_ | (refine wpAny_isSubtype_exc hC ?_; rw [hcont]) | refine wpAny_staticBase_exc hC ?_ | refine wpAny_madeBy_exc hC ?_ | simp only [bne_self_eq_false, Bool.false_eq_true, if_false] | wp_step)
  exact hq
end

end
section
section
variable {w : World} {A : Around} {E : Value → Shared → Prop}
theorem ex_typeCall {h : Heap} {g : Array GenState} {dr : Drawn} {tk : Nat} {os : OsState} {args : List Value} {Q : Fin → Shared → Prop} {P : Params} (X : (KW P).In h) (hz : args.length ≤ 100)
    (hq : ∀ h' e, Heap.MadeExcOf h h' e (.ref 72) args →
      wpAny (model pw w) A (call (.ref 37) (.ref e :: args)) (fun r s' => r = .none ∧ Q (.done (.ret (.ref e))) s') E ⟨h', g, dr, tk, os⟩) :
    wpAny (model pw w) A (Builtin.«type.__call__» ⟨.ref 72 :: args, []⟩) Q E ⟨h, g, dr, tk, os⟩ := by
  have EF := PySem.F.excBase_Exception
  have hC := cls72 X
  repeat (first | with_reducible refine wpAny_loadPart_at hC ?_ | with_reducible refine wpAny_madeBy_exc hC ?_ | wp_step)
  refine codeAny_call_builtin_code (Code.quiet_builtin _ EF.quiet) (ex_checkNew X ?_)
  refine ex_new X hz ?_
  show wpAny _ _ _ _ _ _
  have k1 : ∀ b o, h.get? b = some o → ((h.push (tupOf args 0)).push (exObj none h.objs.size)).get? b = some o := fun b o q => Heap.get?_push_of_some _ (Heap.get?_push_of_some _ q)
  have X1 : (KW P).In ((h.push (tupOf args 0)).push (exObj none h.objs.size)) := X.keeps k1
  have hC1 := cls72 X1
  have hfI1 := X1 37 _ rfl
  have hget : ((h.push (tupOf args 0)).push (exObj none h.objs.size)).get? (h.objs.size + 1) = some (exObj none h.objs.size) := by heap_get
  have hcC : (Value.ref 72 :: bm72).contains (.ref 72) = true := by decide
  unfold isInstance
  repeat (first | with_reducible refine wpAny_loadPart_at hget ?_ | (with_reducible refine wpAny_isSubtype_exc hC1 ?_; rw [hcC]) | wp_step)
  show wpAny _ _ (typeLookup (.ref 72) _) _ _ _
  refine (looks_findIn X1 (show findIn (KW P) (.ref 72) (Str.ofString "__init__") = some (some (.ref 37)) from rfl)).at ?_
  refine wpAny_holding (wpAny_bind ?_)
  unfold bindSpecial
  refine wpAny_bind (wpAny_typeOf (T := "function") ⟨_, hfI1, rfl⟩ ?_)
  rw [if_pos (by decide)]
  refine wpAny_pure (wpAny_bind (wpAny_mono (hq _ (h.objs.size + 1) ⟨k1, Heap.get?_none_of_le (Nat.le_succ _), h.objs.size, hget, Heap.get?_none_of_le (Nat.le_refl _), ?_⟩) (fun r s' hr => ?_) fun _ _ x => x))
  · exact Heap.get?_push_of_some _ (Heap.get?_push_at rfl rfl)
  · obtain ⟨rfl, hQ⟩ := hr
    wp_walk
    exact hQ
theorem ex_make {s : Shared} {args : List Value} {Q : Value → Shared → Prop} {P : Params} (X : (KW P).In s.heap) (hz : args.length ≤ 100)
    (hq : ∀ h' e, Heap.MadeExcOf s.heap h' e (.ref 72) args →
      wpAny (model pw w) (A.under (.builtin "type.__call__" ⟨.ref 72 :: args, []⟩)) (call (.ref 37) (.ref e :: args)) (fun r s' => r = .none ∧ Q (.ref e) s') E { s with heap := h' }) :
    wpAny (model pw w) A (call (.ref 72) args) Q E s := by
  refine (?_ : let G9 : Prop := _; G9); intro G9
  obtain ⟨h, g, dr, tk, os⟩ := s
  unfold G9; clear G9
  have hC := cls72 X
  have f1 := tc_lookup
  have f2 := tc_bind (.ref 72)
  have hT : (⟨h, g, dr, tk, os⟩ : Shared).TypeIs (.ref 72) "type" := ⟨_, hC, rfl⟩
  refine wpAny_call (codeAny_of_tree ?_)
  show wpAny _ _ (callAny (.ref 72) _) _ _ _
  repeat (any_goals (first | assumption | with_reducible refine wpAny_loadPart_at hC ?_ | wp_step))
  refine ⟨rfl, ?_⟩
  refine codeAny_call_builtin_at (Code.quiet_builtin _ (by decide +kernel)) entry_typeCall (wpAny_check_type_call_sub hC (ex_typeCall X hz fun h' e hm => ?_))
  exact hq h' e hm
set_option maxRecDepth 100000 in
set_option maxHeartbeats 4000000 in
theorem ex_meth {s : Shared} {h₀ : Heap} {L : Addr} {m : Str → Option Value} {pl : Sem Bool} {Q : Value × List Value → Shared → Prop} {P : Params} (F : Fr h₀ L s.heap m) (X : (KW P).In h₀) (h : Q (.builtin "Exception.__init__", []) { s with toks := s.toks + 1 }) :
    wpAny (model pw w) A (getMethod (.type "Exception") (Str.ofString "__init__") pl) Q E s :=
  method_type (T := "Exception") (v := .builtin "Exception.__init__") F X (by kernel_rfl) (by decide +kernel) (by rfl) rfl h
end

end
section
section
variable {w : World} {A : Around} {E : Value → Shared → Prop} {s : Shared} {h₀ : Heap} {L e d t : Addr} {m : Str → Option Value} {rest news : List (Addr × Obj)} {name : Str} {v : Value} {es es' : List DictEntry} {n n' : Nat} {Q : Unit → Shared → Prop}
theorem ex_set0 (X₀ : (KW w.params).In h₀) (F : Fr h₀ L s.heap m) (N : News h₀ L s.heap ((e, exObj none t) :: rest)) (h2 : ∀ p ∈ rest, p.1 ≠ e) (hs : findIn (KW w.params) (.ref 72) "__setattr__" = some (some (.builtin "object.__setattr__"))) (ht : findIn (KW w.params) (.ref 72) name = some none)
    (e9 : (putL name (PyData.keyHash w.params name) (.str name (s.toks + 1)) v [], putN name [] 0) = (es', n')) (hz : es'.length ≤ 1000)
    (h : ∀ d h', Fr h₀ L h' m → News h₀ L h' ((e, exObj (some d) t) :: (d, dictOf es' n') :: rest) → (∀ p ∈ rest, p.1 ≠ d) → e ≠ d → Q () { s with heap := h', toks := s.toks + 2 }) :
    wpAny (model pw w) A (setAttr (.ref e) name v) Q E s := by
  have hx := (N _ (List.mem_cons_self ..)).1
  exact set_plain (od := none) (X₀.keeps F.keep) ⟨hx, rfl, rfl, trivial⟩ hs (ex_store0 (s := { s with toks := s.toks + 1 }) (X₀.keeps F.keep) F N h2 ht e9 hz fun d h' F' N' a b => h d h' F' N' a b)
theorem ex_set (X₀ : (KW w.params).In h₀) (F : Fr h₀ L s.heap m) (N : News h₀ L s.heap ((e, exObj (some d) t) :: (d, dictOf es n) :: rest)) (h1 : e ≠ d) (h2 : ∀ p ∈ rest, p.1 ≠ d) (hs : findIn (KW w.params) (.ref 72) "__setattr__" = some (some (.builtin "object.__setattr__"))) (ht : findIn (KW w.params) (.ref 72) name = some none)
    (hl : (getL name es).isSome = true) (e9 : (putL name (PyData.keyHash w.params name) (.str name (s.toks + 1)) v es, putN name es n) = (es', n')) (hz : es'.length ≤ 1000)
    (h : ∀ h', Fr h₀ L h' m → News h₀ L h' ((e, exObj (some d) t) :: (d, dictOf es' n') :: rest) → Q () { s with heap := h', toks := s.toks + 2 }) :
    wpAny (model pw w) A (setAttr (.ref e) name v) Q E s := by
  have hx := (N _ (List.mem_cons_self ..)).1
  have D := (N _ (List.mem_cons_of_mem _ (List.mem_cons_self ..))).1
  exact set_plain (od := some (dictOf es n)) (X₀.keeps F.keep) ⟨hx, rfl, rfl, D⟩ hs (ex_store (pre := [(e, exObj (some d) t)]) (s := { s with toks := s.toks + 1 }) (X₀.keeps F.keep) F N (fun p hp => by
    rcases List.mem_cons.mp hp with rfl | hp
    · exact h1
    · cases hp) h2 hx ht hl e9 hz fun h' F' N' => h h' F' N')
end
theorem init_spec {w : World} {p : Program} {loose : List Str} {mean : ExcName → Option Value} {mg mb : Str → Option Value}
    {dp un : Nat} {gd : Option (List Code)} {cn : Str} {cs : Scope} {a : Addr} {ccd : Value} {cl : List (Str × Addr)} {outer : List Env} {A₀ : Around} {base h₀ : Heap} {L : Addr} {m : Str → Option Value} {news : List (Addr × Obj)} {s : Shared}
    {Q E : Value → Shared → Prop} {e q t : Addr} {what : Str} {tw : Tok} {rest : List (Addr × Obj)}
    (B : Below A₀ base outer h₀) (F : Fr h₀ L s.heap m) (X : (KW w.params).In h₀) (N : News h₀ L s.heap ((e, exObj none t) :: rest)) (Tp : Top p loose mean mg mb h₀) (hk : cs.kind = .function)
    (hap : ∀ p ∈ rest, p.1 ≠ e) (hdp : dp ≤ 560) (hun : un ≤ 4200)
    (ret : ∀ t' d es n h' tk', Fr h₀ L h' m → News h₀ L h' ((e, exObj (some d) t') :: (d, dictOf es n) :: (t', tupOf [.str what tw] 0) :: rest) → getL (Str.ofString "at") es = some (some (.ref q)) → (∀ p ∈ rest, p.1 ≠ t') → Q .none { s with heap := h', toks := tk' }) :
    wpAny (model pw w) (top9 none dp un gd cn cs L a ccd cl outer) (call (.ref (nat_lit 37)) [.ref e, .str what tw, .ref q]) Q E s := by
  tb_start
  ktr_enter
  with_reducible rename Fr _ _ _ (fun y => List.lookup y _) => F2
  replace F2 : Fr _ _ _ (fun y => List.lookup y [(Str.ofString "at", .ref q), (Str.ofString "what", .str what tw), (Str.ofString "self", .ref e)]) := F2
  (try (generalize s.toks + List.length _ = tk0))
  repeat' (first
    | ((with_reducible show wpAny _ _ (getMethod (Value.type "Exception") _ _) _ _ _); k_dflt (refine ex_meth (by k_asm) (by k_asm) ?_))
    | ((with_reducible show wpAny _ _ (call (Value.builtin "Exception.__init__") _) _ _ _); (refine ex_init (Frag.In.keeps (by k_asm) (Fr.keep (by k_asm))) (by k_asm) (by k_asm) (by assumption) ?_); intro t9 h9 F9 N9 ap9 at9)
    | ((with_reducible show wpAny _ _ (setAttr (Value.ref _) _ _) _ _ _); (first | (refine ex_set0 (by k_asm) (by k_asm) (by assumption) (by assumption) rfl rfl rfl (Nat.le_of_ble_eq_true rfl) ?_; intro d9 h9 F9 N9 ap9 ne9) | (refine ex_set (by k_asm) (by k_asm) (by assumption) (by assumption) (by assumption) rfl rfl rfl rfl (Nat.le_of_ble_eq_true rfl) ?_; intro h9 F9 N9)))
    | walk_at "t9")
  exact ret _ _ _ _ _ _ (by assumption) (by assumption) rfl (by assumption)

end
section
section
variable {w : World} {A : Around} {E : Value → Shared → Prop} {s : Shared} {h₀ h' : Heap} {L e : Addr} {m : Str → Option Value} {news : List (Addr × Obj)} {args : List Value} {Q : Value → Shared → Prop}
theorem ex_made (F : Fr h₀ L s.heap m) (N : News h₀ L s.heap news) (hm : Heap.MadeExcOf s.heap h' e (.ref 72) args) : Fr h₀ L h' m ∧ ∃ t, News h₀ L h' ((e, exObj none t) :: (t, tupOf args 0) :: news) ∧ ∀ p ∈ (t, tupOf args 0) :: news, p.1 ≠ e := by
  refine (?_ : let G9 : Prop := _; G9); intro G9
  obtain ⟨t, he, htn, ht⟩ := hm.there
  unfold G9; clear G9
  have up : ∀ b, s.heap.get? b = none → h₀.get? b = none := fun b hb => by
    cases q : h₀.get? b with
    | none => rfl
    | some o => have := F.keep b o q; rw [hb] at this; cases this
  have F1 := F.keeps hm.keeps
  have N1 : News h₀ L h' news := fun p hp => ⟨hm.keeps _ _ (N p hp).1, (N p hp).2⟩
  have N2 := News.more F1 N1 ht (fun es n q => by cases q) (up t htn)
  refine ⟨F1, t, News.more F1 N2 he (fun es n q => by cases q) (up e hm.new), fun p hp q => ?_⟩
  rcases List.mem_cons.mp hp with rfl | hp
  · have z : some _ = some _ := he.symm.trans ((congrArg h'.get? q.symm).trans ht)
    cases z
  · have := (N p hp).1
    rw [q, hm.new] at this
    cases this
theorem ex_call (X₀ : (KW w.params).In h₀) (F : Fr h₀ L s.heap m) (N : News h₀ L s.heap news) (hz : args.length ≤ 100)
    (h : ∀ h' e t, Fr h₀ L h' m → News h₀ L h' ((e, exObj none t) :: (t, tupOf args 0) :: news) → (∀ p ∈ (t, tupOf args 0) :: news, p.1 ≠ e) →
      wpAny (model pw w) (A.under (.builtin "type.__call__" ⟨.ref 72 :: args, []⟩)) (call (.ref 37) (.ref e :: args)) (fun r s' => r = .none ∧ Q (.ref e) s') E { s with heap := h' }) :
    wpAny (model pw w) A (call (.ref 72) args) Q E s :=
  ex_make (X₀.keeps F.keep) hz fun h' e hm =>
    let ⟨F1, t, N1, ap⟩ := ex_made F N hm
    h h' e t F1 N1 ap
end
theorem tk_ne {toks : List Tk} {i : Int} {t : Tk} (h : tkAt toks i 0 = some t) : toks ≠ [] := by
  rintro rfl
  have := tkAt_mem h
  cases this
theorem toks_true {prog : Program} {w : World} {A : Around} {E : Value → Shared → Prop} {s : Shared} {h₀ : Heap} {L T : Addr} {news : List (Addr × Obj)} {toks : List Tk} {n : Nat} {Q : Bool → Shared → Prop} (N : News h₀ L s.heap news) (hm : (T, listOf (toks.map fun t => Value.ref t.a).toArray n) ∈ news)
    (hne : toks ≠ []) (hl : toks.length ≤ 60) (h : Q true { s with toks := s.toks + 1 + 1 }) : wpAny (model prog w) A (truthy (.ref T)) Q E s := by
  refine wpAny_truthy_list (News.isList N hm) (by rw [List.size_toArray, List.length_map]; omega) ?_
  cases toks with
  | nil => exact absurd rfl hne
  | cons a r => exact h
theorem item_tk {prog : Program} {w : World} {A : Around} {E : Value → Shared → Prop} {s : Shared} {h₀ : Heap} {L l : Addr} {news : List (Addr × Obj)} {n : Nat} {Q : Value → Shared → Prop} {toks : List Tk} {i k : Int} {t : Tk} {u : Tok} {value slice : Expr}
    (N : News h₀ L s.heap news) (hm : (l, listOf (toks.map fun t => Value.ref t.a).toArray n) ∈ news) (hl : toks.length ≤ 60) (ht9 : tkAt toks i 0 = some t) (e : k = i) (h0 : 0 ≤ i) (h : Q (.ref t.a) s)
    (hs : subscripted slice false (.ref l) (.int k u) = operate [.ref l, .int k u] (getItem (.ref l) (.int k u))) (hg : ∀ r, letTemporaryGo value (.ref l) r = pure ()) :
    wpAny (model prog w) A (subscriptTail value slice (.ref l) (.int k u)) Q E s := by
  subst e
  have hlt := tkAt_lt ht9
  refine item_mem N hm h0 (by omega) ?_ h hs hg
  unfold tkAt at ht9
  rw [if_pos hlt, Int.add_zero] at ht9
  rw [List.getElem?_toArray, List.getElem?_map, ht9]
  rfl
include B F X N Tp hk in
theorem fault_spec {r dx T nd : Addr} {toks : List Tk} {i : Int} {t : Tk} {what : Str} {tw : Tok}
    (W : RdW w.params news r dx T nd toks i) (ht9 : tkAt toks i 0 = some t) (hdp : dp ≤ 550) (hun : un ≤ 4000)
    (ret : ∀ e t' d es n news' h' tk', Fr h₀ L h' m → News h₀ L h' ((e, exObj (some d) t') :: news') → (d, dictOf es n) ∈ news' → (t', tupOf [.str what tw] 0) ∈ news' → (∀ q ∈ news, q.1 ≠ e ∧ q.1 ≠ t') → getL (Str.ofString "at") es = some (some (.ref t.q)) → (∀ q ∈ news, q ∈ news') → Q (.ref e) { s with heap := h', toks := tk' }) :
    wpAny (model pw w) (top9 none dp un gd cn cs L a ccd cl outer) (call (.ref (nat_lit 342)) [.ref r, .str what tw]) Q E s := by
  tb_start
  have hne9 := tk_ne ht9
  have hlt9 := tkAt_lt ht9
  have z9 := W.ht t (tkAt_mem ht9)
  refine (?_ : let G9 : Prop := _; G9); intro G9
  obtain ⟨ha9, ⟨a1, a2, a3, a4, b1, b2, hx9⟩, ⟨u1, u2, m9, hq9⟩, hw9⟩ := z9
  unfold G9; clear G9
  refine RdW.cps W ?_
  intro hr t1 t2 t3 t4 hd nT hT ht h0 h1 hl
  ktr_enter
  with_reducible rename Fr _ _ _ (fun y => List.lookup y _) => F2
  replace F2 : Fr _ _ _ (fun y => List.lookup y [(Str.ofString "what", .str what tw), (Str.ofString "self", .ref r)]) := F2
  (try (generalize s.toks + List.length _ = tk0))
  repeat' (first
    | ((with_reducible show wpAny _ _ (truthy (Value.ref _)) _ _ _); k_dflt (refine toks_true (by k_asm) (by k_mem) (by assumption) (by assumption) ?_))
    | ((with_reducible show wpAny _ _ (subscriptTail _ _ (Value.ref _) (Value.int (ite _ _ _) _)) _ _ _); k_dflt (refine' item_tk ?k1 ?k2 ?k3 ?k4 ?k5 ?k6 ?_ ?k7 ?k8; (case k7 => with_unfolding_all rfl); (case k8 => intro _; with_unfolding_all rfl); (case k1 => k_asm); (case k2 => k_mem); (case k3 => assumption); (case k4 => assumption); (case k5 => exact if_neg (by rw [List.size_toArray, List.length_map]; omega)); (case k6 => assumption); k_whole))
    | ((with_reducible show wpAny _ _ (call (Value.ref (nat_lit 72)) _) _ _ _); (refine ex_call (by k_asm) (by k_asm) (by k_asm) (Nat.le_of_ble_eq_true rfl) ?_); intro h9 e9 t9 F9 N9 ap9)
    | ((with_reducible show wpAny _ _ (call (Value.ref (nat_lit 37)) _) _ _ _); (refine' init_spec (news := []) ?B ?F ?X ?N ?T ?hk ?x0 ?hd ?hu ?_; (case B => k_asm); (case F => k_asm); (case X => k_asm); (case N => k_asm); (case T => k_asm); (case hk => exact rfl); (case x0 => assumption); (case hd => exact Nat.le_trans (Nat.le_of_eq (by rfl : _ = dp + 1 + 1)) (by omega)); (case hu => first | exact Nat.le_trans (Nat.le_of_eq (by rfl : _ = un + 3 + 1)) (by omega) | exact Nat.le_trans (Nat.le_of_eq (by rfl : _ = un + 3 + 2)) (by omega) | exact Nat.le_trans (Nat.le_of_eq (by rfl : _ = un + 3 + 4)) (by omega) | exact Nat.le_trans (Nat.le_of_eq (by rfl : _ = un + 3 + 0)) (by omega)); k_whole); intro t9 d9 es9 n9 h9 tk9 F9 N9 g9 at9; (refine ⟨rfl, ?_⟩); kqd_sub)
    | walk_at "t9")
  exact ret _ _ _ _ _ _ _ _ (by assumption) (by assumption) (List.mem_cons_self ..) (List.mem_cons_of_mem _ (List.mem_cons_self ..)) (fun q hq => ⟨(by assumption : ∀ p ∈ _ :: news, p.1 ≠ e9) q (List.mem_cons_of_mem _ hq), (by assumption : ∀ p ∈ _ :: news, p.1 ≠ t9) q (List.mem_cons_of_mem _ hq)⟩) (by assumption) (fun q hq => by repeat (first | exact hq | refine List.mem_cons_of_mem _ ?_))

end
section
/-- a tree whose stores leave each object's own dict, and that calls nothing -/
def Tame {α : Type} : Sem α → Prop
  | .pure _ => True
  | .raise _ => True
  | .unsupported _ => True
  | .finish _ => True
  | .rule _ k => Tame (k ())
  | .at _ k => Tame (k ())
  | .load _ _ k => ∀ o, Tame (k o)
  | .update _ _ f k => (∀ o, (f o).dict = o.dict ∧ (f o).isFreed = o.isFreed) ∧ Tame (k ())
  | .alloc _ k => ∀ a, Tame (k a)
  | .loadIfAlive _ k => ∀ o, Tame (k o)
  | .point _ k => Tame (k ())
  | .register _ _ => True
  | .fresh k => ∀ t, Tame (k t)
  | .ask k => ∀ x, Tame (k x)
  | .stack k => ∀ l, Tame (k l)
  | .handled _ k => ∀ v, Tame (k v)
  | .thread k => Tame (k 0)
  | _ => False
def SameD (h h' : Heap) : Prop := ∀ b o, h.get? b = some o → ∃ o', h'.get? b = some o' ∧ o'.dict = o.dict
theorem SameD.refl (h : Heap) : SameD h h := fun _ o e => ⟨o, e, rfl⟩
theorem SameD.trans {a b c : Heap} (x : SameD a b) (y : SameD b c) : SameD a c := fun l o e =>
  let ⟨o1, e1, q1⟩ := x l o e
  let ⟨o2, e2, q2⟩ := y l o1 e1
  ⟨o2, e2, q2.trans q1⟩
theorem SameD.push (h : Heap) (o : Obj) : SameD h (h.push o) := fun _ o' e => ⟨o', Heap.get?_push_of_some _ e, rfl⟩
theorem SameD.update (h : Heap) (a : Addr) (f : Obj → Obj) (hf : ∀ o, (f o).dict = o.dict ∧ (f o).isFreed = o.isFreed) : SameD h (h.update a f) := fun b o e => by
  by_cases q : a = b
  · subst q
    exact ⟨f o, Heap.get?_update_self f e ((hf o).2.trans (Heap.get?_some_iff.mp e).2), (hf o).1⟩
  · exact ⟨o, (Heap.get?_update_other _ _ q).trans e, rfl⟩
theorem wp_tame {α : Type} {M : Model} {Γ : PySem.Ctx} (t : Sem α) : ∀ {Q : α → Pos → Shared → Prop} {E : Value → Pos → Shared → Prop} {p : Pos} {s : Shared}, Tame t → Sem.wp M Γ t Q E p s → Sem.wp M Γ t (fun a p' s' => Q a p' s' ∧ SameD s.heap s'.heap) E p s := by
  induction t with
  | pure a => intro Q E p s _ h; rw [Sem.wp_pure] at h ⊢; exact ⟨h, .refl _⟩
  | raise e => intro Q E p s _ h; rw [Sem.wp_raise] at h ⊢; exact h
  | unsupported _ => intro Q E p s _ h; rw [Sem.wp_unsupported] at h; exact h.elim
  | finish _ => intro Q E p s _ h; rw [Sem.wp_finish] at h; exact h.elim
  | rule tag k ih => intro Q E p s ht h; rw [Sem.wp_rule] at h ⊢; exact ih _ ht h
  | «at» pos k ih => intro Q E p s ht h; rw [Sem.wp_at] at h ⊢; exact ih _ ht h
  | load a part k ih => intro Q E p s ht h; rw [Sem.wp_load] at h ⊢; obtain ⟨o, ho, h⟩ := h; exact ⟨o, ho, ih _ (ht o) h⟩
  | update a part f k ih =>
    intro Q E p s ht h
    rw [Sem.wp_update] at h ⊢
    refine ⟨h.1, ?_⟩
    exact Sem.wp_mono _ _ _ (fun a' p' s' z => ⟨z.1, (SameD.update s.heap a f ht.1).trans z.2⟩) (fun _ _ _ z => z) _ _ (ih _ ht.2 h.2)
  | alloc o k ih =>
    intro Q E p s ht h
    rw [Sem.wp_alloc] at h ⊢
    exact Sem.wp_mono _ _ _ (fun a' p' s' z => ⟨z.1, (SameD.push s.heap o).trans z.2⟩) (fun _ _ _ z => z) _ _ (ih _ (ht _) h)
  | loadIfAlive a k ih => intro Q E p s ht h; rw [Sem.wp_loadIfAlive] at h ⊢; exact ih _ (ht _) h
  | point l k ih => intro Q E p s ht h; rw [Sem.wp_point] at h ⊢; exact ih _ ht h
  | register a k ih => intro Q E p s ht h; rw [Sem.wp_register] at h; exact h.elim
  | fresh k ih => intro Q E p s ht h; rw [Sem.wp_fresh] at h ⊢; exact ih _ (ht _) h
  | ask k ih => intro Q E p s ht h; rw [Sem.wp_ask] at h ⊢; exact ih _ (ht _) h
  | stack k ih => intro Q E p s ht h; rw [Sem.wp_stack] at h ⊢; exact ih _ (ht _) h
  | handled own k ih => intro Q E p s ht h; rw [Sem.wp_handled] at h ⊢; exact ih _ (ht _) h
  | thread k ih => intro Q E p s ht h; rw [Sem.wp_thread] at h ⊢; exact ih _ ht h
  | choose _ _ _ _ => intro Q E p s ht _; exact ht.elim
  | os _ _ _ _ => intro Q E p s ht _; exact ht.elim
  | call _ _ _ _ _ _ => intro Q E p s ht _; exact ht.elim
  | newGen _ _ _ => intro Q E p s ht _; exact ht.elim
  | genState _ _ _ => intro Q E p s ht _; exact ht.elim
  | resume _ _ _ _ _ => intro Q E p s ht _; exact ht.elim
  | yield _ _ _ _ _ => intro Q E p s ht _; exact ht.elim
  | fork _ _ _ => intro Q E p s ht _; exact ht.elim
  | await _ _ _ _ _ _ => intro Q E p s ht _; exact ht.elim
theorem wpAny_tame {α : Type} {M : Model} {A : Around} {t : Sem α} {Q : α → Shared → Prop} {E : Value → Shared → Prop} {s : Shared} (ht : Tame t) (h : wpAny M A t Q E s) : wpAny M A t (fun a s' => Q a s' ∧ SameD s.heap s'.heap) E s := fun Γ p hΓ => wp_tame t ht (h Γ p hΓ)
theorem tame_bind' {α β : Type} (m : Sem α) {f : α → Sem β} (h2 : ∀ a, Tame (f a)) : Tame m → Tame (m.bind f) := by
  induction m with
  | pure a => intro _; exact h2 a
  | raise e => intro _; trivial
  | unsupported _ => intro _; trivial
  | finish _ => intro _; trivial
  | rule tag k ih => intro h; exact ih _ h
  | «at» pos k ih => intro h; exact ih _ h
  | load a part k ih => intro h o; exact ih _ (h o)
  | update a part f k ih => intro h; exact ⟨h.1, ih _ h.2⟩
  | alloc o k ih => intro h a; exact ih _ (h a)
  | loadIfAlive a k ih => intro h a; exact ih _ (h a)
  | point l k ih => intro h; exact ih _ h
  | register a k ih => intro h; trivial
  | fresh k ih => intro h a; exact ih _ (h a)
  | ask k ih => intro h a; exact ih _ (h a)
  | stack k ih => intro h a; exact ih _ (h a)
  | handled own k ih => intro h a; exact ih _ (h a)
  | thread k ih => intro h; exact ih _ h
  | choose _ _ _ _ => intro h; exact h.elim
  | os _ _ _ _ => intro h; exact h.elim
  | call _ _ _ _ _ _ => intro h; exact h.elim
  | newGen _ _ _ => intro h; exact h.elim
  | genState _ _ _ => intro h; exact h.elim
  | resume _ _ _ _ _ => intro h; exact h.elim
  | yield _ _ _ _ _ => intro h; exact h.elim
  | fork _ _ _ => intro h; exact h.elim
  | await _ _ _ _ _ _ => intro h; exact h.elim
theorem tame_bind {α β : Type} {m : Sem α} {f : α → Sem β} (h1 : Tame m) (h2 : ∀ a, Tame (f a)) : Tame (m >>= f) := tame_bind' m h2 h1
theorem tame_pure {α : Type} (a : α) : Tame (Pure.pure a : Sem α) := trivial
theorem tame_uns {α : Type} (x : String) : Tame (unsupported x : Sem α) := trivial
theorem tame_fieldsOf (v : Value) : Tame (fieldsOf v) := by
  unfold fieldsOf
  cases v <;> first | exact tame_uns _ | skip
  refine tame_bind (fun _ => trivial) fun o => ?_
  split
  · exact tame_pure _
  · exact tame_uns _
theorem tame_field (v : Value) (i : Nat) : Tame (field v i) := tame_bind (tame_fieldsOf v) fun o => by
  split
  · exact tame_pure _
  · exact tame_uns _
theorem tame_map (g : Array Value → Array Value) (o : Obj) : (Obj.mapFields g o).dict = o.dict ∧ (Obj.mapFields g o).isFreed = o.isFreed := by
  refine (?_ : let G9 : Prop := _; G9); intro G9
  obtain ⟨c, d, dt, sl⟩ := o
  unfold G9; clear G9
  cases dt <;> exact ⟨rfl, rfl⟩
theorem tame_setField (v : Value) (i : Nat) (x : Value) : Tame (setField v i x) := by
  unfold setField
  cases v <;> first | exact tame_uns _ | skip
  unfold updateField
  refine tame_bind (fun _ => trivial) fun o => ?_
  split
  · split
    · exact ⟨tame_map _, trivial⟩
    · exact tame_uns _
  · exact tame_uns _
theorem tame_setFlight (e : Value) (f : Option Addr) : Tame (setFlight e f) := tame_bind (tame_field _ _) fun tb => by
  split
  · exact tame_setField _ _ _
  · exact tame_pure _
theorem tame_ready : ∀ l : List Env, Tame (readyFrames l)
  | [] => tame_pure _
  | env :: outer => by
    unfold readyFrames
    split
    · rename_i f _
      refine tame_bind (fun _ => trivial) fun o => ?_
      split
      · exact tame_pure _
      · refine tame_bind ?_ fun im => tame_bind ?_ fun back => tame_bind ⟨fun o => ⟨rfl, ?_⟩, trivial⟩ fun _ => tame_ready outer
        · unfold behindIsImport
          split
          · exact tame_pure _
          · split
            · exact tame_pure _
            · exact tame_bind (tame_field _ _) fun _ => tame_pure _
        · unfold keptBack
          split
          · split
            · exact tame_pure _
            · exact tame_bind (tame_bind (fun _ => trivial) fun _ => tame_pure _) fun _ => tame_pure _
          · exact tame_pure _
        · refine (?_ : let G9 : Prop := _; G9); intro G9
          obtain ⟨c, d, dt, sl⟩ := o
          unfold G9; clear G9
          cases dt <;> rfl
    · exact tame_uns _
theorem tame_frameOf (env : Env) : Tame (PySem.frameOf env) := by
  unfold PySem.frameOf frameEnvs
  refine tame_bind (tame_bind (fun _ => trivial) fun _ => tame_pure _) fun l => tame_bind ?_ fun r => ?_
  · unfold frameObject
    split
    · exact tame_pure _
    · exact tame_bind (tame_ready _) fun _ => tame_pure _
  · split
    · exact tame_pure _
    · exact tame_uns _
theorem tame_newEntry (a b c d e : Value) (l : List Value) : Tame (EntryCells.newEntry a b c d e l) := by
  unfold EntryCells.newEntry newFields newObj newObjAsIs
  dsimp only
  generalize ([a, b, c, d, e] ++ if l.isEmpty = true then List.replicate 6 Value.none else l).toArray = arr
  split
  · exact tame_bind (tame_uns _) fun _ => tame_bind (fun _ => trivial) fun _ => tame_pure _
  · exact tame_bind (fun _ => trivial) fun _ => tame_pure _
theorem tame_place (f : Addr) (b : Bool) : Tame (entryPlaceOf f b) := by
  unfold entryPlaceOf
  refine tame_bind (fun _ => trivial) fun l => ?_
  dsimp only
  split <;> exact tame_pure _
theorem tame_note (e : Value) (env : Env) : Tame (noteFrame e env) := by
  unfold noteFrame
  split
  · rename_i f _
    refine tame_bind (tame_field _ _) fun head => ?_
    have tl : Tame (do setField e 1 (← EntryCells.newEntry head (← PySem.frameOf env) .none (rawInt f) .none (← entryPlaceOf f (head != .none)))) :=
      tame_bind (tame_frameOf env) fun a => tame_bind (tame_place _ _) fun pl => tame_bind (tame_newEntry ..) fun b => tame_setField _ _ _
    dsimp only
    split
    · refine tame_bind (tame_field _ _) fun fl => ?_
      split
      · exact tame_pure _
      · exact tame_bind (tame_setField _ _ _) fun _ => tl
    · exact tl
  · exact tame_uns _
theorem tame_leaving (env : Env) (e : Value) : Tame (leaving env e) := tame_bind (tame_note _ _) fun _ => tame_setFlight _ _

end
section
def ExD (h : Heap) (e d : Addr) : Prop := ∃ oe, h.get? e = some oe ∧ oe.dict = some d
theorem ExD.same {h h' : Heap} {e d : Addr} (x : ExD h e d) (k : SameD h h') : ExD h' e d :=
  let ⟨oe, q, z⟩ := x
  let ⟨o', q', z'⟩ := k _ _ q
  ⟨o', q', z'.trans z⟩
section
variable {M : Model} {A : Around} {E : Value → Shared → Prop} {s' : Shared} {base g g₂ h : Heap} {outer : List Env} {L a e d t : Addr} {m : Str → Option Value} {name : Str} {scope : Scope} {cd : Value} {Q : Unit → Shared → Prop} {news : List (Addr × Obj)} {vs : List Value} {n : Nat}
theorem ex_split {l : List (Addr × Obj)} (N : News g L h l) (he : (e, exObj (some d) t) ∈ l) (ht : (t, tupOf vs n) ∈ l) :
    ∃ l', News g L h l' ∧ (∀ q ∈ l', q.1 ≠ e ∧ q.1 ≠ t) ∧ ∀ q ∈ l, q.1 ≠ e ∧ q.1 ≠ t → q ∈ l' :=
  ⟨l.filter (fun q => q.1 != e && q.1 != t), fun q hq => N q (List.mem_filter.mp hq).1, fun q hq => by simpa using (List.mem_filter.mp hq).2, fun q hq z => List.mem_filter.mpr ⟨hq, by simpa using z⟩⟩
theorem leave_raiseD (K : Below A base outer g) (F : Fr g L s'.heap m) (Ne : News g L s'.heap [(e, exObj (some d) t), (t, tupOf vs n)]) (N : News g L s'.heap news) (hne : ∀ q ∈ news, q.1 ≠ e ∧ q.1 ≠ t)
    (hQ : ∀ h', RaisedS base g outer e (.ref 72) t vs news h' → ExD h' e d → g.UpToSlots h' → Q () { s' with heap := h' }) (hk : scope.kind = .function := by rfl) :
    wpAny M (A.deeper (envOf name scope L a cd)) (leaving (envOf name scope L a cd) (.ref e)) Q E s' := by
  have K' := K.push (name := name) (a := a) (cd := cd) F hk
  have ze := Ne _ (List.mem_cons_self ..)
  have zt := Ne _ (List.mem_cons_of_mem _ (List.mem_cons_self ..))
  let as := e :: t :: (envOf name scope L a cd :: outer).filterMap (·.frame)
  have hin : ∀ env ∈ (envOf name scope L a cd :: outer), ∀ b, env.frame = some b → b ∈ as := fun env he b hb => List.mem_cons_of_mem _ (List.mem_cons_of_mem _ (List.mem_filterMap.mpr ⟨env, he, hb⟩))
  have out : ∀ b, b ∈ as → b = e ∨ b = t ∨ b ∈ (envOf name scope L a cd :: outer).filterMap (·.frame) := fun b hb => by
    rcases List.mem_cons.mp hb with z | hb
    · exact .inl z
    · rcases List.mem_cons.mp hb with z | hb
      · exact .inr (.inl z)
      · exact .inr (.inr hb)
  have st : base.StaysIn (hideAll s'.heap as) := fun b o q => hideAll_get _ (K'.stays b o q) fun hm => by
    rcases out b hm with rfl | rfl | hm
    · rw [fresh_of_stays K.stays ze.2.2] at q; cases q
    · rw [fresh_of_stays K.stays zt.2.2] at q; cases q
    · rw [(K'.frames.mem hm).1] at q; cases q
  have sg : ∀ b o, g.get? b = some o → b ∉ outer.filterMap (·.frame) → (hideAll s'.heap as).get? b = some o := fun b o q nm => hideAll_get _ (F.keep b o q) fun hm => by
    rcases out b hm with rfl | rfl | hm
    · rw [ze.2.2] at q; cases q
    · rw [zt.2.2] at q; cases q
    · rcases kts_mem hm with z | z
      · rw [z, kts_self F] at q
        cases q
      · exact nm z
  have hl : ∀ q ∈ news, (hideAll s'.heap as).get? q.1 = some q.2 ∧ g.get? q.1 = none ∧ base.get? q.1 = none := fun q hq => by
    refine ⟨hideAll_get _ (N q hq).1 fun hm => ?_, (N q hq).2.2, fresh_of_stays K.stays (N q hq).2.2⟩
    rcases out _ hm with z | z | hm
    · exact (hne q hq).1 z
    · exact (hne q hq).2 z
    · refine (?_ : let G9 : Prop := _; G9); intro G9
      obtain ⟨env, he, hf⟩ := List.mem_filterMap.mp hm
      unfold G9; clear G9
      rcases List.mem_cons.mp he with rfl | he
      · exact (N q hq).2.1 (Option.some.inj hf).symm
      · refine (?_ : let G9 : Prop := _; G9); intro G9
        obtain ⟨o, ho, _⟩ := (K.frames.mem (List.mem_filterMap.mpr ⟨env, he, hf⟩)).2
        unfold G9; clear G9
        rw [(N q hq).2.2] at ho; cases ho
  have hen : (hideAll s'.heap as).get? e = none := hideAll_none _ (List.mem_cons_self ..)
  have htn : (hideAll s'.heap as).get? t = none := hideAll_none _ (List.mem_cons_of_mem _ (List.mem_cons_self ..))
  have run : wpAny M (A.deeper (envOf name scope L a cd)) (leaving (envOf name scope L a cd) (.ref e)) (fun _ s₂ => ∃ h', s₂ = { s' with heap := h' } ∧ RaisedS base g outer e (.ref 72) t vs news h' ∧ g.UpToSlots h') E s' := by
    refine wpAny_leaving_firstW (a0 := .ref t) K'.stack (funFrames_hide K'.frames hin) rfl ze.1 (fun b o hb => of_hideAll _ hb) hen rfl rfl rfl fun h' hL => ?_
    refine (?_ : let G9 : Prop := _; G9); intro G9
    obtain ⟨k1, ⟨_, _, k2⟩, k3, k4⟩ := hL
    unfold G9; clear G9
    exact ⟨h', rfl, ⟨⟨_, st, sg, hl, ⟨k1, hen, k2, k3⟩, htn⟩, Heap.TupAt.of_slots ⟨_, _, zt.1, rfl, rfl⟩ k4⟩, (Heap.UpToSlots.of_keeps F.keep).trans k4⟩
  refine wpAny_mono (wpAny_tame (tame_leaving _ _) run) (fun u s₂ z => ?_) fun _ _ z => z
  refine (?_ : let G9 : Prop := _; G9); intro G9
  obtain ⟨⟨h', eq9_0, R, U⟩, D⟩ := z
  unfold G9; clear G9
  subst eq9_0
  exact hQ h' R (ExD.same ⟨_, ze.1, rfl⟩ D) U
theorem leave_onD (K : Below A base outer g) (F : Fr g L g₂ m) (R : RaisedS base g₂ (envOf name scope L a cd :: outer) e (.ref 72) t vs news s'.heap) (X : ExD s'.heap e d) (hsm : g₂.UpToSlots s'.heap)
    (hQ : ∀ h', RaisedS base g outer e (.ref 72) t vs news h' → ExD h' e d → g.UpToSlots h' → Q () { s' with heap := h' }) :
    wpAny M (A.deeper (envOf name scope L a cd)) (leaving (envOf name scope L a cd) (.ref e)) Q E s' := by
  have run : wpAny M (A.deeper (envOf name scope L a cd)) (leaving (envOf name scope L a cd) (.ref e)) (fun _ s₂ => ∃ h', s₂ = { s' with heap := h' } ∧ RaisedS base g outer e (.ref 72) t vs news h' ∧ g.UpToSlots h') E s' :=
    leave_onS K F R hsm fun h' R' _ U => ⟨h', rfl, R', U⟩
  refine wpAny_mono (wpAny_tame (tame_leaving _ _) run) (fun u s₂ z => ?_) fun _ _ z => z
  refine (?_ : let G9 : Prop := _; G9); intro G9
  obtain ⟨⟨h', eq9_0, R, U⟩, D⟩ := z
  unfold G9; clear G9
  subst eq9_0
  exact hQ h' R (X.same D) U
theorem note_D {base : Heap} {env : Env} {cls a0 : Value} (hfr : A.frames = some (env :: outer)) (hf : env.frame = some L) (hfl : Heap.FlyingW base (env :: outer) e cls a0 s'.heap) (X : ExD s'.heap e d)
    (hQ : ∀ h', Heap.HeldW base (env :: outer) e cls a0 L h' → s'.heap.UpToSlots h' → ExD h' e d → Q () { s' with heap := h' }) : wpAny M A (noteFrame (.ref e) env) Q E s' := by
  refine wpAny_mono (wpAny_tame (tame_note _ _) (wpAny_looks_onW (Q := fun _ s₂ => ∃ h', s₂ = { s' with heap := h' } ∧ Heap.HeldW base (env :: outer) e cls a0 L h' ∧ s'.heap.UpToSlots h') hfr hf hfl fun h' x1 x2 => ⟨h', rfl, x1, x2⟩)) (fun u s₂ z => ?_) fun _ _ z => z
  refine (?_ : let G9 : Prop := _; G9); intro G9
  obtain ⟨⟨h', eq9_0, R, U⟩, D⟩ := z
  unfold G9; clear G9
  subst eq9_0
  exact hQ h' R U (X.same D)
theorem land_D {base : Heap} {l : List Env} {cls a0 : Value} (hh : Heap.HeldW base l e cls a0 L s'.heap) (X : ExD s'.heap e d)
    (hQ : ∀ h', Heap.FlyingW base l e cls a0 h' → s'.heap.UpToSlots h' → ExD h' e d → Q () { s' with heap := h' }) : wpAny M A (setFlight (.ref e) none) Q E s' := by
  refine wpAny_mono (wpAny_tame (tame_setFlight _ _) (wpAny_landsW (Q := fun _ s₂ => ∃ h', s₂ = { s' with heap := h' } ∧ Heap.FlyingW base l e cls a0 h' ∧ s'.heap.UpToSlots h') hh fun h' x1 x2 => ⟨h', rfl, x1, x2⟩)) (fun u s₂ z => ?_) fun _ _ z => z
  refine (?_ : let G9 : Prop := _; G9); intro G9
  obtain ⟨⟨h', eq9_0, R, U⟩, D⟩ := z
  unfold G9; clear G9
  subst eq9_0
  exact hQ h' R U (X.same D)
theorem lag_D {base : Heap} {l : List Env} {cls a0 : Value} (hh : Heap.FlyingW base l e cls a0 s'.heap) (X : ExD s'.heap e d)
    (hQ : ∀ h', Heap.FlyingW base l e cls a0 h' → s'.heap.UpToSlots h' → ExD h' e d → Q () { s' with heap := h' }) : wpAny M A (setFlight (.ref e) none) Q E s' := by
  refine wpAny_mono (wpAny_tame (tame_setFlight _ _) (lands_againW (Q := fun _ s₂ => ∃ h', s₂ = { s' with heap := h' } ∧ Heap.FlyingW base l e cls a0 h' ∧ s'.heap.UpToSlots h') hh fun h' x1 x2 => ⟨h', rfl, x1, x2⟩)) (fun u s₂ z => ?_) fun _ _ z => z
  refine (?_ : let G9 : Prop := _; G9); intro G9
  obtain ⟨⟨h', eq9_0, R, U⟩, D⟩ := z
  unfold G9; clear G9
  subst eq9_0
  exact hQ h' R U (X.same D)
end
/-- raise of a made exception -/
theorem raise_val {w : World} {A : Around} {E : Value → Shared → Prop} {s : Shared} {env : Env} {x : Expr} {pos : Pos} {P : Params} {Q : Flow → Shared → Prop} (hh : A.handled = none)
    (h : wpAny (model pw w) A (eval x env) (fun v s₁ => ∃ e d t, v = .ref e ∧ (KW P).In s₁.heap ∧ s₁.heap.get? e = some (exObj d t) ∧ E (.ref e) s₁) E s) :
    wpAny (model pw w) A (exec (.Raise (some x) none pos) env) Q E s := by
  rw [arm_exec_Raise]
  refine wpAny_bind (wpAny_standAt ?_)
  show wpAny _ _ (raiseStmt env (some (do let v ← eval x env; standAt pos; pure v)) none) _ _ _
  unfold raiseStmt
  refine wpAny_bind (wpAny_bind (wpAny_mono h (fun v s₁ h₁ => wpAny_bind (wpAny_standAt (wpAny_pure ?_))) fun _ _ x => x))
  refine (?_ : let G9 : Prop := _; G9); intro G9
  obtain ⟨e, d, t, eq9_0, X, he, hE⟩ := h₁
  unfold G9; clear G9
  subst eq9_0
  have hC := cls72 X
  have hcB : (Value.ref 72 :: bm72).contains (.type "BaseException") = true := by decide
  refine (?_ : let G9 : Prop := _; G9); intro G9
  obtain ⟨hp, g, dr, tk, os⟩ := s₁
  unfold G9; clear G9
  repeat (first | with_reducible refine wpAny_loadPart_at he ?_ | with_reducible refine wpAny_loadPart_at hC ?_ | (with_reducible refine wpAny_isSubtype_exc hC ?_; rw [hcB]) | wp_step)
  exact wpAny_raiseNew_none hh hE

end
section
theorem keeps_exc {a b c l : List (Addr × Obj)} {p : Addr × Obj} {e t : Addr} (K : Keeps a b) (s9 : ∀ q ∈ b, q ∈ c) (ne9 : ∀ q ∈ b, q.1 ≠ e ∧ q.1 ≠ t) (s8 : ∀ q ∈ p :: c, q.1 ≠ e ∧ q.1 ≠ t → q ∈ l) : Keeps a l :=
  fun q hq hc => s8 _ (List.mem_cons_of_mem _ (s9 _ (K q hq hc))) (ne9 _ (K q hq hc))
theorem dict_not_ex {es : List DictEntry} {n : Nat} {d : Option Addr} {t : Addr} : dictOf es n ≠ exObj d t := fun e => by
  have := congrArg Obj.data e
  cases this
include B F X N Tp hk in
theorem refuse_spec {r dx T nd : Addr} {toks : List Tk} {i : Int} {j : Int} {t : Tk} {what : Str} {tw tm : Tok}
    (W : RdW w.params news r dx T nd toks i) (hj : 0 ≤ j) (ht9 : tkAt toks j 0 = some t) (hdp : dp ≤ 540) (hun : un ≤ 3800)
    (err : ∀ g₂ e t' vs d es n l' h' tk', Fr h₀ L g₂ m → RaisedS base g₂ (envX cn cs L a ccd cl :: outer) e (.ref 72) t' vs l' h' → ExD h' e d → (d, dictOf es n) ∈ l' → getL (Str.ofString "at") es = some (some (.ref t.q)) → g₂.UpToSlots h' → Keeps news l' → E (.ref e) { s with heap := h', toks := tk' }) :
    wpAny (model pw w) (top9 none dp un gd cn cs L a ccd cl outer) (call (.ref (nat_lit 251)) [.ref r, .int j tm, .str what tw]) Q E s := by
  tb_start
  refine RdW.frontC W N ?_
  intro z1 z2 z3 z4 rest N2 hap hsub W2 hup
  refine RdW.cpsN W2 ?_
  intro hr nT hT ht h0 h1 hl
  have hlt := tkAt_lt ht9
  have hr5 := mem_tail hr rd_not_inst
  ktr_enter
  with_reducible rename Fr _ _ _ (fun y => List.lookup y _) => F2
  replace F2 : Fr _ _ _ (fun y => List.lookup y [(Str.ofString "what", .str what tw), (Str.ofString "mark", .int j tm), (Str.ofString "reader", .ref r)]) := F2
  (try (generalize s.toks + List.length _ = tk0))
  repeat' (first
    | ((with_reducible show wpAny _ _ (exec (Stmt.Raise (some _) none _) _) _ _ _); (refine raise_val (P := w.params) rfl ?_))
    | walk_at "t9")
  refine' fault_spec ?B ?F ?X ?N ?T ?hk ?x0 ?x1 ?hd ?hu ?_
  kfm_turns
  (case x0 => exact RdW.upd W2 (by omega) (by omega))
  (case x1 => exact ht9)
  intro e9 t9 d9 es9 n9 l9 h9 tk9 F9 N9 m9 m8 ne9 g9 s9
  refine (?_ : let G9 : Prop := _; G9); intro G9
  obtain ⟨l8, N8, ne8, s8⟩ := ex_split N9 (List.mem_cons_self ..) (List.mem_cons_of_mem _ m8)
  unfold G9; clear G9
  refine ⟨_, _, _, rfl, Frag.In.keeps (by assumption) (Fr.keep F9), (N9 _ (List.mem_cons_self ..)).1, ?_⟩
  show wpAny _ _ (leaving _ _) _ _ _
  refine leave_raiseD (n := 0) (by assumption) F9 (fun q hq => N9 q (by
    rcases List.mem_cons.mp hq with rfl | hq
    · exact List.mem_cons_self ..
    · rcases List.mem_cons.mp hq with rfl | hq
      · exact List.mem_cons_of_mem _ m8
      · cases hq)) N8 ne8 (fun h7 R7 X7 U7 => ?_) rfl
  exact err _ _ _ _ _ _ _ _ _ _ (by assumption) R7 X7 (s8 _ (List.mem_cons_of_mem _ m9) ⟨News.differ N9 (List.mem_cons_of_mem _ m9) (List.mem_cons_self ..) dict_not_ex, News.differ N9 (List.mem_cons_of_mem _ m9) (List.mem_cons_of_mem _ m8) seq_not_dict⟩) g9 U7 (keeps_exc (keeps_up hup) s9 ne9 s8)

end
section
include B F X N Tp hk in
theorem byOk_spec {r dx T nd : Addr} {toks : List Tk} {i : Int} {vo : Value} {op : Option Od} {od : Od}
    (W : RdW w.params news r dx T nd toks i) (P : OpIn news vo op) (O : OdAt toks i od) (hm : meets op od = true) (hdp : dp ≤ 500) (hun : un ≤ 3000)
    (ret : ∀ v news' h' tk', Fr h₀ L h' m → News h₀ L h' news' → Keeps news news' → RdW w.params news' r dx T nd toks (i + od.len) → OdIn news' v od → Q v { s with heap := h', toks := tk' }) :
    wpAny (model pw w) (top9 none dp un gd cn cs L a ccd cl outer) (call (.ref (nat_lit 286)) [.ref r, vo]) Q E s := by
  tb_start
  refine RdW.cps W ?_
  intro hr t1 t2 t3 t4 hd nT hT ht h0 h1 hl
  ktr_enter
  with_reducible rename Fr _ _ _ (fun y => List.lookup y _) => F2
  replace F2 : Fr _ _ _ (fun y => List.lookup y [(Str.ofString "operand", vo), (Str.ofString "reader", .ref r)]) := F2
  (try (generalize s.toks + List.length _ = tk0))
  repeat' (first
    | ((with_reducible show wpAny _ _ (call (Value.ref (nat_lit 265)) _) _ _ _); (refine' text_spec ?B ?F ?X ?N ?T ?hk ?x0 ?x1 ?hd ?hu ?_; kfm_turns; (case x0 => tb_rel); (case x1 => assumption); k_whole); intro v9; kpc_turns; intro O9; kqd_sub)
    | ((with_reducible show wpAny _ _ (call (Value.ref (nat_lit 279)) _) _ _ _); (refine' widths_spec ?B ?F ?X ?N ?T ?hk ?x0 ?x1 ?hd ?hu ?_; kfm_turns; (case x0 => exact OpIn.keeps (by assumption) (by tb_rel)); (case x1 => assumption); k_whole); intro b9 h9 tk9 F9 N9 e9; (replace e9 := e9.trans (by assumption : meets _ _ = _)); subst e9; kqd_sub)
    | walk_at "t9")
  exact ret _ _ _ _ (by assumption) (by assumption) (by tb_rel) (by tb_rel) (by assumption)
include B F X N Tp hk in
theorem byNo_spec {r dx T nd : Addr} {toks : List Tk} {i : Int} {vo : Value} {op : Option Od} {od : Od} {t : Tk}
    (W : RdW w.params news r dx T nd toks i) (P : OpIn news vo op) (O : OdAt toks i od) (ht9 : tkAt toks i 0 = some t) (hm : meets op od = false) (hdp : dp ≤ 500) (hun : un ≤ 3000)
    (err : ∀ g₂ e t' vs d es n l' h' tk', Fr h₀ L g₂ m → RaisedS base g₂ (envX cn cs L a ccd cl :: outer) e (.ref 72) t' vs l' h' → ExD h' e d → (d, dictOf es n) ∈ l' → getL (Str.ofString "at") es = some (some (.ref t.q)) → g₂.UpToSlots h' → Keeps news l' → E (.ref e) { s with heap := h', toks := tk' }) :
    wpAny (model pw w) (top9 none dp un gd cn cs L a ccd cl outer) (call (.ref (nat_lit 286)) [.ref r, vo]) Q E s := by
  tb_start
  refine RdW.cps W ?_
  intro hr t1 t2 t3 t4 hd nT hT ht h0 h1 hl
  ktr_enter
  with_reducible rename Fr _ _ _ (fun y => List.lookup y _) => F2
  replace F2 : Fr _ _ _ (fun y => List.lookup y [(Str.ofString "operand", vo), (Str.ofString "reader", .ref r)]) := F2
  (try (generalize s.toks + List.length _ = tk0))
  repeat' (first
    | ((with_reducible show wpAny _ _ (call (Value.ref (nat_lit 265)) _) _ _ _); (refine' text_spec ?B ?F ?X ?N ?T ?hk ?x0 ?x1 ?hd ?hu ?_; kfm_turns; (case x0 => tb_rel); (case x1 => assumption); k_whole); intro v9; kpc_turns; intro O9; kqd_sub)
    | ((with_reducible show wpAny _ _ (call (Value.ref (nat_lit 279)) _) _ _ _); (refine' widths_spec ?B ?F ?X ?N ?T ?hk ?x0 ?x1 ?hd ?hu ?_; kfm_turns; (case x0 => exact OpIn.keeps (by assumption) (by tb_rel)); (case x1 => assumption); k_whole); intro b9 h9 tk9 F9 N9 e9; (replace e9 := e9.trans (by assumption : meets _ _ = _)); subst e9; kqd_sub)
    | walk_at "t9")
  refine' refuse_spec ?B ?F ?X ?N ?T ?hk ?x0 ?x1 ?x2 ?hd ?hu ?_
  kfm_turns
  (case x0 => tb_rel)
  (case x1 => assumption)
  (case x2 => assumption)
  intro g2 e9 t9 vs9 d9 es9 n9 l9 h9 tk9 FG9 R9 X9 D9 G9 U9 K9
  show wpAny _ _ (leaving _ _) _ _ _
  refine leave_onD (by assumption) FG9 R9 X9 U9 (fun h7 R7 X7 U7 => ?_)
  exact err _ _ _ _ _ _ _ _ _ _ (by assumption) R7 X7 D9 G9 U7 (by tb_rel)

end
section
include B F X N Tp hk in
theorem exC_spec {r dx T nd : Addr} {toks : List Tk} {i : Int} {od0 od : Od} {es : List Bd} {tk : Tok}
    (W : RdW w.params news r dx T nd toks i) (hby : isTok toks (i) 0 (Str.ofString "word") (Str.ofString "BY") = true) (O : OdAt toks (i + 1) od) (O2 : BdAt toks (i + 1 + od.len) es) (ok9 : bOk es = true) (hm : meets none od = true) (hdp : dp ≤ 490) (hun : un ≤ 2800)
    (ret : ∀ a vo vb vbf vaf u n news' h' tk', Fr h₀ L h' m → News h₀ L h' news' → Keeps news news' → RdW w.params news' r dx T nd toks (bEnd (i + 1 + od.len) es) → (a, tupOf [.str (Str.ofString "CHARACTERS") u, vo, vb, vbf, vaf] n) ∈ news' → OpIn news' vo none → OdIn news' vb od → OptIn news' vbf (bGet false es) → OptIn news' vaf (bGet true es) → Q (.ref a) { s with heap := h', toks := tk' }) :
    wpAny (model pw w) (top9 none dp un gd cn cs L a ccd cl outer) (call (.ref (nat_lit 293)) [.ref r, .str (Str.ofString "CHARACTERS") tk]) Q E s := by
  tb_start
  refine RdW.cps W ?_
  intro hr t1 t2 t3 t4 hd nT hT ht h0 h1 hl
  ktr_enter
  with_reducible rename Fr _ _ _ (fun y => List.lookup y _) => F2
  replace F2 : Fr _ _ _ (fun y => List.lookup y [(Str.ofString "kind", .str (Str.ofString "CHARACTERS") tk), (Str.ofString "reader", .ref r)]) := F2
  (try (generalize s.toks + List.length _ = tk0))
  repeat' (first
    | ((with_reducible show wpAny _ _ (call (Value.ref (nat_lit 265)) _) _ _ _); (refine' text_spec ?B ?F ?X ?N ?T ?hk ?x0 ?x1 ?hd ?hu ?_; kfm_turns; (case x0 => tb_rel); (case x1 => assumption); k_whole); intro v9; kpc_turns; intro O9; kqd_sub)
    | ((with_reducible show wpAny _ _ (call (Value.ref (nat_lit 378)) _) _ _ _); (refine' need_spec ?B ?F ?X ?N ?T ?hk ?x0 ?x1 ?x2 ?x3 ?hd ?hu ?_; kfm_turns; (case x0 => tb_rel); (case x1 => first | assumption | decide +kernel); (case x2 => first | assumption | decide +kernel); (case x3 => first | assumption | decide +kernel); k_whole); kpc_turns; kqd_sub)
    | ((with_reducible show wpAny _ _ (call (Value.ref (nat_lit 286)) _) _ _ _); (refine' byOk_spec ?B ?F ?X ?N ?T ?hk ?x0 ?x1 ?x2 ?x3 ?hd ?hu ?_; kfm_turns; (case x0 => tb_rel); (case x1 => first | exact OpIn.none | exact OpIn.some (OdIn.keeps (by assumption) (by tb_rel))); (case x2 => assumption); (case x3 => assumption); k_whole); intro v9; kpc_turns; intro O9; kqd_sub)
    | ((with_reducible show wpAny _ _ (call (Value.ref (nat_lit 272)) _) _ _ _); (refine' bounds_spec ?B ?F ?X ?N ?T ?hk ?x0 ?x1 ?x2 ?hd ?hu ?_; kfm_turns; (case x0 => tb_rel); (case x1 => assumption); (case x2 => assumption); k_whole); intro a9 vb9 va9 n9; kpc_turns; intro m1 m2 m3; kqd_sub)
    | walk_at "t9")
  exact ret _ _ _ _ _ _ _ _ _ _ (by assumption) (by assumption) (by tb_rel) (by tb_rel) (List.mem_cons_self ..) (by first | exact OpIn.none | exact OpIn.some (OdIn.keeps (by assumption) (by tb_rel))) (OdIn.keeps (by assumption) (by tb_rel)) (OptIn.keeps (by assumption) (by tb_rel)) (OptIn.keeps (by assumption) (by tb_rel))
include B F X N Tp hk in
theorem exCNo_spec {r dx T nd : Addr} {toks : List Tk} {i : Int} {od0 od : Od} {es : List Bd} {tk : Tok} {t : Tk}
    (W : RdW w.params news r dx T nd toks i) (hby : isTok toks (i) 0 (Str.ofString "word") (Str.ofString "BY") = true) (O : OdAt toks (i + 1) od) (ht9 : tkAt toks (i + 1) 0 = some t) (hm : meets none od = false) (hdp : dp ≤ 490) (hun : un ≤ 2800)
    (err : ∀ g₂ e t' vs d es n l' h' tk', Fr h₀ L g₂ m → RaisedS base g₂ (envX cn cs L a ccd cl :: outer) e (.ref 72) t' vs l' h' → ExD h' e d → (d, dictOf es n) ∈ l' → getL (Str.ofString "at") es = some (some (.ref t.q)) → g₂.UpToSlots h' → Keeps news l' → E (.ref e) { s with heap := h', toks := tk' }) :
    wpAny (model pw w) (top9 none dp un gd cn cs L a ccd cl outer) (call (.ref (nat_lit 293)) [.ref r, .str (Str.ofString "CHARACTERS") tk]) Q E s := by
  tb_start
  refine RdW.cps W ?_
  intro hr t1 t2 t3 t4 hd nT hT ht h0 h1 hl
  ktr_enter
  with_reducible rename Fr _ _ _ (fun y => List.lookup y _) => F2
  replace F2 : Fr _ _ _ (fun y => List.lookup y [(Str.ofString "kind", .str (Str.ofString "CHARACTERS") tk), (Str.ofString "reader", .ref r)]) := F2
  (try (generalize s.toks + List.length _ = tk0))
  repeat' (first
    | ((with_reducible show wpAny _ _ (call (Value.ref (nat_lit 265)) _) _ _ _); (refine' text_spec ?B ?F ?X ?N ?T ?hk ?x0 ?x1 ?hd ?hu ?_; kfm_turns; (case x0 => tb_rel); (case x1 => assumption); k_whole); intro v9; kpc_turns; intro O9; kqd_sub)
    | ((with_reducible show wpAny _ _ (call (Value.ref (nat_lit 378)) _) _ _ _); (refine' need_spec ?B ?F ?X ?N ?T ?hk ?x0 ?x1 ?x2 ?x3 ?hd ?hu ?_; kfm_turns; (case x0 => tb_rel); (case x1 => first | assumption | decide +kernel); (case x2 => first | assumption | decide +kernel); (case x3 => first | assumption | decide +kernel); k_whole); kpc_turns; kqd_sub)
    | walk_at "t9")
  refine' byNo_spec ?B ?F ?X ?N ?T ?hk ?x0 ?x1 ?x2 ?x3 ?x4 ?hd ?hu ?_
  kfm_turns
  (case x0 => tb_rel)
  (case x1 => first | exact OpIn.none | exact OpIn.some (OdIn.keeps (by assumption) (by tb_rel)))
  (case x2 => assumption)
  (case x3 => assumption)
  (case x4 => assumption)
  intro g2 e9 t9 vs9 d9 es9 n9 l9 h9 tk9 FG9 R9 X9 D9 G9 U9 K9
  show wpAny _ _ (leaving _ _) _ _ _
  refine leave_onD (by assumption) FG9 R9 X9 U9 (fun h7 R7 X7 U7 => ?_)
  exact err _ _ _ _ _ _ _ _ _ _ (by assumption) R7 X7 D9 G9 U7 (by tb_rel)
include B F X N Tp hk in
theorem exS_spec {r dx T nd : Addr} {toks : List Tk} {i : Int} {od0 od : Od} {es : List Bd} {kind : Str} {tk : Tok}
    (W : RdW w.params news r dx T nd toks i) (hkd : (kind == Str.ofString "CHARACTERS") = false) (O1 : OdAt toks i od0) (hby : isTok toks (i + od0.len) 0 (Str.ofString "word") (Str.ofString "BY") = true) (O : OdAt toks (i + od0.len + 1) od) (O2 : BdAt toks (i + od0.len + 1 + od.len) es) (ok9 : bOk es = true) (hm : meets (some od0) od = true) (hdp : dp ≤ 490) (hun : un ≤ 2800)
    (ret : ∀ a vo vb vbf vaf u n news' h' tk', Fr h₀ L h' m → News h₀ L h' news' → Keeps news news' → RdW w.params news' r dx T nd toks (bEnd (i + od0.len + 1 + od.len) es) → (a, tupOf [.str kind u, vo, vb, vbf, vaf] n) ∈ news' → OpIn news' vo (some od0) → OdIn news' vb od → OptIn news' vbf (bGet false es) → OptIn news' vaf (bGet true es) → Q (.ref a) { s with heap := h', toks := tk' }) :
    wpAny (model pw w) (top9 none dp un gd cn cs L a ccd cl outer) (call (.ref (nat_lit 293)) [.ref r, .str kind tk]) Q E s := by
  tb_start
  refine RdW.cps W ?_
  intro hr t1 t2 t3 t4 hd nT hT ht h0 h1 hl
  ktr_enter
  with_reducible rename Fr _ _ _ (fun y => List.lookup y _) => F2
  replace F2 : Fr _ _ _ (fun y => List.lookup y [(Str.ofString "kind", .str kind tk), (Str.ofString "reader", .ref r)]) := F2
  (try (generalize s.toks + List.length _ = tk0))
  repeat' (first
    | ((with_reducible show wpAny _ _ (call (Value.ref (nat_lit 265)) _) _ _ _); (refine' text_spec ?B ?F ?X ?N ?T ?hk ?x0 ?x1 ?hd ?hu ?_; kfm_turns; (case x0 => tb_rel); (case x1 => assumption); k_whole); intro v9; kpc_turns; intro O9; kqd_sub)
    | ((with_reducible show wpAny _ _ (call (Value.ref (nat_lit 378)) _) _ _ _); (refine' need_spec ?B ?F ?X ?N ?T ?hk ?x0 ?x1 ?x2 ?x3 ?hd ?hu ?_; kfm_turns; (case x0 => tb_rel); (case x1 => first | assumption | decide +kernel); (case x2 => first | assumption | decide +kernel); (case x3 => first | assumption | decide +kernel); k_whole); kpc_turns; kqd_sub)
    | ((with_reducible show wpAny _ _ (call (Value.ref (nat_lit 286)) _) _ _ _); (refine' byOk_spec ?B ?F ?X ?N ?T ?hk ?x0 ?x1 ?x2 ?x3 ?hd ?hu ?_; kfm_turns; (case x0 => tb_rel); (case x1 => first | exact OpIn.none | exact OpIn.some (OdIn.keeps (by assumption) (by tb_rel))); (case x2 => assumption); (case x3 => assumption); k_whole); intro v9; kpc_turns; intro O9; kqd_sub)
    | ((with_reducible show wpAny _ _ (call (Value.ref (nat_lit 272)) _) _ _ _); (refine' bounds_spec ?B ?F ?X ?N ?T ?hk ?x0 ?x1 ?x2 ?hd ?hu ?_; kfm_turns; (case x0 => tb_rel); (case x1 => assumption); (case x2 => assumption); k_whole); intro a9 vb9 va9 n9; kpc_turns; intro m1 m2 m3; kqd_sub)
    | walk_at "t9")
  exact ret _ _ _ _ _ _ _ _ _ _ (by assumption) (by assumption) (by tb_rel) (by tb_rel) (List.mem_cons_self ..) (by first | exact OpIn.none | exact OpIn.some (OdIn.keeps (by assumption) (by tb_rel))) (OdIn.keeps (by assumption) (by tb_rel)) (OptIn.keeps (by assumption) (by tb_rel)) (OptIn.keeps (by assumption) (by tb_rel))
include B F X N Tp hk in
theorem exSNo_spec {r dx T nd : Addr} {toks : List Tk} {i : Int} {od0 od : Od} {es : List Bd} {kind : Str} {tk : Tok} {t : Tk}
    (W : RdW w.params news r dx T nd toks i) (hkd : (kind == Str.ofString "CHARACTERS") = false) (O1 : OdAt toks i od0) (hby : isTok toks (i + od0.len) 0 (Str.ofString "word") (Str.ofString "BY") = true) (O : OdAt toks (i + od0.len + 1) od) (ht9 : tkAt toks (i + od0.len + 1) 0 = some t) (hm : meets (some od0) od = false) (hdp : dp ≤ 490) (hun : un ≤ 2800)
    (err : ∀ g₂ e t' vs d es n l' h' tk', Fr h₀ L g₂ m → RaisedS base g₂ (envX cn cs L a ccd cl :: outer) e (.ref 72) t' vs l' h' → ExD h' e d → (d, dictOf es n) ∈ l' → getL (Str.ofString "at") es = some (some (.ref t.q)) → g₂.UpToSlots h' → Keeps news l' → E (.ref e) { s with heap := h', toks := tk' }) :
    wpAny (model pw w) (top9 none dp un gd cn cs L a ccd cl outer) (call (.ref (nat_lit 293)) [.ref r, .str kind tk]) Q E s := by
  tb_start
  refine RdW.cps W ?_
  intro hr t1 t2 t3 t4 hd nT hT ht h0 h1 hl
  ktr_enter
  with_reducible rename Fr _ _ _ (fun y => List.lookup y _) => F2
  replace F2 : Fr _ _ _ (fun y => List.lookup y [(Str.ofString "kind", .str kind tk), (Str.ofString "reader", .ref r)]) := F2
  (try (generalize s.toks + List.length _ = tk0))
  repeat' (first
    | ((with_reducible show wpAny _ _ (call (Value.ref (nat_lit 265)) _) _ _ _); (refine' text_spec ?B ?F ?X ?N ?T ?hk ?x0 ?x1 ?hd ?hu ?_; kfm_turns; (case x0 => tb_rel); (case x1 => assumption); k_whole); intro v9; kpc_turns; intro O9; kqd_sub)
    | ((with_reducible show wpAny _ _ (call (Value.ref (nat_lit 378)) _) _ _ _); (refine' need_spec ?B ?F ?X ?N ?T ?hk ?x0 ?x1 ?x2 ?x3 ?hd ?hu ?_; kfm_turns; (case x0 => tb_rel); (case x1 => first | assumption | decide +kernel); (case x2 => first | assumption | decide +kernel); (case x3 => first | assumption | decide +kernel); k_whole); kpc_turns; kqd_sub)
    | walk_at "t9")
  refine' byNo_spec ?B ?F ?X ?N ?T ?hk ?x0 ?x1 ?x2 ?x3 ?x4 ?hd ?hu ?_
  kfm_turns
  (case x0 => tb_rel)
  (case x1 => first | exact OpIn.none | exact OpIn.some (OdIn.keeps (by assumption) (by tb_rel)))
  (case x2 => assumption)
  (case x3 => assumption)
  (case x4 => assumption)
  intro g2 e9 t9 vs9 d9 es9 n9 l9 h9 tk9 FG9 R9 X9 D9 G9 U9 K9
  show wpAny _ _ (leaving _ _) _ _ _
  refine leave_onD (by assumption) FG9 R9 X9 U9 (fun h7 R7 X7 U7 => ?_)
  exact err _ _ _ _ _ _ _ _ _ _ (by assumption) R7 X7 D9 G9 U7 (by tb_rel)

end
section
/-- no pen: the pen alone is a list of a list and two ints -/
def NotPen (o : Obj) : Prop := ∀ C a u b v k, o ≠ listOf #[.ref C, .int a u, .int b v] k
def KeepsL (news news' : List (Addr × Obj)) : Prop := ∀ q ∈ news, NotPen q.2 → q.2.cls ≠ .type "dict" → q ∈ news'
theorem KeepsL.refl (a : List (Addr × Obj)) : KeepsL a a := fun _ h _ _ => h
theorem KeepsL.trans' {a b c : List (Addr × Obj)} (y : KeepsL b c) (x : KeepsL a b) : KeepsL a c := fun q h n d => y q (x q h n d) n d
theorem KeepsL.cons {a b : List (Addr × Obj)} {q : Addr × Obj} (x : KeepsL a b) : KeepsL a (q :: b) := fun p h n d => List.mem_cons_of_mem _ (x p h n d)
theorem KeepsL.of {a b : List (Addr × Obj)} (x : Keeps a b) : KeepsL a b := fun q h _ d => x q h d
theorem KeepsL.sub {a b : List (Addr × Obj)} (x : ∀ q ∈ a, q ∈ b) : KeepsL a b := fun q h _ _ => x q h
theorem notPen_tup {vs : List Value} {n : Nat} : NotPen (tupOf vs n) := fun _ _ _ _ _ _ e => by
  have := congrArg Obj.cls e
  injection this with this
  revert this
  decide
theorem notPen_ints {cs : List Value} {ns : List Int} (h : IntsAre cs ns) {n : Nat} : NotPen (listOf cs.toArray n) := fun C a u b v k e => by
  have e1 := congrArg Obj.data e
  injection e1 with e2 _
  have e3 := congrArg Array.toList e2
  have e4 : cs = [.ref C, .int a u, .int b v] := e3
  subst e4
  cases h
structure PenIn (news : List (Addr × Obj)) (pn C : Addr) (N : Int) : Prop where
  x : ∃ cs ns nc a u1 b u2 k, (pn, listOf #[.ref C, .int a u1, .int b u2] k) ∈ news ∧ (C, listOf (List.toArray cs) nc) ∈ news ∧ IntsAre cs ns ∧ ns.length ≤ 30 ∧ (∀ c ∈ ns, 0 ≤ c ∧ c < 20000000000000000000000000000000000000000) ∧ 0 ≤ a ∧ a ≤ N ∧ 0 ≤ b
theorem PenIn.via {a b : List (Addr × Obj)} {pn C : Addr} {N M : Int} (h : PenIn a pn C N) (K : ∀ q ∈ a, q.1 = pn ∨ q.1 = C → q.2.cls ≠ .type "dict" → q ∈ b) (hN : N ≤ M) : PenIn b pn C M :=
  let ⟨cs, ns, nc, x, u1, y, u2, k, h1, h2, h3, h4, h5, h6, h7, h8⟩ := h.x
  ⟨cs, ns, nc, x, u1, y, u2, k, K _ h1 (.inl rfl) list_ok, K _ h2 (.inr rfl) list_ok, h3, h4, h5, h6, by omega, h8⟩
theorem PenIn.keeps {a b : List (Addr × Obj)} {pn C : Addr} {N M : Int} (h : PenIn a pn C N) (K : Keeps a b) (hN : N ≤ M) : PenIn b pn C M := h.via (fun q h _ d => K q h d) hN
theorem PenIn.sub {a b : List (Addr × Obj)} {pn C : Addr} {N M : Int} (h : PenIn a pn C N) (K : ∀ q ∈ a, q ∈ b) (hN : N ≤ M) : PenIn b pn C M := h.via (fun q h _ _ => K q h) hN
theorem pow_big {prog : Program} {w : World} {A : Around} {E : Value → Shared → Prop} {s : Shared} {a : Int} {t u : Tok} {Q : Value → Shared → Prop} (h0 : 0 ≤ a) (h1 : a < 30000000000000000000000000000000000000000) (h : ∀ p, 0 ≤ p → Q (.int p s.toks) { s with toks := s.toks + 1 }) :
    wpAny (model prog w) A (binaryOp .Pow (.int a t) (.int 7 u)) Q E s := by
  have hb : Builtin.Int.intBits a ≤ 140 := intBits_le (by
    have : (2 : Nat) ^ 140 = 1393796574908163946345982392040522594123776 := by decide +kernel
    rw [this]
    omega)
  refine pow_int (by decide) ?_ (h _ (Int.pow_nonneg h0))
  have : (Builtin.Int.intBits a : Int) * 7 ≤ 140 * 7 := by omega
  have e : (2 : Int) ^ 27 = 134217728 := by decide
  rw [e]
  omega
theorem getD_range {ns : List Int} {M : Int} (hM : 0 < M) (hc : ∀ c ∈ ns, 0 ≤ c ∧ c < M) (j : Nat) : 0 ≤ ns.getD j 0 ∧ ns.getD j 0 < M := by
  by_cases h : j < ns.length
  · have e : ns.getD j 0 = ns[j] := by simp [List.getD, h]
    rw [e]
    exact hc _ (List.getElem_mem h)
  · have e : ns.getD j 0 = 0 := by simp [List.getD, h]
    rw [e]
    omega
def KeepsB (pn : Addr) (news news' : List (Addr × Obj)) : Prop := ∀ q ∈ news, q.1 ≠ pn → q ∈ news'
theorem PenIn.ne {h₀ h : Heap} {L pn Cc l : Addr} {news : List (Addr × Obj)} {N : Int} {o : Obj} (P : PenIn news pn Cc N) (Nw : News h₀ L h news) (hm : (l, o) ∈ news) (hn : NotPen o) : l ≠ pn := by
  refine (?_ : let G9 : Prop := _; G9); intro G9
  obtain ⟨cs, ns, nc, x, u1, y, u2, k, m1, _⟩ := P.x
  unfold G9; clear G9
  exact News.differ Nw hm m1 (hn _ _ _ _ _ _)
theorem KeepsB.toL {h₀ h : Heap} {L pn Cc : Addr} {news news' : List (Addr × Obj)} {N : Int} (K : KeepsB pn news news') (P : PenIn news pn Cc N) (Nw : News h₀ L h news) : KeepsL news news' := fun q hq hn _ => K q hq (P.ne (o := q.2) Nw hq hn)
theorem KeepsB.trans' {pn : Addr} {a b c : List (Addr × Obj)} (y : KeepsB pn b c) (x : KeepsB pn a b) : KeepsB pn a c := fun q h n => y q (x q h n) n
theorem keepsB_pen {pn : Addr} {news rest : List (Addr × Obj)} {p : Addr × Obj} (hsub : ∀ q ∈ news, q.1 ≠ pn → q ∈ rest) : KeepsB pn news (p :: rest) := fun q hq hn => List.mem_cons_of_mem _ (hsub q hq hn)
include B F X N Tp hk in
theorem draw_spec {pn Cc : Addr} {Nn many : Int} {tm : Tok}
    (P : PenIn news pn Cc Nn) (hN : Nn ≤ 5000) (h1 : 1 ≤ many) (h2 : many ≤ 10) (hdp : dp ≤ 590) (hun : un ≤ 4800)
    (ret : ∀ dg u news' h' tk', 0 ≤ dg → dg < many → Fr h₀ L h' m → News h₀ L h' news' → KeepsB pn news news' → PenIn news' pn Cc (Nn + 1) → Q (.int dg u) { s with heap := h', toks := tk' }) :
    wpAny (model pw w) (top9 none dp un gd cn cs L a ccd cl outer) (call (.ref (nat_lit 520)) [.ref pn, .int many tm]) Q E s := by
  tb_start
  refine (?_ : let G9 : Prop := _; G9); intro G9
  obtain ⟨cs, ns, nc, x9, u1, y9, u2, k9, m1, m2, hi, hl, hc, hx0, hxN, hy0⟩ := P.x
  unfold G9; clear G9
  have hl2 : cs.length ≤ 30 := by
    have := hi.length
    omega
  have hg := getD_range (by decide) hc
  have hne : Cc ≠ pn := News.differ N m2 m1 (notPen_ints hi _ _ _ _ _ _)
  refine (?_ : let G9 : Prop := _; G9); intro G9
  obtain ⟨rest, N2, hap, hsub, hup⟩ := News.front N m1
  unfold G9; clear G9
  have m3 := hsub _ m2 hne
  ktr_enter
  with_reducible rename Fr _ _ _ (fun y => List.lookup y _) => F2
  replace F2 : Fr _ _ _ (fun y => List.lookup y [(Str.ofString "many", .int many tm), (Str.ofString "pen", .ref pn)]) := F2
  (try (generalize s.toks + List.length _ = tk0))
  repeat' (first
    | ((with_reducible show wpAny _ _ (binaryOp _ (Value.int _ _) (Value.int 7 _)) _ _ _); (refine pow_big ?ka ?kb ?_); (case ka => first | omega | (have z9 := hg x9.toNat; omega)); (case kb => first | omega | (have z9 := hg x9.toNat; omega)); intro p9 hp9)
    | ((with_reducible show wpAny _ _ (call (Value.builtin "sum") [Value.ref _]) _ _ _); (with_unfolding_all refine' sumK ?k0 ?k1 ?k2 ?k3 ?k4 ?_; (case k0 => with_unfolding_all rfl); (case k1 => k_asm); (case k2 => k_asm); (case k3 => exact News.isList (by k_asm) (by k_mem)); (case k4 => assumption); k_whole); intro h9 tk9 t9 F9 N9)
    | walk_at "t9")
  all_goals exact ret _ _ _ _ _ (Int.fmod_nonneg_of_pos _ (by omega)) (Int.fmod_lt_of_pos _ (by omega)) (by assumption) (by assumption) (keepsB_pen hsub) ⟨_, _, _, _, _, _, _, _, List.mem_cons_self .., List.mem_cons_of_mem _ m3, hi, hl, hc, by omega, by omega, Int.fdiv_nonneg (by first | assumption | omega | (have z := hg x9.toNat; omega) | exact Int.add_nonneg hp9 (Int.fmod_nonneg_of_pos _ (by decide))) (by omega)⟩

end
section
theorem item6 {d : Int} (h0 : 0 ≤ d) (h6 : d < 6) : ∃ c, Txt.item (Str.ofString "Zz 0'.") d = ⟨#[c]⟩ ∧ c < 128 := by
  have h : d = 0 ∨ d = 1 ∨ d = 2 ∨ d = 3 ∨ d = 4 ∨ d = 5 := by omega
  rcases h with rfl | rfl | rfl | rfl | rfl | rfl
  · exact ⟨90, by decide +kernel, by decide⟩
  · exact ⟨122, by decide +kernel, by decide⟩
  · exact ⟨32, by decide +kernel, by decide⟩
  · exact ⟨48, by decide +kernel, by decide⟩
  · exact ⟨39, by decide +kernel, by decide⟩
  · exact ⟨46, by decide +kernel, by decide⟩
theorem item_any {prog : Program} {w : World} {A : Around} {E : Value → Shared → Prop} {s : Shared} {h₀ : Heap} {L l : Addr} {news : List (Addr × Obj)} {items : Array Value} {n : Nat} {Q : Value → Shared → Prop} {value slice : Expr} {k : Int} {u : Tok}
    (N : News h₀ L s.heap news) (hm : (l, listOf items n) ∈ news) (h0 : 0 ≤ k) (h1 : k < items.size) (h2 : items.size ≤ 1000) (h : ∀ v, v ∈ items.toList → Q v s)
    (hs : subscripted slice false (.ref l) (.int k u) = operate [.ref l, .int k u] (getItem (.ref l) (.int k u))) (hg : ∀ r, letTemporaryGo value (.ref l) r = pure ()) :
    wpAny (model prog w) A (subscriptTail value slice (.ref l) (.int k u)) Q E s := by
  have hk : k.toNat < items.size := by omega
  exact item_mem N hm h0 (by omega) (Array.getElem?_eq_getElem hk) (h _ (by rw [← Array.getElem_toList]; exact List.getElem_mem _)) hs hg
include B F X N Tp hk in
theorem pickL_spec {pn Cc l : Addr} {Nn : Int} {items : Array Value} {nl : Nat}
    (P : PenIn news pn Cc Nn) (hN : Nn ≤ 5000) (hl : (l, listOf items nl) ∈ news) (hnp : NotPen (listOf items nl)) (h1 : 1 ≤ items.size) (h2 : items.size ≤ 10) (hdp : dp ≤ 580) (hun : un ≤ 4600)
    (ret : ∀ v news' h' tk', v ∈ items.toList → Fr h₀ L h' m → News h₀ L h' news' → KeepsB pn news news' → PenIn news' pn Cc (Nn + 1) → Q v { s with heap := h', toks := tk' }) :
    wpAny (model pw w) (top9 none dp un gd cn cs L a ccd cl outer) (call (.ref (nat_lit 527)) [.ref pn, .ref l]) Q E s := by
  tb_start
  ktr_enter
  with_reducible rename Fr _ _ _ (fun y => List.lookup y _) => F2
  replace F2 : Fr _ _ _ (fun y => List.lookup y [(Str.ofString "some", .ref l), (Str.ofString "pen", .ref pn)]) := F2
  (try (generalize s.toks + List.length _ = tk0))
  repeat' (first
    | ((with_reducible show wpAny _ _ (call (Value.ref (nat_lit 520)) _) _ _ _); (refine' draw_spec ?B ?F ?X ?N ?T ?hk ?x0 ?x1 ?x2 ?x3 ?hd ?hu ?_; kfm_turns; (case x0 => assumption); (case x1 => omega); (case x2 => first | omega | ((simp only [List.size_toArray, List.length_map, List.length_cons, List.length_nil] at *); omega)); (case x3 => first | omega | ((simp only [List.size_toArray, List.length_map, List.length_cons, List.length_nil] at *); omega)); k_whole); intro dg9 du9 l9 h9 tk9 dz9 dm9 F9 N9 K9 P9; kqd_sub)
    | walk_at "t9")
  have q9 := (by assumption : KeepsB _ _ _) _ hl (P.ne N hl hnp)
  repeat' (first
    | ((with_reducible show wpAny _ _ (subscriptTail _ _ (Value.ref _) (Value.int _ _)) _ _ _); k_dflt (refine' item_any ?k1 ?k2 ?k3 ?k4 ?k5 ?_ ?k7 ?k8; (case k7 => with_unfolding_all rfl); (case k8 => intro _; with_unfolding_all rfl); (case k1 => k_asm); (case k2 => k_mem); (case k3 => assumption); (case k4 => assumption); (case k5 => omega); k_whole); intro v9 hv9)
    | walk_at "t9")
  exact ret _ _ _ _ (by assumption) (by assumption) (by assumption) (by assumption) (by assumption)
include B F X N Tp hk in
theorem pickS_spec {pn Cc : Addr} {Nn : Int} {tm : Tok}
    (P : PenIn news pn Cc Nn) (hN : Nn ≤ 5000) (hdp : dp ≤ 580) (hun : un ≤ 4600)
    (ret : ∀ c u news' h' tk', c < 128 → Fr h₀ L h' m → News h₀ L h' news' → KeepsB pn news news' → PenIn news' pn Cc (Nn + 1) → Q (.str ⟨#[c]⟩ u) { s with heap := h', toks := tk' }) :
    wpAny (model pw w) (top9 none dp un gd cn cs L a ccd cl outer) (call (.ref (nat_lit 527)) [.ref pn, .str (Str.ofString "Zz 0'.") tm]) Q E s := by
  tb_start
  ktr_enter
  with_reducible rename Fr _ _ _ (fun y => List.lookup y _) => F2
  replace F2 : Fr _ _ _ (fun y => List.lookup y [(Str.ofString "some", .str (Str.ofString "Zz 0'.") tm), (Str.ofString "pen", .ref pn)]) := F2
  (try (generalize s.toks + List.length _ = tk0))
  repeat' (first
    | ((with_reducible show wpAny _ _ (call (Value.ref (nat_lit 520)) _) _ _ _); (refine' draw_spec ?B ?F ?X ?N ?T ?hk ?x0 ?x1 ?x2 ?x3 ?hd ?hu ?_; kfm_turns; (case x0 => assumption); (case x1 => omega); (case x2 => first | omega | ((simp only [List.size_toArray, List.length_map, List.length_cons, List.length_nil] at *); omega)); (case x3 => first | omega | ((simp only [List.size_toArray, List.length_map, List.length_cons, List.length_nil] at *); omega)); k_whole); intro dg9 du9 l9 h9 tk9 dz9 dm9 F9 N9 K9 P9; kqd_sub)
    | walk_at "t9")
  refine (?_ : let G9 : Prop := _; G9); intro G9
  obtain ⟨c9, ec9, hc9⟩ := item6 (by assumption) (by assumption : dg9 < _)
  unfold G9; clear G9
  rw [ec9]
  exact ret _ _ _ _ _ hc9 (by assumption) (by assumption) (by assumption) (by assumption)

end
section
theorem comp_end1 {h₀ : Heap} {L I C D t : Addr} {m : Str → Option Value} {s₁ : Shared} {oI oC oD o : Obj} {S : List (Addr × Obj) → Prop} {rest : Value → List (Addr × Obj) → Prop} {y : Value} {h' : Heap} {tk : Nat} {news : List (Addr × Obj)}
    (F : Fr h₀ L h' m) (N : News h₀ L h' ((t, o) :: (I, oI) :: (C, oC) :: (D, oD) :: news)) (off : PyProof.Rows.LCg.Off3 I C D news) (hI : @LT.lt Nat _ I t) (hC : @LT.lt Nat _ C t) (hD : @LT.lt Nat _ D t) (hS : S ((t, o) :: news)) (r : rest y ((t, o) :: news)) :
    PyProof.Rows.LCg.CompEnd h₀ L m s₁ I oI C oC D oD S rest y { s₁ with heap := h', toks := tk } :=
  PyProof.Rows.LCg.CompEnd.intro F N ((t, o) :: news) (fun p hp => by
    rcases List.mem_cons.mp hp with rfl | hp
    · exact List.mem_cons_of_mem _ (List.mem_cons_self ..)
    · rcases List.mem_cons.mp hp with rfl | hp
      · exact List.mem_cons_of_mem _ (List.mem_cons_of_mem _ (List.mem_cons_self ..))
      · rcases List.mem_cons.mp hp with rfl | hp
        · exact List.mem_cons_of_mem _ (List.mem_cons_of_mem _ (List.mem_cons_of_mem _ (List.mem_cons_self ..)))
        · rcases List.mem_cons.mp hp with rfl | hp
          · exact List.mem_cons_self ..
          · exact List.mem_cons_of_mem _ (List.mem_cons_of_mem _ (List.mem_cons_of_mem _ (List.mem_cons_of_mem _ hp))))
    ⟨⟨Nat.ne_of_gt hI, Nat.ne_of_gt hC, Nat.ne_of_gt hD⟩, off⟩ hS r
/-- a list of words of their kind -/
inductive LP (news : List (Addr × Obj)) : List Value → List (Str × Str) → Prop where
  | nil : LP news [] []
  | cons {a : Addr} {k x : Str} {u1 u2 : Tok} {n : Nat} {vs : List Value} {ws : List (Str × Str)} : (a, tupOf [.str k u1, .str x u2] n) ∈ news → LP news vs ws → LP news (.ref a :: vs) ((k, x) :: ws)
structure LL (news : List (Addr × Obj)) (l : Addr) (ws : List (Str × Str)) : Prop where
  x : ∃ vs n, (l, listOf (List.toArray vs) n) ∈ news ∧ LP news vs ws
theorem LP.keepsL {a b : List (Addr × Obj)} {vs : List Value} {ws : List (Str × Str)} (h : LP a vs ws) (K : KeepsL a b) : LP b vs ws := by
  induction h with
  | nil => exact .nil
  | cons m _ ih => exact .cons (K _ m notPen_tup tup_ok) ih
theorem LP.append {a : List (Addr × Obj)} {vs vs' : List Value} {ws ws' : List (Str × Str)} (h : LP a vs ws) (h' : LP a vs' ws') : LP a (vs ++ vs') (ws ++ ws') := by
  induction h with
  | nil => exact h'
  | cons m _ ih => exact .cons m ih
theorem LP.length {a : List (Addr × Obj)} {vs : List Value} {ws : List (Str × Str)} (h : LP a vs ws) : vs.length = ws.length := by
  induction h with
  | nil => rfl
  | cons m _ ih => simp [ih]
theorem notPen_refs {vs : List Value} (h : ∀ v ∈ vs, ∃ a, v = .ref a) {n : Nat} : NotPen (listOf vs.toArray n) := fun C a u b v k e => by
  have e1 := congrArg Obj.data e
  injection e1 with e2 _
  have e3 := congrArg Array.toList e2
  have e4 : vs = [.ref C, .int a u, .int b v] := e3
  subst e4
  obtain ⟨q, z⟩ := h (.int a u) (by simp)
  cases z
theorem LP.refs {a : List (Addr × Obj)} {vs : List Value} {ws : List (Str × Str)} (h : LP a vs ws) : ∀ v ∈ vs, ∃ b, v = .ref b := by
  induction h with
  | nil => intro v hv; cases hv
  | cons m _ ih =>
    intro v hv
    rcases List.mem_cons.mp hv with rfl | hv
    · exact ⟨_, rfl⟩
    · exact ih v hv
theorem LL.keepsL {a b : List (Addr × Obj)} {l : Addr} {ws : List (Str × Str)} (h : LL a l ws) (K : KeepsL a b) : LL b l ws :=
  let ⟨vs, n, m, p⟩ := h.x
  ⟨vs, n, K _ m (notPen_refs p.refs) list_ok, p.keepsL K⟩
include B F X N Tp hk in
theorem words1_spec {wd : Str} {tw : Tok}
    (hw : Txt.split wd (Str.ofString " ") = [wd]) (hwl : wd.length ≤ 100) (hwe : (wd != Str.ofString "") = true) (hdp : dp ≤ 590) (hun : un ≤ 4800)
    (ret : ∀ l news' h' tk', Fr h₀ L h' m → News h₀ L h' news' → (∀ q ∈ news, q ∈ news') → LL news' l [(Str.ofString "word", wd)] → Q (.ref l) { s with heap := h', toks := tk' }) :
    wpAny (model pw w) (top9 none dp un gd cn cs L a ccd cl outer) (call (.ref (nat_lit 532)) [.str wd tw]) Q E s := by
  tb_start
  ktr_enter
  with_reducible rename Fr _ _ _ (fun y => List.lookup y _) => F2
  replace F2 : Fr _ _ _ (fun y => List.lookup y [(Str.ofString "text", .str wd tw)]) := F2
  (try (generalize s.toks + List.length _ = tk0))
  repeat' (first
    | (k_here; (with_reducible show wpAny _ _ (call (Value.builtin "str.split") _) _ _ _); (refine KSpl.split1 (by k_asm) (by k_asm) (by decide) ?_ (by rw [sizeLine_eq]; omega)); intro D' l' h' k' e' a' F' N' l1; (try k_lt l1); (rw [(by assumption : Txt.split _ _ = _)] at e'); (kspl_open e'); (simp only [strValues, List.map_cons, List.map_nil] at N' a'))
    | ((with_reducible show wpAny _ _ (eval (Expr.ListComp _ _ _ _) _) _ _ _); k_here; k_dflt (refine PyProof.Rows.LCg.ListComp_U (F₀ := by k_asm) (by rfl) (by decide) (by rfl) (by decide) (by rfl) ?_))
    | ((with_reducible show PyProof.Rows.LCg.CompSrc _ _ _ _ _ _ _ _ _ _ _ _ _ _); k_here; k_dflt (refine PyProof.Rows.LCg.CompSrc.ledger (by rfl) (by k_asm) (by k_asm) (by k_mem) (by first | size_fits | exact Nat.le_of_ble_eq_true rfl) ?_; intro g'; lcg_lit))
    | ((with_reducible show PyProof.Rows.LCg.CompRest _ _ _ _ _ _ _ _ _ _ _ _ _ _ _ _ _ _ _); (with_unfolding_all first | (refine PyProof.Rows.LCg.CompRest.succ ?_; intro v' I' oI' C' oC' D' m' h' tk' E' hv' hC' hx' F' N' off' ne'; (first | lcg_open hv' | (obtain ⟨t9', hv9'⟩ := hv'; subst hv9'))) | refine PyProof.Rows.LCg.CompRest.zero ?_))
    | ((with_reducible show PyProof.Rows.LCg.CompEnd _ _ _ _ _ _ _ _ _ _ _ _ _ _); k_dflt (refine comp_end1 (by assumption) (by assumption) (by assumption) (by omega) (by omega) (by omega) (by lcg_src) ?_))
    | ((with_reducible show PyProof.Rows.LCg.FinE _ _ _ _ _ _ _); (unfold PyProof.Rows.LCg.FinE); intro D9 h9 tk9 F9 N9 o9; (try simp only [List.nil_append, List.cons_append] at N9); (try dsimp only))
    | walk_at "t9")
  all_goals first
    | exact ret _ _ _ _ (by assumption) (by assumption) (fun q hq => by repeat (first | exact hq | refine List.mem_cons_of_mem _ ?_)) ⟨_, _, List.mem_cons_self .., .cons (List.mem_cons_of_mem _ (List.mem_cons_self ..)) .nil⟩
    | exact absurd ((by assumption : (wd != _) = false).symm.trans hwe) (by decide)
include B F X N Tp hk in
theorem words3_spec {tw : Tok}
     (hdp : dp ≤ 590) (hun : un ≤ 4800)
    (ret : ∀ l news' h' tk', Fr h₀ L h' m → News h₀ L h' news' → (∀ q ∈ news, q ∈ news') → LL news' l [(Str.ofString "word", Str.ofString "X"), (Str.ofString "word", Str.ofString "OF"), (Str.ofString "word", Str.ofString "R")] → Q (.ref l) { s with heap := h', toks := tk' }) :
    wpAny (model pw w) (top9 none dp un gd cn cs L a ccd cl outer) (call (.ref (nat_lit 532)) [.str (Str.ofString "X OF R") tw]) Q E s := by
  tb_start
  have hw : Txt.split (Str.ofString "X OF R") (Str.ofString " ") = [Str.ofString "X", Str.ofString "OF", Str.ofString "R"] := by decide +kernel
  ktr_enter
  with_reducible rename Fr _ _ _ (fun y => List.lookup y _) => F2
  replace F2 : Fr _ _ _ (fun y => List.lookup y [(Str.ofString "text", .str (Str.ofString "X OF R") tw)]) := F2
  (try (generalize s.toks + List.length _ = tk0))
  repeat' (first
    | (k_here; (with_reducible show wpAny _ _ (call (Value.builtin "str.split") _) _ _ _); (refine KSpl.split1 (by k_asm) (by k_asm) (by decide) ?_ (by rw [sizeLine_eq]; omega)); intro D' l' h' k' e' a' F' N' l1; (try k_lt l1); (rw [(by assumption : Txt.split _ _ = _)] at e'); (kspl_open e'); (simp only [strValues, List.map_cons, List.map_nil] at N' a'))
    | ((with_reducible show wpAny _ _ (eval (Expr.ListComp _ _ _ _) _) _ _ _); k_here; k_dflt (refine PyProof.Rows.LCg.ListComp_U (F₀ := by k_asm) (by rfl) (by decide) (by rfl) (by decide) (by rfl) ?_))
    | ((with_reducible show PyProof.Rows.LCg.CompSrc _ _ _ _ _ _ _ _ _ _ _ _ _ _); k_here; k_dflt (refine PyProof.Rows.LCg.CompSrc.ledger (by rfl) (by k_asm) (by k_asm) (by k_mem) (by first | size_fits | exact Nat.le_of_ble_eq_true rfl) ?_; intro g'; lcg_lit))
    | ((with_reducible show PyProof.Rows.LCg.CompRest _ _ _ _ _ _ _ _ _ _ _ _ _ _ _ _ _ _ _); (with_unfolding_all first | (refine PyProof.Rows.LCg.CompRest.succ ?_; intro v' I' oI' C' oC' D' m' h' tk' E' hv' hC' hx' F' N' off' ne'; (first | lcg_open hv' | (obtain ⟨t9', hv9'⟩ := hv'; subst hv9'))) | refine PyProof.Rows.LCg.CompRest.zero ?_))
    | ((with_reducible show PyProof.Rows.LCg.CompEnd _ _ _ _ _ _ _ _ _ _ _ _ _ _); k_dflt (refine comp_end1 (by assumption) (by assumption) (by assumption) (by omega) (by omega) (by omega) (by lcg_src) ?_))
    | ((with_reducible show PyProof.Rows.LCg.FinE _ _ _ _ _ _ _); (unfold PyProof.Rows.LCg.FinE); intro D9 h9 tk9 F9 N9 o9; (try simp only [List.nil_append, List.cons_append] at N9); (try dsimp only))
    | walk_at "t9")
  exact ret _ _ _ _ (by assumption) (by assumption) (fun q hq => by repeat (first | exact hq | refine List.mem_cons_of_mem _ ?_)) ⟨_, _, List.mem_cons_self .., .cons (List.mem_cons_of_mem _ (List.mem_cons_of_mem _ (List.mem_cons_of_mem _ (List.mem_cons_self ..)))) (.cons (List.mem_cons_of_mem _ (List.mem_cons_of_mem _ (List.mem_cons_self ..))) (.cons (List.mem_cons_of_mem _ (List.mem_cons_self ..)) .nil))⟩

end
section
section
open PyProof.Rows.LCg
theorem ld_cell9 {M : Model} {A : Around} {E : Value → Shared → Prop} {s : Shared} {h₀ : Heap} {L C c : Addr} {news : List (Addr × Obj)} {scope : Scope} {cl : List (Str × Addr)} {env : Env} {o : Obj} {v : Value} {x : Str} {pos : Pos} {Q : Value → Shared → Prop}
    (N : News h₀ L s.heap news) (hc : cl.lookup x = some c) (hm : (c, o) ∈ news) (hd : o.data = .cell (some v)) (h : Q v s)
    (hk : (compEnvC scope cl C env).scope.kind = .function := by rfl) (hx : (compEnvC scope cl C env).kindOf x = some .cell := by rfl) (hb : (x == ("__debug__" : Str)) = false := by decide) :
    wpAny M A (eval (.Name x pos) (compEnvC scope cl C env)) Q E s := wpAny_Name (wpAny_loadName_cell hk hx hc ⟨o, N.get hm, hd⟩ h) hb
theorem comp_endB {h₀ : Heap} {L I C D pn Cc : Addr} {m : Str → Option Value} {s₁ : Shared} {oI oC oD : Obj} {rest : Value → List (Addr × Obj) → Prop} {y : Value} {h' : Heap} {tk : Nat} {news l9 : List (Addr × Obj)} {N0 N1 : Int}
    (F : Fr h₀ L h' m) (N : News h₀ L h' l9) (K : KeepsB pn ((I, oI) :: (C, oC) :: (D, oD) :: news) l9) (off : Off3 I C D news) (P : PenIn news pn Cc N0) (P9 : PenIn l9 pn Cc N1)
    (r : ∀ news', KeepsB pn news news' → PenIn news' pn Cc N1 → rest y news') :
    CompEnd h₀ L m s₁ I oI C oC D oD (fun _ => True) rest y { s₁ with heap := h', toks := tk } := by
  have ho := off.mem
  refine (?_ : let G9 : Prop := _; G9); intro G9
  obtain ⟨cs, ns, nc, x, u1, yy, u2, k, h1, h2, _⟩ := P.x
  unfold G9; clear G9
  have hp := ho _ h1
  have hc := ho _ h2
  have sub : ∀ q ∈ l9, q.1 ≠ I → q.1 ≠ C → q.1 ≠ D → q ∈ l9.filter (fun q => q.1 != I && q.1 != C && q.1 != D) := fun q hq a b c => List.mem_filter.mpr ⟨hq, by simp [a, b, c]⟩
  refine CompEnd.intro F N (l9.filter (fun q => q.1 != I && q.1 != C && q.1 != D)) (fun q hq => ?_) (Off3.of fun q hq => by simpa [and_assoc] using (List.mem_filter.mp hq).2) trivial
    (r _ (fun q hq hn => sub q (K q (List.mem_cons_of_mem _ (List.mem_cons_of_mem _ (List.mem_cons_of_mem _ hq))) hn) (ho q hq).1 (ho q hq).2.1 (ho q hq).2.2) (P9.via (fun q hq e _ => ?_) (Int.le_refl _)))
  · rcases List.mem_cons.mp hq with rfl | hq
    · exact K _ (List.mem_cons_self ..) (Ne.symm hp.1)
    · rcases List.mem_cons.mp hq with rfl | hq
      · exact K _ (List.mem_cons_of_mem _ (List.mem_cons_self ..)) (Ne.symm hp.2.1)
      · rcases List.mem_cons.mp hq with rfl | hq
        · exact K _ (List.mem_cons_of_mem _ (List.mem_cons_of_mem _ (List.mem_cons_self ..))) (Ne.symm hp.2.2)
        · exact (List.mem_filter.mp hq).1
  · rcases e with e | e
    · exact sub q hq (e ▸ hp.1) (e ▸ hp.2.1) (e ▸ hp.2.2)
    · exact sub q hq (e ▸ hc.1) (e ▸ hc.2.1) (e ▸ hc.2.2)
end
theorem jn1 (a : Nat) : Txt.join (Str.ofString "") [⟨#[a]⟩] = ⟨#[a]⟩ := by rfl
theorem jn2 (a b : Nat) : Txt.join (Str.ofString "") [⟨#[a]⟩, ⟨#[b]⟩] = ⟨#[a, b]⟩ := by rfl
theorem jn3 (a b c : Nat) : Txt.join (Str.ofString "") [⟨#[a]⟩, ⟨#[b]⟩, ⟨#[c]⟩] = ⟨#[a, b, c]⟩ := by rfl
theorem jn4 (a b c d : Nat) : Txt.join (Str.ofString "") [⟨#[a]⟩, ⟨#[b]⟩, ⟨#[c]⟩, ⟨#[d]⟩] = ⟨#[a, b, c, d]⟩ := by rfl
theorem join_chars : ∀ {cs : List Nat}, 1 ≤ cs.length → cs.length ≤ 4 → Txt.join (Str.ofString "") (cs.map fun c => (⟨#[c]⟩ : Str)) = ⟨cs.toArray⟩
  | [a], _, _ => jn1 a
  | [a, b], _, _ => jn2 a b
  | [a, b, c], _, _ => jn3 a b c
  | [a, b, c, d], _, _ => jn4 a b c d
  | [], h, _ => absurd h (by decide)
  | _ :: _ :: _ :: _ :: _ :: _, _, h => absurd h (by simp only [List.length_cons]; omega)
theorem chars_plain {cs : List Nat} (h1 : 1 ≤ cs.length) (h4 : cs.length ≤ 4) (hc : ∀ c ∈ cs, c < 128) : PlainT ⟨cs.toArray⟩ := ⟨h1, h4, hc⟩
theorem chars_size {cs : List Nat} (h4 : cs.length ≤ 4) : ((cs.map fun c => (⟨#[c]⟩ : Str)).map (·.length)).sum + (cs.map fun c => (⟨#[c]⟩ : Str)).length * (Str.ofString "").length ≤ 16777216 := by
  have e : ∀ l : List Nat, ((l.map fun c => (⟨#[c]⟩ : Str)).map (·.length)).sum = l.length := fun l => by
    induction l with
    | nil => rfl
    | cons a l ih =>
      rw [List.map_cons, List.map_cons, List.sum_cons, ih, List.length_cons]
      show 1 + l.length = _
      omega
  rw [e, List.length_map, show (Str.ofString "").length = 0 from by decide +kernel]
  omega
theorem strs_snoc {vs : List Value} {ys : List Str} (h : StrsAre vs ys) (y : Str) (u : Tok) : StrsAre (vs ++ [.str y u]) (ys ++ [y]) := by
  induction h with
  | nil => exact .cons y u .nil
  | cons z t h ih => exact .cons z t ih
/-- the signs drawn so far -/
def InvL (pn Cc : Addr) (l0 : List (Addr × Obj)) (Nn : Int) (i : Nat) (ys : List Value) (l : List (Addr × Obj)) : Prop :=
  KeepsB pn l0 l ∧ PenIn l pn Cc (Nn + (i : Int)) ∧ ∃ cs : List Nat, StrsAre ys (cs.map fun c => (⟨#[c]⟩ : Str)) ∧ cs.length = i ∧ ∀ c ∈ cs, c < 128
theorem InvL.next {pn Cc : Addr} {l0 l l' : List (Addr × Obj)} {Nn : Int} {i c : Nat} {ys : List Value} {u : Tok} (h : InvL pn Cc l0 Nn i ys l) (hc : c < 128) (K : KeepsB pn l l') (P : PenIn l' pn Cc (Nn + (i : Int) + 1)) : InvL pn Cc l0 Nn (i + 1) (ys ++ [.str ⟨#[c]⟩ u]) l' := by
  refine (?_ : let G9 : Prop := _; G9); intro G9
  obtain ⟨k, -, cs, h1, h2, h3⟩ := h
  unfold G9; clear G9
  refine ⟨K.trans' k, P.sub (fun _ h => h) (by omega), cs ++ [c], ?_, by rw [List.length_append, h2]; rfl, fun d hd => ?_⟩
  · rw [List.map_append]
    exact strs_snoc h1 _ u
  · rcases List.mem_append.mp hd with hd | hd
    · exact h3 d hd
    · rw [List.mem_singleton.mp hd]
      exact hc
theorem range_nat {size : Int} (h1 : 1 ≤ size) (h4 : size ≤ 4) : Builtin.Range.small 0 size 1 = true ∧ Builtin.Range.rangeSize 0 size 1 = ((size.toNat : Nat) : Int) ∧ size.toNat ≤ sizeLine := by
  have hs : size = 1 ∨ size = 2 ∨ size = 3 ∨ size = 4 := by omega
  rcases hs with rfl | rfl | rfl | rfl <;> exact ⟨by decide, by decide, by rw [sizeLine_eq]; decide⟩
theorem PenIn.below {news : List (Addr × Obj)} {pn C : Addr} {N : Int} {L : Nat} (P : PenIn news pn C N) (h : ∀ p ∈ news, @LT.lt Nat _ p.1 L) : @LT.lt Nat _ pn L :=
  let ⟨_, _, _, _, _, _, _, _, m, _⟩ := P.x; h _ m
section
variable {prog : Program} {w : World} {A : Around} {s : Shared} {h₀ : Heap} {L : Addr} {m : Str → Option Value} {env : Env}
open PyProof.Rows.LCg in
/-- a list block of any length -/
theorem CompRest_indN {elt : Expr} {x : Str} {scope : Scope} {cl : List (Str × Addr)} {S : List (Addr × Obj) → Prop} {P : Nat → Value → Prop} {Fin : List Value → List (Addr × Obj) → Prop} {n : Nat} {Inv : Nat → List Value → List (Addr × Obj) → Prop}
    (hstep : ∀ i v ys news I oI C oC D m₂ h tk (E' : Value → Shared → Prop), i < n → P i v → Inv i ys news → NsObj oC m₂ → m₂ x = some v → Fr h₀ L h m → News h₀ L h ((I, oI) :: (C, oC) :: (D, lst ys) :: news) → Off3 I C D news → ((@Ne Nat I C) ∧ (@Ne Nat I D) ∧ (@Ne Nat C D)) →
      wpAny (model prog w) A (eval elt (compEnvC scope cl C env)) (CompEnd h₀ L m { s with heap := h, toks := tk } I oI C oC D (lst ys) S (fun y news' => Inv (i + 1) (ys ++ [y]) news')) E' { s with heap := h, toks := tk })
    (hend : ∀ ys news, Inv n ys news → Fin ys news) : ∀ k i ys news, Inv i ys news → i + k = n → CompRest prog w A h₀ L m env elt x scope cl s S P Fin k i ys news
  | 0, i, ys, news, inv, e => hend ys news (by rw [← e]; exact inv)
  | k + 1, i, ys, news, inv, e => fun v I oI C oC D m₂ h tk E' hp hC hx F N off ne => wpAny_mono (hstep i v ys news I oI C oC D m₂ h tk E' (by omega) hp inv hC hx F N off ne) (fun y s' z => by
      refine (?_ : let G9 : Prop := _; G9); intro G9
      obtain ⟨h', tk', news', e1, F', N', off', hS, inv'⟩ := z
      unfold G9; clear G9
      exact ⟨h', tk', news', e1, F', N', off', hS, CompRest_indN hstep hend k (i + 1) (ys ++ [y]) news' inv' (by omega)⟩) fun _ _ z => z
end
section
variable {prog : Program} {w : World} {A : Around} {E : Value → Shared → Prop} {s : Shared} {h₀ : Heap} {L : Addr} {m : Str → Option Value} {env : Env}
open PyProof.Rows.LCg in
theorem ListComp_S {elt iter : Expr} {x : Str} {px : Pos} {scope : Scope} {cl : List (Str × Addr)} {pos : Pos} {Q : Value → Shared → Prop} (_F₀ : Fr h₀ L s.heap m)
    (hclos : closureFor scope env = pure cl) (hcell : ∀ z ∈ scope.names, z.2 ≠ .cell) (hkind : scope.kind = .function)
    (hnames : ∀ z ∈ scope.names, z.2 = .local → scope.names.lookup z.1 = some .local) (hx : scope.names.lookup x = some .local)
    (h : wpAny (model prog w) A (eval iter env) (SrcS prog w A h₀ L m env elt x scope cl (fun s₂ => FinE h₀ L m s₂ Q)) E s)
    (hs : ∀ x, foldedSetIterable iter env x = pure x := by intro _; rfl) :
    wpAny (model prog w) A (eval (.ListComp elt [⟨.Name x px, iter, [], 0⟩] scope pos) env) Q E s := by
  rw [eval_ListComp]
  refine wpAny_comprehension_free (use := none) rfl hs hclos hkind hnames (wpAny_mono h (fun xv s₁ h₁ => ?_) fun _ _ e => e)
  refine (?_ : let G9 : Prop := _; G9); intro G9
  obtain ⟨z, t, news, eq9_0, hh, F, N, ha, hsz, R⟩ := h₁
  unfold G9; clear G9
  subst eq9_0
  refine wpAny_pyIter_ascii ha ?_
  have st0 : (s₁.heap.push { cls := .type "str_ascii_iterator", data := .fields #[.str z t, .int 0 0] }).IsStrIter s₁.heap.objs.size "str_ascii_iterator" z t 0 := ⟨_, Heap.get?_push_size _ rfl, rfl, rfl⟩
  refine block_U (Walks.strAscii hh s₁.heap.objs.size z t) hsz (fun i h st => let ⟨o, e, _⟩ := st; ⟨o, e⟩) (fun i h h' o nw st e e' _ _ _ => by obtain ⟨o', q, r⟩ := st; rw [e] at q; cases q; exact ⟨o, e', r⟩)
    hcell hkind hx st0 (fun b hb => ?_) (F.keeps fun _ _ e => Heap.get?_push_of_some _ e) (N.grown fun _ _ e => Heap.get?_push_of_some _ e) (Nat.ne_of_lt F.ns.lt) (next_is_new F) (fun p hp => Nat.ne_of_lt (Heap.lt_size (N p hp).1)) trivial (R _) ?_
  · rw [List.mem_singleton.mp hb]
    show s₁.heap.objs.size < (s₁.heap.push _).objs.size
    rw [Heap.size_push]; exact Nat.lt_succ_self _
  · intro D C h' tk m' ys news' F' N' o1 hn hC₀ hD₀ hCL hDL hCD offC fin
    refine ⟨m', hn, fun h'' hs'' => fin D h'' tk (F'.change hs'' hCL hC₀) (fun p hp => ?_) o1⟩
    refine ⟨hs''.extBut _ _ ?_ (N' p hp).1, (N' p hp).2⟩
    rcases List.mem_cons.mp hp with rfl | hp
    · exact Ne.symm hCD
    · exact offC p hp
end
theorem keepsL_fin {h₀ h : Heap} {L pn Cc : Addr} {news l : List (Addr × Obj)} {N : Int} {p : Addr × Obj} (K : KeepsB pn (p :: news) l) (P : PenIn news pn Cc N) (Nw : News h₀ L h news) : ∀ q ∈ news, NotPen q.2 → q.2.cls ≠ .type "dict" → q ∈ l := fun q hq hn _ => K q (List.mem_cons_of_mem _ hq) (P.ne (o := q.2) Nw hq hn)
include B F X N Tp hk in
theorem lit_spec {pn Cc : Addr} {Nn size : Int} {ts : Tok}
    (P : PenIn news pn Cc Nn) (hN : Nn ≤ 4990) (hs1 : 1 ≤ size) (hs2 : size ≤ 4) (hdp : dp ≤ 560) (hun : un ≤ 4200)
    (ret : ∀ x p lt tt n news' h' tk', PlainT x → (x.cps.toList.length : Int) = size → Fr h₀ L h' m → News h₀ L h' news' → KeepsL news news' → PenIn news' pn Cc (Nn + 4) → (p, tupOf [.ref lt, .ref tt] n) ∈ news' → LL news' lt [(Str.ofString "literal", x)] → OdIn news' (.ref tt) (.text x) → Q (.ref p) { s with heap := h', toks := tk' }) :
    wpAny (model pw w) (top9 none dp un gd cn cs L a ccd cl outer) (call (.ref (nat_lit 542)) [.ref pn, .int size ts]) Q E s := by
  tb_start
  refine wpAny_call ?_
  k_dflt (refine' code_defC ?k1 ?k2 ?k3 ?k4 ?k5 ?kA ?kF ?kK ?k6 ?k7 ?k8 ?k9 ?kB ?kD ?_ ?c2 ?c3 ?c4; (case kA => exact rfl); (case kF => exact rfl); (case kK => assumption); (case k1 => k_asm); (case k2 => k_asm); (case k3 => k_asm); (case k4 => k_asm); (case k5 => k_asm); (case k6 => k_is); (case k7 => k_is); (case k8 => ktr_room); (case k9 => first | exact BindsTo.of_eq rfl | exact binds_K (by k_in) rfl (by k_is) rfl rfl rfl); (case kB => exact rfl); (case kD => decide +kernel); (case c2 => exact rfl); (case c3 => exact rfl); (case c4 => exact rfl); k_whole; intro g' L' h' tk' cells' FG' F' N' Y' B' X' T' l1)
  (have hY := CellsAre.one Y'; obtain ⟨oc9, hE9, d9⟩ := hY; subst hE9; clear Y')
  (try simp only [List.cons_append, List.nil_append] at N')
  (try dsimp only)
  (try k_fold)
  have hpc : L' + 1 ≠ pn := Nat.ne_of_gt (Nat.lt_succ_of_lt (P.below l1))
  have P2 : PenIn ((L' + 1, oc9) :: news) pn Cc Nn := P.sub (fun q hq => List.mem_cons_of_mem _ hq) (Int.le_refl _)
  repeat' (first
    | ((with_reducible show wpAny _ _ (eval (Expr.ListComp _ [⟨_, Expr.Call _ _ _ _, _, _⟩] _ _) _) _ _ _); k_here; k_dflt (refine PyProof.Rows.LCg.ListComp_U (F₀ := by k_asm) (by rfl) (by decide) (by rfl) (by decide) (by rfl) ?_))
    | ((with_reducible show PyProof.Rows.LCg.CompSrc _ _ _ _ _ _ _ _ _ _ _ _ _ _); (refine Halt.go ?_))
    | walk_at "t9")
  refine Halt.back ?_
  have hr9 := range_nat hs1 hs2
  refine PyProof.Rows.LCg.CompSrc.range rfl (by k_asm) (by k_asm) (by assumption) hr9.1 hr9.2.1 hr9.2.2 ?_
  intro g9
  refine CompRest_indN (s := { s with heap := g9, toks := _ }) (Inv := InvL pn Cc ((L' + 1, oc9) :: news) Nn) ?_ ?_ _ 0 [] _ ⟨fun q h _ => by repeat (first | exact h | refine List.mem_cons_of_mem _ ?_), P2.sub (fun q hq => by repeat (first | exact hq | refine List.mem_cons_of_mem _ ?_)) (by omega), [], .nil, rfl, fun _ h => nomatch h⟩ (Nat.zero_add _)
  · intro i v ys l I oI C oC D m2 h tk E' hlt hv inv hC' hx' F' N' off' ne'
    have hi9 : (i : Int) ≤ 4 := by omega
    have q8 := inv.1 _ (List.mem_cons_self ..) hpc
    have P3 := inv.2.1
    clear P2
    repeat' (first
      | ((with_reducible show wpAny _ _ (eval (Expr.Name _ _) (PySem.compEnvC _ _ _ _)) _ _ _); k_dflt (refine ld_cell9 (by k_asm) rfl (by repeat (first | assumption | exact List.mem_cons_self .. | refine List.mem_cons_of_mem _ ?_)) (by assumption) ?_))
      | ((with_reducible show wpAny _ _ (call (Value.ref (nat_lit 527)) _) _ _ _); (refine' pickS_spec ?B ?F ?X ?N ?T ?hk ?x0 ?x1 ?hd ?hu ?_; kfm_turns; (case x0 => first | assumption | exact PenIn.sub (by assumption) (fun q hq => by repeat (first | exact hq | refine List.mem_cons_of_mem _ ?_)) (Int.le_refl _)); (case x1 => omega); k_whole); intro c9 u9 l9 h9 tk9 hc9 F9 N9 K9 P9; kqd_sub)
      | ((with_reducible show PyProof.Rows.LCg.CompEnd _ _ _ _ _ _ _ _ _ _ _ _ _ _); (refine Halt.go ?_))
      | walk_at "t9")
    refine Halt.back ?_
    exact comp_endB (by assumption) (by assumption) (by assumption) off' P3 (by assumption) fun n8 K8 P8 => inv.next hc9 K8 P8
  · intro ys l inv
    unfold PyProof.Rows.LCg.FinE
    intro D8 h8 tk8 F8 N7 o8
    repeat' (first
      | ((with_reducible show wpAny _ _ (call (Value.builtin "str.join") _) _ _ _); (refine Halt.go ?_))
      | walk_at "t9")
    refine Halt.back ?_
    refine (?_ : let G9 : Prop := _; G9); intro G9
    obtain ⟨cs9, st9, ln9, lt9⟩ := inv.2.2
    unfold G9; clear G9
    refine join_list (ys := cs9.map fun c => (⟨#[c]⟩ : Str)) (News.isList N7 (List.mem_cons_self ..)) st9 (chars_size (by omega)) fun t9 k9 => ?_
    rw [join_chars (by omega) (by omega)]
    have hp9 := chars_plain (by omega) (by omega) lt9
    have hl9 : ((⟨cs9.toArray⟩ : Str).cps.toList.length : Int) = size := by
      show (cs9.length : Int) = size
      omega
    generalize (⟨cs9.toArray⟩ : Str) = x9 at hp9 hl9 ⊢
    clear st9 ln9 lt9
    repeat' (first
      | ((with_reducible show wpAny _ _ (eval (Expr.ListComp _ [⟨_, Expr.Name _ _, _, _⟩] _ _) _) _ _ _); k_here; k_dflt (refine ListComp_S (by k_asm) (by rfl) (by decide) (by rfl) (by decide) (by rfl) ?_))
      | ((with_reducible show SrcS _ _ _ _ _ _ _ _ _ _ _ _ _ _); (refine Halt.go ?_))
      | walk_at "t9")
    refine Halt.back ?_
    refine ⟨_, _, _, rfl, rfl, by k_asm, by k_asm, hp9.all, ?_, fun g => ?_⟩
    · have := hp9.h4
      rw [Array.length_toList] at this
      rw [sizeLine_eq]
      omega
    refine CompRest_ind (s := { s with heap := g, toks := _ }) (Inv := InvS x9) ?_ ?_ _ 0 [] .nil (Nat.zero_add _)
    · intro i v ys I oI C oC D m2 h tk E' hv inv hC' hx' F' N' off' ne'
      refine (?_ : let G9 : Prop := _; G9); intro G9
      obtain ⟨c9, u9, e9, eq9_0⟩ := hv
      unfold G9; clear G9
      subst eq9_0
      repeat' (first
        | walk_at "t9")
      exact ⟨_, _, _, rfl, by assumption, by assumption, off', trivial, rfl, inv.next e9⟩
    · intro ys2 inv2
      replace inv2 := inv2.whole
      unfold PyProof.Rows.LCg.FinE
      intro D6 h6 tk6 F6 N6 o6
      have hlen := inv2.length
      have hlx := hp9.h4
      rw [List.length_map] at hlen
      repeat' (first
        | ((with_reducible show wpAny _ _ (call (Value.type "bytes") _) _ _ _); (refine Halt.go ?_))
        | walk_at "t9")
      refine Halt.back ?_
      with_reducible rename News _ _ _ _ => N5
      refine bytes_K (by k_asm) N5 (News.isList N5 (List.mem_cons_self ..)) inv2 (fun n hn => have z := plain_range hp9 n hn; ⟨z.1, by omega⟩) (by rw [sizeLine_eq]; omega) rfl ?_
      intro h4 t4 k4 F4 N4 _
      rw [bts_ints]
      repeat' (first
        | walk_at "t9")
      exact ret _ _ _ _ _ _ _ _ hp9 hl9 (by assumption) (by assumption) (fun q hq hn hd => (List.mem_cons_of_mem _ (List.mem_cons_of_mem _ (List.mem_cons_of_mem _ (List.mem_cons_of_mem _ (List.mem_cons_of_mem _ (List.mem_cons_of_mem _ (keepsL_fin (p := (L' + 1, oc9)) inv.1 P N q hq hn hd)))))))) (inv.2.1.sub (fun q hq => (List.mem_cons_of_mem _ (List.mem_cons_of_mem _ (List.mem_cons_of_mem _ (List.mem_cons_of_mem _ (List.mem_cons_of_mem _ (List.mem_cons_of_mem _ hq))))))) (by omega)) (List.mem_cons_self ..) ⟨_, _, (List.mem_cons_of_mem _ (List.mem_cons_of_mem _ (List.mem_cons_of_mem _ (List.mem_cons_self ..)))), .cons (List.mem_cons_of_mem _ (List.mem_cons_of_mem _ (List.mem_cons_of_mem _ (List.mem_cons_of_mem _ (List.mem_cons_self ..))))) .nil⟩ (.text hp9 (List.mem_cons_of_mem _ (List.mem_cons_self ..)))

end
section
/-- a word and the figure it stands for -/
def FigT (news : List (Addr × Obj)) (v : Value) : Prop := ∃ t w s u u' n, v = .ref t ∧ (t, tupOf [.str w u, .str s u'] n) ∈ news ∧ figW w = some (some s) ∧ Txt.split w (Str.ofString " ") = [w] ∧ w.length ≤ 60 ∧ (w != Str.ofString "") = true
inductive SortOk : List (Str × Str) → Od → Int → Prop where
  | ref : SortOk [(Str.ofString "word", Str.ofString "X"), (Str.ofString "word", Str.ofString "OF"), (Str.ofString "word", Str.ofString "R")] .ref 0
  | fig {w s : Str} : figW w = some (some s) → SortOk [(Str.ofString "word", w)] (.fig s) 1
  | text {x : Str} : PlainT x → SortOk [(Str.ofString "literal", x)] (.text x) (x.cps.toList.length : Int)
structure SortIn (news : List (Addr × Obj)) (a : Addr) (ws : List (Str × Str)) (od : Od) (z : Int) : Prop where
  x : ∃ lt tt u n, (a, tupOf [.ref lt, .ref tt, .int z u] n) ∈ news ∧ LL news lt ws ∧ OdIn news (.ref tt) od
theorem OdIn.keepsL {a b : List (Addr × Obj)} {v : Value} {o : Od} (h : OdIn a v o) (K : KeepsL a b) : OdIn b v o := by
  cases h with
  | ref x y z => exact .ref (K _ x notPen_tup tup_ok) (K _ y notPen_tup tup_ok) (K _ z notPen_tup tup_ok)
  | fig x => exact .fig (K _ x notPen_tup tup_ok)
  | text p x => exact .text p (K _ x notPen_tup tup_ok)
theorem SortIn.keepsL {a b : List (Addr × Obj)} {p : Addr} {ws : List (Str × Str)} {od : Od} {z : Int} (h : SortIn a p ws od z) (K : KeepsL a b) : SortIn b p ws od z :=
  let ⟨lt, tt, u, n, x, l, o⟩ := h.x
  ⟨lt, tt, u, n, K _ x notPen_tup tup_ok, l.keepsL K, o.keepsL K⟩
theorem SortIn.sub {a b : List (Addr × Obj)} {p : Addr} {ws : List (Str × Str)} {od : Od} {z : Int} (h : SortIn a p ws od z) (K : ∀ q ∈ a, q ∈ b) : SortIn b p ws od z := h.keepsL (.sub K)
theorem bts_len (x : Str) : ((bts x).size : Int) = (x.cps.toList.length : Int) := by
  unfold bts
  rw [List.size_toArray, List.length_map]
theorem beq_dec (a b : Int) : (a == b) = decide (a = b) := by
  by_cases h : a = b
  · subst h
    simp
  · simp [h]
def Od.tag : Od → Str
  | .ref => Str.ofString "ref"
  | .fig _ => Str.ofString "figure"
  | .text _ => Str.ofString "text"
theorem OdIn.head {l : List (Addr × Obj)} {a : Addr} {od : Od} {G : Prop} (h : OdIn l (.ref a) od) (k : ∀ u vs n, (a, tupOf (.str od.tag u :: vs) n) ∈ l → G) : G := by
  cases h with
  | ref x _ _ => exact k _ _ _ x
  | fig x => exact k _ _ _ x
  | text _ x => exact k _ _ _ x
theorem SortIn.cps {news : List (Addr × Obj)} {a : Addr} {ws : List (Str × Str)} {od : Od} {z : Int} {G : Prop} (h : SortIn news a ws od z) (k : ∀ lt tt u n, (a, tupOf [.ref lt, .ref tt, .int z u] n) ∈ news → LL news lt ws → OdIn news (.ref tt) od → G) : G :=
  let ⟨lt, tt, u, n, x, l, o⟩ := h.x; k lt tt u n x l o
theorem item0_cons {prog : Program} {w : World} {A : Around} {E : Value → Shared → Prop} {s : Shared} {h₀ : Heap} {L t : Addr} {news : List (Addr × Obj)} {v : Value} {vs : List Value} {n : Nat} {value slice : Expr} {u : Tok} {Q : Value → Shared → Prop} (N : News h₀ L s.heap news) (hm : (t, tupOf (v :: vs) n) ∈ news) (h : Q v s)
    (hs : subscripted slice false (.ref t) (.int 0 u) = operate [.ref t, .int 0 u] (getItem (.ref t) (.int 0 u))) : wpAny (model prog w) A (subscriptTail value slice (.ref t) (.int 0 u)) Q E s :=
  item_tupleT (News.isTup N hm) (by decide) (by decide) (by simp [seqIndex?]) (j := 0) rfl h hs
theorem tag_no {op : Option Od} {od : Od} {g : Str} (h : (g != Str.ofString "text") = true) (e : od.tag = g) : meets op od = true := by
  subst e
  cases od with
  | text x => exact absurd h (show ¬ (Str.ofString "text" != Str.ofString "text") = true by decide +kernel)
  | _ => rfl
theorem tag_yes {od : Od} {ws : List (Str × Str)} {z : Int} {g : Str} (o : SortOk ws od z) (h : (g != Str.ofString "text") = false) (e : od.tag = g) : ∃ x, od = .text x ∧ z = (x.cps.toList.length : Int) := by
  subst e
  cases o with
  | text p => exact ⟨_, rfl, rfl⟩
  | ref => exact absurd h (by decide +kernel)
  | fig _ => exact absurd h (show ¬ (Str.ofString "figure" != Str.ofString "text") = false by decide +kernel)
theorem may_none {od : Od} {ws : List (Str × Str)} {z : Int} {g : Str} (o : SortOk ws od z) (h : (g != Str.ofString "text") = false) (e : od.tag = g) : meets none od = (z == 1) := by
  refine (?_ : let G9 : Prop := _; G9); intro G9
  obtain ⟨x, eq9_0, eq9_1⟩ := tag_yes o h e
  unfold G9; clear G9
  subst eq9_0 eq9_1
  unfold meets
  dsimp only
  rw [beq_dec, bts_len]
theorem may_zero {od0 od : Od} {ws0 : List (Str × Str)} {z0 : Int} (o0 : SortOk ws0 od0 z0) (h0 : z0 = 0) : meets (some od0) od = true := by
  cases o0 with
  | ref => cases od <;> rfl
  | fig _ => exact absurd h0 (by decide)
  | text p => exact absurd p.h1 (by omega)
theorem may_some {od0 od : Od} {ws0 ws : List (Str × Str)} {z0 z : Int} {g : Str} (o0 : SortOk ws0 od0 z0) (o : SortOk ws od z) (h : (g != Str.ofString "text") = false) (e : od.tag = g) (h0 : ¬ z0 = 0) : meets (some od0) od = (z == z0) := by
  refine (?_ : let G9 : Prop := _; G9); intro G9
  obtain ⟨x, eq9_0, eq9_1⟩ := tag_yes o h e
  unfold G9; clear G9
  subst eq9_0 eq9_1
  cases o0 with
  | ref => exact absurd rfl h0
  | fig _ =>
    unfold meets
    dsimp only
    rw [beq_dec, bts_len]
  | text p =>
    unfold meets
    dsimp only
    rw [beq_dec, bts_len, bts_len]
include B F X N Tp hk in
theorem may0_spec {ab : Addr} {od : Od} {ws : List (Str × Str)} {z : Int}
    (P : SortIn news ab ws od z) (Ok : SortOk ws od z) (hdp : dp ≤ 590) (hun : un ≤ 4800)
    (ret : ∀ h' tk', Fr h₀ L h' m → News h₀ L h' news → Q (.bool (meets none od)) { s with heap := h', toks := tk' }) :
    wpAny (model pw w) (top9 hdl dp un gd cn cs L a ccd cl outer) (call (.ref (nat_lit 563)) [.none, .ref ab]) Q E s := by
  tb_start
  refine P.cps ?_
  intro lt tt u9 n9 m9 _ o9
  refine o9.head ?_
  intro u8 vs8 n8 m8
  clear o9
  generalize hg9 : od.tag = tg9 at m8
  ktr_enter
  with_reducible rename Fr _ _ _ (fun y => List.lookup y _) => F2
  replace F2 : Fr _ _ _ (fun y => List.lookup y [(Str.ofString "put", .ref ab), (Str.ofString "seeking", .none)]) := F2
  (try (generalize s.toks + List.length _ = tk0))
  repeat' (first
    | ((with_reducible show wpAny _ _ (subscriptTail _ _ (Value.ref tt) (Value.int 0 _)) _ _ _); k_dflt (refine item0_cons (by k_asm) m8 ?_ (by with_unfolding_all rfl)))
    | ((with_reducible show wpAny _ _ (call (Value.builtin "len") [Value.bytes (bts _) _]) _ _ _); (refine len_bytes (bts_fit (by assumption)) ?_))
    | walk_at "t9")
  all_goals first
    | exact (tag_no (by assumption) hg9) ▸ ret _ _ (by assumption) (by assumption)
    | exact (may_none Ok (by assumption) hg9) ▸ ret _ _ (by assumption) (by assumption)
include B F X N Tp hk in
theorem mayS_spec {aa ab : Addr} {od0 od : Od} {ws0 ws : List (Str × Str)} {z0 z : Int}
    (P0 : SortIn news aa ws0 od0 z0) (Ok0 : SortOk ws0 od0 z0) (P : SortIn news ab ws od z) (Ok : SortOk ws od z) (hdp : dp ≤ 590) (hun : un ≤ 4800)
    (ret : ∀ h' tk', Fr h₀ L h' m → News h₀ L h' news → Q (.bool (meets (some od0) od)) { s with heap := h', toks := tk' }) :
    wpAny (model pw w) (top9 hdl dp un gd cn cs L a ccd cl outer) (call (.ref (nat_lit 563)) [.ref aa, .ref ab]) Q E s := by
  tb_start
  refine P0.cps ?_
  intro lt0 tt0 u90 n90 m90 _ _
  refine P.cps ?_
  intro lt tt u9 n9 m9 _ o9
  refine o9.head ?_
  intro u8 vs8 n8 m8
  clear o9
  generalize hg9 : od.tag = tg9 at m8
  ktr_enter
  with_reducible rename Fr _ _ _ (fun y => List.lookup y _) => F2
  replace F2 : Fr _ _ _ (fun y => List.lookup y [(Str.ofString "put", .ref ab), (Str.ofString "seeking", .ref aa)]) := F2
  (try (generalize s.toks + List.length _ = tk0))
  repeat' (first
    | ((with_reducible show wpAny _ _ (subscriptTail _ _ (Value.ref tt) (Value.int 0 _)) _ _ _); k_dflt (refine item0_cons (by k_asm) m8 ?_ (by with_unfolding_all rfl)))
    | ((with_reducible show wpAny _ _ (call (Value.builtin "len") [Value.bytes (bts _) _]) _ _ _); (refine len_bytes (bts_fit (by assumption)) ?_))
    | walk_at "t9")
  all_goals first
    | exact (tag_no (by assumption) hg9) ▸ ret _ _ (by assumption) (by assumption)
    | exact (may_zero Ok0 (by assumption)) ▸ ret _ _ (by assumption) (by assumption)
    | exact (may_some Ok0 Ok (by assumption) hg9 (by assumption)) ▸ ret _ _ (by assumption) (by assumption)

end
section
section
variable {prog : Program} {w : World} {A : Around} {E : Value → Shared → Prop} {s : Shared} {env : Env} {h₀ : Heap} {x : Str} {body : List Stmt} {Q : Flow → Shared → Prop}
def IterO (o : Obj) : Prop := o.cls = .type "list_iterator" ∨ o.cls = .type "tuple_iterator"
/-- the turns of a loop over the items vs of the list or tuple lp -/
def SeqRest (prog : Program) (w : World) (A : Around) (E : Value → Shared → Prop) (h₀ : Heap) (env : Env) (x : Str) (body : List Stmt) (Q : Flow → Shared → Prop) (s : Shared) (I : Addr) (lp : Addr × Obj) : List Value → (Str → Option Value) → List (Addr × Obj) → Prop
  | [], m, news => ∀ h tk, Fr h₀ env.locals h m → News h₀ env.locals h news → Q .next { s with heap := h, toks := tk }
  | v :: r, m, news => ∀ (it : Obj) h tk, Fr h₀ env.locals h (fun y => if y = x then some v else m y) → News h₀ env.locals h ((I, it) :: news) → (∀ p ∈ news, p.1 ≠ I) → IterO it →
      wpAny (model prog w) A (execs body env) (UnrPost h₀ env.locals { s with heap := h, toks := tk } I it (fun m' n' => lp ∈ n' ∧ SeqRest prog w A E h₀ env x body Q s I lp r m' n') Q) E { s with heap := h, toks := tk }
theorem For9 {m : Str → Option Value} {px pos : Pos} {iter : Expr} (_F : Fr h₀ env.locals s.heap m) (hx : env.kindOf x = some .local)
    (hp : (env.scope.kind == .class || (env.scope.kind == .module && env.locals != env.globals)) = false)
    (h : wpAny (model prog w) A (eval iter env) (fun xv s₁ => wpAny (model prog w) A (pyIter xv) (fun it s₂ => LoopAtV prog w A h₀ env x body Q E it s₂) E s₁) E s)
    (hs : ∀ x, foldedSetIterable iter env x = pure x := by intro _; rfl)
    (hE : PassesOwn (model prog w) A env E := by passes_own) :
    wpAny (model prog w) A (exec (.For (.Name x px) iter body [] pos) env) Q E s := For_invV h₀ hx hp h hs hE
theorem iter_seq9 {ax : Addr} {lo it0 : Obj} {vs : List Value} {m₀ : Str → Option Value} {news : List (Addr × Obj)} {St : Nat → Heap → Prop}
    (W : Walks prog w A s.heap.objs.size [s.heap.objs.size, ax] [s.heap.objs.size] vs.length (fun i v => vs.toArray[i]? = some v) St) (hSt : ∀ i h, St i h → ∃ it, h.get? s.heap.objs.size = some it ∧ IterO it) (st0 : St 0 (s.heap.push it0))
    (F : Fr h₀ env.locals s.heap m₀) (N : News h₀ env.locals s.heap news) (hm : (ax, lo) ∈ news)
    (rest : SeqRest prog w A E h₀ env x body Q s s.heap.objs.size (ax, lo) vs m₀ news) :
    LoopAtV prog w A h₀ env x body Q E (.ref s.heap.objs.size) { s with heap := s.heap.push it0 } := by
  have hax := N _ hm
  have hnew := next_is_new F
  let J : Nat → (Str → Option Value) → List (Addr × Obj) → Prop := fun i m₁ news₁ => (ax, lo) ∈ news₁ ∧ SeqRest prog w A E h₀ env x body Q s s.heap.objs.size (ax, lo) (vs.drop i) m₁ news₁
  refine ⟨_, _, _, vs.length, _, _, m₀, news, J, rfl, W, ?_, ?_, ?_, st0, F.push _, (fun p hp => ⟨Heap.get?_push_of_some _ (N p hp).1, (N p hp).2⟩), ⟨hm, by rw [List.drop_zero]; exact rest⟩, ?_, ?_⟩
  · intro hmm
    rcases List.mem_cons.mp hmm with e | hmm
    · exact absurd F.ns.lt (e ▸ Nat.lt_irrefl _)
    · exact hax.2.1 (List.mem_singleton.mp hmm).symm
  · intro b hb
    rw [List.mem_singleton.mp hb]
    exact hnew
  · intro p hp hI
    exact absurd (Heap.lt_size (N p hp).1) ((List.mem_singleton.mp hI) ▸ Nat.lt_irrefl _)
  · intro i v m₁ news₁ s₁ own hx9_6 hin hP hx9_9 hoff hown hget hall hst F₁ N₁
    refine (?_ : let G9 : Prop := _; G9); intro G9
    obtain ⟨hh', tk', eq9_0⟩ := hx9_6
    unfold G9; clear G9
    subst eq9_0
    refine (?_ : let G9 : Prop := _; G9); intro G9
    obtain ⟨hmem₁, hJ⟩ := hx9_9
    unfold G9; clear G9
    refine (?_ : let G9 : Prop := _; G9); intro G9
    obtain ⟨it, hit, hio⟩ := hSt _ _ hst
    unfold G9; clear G9
    have hmemI := hall s.heap.objs.size (List.mem_cons_self ..) hnew _ hit
    have hdrop : vs.drop i = v :: vs.drop (i + 1) := by
      have hlt' : i < vs.length := hin
      have hv : vs[i]? = some v := by simpa using hP
      rw [List.drop_eq_getElem_cons hlt']
      congr 1
      exact Option.some.inj ((List.getElem?_eq_getElem hlt').symm.trans hv)
    rw [hdrop] at hJ
    have N₂ : News h₀ env.locals hh' ((s.heap.objs.size, it) :: news₁) := fun p hp => by
      rcases List.mem_cons.mp hp with rfl | hp
      · exact N₁ _ (List.mem_append_left _ hmemI)
      · exact N₁ _ (List.mem_append_right _ hp)
    refine wpAny_mono (hJ it hh' tk' F₁ N₂ (fun p hp hI => hoff p hp (List.mem_singleton.mpr hI)) hio) (fun f s₂ p => ?_) fun _ _ e => e
    have fin : UnrEnd h₀ env.locals { s with heap := hh', toks := tk' } s.heap.objs.size it (fun m' n' => (ax, lo) ∈ n' ∧ SeqRest prog w A E h₀ env x body Q s s.heap.objs.size (ax, lo) (vs.drop (i + 1)) m' n') s₂ →
        LoopStepU h₀ env.locals [s.heap.objs.size] own (J (i + 1)) { s with heap := hh', toks := tk' } .next s₂ := by
      intro hx9_0
      refine (?_ : let G9 : Prop := _; G9); intro G9
      obtain ⟨h', tk, m', news', e, F', N', ho, hmm, r⟩ := hx9_0
      unfold G9; clear G9
      refine ⟨rfl, h', tk, m', news', e, F', fun p hp => ?_, fun p hp hI => ho p hp (List.mem_singleton.mp hI), hmm, r⟩
      rcases List.mem_append.mp hp with hp | hp
      · have h2 : hh'.get? p.1 = some p.2 := hget p hp
        rcases List.mem_cons.mp (hown p hp) with h1 | h1
        · have h3 : p = (s.heap.objs.size, it) := by
            rw [h1, hit] at h2
            exact Prod.ext h1 (Option.some.inj h2).symm
          rw [h3]; exact N' _ (List.mem_cons_self ..)
        · have h1' : p.1 = ax := List.mem_singleton.mp h1
          have h3 : p = (ax, lo) := by
            rw [h1', (N₁ _ (List.mem_append_right _ hmem₁)).1] at h2
            exact Prod.ext h1' (Option.some.inj h2).symm
          rw [h3]; exact N' _ (List.mem_cons_of_mem _ hmm)
      · exact N' _ (List.mem_cons_of_mem _ hp)
    cases f with
    | ret v => exact .ret p
    | brk => exact .brk p
    | next => exact .next (fin p)
    | cont => exact .cont (fin p)
  · rintro h' tk m' news' F' N' _ ⟨_, hJ⟩
    have z : vs.drop vs.length = [] := List.drop_length
    rw [z] at hJ
    exact hJ h' tk F' N'
theorem iter_list9 {ax : Addr} {vs : List Value} {n : Nat} {m₀ : Str → Option Value} {news : List (Addr × Obj)} (hh : A.handled = none) (F : Fr h₀ env.locals s.heap m₀) (N : News h₀ env.locals s.heap news) (hm : (ax, listOf vs.toArray n) ∈ news)
    (rest : ∀ I : Addr, (∀ p ∈ news, p.1 < I) → SeqRest prog w A E h₀ env x body Q s I (ax, listOf vs.toArray n) vs m₀ news) :
    wpAny (model prog w) A (pyIter (.ref ax)) (fun it s₂ => LoopAtV prog w A h₀ env x body Q E it s₂) E s := by
  have hax := N _ hm
  have hl : s.heap.IsList ax vs.toArray := ⟨_, hax.1, rfl, n, rfl⟩
  have hlt : ax < s.heap.objs.size := Heap.lt_size hax.1
  refine wpAny_pyIter_list hl ?_
  have W := Walks.list (prog := prog) (w := w) hh s.heap.objs.size ax (Nat.ne_of_lt hlt) vs.toArray
  rw [show vs.toArray.size = vs.length by simp] at W
  exact iter_seq9 W (fun i h st => by obtain ⟨o, e, c, _⟩ := st.1; exact ⟨o, e, .inl c⟩) ⟨⟨_, Heap.get?_push_size _ rfl, rfl, rfl⟩, hl.at fun o e => Heap.get?_push_of_some _ e⟩ F N hm (rest _ fun p hp => Heap.lt_size (N p hp).1)
theorem iter_tup9 {ax : Addr} {vs : List Value} {n : Nat} {m₀ : Str → Option Value} {news : List (Addr × Obj)} (hh : A.handled = none) (F : Fr h₀ env.locals s.heap m₀) (N : News h₀ env.locals s.heap news) (hm : (ax, tupOf vs n) ∈ news)
    (rest : ∀ I : Addr, (∀ p ∈ news, p.1 < I) → SeqRest prog w A E h₀ env x body Q s I (ax, tupOf vs n) vs m₀ news) :
    wpAny (model prog w) A (pyIter (.ref ax)) (fun it s₂ => LoopAtV prog w A h₀ env x body Q E it s₂) E s := by
  have hax := N _ hm
  have hl : s.heap.IsTuple ax vs.toArray := ⟨_, hax.1, rfl, n, rfl⟩
  have hlt : ax < s.heap.objs.size := Heap.lt_size hax.1
  refine wpAny_pyIter_tuple hl ?_
  have W := Walks.tuple (prog := prog) (w := w) hh s.heap.objs.size ax (Nat.ne_of_lt hlt) vs.toArray
  rw [show vs.toArray.size = vs.length by simp] at W
  exact iter_seq9 W (fun i h st => by obtain ⟨o, e, c, _⟩ := st.1; exact ⟨o, e, .inr c⟩) ⟨⟨_, Heap.get?_push_size _ rfl, rfl, rfl⟩, hl.at fun o e => Heap.get?_push_of_some _ e⟩ F N hm (rest _ fun p hp => Heap.lt_size (N p hp).1)
end
def SeqO (o : Obj) : Prop := o.cls = .type "tuple" ∨ o.cls = .type "list"
/-- the tuples and lists stay, the pen apart -/
def KeepsT (news news' : List (Addr × Obj)) : Prop := ∀ q ∈ news, NotPen q.2 → SeqO q.2 → q ∈ news'
def KeepsI (news news' : List (Addr × Obj)) : Prop := ∀ q ∈ news, SeqO q.2 → q ∈ news'
theorem seq_nd {o : Obj} (h : SeqO o) : o.cls ≠ .type "dict" := fun e => by
  rcases h with h | h <;> (rw [h] at e; injection e with e; revert e; decide)
theorem KeepsL.toT {a b : List (Addr × Obj)} (x : KeepsL a b) : KeepsT a b := fun q h n d => x q h n (seq_nd d)
theorem KeepsI.toT {a b : List (Addr × Obj)} (x : KeepsI a b) : KeepsT a b := fun q h _ d => x q h d
theorem KeepsT.trans' {a b c : List (Addr × Obj)} (y : KeepsT b c) (x : KeepsT a b) : KeepsT a c := fun q h n d => y q (x q h n d) n d
theorem KeepsT.cons {a b : List (Addr × Obj)} {q : Addr × Obj} (x : KeepsT a b) : KeepsT a (q :: b) := fun p h n d => List.mem_cons_of_mem _ (x p h n d)
theorem KeepsT.sub {a b : List (Addr × Obj)} (x : ∀ q ∈ a, q ∈ b) : KeepsT a b := fun q h _ _ => x q h
theorem tup_seq {vs : List Value} {n : Nat} : SeqO (tupOf vs n) := .inl rfl
theorem list_seq {vs : Array Value} {n : Nat} : SeqO (listOf vs n) := .inr rfl
theorem LP.keepsT {a b : List (Addr × Obj)} {vs : List Value} {ws : List (Str × Str)} (h : LP a vs ws) (K : KeepsT a b) : LP b vs ws := by
  induction h with
  | nil => exact .nil
  | cons m _ ih => exact .cons (K _ m notPen_tup tup_seq) ih
theorem LL.keepsT {a b : List (Addr × Obj)} {l : Addr} {ws : List (Str × Str)} (h : LL a l ws) (K : KeepsT a b) : LL b l ws :=
  let ⟨vs, n, m, p⟩ := h.x
  ⟨vs, n, K _ m (notPen_refs p.refs) list_seq, p.keepsT K⟩
theorem OdIn.keepsT {a b : List (Addr × Obj)} {v : Value} {o : Od} (h : OdIn a v o) (K : KeepsT a b) : OdIn b v o := by
  cases h with
  | ref x y z => exact .ref (K _ x notPen_tup tup_seq) (K _ y notPen_tup tup_seq) (K _ z notPen_tup tup_seq)
  | fig x => exact .fig (K _ x notPen_tup tup_seq)
  | text p x => exact .text p (K _ x notPen_tup tup_seq)
theorem SortIn.keepsT {a b : List (Addr × Obj)} {p : Addr} {ws : List (Str × Str)} {od : Od} {z : Int} (h : SortIn a p ws od z) (K : KeepsT a b) : SortIn b p ws od z :=
  let ⟨lt, tt, u, n, x, l, o⟩ := h.x
  ⟨lt, tt, u, n, K _ x notPen_tup tup_seq, l.keepsT K, o.keepsT K⟩
theorem PenIn.keepsI {a b : List (Addr × Obj)} {pn C : Addr} {N : Int} (h : PenIn a pn C N) (K : KeepsI a b) : PenIn b pn C N := by
  refine (?_ : let G9 : Prop := _; G9); intro G9
  obtain ⟨cs, ns, nc, x, u1, y, u2, k, h1, h2, r⟩ := h.x
  unfold G9; clear G9
  exact ⟨cs, ns, nc, x, u1, y, u2, k, K _ h1 list_seq, K _ h2 list_seq, r⟩
theorem unr_end9 {h₀ : Heap} {L I : Addr} {it : Obj} {rest : (Str → Option Value) → List (Addr × Obj) → Prop} {s₁ : Shared} {h' : Heap} {tk : Nat} {m' : Str → Option Value} {l : List (Addr × Obj)} (F : Fr h₀ L h' m') (N : News h₀ L h' l) (hI : (I, it) ∈ l) (hio : IterO it)
    (r : ∀ n', KeepsI l n' → rest m' n') : UnrEnd h₀ L s₁ I it rest { s₁ with heap := h', toks := tk } := by
  refine UnrEnd.intro F N (l.filter fun q => q.1 != I) (fun p hp => ?_) (fun p hp => by simpa using (List.mem_filter.mp hp).2) (r _ fun q hq hs => List.mem_filter.mpr ⟨hq, ?_⟩)
  · rcases List.mem_cons.mp hp with rfl | hp
    · exact hI
    · exact (List.mem_filter.mp hp).1
  · have h : q.1 ≠ I := fun e => by
      have h1 := (N q hq).1
      rw [e, (N _ hI).1] at h1
      have e2 := Option.some.inj h1
      unfold SeqO at hs
      rw [← e2] at hs
      rcases hio with a | a <;> rcases hs with b | b <;> (dsimp only at a b; rw [a] at b; injection b with b; revert b; decide)
    simpa using h
/-- the rows stand apart from each list of words -/
theorem rows_ne {h₀ h : Heap} {L rl lt : Addr} {l : List (Addr × Obj)} {as : List Addr} {n : Nat} {ws : List (Str × Str)} (N : News h₀ L h l) (hr : (rl, listOf (List.toArray (as.map Value.ref)) n) ∈ l) (hne : as ≠ []) (ha : ∀ a ∈ as, ∃ ws od z, SortOk ws od z ∧ SortIn l a ws od z) (hl : LL l lt ws) : lt ≠ rl := by
  refine (?_ : let G9 : Prop := _; G9); intro G9
  obtain ⟨vs, k, m, p⟩ := hl.x
  unfold G9; clear G9
  refine News.differ N m hr fun e => ?_
  have e1 := congrArg Obj.data e
  injection e1 with e2 _
  have e3 : vs = as.map Value.ref := congrArg Array.toList e2
  cases as with
  | nil => exact hne rfl
  | cons a r =>
    refine (?_ : let G9 : Prop := _; G9); intro G9
    obtain ⟨_, _, _, _, ⟨lt', tt', u', n', q, _⟩⟩ := ha a (List.mem_cons_self ..)
    unfold G9; clear G9
    subst e3
    cases p with
    | cons q' _ =>
      have h1 := (N _ q).1
      rw [(N _ q').1] at h1
      have e5 := congrArg Obj.data (Option.some.inj h1)
      injection e5 with e6 _
      have e7 := congrArg Array.toList e6
      injection e7 with e8 _
      cases e8
theorem LP.tups {a b : List (Addr × Obj)} {vs : List Value} {ws : List (Str × Str)} (h : LP a vs ws) (K : ∀ p us k, (p, tupOf us k) ∈ a → (p, tupOf us k) ∈ b) : LP b vs ws := by
  induction h with
  | nil => exact .nil
  | cons m _ ih => exact .cons (K _ _ _ m) ih
theorem SortIn.but {h₀ h : Heap} {L rl : Addr} {l rest : List (Addr × Obj)} {as : List Addr} {n : Nat} {p : Addr × Obj} {a : Addr} {ws : List (Str × Str)} {od : Od} {z : Int} (N : News h₀ L h l) (hr : (rl, listOf (List.toArray (as.map Value.ref)) n) ∈ l) (hne : as ≠ []) (ha : ∀ a ∈ as, ∃ ws od z, SortOk ws od z ∧ SortIn l a ws od z)
    (hs : ∀ q ∈ l, q.1 ≠ rl → q ∈ rest) (S : SortIn l a ws od z) : SortIn (p :: rest) a ws od z := by
  have go : ∀ {b : Addr} {vs : List Value} {k : Nat}, (b, tupOf vs k) ∈ l → (b, tupOf vs k) ∈ p :: rest := fun q => List.mem_cons_of_mem _ (hs _ q (News.differ N q hr tup_not_list))
  refine (?_ : let G9 : Prop := _; G9); intro G9
  obtain ⟨lt, tt, u, k, x, y, o⟩ := S.x
  unfold G9; clear G9
  refine ⟨lt, tt, u, k, go x, ?_, ?_⟩
  · have ne := rows_ne N hr hne ha y
    refine (?_ : let G9 : Prop := _; G9); intro G9
    obtain ⟨vs, k', m, q⟩ := y.x
    unfold G9; clear G9
    refine ⟨vs, k', List.mem_cons_of_mem _ (hs _ m ne), ?_⟩
    exact q.tups fun _ _ _ z => go z
  · cases o with
    | ref x y z => exact .ref (go x) (go y) (go z)
    | fig x => exact .fig (go x)
    | text q x => exact .text q (go x)
/-- the rows as they stand ahead of a turn -/
structure SI (n0 l : List (Addr × Obj)) (pn Cc rl : Addr) (as : List Addr) (M : Int) (lp : Addr × Obj) : Prop where
  rows : ∃ n, (rl, listOf (List.toArray (as.map Value.ref)) n) ∈ l
  ne : as ≠ []
  ok : ∀ a ∈ as, ∃ ws od z, SortOk ws od z ∧ SortIn l a ws od z
  pen : PenIn l pn Cc M
  hlp : lp ∈ l
  lpn : NotPen lp.2
  lps : lp.2.cls = .type "tuple"
  kp : KeepsT n0 l
  fr : ∀ q ∈ n0, NotPen q.2 → SeqO q.2 → q.1 ≠ rl
structure ST (n0 l : List (Addr × Obj)) (pn Cc rl : Addr) (as : List Addr) (M : Int) (lp : Addr × Obj) (I : Addr) (it : Obj) : Prop where
  si : SI n0 l pn Cc rl as M lp
  hI : (I, it) ∈ l
  io : IterO it
theorem rows_np {as : List Addr} {n : Nat} : NotPen (listOf (List.toArray (as.map Value.ref)) n) := notPen_refs fun v hv => let ⟨a, _, e⟩ := List.mem_map.mp hv; ⟨a, e.symm⟩
theorem io_np {it : Obj} (h : IterO it) : NotPen it := fun C a u b v k e => by
  subst e
  rcases h with h | h <;> (injection h with h; revert h; decide)
theorem io_nd {it : Obj} (h : IterO it) : it.cls ≠ .type "dict" := fun e => by
  rcases h with h | h <;> (rw [h] at e; injection e with e; revert e; decide)
section
variable {n0 l l' : List (Addr × Obj)} {pn Cc rl I : Addr} {as : List Addr} {M M' : Int} {lp p : Addr × Obj} {it : Obj}
theorem SI.via (S : SI n0 l pn Cc rl as M lp) (K : KeepsT l l') (P : PenIn l' pn Cc M') : SI n0 l' pn Cc rl as M' lp :=
  ⟨let ⟨n, m⟩ := S.rows; ⟨n, K _ m rows_np list_seq⟩, S.ne, fun a ha => let ⟨ws, od, z, o, s⟩ := S.ok a ha; ⟨ws, od, z, o, s.keepsT K⟩, P, K _ S.hlp S.lpn (.inl S.lps), S.lpn, S.lps, K.trans' S.kp, S.fr⟩
theorem SI.cons (S : SI n0 l pn Cc rl as M lp) : SI n0 (p :: l) pn Cc rl as M lp := S.via (.sub fun _ h => List.mem_cons_of_mem _ h) (S.pen.sub (fun _ h => List.mem_cons_of_mem _ h) (Int.le_refl _))
theorem SI.turn (S : SI n0 l pn Cc rl as M lp) (io : IterO it) : ST n0 ((I, it) :: l) pn Cc rl as M lp I it := ⟨S.cons, List.mem_cons_self .., io⟩
theorem ST.cons (S : ST n0 l pn Cc rl as M lp I it) : ST n0 (p :: l) pn Cc rl as M lp I it := ⟨S.si.cons, List.mem_cons_of_mem _ S.hI, S.io⟩
theorem ST.lit (S : ST n0 l pn Cc rl as M lp I it) (K : KeepsL l l') (P : PenIn l' pn Cc M') : ST n0 l' pn Cc rl as M' lp I it := ⟨S.si.via K.toT P, K _ S.hI (io_np S.io) (io_nd S.io), S.io⟩
theorem ST.stop (S : ST n0 l pn Cc rl as M lp I it) (K : KeepsI l l') : SI n0 l' pn Cc rl as M lp := S.si.via K.toT (S.si.pen.keepsI K)
theorem ST.app {h₀ h : Heap} {L a : Addr} {n n' : Nat} {ws : List (Str × Str)} {od : Od} {z : Int} (S : ST n0 l pn Cc rl as M lp I it) (N : News h₀ L h l) (hr : (rl, listOf (List.toArray (as.map Value.ref)) n) ∈ l) (o : SortOk ws od z) (s : SortIn l a ws od z)
    (hs : ∀ q ∈ l, q.1 ≠ rl → q ∈ l') : ST n0 ((rl, listOf ((List.toArray (as.map Value.ref)).push (.ref a)) n') :: l') pn Cc rl (as ++ [a]) M lp I it := by
  refine (?_ : let G9 : Prop := _; G9); intro G9
  obtain ⟨⟨-, ne, ok, P, hlp, lpn, lps, kp, fr⟩, hI, io⟩ := S
  unfold G9; clear G9
  have hd : ∀ {b : Addr} {o : Obj}, (b, o) ∈ l → o.cls ≠ .type "list" → (b, o) ∈ l' := fun q c => hs _ q (News.differ N q hr fun e => c (by rw [e]))
  refine ⟨⟨⟨n', by rw [List.map_append, List.push_toArray]; exact List.mem_cons_self ..⟩, by simp, fun b hb => ?_, ?_, List.mem_cons_of_mem _ (hd hlp fun e => by rw [lps] at e; injection e with e; revert e; decide), lpn, lps, fun q hq hn hd => List.mem_cons_of_mem _ (hs _ (kp q hq hn hd) (fr q hq hn hd)), fr⟩, List.mem_cons_of_mem _ (hd hI fun e => by
    rcases io with h | h <;> (rw [h] at e; injection e with e; revert e; decide)), io⟩
  · rcases List.mem_append.mp hb with hb | hb
    · refine (?_ : let G9 : Prop := _; G9); intro G9
      obtain ⟨ws, od, z, o, s⟩ := ok b hb
      unfold G9; clear G9
      exact ⟨ws, od, z, o, s.but N hr ne ok hs⟩
    · rw [List.mem_singleton.mp hb]
      exact ⟨ws, od, z, o, s.but N hr ne ok hs⟩
  · refine (?_ : let G9 : Prop := _; G9); intro G9
    obtain ⟨cs, ns, nc, x, u1, y, u2, k, h1, h2, hi, r⟩ := P.x
    unfold G9; clear G9
    refine ⟨cs, ns, nc, x, u1, y, u2, k, List.mem_cons_of_mem _ (hs _ h1 (Ne.symm (News.differ N hr h1 (rows_np _ _ _ _ _ _)))), List.mem_cons_of_mem _ (hs _ h2 (News.differ N h2 hr fun e => ?_)), hi, r⟩
    have e1 := congrArg Obj.data e
    injection e1 with e2 _
    have e3 : cs = as.map Value.ref := congrArg Array.toList e2
    subst e3
    cases as with
    | nil => exact ne rfl
    | cons a r => cases hi
end
theorem AllLt.mem {d : Addr} : ∀ {l : List (Addr × Obj)}, AllLt d l → ∀ q ∈ l, q.1 < d
  | [], _, _, h => nomatch h
  | _ :: _, ⟨a, b⟩, q, h => by
    rcases List.mem_cons.mp h with rfl | h
    · exact a
    · exact AllLt.mem b q h
theorem SI.start {n0 rest : List (Addr × Obj)} {h₀ h : Heap} {L tp rl a1 a2 pn Cc : Addr} {vs : List Value} {nt k : Nat} {M : Int} (_N : News h₀ L h ((tp, tupOf vs nt) :: (rl, listOf #[.ref a1, .ref a2] k) :: rest))
    (o1 : ∃ ws od z, SortOk ws od z ∧ SortIn ((tp, tupOf vs nt) :: (rl, listOf #[.ref a1, .ref a2] k) :: rest) a1 ws od z) (o2 : ∃ ws od z, SortOk ws od z ∧ SortIn ((tp, tupOf vs nt) :: (rl, listOf #[.ref a1, .ref a2] k) :: rest) a2 ws od z)
    (P : PenIn ((tp, tupOf vs nt) :: (rl, listOf #[.ref a1, .ref a2] k) :: rest) pn Cc M) (kp : KeepsT n0 rest) (fr : ∀ q ∈ n0, NotPen q.2 → SeqO q.2 → q.1 ≠ rl) :
    SI n0 ((tp, tupOf vs nt) :: (rl, listOf #[.ref a1, .ref a2] k) :: rest) pn Cc rl [a1, a2] M (tp, tupOf vs nt) :=
  ⟨⟨k, List.mem_cons_of_mem _ (List.mem_cons_self ..)⟩, by simp, fun a ha => by
    rcases List.mem_cons.mp ha with rfl | ha
    · exact o1
    · rw [List.mem_singleton.mp ha]
      exact o2, P, List.mem_cons_self .., notPen_tup, rfl, kp.cons.cons, fr⟩
theorem ST.app9 {n0 l r : List (Addr × Obj)} {pn Cc rl I D lt tt : Addr} {as : List Addr} {M z : Int} {lp : Addr × Obj} {it : Obj} {h₀ h : Heap} {L : Addr} {n n' k : Nat} {u : Tok} {x : Str} (S : ST n0 l pn Cc rl as M lp I it) (N : News h₀ L h ((D, tupOf [.ref lt, .ref tt, .int z u] k) :: l))
    (hr : (rl, listOf (List.toArray (as.map Value.ref)) n) ∈ l) (hp : PlainT x) (hx : (x.cps.toList.length : Int) = z) (L9 : LL l lt [(Str.ofString "literal", x)]) (O9 : OdIn l (.ref tt) (.text x)) (hs : ∀ q ∈ (D, tupOf [.ref lt, .ref tt, .int z u] k) :: l, q.1 ≠ rl → q ∈ r) :
    ST n0 ((rl, listOf ((List.toArray (as.map Value.ref)).push (.ref D)) n') :: r) pn Cc rl (as ++ [D]) M lp I it :=
  ST.app (ws := [(Str.ofString "literal", x)]) (od := .text x) (z := z) S.cons N (List.mem_cons_of_mem _ hr) (hx ▸ SortOk.text hp)
    ⟨lt, tt, u, k, List.mem_cons_self .., L9.keepsL (.sub fun q h => List.mem_cons_of_mem _ h), O9.keepsL (.sub fun q h => List.mem_cons_of_mem _ h)⟩ hs
theorem SeqRest.ind {prog : Program} {w : World} {A : Around} {E : Value → Shared → Prop} {s : Shared} {env : Env} {h₀ : Heap} {x : Str} {body : List Stmt} {Q : Flow → Shared → Prop} {I : Addr} {lp : Addr × Obj} {Inv : List Value → (Str → Option Value) → List (Addr × Obj) → Prop}
    (hstep : ∀ v r m news (it : Obj) h tk, Inv (v :: r) m news → Fr h₀ env.locals h (fun y => if y = x then some v else m y) → News h₀ env.locals h ((I, it) :: news) → (∀ p ∈ news, p.1 ≠ I) → IterO it →
      wpAny (model prog w) A (execs body env) (UnrPost h₀ env.locals { s with heap := h, toks := tk } I it (fun m' n' => lp ∈ n' ∧ Inv r m' n') Q) E { s with heap := h, toks := tk })
    (hend : ∀ m news h tk, Inv [] m news → Fr h₀ env.locals h m → News h₀ env.locals h news → Q .next { s with heap := h, toks := tk }) :
    ∀ vs m news, Inv vs m news → SeqRest prog w A E h₀ env x body Q s I lp vs m news
  | [], m, news, inv => fun h tk F N => hend m news h tk inv F N
  | v :: r, m, news, inv => fun it h tk F N off io => wpAny_mono (hstep v r m news it h tk inv F N off io) (fun f s₂ p => by
      cases f with
      | ret v => exact p
      | brk => exact p
      | next =>
        refine (?_ : let G9 : Prop := _; G9); intro G9
        obtain ⟨h', tk', m', n', e, F', N', o, hl, inv'⟩ := p
        unfold G9; clear G9
        exact ⟨h', tk', m', n', e, F', N', o, hl, SeqRest.ind hstep hend r m' n' inv'⟩
      | cont =>
        refine (?_ : let G9 : Prop := _; G9); intro G9
        obtain ⟨h', tk', m', n', e, F', N', o, hl, inv'⟩ := p
        unfold G9; clear G9
        exact ⟨h', tk', m', n', e, F', N', o, hl, SeqRest.ind hstep hend r m' n' inv'⟩) fun _ _ z => z
theorem SI.nm {n0 l : List (Addr × Obj)} {pn Cc rl : Addr} {as : List Addr} {M : Int} {lp : Addr × Obj} {G : Prop} (_S : SI n0 l pn Cc rl as M lp) (k : ∀ rl', rl' = rl → G) : G := k rl rfl
abbrev mS (os ot otr : Option Value) (m0 : Str → Option Value) : Str → Option Value := fun y => if y = Str.ofString "tree" then otr else if y = Str.ofString "tokens" then ot else if y = Str.ofString "size" then os else m0 y
theorem mS_start (m0 : Str → Option Value) : m0 = mS (m0 (Str.ofString "size")) (m0 (Str.ofString "tokens")) (m0 (Str.ofString "tree")) m0 := by
  funext y
  unfold mS
  split
  · rename_i h; rw [h]
  split
  · rename_i h; rw [h]
  split
  · rename_i h; rw [h]
  rfl
theorem mS_size {os ot otr : Option Value} {m0 : Str → Option Value} {v : Value} : (fun y => if y = Str.ofString "size" then some v else mS os ot otr m0 y) = mS (some v) ot otr m0 := by
  funext y
  unfold mS
  by_cases h1 : y = Str.ofString "size"
  · rw [if_pos h1, if_neg (by rw [h1]; decide +kernel), if_neg (by rw [h1]; decide +kernel), if_pos h1]
  rw [if_neg h1]
  split
  · rfl
  split
  · rfl
  rfl
theorem mS_two {os ot otr : Option Value} {m0 : Str → Option Value} {a b : Option Value} : (fun y => if y = Str.ofString "tree" then a else if y = Str.ofString "tokens" then b else mS os ot otr m0 y) = mS os b a m0 := by
  funext y
  unfold mS
  by_cases h1 : y = Str.ofString "tree"
  · rw [if_pos h1, if_pos h1]
  by_cases h2 : y = Str.ofString "tokens"
  · rw [if_neg h1, if_pos h2, if_neg h1, if_pos h2]
  rw [if_neg h1, if_neg h2, if_neg h1, if_neg h2, if_neg h1, if_neg h2]
abbrev mR (rl pn : Addr) (s9 w9 : Str) (u9 u8 : Tok) : Str → Option Value := fun y => if y = Str.ofString "rows" then some (.ref rl) else if y = Str.ofString "figure" then some (.str s9 u9) else if y = Str.ofString "word" then some (.str w9 u8) else List.lookup y [(Str.ofString "pen", .ref pn)]
/-- ahead of a turn of the loop of sizes -/
def InvZ (n0 : List (Addr × Obj)) (pn Cc rl : Addr) (lp : Addr × Obj) (Nn : Int) (m0 : Str → Option Value) (vs : List Value) (m : Str → Option Value) (l : List (Addr × Obj)) : Prop :=
  ∃ (os ot otr : Option Value) (as : List Addr) (M : Int), m = mS os ot otr m0 ∧ (∀ v ∈ vs, ∃ k u, v = .int k u ∧ 1 ≤ k ∧ k ≤ 4) ∧ SI n0 l pn Cc rl as M lp ∧ M + 4 * (vs.length : Int) ≤ Nn + 20 ∧ as.length + vs.length = 6
include B F X N Tp hk in
theorem sorts_spec {pn Cc : Addr} {Nn : Int}
    (P : PenIn news pn Cc Nn) (hN : Nn ≤ 4900) (hdp : dp ≤ 540) (hun : un ≤ 3800)
    (ret : ∀ l as n news' h' tk', Fr h₀ L h' m → News h₀ L h' news' → KeepsT news news' → PenIn news' pn Cc (Nn + 20) → (l, listOf (List.toArray (List.map Value.ref as)) n) ∈ news' → as.length = 6 → (∀ a ∈ as, ∃ ws od z, SortOk ws od z ∧ SortIn news' a ws od z) → Q (.ref l) { s with heap := h', toks := tk' }) :
    wpAny (model pw w) (top9 none dp un gd cn cs L a ccd cl outer) (call (.ref (nat_lit 549)) [.ref pn]) Q E s := by
  tb_start
  ktr_enter
  with_reducible rename Fr _ _ _ (fun y => List.lookup y _) => F2
  replace F2 : Fr _ _ _ (fun y => List.lookup y [(Str.ofString "pen", .ref pn)]) := F2
  (try (generalize s.toks + List.length _ = tk0))
  repeat' (first
    | ((with_reducible show wpAny _ _ (call (Value.ref (nat_lit 527)) _) _ _ _); (refine Halt.go ?_))
    | walk_at "t9")
  refine Halt.back ?_
  with_reducible rename News _ _ _ _ => N8
  refine' pickL_spec ?B ?F ?X ?N ?T ?hk ?x0 ?x1 ?x2 ?x3 ?x4 ?x5 ?hd ?hu ?_
  kfm_turns
  (case x0 => exact PenIn.sub P (fun q hq => by repeat (first | exact hq | refine List.mem_cons_of_mem _ ?_)) (Int.le_refl _))
  (case x1 => omega)
  (case x2 => exact List.mem_cons_self ..)
  (case x3 => exact notPen_refs (vs := [_, _, _, _]) (by
    intro v hv
    simp at hv
    rcases hv with rfl | rfl | rfl | rfl <;> exact ⟨_, rfl⟩))
  (case x4 => exact Nat.le_of_ble_eq_true rfl)
  (case x5 => exact Nat.le_of_ble_eq_true rfl)
  intro v9 L9Z h9 tk9 hv9 F9 N9 K9 P9
  have KL := KeepsB.toL K9 (PenIn.sub P (fun q hq => by repeat (first | exact hq | refine List.mem_cons_of_mem _ ?_)) (Int.le_refl _)) N8
  have z9 : FigT L9Z v9 := by
    rcases List.mem_cons.mp hv9 with e | hv9
    rotate_left
    rcases List.mem_cons.mp hv9 with e | hv9
    rotate_left
    rcases List.mem_cons.mp hv9 with e | hv9
    rotate_left
    rcases List.mem_cons.mp hv9 with e | hv9
    rotate_left
    · cases hv9
    all_goals subst e
    · exact ⟨_, _, _, _, _, _, rfl, KL _ (List.mem_cons_of_mem _ (List.mem_cons_of_mem _ (List.mem_cons_of_mem _ (List.mem_cons_of_mem _ (List.mem_cons_self ..))))) notPen_tup tup_ok, by decide +kernel, by decide +kernel, by decide +kernel, by decide +kernel⟩
    · exact ⟨_, _, _, _, _, _, rfl, KL _ (List.mem_cons_of_mem _ (List.mem_cons_of_mem _ (List.mem_cons_of_mem _ (List.mem_cons_self ..)))) notPen_tup tup_ok, by decide +kernel, by decide +kernel, by decide +kernel, by decide +kernel⟩
    · exact ⟨_, _, _, _, _, _, rfl, KL _ (List.mem_cons_of_mem _ (List.mem_cons_of_mem _ (List.mem_cons_self ..))) notPen_tup tup_ok, by decide +kernel, by decide +kernel, by decide +kernel, by decide +kernel⟩
    · exact ⟨_, _, _, _, _, _, rfl, KL _ (List.mem_cons_of_mem _ (List.mem_cons_self ..)) notPen_tup tup_ok, by decide +kernel, by decide +kernel, by decide +kernel, by decide +kernel⟩
  refine (?_ : let G9 : Prop := _; G9); intro G9
  obtain ⟨t9, w9, s9, u8, u9, n9, eq9_0, m9, hf9, hsp9, hwl9, hwe9⟩ := z9
  unfold G9; clear G9
  subst eq9_0
  have KL0 : KeepsL news L9Z := fun q hq hn hd => KL q (by repeat (first | exact hq | refine List.mem_cons_of_mem _ ?_)) hn hd
  clear KL K9 N8 hv9
  have hwl8 : w9.length ≤ 100 := by omega
  kqd_sub
  repeat' (first
    | ((with_reducible show wpAny _ _ (call (Value.ref (nat_lit 532)) [Value.str (Str.ofString "X OF R") _]) _ _ _); (refine' words3_spec ?B ?F ?X ?N ?T ?hk  ?hd ?hu ?_; kfm_turns; k_whole); intro l9 n9 h9 tk9 F9 N9 S9 W9; kqd_sub)
    | ((with_reducible show wpAny _ _ (call (Value.ref (nat_lit 532)) _) _ _ _); (refine' words1_spec ?B ?F ?X ?N ?T ?hk ?x0 ?x1 ?x2 ?hd ?hu ?_; kfm_turns; (case x0 => first | assumption | decide +kernel); (case x1 => first | omega | decide +kernel); (case x2 => first | assumption | decide +kernel); k_whole); intro l9 n9 h9 tk9 F9 N9 S9 W9; kqd_sub)
    | ((with_reducible show wpAny _ _ (exec (Stmt.For (Expr.Name _ _) _ _ [] _) _) _ _ _); k_here; k_dflt (refine For9 (by k_asm) (by rfl) (by rfl) ?_))
    | ((with_reducible show wpAny _ _ (pyIter (Value.ref _)) (fun it s₂ => LoopAtV _ _ _ _ _ _ _ _ _ it s₂) _ _); (refine Halt.go ?_))
    | walk_at "t9")
  refine Halt.back ?_
  with_reducible rename News _ _ _ _ => N7
  have W8 := (by assumption : LL _ _ [(_, Str.ofString "X"), _, _])
  have S8 := (by assumption : ∀ q ∈ L9Z, q ∈ _)
  have UP9 : ∀ q ∈ L9Z, q ∈ n9 := fun q hq => S9 _ (List.mem_cons_of_mem _ (List.mem_cons_of_mem _ (List.mem_cons_of_mem _ (List.mem_cons_of_mem _ (S8 q hq)))))
  have ltz := (by assumption : _ ∧ _ ∧ AllLt _ n9)
  have SI0 := SI.start (n0 := news) (pn := pn) (Cc := Cc) (M := Nn + 1) N7
    ⟨_, _, _, .ref, ⟨_, _, _, _, (List.mem_cons_of_mem _ (List.mem_cons_of_mem _ (List.mem_cons_of_mem _ (List.mem_cons_of_mem _ (S9 _ (List.mem_cons_self ..)))))), W8.keepsL (.sub fun q hq => (List.mem_cons_of_mem _ (List.mem_cons_of_mem _ (List.mem_cons_of_mem _ (List.mem_cons_of_mem _ (S9 _ (List.mem_cons_of_mem _ (List.mem_cons_of_mem _ (List.mem_cons_of_mem _ (List.mem_cons_of_mem _ hq)))))))))), .ref (List.mem_cons_of_mem _ (List.mem_cons_of_mem _ (List.mem_cons_of_mem _ (List.mem_cons_of_mem _ (S9 _ (List.mem_cons_of_mem _ (List.mem_cons_self ..))))))) (List.mem_cons_of_mem _ (List.mem_cons_of_mem _ (List.mem_cons_of_mem _ (List.mem_cons_of_mem _ (S9 _ (List.mem_cons_of_mem _ (List.mem_cons_of_mem _ (List.mem_cons_of_mem _ (List.mem_cons_self ..))))))))) (List.mem_cons_of_mem _ (List.mem_cons_of_mem _ (List.mem_cons_of_mem _ (List.mem_cons_of_mem _ (S9 _ (List.mem_cons_of_mem _ (List.mem_cons_of_mem _ (List.mem_cons_self ..))))))))⟩⟩
    ⟨_, _, _, .fig hf9, ⟨_, _, _, _, (List.mem_cons_of_mem _ (List.mem_cons_of_mem _ (List.mem_cons_self ..))), W9.keepsL (.sub (fun q hq => (List.mem_cons_of_mem _ (List.mem_cons_of_mem _ (List.mem_cons_of_mem _ (List.mem_cons_of_mem _ hq)))))), .fig (List.mem_cons_of_mem _ (List.mem_cons_of_mem _ (List.mem_cons_of_mem _ (List.mem_cons_self ..))))⟩⟩
    (P9.sub (fun q hq => (List.mem_cons_of_mem _ (List.mem_cons_of_mem _ (List.mem_cons_of_mem _ (List.mem_cons_of_mem _ (UP9 q hq)))))) (Int.le_refl _))
    (fun q hq hn hd => (List.mem_cons_of_mem _ (List.mem_cons_of_mem _ (UP9 q (KL0 q hq hn (seq_nd hd))))))
    (fun q hq hn hd => Nat.ne_of_lt (AllLt.mem ltz.2.2 q (UP9 q (KL0 q hq hn (seq_nd hd)))))
  refine SI.nm SI0 fun rl9 er => ?_
  subst er
  refine iter_tup9 rfl (by k_asm) N7 (List.mem_cons_self ..) fun I hI => ?_
  clear hI ltz UP9 W8 S8 W9 S9
  refine' SeqRest.ind (lp := ?lp) (Inv := InvZ news pn Cc rl9 ?lp Nn (mR rl9 pn s9 w9 u9 u8)) ?_ ?_ _ _ _ ?inv
  case inv =>
    refine ⟨_, _, _, _, _, mS_start _, fun v hv => ?_, SI0, by simp only [List.length_cons, List.length_nil]; omega, rfl⟩
    simp only [List.mem_cons, List.not_mem_nil, or_false] at hv
    rcases hv with rfl | rfl | rfl | rfl <;> exact ⟨_, _, rfl, by decide, by decide⟩
  · intro v r m1 l it h tk hx9_7 F1 N1 off io
    refine (?_ : let G9 : Prop := _; G9); intro G9
    obtain ⟨os, ot, otr, as, M, eq9_0, hv, S, hM, hl⟩ := hx9_7
    unfold G9; clear G9
    subst eq9_0
    have T9 := SI.turn (I := I) S io
    refine (?_ : let G9 : Prop := _; G9); intro G9
    obtain ⟨k1, u1, ev, hk1, hk2⟩ := hv v (List.mem_cons_self ..)
    unfold G9; clear G9
    subst ev
    rw [mS_size] at F1
    simp only [List.length_cons] at hM hl
    clear S off ret SI0
    try dsimp only
    repeat' (first
      | ((with_reducible show wpAny _ _ (call (Value.ref (nat_lit 542)) _) _ _ _); (refine' lit_spec ?B ?F ?X ?N ?T ?hk ?x0 ?x1 ?x2 ?x3 ?hd ?hu ?_; kfm_turns; (case x0 => exact (ST.si (by assumption)).pen); (case x1 => omega); (case x2 => first | omega | decide); (case x3 => first | omega | decide); k_whole); intro x9 p9 lt9 tt9 n9 l9 h9 tk9 hp9 hx9 F9 N9 K9 P9 m9 L9 O9; (have T9 := ST.lit (by assumption) K9 P9); (obtain ⟨nr9, mr9⟩ := T9.si.rows); kqd_sub)
      | ((with_reducible show wpAny _ _ (call (Value.builtin "list.append") [Value.ref _, Value.ref _]) _ _ _); (with_reducible rename News _ _ _ _ => N8); (refine append_mem (by k_asm) N8 (List.mem_cons_of_mem _ mr9) (by rw [List.size_toArray, List.length_map]; omega) ?_); intro h8 r8 F8 N7 ap8 sb8; (have T8 := ST.app9 (n' := nr9 + 1) T9 N8 mr9 hp9 hx9 L9 O9 sb8); clear N8 T9 mr9 hx9; (try dsimp only))
      | walk_at "t9")
    refine unr_end9 (by k_asm) (by k_asm) T8.hI T8.io ?_
    intro n8 K8
    have S8 := ST.stop T8 K8
    exact ⟨S8.hlp, _, _, _, _, _, mS_two, fun v hv' => hv v (List.mem_cons_of_mem _ hv'), S8, by omega, by rw [List.length_append, List.length_singleton]; omega⟩
  · intro m1 l h tk hx9_4 F1 N1
    refine (?_ : let G9 : Prop := _; G9); intro G9
    obtain ⟨os, ot, otr, as, M, eq9_0, hv, S, hM, hl⟩ := hx9_4
    unfold G9; clear G9
    subst eq9_0
    try dsimp only
    repeat' (first
      | walk_at "t9")
    obtain ⟨nr, mr⟩ := S.rows
    exact ret _ _ nr _ _ _ (by assumption) (by assumption) S.kp (S.pen.sub (fun _ h => h) (by simp only [List.length_nil] at hM; omega)) mr (by simpa using hl) S.ok

end
section
section
variable {prog : Program} {w : World} {A : Around} {E : Value → Shared → Prop} {s : Shared} {h₀ : Heap} {L a b D : Addr} {m : Str → Option Value} {news : List (Addr × Obj)}
theorem add_LL {ws us : List (Str × Str)} {Q : Value → Shared → Prop} (F : Fr h₀ L s.heap m) (N : News h₀ L s.heap news) (A9 : LL news a ws) (B9 : LL news b us) (hz : ws.length + us.length ≤ 1000)
    (h : ∀ D o h', Fr h₀ L h' m → News h₀ L h' ((D, o) :: news) → (∀ p ∈ news, p.1 < D) → LL ((D, o) :: news) D (ws ++ us) → Q (.ref D) { s with heap := h' }) : wpAny (model prog w) A (binaryOp .Add (.ref a) (.ref b)) Q E s := by
  refine (?_ : let G9 : Prop := _; G9); intro G9
  obtain ⟨vs, n, m1, p1⟩ := A9.x
  unfold G9; clear G9
  refine (?_ : let G9 : Prop := _; G9); intro G9
  obtain ⟨vs', n', m2, p2⟩ := B9.x
  unfold G9; clear G9
  refine kmk_add_lit F N (News.isList N m1) (News.isList N m2) rfl (fun D h' F' N' l1 => h D _ h' F' N' l1 ⟨_, _, List.mem_cons_self .., ?_⟩) ?_
  · exact LP.keepsL (p1.append p2) (.sub fun q hq => List.mem_cons_of_mem _ hq)
  · have e1 := p1.length
    have e2 := p2.length
    show vs.length + vs'.length ≤ _
    rw [sizeLine_eq]
    omega
theorem set0_mem {v0 v1 v : Value} {n : Nat} {u : Tok} {Q : Unit → Shared → Prop} (F : Fr h₀ L s.heap m) (N : News h₀ L s.heap news) (hm : (D, listOf #[v0, v1] n) ∈ news)
    (h : ∀ h' rest, Fr h₀ L h' m → News h₀ L h' ((D, listOf #[v, v1] n) :: rest) → (∀ q ∈ news, q.1 ≠ D → q ∈ rest) → Q () { s with heap := h' }) : wpAny (model prog w) A (setItem (.ref D) (.int 0 u) v) Q E s := by
  refine (?_ : let G9 : Prop := _; G9); intro G9
  obtain ⟨rest, N2, h1, h2, -⟩ := News.front N hm
  unfold G9; clear G9
  exact ki_set (q := [v, v1]) F N2 (by decide) (by decide) rfl (.head h1) (fun h' F' N' => h h' rest F' N' h2)
theorem set1_mem {v0 v1 v : Value} {n : Nat} {u : Tok} {Q : Unit → Shared → Prop} (F : Fr h₀ L s.heap m) (N : News h₀ L s.heap news) (hm : (D, listOf #[v0, v1] n) ∈ news)
    (h : ∀ h' rest, Fr h₀ L h' m → News h₀ L h' ((D, listOf #[v0, v] n) :: rest) → (∀ q ∈ news, q.1 ≠ D → q ∈ rest) → Q () { s with heap := h' }) : wpAny (model prog w) A (setItem (.ref D) (.int 1 u) v) Q E s := by
  refine (?_ : let G9 : Prop := _; G9); intro G9
  obtain ⟨rest, N2, h1, h2, -⟩ := News.front N hm
  unfold G9; clear G9
  exact ki_set (q := [v0, v]) F N2 (by decide) (by decide) rfl (.head h1) (fun h' F' N' => h h' rest F' N' h2)
end
/-- the iterators stay -/
def KeepsQ (a b : List (Addr × Obj)) : Prop := ∀ q ∈ a, IterO q.2 → q ∈ b
theorem KeepsL.toQ {a b : List (Addr × Obj)} (x : KeepsL a b) : KeepsQ a b := fun q h io => x q h (io_np io) (io_nd io)
theorem KeepsQ.sub {a b : List (Addr × Obj)} (x : ∀ q ∈ a, q ∈ b) : KeepsQ a b := fun q h _ => x q h
theorem KeepsQ.trans' {a b c : List (Addr × Obj)} (y : KeepsQ b c) (x : KeepsQ a b) : KeepsQ a c := fun q h i => y q (x q h i) i
theorem KeepsQ.cons {a b : List (Addr × Obj)} {q : Addr × Obj} (x : KeepsQ a b) : KeepsQ a (q :: b) := fun p h i => List.mem_cons_of_mem _ (x p h i)
theorem iter_nl {o : Obj} {vs : Array Value} {n : Nat} (h : IterO o) : o ≠ listOf vs n := fun e => by
  subst e
  rcases h with h | h <;> (injection h with h; revert h; decide)
theorem unr_end9J {h₀ : Heap} {L I : Addr} {it : Obj} {rest : (Str → Option Value) → List (Addr × Obj) → Prop} {s₁ : Shared} {h' : Heap} {tk : Nat} {m' : Str → Option Value} {l : List (Addr × Obj)} (F : Fr h₀ L h' m') (N : News h₀ L h' l) (hI : (I, it) ∈ l) (hio : IterO it)
    (r : ∀ n', KeepsI l n' → (∀ q ∈ l, q.1 ≠ I → q ∈ n') → rest m' n') : UnrEnd h₀ L s₁ I it rest { s₁ with heap := h', toks := tk } := by
  refine UnrEnd.intro F N (l.filter fun q => q.1 != I) (fun p hp => ?_) (fun p hp => by simpa using (List.mem_filter.mp hp).2) (r _ (fun q hq hs => List.mem_filter.mpr ⟨hq, ?_⟩) fun q hq hn => List.mem_filter.mpr ⟨hq, by simpa using hn⟩)
  · rcases List.mem_cons.mp hp with rfl | hp
    · exact hI
    · exact (List.mem_filter.mp hp).1
  · have h : q.1 ≠ I := fun e => by
      have h1 := (N q hq).1
      rw [e, (N _ hI).1] at h1
      have e2 := Option.some.inj h1
      unfold SeqO at hs
      rw [← e2] at hs
      rcases hio with a | a <;> rcases hs with b | b <;> (dsimp only at a b; rw [a] at b; injection b with b; revert b; decide)
    simpa using h
/-- the state of the loop of bounds -/
structure TB (n0 l : List (Addr × Obj)) (pn Cc td tk : Addr) (v0 v1 : Value) (a0 a1 : Option Str) (ws : List (Str × Str)) (M : Int) (lp : Addr × Obj) : Prop where
  tok : LL l tk ws
  tne : tk ≠ td
  told : ∃ n, (td, listOf #[v0, v1] n) ∈ l
  o0 : OptIn l v0 a0
  o1 : OptIn l v1 a1
  pen : PenIn l pn Cc M
  hlp : lp ∈ l
  lpn : NotPen lp.2
  lps : SeqO lp.2
  lpne : lp.1 ≠ td
  kp : KeepsT n0 l
  fr : ∀ q ∈ n0, NotPen q.2 → SeqO q.2 → q.1 ≠ td
  kq : KeepsQ n0 l
theorem told_np {v0 v1 : Value} {n : Nat} : NotPen (listOf #[v0, v1] n) := fun C a u b v k e => by
  have e1 := congrArg Obj.data e
  injection e1 with e2 _
  have e3 : (2 : Nat) = 3 := congrArg Array.size e2
  cases e3
theorem OptIn.keepsT {a b : List (Addr × Obj)} {v : Value} {o : Option Str} (h : OptIn a v o) (K : KeepsT a b) : OptIn b v o := by
  cases h with
  | none => exact .none
  | some x => exact .some (x.keepsT K)
section
variable {n0 l l' : List (Addr × Obj)} {pn Cc td tk tk' : Addr} {v0 v1 v : Value} {a0 a1 : Option Str} {ws ws' : List (Str × Str)} {M M' : Int} {lp p : Addr × Obj} {x : Str} {n : Nat}
theorem TB.via (S : TB n0 l pn Cc td tk v0 v1 a0 a1 ws M lp) (K : KeepsT l l') (P : PenIn l' pn Cc M') (kq : KeepsQ n0 l') : TB n0 l' pn Cc td tk v0 v1 a0 a1 ws M' lp :=
  ⟨S.tok.keepsT K, S.tne, let ⟨n, m⟩ := S.told; ⟨n, K _ m told_np list_seq⟩, S.o0.keepsT K, S.o1.keepsT K, P, K _ S.hlp S.lpn S.lps, S.lpn, S.lps, S.lpne, K.trans' S.kp, S.fr, kq⟩
theorem TB.mv (S : TB n0 l pn Cc td tk v0 v1 a0 a1 ws M lp) (K : KeepsL l l') (P : PenIn l' pn Cc M') : TB n0 l' pn Cc td tk v0 v1 a0 a1 ws M' lp := S.via K.toT P (K.toQ.trans' S.kq)
theorem TB.cons (S : TB n0 l pn Cc td tk v0 v1 a0 a1 ws M lp) : TB n0 (p :: l) pn Cc td tk v0 v1 a0 a1 ws M lp := S.via (.sub fun _ h => List.mem_cons_of_mem _ h) (S.pen.sub (fun _ h => List.mem_cons_of_mem _ h) (Int.le_refl _)) S.kq.cons
theorem TB.sub (S : TB n0 l pn Cc td tk v0 v1 a0 a1 ws M lp) (K : ∀ q ∈ l, q ∈ l') : TB n0 l' pn Cc td tk v0 v1 a0 a1 ws M lp := S.via (.sub K) (S.pen.sub K (Int.le_refl _)) ((KeepsQ.sub K).trans' S.kq)
theorem TB.tokens (S : TB n0 l pn Cc td tk v0 v1 a0 a1 ws M lp) (A : LL l tk' ws') (hne : tk' ≠ td) : TB n0 l pn Cc td tk' v0 v1 a0 a1 ws' M lp :=
  ⟨A, hne, S.told, S.o0, S.o1, S.pen, S.hlp, S.lpn, S.lps, S.lpne, S.kp, S.fr, S.kq⟩
theorem optIn_val (h : OptIn l v a0) : v = .none ∨ ∃ a, v = .ref a := by
  cases h with
  | none => exact .inl rfl
  | some x => cases x; exact .inr ⟨_, rfl⟩
/-- what a store into told leaves -/
theorem TB.rest {h₀ h : Heap} {L : Addr} {r : List (Addr × Obj)} (S : TB n0 l pn Cc td tk v0 v1 a0 a1 ws M lp) (N : News h₀ L h l) (hs : ∀ q ∈ l, q.1 ≠ td → q ∈ r) :
    (∀ {b : Addr} {vs : List Value} {k : Nat}, (b, tupOf vs k) ∈ l → (b, tupOf vs k) ∈ r) ∧ LL r tk ws ∧ PenIn r pn Cc M ∧ lp ∈ r ∧ KeepsT n0 r ∧ KeepsQ n0 r := by
  obtain ⟨k, m⟩ := S.told
  have go : ∀ {b : Addr} {vs : List Value} {k : Nat}, (b, tupOf vs k) ∈ l → (b, tupOf vs k) ∈ r := fun q => hs _ q (News.differ N q m tup_not_list)
  refine ⟨go, ?_, ?_, hs _ S.hlp S.lpne, fun q hq hn hd => hs _ (S.kp q hq hn hd) (S.fr q hq hn hd), fun q hq io => hs _ (S.kq q hq io) (News.differ N (o := q.2) (S.kq q hq io) m (iter_nl io))⟩
  · refine (?_ : let G9 : Prop := _; G9); intro G9
    obtain ⟨vs, n, q, z⟩ := S.tok.x
    unfold G9; clear G9
    exact ⟨vs, n, hs _ q S.tne, z.tups fun _ _ _ z => go z⟩
  · refine (?_ : let G9 : Prop := _; G9); intro G9
    obtain ⟨cs, ns, nc, x, u1, y, u2, k', h1, h2, hi, t⟩ := S.pen.x
    unfold G9; clear G9
    refine ⟨cs, ns, nc, x, u1, y, u2, k', hs _ h1 (Ne.symm (News.differ N m h1 (told_np _ _ _ _ _ _))), hs _ h2 (News.differ N h2 m fun e => ?_), hi, t⟩
    have e1 := congrArg Obj.data e
    injection e1 with e2 _
    have e3 : cs = [v0, v1] := congrArg Array.toList e2
    subst e3
    cases hi
    rcases optIn_val S.o0 with z | ⟨_, z⟩ <;> cases z
theorem OptIn.tups {a b : List (Addr × Obj)} {v : Value} {o : Option Str} (h : OptIn a v o) (K : ∀ {p : Addr} {us : List Value} {k : Nat}, (p, tupOf us k) ∈ a → (p, tupOf us k) ∈ b) : OptIn b v o := by
  cases h with
  | none => exact .none
  | some x =>
    cases x with
    | text q x => exact .some (.text q (K x))
theorem TB.set0 {h₀ h : Heap} {L : Addr} {r : List (Addr × Obj)} (S : TB n0 l pn Cc td tk v0 v1 a0 a1 ws M lp) (N : News h₀ L h l) (hs : ∀ q ∈ l, q.1 ≠ td → q ∈ r) (O : OdIn l v (.text x)) :
    TB n0 ((td, listOf #[v, v1] n) :: r) pn Cc td tk v v1 (some x) a1 ws M lp := by
  refine (?_ : let G9 : Prop := _; G9); intro G9
  obtain ⟨go, t, P, lpm, kp, kq⟩ := S.rest N hs
  unfold G9; clear G9
  have up : ∀ {p : Addr} {us : List Value} {k : Nat}, (p, tupOf us k) ∈ l → (p, tupOf us k) ∈ (td, listOf #[v, v1] n) :: r := fun q => List.mem_cons_of_mem _ (go q)
  exact ⟨t.keepsL (.sub fun q hq => List.mem_cons_of_mem _ hq), S.tne, ⟨n, List.mem_cons_self ..⟩, (OptIn.some O).tups up, S.o1.tups up, P.sub (fun q hq => List.mem_cons_of_mem _ hq) (Int.le_refl _), List.mem_cons_of_mem _ lpm, S.lpn, S.lps, S.lpne, kp.cons, S.fr, kq.cons⟩
theorem TB.set1 {h₀ h : Heap} {L : Addr} {r : List (Addr × Obj)} (S : TB n0 l pn Cc td tk v0 v1 a0 a1 ws M lp) (N : News h₀ L h l) (hs : ∀ q ∈ l, q.1 ≠ td → q ∈ r) (O : OdIn l v (.text x)) :
    TB n0 ((td, listOf #[v0, v] n) :: r) pn Cc td tk v0 v a0 (some x) ws M lp := by
  refine (?_ : let G9 : Prop := _; G9); intro G9
  obtain ⟨go, t, P, lpm, kp, kq⟩ := S.rest N hs
  unfold G9; clear G9
  have up : ∀ {p : Addr} {us : List Value} {k : Nat}, (p, tupOf us k) ∈ l → (p, tupOf us k) ∈ (td, listOf #[v0, v] n) :: r := fun q => List.mem_cons_of_mem _ (go q)
  exact ⟨t.keepsL (.sub fun q hq => List.mem_cons_of_mem _ hq), S.tne, ⟨n, List.mem_cons_self ..⟩, S.o0.tups up, (OptIn.some O).tups up, P.sub (fun q hq => List.mem_cons_of_mem _ hq) (Int.le_refl _), List.mem_cons_of_mem _ lpm, S.lpn, S.lps, S.lpne, kp.cons, S.fr, kq.cons⟩
/-- a list of one word stays apart from told -/
theorem LL.one_rest {h₀ h : Heap} {L lt : Addr} {r : List (Addr × Obj)} {e : Str × Str} (S : TB n0 l pn Cc td tk v0 v1 a0 a1 ws M lp) (N : News h₀ L h l) (hs : ∀ q ∈ l, q.1 ≠ td → q ∈ r) (A : LL l lt [e]) : LL r lt [e] := by
  obtain ⟨k, m⟩ := S.told
  refine (?_ : let G9 : Prop := _; G9); intro G9
  obtain ⟨vs, n, q, z⟩ := A.x
  unfold G9; clear G9
  refine ⟨vs, n, hs _ q (News.differ N q m fun e => ?_), z.tups fun _ _ _ z => (S.rest N hs).1 z⟩
  have e1 := congrArg Obj.data e
  injection e1 with e2 _
  have e3 : vs = [v0, v1] := congrArg Array.toList e2
  have e4 := z.length
  rw [e3] at e4
  cases e4
end
abbrev cW (x : Str) : Str × Str := (Str.ofString "word", x)
def eTok (e : Bd) : List (Str × Str) := [cW (bWord e.af)] ++ (if e.it then [cW (Str.ofString "INITIAL")] else []) ++ [(Str.ofString "literal", e.x)]
def bTok (es : List Bd) : List (Str × Str) := es.flatMap eTok
def seqOk : List Bool → Bool
  | [] => true
  | [_] => true
  | [a, b] => a != b
  | _ => false
theorem bOk_seq {es : List Bd} (h : seqOk (es.map (·.af)) = true) : bOk es = true := by
  match es with
  | [] => rfl
  | [_] => rfl
  | [a, b] => exact h
  | _ :: _ :: _ :: _ => cases h
theorem bTok_snoc (es : List Bd) (e : Bd) : bTok (es ++ [e]) = bTok es ++ eTok e := by simp [bTok]
theorem bGet_new {es : List Bd} {e : Bd} {zs : List Bool} (h : seqOk (es.map (·.af) ++ e.af :: zs) = true) : bGet e.af (es ++ [e]) = some e.x ∧ bGet (!e.af) (es ++ [e]) = bGet (!e.af) es ∧ (bTok es).length ≤ 3 := by
  refine (?_ : let G9 : Prop := _; G9); intro G9
  obtain ⟨af, it, x⟩ := e
  unfold G9; clear G9
  rcases es with _ | ⟨⟨a, i, y⟩, _ | ⟨e2, r⟩⟩
  · cases af <;> exact ⟨rfl, rfl, by decide⟩
  · have h2 : (a != af) = true := by
      cases zs with
      | nil => exact h
      | cons _ _ => cases h
    cases a <;> cases af <;> first | (exact absurd h2 (by decide)) | (refine ⟨by simp [bGet], by simp [bGet], ?_⟩; cases i <;> simp [bTok, eTok])
  · exact absurd h (by simp [seqOk])
structure TI (n0 l : List (Addr × Obj)) (pn Cc td tk : Addr) (v0 v1 : Value) (a0 a1 : Option Str) (ws : List (Str × Str)) (M : Int) (lp : Addr × Obj) (I : Addr) (it : Obj) : Prop where
  tb : TB n0 l pn Cc td tk v0 v1 a0 a1 ws M lp
  hI : (I, it) ∈ l
  io : IterO it
  frI : ∀ q ∈ n0, IterO q.2 → q.1 ≠ I
section
variable {n0 l l' : List (Addr × Obj)} {pn Cc td tk tk' I D : Addr} {v0 v1 v : Value} {a0 a1 : Option Str} {ws ws' : List (Str × Str)} {M M' : Int} {lp p : Addr × Obj} {it o : Obj} {x : Str} {n : Nat} {h₀ h : Heap} {L : Addr}
theorem TB.turn (S : TB n0 l pn Cc td tk v0 v1 a0 a1 ws M lp) (io : IterO it) (off : ∀ p ∈ l, p.1 ≠ I) : TI n0 ((I, it) :: l) pn Cc td tk v0 v1 a0 a1 ws M lp I it := ⟨S.cons, List.mem_cons_self .., io, fun q hq i => off q (S.kq q hq i)⟩
theorem TI.sub (S : TI n0 l pn Cc td tk v0 v1 a0 a1 ws M lp I it) (_N : News h₀ L h l') (K : ∀ q ∈ l, q ∈ l') : TI n0 l' pn Cc td tk v0 v1 a0 a1 ws M lp I it := ⟨S.tb.sub K, K _ S.hI, S.io, S.frI⟩
theorem TI.mv (S : TI n0 l pn Cc td tk v0 v1 a0 a1 ws M lp I it) (K : KeepsL l l') (P : PenIn l' pn Cc M') : TI n0 l' pn Cc td tk v0 v1 a0 a1 ws M' lp I it := ⟨S.tb.mv K P, K _ S.hI (io_np S.io) (io_nd S.io), S.io, S.frI⟩
theorem TI.draw (S : TI n0 l pn Cc td tk v0 v1 a0 a1 ws M lp I it) (N : News h₀ L h l) (K : KeepsB pn l l') (P : PenIn l' pn Cc M') : TI n0 l' pn Cc td tk v0 v1 a0 a1 ws M' lp I it := S.mv (K.toL S.tb.pen N) P
theorem TI.add (S : TI n0 l pn Cc td tk v0 v1 a0 a1 ws M lp I it) (_N : News h₀ L h ((D, o) :: l)) (A : LL ((D, o) :: l) D ws') (hD : ∀ q ∈ l, q.1 < D) : TI n0 ((D, o) :: l) pn Cc td D v0 v1 a0 a1 ws' M lp I it :=
  ⟨S.tb.cons.tokens A (let ⟨_, m⟩ := S.tb.told; Nat.ne_of_gt (hD _ m)), List.mem_cons_of_mem _ S.hI, S.io, S.frI⟩
theorem TI.iter_ne (S : TI n0 l pn Cc td tk v0 v1 a0 a1 ws M lp I it) (N : News h₀ L h l) : I ≠ td := by
  obtain ⟨k, m⟩ := S.tb.told
  refine News.differ N S.hI m fun e => ?_
  have e1 := congrArg Obj.cls e
  rcases S.io with h | h <;> (rw [h] at e1; injection e1 with e1; revert e1; decide)
theorem TI.set0 {r : List (Addr × Obj)} (S : TI n0 l pn Cc td tk v0 v1 a0 a1 ws M lp I it) (N : News h₀ L h l) (hs : ∀ q ∈ l, q.1 ≠ td → q ∈ r) (O : OdIn l v (.text x)) :
    TI n0 ((td, listOf #[v, v1] n) :: r) pn Cc td tk v v1 (some x) a1 ws M lp I it := ⟨S.tb.set0 N hs O, List.mem_cons_of_mem _ (hs _ S.hI (S.iter_ne N)), S.io, S.frI⟩
theorem TI.set1 {r : List (Addr × Obj)} (S : TI n0 l pn Cc td tk v0 v1 a0 a1 ws M lp I it) (N : News h₀ L h l) (hs : ∀ q ∈ l, q.1 ≠ td → q ∈ r) (O : OdIn l v (.text x)) :
    TI n0 ((td, listOf #[v0, v] n) :: r) pn Cc td tk v0 v a0 (some x) ws M lp I it := ⟨S.tb.set1 N hs O, List.mem_cons_of_mem _ (hs _ S.hI (S.iter_ne N)), S.io, S.frI⟩
theorem TI.stop (S : TI n0 l pn Cc td tk v0 v1 a0 a1 ws M lp I it) (K : KeepsI l l') (J : ∀ q ∈ l, q.1 ≠ I → q ∈ l') : TB n0 l' pn Cc td tk v0 v1 a0 a1 ws M lp := S.tb.via K.toT (S.tb.pen.keepsI K) fun q hq io => J q (S.tb.kq q hq io) (S.frI q hq io)
theorem LL.subN {t : Addr} (A : LL l t ws) (_N : News h₀ L h l') (K : ∀ q ∈ l, q ∈ l') : LL l' t ws := A.keepsL (.sub K)
end
/-- zeros and ones -/
inductive BI : List Value → List Bool → Prop where
  | nil : BI [] []
  | zero {u : Tok} {vs : List Value} {zs : List Bool} : BI vs zs → BI (.int 0 u :: vs) (false :: zs)
  | one {u : Tok} {vs : List Value} {zs : List Bool} : BI vs zs → BI (.int 1 u :: vs) (true :: zs)
abbrev mB (om oa : Option Value) (tk td pn : Addr) : Str → Option Value := fun y =>
  if y = Str.ofString "tokens" then some (.ref tk) else if y = Str.ofString "told" then some (.ref td) else if y = Str.ofString "more" then om else if y = Str.ofString "at" then oa else List.lookup y [(Str.ofString "pen", Value.ref pn)]
def InvB (n0 : List (Addr × Obj)) (pn Cc td : Addr) (lp : Addr × Obj) (Nn : Int) (vs : List Value) (m : Str → Option Value) (l : List (Addr × Obj)) : Prop :=
  ∃ om oa tk v0 v1 es zs M, m = mB om oa tk td pn ∧ BI vs zs ∧ seqOk (es.map (·.af) ++ zs) = true ∧ TB n0 l pn Cc td tk v0 v1 (bGet false es) (bGet true es) (bTok es) M lp ∧ M ≤ Nn + 1 + 6 * (es.length : Int) ∧ ∀ e ∈ es, PlainT e.x
theorem seq_len {es : List Bd} {zs : List Bool} (h : seqOk (es.map (·.af) ++ zs) = true) : es.length + zs.length ≤ 2 := by
  have e : (es.map (·.af) ++ zs).length = es.length + zs.length := by simp
  generalize es.map (·.af) ++ zs = l at h e
  rcases l with _ | ⟨a, _ | ⟨b, _ | ⟨c, r⟩⟩⟩ <;> simp only [List.length_cons, List.length_nil] at e
  · omega
  · omega
  · omega
  · exact absurd h (by simp [seqOk])
theorem bounds_plain {es : List Bd} {e : Bd} (h : ∀ e ∈ es, PlainT e.x) (he : PlainT e.x) : ∀ d ∈ es ++ [e], PlainT d.x := fun d hd => by
  rcases List.mem_append.mp hd with hd | hd
  · exact h d hd
  · rw [List.mem_singleton.mp hd]
    exact he
theorem mB0 {tk td pn : Addr} {y : Str} : (if y = Str.ofString "tokens" then some (Value.ref tk) else if y = Str.ofString "told" then some (Value.ref td) else List.lookup y [(Str.ofString "pen", Value.ref pn)]) = mB none none tk td pn y := by
  unfold mB
  by_cases h1 : y = Str.ofString "tokens"
  · rw [if_pos h1, if_pos h1]
  rw [if_neg h1, if_neg h1]
  by_cases h2 : y = Str.ofString "told"
  · rw [if_pos h2, if_pos h2]
  rw [if_neg h2, if_neg h2]
  by_cases h3 : y = Str.ofString "more"
  · rw [if_pos h3, h3]; simp [List.lookup, (by decide +kernel : (Str.ofString "more" == Str.ofString "pen") = false)]
  rw [if_neg h3]
  by_cases h4 : y = Str.ofString "at"
  · rw [if_pos h4, h4]; simp [List.lookup, (by decide +kernel : (Str.ofString "at" == Str.ofString "pen") = false)]
  rw [if_neg h4]
theorem bi_told {vs : List Value} {zs : List Bool} {n k : Nat} (h : BI vs zs) : listOf vs.toArray n ≠ listOf #[.none, .none] k := fun e => by
  have e1 := congrArg Obj.data e
  injection e1 with e2 _
  have e3 : vs = [.none, .none] := congrArg Array.toList e2
  rw [e3] at h
  cases h
theorem In.name {D : Addr} {o : Obj} {l : List (Addr × Obj)} {G : Prop} (h : (D, o) ∈ l) (k : ∀ D', D' = D → (D', o) ∈ l → G) : G := k D rfl h
theorem InvB.next {n0 l : List (Addr × Obj)} {pn Cc td tk : Addr} {v0 v1 : Value} {es : List Bd} {af it : Bool} {x : Str} {M Nn : Int} {lp : Addr × Obj} {zs : List Bool} {vs : List Value} {om oa : Option Value} {m : Str → Option Value} {a0 a1 : Option Str}
    (S : TB n0 l pn Cc td tk v0 v1 a0 a1 (((bTok es ++ [cW (bWord af)]) ++ (if it then [cW (Str.ofString "INITIAL")] else [])) ++ [(Str.ofString "literal", x)]) M lp) (h0 : a0 = bGet false (es ++ [⟨af, it, x⟩])) (h1 : a1 = bGet true (es ++ [⟨af, it, x⟩]))
    (sq : seqOk (es.map (·.af) ++ af :: zs) = true) (bi : BI vs zs) (hM : M ≤ Nn + 1 + 6 * (es.length : Int) + 6) (hp : ∀ e ∈ es, PlainT e.x) (hx : PlainT x) (hm : m = mB om oa tk td pn) : InvB n0 pn Cc td lp Nn vs m l := by
  subst h0 h1
  refine ⟨om, oa, tk, v0, v1, es ++ [⟨af, it, x⟩], zs, M, hm, bi, ?_, ?_, ?_, bounds_plain hp hx⟩
  · simpa using sq
  · rw [bTok_snoc]
    have e : bTok es ++ eTok ⟨af, it, x⟩ = ((bTok es ++ [cW (bWord af)]) ++ (if it then [cW (Str.ofString "INITIAL")] else [])) ++ [(Str.ofString "literal", x)] := by
      simp [eTok]
    rw [e]
    exact S
  · simp only [List.length_append, List.length_cons, List.length_nil]
    omega
theorem InvB.next0 {n0 l : List (Addr × Obj)} {pn Cc td tk : Addr} {v0 v1 : Value} {es : List Bd} {x : Str} {M Nn : Int} {lp : Addr × Obj} {zs : List Bool} {vs : List Value} {om oa : Option Value} {m : Str → Option Value} (it : Bool)
    (S : TB n0 l pn Cc td tk v0 v1 (some x) (bGet true es) (((bTok es ++ [cW (bWord false)]) ++ (if it then [cW (Str.ofString "INITIAL")] else [])) ++ [(Str.ofString "literal", x)]) M lp)
    (sq : seqOk (es.map (·.af) ++ false :: zs) = true) (bi : BI vs zs) (hM : M ≤ Nn + 1 + 6 * (es.length : Int) + 6) (hp : ∀ e ∈ es, PlainT e.x) (hx : PlainT x) (hm : m = mB om oa tk td pn) : InvB n0 pn Cc td lp Nn vs m l :=
  have z := bGet_new (e := ⟨false, it, x⟩) sq
  InvB.next S z.1.symm z.2.1.symm sq bi hM hp hx hm
theorem InvB.next1 {n0 l : List (Addr × Obj)} {pn Cc td tk : Addr} {v0 v1 : Value} {es : List Bd} {x : Str} {M Nn : Int} {lp : Addr × Obj} {zs : List Bool} {vs : List Value} {om oa : Option Value} {m : Str → Option Value} (it : Bool)
    (S : TB n0 l pn Cc td tk v0 v1 (bGet false es) (some x) (((bTok es ++ [cW (bWord true)]) ++ (if it then [cW (Str.ofString "INITIAL")] else [])) ++ [(Str.ofString "literal", x)]) M lp)
    (sq : seqOk (es.map (·.af) ++ true :: zs) = true) (bi : BI vs zs) (hM : M ≤ Nn + 1 + 6 * (es.length : Int) + 6) (hp : ∀ e ∈ es, PlainT e.x) (hx : PlainT x) (hm : m = mB om oa tk td pn) : InvB n0 pn Cc td lp Nn vs m l :=
  have z := bGet_new (e := ⟨true, it, x⟩) sq
  InvB.next S z.2.1.symm z.1.symm sq bi hM hp hx hm
theorem mB1 {om oa : Option Value} {tk tk' td pn a : Addr} {v : Value} : (fun y => if y = Str.ofString "tokens" then some (Value.ref tk') else if y = Str.ofString "more" then some (Value.ref a) else if y = Str.ofString "at" then some v else mB om oa tk td pn y) = mB (some (.ref a)) (some v) tk' td pn := by
  funext y
  show _ = if y = Str.ofString "tokens" then some (Value.ref tk') else _
  by_cases h1 : y = Str.ofString "tokens"
  · rw [if_pos h1, if_pos h1]
  rw [if_neg h1, if_neg h1]
  by_cases h2 : y = Str.ofString "more"
  · rw [if_pos h2, if_neg (by rw [h2]; decide +kernel), if_pos h2]
  rw [if_neg h2]
  by_cases h3 : y = Str.ofString "at"
  · rw [if_pos h3, if_neg (by rw [h3]; decide +kernel), if_neg h2, if_pos h3]
  rw [if_neg h3]
  show (if y = Str.ofString "tokens" then _ else _) = _
  rw [if_neg h1]
  by_cases h4 : y = Str.ofString "told"
  · rw [if_pos h4, if_pos h4]
  rw [if_neg h4, if_neg h4, if_neg h2, if_neg h2, if_neg h3, if_neg h3]
include B F X N Tp hk in
theorem lbounds_spec {pn Cc : Addr} {Nn : Int}
    (P : PenIn news pn Cc Nn) (hN : Nn ≤ 4900) (hdp : dp ≤ 540) (hun : un ≤ 3800)
    (ret : ∀ T td tk nT nd v0 v1 es news' h' tk', Fr h₀ L h' m → News h₀ L h' news' → KeepsT news news' → KeepsQ news news' → PenIn news' pn Cc (Nn + 20) → (T, tupOf [.ref tk, .ref td] nT) ∈ news' → LL news' tk (bTok es) → (td, listOf #[v0, v1] nd) ∈ news' → bOk es = true → (∀ e ∈ es, PlainT e.x) → OptIn news' v0 (bGet false es) → OptIn news' v1 (bGet true es) → Q (.ref T) { s with heap := h', toks := tk' }) :
    wpAny (model pw w) (top9 none dp un gd cn cs L a ccd cl outer) (call (.ref (nat_lit 556)) [.ref pn]) Q E s := by
  tb_start
  ktr_enter
  with_reducible rename Fr _ _ _ (fun y => List.lookup y _) => F2
  replace F2 : Fr _ _ _ (fun y => List.lookup y [(Str.ofString "pen", .ref pn)]) := F2
  (try (generalize s.toks + List.length _ = tk0))
  repeat' (first
    | ((with_reducible show wpAny _ _ (call (Value.ref (nat_lit 527)) _) _ _ _); (refine Halt.go ?_))
    | walk_at "t9")
  refine Halt.back ?_
  with_reducible rename News _ _ _ _ => N8
  have KN : ∀ q ∈ news, NotPen q.2 → SeqO q.2 → ∀ l6, (∀ p ∈ news, p.1 < l6) → q.1 ≠ l6 := fun q hq _ _ l6 h e => absurd (e ▸ h q hq) (Nat.lt_irrefl _)
  refine' pickL_spec ?B ?F ?X ?N ?T ?hk ?x0 ?x1 ?x2 ?x3 ?x4 ?x5 ?hd ?hu ?_
  kfm_turns
  (case x0 => exact PenIn.sub P (fun q hq => by repeat (first | exact hq | refine List.mem_cons_of_mem _ ?_)) (Int.le_refl _))
  (case x1 => omega)
  (case x2 => exact List.mem_cons_self ..)
  (case x3 => exact notPen_refs (vs := [_, _, _, _, _]) (by
    intro v hv
    simp at hv
    rcases hv with rfl | rfl | rfl | rfl | rfl <;> exact ⟨_, rfl⟩))
  (case x4 => exact Nat.le_of_ble_eq_true rfl)
  (case x5 => exact Nat.le_of_ble_eq_true rfl)
  intro v9 L9Z h9 tk9 hv9 F9 N9 K9 P9
  have KL := KeepsB.toL K9 (PenIn.sub P (fun q hq => by repeat (first | exact hq | refine List.mem_cons_of_mem _ ?_)) (Int.le_refl _)) N8
  have z9 : ∃ a vs n zs, v9 = .ref a ∧ (a, listOf vs.toArray n) ∈ L9Z ∧ BI vs zs ∧ seqOk zs = true ∧ NotPen (listOf vs.toArray n) := by
    have nd : ∀ {vs : Array Value} {n : Nat}, (listOf vs n).cls ≠ .type "dict" := fun e => by
      injection e with e
      revert e
      decide
    have np : ∀ {vs : Array Value} {n : Nat}, vs.size ≤ 2 → NotPen (listOf vs n) := fun hs C a u b v k e => by
      have e1 := congrArg Obj.data e
      injection e1 with e2 _
      rw [e2] at hs
      exact absurd hs (by simp)
    rcases List.mem_cons.mp hv9 with e | hv9
    rotate_left
    rcases List.mem_cons.mp hv9 with e | hv9
    rotate_left
    rcases List.mem_cons.mp hv9 with e | hv9
    rotate_left
    rcases List.mem_cons.mp hv9 with e | hv9
    rotate_left
    rcases List.mem_cons.mp hv9 with e | hv9
    rotate_left
    · cases hv9
    all_goals subst e
    · exact ⟨_, [], _, _, rfl, KL _ (List.mem_cons_of_mem _ (List.mem_cons_of_mem _ (List.mem_cons_of_mem _ (List.mem_cons_of_mem _ (List.mem_cons_of_mem _ (List.mem_cons_self ..)))))) (np (Nat.le_of_ble_eq_true rfl)) nd, .nil, rfl, np (Nat.le_of_ble_eq_true rfl)⟩
    · exact ⟨_, [.int 0 _], _, _, rfl, KL _ (List.mem_cons_of_mem _ (List.mem_cons_of_mem _ (List.mem_cons_of_mem _ (List.mem_cons_of_mem _ (List.mem_cons_self ..))))) (np (Nat.le_of_ble_eq_true rfl)) nd, .zero .nil, rfl, np (Nat.le_of_ble_eq_true rfl)⟩
    · exact ⟨_, [.int 1 _], _, _, rfl, KL _ (List.mem_cons_of_mem _ (List.mem_cons_of_mem _ (List.mem_cons_of_mem _ (List.mem_cons_self ..)))) (np (Nat.le_of_ble_eq_true rfl)) nd, .one .nil, rfl, np (Nat.le_of_ble_eq_true rfl)⟩
    · exact ⟨_, [.int 0 _, .int 1 _], _, _, rfl, KL _ (List.mem_cons_of_mem _ (List.mem_cons_of_mem _ (List.mem_cons_self ..))) (np (Nat.le_of_ble_eq_true rfl)) nd, .zero (.one .nil), rfl, np (Nat.le_of_ble_eq_true rfl)⟩
    · exact ⟨_, [.int 1 _, .int 0 _], _, _, rfl, KL _ (List.mem_cons_of_mem _ (List.mem_cons_self ..)) (np (Nat.le_of_ble_eq_true rfl)) nd, .one (.zero .nil), rfl, np (Nat.le_of_ble_eq_true rfl)⟩
  refine (?_ : let G9 : Prop := _; G9); intro G9
  obtain ⟨lp9, vs9, nl9, zs9, eq9_0, hl9, bi9, sq9, np9⟩ := z9
  unfold G9; clear G9
  subst eq9_0
  clear hv9
  have hT0 := KL _ (List.mem_cons_of_mem _ (List.mem_cons_of_mem _ (List.mem_cons_of_mem _ (List.mem_cons_of_mem _ (List.mem_cons_of_mem _ (List.mem_cons_of_mem _ (List.mem_cons_of_mem _ (List.mem_cons_self ..)))))))) (told_np (v0 := .none) (v1 := .none)) (fun e => by
    injection e with e
    revert e
    decide)
  have hK0 := KL _ (List.mem_cons_of_mem _ (List.mem_cons_of_mem _ (List.mem_cons_of_mem _ (List.mem_cons_of_mem _ (List.mem_cons_of_mem _ (List.mem_cons_of_mem _ (List.mem_cons_of_mem _ (List.mem_cons_of_mem _ (List.mem_cons_self ..))))))))) (fun C a u b v k e => by
    have e1 := congrArg Obj.data e
    injection e1 with e2 _
    exact absurd (congrArg Array.size e2) (by simp)) (fun e => by
    injection e with e
    revert e
    decide)
  clear K9 N8
  refine In.name hT0 fun td9 e hT0 => ?_
  subst e
  try dsimp only
  have SL0 : ∀ q ∈ news, NotPen q.2 → SeqO q.2 → q ∈ L9Z := fun q hq hn hd => KL q (by repeat (first | exact hq | refine List.mem_cons_of_mem _ ?_)) hn (seq_nd hd)
  have SQ0 : KeepsQ news L9Z := fun q hq io => KL q (by repeat (first | exact hq | refine List.mem_cons_of_mem _ ?_)) (io_np io) (io_nd io)
  refine iter_list9 rfl (by k_asm) N9 hl9 ?_
  intro I hI
  refine' SeqRest.ind (Inv := InvB news pn Cc td9 (lp9, listOf vs9.toArray nl9) Nn) ?_ ?_ _ _ _ ?inv
  case inv =>
    refine ⟨none, none, _, _, _, [], zs9, Nn + 1, ?_, bi9, sq9, ⟨⟨[], _, hK0, .nil⟩, ?_, ⟨_, hT0⟩, .none, .none, P9, hl9, np9, list_seq, ?_, SL0, ?_, SQ0⟩, (by simp), fun _ h => nomatch h⟩
    · funext y
      exact mB0
    · have z := (by assumption : _ < _ ∧ AllLt _ news).1
      exact Nat.ne_of_lt z
    · exact News.differ N9 hl9 hT0 (bi_told bi9)
    · have z := (by assumption : _ < _ ∧ AllLt _ news).2
      exact fun q hq _ _ => Nat.ne_of_lt (AllLt.mem z q hq)
  · intro v r m1 l it h tk hx9_7 F1 N1 off io
    refine (?_ : let G9 : Prop := _; G9); intro G9
    obtain ⟨om, oa, tkA, v0, v1, es, zs, M, eq9_0, bi, sq, S, hM, hp⟩ := hx9_7
    unfold G9; clear G9
    subst eq9_0
    have T9 := TB.turn (I := I) S io off
    have hes := seq_len sq
    clear S off ret SL0 SQ0 hl9 hK0 hT0 KL F9 N9
    cases bi with
    | zero bi2 =>
      have hes1 : es.length ≤ 1 := by
        simp only [List.length_cons] at hes
        omega
      have hb3 := (bGet_new (e := ⟨false, false, Str.ofString ""⟩) sq).2.2
      try dsimp only
      repeat' (first
        | ((with_reducible show wpAny _ _ (call (Value.ref (nat_lit 520)) _) _ _ _); (with_reducible rename News _ _ _ _ => N8); (have T8 := TI.sub T9 N8 (fun q hq => by repeat (first | exact hq | refine List.mem_cons_of_mem _ ?_))); (try (have L8 := LL.subN L9 N8 (fun q hq => by repeat (first | exact hq | refine List.mem_cons_of_mem _ ?_)))); clear T9; (refine' draw_spec ?B ?F ?X ?N ?T ?hk ?x0 ?x1 ?x2 ?x3 ?hd ?hu ?_; kfm_turns; (case x0 => exact T8.tb.pen); (case x1 => omega); (case x2 => first | omega | ((simp only [List.size_toArray, List.length_map, List.length_cons, List.length_nil] at *); omega)); (case x3 => first | omega | ((simp only [List.size_toArray, List.length_map, List.length_cons, List.length_nil] at *); omega)); k_whole); intro dg9 du9 n9 h9 tk9 dz9 dm9 F9 N9 K9 P9; (have T9 := TI.draw T8 N8 K9 P9); (try (have L9 := LL.keepsL L8 (KeepsB.toL K9 T8.tb.pen N8))); clear N8 K9 P9; kqd_sub)
        | ((with_reducible show wpAny _ _ (call (Value.ref (nat_lit 542)) _) _ _ _); (with_reducible rename News _ _ _ _ => N8); (have T8 := TI.sub T9 N8 (fun q hq => by repeat (first | exact hq | refine List.mem_cons_of_mem _ ?_))); (try (have L8 := LL.subN L9 N8 (fun q hq => by repeat (first | exact hq | refine List.mem_cons_of_mem _ ?_)))); clear T9; (refine' lit_spec ?B ?F ?X ?N ?T ?hk ?x0 ?x1 ?x2 ?x3 ?hd ?hu ?_; kfm_turns; (case x0 => exact T8.tb.pen); (case x1 => omega); (case x2 => first | omega | decide); (case x3 => first | omega | decide); k_whole); intro x9 p9 lt9 tt9 n8 n9 h9 tk9 hp9 hx9 F9 N9 K9 P9 m9 L9 O9; (have T9 := TI.mv T8 K9 P9); clear N8 K9 P9; kqd_sub)
        | ((with_reducible show wpAny _ _ (call (Value.ref (nat_lit 532)) _) _ _ _); (with_reducible rename News _ _ _ _ => N8); (have T8 := TI.sub T9 N8 (fun q hq => by repeat (first | exact hq | refine List.mem_cons_of_mem _ ?_))); (try (have L8 := LL.subN L9 N8 (fun q hq => by repeat (first | exact hq | refine List.mem_cons_of_mem _ ?_)))); clear T9; (refine' words1_spec ?B ?F ?X ?N ?T ?hk ?x0 ?x1 ?x2 ?hd ?hu ?_; kfm_turns; (case x0 => first | assumption | decide +kernel); (case x1 => first | omega | decide +kernel); (case x2 => first | assumption | decide +kernel); k_whole); intro l9 n9 h9 tk9 F9 N9 S9 W9; (have T9 := TI.sub T8 N9 S9); (have L9 := LL.subN L8 N9 S9); clear N8 S9; kqd_sub)
        | ((with_reducible show wpAny _ _ (setItem (Value.ref td9) (Value.int 0 _) _) _ _ _); (with_reducible rename News _ _ _ _ => N8); (have T8 := TI.sub T9 N8 (fun q hq => by repeat (first | exact hq | refine List.mem_cons_of_mem _ ?_))); (try (have L8 := LL.subN L9 N8 (fun q hq => by repeat (first | exact hq | refine List.mem_cons_of_mem _ ?_)))); clear T9; (obtain ⟨nt9, mt9⟩ := T8.tb.told); (refine set0_mem (by k_asm) N8 mt9 ?_); intro h7 r7 F7 N7 sb7; (have T9 := TI.set0 (n := nt9) T8 N8 sb7 (OdIn.keepsL O9 (.sub (fun q hq => by repeat (first | exact hq | refine List.mem_cons_of_mem _ ?_))))); (have L9 := LL.one_rest T8.tb N8 sb7 L8); clear N8 mt9)
        | ((with_reducible show wpAny _ _ (setItem (Value.ref td9) (Value.int 1 _) _) _ _ _); (with_reducible rename News _ _ _ _ => N8); (have T8 := TI.sub T9 N8 (fun q hq => by repeat (first | exact hq | refine List.mem_cons_of_mem _ ?_))); (try (have L8 := LL.subN L9 N8 (fun q hq => by repeat (first | exact hq | refine List.mem_cons_of_mem _ ?_)))); clear T9; (obtain ⟨nt9, mt9⟩ := T8.tb.told); (refine set1_mem (by k_asm) N8 mt9 ?_); intro h7 r7 F7 N7 sb7; (have T9 := TI.set1 (n := nt9) T8 N8 sb7 (OdIn.keepsL O9 (.sub (fun q hq => by repeat (first | exact hq | refine List.mem_cons_of_mem _ ?_))))); (have L9 := LL.one_rest T8.tb N8 sb7 L8); clear N8 mt9)
        | ((with_reducible show wpAny _ _ (binaryOp Operator.Add (Value.ref _) (Value.ref _)) _ _ _); (with_reducible rename News _ _ _ _ => N8); (have T8 := TI.sub T9 N8 (fun q hq => by repeat (first | exact hq | refine List.mem_cons_of_mem _ ?_))); (try (have L8 := LL.subN L9 N8 (fun q hq => by repeat (first | exact hq | refine List.mem_cons_of_mem _ ?_)))); clear T9; k_dflt (refine' add_LL ?k1 N8 T8.tb.tok ?k2 ?k3 ?_; (case k1 => k_asm); (case k2 => first | exact LL.subN W9 N8 (fun q hq => by repeat (first | exact hq | refine List.mem_cons_of_mem _ ?_)) | exact L8 | exact ⟨[], _, List.mem_cons_self .., .nil⟩); (case k3 => (simp only [List.length_append, List.length_cons, List.length_nil]; omega)); k_whole); intro D9 o9 h9 F9 N9 lt8 A9; (have T9 := TI.add T8 N9 A9 lt8); (have L9 := LL.subN L8 N9 (fun q hq => by repeat (first | exact hq | refine List.mem_cons_of_mem _ ?_))); clear N8 A9)
        | walk_at "t9")
      all_goals
        refine unr_end9J (by k_asm) (by k_asm) T9.hI T9.io ?_
        intro n8 K8 J8
        have S8 := TI.stop T9 K8 J8
        first
          | exact ⟨S8.hlp, InvB.next0 true S8 sq bi2 (by omega) hp hp9 mB1⟩
          | exact ⟨S8.hlp, InvB.next0 false S8 sq bi2 (by omega) hp hp9 mB1⟩
    | one bi2 =>
      have hes1 : es.length ≤ 1 := by
        simp only [List.length_cons] at hes
        omega
      have hb3 := (bGet_new (e := ⟨true, false, Str.ofString ""⟩) sq).2.2
      try dsimp only
      repeat' (first
        | ((with_reducible show wpAny _ _ (call (Value.ref (nat_lit 520)) _) _ _ _); (with_reducible rename News _ _ _ _ => N8); (have T8 := TI.sub T9 N8 (fun q hq => by repeat (first | exact hq | refine List.mem_cons_of_mem _ ?_))); (try (have L8 := LL.subN L9 N8 (fun q hq => by repeat (first | exact hq | refine List.mem_cons_of_mem _ ?_)))); clear T9; (refine' draw_spec ?B ?F ?X ?N ?T ?hk ?x0 ?x1 ?x2 ?x3 ?hd ?hu ?_; kfm_turns; (case x0 => exact T8.tb.pen); (case x1 => omega); (case x2 => first | omega | ((simp only [List.size_toArray, List.length_map, List.length_cons, List.length_nil] at *); omega)); (case x3 => first | omega | ((simp only [List.size_toArray, List.length_map, List.length_cons, List.length_nil] at *); omega)); k_whole); intro dg9 du9 n9 h9 tk9 dz9 dm9 F9 N9 K9 P9; (have T9 := TI.draw T8 N8 K9 P9); (try (have L9 := LL.keepsL L8 (KeepsB.toL K9 T8.tb.pen N8))); clear N8 K9 P9; kqd_sub)
        | ((with_reducible show wpAny _ _ (call (Value.ref (nat_lit 542)) _) _ _ _); (with_reducible rename News _ _ _ _ => N8); (have T8 := TI.sub T9 N8 (fun q hq => by repeat (first | exact hq | refine List.mem_cons_of_mem _ ?_))); (try (have L8 := LL.subN L9 N8 (fun q hq => by repeat (first | exact hq | refine List.mem_cons_of_mem _ ?_)))); clear T9; (refine' lit_spec ?B ?F ?X ?N ?T ?hk ?x0 ?x1 ?x2 ?x3 ?hd ?hu ?_; kfm_turns; (case x0 => exact T8.tb.pen); (case x1 => omega); (case x2 => first | omega | decide); (case x3 => first | omega | decide); k_whole); intro x9 p9 lt9 tt9 n8 n9 h9 tk9 hp9 hx9 F9 N9 K9 P9 m9 L9 O9; (have T9 := TI.mv T8 K9 P9); clear N8 K9 P9; kqd_sub)
        | ((with_reducible show wpAny _ _ (call (Value.ref (nat_lit 532)) _) _ _ _); (with_reducible rename News _ _ _ _ => N8); (have T8 := TI.sub T9 N8 (fun q hq => by repeat (first | exact hq | refine List.mem_cons_of_mem _ ?_))); (try (have L8 := LL.subN L9 N8 (fun q hq => by repeat (first | exact hq | refine List.mem_cons_of_mem _ ?_)))); clear T9; (refine' words1_spec ?B ?F ?X ?N ?T ?hk ?x0 ?x1 ?x2 ?hd ?hu ?_; kfm_turns; (case x0 => first | assumption | decide +kernel); (case x1 => first | omega | decide +kernel); (case x2 => first | assumption | decide +kernel); k_whole); intro l9 n9 h9 tk9 F9 N9 S9 W9; (have T9 := TI.sub T8 N9 S9); (have L9 := LL.subN L8 N9 S9); clear N8 S9; kqd_sub)
        | ((with_reducible show wpAny _ _ (setItem (Value.ref td9) (Value.int 0 _) _) _ _ _); (with_reducible rename News _ _ _ _ => N8); (have T8 := TI.sub T9 N8 (fun q hq => by repeat (first | exact hq | refine List.mem_cons_of_mem _ ?_))); (try (have L8 := LL.subN L9 N8 (fun q hq => by repeat (first | exact hq | refine List.mem_cons_of_mem _ ?_)))); clear T9; (obtain ⟨nt9, mt9⟩ := T8.tb.told); (refine set0_mem (by k_asm) N8 mt9 ?_); intro h7 r7 F7 N7 sb7; (have T9 := TI.set0 (n := nt9) T8 N8 sb7 (OdIn.keepsL O9 (.sub (fun q hq => by repeat (first | exact hq | refine List.mem_cons_of_mem _ ?_))))); (have L9 := LL.one_rest T8.tb N8 sb7 L8); clear N8 mt9)
        | ((with_reducible show wpAny _ _ (setItem (Value.ref td9) (Value.int 1 _) _) _ _ _); (with_reducible rename News _ _ _ _ => N8); (have T8 := TI.sub T9 N8 (fun q hq => by repeat (first | exact hq | refine List.mem_cons_of_mem _ ?_))); (try (have L8 := LL.subN L9 N8 (fun q hq => by repeat (first | exact hq | refine List.mem_cons_of_mem _ ?_)))); clear T9; (obtain ⟨nt9, mt9⟩ := T8.tb.told); (refine set1_mem (by k_asm) N8 mt9 ?_); intro h7 r7 F7 N7 sb7; (have T9 := TI.set1 (n := nt9) T8 N8 sb7 (OdIn.keepsL O9 (.sub (fun q hq => by repeat (first | exact hq | refine List.mem_cons_of_mem _ ?_))))); (have L9 := LL.one_rest T8.tb N8 sb7 L8); clear N8 mt9)
        | ((with_reducible show wpAny _ _ (binaryOp Operator.Add (Value.ref _) (Value.ref _)) _ _ _); (with_reducible rename News _ _ _ _ => N8); (have T8 := TI.sub T9 N8 (fun q hq => by repeat (first | exact hq | refine List.mem_cons_of_mem _ ?_))); (try (have L8 := LL.subN L9 N8 (fun q hq => by repeat (first | exact hq | refine List.mem_cons_of_mem _ ?_)))); clear T9; k_dflt (refine' add_LL ?k1 N8 T8.tb.tok ?k2 ?k3 ?_; (case k1 => k_asm); (case k2 => first | exact LL.subN W9 N8 (fun q hq => by repeat (first | exact hq | refine List.mem_cons_of_mem _ ?_)) | exact L8 | exact ⟨[], _, List.mem_cons_self .., .nil⟩); (case k3 => (simp only [List.length_append, List.length_cons, List.length_nil]; omega)); k_whole); intro D9 o9 h9 F9 N9 lt8 A9; (have T9 := TI.add T8 N9 A9 lt8); (have L9 := LL.subN L8 N9 (fun q hq => by repeat (first | exact hq | refine List.mem_cons_of_mem _ ?_))); clear N8 A9)
        | walk_at "t9")
      all_goals
        refine unr_end9J (by k_asm) (by k_asm) T9.hI T9.io ?_
        intro n8 K8 J8
        have S8 := TI.stop T9 K8 J8
        first
          | exact ⟨S8.hlp, InvB.next1 true S8 sq bi2 (by omega) hp hp9 mB1⟩
          | exact ⟨S8.hlp, InvB.next1 false S8 sq bi2 (by omega) hp hp9 mB1⟩
  · intro m1 l h tk hx9_4 F1 N1
    refine (?_ : let G9 : Prop := _; G9); intro G9
    obtain ⟨om, oa, tkA, v0, v1, es, zs, M, eq9_0, bi, sq, S, hM, hp⟩ := hx9_4
    unfold G9; clear G9
    subst eq9_0
    try dsimp only
    repeat' (first
      | walk_at "t9")
    cases bi
    exact ret _ _ _ _ _ _ _ es _ _ _ (by assumption) (by assumption) S.kp.cons S.kq.cons (S.cons.pen.sub (fun _ h => h) (by have := seq_len sq; omega)) (List.mem_cons_self ..) S.cons.tok (List.mem_cons_of_mem _ S.told.choose_spec) (bOk_seq (by simpa using sq)) hp S.cons.o0 S.cons.o1

end
section
include B F X N Tp hk in
theorem token_spec {kd wo : Str} {tk1 tw1 : Tok} {q : Addr} {k : Int}
     (hdp : dp ≤ 580) (hun : un ≤ 4600)
    (ret : ∀ a d a1 a2 a3 a4 b1 b2 h' tk', Fr h₀ L h' m → News h₀ L h' ((a, instObj 504 d) :: (d, tkDict w.params ⟨a, d, q, kd, wo, k⟩ a1 a2 a3 a4 b1 b2) :: news) → (∀ p ∈ news, p.1 < d) → d < a → Q (.ref a) { s with heap := h', toks := tk' }) :
    wpAny (model pw w) (top9 none dp un gd cn cs L a ccd cl outer) (call (.ref (nat_lit 504)) [.str kd tk1, .str wo tw1, .ref q]) Q E s := by
  tb_start
  k_here
  k_dflt (refine' call_cls ?k1 ?k2 ?k3 ?k4 ?k5 ?k6 ?_)
  (case k1 => k_asm)
  (case k2 => k_asm)
  (case k3 => k_asm)
  (case k4 => k_is)
  (case k5 => k_is)
  (case k6 => k_is)
  k_whole
  intro x' d' h' F' N' l1 l2
  k_dflt (refine' code_def ?k1 ?k2 ?k3 ?k4 ?k5 ?kA ?kF ?kK ?k6 ?k7 ?k8 ?k9 ?kB ?_ ?c2 ?c3 ?c4 ?c5; (case kA => exact rfl); (case kF => exact rfl); (case kK => assumption); (case k1 => k_asm); (case k2 => k_asm); (case k3 => k_asm); (case k4 => k_asm); (case k5 => k_asm); (case k6 => k_is); (case k7 => k_is); (case k8 => ktr_room); (case k9 => first | exact BindsTo.of_eq rfl | exact binds_K (by k_in) rfl (by k_is) rfl rfl rfl); (case c5 => decide); (case kB => exact locs rfl); (case c2 => exact rfl); (case c3 => exact rfl); (case c4 => exact rfl); k_whole; intro g' L' h' FG' F' N' B' X' T'; (try dsimp only); (try k_fold))
  with_reducible rename Fr _ _ _ (fun y => List.lookup y _) => F2
  have ne9 : x' ≠ d' := fun e => Nat.lt_irrefl _ (e ▸ l2)
  have ap9 : ∀ p ∈ news, p.1 ≠ d' := fun p hp e => Nat.lt_irrefl _ (e ▸ l1 p hp)
  repeat' (first
    | ((with_reducible show wpAny _ _ (setAttr (Value.ref _) _ _) _ _ _); k_dflt (refine' set_dict ?k1 ?k2 ?k3 ?k4 ?k5 ?k6 ?k7 ?k8 ?k9 ?k10 ?k11 ?k12 ?k13 ?_; (case k1 => k_asm); (case k2 => k_asm); (case k3 => k_asm); (case k4 => k_inst); (case k5 => exact rfl); (case k6 => k_is); (case k7 => k_is); (case k8 => k_is); (case k9 => k_is); (case k10 => k_get); (case k11 => k_put); (case k12 => first | exact Upd.tail ne9 (Upd.head ap9) | exact Upd.tail (fun e => by (have z := (by assumption : _ < _ ∧ _ < _ ∧ AllLt _ news); exact Nat.lt_irrefl _ (e ▸ z.2.1))) (Upd.tail ne9 (Upd.head ap9))); (case k13 => exact Nat.le_of_ble_eq_true rfl); k_whole; intro h' F' N'))
    | walk_at "t9")
  exact ret _ _ _ _ _ _ _ _ _ _ (by assumption) (by assumption) (by assumption) (by assumption)
include B F X N Tp hk in
theorem reader_spec {T : Addr} {toks : List Tk} {nT : Nat}
    (hT : (T, listOf (toks.map fun t => Value.ref t.a).toArray nT) ∈ news) (hq : ∀ t ∈ toks, TkIn w.params news t) (hw : toks.length ≤ 60) (hdp : dp ≤ 580) (hun : un ≤ 4600)
    (ret : ∀ r dx nd news' h' tk', Fr h₀ L h' m → News h₀ L h' news' → (∀ p ∈ news, p ∈ news') → RdW w.params news' r dx T nd toks 0 → Q (.ref r) { s with heap := h', toks := tk' }) :
    wpAny (model pw w) (top9 none dp un gd cn cs L a ccd cl outer) (call (.ref (nat_lit 474)) [.ref T]) Q E s := by
  tb_start
  k_here
  k_dflt (refine' call_cls ?k1 ?k2 ?k3 ?k4 ?k5 ?k6 ?_)
  (case k1 => k_asm)
  (case k2 => k_asm)
  (case k3 => k_asm)
  (case k4 => k_is)
  (case k5 => k_is)
  (case k6 => k_is)
  k_whole
  intro x' d' h' F' N' l1 l2
  k_dflt (refine' code_def ?k1 ?k2 ?k3 ?k4 ?k5 ?kA ?kF ?kK ?k6 ?k7 ?k8 ?k9 ?kB ?_ ?c2 ?c3 ?c4 ?c5; (case kA => exact rfl); (case kF => exact rfl); (case kK => assumption); (case k1 => k_asm); (case k2 => k_asm); (case k3 => k_asm); (case k4 => k_asm); (case k5 => k_asm); (case k6 => k_is); (case k7 => k_is); (case k8 => ktr_room); (case k9 => first | exact BindsTo.of_eq rfl | exact binds_K (by k_in) rfl (by k_is) rfl rfl rfl); (case c5 => decide); (case kB => exact locs rfl); (case c2 => exact rfl); (case c3 => exact rfl); (case c4 => exact rfl); k_whole; intro g' L' h' FG' F' N' B' X' T'; (try dsimp only); (try k_fold))
  with_reducible rename Fr _ _ _ (fun y => List.lookup y _) => F2
  have ne9 : x' ≠ d' := fun e => Nat.lt_irrefl _ (e ▸ l2)
  have ap9 : ∀ p ∈ news, p.1 ≠ d' := fun p hp e => Nat.lt_irrefl _ (e ▸ l1 p hp)
  repeat' (first
    | ((with_reducible show wpAny _ _ (setAttr (Value.ref _) _ _) _ _ _); k_dflt (refine' set_dict ?k1 ?k2 ?k3 ?k4 ?k5 ?k6 ?k7 ?k8 ?k9 ?k10 ?k11 ?k12 ?k13 ?_; (case k1 => k_asm); (case k2 => k_asm); (case k3 => k_asm); (case k4 => k_inst); (case k5 => exact rfl); (case k6 => k_is); (case k7 => k_is); (case k8 => k_is); (case k9 => k_is); (case k10 => k_get); (case k11 => k_put); (case k12 => first | exact Upd.tail ne9 (Upd.head ap9) | exact Upd.tail (fun e => by (have z := (by assumption : _ < _ ∧ _ < _ ∧ AllLt _ news); exact Nat.lt_irrefl _ (e ▸ z.2.1))) (Upd.tail ne9 (Upd.head ap9))); (case k13 => exact Nat.le_of_ble_eq_true rfl); k_whole; intro h' F' N'))
    | walk_at "t9")
  exact ret _ _ _ _ _ _ (by assumption) (by assumption) (fun q hq => by repeat (first | exact hq | refine List.mem_cons_of_mem _ ?_)) ⟨by k_mem, ⟨_, _, _, _, List.mem_cons_of_mem _ (List.mem_cons_of_mem _ (List.mem_cons_self ..))⟩, ⟨_, List.mem_cons_of_mem _ (List.mem_cons_of_mem _ (List.mem_cons_of_mem _ hT))⟩, fun t ht => (hq t ht).mono fun q hq => List.mem_cons_of_mem _ (List.mem_cons_of_mem _ (List.mem_cons_of_mem _ hq)), Int.le_refl _, by omega, hw⟩

end
section
section
variable {prog : Program} {w : World} {A : Around} {E : Value → Shared → Prop} {s : Shared} {h₀ : Heap} {L : Addr} {m : Str → Option Value} {env : Env}
open PyProof.Rows.LCg
/-- the four that a turn must leave as they are -/
abbrev Off4 (e it C D : Addr) (news : List (Addr × Obj)) : Prop := ∀ p ∈ news, p.1 ≠ e ∧ p.1 ≠ it ∧ p.1 ≠ C ∧ p.1 ≠ D
def EndE (h₀ : Heap) (L : Addr) (m : Str → Option Value) (s : Shared) (e it C D : Addr) (oe oit oC oD : Obj) (rest : Value → List (Addr × Obj) → Prop) (y : Value) (s₂ : Shared) : Prop :=
  ∃ h' tk' news', s₂ = { s with heap := h', toks := tk' } ∧ Fr h₀ L h' m ∧ News h₀ L h' ((e, oe) :: (it, oit) :: (C, oC) :: (D, oD) :: news') ∧ Off4 e it C D news' ∧ rest y news'
def TurnE (prog : Program) (w : World) (A : Around) (h₀ : Heap) (L : Addr) (m : Str → Option Value) (env : Env) (elt : Expr) (xa xb xc : Str) (scope : Scope) (cl : List (Str × Addr)) (s : Shared) (items : Array Value) (Inv : Nat → List Value → List (Addr × Obj) → Prop) : Prop :=
  ∀ i x ys news, items[i]? = some x → Inv i ys news → ∃ t v₁ v₂ nt, x = .ref t ∧ (t, tupOf [v₁, v₂] nt) ∈ news ∧
    ∀ u e oe it oit C oC D m₂ h tk (E' : Value → Shared → Prop), NsObj oC m₂ → m₂ xa = some (.int (i : Int) u) → m₂ xb = some v₁ → m₂ xc = some v₂ → Fr h₀ L h m → News h₀ L h ((e, oe) :: (it, oit) :: (C, oC) :: (D, lst ys) :: news) → Off4 e it C D news →
      wpAny (model prog w) A (eval elt (compEnvC scope cl C env)) (EndE h₀ L m { s with heap := h, toks := tk } e it C D oe oit oC (lst ys) (fun y news' => Inv (i + 1) (ys ++ [y]) news')) E' { s with heap := h, toks := tk }
def FinW (h₀ : Heap) (L : Addr) (m : Str → Option Value) (s : Shared) (Q : Value → Shared → Prop) (ys : List Value) (news : List (Addr × Obj)) : Prop :=
  ∀ D h tk, Fr h₀ L h m → News h₀ L h ((D, lst ys) :: news) → Q (.ref D) { s with heap := h, toks := tk }
def SrcE (prog : Program) (w : World) (A : Around) (h₀ : Heap) (L : Addr) (m : Str → Option Value) (env : Env) (elt : Expr) (xa xb xc : Str) (scope : Scope) (cl : List (Str × Addr)) (Q : Value → Shared → Prop) (xv : Value) (s₁ : Shared) : Prop :=
  ∃ e it l items news Inv, xv = .ref e ∧ A.handled = none ∧ IsEnum s₁.heap e it 0 .none ∧ s₁.heap.IsListIter it l 0 ∧ e ≠ it ∧ e ≠ L ∧ it ≠ L ∧ h₀.get? e = none ∧ h₀.get? it = none ∧ Fr h₀ L s₁.heap m ∧ News h₀ L s₁.heap news ∧ (∀ p ∈ news, p.1 ≠ e ∧ p.1 ≠ it) ∧
    items.size ≤ sizeLine ∧ (∀ i ys news, Inv i ys news → ∃ k, (l, listOf items k) ∈ news) ∧ Inv 0 [] news ∧ TurnE prog w A h₀ L m env elt xa xb xc scope cl s₁ items Inv ∧ (∀ ys news, Inv items.size ys news → FinW h₀ L m s₁ Q ys news)
theorem SrcE.enum {elt : Expr} {xa xb xc : Str} {scope : Scope} {cl : List (Str × Addr)} {Q : Value → Shared → Prop} {l : Addr} {items : Array Value} {k : Nat} {news : List (Addr × Obj)} {Inv : Nat → List Value → List (Addr × Obj) → Prop}
    (hh : A.handled = none) (F : Fr h₀ L s.heap m) (N : News h₀ L s.heap news) (hm : (l, listOf items k) ∈ news) (hsz : items.size ≤ sizeLine) (hl : ∀ i ys news, Inv i ys news → ∃ k, (l, listOf items k) ∈ news) (h0 : Inv 0 [] news)
    (ht : ∀ g, TurnE prog w A h₀ L m env elt xa xb xc scope cl { s with heap := g } items Inv) (hf : ∀ g ys news, Inv items.size ys news → FinW h₀ L m { s with heap := g } Q ys news) :
    wpAny (model prog w) A (call (.type "enumerate") [.ref l]) (SrcE prog w A h₀ L m env elt xa xb xc scope cl Q) E s := by
  refine call_enumerate_list (News.isList N hm) fun h' he hit hz hk => ?_
  have fresh₀ : ∀ a, s.heap.objs.size ≤ a → h₀.get? a = none := fun a ha => by
    cases q : h₀.get? a with
    | none => rfl
    | some o' => exact absurd (Heap.lt_size (F.keep a o' q)) (Nat.not_lt.mpr ha)
  have hL : L < s.heap.objs.size := F.ns.lt
  refine ⟨_, _, l, items, news, Inv, rfl, hh, he, hit, Nat.succ_ne_self _, ?_, Nat.ne_of_gt hL, fresh₀ _ (Nat.le_succ _), fresh₀ _ (Nat.le_refl _), F.keeps hk, N.grown hk, fun p hp => ?_, hsz, hl, h0, ht _, hf _⟩
  · exact Nat.ne_of_gt (Nat.lt_succ_of_lt hL)
  · have z := Heap.lt_size (N p hp).1
    exact ⟨Nat.ne_of_lt (Nat.lt_succ_of_lt z), Nat.ne_of_lt z⟩
theorem ListComp_E {elt iter : Expr} {xa xb xc : Str} {pa pb pc tp1 tp2 : Pos} {k1 k2} {scope : Scope} {cl : List (Str × Addr)} {pos : Pos} {Q : Value → Shared → Prop} (_F₀ : Fr h₀ L s.heap m)
    (hclos : closureFor scope env = pure cl) (hcell : ∀ y ∈ scope.names, y.2 ≠ .cell) (hkind : scope.kind = .function)
    (hnames : ∀ y ∈ scope.names, y.2 = .local → scope.names.lookup y.1 = some .local) (hxa : scope.names.lookup xa = some .local) (hxb : scope.names.lookup xb = some .local) (hxc : scope.names.lookup xc = some .local) (hab : xa ≠ xb) (hac : xa ≠ xc) (hbc : xb ≠ xc)
    (h : wpAny (model prog w) A (eval iter env) (SrcE prog w A h₀ L m env elt xa xb xc scope cl Q) E s)
    (hs : ∀ x, foldedSetIterable iter env x = pure x := by intro _; rfl) :
    wpAny (model prog w) A (eval (.ListComp elt [⟨.Tuple [.Name xa pa, .Tuple [.Name xb pb, .Name xc pc] k2 tp2] k1 tp1, iter, [], 0⟩] scope pos) env) Q E s := by
  rw [eval_ListComp]
  refine wpAny_comprehension_free (use := none) rfl hs hclos hkind hnames (wpAny_mono h (fun xv s₂ h₁ => ?_) fun _ _ e => e)
  refine (?_ : let G9 : Prop := _; G9); intro G9
  obtain ⟨e, it, l, items, news, Inv, eq9_0, hh, he, hit, hei, heL, hiL, he₀, hi₀, F, N, off, hsz, hl, hinv, R, fin⟩ := h₁
  unfold G9; clear G9
  subst eq9_0
  refine wpAny_pyIter_enum he ?_
  refine wpAny_newObj_type (wpAny_newFunctionEnv hcell (by intro y hy; simp at hy) (fun h₁ hns₁ hsb₁ => ?_) hkind)
  dsimp only at hns₁ hsb₁ ⊢
  generalize hH2 : s₂.heap.push { cls := .type "list", dict := none, data := .seq ([] : List Value).toArray } = H2 at hns₁ hsb₁ ⊢
  generalize hDD : s₂.heap.objs.size = D at *
  have hC : H2.objs.size = D + 1 := by rw [← hH2, Heap.size_push, hDD]
  generalize hCC : H2.objs.size = C at *
  have hDC : D ≠ C := by rw [hC]; exact Nat.ne_of_lt (Nat.lt_succ_self _)
  have lt : ∀ {b o}, s₂.heap.get? b = some o → b < D := fun e => hDD ▸ Heap.lt_size e
  have below : ∀ b, b < D → b ≠ C ∧ b ≠ D := fun b hb => ⟨by rw [hC]; exact Nat.ne_of_lt (Nat.lt_succ_of_lt hb), Nat.ne_of_lt hb⟩
  have old : ∀ b o, s₂.heap.get? b = some o → h₁.get? b = some o := fun b o q => hsb₁.extBut b o (below b (lt q)).1 (Heap.get?_push_of_some _ (by rw [← hH2]; exact Heap.get?_push_of_some _ q))
  have hacc : h₁.get? D = some (lst []) := hsb₁.extBut _ _ hDC (Heap.get?_push_of_some _ (by rw [← hH2, ← hDD]; exact Heap.get?_push_size _ rfl))
  have fresh₀ : ∀ a, D ≤ a → h₀.get? a = none := fun a ha => by
    cases q : h₀.get? a with
    | none => rfl
    | some o' => exact absurd (lt (F.keep a o' q)) (Nat.not_lt.mpr ha)
  have hD₀ : h₀.get? D = none := fresh₀ _ (Nat.le_refl _)
  have hC₀ : h₀.get? C = none := fresh₀ _ (by rw [hC]; exact Nat.le_succ _)
  have hLlt : L < D := hDD ▸ F.ns.lt
  have hDL : D ≠ L := Ne.symm (below L hLlt).2
  have hCL : C ≠ L := Ne.symm (below L hLlt).1
  have heD := below e (lt he)
  have hiD := below it (by obtain ⟨_, q, _⟩ := hit; exact lt q)
  have off₀ : Off4 e it C D news := fun p hp => ⟨(off p hp).1, (off p hp).2, below _ (lt (N p hp).1)⟩
  have mem_l : ∀ {h news}, News h₀ L h news → (∃ k, (l, listOf items k) ∈ news) → h.IsList l items := fun N ⟨k, q⟩ => News.isList N q
  have tree : codeAny (model prog w) A (.compLoop (.ListComp elt [⟨.Tuple [.Name xa pa, .Tuple [.Name xb pb, .Name xc pc] k2 tp2] k1 tp1, iter, [], 0⟩] scope pos) 0 (.ref e) (.ref D) (compEnvC scope cl C env))
      (compPost (model prog w) A E none Q (.ref D) C) { s₂ with heap := h₁, toks := s₂.toks + ([] : List (Str × Value)).length } := by
    refine LCp.codeAny_compLoop_pair
      (fun k s' => ∃ h' tk i ys m' news', s' = { s₂ with heap := h', toks := tk } ∧ i ≤ items.size ∧ k = items.size + 1 - i ∧ ys.length = i ∧ (∃ old, IsEnum h' e it (i : Int) old) ∧ h'.IsListIter it l i ∧ Fr h₀ L h' m ∧ h'.Ns C m' ∧ News h₀ L h' ((D, lst ys) :: news') ∧
        Off4 e it C D news' ∧ Inv i ys news') ?_ (items.size + 1)
      ⟨h₁, _, 0, [], _, news, rfl, Nat.zero_le _, rfl, rfl, ⟨_, old _ _ he⟩, hit.at fun o q => old _ _ q, F.keeps old, hns₁, fun p hp => ?_, off₀, hinv⟩
    · intro k s' hx9_2
      refine (?_ : let G9 : Prop := _; G9); intro G9
      obtain ⟨h', tk, i, ys, m', news', eq9_0, hi, eq9_1, hyl, ⟨od, he'⟩, hit', F', hn', N', off', inv'⟩ := hx9_2
      unfold G9; clear G9
      subst eq9_0 eq9_1
      obtain ⟨kk, hml⟩ := hl _ _ _ inv'
      have offl := off' _ hml
      have hL' : h'.IsList l items := News.isList N' (List.mem_cons_of_mem _ hml)
      cases hv : items[i]? with
      | none =>
        have hsz' : i = items.size := Nat.le_antisymm hi (by simpa using hv)
        refine wpAny_pyNext_enum_end hh he' hit' hL' hv fun h₂ hk₂ => ?_
        have F₂ : Fr h₀ L h₂ m := fr_but F' (fun b o hb q => hk₂ b o (by simpa using hb) q) (Ne.symm hiL) hi₀
        have hn₂ : h₂.Ns C m' := hn'.at fun o q => hk₂ _ o (Ne.symm hiD.1) q
        refine ⟨m', hn₂, fun h'' hs'' => fin ys news' (hsz' ▸ inv') D h'' tk (F₂.change hs'' hCL hC₀) (fun p hp => ?_)⟩
        have z : h₂.get? p.1 = some p.2 := hk₂ _ _ (by
          rcases List.mem_cons.mp hp with rfl | hp
          · exact Ne.symm hiD.2
          · exact (off' p hp).2.1) (N' p hp).1
        refine ⟨hs''.extBut _ _ ?_ z, (N' p hp).2⟩
        rcases List.mem_cons.mp hp with rfl | hp
        · exact hDC
        · exact (off' p hp).2.2.1
      | some x =>
        have hlt : i < items.size := (Array.getElem?_eq_some_iff.mp hv).1
        refine (?_ : let G9 : Prop := _; G9); intro G9
        obtain ⟨t, v₁, v₂, nt, eq9_0, hmt, R'⟩ := R i x ys news' hv inv'
        unfold G9; clear G9
        subst eq9_0
        have lt' : ∀ {b o}, h'.get? b = some o → b < h'.objs.size := fun q => Heap.lt_size q
        refine wpAny_pyNext_enum_item he' hit' hL' hv hei fun h₂ heo hit₂ ht₂ hz₂ hk₂ => ?_
        dsimp only at heo ht₂ hz₂ hk₂ ⊢
        refine wpAny_letOwnedTupleGo_enum heo fun h₃ he₃ hs₃ => ?_
        replace hs₃ : Heap.SameBut e h₂ h₃ := hs₃
        have ht₃ : IsTup h₃ h'.objs.size #[.int i tk, .ref t] := ⟨_, (hs₃.2 _ (Nat.ne_of_gt (lt' he'))).trans ht₂, rfl, _, rfl⟩
        refine assign_Tuple_tuple hh ht₃ rfl rfl fun h₄ hx₄ => ?_
        replace hx₄ : Heap.ExtBut h₃.objs.size h₃ h₄ := hx₄
        have to₄ : ∀ b o, h₃.get? b = some o → h₄.get? b = some o := fun b o q => hx₄ b o (Nat.ne_of_lt (Heap.lt_size q)) q
        have up₄ : ∀ b o, b ≠ e → b ≠ it → h'.get? b = some o → h₄.get? b = some o := fun b o hbe hbi q => to₄ b o ((hs₃.2 b hbe).trans (hk₂ b o hbe hbi q))
        have he₄ := to₄ e _ he₃
        have hit₄ : h₄.IsListIter it l (i + 1) := by
          refine (?_ : let G9 : Prop := _; G9); intro G9
          obtain ⟨o, q, r⟩ := hit'
          unfold G9; clear G9
          refine (?_ : let G9 : Prop := _; G9); intro G9
          obtain ⟨o', q', r'⟩ := hit₂
          unfold G9; clear G9
          exact ⟨o', to₄ it _ ((hs₃.2 it (Ne.symm hei)).trans q'), r'⟩
        refine assignInOrder_cons (wpAny_assign_Name (wpAny_storeName_local (lookup_relabel_local hxa) (hn'.at fun o q => up₄ C o (Ne.symm heD.1) (Ne.symm hiD.1) q) (fun h₅ hn₅ hs₅ => ?_) (by simp [compEnvC, relabel, hkind])))
        have offt := off' _ hmt
        have htt : IsTup h₅ t #[v₁, v₂] := ⟨_, hs₅.extBut _ _ offt.2.2.1 (up₄ _ _ offt.1 offt.2.1 (N' _ (List.mem_cons_of_mem _ hmt)).1), rfl, nt, rfl⟩
        refine assignInOrder_cons (assign_Tuple_tuple (elts := [.Name xb pb, .Name xc pc]) (x1 := k2) (pos := tp2) hh htt rfl rfl fun h₆ hx₆ => ?_)
        replace hx₆ : Heap.ExtBut h₅.objs.size h₅ h₆ := hx₆
        have to₆ : ∀ b o, h₅.get? b = some o → h₆.get? b = some o := fun b o q => hx₆ b o (Nat.ne_of_lt (Heap.lt_size q)) q
        refine assignInOrder_cons (wpAny_assign_Name (wpAny_storeName_local (lookup_relabel_local hxb) (hn₅.at fun o q => to₆ C o q) (fun h₇ hn₇ hs₇ => ?_) (by simp [compEnvC, relabel, hkind])))
        refine assignInOrder_cons (wpAny_assign_Name (wpAny_storeName_local (lookup_relabel_local hxc) hn₇ (fun h₈ hn₈ hs₈ => ?_) (by simp [compEnvC, relabel, hkind])))
        refine assignInOrder_nil (assignInOrder_nil ?_)
        have up₈ : ∀ b o, b ≠ C → h₄.get? b = some o → h₈.get? b = some o := fun b o hb q => hs₈.extBut b o hb (hs₇.extBut b o hb (to₆ b o (hs₅.extBut b o hb q)))
        have he₈ := up₈ e _ heD.1 he₄
        have hit₈ := hit₄.at fun o q => up₈ it o hiD.1 q
        refine (?_ : let G9 : Prop := _; G9); intro G9
        obtain ⟨oit, hoit, hcit⟩ := id hit₈
        unfold G9; clear G9
        refine (?_ : let G9 : Prop := _; G9); intro G9
        obtain ⟨oC, heC, hoC⟩ := ns_obj hn₈
        unfold G9; clear G9
        have F₈ : Fr h₀ L h₈ m := ⟨F'.ns.at fun o q => up₈ L o (Ne.symm hCL) (up₄ L o (Ne.symm heL) (Ne.symm hiL) q), fun b o q => up₈ b o (fun z => by rw [z, hC₀] at q; cases q) (up₄ b o (fun z => by rw [z, he₀] at q; cases q) (fun z => by rw [z, hi₀] at q; cases q) (F'.keep b o q)), F'.above⟩
        have N₈ : News h₀ L h₈ ((e, _) :: (it, oit) :: (C, oC) :: (D, lst ys) :: news') := fun p hp => by
          rcases List.mem_cons.mp hp with rfl | hp
          · exact ⟨he₈, heL, he₀⟩
          rcases List.mem_cons.mp hp with rfl | hp
          · exact ⟨hoit, hiL, hi₀⟩
          rcases List.mem_cons.mp hp with rfl | hp
          · exact ⟨heC, hCL, hC₀⟩
          have z := N' p hp
          have ne : p.1 ≠ e ∧ p.1 ≠ it ∧ p.1 ≠ C := by
            rcases List.mem_cons.mp hp with rfl | hp
            · exact ⟨Ne.symm heD.2, Ne.symm hiD.2, hDC⟩
            · exact ⟨(off' p hp).1, (off' p hp).2.1, (off' p hp).2.2.1⟩
          exact ⟨up₈ _ _ ne.2.2 (up₄ _ _ ne.1 ne.2.1 z.1), z.2⟩
        refine wpAny_mono (R' tk e _ it oit C oC D _ h₈ _ _ hoC (by simp [hab, hac]) (by simp [hbc]) (by simp) F₈ N₈ off') (fun y s₄ h₄ => ?_) fun _ _ e => e
        refine (?_ : let G9 : Prop := _; G9); intro G9
        obtain ⟨h₉, tk₉, news₉, eq9_0, F₉, N₉, off₉, inv₉⟩ := h₄
        unfold G9; clear G9
        subst eq9_0
        have ze := (N₉ _ (List.mem_cons_self ..)).1
        have zit := (N₉ _ (List.mem_cons_of_mem _ (List.mem_cons_self ..))).1
        have zC := (N₉ _ (List.mem_cons_of_mem _ (List.mem_cons_of_mem _ (List.mem_cons_self ..)))).1
        have zD := (N₉ _ (List.mem_cons_of_mem _ (List.mem_cons_of_mem _ (List.mem_cons_of_mem _ (List.mem_cons_self ..))))).1
        have N₉' : News h₀ L h₉ news₉ := fun p hp => N₉ p (List.mem_cons_of_mem _ (List.mem_cons_of_mem _ (List.mem_cons_of_mem _ (List.mem_cons_of_mem _ hp))))
        refine append_at (hsz := by show ys.toArray.size ≤ sizeLine; rw [List.size_toArray, hyl]; exact Nat.le_trans hi hsz) zD fun h₅ hs₅ hD₅ => ?_
        refine ⟨items.size + 1 - (i + 1), by omega, h₅, tk₉, i + 1, ys ++ [y], _, news₉, rfl, hlt, rfl, by rw [List.length_append, List.length_singleton, hyl], ⟨_, hs₅.extBut _ _ heD.2 (by simpa using ze)⟩, ?_, F₉.change hs₅ hDL hD₀, (hoC.ns zC).sameBut hs₅ (Ne.symm hDC), fun p hp => ?_, off₉, inv₉⟩
        · exact ⟨oit, hs₅.extBut _ _ hiD.2 zit, hcit⟩
        · rcases List.mem_cons.mp hp with rfl | hp
          · exact ⟨hD₅.trans (congrArg some (lst_snoc ys y)), hDL, hD₀⟩
          · exact ⟨hs₅.extBut _ _ (off₉ p hp).2.2.2 (N₉' p hp).1, (N₉' p hp).2⟩
    · rcases List.mem_cons.mp hp with rfl | hp
      · exact ⟨hacc, hDL, hD₀⟩
      · exact ⟨old _ _ (N p hp).1, (N p hp).2⟩
  exact codeAny_compStart_list tree (wpAny_pyIter_enum (old _ _ he) tree)
end

end
section
theorem LP.get {a : List (Addr × Obj)} {vs : List Value} {ws : List (Str × Str)} (h : LP a vs ws) : ∀ {i : Nat} {x : Value}, vs.toArray[i]? = some x → ∃ p kd wo u1 u2 n, x = .ref p ∧ (p, tupOf [.str kd u1, .str wo u2] n) ∈ a ∧ ws[i]? = some (kd, wo) := by
  induction h with
  | nil => intro i x e; simp at e
  | cons m _ ih =>
    intro i x e
    cases i with
    | zero =>
      obtain rfl : _ = x := by simpa using e
      exact ⟨_, _, _, _, _, _, rfl, m, rfl⟩
    | succ i => exact ih (i := i) (by simpa using e)
/-- the tokens made so far -/
def InvR (P : Params) (n0 : List (Addr × Obj)) (ws : List (Str × Str)) (i : Nat) (ys : List Value) (n : List (Addr × Obj)) : Prop :=
  ∃ toks : List Tk, ys = toks.map (fun t => Value.ref t.a) ∧ toks.length = i ∧ toks.map (fun t => (t.kind, t.worth)) = ws.take i ∧ (∀ t ∈ toks, TkIn P n t) ∧ (∀ (j : Nat) t, toks[j]? = some t → t.n = (j : Int) + 1) ∧ ∀ q ∈ n0, q ∈ n
theorem InvR.step {P : Params} {n0 n : List (Addr × Obj)} {ws : List (Str × Str)} {i : Nat} {ys : List Value} {a d q : Addr} {kd wo : Str} {u1 u2 : Tok} {nq : Nat} {a1 a2 a3 a4 b1 b2 : Tok} (h : InvR P n0 ws i ys n) (he : ws[i]? = some (kd, wo)) (hw : wo.length ≤ 60) :
    InvR P n0 ws (i + 1) (ys ++ [.ref a]) ((a, instObj 504 d) :: (d, tkDict P ⟨a, d, q, kd, wo, (i : Int) + 1⟩ a1 a2 a3 a4 b1 b2) :: (q, tupOf [.int ((i : Int) + 1) u1, .int 12 u2] nq) :: n) := by
  refine (?_ : let G9 : Prop := _; G9); intro G9
  obtain ⟨toks, eq9_0, hl, hm, ht, hn, hs⟩ := h
  unfold G9; clear G9
  subst eq9_0
  have up : ∀ p ∈ n, p ∈ (a, instObj 504 d) :: (d, tkDict P ⟨a, d, q, kd, wo, (i : Int) + 1⟩ a1 a2 a3 a4 b1 b2) :: (q, tupOf [.int ((i : Int) + 1) u1, .int 12 u2] nq) :: n := fun p hp => List.mem_cons_of_mem _ (List.mem_cons_of_mem _ (List.mem_cons_of_mem _ hp))
  refine ⟨toks ++ [⟨a, d, q, kd, wo, (i : Int) + 1⟩], by simp, by simp [hl], ?_, fun t h => ?_, fun j t h => ?_, fun p hp => up p (hs p hp)⟩
  · rw [List.map_append, hm, List.take_succ, he]
    rfl
  · rcases List.mem_append.mp h with h | h
    · exact (ht t h).mono up
    · rw [List.mem_singleton.mp h]
      exact ⟨List.mem_cons_self .., ⟨_, _, _, _, _, _, List.mem_cons_of_mem _ (List.mem_cons_self ..)⟩, ⟨_, _, _, List.mem_cons_of_mem _ (List.mem_cons_of_mem _ (List.mem_cons_self ..))⟩, hw⟩
  · rw [List.getElem?_append] at h
    split at h
    · exact hn j t h
    · rename_i c
      have e : j - toks.length = 0 := by
        refine Nat.eq_zero_of_not_pos fun c2 => ?_
        rw [List.getElem?_eq_none (by simp; omega)] at h
        cases h
      rw [e] at h
      have e2 : j = i := by omega
      obtain rfl := Option.some.inj h
      rw [e2]
theorem mem_perm7 {e it C D a d q : Addr × Obj} {n : List (Addr × Obj)} : ∀ p ∈ e :: it :: C :: D :: a :: d :: q :: n, p ∈ a :: d :: q :: e :: it :: C :: D :: n := by
  intro p hp
  simp only [List.mem_cons] at hp ⊢
  rcases hp with h | h | h | h | h | h | h | h <;> simp [h]
theorem EndE.token {h₀ : Heap} {L : Addr} {m : Str → Option Value} {s : Shared} {e it C D a d q : Addr} {oe oit oC oD oa od oq : Obj} {rest : Value → List (Addr × Obj) → Prop} {y : Value} {n : List (Addr × Obj)} {h' : Heap} {tk' : Nat}
    (F : Fr h₀ L h' m) (N : News h₀ L h' ((a, oa) :: (d, od) :: (q, oq) :: (e, oe) :: (it, oit) :: (C, oC) :: (D, oD) :: n)) (off : Off4 e it C D n)
    (lq : ∀ p ∈ (e, oe) :: (it, oit) :: (C, oC) :: (D, oD) :: n, p.1 < q) (ld : ∀ p ∈ (q, oq) :: (e, oe) :: (it, oit) :: (C, oC) :: (D, oD) :: n, p.1 < d) (la : d < a) (r : rest y ((a, oa) :: (d, od) :: (q, oq) :: n)) :
    EndE h₀ L m s e it C D oe oit oC oD rest y { s with heap := h', toks := tk' } := by
  refine ⟨h', tk', _, rfl, F, fun p hp => N p (mem_perm7 p hp), fun p hp => ?_, r⟩
  have m1 : (e, oe) ∈ (e, oe) :: (it, oit) :: (C, oC) :: (D, oD) :: n := List.mem_cons_self ..
  have m2 : (it, oit) ∈ (e, oe) :: (it, oit) :: (C, oC) :: (D, oD) :: n := List.mem_cons_of_mem _ (List.mem_cons_self ..)
  have m3 : (C, oC) ∈ (e, oe) :: (it, oit) :: (C, oC) :: (D, oD) :: n := List.mem_cons_of_mem _ (List.mem_cons_of_mem _ (List.mem_cons_self ..))
  have m4 : (D, oD) ∈ (e, oe) :: (it, oit) :: (C, oC) :: (D, oD) :: n := List.mem_cons_of_mem _ (List.mem_cons_of_mem _ (List.mem_cons_of_mem _ (List.mem_cons_self ..)))
  have gd : ∀ {x : Addr × Obj}, x ∈ (e, oe) :: (it, oit) :: (C, oC) :: (D, oD) :: n → x.1 < d := fun h => ld _ (List.mem_cons_of_mem _ h)
  rcases List.mem_cons.mp hp with rfl | hp
  · exact ⟨Nat.ne_of_gt (Nat.lt_trans (gd m1) la), Nat.ne_of_gt (Nat.lt_trans (gd m2) la), Nat.ne_of_gt (Nat.lt_trans (gd m3) la), Nat.ne_of_gt (Nat.lt_trans (gd m4) la)⟩
  rcases List.mem_cons.mp hp with rfl | hp
  · exact ⟨Nat.ne_of_gt (gd m1), Nat.ne_of_gt (gd m2), Nat.ne_of_gt (gd m3), Nat.ne_of_gt (gd m4)⟩
  rcases List.mem_cons.mp hp with rfl | hp
  · exact ⟨Nat.ne_of_gt (lq _ m1), Nat.ne_of_gt (lq _ m2), Nat.ne_of_gt (lq _ m3), Nat.ne_of_gt (lq _ m4)⟩
  · exact off p hp
theorem InvR.zero {P : Params} {n0 : List (Addr × Obj)} {ws : List (Str × Str)} : InvR P n0 ws 0 [] n0 := by
  refine ⟨[], rfl, rfl, rfl, ?_, ?_, fun _ h => h⟩
  · intro t h
    cases h
  · intro j t h
    simp at h
include B F X N Tp hk in
theorem lreader_spec {tl : Addr} {ws : List (Str × Str)}
    (W : LL news tl ws) (hlen : ws.length ≤ 60) (hw : ∀ p ∈ ws, p.2.length ≤ 60) (hdp : dp ≤ 570) (hun : un ≤ 4400)
    (ret : ∀ r dx T nd toks news' h' tk', Fr h₀ L h' m → News h₀ L h' news' → (∀ q ∈ news, q ∈ news') → RdW w.params news' r dx T nd toks 0 → toks.map (fun t => (t.kind, t.worth)) = ws → (∀ (j : Nat) t, toks[j]? = some t → t.n = (j : Int) + 1) → Q (.ref r) { s with heap := h', toks := tk' }) :
    wpAny (model pw w) (top9 none dp un gd cn cs L a ccd cl outer) (call (.ref (nat_lit 537)) [.ref tl]) Q E s := by
  tb_start
  refine (?_ : let G9 : Prop := _; G9); intro G9
  obtain ⟨vs, nv, hvm, hvp⟩ := W.x
  unfold G9; clear G9
  ktr_enter
  with_reducible rename Fr _ _ _ (fun y => List.lookup y _) => F2
  replace F2 : Fr _ _ _ (fun y => List.lookup y [(Str.ofString "tokens", .ref tl)]) := F2
  (try (generalize s.toks + List.length _ = tk0))
  repeat' (first
    | ((with_reducible show wpAny _ _ (eval (Expr.ListComp _ _ _ _) _) _ _ _); k_here; k_dflt (refine ListComp_E (by k_asm) (by rfl) (by decide) (by rfl) (by decide) (by rfl) (by rfl) (by rfl) (by decide) (by decide) (by decide) ?_))
    | ((with_reducible show wpAny _ _ (call (Value.type "enumerate") _) _ _ _); (refine Halt.go ?_))
    | walk_at "t9")
  refine Halt.back ?_
  refine SrcE.enum (items := vs.toArray) (k := nv) (news := news) (Inv := InvR w.params news ws) rfl (by k_asm) (by k_asm) hvm (by have := hvp.length; rw [List.size_toArray, sizeLine_eq]; omega) (fun _ _ _ ⟨_, _, _, _, _, _, k⟩ => ⟨nv, k _ hvm⟩) InvR.zero ?_ ?_
  · intro g i x ys n hv inv
    refine (?_ : let G9 : Prop := _; G9); intro G9
    obtain ⟨p9, kd, wo, u8, u9, n9, eq9_0, pm, wi⟩ := hvp.get hv
    unfold G9; clear G9
    subst eq9_0
    refine (?_ : let G9 : Prop := _; G9); intro G9
    obtain ⟨_, _, _, _, _, _, sb⟩ := id inv
    unfold G9; clear G9
    refine ⟨p9, _, _, n9, rfl, sb _ pm, ?_⟩
    intro u e oe it oit C oC D m2 h tk E' hC' hx' hy' hz' F' N' off'
    repeat' (first
      | walk_at "t9")
    refine' token_spec (k := (i : Int) + 1) ?B ?F ?X ?N ?T ?hk ?hd ?hu ?_
    kfm_turns
    intro a9 d9 x1 x2 x3 x4 y1 y2 h9 tk9 F9 N9 ld9 la9
    have lq9 := (by assumption : _ < _ ∧ _ < _ ∧ _ < _ ∧ _ < _ ∧ AllLt _ n)
    refine EndE.token F9 N9 off' (fun p hp => ?_) ld9 la9 (inv.step wi (hw _ (List.mem_of_getElem? wi)))
    rcases List.mem_cons.mp hp with rfl | hp
    · exact lq9.1
    rcases List.mem_cons.mp hp with rfl | hp
    · exact lq9.2.1
    rcases List.mem_cons.mp hp with rfl | hp
    · exact lq9.2.2.1
    rcases List.mem_cons.mp hp with rfl | hp
    · exact lq9.2.2.2.1
    · exact AllLt.mem lq9.2.2.2.2 p hp
  · intro g ys n inv
    intro D h tk F' N'
    refine (?_ : let G9 : Prop := _; G9); intro G9
    obtain ⟨toks, eq9_0, hl, hm, ht, hn, sb⟩ := inv
    unfold G9; clear G9
    subst eq9_0
    have ht2 : ∀ t ∈ toks, TkIn w.params ((D, LCg.lst (toks.map fun t => Value.ref t.a)) :: n) t := fun t h => (ht t h).mono fun q hq => List.mem_cons_of_mem _ hq
    have hvl := hvp.length
    rw [List.size_toArray, hvl] at hl
    rw [List.size_toArray, hvl, List.take_length] at hm
    try dsimp only
    repeat' (first
      | ((with_reducible show wpAny _ _ (call (Value.ref (nat_lit 474)) _) _ _ _); (refine Halt.go ?_))
      | walk_at "t9")
    refine Halt.back ?_
    refine' reader_spec (toks := toks) ?B ?F ?X ?N ?T ?hk ?x0 ?x1 ?x2 ?hd ?hu ?_
    kfm_turns
    (case x0 => exact List.mem_cons_self ..)
    (case x1 => exact ht2)
    (case x2 => omega)
    intro r9 dx9 nd9 n9 h9 tk9 F9 N9 S9 W9
    repeat' (first
      | walk_at "t9")
    exact ret _ _ _ _ _ _ _ _ (by assumption) (by assumption) (fun q hq => S9 _ (List.mem_cons_of_mem _ (sb q hq))) W9 hm hn

end
section
/-- from the i-th place on the words are r -/
def Suf (ws : List (Str × Str)) (i : Int) (r : List (Str × Str)) : Prop := 0 ≤ i ∧ ws.drop i.toNat = r
abbrev kws (toks : List Tk) : List (Str × Str) := toks.map fun t => (t.kind, t.worth)
theorem Suf.tail {ws r : List (Str × Str)} {i : Int} {p : Str × Str} (h : Suf ws i (p :: r)) : Suf ws (i + 1) r := by
  obtain ⟨h0, h⟩ := h
  refine ⟨by omega, ?_⟩
  have e : (i + 1).toNat = i.toNat + 1 := by omega
  rw [e, ← List.drop_drop, h]
  rfl
theorem Suf.head {toks : List Tk} {r : List (Str × Str)} {i : Int} {p : Str × Str} (h : Suf (kws toks) i (p :: r)) : ∃ t, tkAt toks i 0 = some t ∧ (t.kind, t.worth) = p := by
  obtain ⟨h0, h⟩ := h
  have e : (kws toks)[i.toNat]? = some p := by
    have z := congrArg (·[0]?) h
    simpa using z
  rw [List.getElem?_map] at e
  cases q : toks[i.toNat]? with
  | none => rw [q] at e; cases e
  | some t =>
    rw [q] at e
    have hl : i.toNat < toks.length := (List.getElem?_eq_some_iff.mp q).1
    refine ⟨t, ?_, Option.some.inj e⟩
    unfold tkAt
    rw [if_pos (by omega), show (i + 0).toNat = i.toNat by rw [Int.add_zero], q]
theorem Suf.at {toks : List Tk} {r : List (Str × Str)} {i : Int} {kd x : Str} (h : Suf (kws toks) i ((kd, x) :: r)) : TkAt toks i kd x := by
  refine (?_ : let G9 : Prop := _; G9); intro G9
  obtain ⟨t, e, q⟩ := h.head
  unfold G9; clear G9
  exact ⟨t, e, congrArg Prod.fst q, congrArg Prod.snd q⟩
theorem Suf.no {toks : List Tk} {r : List (Str × Str)} {i : Int} {p : Str × Str} {kd x : Str} (h : Suf (kws toks) i (p :: r)) (e : (p.1 == kd && p.2 == x) = false) : isTok toks i 0 kd x = false := by
  refine (?_ : let G9 : Prop := _; G9); intro G9
  obtain ⟨t, q, eq9_0⟩ := h.head
  unfold G9; clear G9
  subst eq9_0
  exact tok_no q e
theorem Suf.start {ws : List (Str × Str)} : Suf ws 0 ws := ⟨Int.le_refl _, rfl⟩
def EndOk (p : Str × Str) : Prop := (p.1 == Str.ofString "word" && p.2 == Str.ofString "OF") = false ∧ (p.1 == Str.ofString "word" && p.2 == Str.ofString "IN") = false ∧ (p.1 == Str.ofString "sign" && p.2 == Str.ofString "(") = false
theorem odAt {toks : List Tk} {wo r : List (Str × Str)} {od : Od} {z i : Int} {p : Str × Str} (S : SortOk wo od z) (h : Suf (kws toks) i (wo ++ p :: r)) (hp : EndOk p) : OdAt toks i od ∧ Suf (kws toks) (i + od.len) (p :: r) := by
  cases S with
  | ref =>
    have h3 : Suf (kws toks) (i + 1 + 1 + 1) (p :: r) := h.tail.tail.tail
    refine ⟨⟨h.at, h.tail.at, h.tail.tail.at, h3.no hp.1, h3.no hp.2.1, h3.no hp.2.2⟩, ?_⟩
    have e : i + Od.ref.len = i + 1 + 1 + 1 := by show i + (1 + 1 + 1) = _; omega
    rw [e]
    exact h3
  | fig f =>
    refine (?_ : let G9 : Prop := _; G9); intro G9
    obtain ⟨t, e, q⟩ := h.head
    unfold G9; clear G9
    have e1 : t.kind = _ := congrArg Prod.fst q
    have e2 : t.worth = _ := congrArg Prod.snd q
    exact ⟨⟨t, e, e1, by rw [e2]; exact f⟩, h.tail⟩
  | text f => exact ⟨⟨h.at, f⟩, h.tail⟩
abbrev dot : Str × Str := (Str.ofString "sign", Str.ofString ".")
theorem bdAt {toks : List Tk} : ∀ {es : List Bd} {i : Int}, Suf (kws toks) i (bTok es ++ [dot]) → (∀ e ∈ es, PlainT e.x) → BdAt toks i es ∧ Suf (kws toks) (bEnd i es) [dot]
  | [], i, h, _ => ⟨⟨h.no (by decide +kernel), h.no (by decide +kernel)⟩, h⟩
  | e :: es, i, h, hp => by
    refine (?_ : let G9 : Prop := _; G9); intro G9
    obtain ⟨af, it, x⟩ := e
    unfold G9; clear G9
    have px : PlainT x := hp _ (List.mem_cons_self ..)
    have hp2 : ∀ e ∈ es, PlainT e.x := fun e he => hp e (List.mem_cons_of_mem _ he)
    cases it with
    | true =>
      have h1 : Suf (kws toks) i (cW (bWord af) :: cW (Str.ofString "INITIAL") :: (Str.ofString "literal", x) :: (bTok es ++ [dot])) := by simpa [bTok, eTok] using h
      obtain ⟨b1, b2⟩ := bdAt (es := es) h1.tail.tail.tail hp2
      exact ⟨⟨h1.at, tok_yes h1.tail.at, ⟨h1.tail.tail.at, px⟩, b1⟩, b2⟩
    | false =>
      have h1 : Suf (kws toks) i (cW (bWord af) :: (Str.ofString "literal", x) :: (bTok es ++ [dot])) := by simpa [bTok, eTok] using h
      obtain ⟨b1, b2⟩ := bdAt (es := es) h1.tail.tail hp2
      have e0 : i + 1 + ini false = i + 1 := by show i + 1 + 0 = _; omega
      have e1 : bNext i ⟨af, false, x⟩ = i + 1 + 1 := by show i + 1 + ini false + 1 = _; rw [e0]
      refine ⟨⟨h1.at, h1.tail.no (by
        show (Str.ofString "literal" == Str.ofString "word" && x == _) = false
        rw [show (Str.ofString "literal" == Str.ofString "word") = false by decide +kernel]
        rfl), ?_, ?_⟩, ?_⟩
      · show OdAt toks (i + 1 + ini false) _
        rw [e0]
        exact ⟨h1.tail.at, px⟩
      · rw [e1]; exact b1
      · show Suf _ (bEnd (bNext i ⟨af, false, x⟩) es) _
        rw [e1]; exact b2
theorem bTok_end {es : List Bd} : ∃ p r, bTok es ++ [dot] = p :: r ∧ EndOk p := by
  cases es with
  | nil => exact ⟨dot, [], rfl, by decide +kernel, by decide +kernel, by decide +kernel⟩
  | cons e r => exact ⟨cW (bWord e.af), (if e.it then [cW (Str.ofString "INITIAL")] else []) ++ (Str.ofString "literal", e.x) :: (bTok r ++ [dot]), by simp [bTok, eTok], by cases e.af <;> decide +kernel, by cases e.af <;> decide +kernel, by cases e.af <;> decide +kernel⟩
theorem by_end : EndOk (cW (Str.ofString "BY")) := ⟨by decide +kernel, by decide +kernel, by decide +kernel⟩
/-- CHARACTERS: what the tokens tell -/
theorem lawC {toks : List Tk} {wo : List (Str × Str)} {od : Od} {z : Int} {es : List Bd} (hk : kws toks = cW (Str.ofString "BY") :: (wo ++ (bTok es ++ [dot]))) (S : SortOk wo od z) (hp : ∀ e ∈ es, PlainT e.x) :
    isTok toks 0 0 (Str.ofString "word") (Str.ofString "BY") = true ∧ OdAt toks (0 + 1) od ∧ BdAt toks (0 + 1 + od.len) es ∧ (∃ t, tkAt toks (0 + 1) 0 = some t) ∧ Suf (kws toks) (bEnd (0 + 1 + od.len) es) [dot] := by
  have h : Suf (kws toks) 0 (cW (Str.ofString "BY") :: (wo ++ (bTok es ++ [dot]))) := hk ▸ Suf.start
  refine (?_ : let G9 : Prop := _; G9); intro G9
  obtain ⟨p, r, e, ep⟩ := bTok_end (es := es)
  unfold G9; clear G9
  have h1 := h.tail
  obtain ⟨o, s⟩ := odAt (r := r) S (by rw [← e]; exact h1) ep
  obtain ⟨b1, b2⟩ := bdAt (es := es) (by rw [e]; exact s) hp
  refine ⟨tok_yes h.at, o, b1, ?_, b2⟩
  cases S with
  | ref => exact ⟨_, h1.head.choose_spec.1⟩
  | fig _ => exact ⟨_, h1.head.choose_spec.1⟩
  | text _ => exact ⟨_, h1.head.choose_spec.1⟩
theorem lawS {toks : List Tk} {w0 wo : List (Str × Str)} {od0 od : Od} {z0 z : Int} {es : List Bd} (hk : kws toks = w0 ++ cW (Str.ofString "BY") :: (wo ++ (bTok es ++ [dot]))) (S0 : SortOk w0 od0 z0) (S : SortOk wo od z) (hp : ∀ e ∈ es, PlainT e.x) :
    OdAt toks 0 od0 ∧ isTok toks (0 + od0.len) 0 (Str.ofString "word") (Str.ofString "BY") = true ∧ OdAt toks (0 + od0.len + 1) od ∧ BdAt toks (0 + od0.len + 1 + od.len) es ∧ (∃ t, tkAt toks (0 + od0.len + 1) 0 = some t) ∧ Suf (kws toks) (bEnd (0 + od0.len + 1 + od.len) es) [dot] := by
  have h : Suf (kws toks) 0 (w0 ++ cW (Str.ofString "BY") :: (wo ++ (bTok es ++ [dot]))) := hk ▸ Suf.start
  obtain ⟨o0, h⟩ := odAt S0 h by_end
  refine (?_ : let G9 : Prop := _; G9); intro G9
  obtain ⟨p, r, e, ep⟩ := bTok_end (es := es)
  unfold G9; clear G9
  have h1 := h.tail
  obtain ⟨o, s⟩ := odAt (r := r) S (by rw [← e]; exact h1) ep
  obtain ⟨b1, b2⟩ := bdAt (es := es) (by rw [e]; exact s) hp
  refine ⟨o0, tok_yes h.at, o, b1, ?_, b2⟩
  cases S with
  | ref => exact ⟨_, h1.head.choose_spec.1⟩
  | fig _ => exact ⟨_, h1.head.choose_spec.1⟩
  | text _ => exact ⟨_, h1.head.choose_spec.1⟩
theorem Suf.len {ws : List (Str × Str)} {i : Int} {p : Str × Str} (h : Suf ws i [p]) : i = (ws.length : Int) - 1 := by
  obtain ⟨h0, h⟩ := h
  have e := congrArg List.length h
  rw [List.length_drop] at e
  simp at e
  omega

end
section
open PySem.SeqAt in
/-- the two are equal wherever n more levels of C fit -/
def Same9 (s : Shared) (n : Nat) (v v' : Value) : Prop := ∀ A : Around, A.units + n < cLine → EqAt A s v v' true
namespace Same9
open PySem.SeqAt PySem.MeetsSeq
variable {s : Shared} {n : Nat} {v v' : Value}
theorem refl : Same9 s n v v := fun _ _ => EqAt.same v
theorem str {x : Str} {t u : Tok} : Same9 s n (.str x t) (.str x u) := fun A _ => by
  have h := (eqGives_str x x t u).at A s
  rw [beq_self_eq_true] at h
  exact h
theorem bytes {b : Array UInt8} {t u : Tok} : Same9 s n (.bytes b t) (.bytes b u) := fun A _ prog w E Q h => by
  unfold eqBool
  refine wpAny_holding ?_
  refine wpAny_ite_split (fun hab => ?_) (fun hab => ?_)
  · exact wpAny_bind (wpAny_rule (wpAny_pure h))
  · refine wpAny_bind (richCompare_gives (op := .Eq) (T := "bytes") rfl rfl FB.slot_bytes_eq FB.entry_bytes_eq (FB.args_bytes_eq_2 _ _) (gives_bytes_eq b b t u) (fun x => nomatch x) (wpAny_truthy_bool ?_))
    rw [beq_self_eq_true]
    exact h
theorem mono {k : Nat} (h : Same9 s n v v') (hk : n ≤ k) : Same9 s k v v' := fun A hA => h A (by omega)
inductive All (s : Shared) (n : Nat) : List Value → List Value → Prop where
  | nil : All s n [] []
  | cons {v v' : Value} {vs vs' : List Value} : Same9 s n v v' → All s n vs vs' → All s n (v :: vs) (v' :: vs')
theorem All.get {vs vs' : List Value} (h : All s n vs vs') : vs.length = vs'.length ∧ ∀ j (h1 : j < vs.length) (h2 : j < vs'.length), Same9 s n vs[j] vs'[j] := by
  induction h with
  | nil => exact ⟨rfl, fun j h1 => absurd h1 (Nat.not_lt_zero _)⟩
  | cons a _ ih =>
    refine ⟨by simp [ih.1], fun j h1 h2 => ?_⟩
    cases j with
    | zero => exact a
    | succ j => exact ih.2 j (by simpa using h1) (by simpa using h2)
theorem rc {a b : Addr} {vs vs' : List Value} {A : Around} (ha : s.heap.IsTuple a vs.toArray) (hb : s.heap.IsTuple b vs'.toArray) (h : All s n vs vs') (hu : A.units + (n + 1) < cLine) : RcAt A s (.ref a) (.ref b) true := by
  obtain ⟨hl, hg⟩ := h.get
  have z := RcAt.tuples (A := A) (e := fun _ => true) ha hb (by omega) fun j h1 h2 => by
    have q := hg j (by simpa using h1) (by simpa using h2) A.in1 (by show A.units + 1 + n < cLine; omega)
    simpa using q
  have e : ((List.range (min vs.toArray.size vs'.toArray.size)).all (fun _ => true) && vs.toArray.size == vs'.toArray.size) = true := by
    rw [List.size_toArray, List.size_toArray, hl]
    simp
  rw [e] at z
  exact z
theorem tuple {a b : Addr} {vs vs' : List Value} (ha : s.heap.IsTuple a vs.toArray) (hb : s.heap.IsTuple b vs'.toArray) (h : All s n vs vs') : Same9 s (n + 1) (.ref a) (.ref b) := fun A hA => by
  by_cases hab : a = b
  · subst hab
    exact EqAt.same _
  · exact EqAt.of_refs hab (rc ha hb h hA)
end Same9
theorem News.isTup {h₀ h : Heap} {L a : Addr} {news : List (Addr × Obj)} {vs : List Value} {n : Nat} (N : News h₀ L h news) (m : (a, tupOf vs n) ∈ news) : h.IsTuple a vs.toArray := ⟨_, (N _ m).1, rfl, n, rfl⟩
theorem OdIn.same {h₀ : Heap} {s : Shared} {L : Addr} {news : List (Addr × Obj)} {v v' : Value} {od : Od} (N : News h₀ L s.heap news) (h : OdIn news v od) (h' : OdIn news v' od) : Same9 s 2 v v' := by
  cases h with
  | ref x y z =>
    cases h' with
    | ref x' y' z' =>
      exact .tuple (News.isTup N x) (News.isTup N x') (.cons .str (.cons .str (.cons (Same9.tuple (News.isTup N y) (News.isTup N y') (.cons .str .nil)) (.cons (Same9.tuple (News.isTup N z) (News.isTup N z') .nil) (.cons .refl .nil)))))
  | fig x =>
    cases h' with
    | fig x' => exact .tuple (News.isTup N x) (News.isTup N x') (.cons .str (.cons .str .nil))
  | text p x =>
    cases h' with
    | text p' x' => exact .tuple (News.isTup N x) (News.isTup N x') (.cons .str (.cons .bytes .nil))
theorem OptIn.same {h₀ : Heap} {s : Shared} {L : Addr} {news : List (Addr × Obj)} {v v' : Value} {o : Option Str} (N : News h₀ L s.heap news) (h : OptIn news v o) (h' : OptIn news v' o) : Same9 s 2 v v' := by
  cases h with
  | none => cases h'; exact .refl
  | some x =>
    cases h' with
    | some x' => exact OdIn.same N x x'
theorem OpIn.same {h₀ : Heap} {s : Shared} {L : Addr} {news : List (Addr × Obj)} {v v' : Value} {o : Option Od} (N : News h₀ L s.heap news) (h : OpIn news v o) (h' : OpIn news v' o) : Same9 s 2 v v' := by
  cases h with
  | none => cases h'; exact .refl
  | some x =>
    cases h' with
    | some x' => exact OdIn.same N x x'
theorem row_eq {prog : Program} {w : World} {A : Around} {E : Value → Shared → Prop} {s : Shared} {h₀ : Heap} {L a b : Addr} {news : List (Addr × Obj)} {kind : Str} {t u : Tok} {v1 v2 v3 v4 u1 u2 u3 u4 : Value} {n k : Nat} {op : Option Od} {od : Od} {o1 o2 : Option Str} {Q : Value → Shared → Prop}
    (N : News h₀ L s.heap news) (ma : (a, tupOf [.str kind t, v1, v2, v3, v4] n) ∈ news) (mb : (b, tupOf [.str kind u, u1, u2, u3, u4] k) ∈ news) (h1 : OpIn news v1 op) (g1 : OpIn news u1 op) (h2 : OdIn news v2 od) (g2 : OdIn news u2 od) (h3 : OptIn news v3 o1) (g3 : OptIn news u3 o1) (h4 : OptIn news v4 o2) (g4 : OptIn news u4 o2)
    (hu : A.units + 3 < cLine) (h : Q (.bool true) s) : wpAny (model prog w) A (compareOp .Eq (.ref a) (.ref b)) Q E s :=
  Same9.rc (News.isTup N ma) (News.isTup N mb) (.cons .str (.cons (OpIn.same N h1 g1) (.cons (OdIn.same N h2 g2) (.cons (OptIn.same N h3 g3) (.cons (OptIn.same N h4 g4) .nil))))) hu prog w E Q h

end
section
section
variable {w : World} {A₀ : Around} {E : Value → Shared → Prop} {s' : Shared} {base g g₀ G : Heap} {outer : List Env} {L a e t d : Addr} {m : Str → Option Value} {name : Str} {scope : Scope} {cd : Value}
  {vs : List Value} {n : Str} {b₀ : Stmt} {suite : List Stmt} {pos np : Pos} {rest : List ExceptHandler} {Q : Flow → Shared → Prop} {news : List (Addr × Obj)}
  {p : Program} {loose : List Str} {mean : ExcName → Option Value} {mg mb : Str → Option Value} {x : Str}
/-- an own exception with a dict comes to the clause that takes it: its dict is still known -/
theorem caught_D (R : RaisedS base G (envOf name scope L a cd :: outer) e (.ref 72) t vs news s'.heap) (X₀ : ExD s'.heap e d) (F : Fr g L G m) (K : Below A₀ base outer g) (hsm : G.UpToSlots s'.heap) (XB : (KW w.params).In base) (TB : Top p loose mean mg mb base)
    (D : KtsDicts (outer.filterMap (·.frame)) g) (T0 : KtsTurn (outer.filterMap (·.frame)) g₀ g)
    (ex : nsIn (KW w.params) mainGlobals x = some (some (.ref 72))) (q : ktsIn (KW w.params) 72 "BaseException" = true)
    (k : ∀ h' g' oe tk, KtsTurn (outer.filterMap (·.frame)) g₀ g' → Fr g' L h' (fun y => if y = n then some (.ref e) else m y) → News g' L h' ((e, oe) :: news) → oe.cls = .ref 72 → oe.dict = some d → (∃ ws, oe.data = .fields ws) → Below A₀ base outer g' → (KW w.params).In g' → Top p loose mean mg mb g' → KtsDicts (outer.filterMap (·.frame)) g' →
      wpAny (model pw w) ((A₀.deeper (envOf name scope L a cd)).mark (some (.ref e))) (execs (b₀ :: suite) (envOf name scope L a cd))
        (fun f s₄ => wpAny (model pw w) (A₀.deeper (envOf name scope L a cd)) (do bindName (envOf name scope L a cd) n .none; unbindBehindTheSuite (envOf name scope L a cd) n pos) (fun _ s₅ => Q f s₅) E s₄)
        (AsSuiteRaised (model pw w) ((A₀.deeper (envOf name scope L a cd)).mark (some (.ref e))) (envOf name scope L a cd) n pos (notedBy (model pw w) ((A₀.deeper (envOf name scope L a cd)).mark (some (.ref e))) (envOf name scope L a cd) (cameBackBy (model pw w) (A₀.deeper (envOf name scope L a cd)) (envOf name scope L a cd) E)))
        { s' with heap := h', toks := tk })
    (hk : scope.kind = .function := by rfl) (hlo : (envOf name scope L a cd).kindOf n = some .local := by rfl) (hx : (envOf name scope L a cd).kindOf x = some .globalImplicit := by rfl) (hd : (x == ("__debug__" : Str)) = false := by decide) :
    wpAny (model pw w) (A₀.deeper (envOf name scope L a cd)) (noteFrame (.ref e) (envOf name scope L a cd))
      (fun _ s₂ => wpAny (model pw w) (A₀.deeper (envOf name scope L a cd)) (setFlight (.ref e) none) (fun _ s₃ =>
        wpAny (model pw w) (A₀.deeper (envOf name scope L a cd)) (handleBy (.ref e) (envOf name scope L a cd) (.ExceptHandler (some (.Name x np)) (some n) (b₀ :: suite) pos :: rest)) Q E s₃) E s₂) E s' := by
  refine (?_ : let G9 : Prop := _; G9); intro G9
  obtain ⟨⟨B, hB, hBG, hl, hfl, hnew⟩, htup⟩ := R
  unfold G9; clear G9
  have hL : B.get? L = none := by
    refine (?_ : let G9 : Prop := _; G9); intro G9
    obtain ⟨_, ⟨L', _, hf, hn', _⟩, _⟩ := hfl.2.2.1
    unfold G9; clear G9
    obtain rfl : L = L' := Option.some.inj hf
    exact hn'
  refine note_D (Around.frames_deeper K.stack) rfl hfl X₀ fun h₄ held₄ sm₄ X₄ => ?_
  refine land_D held₄ X₄ fun h₅ fl₅ sm₅' X₅ => ?_
  have sm₅ := sm₄.trans sm₅'
  refine (?_ : let G9 : Prop := _; G9); intro G9
  obtain ⟨g₅, T₅, F₅, K₅⟩ := kts_ground K F hBG fl₅.1 (hsm.trans sm₅)
  unfold G9; clear G9
  have In₅ : (KW w.params).In g₅ := XB.keeps K₅.stays
  refine (?_ : let G9 : Prop := _; G9); intro G9
  obtain ⟨ob, hob, hobc⟩ := fl₅.there
  unfold G9; clear G9
  refine (?_ : let G9 : Prop := _; G9); intro G9
  obtain ⟨nm, q', N, bs, bm, hdct, sn, sub, ab, col, dd, k0, k1, k2, k3, k5, newId, hC, hbase, hbT⟩ := kts_cls In₅ q
  unfold G9; clear G9
  refine wpAny_handleBy_cons (codeAny_handlers_test (name_K F₅ In₅ (topRead_of (TB.keeps K₅.stays)) ex ?_ hk hx hd)) (by intro q; cases q)
  refine wpAny_excMatches_sub_self (F₅.keep _ _ hC) hob hobc hbase (codeAny_handlers_suite_as ?_)
  refine lag_D fl₅ X₅ fun h₆ fl₆ sm₆ X₆ => ?_
  have smA := (hsm.trans sm₅).trans sm₆
  refine (?_ : let G9 : Prop := _; G9); intro G9
  obtain ⟨g₆, T₆, F₆, K₆⟩ := kts_ground K F hBG fl₆.1 smA
  unfold G9; clear G9
  refine (?_ : let G9 : Prop := _; G9); intro G9
  obtain ⟨oe, ws, hoe, hoec, hoed, hoe0⟩ := fl₆.first
  unfold G9; clear G9
  have hdd : oe.dict = some d := by
    refine (?_ : let G9 : Prop := _; G9); intro G9
    obtain ⟨o', z, zd⟩ := X₆
    unfold G9; clear G9
    rw [hoe] at z
    cases z
    exact zd
  have ne₆ : g₆.get? e = none := T₆.none_ _ (kts_fresh F hBG fl₆.2.1 fun o ho mm => by
    refine (?_ : let G9 : Prop := _; G9); intro G9
    obtain ⟨_, o', ho', hd⟩ := K.frames.mem mm
    unfold G9; clear G9
    rw [ho] at ho'
    cases ho'
    obtain ⟨sl, hs⟩ := smA _ _ (F.keep _ _ ho) hd
    rw [hoe] at hs
    cases hs
    exact hd _ hoed)
  have Ne : News g₆ L h₆ [(e, oe)] := News.more F₆ News.nil hoe (fun es n q => by rw [hoed] at q; cases q) ne₆
  have Nl : News g₆ L h₆ news := fun q hq => ⟨fl₆.1 _ _ (hl q hq).1, (fun z => by have := (hl q hq).1; rw [z, hL] at this; cases this), T₆.none_ _ (kts_none F.keep (hl q hq).2.1)⟩
  refine stN F₆ (news := (e, oe) :: news) (fun q hq => (List.mem_cons.mp hq).elim (fun z => Ne q (List.mem_singleton.mpr z)) (Nl q)) (fun h₇ F₇ N₇ => ?_) hk hlo
  exact k h₇ g₆ oe _ (T0.trans T₆) F₇ N₇ hoec hdd ⟨_, hoed⟩ K₆ (XB.keeps K₆.stays) (TB.keeps K₆.stays) (D.turn T₆)
end

end
section
theorem ex_get {w : World} {A : Around} {E : Value → Shared → Prop} {s : Shared} {h₀ : Heap} {L e d q : Addr} {m : Str → Option Value} {oe : Obj} {es : List DictEntry} {n : Nat} {expr : Bool} {Q : Value → Shared → Prop} (F : Fr h₀ L s.heap m) (X₀ : (KW w.params).In h₀)
    (he : s.heap.get? e = some oe) (hc : oe.cls = .ref 72) (hd : oe.dict = some d) (hx : ∃ ws, oe.data = .fields ws) (hD : s.heap.get? d = some (dictOf es n)) (hl : getL (Str.ofString "at") es = some (some (.ref q))) (h : Q (.ref q) { s with toks := s.toks + 1 }) :
    wpAny (model pw w) A (getAttr (.ref e) (Str.ofString "at") expr) Q E s := by
  have X := X₀.keeps F.keep
  clear F
  refine (?_ : let G9 : Prop := _; G9); intro G9
  obtain ⟨hp, g, dr, t, os⟩ := s
  unfold G9; clear G9
  have hC := cls72 X
  have I : InstAt hp e oe 72 (some (dictOf es n)) := ⟨he, hc, by obtain ⟨ws, z⟩ := hx; unfold notCls; rw [z], by rw [hd]; exact hD⟩
  have L0 := I.type (M := model pw w)
  have L1 := looks_findIn (M := model pw w) X (show findIn (KW w.params) (.ref 72) "__getattribute__" = some (some (.builtin "BaseException.__getattribute__")) from rfl)
  have L2 := looks_findIn (M := model pw w) X (show findIn (KW w.params) (.ref 72) "__getattr__" = some none from rfl)
  have L3 := looks_find (M := model pw w) X I (show findObj (KW w.params) 72 (some (dictOf es n)) (Str.ofString "at") = some (.value (.ref q)) from findObj_own (K := KW w.params) (C := 72) (attr := none) rfl rfl rfl hl)
  have hcB : (Value.ref 72 :: bm72).contains (.type "BaseException") = true := by decide
  have hk : builtinKind "BaseException.__getattribute__" = some .slot := by decide +kernel
  have hsplit : splitId "BaseException.__getattribute__" = some ("BaseException", "__getattribute__") := by decide +kernel
  have hx0 : (expr && onTheHeap (Value.builtin "BaseException.__getattribute__")) = false := by cases expr <;> rfl
  have hx2 : (Value.builtin "BaseException.__getattribute__" == Value.builtin "object.__getattribute__") = false := by decide +kernel
  unfold getAttr getAttrBy
  refine wpAny_bind (wpAny_mkText (wpAny_holding (wpAny_bind (L0.at (wpAny_bind (L1.at ?_))))))
  show wpAny _ _ (if (onTheHeap (.ref 72) && Value.builtin "BaseException.__getattribute__" == Value.builtin "object.__getattribute__") = true then _ else _) _ _ _
  rw [hx2, if_neg (by simp)]
  unfold getAttrByItsOwn hookBefore callGetattribute boundAndCalled
  show wpAny _ _ (typeLookup (.ref 72) "__getattr__" >>= _) _ _ _
  refine wpAny_bind (L2.at (wpAny_bind (wpAny_attempt (wpAny_holding ?_))))
  rw [hx0, if_neg (by simp)]
  refine wpAny_bind (wpAny_of_eq (PySem.F.attr_Exception.ga.bind (.ref e)) ?_)
  refine wpAny_call (codeAny_call_builtin PySem.F.attr_Exception.ga.plain F.entry_bexc_ga ?_)
  simp only [checkBuiltinCall, hk, hsplit]
  refine wpAny_bind ?_
  · unfold isInstance
    repeat (first | (with_reducible refine wpAny_loadPart_at he ?_; rw [hc]) | (with_reducible refine wpAny_isSubtype_exc hC ?_; rw [hcB]) | (with_reducible show wpAny _ _ (Builtin.ObjectAttr.find _ _ _) _ _ _; refine L3.at ?_) | (with_reducible show wpAny _ _ (Builtin.ObjectAttr.find _ _ _ >>= _) _ _ _; refine wpAny_bind (L3.at ?_)) | (with_reducible exact h) | wp_step)

end
section
/-- what stands behind _law_bounds -/
structure RB (n0 l : List (Addr × Obj)) (pn Cc tk td : Addr) (v0 v1 : Value) (es : List Bd) (M : Int) : Prop where
  tok : LL l tk (bTok es)
  told : ∃ n, (td, listOf #[v0, v1] n) ∈ l
  o0 : OptIn l v0 (bGet false es)
  o1 : OptIn l v1 (bGet true es)
  pen : PenIn l pn Cc M
  kp : KeepsT n0 l
  kq : KeepsQ n0 l
theorem RB.sub {n0 l l' : List (Addr × Obj)} {pn Cc tk td : Addr} {v0 v1 : Value} {es : List Bd} {M : Int} (S : RB n0 l pn Cc tk td v0 v1 es M) (K : ∀ q ∈ l, q ∈ l') : RB n0 l' pn Cc tk td v0 v1 es M :=
  ⟨S.tok.keepsT (.sub K), let ⟨n, m⟩ := S.told; ⟨n, K _ m⟩, S.o0.keepsT (.sub K), S.o1.keepsT (.sub K), S.pen.sub K (Int.le_refl _), (KeepsT.sub K).trans' S.kp, (KeepsQ.sub K).trans' S.kq⟩
theorem eTok_len (e : Bd) : (eTok e).length ≤ 3 := by
  refine (?_ : let G9 : Prop := _; G9); intro G9
  obtain ⟨af, it, x⟩ := e
  unfold G9; clear G9
  cases it <;> simp [eTok]
theorem bTok_len {es : List Bd} (h : bOk es = true) : (bTok es).length ≤ 6 := by
  rcases es with _ | ⟨a, _ | ⟨b, _ | ⟨c, r⟩⟩⟩
  · decide
  · have := eTok_len a
    simp only [bTok, List.flatMap_cons, List.flatMap_nil, List.length_append, List.length_nil]
    omega
  · have := eTok_len a
    have := eTok_len b
    simp only [bTok, List.flatMap_cons, List.flatMap_nil, List.length_append, List.length_nil]
    omega
  · exact absurd h (by simp [bOk])
theorem sort_len {ws : List (Str × Str)} {od : Od} {z : Int} (h : SortOk ws od z) : ws.length ≤ 3 := by
  cases h <;> simp
theorem plain_w {x : Str} (h : PlainT x) : x.length ≤ 60 := by
  have z := h.h4
  have e : x.length = x.cps.toList.length := by
    show x.cps.size = _
    simp
  omega
theorem sort_w {ws : List (Str × Str)} {od : Od} {z : Int} (h : SortOk ws od z) : ∀ p ∈ ws, p.2.length ≤ 60 := by
  intro p hp
  cases h with
  | ref =>
    rcases List.mem_cons.mp hp with rfl | hp
    · decide +kernel
    rcases List.mem_cons.mp hp with rfl | hp
    · decide +kernel
    rw [List.mem_singleton.mp hp]
    decide +kernel
  | fig f =>
    rw [List.mem_singleton.mp hp]
    exact (fig_resv f).2.2.2
  | text f =>
    rw [List.mem_singleton.mp hp]
    exact plain_w f
theorem bTok_w {es : List Bd} (h : ∀ e ∈ es, PlainT e.x) : ∀ p ∈ bTok es, p.2.length ≤ 60 := by
  intro p hp
  refine (?_ : let G9 : Prop := _; G9); intro G9
  obtain ⟨⟨af, it, x⟩, he, hp⟩ := List.mem_flatMap.mp hp
  unfold G9; clear G9
  have hx : x.length ≤ 60 := plain_w (h _ he)
  have hb : (bWord af).length ≤ 60 := by cases af <;> decide +kernel
  have hi : (Str.ofString "INITIAL").length ≤ 60 := by decide +kernel
  cases it <;> simp [eTok, cW] at hp <;> rcases hp with rfl | hp | hp <;> simp_all
theorem words_w {ws us : List (Str × Str)} (h : ∀ p ∈ ws, p.2.length ≤ 60) (g : ∀ p ∈ us, p.2.length ≤ 60) : ∀ p ∈ [] ++ [(Str.ofString "word", Str.ofString "BY")] ++ ws ++ us ++ [(Str.ofString "sign", Str.ofString ".")], p.2.length ≤ 60 := by
  intro p hp
  simp only [List.mem_append, List.mem_singleton, List.not_mem_nil, false_or] at hp
  rcases hp with ((rfl | hp) | hp) | rfl
  · decide +kernel
  · exact h p hp
  · exact g p hp
  · decide +kernel
theorem RB.keeps {n0 l l' : List (Addr × Obj)} {pn Cc tk td : Addr} {v0 v1 : Value} {es : List Bd} {M : Int} (S : RB n0 l pn Cc tk td v0 v1 es M) (K : Keeps l l') : RB n0 l' pn Cc tk td v0 v1 es M :=
  have T : KeepsT l l' := (KeepsL.of K).toT
  ⟨S.tok.keepsT T, let ⟨n, m⟩ := S.told; ⟨n, K _ m (fun e => seq_nd list_seq e)⟩, S.o0.keepsT T, S.o1.keepsT T, S.pen.via (fun q h _ d => K q h d) (Int.le_refl _), T.trans' S.kp, (KeepsL.of K).toQ.trans' S.kq⟩
theorem Same9.int {s : Shared} {n : Nat} {i : Int} {t u : Tok} : Same9 s n (.int i t) (.int i u) := fun A _ => by
  have h := PySem.SeqAt.EqAt.int_int (A := A) (s := s) i t i u
  rw [beq_self_eq_true] at h
  exact h
theorem at_eq {prog : Program} {w : World} {A : Around} {E : Value → Shared → Prop} {s : Shared} {h₀ : Heap} {L a b : Addr} {news : List (Addr × Obj)} {i j : Int} {t u t' u' : Tok} {n k : Nat} {Q : Value → Shared → Prop}
    (N : News h₀ L s.heap news) (ma : (a, tupOf [.int i t, .int 12 t'] n) ∈ news) (mb : (b, tupOf [.int j u, .int 12 u'] k) ∈ news) (e : i = j) (hu : A.units + 1 < cLine) (h : Q (.bool true) s) : wpAny (model prog w) A (compareOp .Eq (.ref a) (.ref b)) Q E s := by
  subst e
  exact Same9.rc (n := 0) (News.isTup N ma) (News.isTup N mb) (.cons .int (.cons .int .nil)) hu prog w E Q h
theorem tk_get {toks : List Tk} {i : Int} {t : Tk} (e : tkAt toks i 0 = some t) : toks[i.toNat]? = some t := by
  unfold tkAt at e
  rw [show (i + 0).toNat = i.toNat by rw [Int.add_zero]] at e
  split at e
  · exact e
  · cases e
theorem right0_spec {w : World} {p : Program} {loose : List Str} {mean : ExcName → Option Value} {mg mb : Str → Option Value}
    {dp un : Nat} {gd : Option (List Code)} {cn : Str} {cs : Scope} {a : Addr} {ccd : Value} {A₀ : Around} {base h₀ : Heap} {L : Addr} {m : Str → Option Value} {news : List (Addr × Obj)} {s : Shared}
    {Q E : Value → Shared → Prop} {pn Cc ab : Addr} {Nn : Int} {tk1 : Tok} {od : Od} {ws : List (Str × Str)} {z : Int}
    (B : Below A₀ base [] h₀) (F : Fr h₀ L s.heap m) (X : (KW w.params).In h₀) (N : News h₀ L s.heap news) (Tp : Top p loose mean mg mb h₀) (hk : cs.kind = .function) (XB : (KW w.params).In base) (TB : Top p loose mean mg mb base)
    (P : PenIn news pn Cc Nn) (hN : Nn ≤ 4800) (S : SortIn news ab ws od z) (Ok : SortOk ws od z) (hdp : dp ≤ 400) (hun : un ≤ 2000)
    (ret : ∀ news' h' tk', Fr h₀ L h' m → News h₀ L h' news' → KeepsT news news' → KeepsQ news news' → PenIn news' pn Cc (Nn + 20) → Q (.bool true) { s with heap := h', toks := tk' }) :
    wpAny (model pw w) (top9 none dp un gd cn cs L a ccd [] []) (call (.ref (nat_lit 570)) [.ref pn, .str (Str.ofString "CHARACTERS") tk1, .none, .ref ab]) Q E s := by
  tb_start
  (refine wpAny_call ?_; k_dflt (refine' code_defS0 ?k1 ?k2 ?k3 ?k4 ?k5 ?kA ?k6 ?k7 ?k8 ?k9 ?kB ?_ ?cK ?c2 ?c3 ?c4 ?c5; (case kA => exact rfl); (case k2 => k_asm); (case k1 => k_asm); (case k3 => k_asm); (case k4 => k_asm); (case k5 => k_asm); (case k6 => k_is); (case k7 => k_is); (case k8 => ktr_room); (case k9 => exact BindsTo.of_eq rfl); (case kB => exact locs rfl); (case cK => assumption); (case c2 => exact rfl); (case c3 => exact rfl); (case c4 => exact rfl); (case c5 => decide); k_whole; intro g' L' h' FG' F' N' B' X' T' D'; (try dsimp only); (try k_fold)))
  with_reducible rename Fr _ _ _ (fun y => List.lookup y _) => F2
  replace F2 : Fr _ _ _ (fun y => List.lookup y [(Str.ofString "put", .ref ab), (Str.ofString "seeking", .none), (Str.ofString "kind", .str (Str.ofString "CHARACTERS") tk1), (Str.ofString "pen", .ref pn)]) := F2
  (try (generalize s.toks + List.length _ = tk0))
  repeat' (first
    | ((with_reducible show wpAny _ _ (call (Value.ref (nat_lit 556)) _) _ _ _); (refine Halt.go ?_))
    | walk_at "t9")
  refine Halt.back ?_
  with_reducible rename News _ _ _ _ => N8
  refine' lbounds_spec ?B ?F ?X ?N ?T ?hk ?x0 ?x1 ?hd ?hu ?_
  kfm_turns
  (case x0 => exact PenIn.sub P (fun q hq => by repeat (first | exact hq | refine List.mem_cons_of_mem _ ?_)) (Int.le_refl _))
  (case x1 => omega)
  intro T9 td9 tb9 nT9 nd9 v0 v1 es L9 h9 tk9 F9 N9 K9 Q9 P9 mT9 tok9 mtd9 ok9 hp9 o09 o19
  have S9 : RB news L9 pn Cc tb9 td9 v0 v1 es (Nn + 20) := ⟨tok9, ⟨_, mtd9⟩, o09, o19, P9, K9.trans' (.sub fun q hq => by repeat (first | exact hq | refine List.mem_cons_of_mem _ ?_)), Q9.trans' (.sub fun q hq => by repeat (first | exact hq | refine List.mem_cons_of_mem _ ?_))⟩
  have A9 : ∃ h9, LL L9 h9 [] := ⟨_, [], _, K9 _ (List.mem_cons_self ..) (fun C a u b v k e => by
    have e1 := congrArg Obj.data e
    injection e1 with e2 _
    exact absurd (congrArg Array.size e2) (by simp)) list_seq, .nil⟩
  replace A9 : LL L9 _ [] := ⟨[], _, K9 _ (List.mem_cons_self ..) (fun C a u b v k e => by
    have e1 := congrArg Obj.data e
    injection e1 with e2 _
    exact absurd (congrArg Array.size e2) (by simp)) list_seq, .nil⟩
  clear tok9 o09 o19 P9 K9 Q9 N8
  repeat' (first
    | ((with_reducible show wpAny _ _ (call (Value.ref (nat_lit 532)) _) _ _ _); (refine Halt.go ?_))
    | walk_at "t9")
  refine Halt.back ?_
  refine' words1_spec ?B ?F ?X ?N ?T ?hk ?x0 ?x1 ?x2 ?hd ?hu ?_
  kfm_turns
  (case x0 => decide +kernel)
  (case x1 => decide +kernel)
  (case x2 => decide +kernel)
  intro l9 n9 h8 tk8 F8 N7 U8 W9
  replace S9 := S9.sub U8
  replace A9 := LL.subN A9 N7 U8
  have mT8 := U8 _ mT9
  refine (?_ : let G9 : Prop := _; G9); intro G9
  obtain ⟨lt9, tt9, uz9, ns9, mS9, lS9, oS9⟩ := (SortIn.keepsT S S9.kp).x
  unfold G9; clear G9
  clear mT9 mtd9 U8
  have hbl := bTok_len ok9
  have hwl := sort_len Ok
  kqd_sub
  repeat' (first
    | ((with_reducible show wpAny _ _ (binaryOp Operator.Add (Value.ref _) (Value.ref _)) _ _ _); (with_reducible rename News _ _ _ _ => N8); k_dflt (refine' add_LL ?k1 N8 ?k2 ?k4 ?k3 ?_; (case k1 => k_asm); (case k2 => first | exact LL.subN (by assumption) N8 (fun q hq => by repeat (first | exact hq | refine List.mem_cons_of_mem _ ?_)) | exact LL.subN S9.tok N8 (fun q hq => by repeat (first | exact hq | refine List.mem_cons_of_mem _ ?_)) | exact ⟨[_], _, List.mem_cons_self .., .cons (List.mem_cons_of_mem _ (List.mem_cons_self ..)) .nil⟩); (case k4 => first | exact LL.subN (by assumption) N8 (fun q hq => by repeat (first | exact hq | refine List.mem_cons_of_mem _ ?_)) | exact LL.subN S9.tok N8 (fun q hq => by repeat (first | exact hq | refine List.mem_cons_of_mem _ ?_)) | exact ⟨[_], _, List.mem_cons_self .., .cons (List.mem_cons_of_mem _ (List.mem_cons_self ..)) .nil⟩); (case k3 => (simp only [List.length_append, List.length_cons, List.length_nil]; omega)); k_whole); intro D9 o9 h9 F9 N9 lt8 B9; clear N8)
    | ((with_reducible show wpAny _ _ (call (Value.ref (nat_lit 537)) _) _ _ _); (refine Halt.go ?_))
    | walk_at "t9")
  refine Halt.back ?_
  with_reducible rename News _ _ _ _ => N8
  refine' lreader_spec ?B ?F ?X ?N ?T ?hk ?x0 ?x1 ?x2 ?hd ?hu ?_
  kfm_turns
  (case x0 => exact B9)
  (case x1 => (simp only [List.length_append, List.length_cons, List.length_nil]; omega))
  (case x2 => exact words_w (sort_w Ok) (bTok_w hp9))
  intro r9 dx9 tl9 rn9 toks n8 h9 tk9 F9 N9 U8 W8 hm8 hn8
  have T8 := S9.sub (fun q hq => U8 _ (by repeat (first | exact hq | refine List.mem_cons_of_mem _ ?_)))
  have A8 := A9.keepsL (.sub (fun q hq => U8 _ (by repeat (first | exact hq | refine List.mem_cons_of_mem _ ?_))))
  clear A9 N8
  refine (?_ : let G9 : Prop := _; G9); intro G9
  obtain ⟨L1, L2, L3, ⟨t3, L4⟩, L5⟩ := lawC (toks := toks) (es := es) (by rw [show kws toks = _ from hm8]; simp) Ok hp9
  unfold G9; clear G9
  kqd_sub
  repeat' (first
    | ((with_reducible show wpAny _ _ (call (Value.ref (nat_lit 293)) _) _ _ _); (refine Halt.go ?_))
    | walk_at "t9")
  refine Halt.back ?_
  have hlen : (kws toks).length = (([] ++ [(Str.ofString "word", Str.ofString "BY")] ++ ws ++ bTok es ++ [(Str.ofString "sign", Str.ofString ".")]) : List (Str × Str)).length := congrArg List.length hm8
  have hend := L5.len
  refine (?_ : let G9 : Prop := _; G9); intro G9
  obtain ⟨vs8, nv8, mv8, pv8⟩ := B9.x
  unfold G9; clear G9
  have hvl := pv8.length
  replace mv8 := U8 _ mv8
  cases hmt : meets none od
  rotate_left
  · refine' exC_spec (od0 := od) (es := es) (od := od) ?B ?F ?X ?N ?T ?hk ?x0 ?x1 ?x2 ?x3 ?x4 ?x5 ?hd ?hu ?_
    kfm_turns
    (case x0 => exact W8)
    (case x1 => exact L1)
    (case x2 => exact L2)
    (case x3 => exact L3)
    (case x4 => exact ok9)
    (case x5 => exact hmt)
    intro a7 vo vb vbf vaf u7 n7 l7 h7 tk7 F7 N7 K7 W7 m7 p1 p2 p3 p4
    replace T8 := T8.keeps K7
    refine (?_ : let G9 : Prop := _; G9); intro G9
    obtain ⟨lt7, tt7, uz7, ns7, mS7, lS7, oS7⟩ := (SortIn.keepsT S T8.kp).x
    unfold G9; clear G9
    obtain ⟨nt7, mt7⟩ := T8.told
    replace mv8 := K7 _ mv8 (fun e => seq_nd list_seq e)
    clear K7 U8 W8
    refine (?_ : let G9 : Prop := _; G9); intro G9
    obtain ⟨hr7, ⟨q1, q2, q3, q4, hd7⟩, ⟨nT7, hT7⟩, -, -, -, -⟩ := W7
    unfold G9; clear G9
    simp only [List.length_append, List.length_cons, List.length_nil] at hlen hvl
    kqd_sub
    repeat' (first
      | ((with_reducible show wpAny _ _ (subscriptTail _ _ (Value.ref td9) (Value.int _ _)) _ _ _); k_dflt (refine' item_mem ?k1 mt7 ?k2 ?k3 ?k4 ?_ ?k5 ?k6; (case k1 => k_asm); (case k2 => decide); (case k3 => decide); (case k4 => first | exact (rfl : #[v0, v1][(0 : Int).toNat]? = some v0) | exact (rfl : #[v0, v1][(1 : Int).toNat]? = some v1)); (case k5 => with_unfolding_all rfl); (case k6 => intro _; with_unfolding_all rfl); k_whole))
      | ((with_reducible show wpAny _ _ (call (Value.ref (nat_lit 563)) _) _ _ _); (refine' may0_spec ?B ?F ?X ?N ?T ?hk ?x0 ?x1 ?hd ?hu ?_; kfm_turns; (case x0 => exact SortIn.keepsT S (KeepsT.cons T8.kp)); (case x1 => exact Ok); k_whole); intro h9 tk9 F9 N9; (try rw [hmt]); kqd_sub)
      | ((with_reducible show wpAny _ _ (compareOp CmpOp.Eq (Value.ref a7) (Value.ref _)) _ _ _); (with_reducible rename News _ _ _ _ => N8); (refine row_eq (op := none) (od := od) (o1 := bGet false es) (o2 := bGet true es) N8 (List.mem_cons_of_mem _ m7) (List.mem_cons_self ..) (OpIn.keeps p1 (Keeps.cons (Keeps.refl _))) OpIn.none (p2.keepsT (.sub fun q hq => List.mem_cons_of_mem _ hq)) (oS7.keepsT (.sub fun q hq => List.mem_cons_of_mem _ hq)) (p3.keepsT (.sub fun q hq => List.mem_cons_of_mem _ hq)) (T8.o0.keepsT (.sub fun q hq => List.mem_cons_of_mem _ hq)) (p4.keepsT (.sub fun q hq => List.mem_cons_of_mem _ hq)) (T8.o1.keepsT (.sub fun q hq => List.mem_cons_of_mem _ hq)) (by first | k_units | ktr_units | omega) ?_))
      | walk_at "t9")
    rw [show (bEnd (0 + 1 + od.len) es == (vs8.toArray.size : Int) - 1) = true from beq_iff_eq.mpr (by rw [List.size_toArray]; omega)]
    exact ret _ _ _ (by assumption) (by assumption) T8.kp.cons T8.kq.cons (T8.pen.sub (fun q hq => List.mem_cons_of_mem _ hq) (Int.le_refl _))
  · have R8 := W8
    refine' exCNo_spec (od0 := od) (es := es) (od := od) (t := t3) ?B ?F ?X ?N ?T ?hk ?x0 ?x1 ?x2 ?x3 ?x4 ?hd ?hu ?_
    kfm_turns
    (case x0 => exact W8)
    (case x1 => exact L1)
    (case x2 => exact L2)
    (case x3 => exact L4)
    (case x4 => exact hmt)
    intro g2 e9 t9 vs9 d9 es9 n9 l9 h9 tk9 FG9 R9 X9 D9 G9 U9 K9
    replace T8 := T8.keeps K9
    repeat' (first
      | ((with_reducible show wpAny _ _ (noteFrame _ _) _ _ _); (refine Halt.go ?_))
      | walk_at "t9")
    refine Halt.back ?_
    refine caught_D R9 X9 FG9 B' U9 XB TB D' KtsTurn.refl rfl rfl ?_
    intro h7 g7 oe7 tk7 KT7 F7 N7 hc7 hd7 hx7 B7 X7 TP7 DD7
    replace T8 := T8.sub (fun q hq => List.mem_cons_of_mem (e9, oe7) hq)
    refine (?_ : let G9 : Prop := _; G9); intro G9
    obtain ⟨va9, na9, ma9, pa9⟩ := A8.x
    unfold G9; clear G9
    cases pa9
    replace ma9 := K9 _ ma9 (fun e => seq_nd list_seq e)
    have tn9 := hn8 _ _ (tk_get L4)
    refine (?_ : let G9 : Prop := _; G9); intro G9
    obtain ⟨-, -, ⟨c1, c2, c3, mq9⟩, -⟩ := R8.ht t3 (tkAt_mem L4)
    unfold G9; clear G9
    replace mq9 := K9 _ mq9 (fun e => seq_nd tup_seq e)
    refine (?_ : let G9 : Prop := _; G9); intro G9
    obtain ⟨lt7, tt7, uz7, ns7, mS7, lS7, oS7⟩ := (SortIn.keepsT S T8.kp).x
    unfold G9; clear G9
    repeat' (first
      | ((with_reducible show wpAny _ _ (getAttr (Value.ref e9) _ _) _ _ _); (with_reducible rename News _ _ _ _ => N8); (refine ex_get (by k_asm) X7 (N8 _ (List.mem_cons_self ..)).1 hc7 hd7 hx7 (N8 _ (List.mem_cons_of_mem _ D9)).1 G9 ?_))
      | ((with_reducible show wpAny _ _ (call (Value.ref (nat_lit 563)) _) _ _ _); (refine' may0_spec ?B ?F ?X ?N ?T ?hk ?x0 ?x1 ?hd ?hu ?_; kfm_turns; (case x0 => exact SortIn.keepsT S T8.kp); (case x1 => exact Ok); k_whole); intro h9 tk9 F9 N9; (try rw [hmt]); kqd_sub)
      | ((with_reducible show wpAny _ _ (compareOp CmpOp.Eq (Value.ref _) (Value.ref _)) _ _ _); (with_reducible rename News _ _ _ _ => N8); (refine at_eq N8 (List.mem_cons_of_mem _ (List.mem_cons_of_mem _ mq9)) (List.mem_cons_self ..) (by rw [tn9]; rfl) (by first | k_units | ktr_units | omega) ?_))
      | walk_at "t9")
    exact ret _ _ _ (by assumption) (by assumption) T8.kp.cons T8.kq.cons (T8.pen.sub (fun q hq => List.mem_cons_of_mem _ hq) (Int.le_refl _))

end
section
theorem sort_od {ws : List (Str × Str)} {od : Od} {z : Int} (h : SortOk ws od z) : (ws.length : Int) = od.len := by
  cases h <;> rfl
theorem od_len {od : Od} : 1 ≤ od.len ∧ od.len ≤ 3 := by
  cases od <;> simp [Od.len]
theorem words_wS {w0 ws us : List (Str × Str)} (h0 : ∀ p ∈ w0, p.2.length ≤ 60) (h : ∀ p ∈ ws, p.2.length ≤ 60) (g : ∀ p ∈ us, p.2.length ≤ 60) : ∀ p ∈ w0 ++ [(Str.ofString "word", Str.ofString "BY")] ++ ws ++ us ++ [(Str.ofString "sign", Str.ofString ".")], p.2.length ≤ 60 := by
  intro p hp
  simp only [List.mem_append, List.mem_singleton] at hp
  rcases hp with (((hp | rfl) | hp) | hp) | rfl
  · exact h0 p hp
  · decide +kernel
  · exact h p hp
  · exact g p hp
  · decide +kernel
theorem rightS_spec {w : World} {p : Program} {loose : List Str} {mean : ExcName → Option Value} {mg mb : Str → Option Value}
    {dp un : Nat} {gd : Option (List Code)} {cn : Str} {cs : Scope} {a : Addr} {ccd : Value} {A₀ : Around} {base h₀ : Heap} {L : Addr} {m : Str → Option Value} {news : List (Addr × Obj)} {s : Shared}
    {Q E : Value → Shared → Prop} {pn Cc aa ab : Addr} {Nn : Int} {kind : Str} {tk1 : Tok} {od0 od : Od} {w0 ws : List (Str × Str)} {z0 z : Int}
    (B : Below A₀ base [] h₀) (F : Fr h₀ L s.heap m) (X : (KW w.params).In h₀) (N : News h₀ L s.heap news) (Tp : Top p loose mean mg mb h₀) (hk : cs.kind = .function) (XB : (KW w.params).In base) (TB : Top p loose mean mg mb base)
    (P : PenIn news pn Cc Nn) (hN : Nn ≤ 4800) (S0 : SortIn news aa w0 od0 z0) (Ok0 : SortOk w0 od0 z0) (S : SortIn news ab ws od z) (Ok : SortOk ws od z) (hkd : (kind == Str.ofString "CHARACTERS") = false) (hdp : dp ≤ 400) (hun : un ≤ 2000)
    (ret : ∀ news' h' tk', Fr h₀ L h' m → News h₀ L h' news' → KeepsT news news' → KeepsQ news news' → PenIn news' pn Cc (Nn + 20) → Q (.bool true) { s with heap := h', toks := tk' }) :
    wpAny (model pw w) (top9 none dp un gd cn cs L a ccd [] []) (call (.ref (nat_lit 570)) [.ref pn, .str kind tk1, .ref aa, .ref ab]) Q E s := by
  tb_start
  refine (?_ : let G9 : Prop := _; G9); intro G9
  obtain ⟨l0, t0, uz0, ns0, m0, ll0, oo0⟩ := S0.x
  unfold G9; clear G9
  (refine wpAny_call ?_; k_dflt (refine' code_defS0 ?k1 ?k2 ?k3 ?k4 ?k5 ?kA ?k6 ?k7 ?k8 ?k9 ?kB ?_ ?cK ?c2 ?c3 ?c4 ?c5; (case kA => exact rfl); (case k2 => k_asm); (case k1 => k_asm); (case k3 => k_asm); (case k4 => k_asm); (case k5 => k_asm); (case k6 => k_is); (case k7 => k_is); (case k8 => ktr_room); (case k9 => exact BindsTo.of_eq rfl); (case kB => exact locs rfl); (case cK => assumption); (case c2 => exact rfl); (case c3 => exact rfl); (case c4 => exact rfl); (case c5 => decide); k_whole; intro g' L' h' FG' F' N' B' X' T' D'; (try dsimp only); (try k_fold)))
  with_reducible rename Fr _ _ _ (fun y => List.lookup y _) => F2
  replace F2 : Fr _ _ _ (fun y => List.lookup y [(Str.ofString "put", .ref ab), (Str.ofString "seeking", .ref aa), (Str.ofString "kind", .str kind tk1), (Str.ofString "pen", .ref pn)]) := F2
  (try (generalize s.toks + List.length _ = tk0))
  repeat' (first
    | ((with_reducible show wpAny _ _ (call (Value.ref (nat_lit 556)) _) _ _ _); (refine Halt.go ?_))
    | walk_at "t9")
  refine Halt.back ?_
  with_reducible rename News _ _ _ _ => N8
  refine' lbounds_spec ?B ?F ?X ?N ?T ?hk ?x0 ?x1 ?hd ?hu ?_
  kfm_turns
  (case x0 => exact PenIn.sub P (fun q hq => by repeat (first | exact hq | refine List.mem_cons_of_mem _ ?_)) (Int.le_refl _))
  (case x1 => omega)
  intro T9 td9 tb9 nT9 nd9 v0 v1 es L9 h9 tk9 F9 N9 K9 Q9 P9 mT9 tok9 mtd9 ok9 hp9 o09 o19
  have S9 : RB news L9 pn Cc tb9 td9 v0 v1 es (Nn + 20) := ⟨tok9, ⟨_, mtd9⟩, o09, o19, P9, K9.trans' (.sub fun q hq => by repeat (first | exact hq | refine List.mem_cons_of_mem _ ?_)), Q9.trans' (.sub fun q hq => by repeat (first | exact hq | refine List.mem_cons_of_mem _ ?_))⟩
  have A9 : LL L9 l0 w0 := ll0.keepsT K9
  clear tok9 o09 o19 P9 K9 Q9 N8
  repeat' (first
    | ((with_reducible show wpAny _ _ (call (Value.ref (nat_lit 532)) _) _ _ _); (refine Halt.go ?_))
    | walk_at "t9")
  refine Halt.back ?_
  refine' words1_spec ?B ?F ?X ?N ?T ?hk ?x0 ?x1 ?x2 ?hd ?hu ?_
  kfm_turns
  (case x0 => decide +kernel)
  (case x1 => decide +kernel)
  (case x2 => decide +kernel)
  intro l9 n9 h8 tk8 F8 N7 U8 W9
  replace S9 := S9.sub U8
  replace A9 := LL.subN A9 N7 U8
  have mT8 := U8 _ mT9
  refine (?_ : let G9 : Prop := _; G9); intro G9
  obtain ⟨lt9, tt9, uz9, ns9, mS9, lS9, oS9⟩ := (SortIn.keepsT S S9.kp).x
  unfold G9; clear G9
  clear mT9 mtd9 U8
  have hbl := bTok_len ok9
  have hwl := sort_len Ok
  have hwl0 := sort_len Ok0
  have hod0 := sort_od Ok0
  have hodl := od_len (od := od0)
  kqd_sub
  repeat' (first
    | ((with_reducible show wpAny _ _ (binaryOp Operator.Add (Value.ref _) (Value.ref _)) _ _ _); (with_reducible rename News _ _ _ _ => N8); k_dflt (refine' add_LL ?k1 N8 ?k2 ?k4 ?k3 ?_; (case k1 => k_asm); (case k2 => first | exact LL.subN (by assumption) N8 (fun q hq => by repeat (first | exact hq | refine List.mem_cons_of_mem _ ?_)) | exact LL.subN S9.tok N8 (fun q hq => by repeat (first | exact hq | refine List.mem_cons_of_mem _ ?_)) | exact ⟨[_], _, List.mem_cons_self .., .cons (List.mem_cons_of_mem _ (List.mem_cons_self ..)) .nil⟩); (case k4 => first | exact LL.subN (by assumption) N8 (fun q hq => by repeat (first | exact hq | refine List.mem_cons_of_mem _ ?_)) | exact LL.subN S9.tok N8 (fun q hq => by repeat (first | exact hq | refine List.mem_cons_of_mem _ ?_)) | exact ⟨[_], _, List.mem_cons_self .., .cons (List.mem_cons_of_mem _ (List.mem_cons_self ..)) .nil⟩); (case k3 => (simp only [List.length_append, List.length_cons, List.length_nil]; omega)); k_whole); intro D9 o9 h9 F9 N9 lt8 B9; clear N8)
    | ((with_reducible show wpAny _ _ (call (Value.ref (nat_lit 537)) _) _ _ _); (refine Halt.go ?_))
    | walk_at "t9")
  refine Halt.back ?_
  with_reducible rename News _ _ _ _ => N8
  refine' lreader_spec ?B ?F ?X ?N ?T ?hk ?x0 ?x1 ?x2 ?hd ?hu ?_
  kfm_turns
  (case x0 => exact B9)
  (case x1 => (simp only [List.length_append, List.length_cons, List.length_nil]; omega))
  (case x2 => exact words_wS (sort_w Ok0) (sort_w Ok) (bTok_w hp9))
  intro r9 dx9 tl9 rn9 toks n8 h9 tk9 F9 N9 U8 W8 hm8 hn8
  have T8 := S9.sub (fun q hq => U8 _ (by repeat (first | exact hq | refine List.mem_cons_of_mem _ ?_)))
  have A8 := A9.keepsL (.sub (fun q hq => U8 _ (by repeat (first | exact hq | refine List.mem_cons_of_mem _ ?_))))
  clear A9 N8
  refine (?_ : let G9 : Prop := _; G9); intro G9
  obtain ⟨L0, L1, L2, L3, ⟨t3, L4⟩, L5⟩ := lawS (toks := toks) (es := es) (by rw [show kws toks = _ from hm8]; simp) Ok0 Ok hp9
  unfold G9; clear G9
  kqd_sub
  repeat' (first
    | ((with_reducible show wpAny _ _ (call (Value.ref (nat_lit 293)) _) _ _ _); (refine Halt.go ?_))
    | walk_at "t9")
  refine Halt.back ?_
  have hlen : (kws toks).length = ((w0 ++ [(Str.ofString "word", Str.ofString "BY")] ++ ws ++ bTok es ++ [(Str.ofString "sign", Str.ofString ".")]) : List (Str × Str)).length := congrArg List.length hm8
  have hend := L5.len
  refine (?_ : let G9 : Prop := _; G9); intro G9
  obtain ⟨vs8, nv8, mv8, pv8⟩ := B9.x
  unfold G9; clear G9
  have hvl := pv8.length
  replace mv8 := U8 _ mv8
  cases hmt : meets (some od0) od
  rotate_left
  · refine' exS_spec (od0 := od0) (es := es) (od := od) ?B ?F ?X ?N ?T ?hk ?x0 ?x1 ?x2 ?x3 ?x4 ?x5 ?x6 ?x7 ?hd ?hu ?_
    kfm_turns
    (case x0 => exact W8)
    (case x1 => exact hkd)
    (case x2 => exact L0)
    (case x3 => exact L1)
    (case x4 => exact L2)
    (case x5 => exact L3)
    (case x6 => exact ok9)
    (case x7 => exact hmt)
    intro a7 vo vb vbf vaf u7 n7 l7 h7 tk7 F7 N7 K7 W7 m7 p1 p2 p3 p4
    replace T8 := T8.keeps K7
    refine (?_ : let G9 : Prop := _; G9); intro G9
    obtain ⟨lt7, tt7, uz7, ns7, mS7, lS7, oS7⟩ := (SortIn.keepsT S T8.kp).x
    unfold G9; clear G9
    obtain ⟨nt7, mt7⟩ := T8.told
    refine (?_ : let G9 : Prop := _; G9); intro G9
    obtain ⟨lq7, tq7, uq7, nq7, mq7, lw7, oq7⟩ := (SortIn.keepsT S0 T8.kp).x
    unfold G9; clear G9
    replace mv8 := K7 _ mv8 (fun e => seq_nd list_seq e)
    clear K7 U8 W8
    refine (?_ : let G9 : Prop := _; G9); intro G9
    obtain ⟨hr7, ⟨q1, q2, q3, q4, hd7⟩, ⟨nT7, hT7⟩, -, -, -, -⟩ := W7
    unfold G9; clear G9
    simp only [List.length_append, List.length_cons, List.length_nil] at hlen hvl
    kqd_sub
    repeat' (first
      | ((with_reducible show wpAny _ _ (subscriptTail _ _ (Value.ref td9) (Value.int _ _)) _ _ _); k_dflt (refine' item_mem ?k1 mt7 ?k2 ?k3 ?k4 ?_ ?k5 ?k6; (case k1 => k_asm); (case k2 => decide); (case k3 => decide); (case k4 => first | exact (rfl : #[v0, v1][(0 : Int).toNat]? = some v0) | exact (rfl : #[v0, v1][(1 : Int).toNat]? = some v1)); (case k5 => with_unfolding_all rfl); (case k6 => intro _; with_unfolding_all rfl); k_whole))
      | ((with_reducible show wpAny _ _ (call (Value.ref (nat_lit 563)) _) _ _ _); (refine' mayS_spec ?B ?F ?X ?N ?T ?hk ?x0 ?x1 ?x2 ?x3 ?hd ?hu ?_; kfm_turns; (case x0 => exact SortIn.keepsT S0 (KeepsT.cons T8.kp)); (case x1 => exact Ok0); (case x2 => exact SortIn.keepsT S (KeepsT.cons T8.kp)); (case x3 => exact Ok); k_whole); intro h9 tk9 F9 N9; (try rw [hmt]); kqd_sub)
      | ((with_reducible show wpAny _ _ (compareOp CmpOp.Eq (Value.ref a7) (Value.ref _)) _ _ _); (with_reducible rename News _ _ _ _ => N8); (refine row_eq (op := some od0) (od := od) (o1 := bGet false es) (o2 := bGet true es) N8 (List.mem_cons_of_mem _ m7) (List.mem_cons_self ..) (OpIn.keeps p1 (Keeps.cons (Keeps.refl _))) (OpIn.some (oq7.keepsT (.sub fun q hq => List.mem_cons_of_mem _ hq))) (p2.keepsT (.sub fun q hq => List.mem_cons_of_mem _ hq)) (oS7.keepsT (.sub fun q hq => List.mem_cons_of_mem _ hq)) (p3.keepsT (.sub fun q hq => List.mem_cons_of_mem _ hq)) (T8.o0.keepsT (.sub fun q hq => List.mem_cons_of_mem _ hq)) (p4.keepsT (.sub fun q hq => List.mem_cons_of_mem _ hq)) (T8.o1.keepsT (.sub fun q hq => List.mem_cons_of_mem _ hq)) (by first | k_units | ktr_units | omega) ?_))
      | walk_at "t9")
    rw [show (bEnd (0 + od0.len + 1 + od.len) es == (vs8.toArray.size : Int) - 1) = true from beq_iff_eq.mpr (by rw [List.size_toArray]; omega)]
    exact ret _ _ _ (by assumption) (by assumption) T8.kp.cons T8.kq.cons (T8.pen.sub (fun q hq => List.mem_cons_of_mem _ hq) (Int.le_refl _))
  · have R8 := W8
    refine' exSNo_spec (od0 := od0) (es := es) (od := od) (t := t3) ?B ?F ?X ?N ?T ?hk ?x0 ?x1 ?x2 ?x3 ?x4 ?x5 ?x6 ?hd ?hu ?_
    kfm_turns
    (case x0 => exact W8)
    (case x1 => exact hkd)
    (case x2 => exact L0)
    (case x3 => exact L1)
    (case x4 => exact L2)
    (case x5 => exact L4)
    (case x6 => exact hmt)
    intro g2 e9 t9 vs9 d9 es9 n9 l9 h9 tk9 FG9 R9 X9 D9 G9 U9 K9
    replace T8 := T8.keeps K9
    repeat' (first
      | ((with_reducible show wpAny _ _ (noteFrame _ _) _ _ _); (refine Halt.go ?_))
      | walk_at "t9")
    refine Halt.back ?_
    refine caught_D R9 X9 FG9 B' U9 XB TB D' KtsTurn.refl rfl rfl ?_
    intro h7 g7 oe7 tk7 KT7 F7 N7 hc7 hd7 hx7 B7 X7 TP7 DD7
    replace T8 := T8.sub (fun q hq => List.mem_cons_of_mem (e9, oe7) hq)
    refine (?_ : let G9 : Prop := _; G9); intro G9
    obtain ⟨va9, na9, ma9, pa9⟩ := A8.x
    unfold G9; clear G9
    have pl9 := pa9.length
    have sz9 : va9.toArray.size = va9.length := List.size_toArray ..
    refine (?_ : let G9 : Prop := _; G9); intro G9
    obtain ⟨lq7, tq7, uq7, nq7, mq7, lw7, oq7⟩ := (SortIn.keepsT S0 T8.kp).x
    unfold G9; clear G9
    replace ma9 := K9 _ ma9 (fun e => seq_nd list_seq e)
    have tn9 := hn8 _ _ (tk_get L4)
    refine (?_ : let G9 : Prop := _; G9); intro G9
    obtain ⟨-, -, ⟨c1, c2, c3, mq9⟩, -⟩ := R8.ht t3 (tkAt_mem L4)
    unfold G9; clear G9
    replace mq9 := K9 _ mq9 (fun e => seq_nd tup_seq e)
    refine (?_ : let G9 : Prop := _; G9); intro G9
    obtain ⟨lt7, tt7, uz7, ns7, mS7, lS7, oS7⟩ := (SortIn.keepsT S T8.kp).x
    unfold G9; clear G9
    repeat' (first
      | ((with_reducible show wpAny _ _ (getAttr (Value.ref e9) _ _) _ _ _); (with_reducible rename News _ _ _ _ => N8); (refine ex_get (by k_asm) X7 (N8 _ (List.mem_cons_self ..)).1 hc7 hd7 hx7 (N8 _ (List.mem_cons_of_mem _ D9)).1 G9 ?_))
      | ((with_reducible show wpAny _ _ (call (Value.ref (nat_lit 563)) _) _ _ _); (refine' mayS_spec ?B ?F ?X ?N ?T ?hk ?x0 ?x1 ?x2 ?x3 ?hd ?hu ?_; kfm_turns; (case x0 => exact SortIn.keepsT S0 T8.kp); (case x1 => exact Ok0); (case x2 => exact SortIn.keepsT S T8.kp); (case x3 => exact Ok); k_whole); intro h9 tk9 F9 N9; (try rw [hmt]); kqd_sub)
      | ((with_reducible show wpAny _ _ (compareOp CmpOp.Eq (Value.ref _) (Value.ref _)) _ _ _); (with_reducible rename News _ _ _ _ => N8); (refine at_eq N8 (List.mem_cons_of_mem _ (List.mem_cons_of_mem _ mq9)) (List.mem_cons_self ..) (by rw [tn9]; omega) (by first | k_units | ktr_units | omega) ?_))
      | walk_at "t9")
    exact ret _ _ _ (by assumption) (by assumption) T8.kp.cons T8.kq.cons (T8.pen.sub (fun q hq => List.mem_cons_of_mem _ hq) (Int.le_refl _))

end
section
/-- the cells made so far -/
def InvP (i : Nat) (ys : List Value) : Prop := ∃ zs, IntsAre ys zs ∧ zs.length = i ∧ ∀ z ∈ zs, 0 ≤ z ∧ z < 20000000000000000000000000000000000000000
theorem ints_get {vs : List Value} {ns : List Int} (h : IntsAre vs ns) : ∀ {i : Nat} {v : Value}, vs.toArray[i]? = some v → ∃ k u, v = .int k u := by
  induction h with
  | nil => intro i v e; simp at e
  | cons k u h ih =>
    intro i v e
    cases i with
    | zero =>
      obtain rfl : _ = v := by simpa using e
      exact ⟨_, _, rfl⟩
    | succ i => exact ih (by simpa using e)
theorem InvP.next {i : Nat} {ys : List Value} {k : Int} {t : Tok} (h : InvP i ys) : InvP (i + 1) (ys ++ [.int ((if k < 0 then -k else k).fmod (10 ^ Int.toNat 40) + 10 ^ Int.toNat 40 * if decide (k < 0) = true then 1 else 0) t]) := by
  refine (?_ : let G9 : Prop := _; G9); intro G9
  obtain ⟨zs, h1, h2, h3⟩ := h
  unfold G9; clear G9
  refine ⟨_, ints_snoc h1 _ t, by rw [List.length_append, h2]; rfl, fun z hz => ?_⟩
  rcases List.mem_append.mp hz with hz | hz
  · exact h3 z hz
  · rw [List.mem_singleton.mp hz]
    have e : (10 : Int) ^ Int.toNat 40 = 10000000000000000000000000000000000000000 := by decide +kernel
    rw [e]
    have a := Int.fmod_nonneg_of_pos (if k < 0 then -k else k) (by decide : (0 : Int) < 10000000000000000000000000000000000000000)
    have b := Int.fmod_lt_of_pos (if k < 0 then -k else k) (by decide : (0 : Int) < 10000000000000000000000000000000000000000)
    generalize Int.fmod (if k < 0 then -k else k) 10000000000000000000000000000000000000000 = f at a b ⊢
    split <;> omega
include B F X N Tp hk in
theorem pen_spec {sc : Addr} {ks : List Int} {vs : List Value}
    (hs : h₀.IsList sc vs.toArray) (hi : IntsAre vs ks) (hl : ks.length ≤ 63) (hdp : dp ≤ 580) (hun : un ≤ 4600)
    (ret : ∀ pn Cc news' h' tk', Fr h₀ L h' m → News h₀ L h' news' → (∀ q ∈ news, q ∈ news') → PenIn news' pn Cc 0 → Q (.ref pn) { s with heap := h', toks := tk' }) :
    wpAny (model pw w) (top9 none dp un gd cn cs L a ccd cl outer) (call (.ref (nat_lit 513)) [.ref sc]) Q E s := by
  tb_start
  ktr_enter
  with_reducible rename Fr _ _ _ (fun y => List.lookup y _) => F2
  replace F2 : Fr _ _ _ (fun y => List.lookup y [(Str.ofString "script", .ref sc)]) := F2
  (try (generalize s.toks + List.length _ = tk0))
  with_reducible rename Fr h₀ L _ m => FGx
  have hs2 := hs.at fun o e => FGx.keep _ o e
  repeat' (first
    | ((with_reducible show wpAny _ _ (exec (Stmt.Assign _ (Expr.ListComp _ _ _ _) _) _) _ _ _); k_here; k_dflt (refine PyProof.Rows.LCg.Assign_ListComp_U (F₀ := by k_asm) (by rfl) (by with_unfolding_all rfl) (by rfl) (by decide) (by rfl) (by decide) (by rfl) (by rfl) (by rfl) ?_))
    | ((with_reducible show PyProof.Rows.LCg.CompSrc _ _ _ _ _ _ _ _ _ _ _ _ _ _); (refine Halt.go ?_))
    | walk_at "t9")
  refine Halt.back ?_
  have hI2 := (by assumption : IntsAre _ (List.take 30 ks))
  have hI3 := hI2.length
  with_reducible rename News _ _ _ _ => N8
  refine PyProof.Rows.LCg.CompSrc.ledger rfl (by k_asm) N8 (List.mem_cons_self ..) (by rw [List.size_toArray, sizeLine_eq]; omega) ?_
  intro g9
  refine CompRest_ind (Inv := InvP) ?_ ?_ _ 0 [] ⟨[], .nil, rfl, fun _ h => nomatch h⟩ (Nat.zero_add _)
  · intro i v ys I oI C oC D m2 h tk E' hv inv hC' hx' F' N' off' ne'
    refine (?_ : let G9 : Prop := _; G9); intro G9
    obtain ⟨k9, u9, eq9_0⟩ := ints_get hI2 hv
    unfold G9; clear G9
    subst eq9_0
    repeat' (first
      | walk_at "t9")
    exact ⟨_, _, _, rfl, by assumption, by assumption, off', .inr ⟨_, List.mem_cons_self .., rfl, _, rfl⟩, rfl, inv.next⟩
  · intro ys inv
    refine (?_ : let G9 : Prop := _; G9); intro G9
    obtain ⟨zs, hz1, hz2, hz3⟩ := inv
    unfold G9; clear G9
    unfold PyProof.Rows.LCg.FinA
    intro D8 h8 tk8 F8 N7 o8
    repeat' (first
      | walk_at "t9")
    exact ret _ _ _ _ _ (by assumption) (by assumption) (fun q hq => List.mem_cons_of_mem _ (List.mem_cons_of_mem _ (List.mem_cons_of_mem _ hq))) ⟨_, _, _, _, _, _, _, _, List.mem_cons_self .., List.mem_cons_of_mem _ (List.mem_cons_self ..), hz1, by rw [hz2, List.size_toArray]; omega, hz3, Int.le_refl _, Int.le_refl _, Int.le_refl _⟩

end
section
abbrev topC (dp un : Nat) (gd : Option (List Code)) : Around := { handled := none, depth := dp, frames := some [], guards := gd, units := un }
def SortAt (l : List (Addr × Obj)) (a : Addr) : Prop := ∃ ws od z, SortOk ws od z ∧ SortIn l a ws od z
theorem SortAt.keepsT {a b : List (Addr × Obj)} {p : Addr} (h : SortAt a p) (K : KeepsT a b) : SortAt b p := let ⟨ws, od, z, o, s⟩ := h; ⟨ws, od, z, o, s.keepsT K⟩
abbrev rowsOf (as : List Addr) (n : Nat) : Obj := listOf (List.toArray (as.map Value.ref)) n
/-- what the law's loops leave as it stands -/
structure LK (l : List (Addr × Obj)) (lp sp : Addr × Obj) (al : List Addr) : Prop where
  hl : lp ∈ l
  hs : sp ∈ l
  ok : ∀ a ∈ al, SortAt l a
theorem LK.keepsT {l l' : List (Addr × Obj)} {pl sl : Addr} {as bs al : List Addr} {n k : Nat} (h : LK l (pl, rowsOf as n) (sl, rowsOf bs k) al) (K : KeepsT l l') : LK l' (pl, rowsOf as n) (sl, rowsOf bs k) al :=
  ⟨K _ h.hl rows_np list_seq, K _ h.hs rows_np list_seq, fun a ha => (h.ok a ha).keepsT K⟩
abbrev mP (op os : Option Value) (m0 : Str → Option Value) : Str → Option Value := fun y => if y = Str.ofString "seeking" then os else if y = Str.ofString "put" then op else m0 y
theorem mP_start (m0 : Str → Option Value) : m0 = mP (m0 (Str.ofString "put")) (m0 (Str.ofString "seeking")) m0 := by
  funext y
  unfold mP
  by_cases h1 : y = Str.ofString "seeking"
  · rw [if_pos h1, h1]
  rw [if_neg h1]
  by_cases h2 : y = Str.ofString "put"
  · rw [if_pos h2, h2]
  rw [if_neg h2]
theorem mP_put {op os : Option Value} {m0 : Str → Option Value} {v : Value} : (fun y => if y = Str.ofString "put" then some v else mP op os m0 y) = mP (some v) os m0 := by
  funext y
  unfold mP
  by_cases h1 : y = Str.ofString "put"
  · rw [if_pos h1, if_neg (by rw [h1]; decide +kernel), if_pos h1]
  rw [if_neg h1, if_neg h1]
  by_cases h2 : y = Str.ofString "seeking"
  · rw [if_pos h2, if_pos h2]
  rw [if_neg h2, if_neg h2, if_neg h1]
theorem mP_seek {op os : Option Value} {m0 : Str → Option Value} {v : Value} : (fun y => if y = Str.ofString "seeking" then some v else mP op os m0 y) = mP op (some v) m0 := by
  funext y
  unfold mP
  by_cases h2 : y = Str.ofString "seeking"
  · rw [if_pos h2, if_pos h2]
  rw [if_neg h2, if_neg h2, if_neg h2]
/-- ahead of an outer turn -/
def InvO (pn Cc : Addr) (lp sp : Addr × Obj) (al : List Addr) (m0 : Str → Option Value) (vs : List Value) (m : Str → Option Value) (l : List (Addr × Obj)) : Prop :=
  ∃ (op os : Option Value) (as : List Addr) (M : Int), m = mP op os m0 ∧ vs = as.map Value.ref ∧ (∀ a ∈ as, a ∈ al) ∧ LK l lp sp al ∧ PenIn l pn Cc M ∧ M + 146 * (as.length : Int) ≤ 1000
/-- ahead of an inner turn -/
def InvI (pn Cc I : Addr) (it : Obj) (lp sp : Addr × Obj) (al : List Addr) (M1 : Int) (v : Value) (m0 : Str → Option Value) (vs : List Value) (m : Str → Option Value) (l : List (Addr × Obj)) : Prop :=
  ∃ (os : Option Value) (bs : List Addr) (M : Int), m = mP (some v) os m0 ∧ vs = bs.map Value.ref ∧ (∀ a ∈ bs, a ∈ al) ∧ LK l lp sp al ∧ (I, it) ∈ l ∧ PenIn l pn Cc M ∧ M + 21 * (bs.length : Int) ≤ M1
theorem notPen_str {x : Str} {u : Tok} {r : List Value} {n : Nat} : NotPen (listOf (List.toArray (.str x u :: r)) n) := fun C a u b v k e => by
  have e1 := congrArg Obj.data e
  injection e1 with e2 _
  have e3 := congrArg Array.toList e2
  injection e3 with e4 _
  cases e4
abbrev mL (sl pl pn sc : Addr) : Str → Option Value := fun y => if y = Str.ofString "seeks" then some (.ref sl) else if y = Str.ofString "puts" then some (.ref pl) else if y = Str.ofString "pen" then some (.ref pn) else List.lookup y [(Str.ofString "script", .ref sc)]
theorem law_body {w : World} {p : Program} {loose : List Str} {mean : ExcName → Option Value} {mg mb : Str → Option Value} {h₀ : Heap} {L fa cd sc : Addr} {vs : List Value} {ks : List Int} {dp un : Nat} {gd : Option (List Code)} {s : Shared} {Q : Flow → Shared → Prop} {E : Value → Shared → Prop}
    (K0 : Below (topC dp un gd) h₀ [] h₀) (F : Fr h₀ L s.heap (fun y => List.lookup y [(Str.ofString "script", .ref sc)])) (X : (KW w.params).In h₀) (N : News h₀ L s.heap []) (Tp : Top p loose mean mg mb h₀)
    (hs : h₀.IsList sc vs.toArray) (hi : IntsAre vs ks) (hl : ks.length ≤ 63) (hdp : dp ≤ 310) (hun : un ≤ 1000) (hE9 : PassesOwn (model pw w) ((topC dp un gd).deeper (envOf (Str.ofString "law") (fS (sAt pw 65) pw) L fa (.ref cd))) (envOf (Str.ofString "law") (fS (sAt pw 65) pw) L fa (.ref cd)) E)
    (ret : ∀ m' h' tk' news', Fr h₀ L h' m' → News h₀ L h' news' → Q (.ret (.bool true)) { s with heap := h', toks := tk' }) :
    wpAny (model pw w) ((topC dp un gd).deeper (envOf (Str.ofString "law") (fS (sAt pw 65) pw) L fa (.ref cd))) (execs (fB (sAt pw 65)) (envOf (Str.ofString "law") (fS (sAt pw 65) pw) L fa (.ref cd))) Q E s := by
  tb_start
  repeat' (first
    | ((with_reducible show wpAny _ _ (call (Value.ref (nat_lit 513)) _) _ _ _); (refine' pen_spec ?B ?F ?X ?N ?T ?hk ?x0 ?x1 ?x2 ?hd ?hu ?_; kfm_turns; (case x0 => assumption); (case x1 => assumption); (case x2 => assumption); k_whole); intro pn9 cc9 l9 h9 tk9 F9 N9 K9 P9; kqd_sub)
    | ((with_reducible show wpAny _ _ (call (Value.ref (nat_lit 549)) _) _ _ _); (refine Halt.go ?_))
    | walk_at "t9")
  refine Halt.back ?_
  refine' sorts_spec ?B ?F ?X ?N ?T ?hk ?x0 ?x1 ?hd ?hu ?_
  kfm_turns
  (case x0 => assumption)
  (case x1 => omega)
  intro sl9 bs9 sn9 l7 h7 tk7 F7 N7 K7 P7 ms7 lb9 okb9
  clear K7 K9
  kqd_sub
  repeat' (first
    | ((with_reducible show wpAny _ _ (call (Value.ref (nat_lit 549)) _) _ _ _); (refine Halt.go ?_))
    | walk_at "t9")
  refine Halt.back ?_
  refine' sorts_spec ?B ?F ?X ?N ?T ?hk ?x0 ?x1 ?hd ?hu ?_
  kfm_turns
  (case x0 => exact PenIn.sub P7 (fun q hq => by repeat (first | exact hq | refine List.mem_cons_of_mem _ ?_)) (Int.le_refl _))
  (case x1 => omega)
  intro pl9 as9 rn9 l6 h6 tk6 F6 N6 K6 P6 mp6 la9 oka9
  have LK0 : LK l6 (pl9, rowsOf as9 rn9) (sl9, rowsOf bs9 sn9) (as9 ++ bs9) := ⟨mp6, K6 _ (List.mem_of_mem_drop (i := 0) ms7) rows_np list_seq, fun a ha => by
    rcases List.mem_append.mp ha with h | h
    · exact oka9 a h
    · exact SortAt.keepsT (okb9 a h) K6⟩
  clear K6 ms7 okb9 oka9 P7
  kqd_sub
  repeat' (first
    | ((with_reducible show wpAny _ _ (exec (Stmt.For (Expr.Name _ _) _ _ [] _) _) _ _ _); k_here; k_dflt (refine For9 (hE := hE9) (by k_asm) (by rfl) (by rfl) ?_))
    | ((with_reducible show wpAny _ _ (pyIter (Value.ref _)) (fun it s₂ => LoopAtV _ _ _ _ _ _ _ _ _ it s₂) _ _); (refine Halt.go ?_))
    | walk_at "t9")
  refine Halt.back ?_
  with_reducible rename News _ _ _ _ => N8
  refine iter_list9 rfl (by k_asm) N8 (List.mem_cons_of_mem _ mp6) fun I hI => ?_
  clear hI
  refine' SeqRest.ind (Inv := InvO pn9 cc9 (pl9, rowsOf as9 rn9) (sl9, rowsOf bs9 sn9) (as9 ++ bs9) (mL sl9 pl9 pn9 sc)) ?_ ?_ _ _ _ ?inv
  case inv => exact ⟨_, _, as9, _, mP_start _, rfl, fun a h => List.mem_append_left _ h, LK0.keepsT (.sub fun q hq => List.mem_cons_of_mem _ hq), P6.sub (fun q hq => List.mem_cons_of_mem _ hq) (Int.le_refl _), by rw [la9]; omega⟩
  · intro v r m1 l it h tk hx9_7 F1 N1 off io
    refine (?_ : let G9 : Prop := _; G9); intro G9
    obtain ⟨op, os, as, M, eq9_0, hv, has, K, P, hM⟩ := hx9_7
    unfold G9; clear G9
    subst eq9_0
    cases as with
    | nil => cases hv
    | cons a as2 =>
      injection hv with hv1 hv2
      subst hv1 hv2
      rw [mP_put] at F1
      simp only [List.length_cons] at hM
      refine (?_ : let G9 : Prop := _; G9); intro G9
      obtain ⟨ws, od, z, o, S⟩ := K.ok a (has a (List.mem_cons_self ..))
      unfold G9; clear G9
      try dsimp only
      repeat' (first
        | ((with_reducible show wpAny _ _ (call (Value.ref (nat_lit 570)) _) _ _ _); (refine' right0_spec ?B ?F ?X ?N ?T ?hk ?x0 ?x1 ?x2 ?x3 ?x4 ?x5 ?hd ?hu ?_; kfm_turns; (case x0 => assumption); (case x1 => assumption); (case x2 => first | assumption | exact PenIn.sub (by assumption) (fun q hq => by repeat (first | exact hq | refine List.mem_cons_of_mem _ ?_)) (Int.le_refl _)); (case x3 => omega); (case x4 => exact S.keepsT (.sub (fun q hq => by repeat (first | exact hq | refine List.mem_cons_of_mem _ ?_)))); (case x5 => assumption); k_whole); intro l9 h9 tk9 F9 N9 K9 Q9 P9; kqd_sub)
        | ((with_reducible show wpAny _ _ (exec (Stmt.For (Expr.Name _ _) _ _ [] _) _) _ _ _); k_here; k_dflt (refine For9 (hE := hE9) (by k_asm) (by rfl) (by rfl) ?_))
        | ((with_reducible show wpAny _ _ (pyIter (Value.ref _)) (fun it s₂ => LoopAtV _ _ _ _ _ _ _ _ _ it s₂) _ _); (refine Halt.go ?_))
        | walk_at "t9")
      refine Halt.back ?_
      have K2 := K.keepsT (K9.trans' (.sub fun q hq => List.mem_cons_of_mem _ hq))
      have hI2 := Q9 _ (List.mem_cons_self ..) io
      refine iter_list9 rfl (by k_asm) N9 K2.hs fun I2 hJ => ?_
      clear hJ
      refine' SeqRest.ind (Inv := InvI pn9 cc9 I it (pl9, rowsOf as9 rn9) (sl9, rowsOf bs9 sn9) (as9 ++ bs9) (M + 146) (.ref a) (mL sl9 pl9 pn9 sc)) ?_ ?_ _ _ _ ?inv
      case inv => exact ⟨os, bs9, _, rfl, rfl, fun b h => List.mem_append_right _ h, K2, hI2, P9, by rw [lb9]; omega⟩
      · intro v r m2 l2 it2 h2 tk2 hx9_7 F2 N2 off2 io2
        refine (?_ : let G9 : Prop := _; G9); intro G9
        obtain ⟨os2, bs, M2, eq9_0, hv, hbs, K3, hI3, P3, hM3⟩ := hx9_7
        unfold G9; clear G9
        subst eq9_0
        cases bs with
        | nil => cases hv
        | cons b bs2 =>
          injection hv with hv1 hv2
          subst hv1 hv2
          rw [mP_seek] at F2
          simp only [List.length_cons] at hM3
          try dsimp only
          repeat' (first
            | ((with_reducible show wpAny _ _ (call (Value.ref (nat_lit 527)) _) _ _ _); (refine Halt.go ?_))
            | walk_at "t9")
          refine Halt.back ?_
          with_reducible rename News _ _ _ _ => N8
          refine' pickL_spec ?B ?F ?X ?N ?T ?hk ?x0 ?x1 ?x2 ?x3 ?x4 ?x5 ?hd ?hu ?_
          kfm_turns
          (case x0 => exact PenIn.sub P3 (fun q hq => by repeat (first | exact hq | refine List.mem_cons_of_mem _ ?_)) (Int.le_refl _))
          (case x1 => omega)
          (case x2 => exact List.mem_cons_self ..)
          (case x3 => exact notPen_str)
          (case x4 => exact Nat.le_of_ble_eq_true rfl)
          (case x5 => exact Nat.le_of_ble_eq_true rfl)
          intro v9 l7 h7 tk7 hv9 F7 N7 K7 P7
          have KL := KeepsB.toL K7 (PenIn.sub P3 (fun q hq => by repeat (first | exact hq | refine List.mem_cons_of_mem _ ?_)) (Int.le_refl _)) N8
          have hk9 : ∃ x u, v9 = .str x u ∧ (x == Str.ofString "CHARACTERS") = false := by
            rcases List.mem_cons.mp hv9 with e | hv9
            · exact ⟨_, _, e, by decide +kernel⟩
            rcases List.mem_cons.mp hv9 with e | hv9
            · exact ⟨_, _, e, by decide +kernel⟩
            rcases List.mem_cons.mp hv9 with e | hv9
            · exact ⟨_, _, e, by decide +kernel⟩
            cases hv9
          refine (?_ : let G9 : Prop := _; G9); intro G9
          obtain ⟨x9, u9, eq9_0, hx9⟩ := hk9
          unfold G9; clear G9
          subst eq9_0
          have K4 := K3.keepsT (KL.toT.trans' (.sub fun q hq => List.mem_cons_of_mem _ (List.mem_cons_of_mem _ hq)))
          have hI4 := KL _ (List.mem_cons_of_mem _ (List.mem_cons_of_mem _ hI3)) (io_np io) (io_nd io)
          have hJ4 := KL _ (List.mem_cons_of_mem _ (List.mem_cons_self ..)) (io_np io2) (io_nd io2)
          refine (?_ : let G9 : Prop := _; G9); intro G9
          obtain ⟨ws, od, z, o, S⟩ := K4.ok a (has a (List.mem_cons_self ..))
          unfold G9; clear G9
          refine (?_ : let G9 : Prop := _; G9); intro G9
          obtain ⟨ws0, od0, z0, o0, S0⟩ := K4.ok b (hbs b (List.mem_cons_self ..))
          unfold G9; clear G9
          clear K7 KL hv9
          kqd_sub
          repeat' (first
            | ((with_reducible show wpAny _ _ (call (Value.ref (nat_lit 570)) _) _ _ _); (refine' rightS_spec ?B ?F ?X ?N ?T ?hk ?x0 ?x1 ?x2 ?x3 ?x4 ?x5 ?x6 ?x7 ?x8 ?hd ?hu ?_; kfm_turns; (case x0 => assumption); (case x1 => assumption); (case x2 => first | assumption | exact PenIn.sub (by assumption) (fun q hq => by repeat (first | exact hq | refine List.mem_cons_of_mem _ ?_)) (Int.le_refl _)); (case x3 => omega); (case x4 => exact S0.keepsT (.sub (fun q hq => by repeat (first | exact hq | refine List.mem_cons_of_mem _ ?_)))); (case x5 => exact o0); (case x6 => exact S.keepsT (.sub (fun q hq => by repeat (first | exact hq | refine List.mem_cons_of_mem _ ?_)))); (case x7 => exact o); (case x8 => assumption); k_whole); intro l9 h9 tk9 F9 N9 K9 Q9 P9; kqd_sub)
            | walk_at "t9")
          refine unr_end9J (by k_asm) (by k_asm) (Q9 _ hJ4 io2) io2 ?_
          intro n8 K8 J8
          have K5 := K4.keepsT (K8.toT.trans' K9)
          exact ⟨K5.hs, _, bs2, _, rfl, rfl, fun c h => hbs c (List.mem_cons_of_mem _ h), K5, J8 _ (Q9 _ hI4 io) (off2 _ hI3), P9.keepsI K8, by omega⟩
      · intro m2 l2 h2 tk2 hx9_4 F2 N2
        refine (?_ : let G9 : Prop := _; G9); intro G9
        obtain ⟨os2, bs, M2, eq9_0, hv, hbs, K3, hI3, P3, hM3⟩ := hx9_4
        unfold G9; clear G9
        subst eq9_0
        try dsimp only
        repeat' (first
          | walk_at "t9")
        refine unr_end9J (by k_asm) (by k_asm) hI3 io ?_
        intro n8 K8 J8
        exact ⟨K8 _ K3.hl list_seq, _, _, as2, _, rfl, rfl, fun c h => has c (List.mem_cons_of_mem _ h), K3.keepsT K8.toT, P3.keepsI K8, by omega⟩
  · intro m1 l h tk hx9_4 F1 N1
    refine (?_ : let G9 : Prop := _; G9); intro G9
    obtain ⟨op, os, as, M, eq9_0, hv, has, K, P, hM⟩ := hx9_4
    unfold G9; clear G9
    subst eq9_0
    try dsimp only
    repeat' (first
      | walk_at "t9")
    exact ret _ _ _ _ (by assumption) (by assumption)

end
end
end Mine
namespace Mine
section
set_option maxRecDepth 100000
open PySem PySem.W PySem.Calls
theorem dq_body : dQ.body = fB (sAt pw (nat_lit 65)) := by
  show fB (sAt prgQ (nat_lit 65)) = fB (sAt PySem.Challenge.pw_pb0267_01 (nat_lit 65))
  rw [prg_is]
theorem dq_scope : dQ.scope = fS (sAt pw (nat_lit 65)) pw := by
  show fS (sAt prgQ (nat_lit 65)) prgQ = fS (sAt PySem.Challenge.pw_pb0267_01 (nat_lit 65)) PySem.Challenge.pw_pb0267_01
  rw [prg_is]
theorem dq_name : dQ.name = Str.ofString "law" := by kernel_rfl
set_option maxHeartbeats 0 in
theorem callQ : CallQ := by
  show WalkO qQ looseQ (XL qQ []) (kmHook KQ kAs kq_as kTs).says PySem.Challenge.rw_pb0267_01.row.toRowW dQ [] fun f vs => PySem.call f vs
  k_fill
  intro w s₀ s₁ mg mb G Y fa o pm cd doc dV kV ho hd hcd hD hmg hg args vals as hpre hlay hrd hwl hlo
  have KX := km_in_of Y
  have X := (Ground.X G).1
  have V := (Ground.X G).2
  refine Ground.open G ?_
  intro T B D TE TW
  try (refine guard_noD D (by decide +kernel) ?_; clear D)
  obtain ⟨_, _, M⟩ := bmod_of_top T
  have TA := at_of_top T
  try (obtain ⟨_, _, he, B0⟩ := based_of_top T rfl hmg ho hd; have he' : cd = _ := he; subst he'; clear he)
  clear hmg
  wrow_args hpre hlay hrd hwl hlo
  first | refine callC_kw (enter_call ?_) | refine enter_call ?_
  w_top on
  try refine codeAny_mono ?_ (fun _ _ g => GoodW.toG g)
  have K0 := below_caller (Top.heap T)
  w_call any ho hd hcd hD T F
  clear hd TA
  k_drop
  rw [dq_body, dq_scope, dq_name]
  have XW : (KW w.params).In s₁.heap := by
    rw [kw_q]
    exact KX
  refine law_body (by assumption) (by assumption) XW (by assumption) (by assumption) (by assumption) (by assumption) (by omega) (by decide) (by decide) (by passes_own) ?_
  intro m9 h9 tk9 news9 F9 N9
  dsimp only
  wrow_close
end
end Mine
theorem PySem.Challenge.cw_pb0267_01_holds : PySem.Challenge.rw_pb0267_01.Holds :=
  Mine.headQ Mine.callQ
