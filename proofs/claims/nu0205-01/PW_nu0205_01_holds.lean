import PyProof.Rows.All
import Wide.All
import OpenK.AllK
import Wide.FinOn
import PySem.Names
import PyProof.Rows.Walk
import KE.KDictSum
import PyProof.Rows.SetFrom
import KE.KDictOf
import PyProof.AttrMissSeq
import KE.KIsAll
import KE.KDictList
import PyProof.CompUse
import PyProof.WalksPairs
import PyProof.ForAny
import PyProof.NsMap
import Lean
import PySem.Challenge.RW_nu0205_01
set_option genSizeOf false
set_option genInjectivity false
set_option Elab.async false
section
set_option maxHeartbeats 0
open PySem PySem.W PyProof.Rows
namespace Mine
-- Hw
theorem wsF : Fast.tw9446332074065402090 PySem.Challenge.rw_nu0205_01 = true := by
  unfold Fast.tw9446332074065402090 Fast.tw17960256430627541270 Fast.tw2436336058641802641 Fast.tw12908688711261696721
  repeat' with_reducible apply look_both
  all_goals decide +kernel
theorem ws : PySem.Challenge.rw_nu0205_01.wellSaid = true := (congrFun Fast.te9446332074065402090 _).trans wsF
end Mine
end
section
set_option maxHeartbeats 0
open PySem PySem.W PyProof.Rows
namespace Mine
-- Hb
noncomputable def ent (P : Params) (x : Str) (t : Nat) (v : Value) : DictEntry := ⟨PyData.keyHash P x, .str x t, v⟩
noncomputable def ob (c : String) (d : Data) : Obj := ⟨.type c, none, d, #[]⟩
noncomputable def fld (l : List Value) : Data := .fields ⟨l⟩
noncomputable def nul : List Value := [.none, .none, .none, .none]
noncomputable def file : Str := Str.ofString "/claim/cut.py"
noncomputable def locs (sc : Scope) : List Str := (sc.names.filter fun x => x.2 == .local).map (·.1)
noncomputable def strL (t : Nat) : List Str → List Value
  | [] => []
  | a :: r => .str a t :: strL (t + 1) r
noncomputable def vx {α : Type} (e : Expr) (c : Const → α) (n : Str → Pos → α) (t : List Expr → α) (d : α) : α := match e with
  | .Constant k _ _ => c k
  | .Name x p => n x p
  | .Tuple es _ _ => t es
  | _ => d
noncomputable def vw {α : Type} (s : Stmt) (f : Str → Arguments → List Stmt → Scope → Pos → α) (c : Str → List Stmt → List Str → Pos → α) (a : Str → Pos → Expr → α) (d : α) : α := match s with
  | .FunctionDef nm as b _ _ _ sc _ _ p => f nm as b sc p
  | .ClassDef nm _ _ b _ _ _ _ _ sa p => c nm b sa p
  | .Assign ts v _ => vx (ts.headD v) (fun _ => d) (fun x p => a x p v) (fun _ => d) d
  | _ => d
noncomputable def cVal (t : Nat) : Const → Value × Nat
  | .int i => (.int i t, t + 1)
  | .str i => (.str i t, t + 1)
  | .bool i => (.bool i, t)
  | _ => (.none, t)
noncomputable def cst (t : Nat) : List Expr → List Value × Nat
  | e :: r => vx e (fun c => let y := cVal t c; let x := cst y.2 r; (y.1 :: x.1, x.2)) (fun _ _ => ([], t)) (fun _ => ([], t)) ([], t)
  | [] => ([], t)
structure Laid1 where
  os : List Obj
  fn : Nat
  t : Nat
noncomputable def codeO (nm q : Str) (t ln na fl n : Nat) (b : Bool) (rest : List Value) (id : Nat) : Obj :=
  ob "code" (fld (.str nm t :: .str q (t + 1) :: .str file (t + 2) :: .int ln 0 :: .int na 0 :: .int 0 0 :: .int 0 0 :: .int fl 0 :: .ref n :: .bool b :: .int 181 0 :: .ref (n + 1) :: rest ++ [.int id 0, .int ln 0, .str file (id + 1)]))
noncomputable def def1 (q : Str) (mv : Value) (n t : Nat) (nm : Str) (as : Arguments) (body : List Stmt) (sc : Scope) (ln : Nat) : Laid1 :=
  let d := cst t as.defaults
  let pl := as.defaults.isEmpty
  let n0 := if pl then n else n + 1
  let lazy := !sc.more.isEmpty
  let nf := if lazy then n0 + 2 else n0 + 4
  let id := if lazy then d.2 + 3 else d.2 + 3 + (locs sc).length
  let fd : FuncData := { name := nm, qualname := q, params := as, body := .stmts body, scope := sc, globals := 0, closure := [], defaults := .none, kwdefaults := .none }
  ⟨(if pl then [] else [ob "tuple" (.seq ⟨d.1⟩)]) ++ [ob "tuple" (.seq #[]), ⟨.none, none, fld [], #[]⟩] ++
    (if lazy then [] else [ob "tuple" (.seq ⟨strL (d.2 + 3) (locs sc)⟩), ob "tuple" (.seq #[])]) ++
    [⟨.none, none, .func fd, #[]⟩,
     codeO nm q d.2 ln as.args.length 3 n0 true (if lazy then [.none, .none, .none, .ref nf] else [.none, .ref (n0 + 2), .ref (n0 + 3), .ref nf]) id,
     ob "function" (.func { fd with globals := 3, defaults := if pl then .none else .ref n, pyModule := mv, code := .ref (nf + 1) })],
   nf + 2, id + 2⟩
structure LaidM where
  es : List DictEntry
  ks : List Value
  os : List Obj
  n : Nat
  t : Nat
noncomputable def meths (P : Params) (c : Str) (mv : Value) : Nat → Nat → List Stmt → LaidM
  | n, t, s :: r => vw s (fun nm as body sc pos =>
    let d := def1 (c ++ Str.ofString "." ++ nm) mv n t nm as body sc pos.line
    let x := meths P c mv (d.fn + 1) (d.t + 1) r
    ⟨ent P nm d.t (.ref d.fn) :: x.es, .int pos.line 0 :: .int pos.col 0 :: .ref (d.fn - 1) :: x.ks, d.os ++ x.os, x.n, x.t⟩) (fun _ _ _ _ => ⟨[], [], [], n, t⟩) (fun _ _ _ => ⟨[], [], [], n, t⟩) ⟨[], [], [], n, t⟩
  | n, t, [] => ⟨[], [], [], n, t⟩
structure LaidS where
  os : List Obj
  n : Nat
  t : Nat
  key : Str
  val : Value
  ks : List Value
noncomputable def cls1 (P : Params) (mv : Value) (n t : Nat) (nm : Str) (body : List Stmt) (sa : List Str) (pos : Pos) : LaidS :=
  let m := meths P nm mv (n + 7) (t + 12) body
  let e0 := ent P (Str.ofString "__module__") (t + 7) mv
  let e2 := ent P (Str.ofString "__firstlineno__") (t + 11) (.int pos.line (t + 10))
  let t1 := m.t + sa.length
  let C := m.n + 2
  let es := ent P (Str.ofString "__static_attributes__") t1 (.ref m.n)
  ⟨[ob "tuple" (.seq #[]), ob "builtin_function_or_method" (fld [.builtin "type.__prepare__", .type "type"]),
    ob "dict" (.dict ⟨e0 :: ent P (Str.ofString "__qualname__") (t + 9) (.str nm (t + 8)) :: e2 :: m.es ++ [es]⟩ (4 + m.es.length)),
    ob "tuple" (.seq #[]), ⟨.none, none, fld m.ks, #[]⟩, codeO nm nm (t + 2) pos.line 0 0 (n + 3) false nul (t + 5),
    ⟨.type "frame", none, .plain, #[some (.ref (n + 5)), some (.ref 3), some (.ref (n + 2)), none, some mv, none, some (.ref 0)]⟩] ++ m.os ++
   [ob "tuple" (.seq ⟨strL m.t sa⟩),
    ob "dict" (.dict ⟨e0 :: e2 :: m.es ++ [es, ent P (Str.ofString "__dict__") (t1 + 2) (.ref (C + 1)), ent P (Str.ofString "__weakref__") (t1 + 4) (.ref (C + 2)), ent P (Str.ofString "__doc__") (t1 + 5) .none]⟩ 4),
    ⟨.type "type", none, .cls { name := nm, bases := [.type "object"], mro := [.ref C, .type "object"], ns := m.n + 1, qualname := nm }, #[none, none, some (.str nm t), some (.str nm (t + 8)), some (.builtin "object.__new__"), some (.bool true)]⟩,
    ob "getset_descriptor" (fld [.str (Str.ofString "__dict__") (t1 + 1), .ref C, .builtin "function.__dict__", .builtin "function.__dict__#set"]),
    ob "getset_descriptor" (fld [.str (Str.ofString "__weakref__") (t1 + 3), .ref C, .builtin "ExceptionGroup.__weakref__", .none]),
    ob "super" (fld [.ref C, .ref C, .ref C]), ob "builtin_function_or_method" (fld [.builtin "object.__init_subclass__", .ref C])],
   C + 5, t1 + 7, nm, .ref C, [.int pos.line 0, .int pos.col 0, .ref (n + 5)]⟩
noncomputable def st1 (P : Params) (mv : Value) (n t : Nat) (s : Stmt) : LaidS :=
  vw s (fun nm as body sc pos => let d := def1 nm mv n t nm as body sc pos.line; ⟨d.os, d.fn + 1, d.t, nm, .ref d.fn, [.int pos.line 0, .int pos.col 0, .ref (d.fn - 1)]⟩)
    (fun nm body sa pos => cls1 P mv n t nm body sa pos)
    (fun x _ v =>
      let o : LaidS := ⟨[], n, t, Str.empty, .none, []⟩
      vx v (fun c => let y := cVal t c; ⟨[], n, y.2, x, y.1, []⟩) (fun _ _ => o) (fun es => let d := cst t es; ⟨[ob "tuple" (.seq ⟨d.1⟩)], n + 1, d.2, x, .ref n, []⟩) o) ⟨[], n, t, Str.empty, .none, []⟩
noncomputable def plan : List (Value × List (Nat × Nat)) := [(.str (Str.ofString "__main__") 164, [(15, 187), (22, 194)]), (.str (Str.ofString "joinedhand.flags") 194, [(22, 196), (22, 198), (22, 200), (22, 202), (22, 204), (22, 206), (48, 247), (70, 287), (77, 294), (84, 301), (91, 312), (98, 320), (105, 328)]), (.str (Str.ofString "joinedhand.buffer") 328, [(105, 330), (140, 389), (184, 446), (189, 452)]), (.str (Str.ofString "joinedhand.matching") 452, [(189, 454), (190, 457), (191, 461), (198, 469), (205, 479), (212, 487), (219, 495), (226, 503), (233, 517), (240, 529), (247, 541), (254, 550), (261, 559)]), (.str (Str.ofString "joinedhand.cursive") 559, [(261, 561), (261, 563), (268, 574), (275, 585), (282, 592), (289, 606), (296, 616), (303, 626), (310, 639)]), (.str (Str.ofString "joinedhand.anchors") 639, [(310, 641), (317, 649)]), (.str (Str.ofString "joinedhand.marks") 649, [(317, 651), (317, 653), (324, 663), (331, 671), (338, 681), (345, 691), (352, 706), (359, 716), (366, 725), (373, 737), (380, 745), (387, 757)]), (.str (Str.ofString "joinedhand.coverage") 757, [(387, 759), (429, 814), (436, 823)]), (.str (Str.ofString "joinedhand.contexts") 823, [(436, 825), (436, 827), (436, 829), (471, 878), (512, 938), (517, 944), (522, 950), (529, 962), (534, 968)]), (.str (Str.ofString "joinedhand.nested") 968, [(534, 970), (534, 972), (534, 974), (555, 1005), (562, 1021), (569, 1029), (574, 1035), (579, 1041), (586, 1050), (593, 1065), (600, 1076), (607, 1088)]), (.str (Str.ofString "joinedhand.values") 1088, [(607, 1090), (642, 1139), (649, 1148), (675, 1183), (682, 1194)]), (.str (Str.ofString "joinedhand.pair") 1194, [(682, 1196), (689, 1203), (694, 1209), (728, 1255), (760, 1303), (767, 1310), (774, 1322)]), (.str (Str.ofString "joinedhand.gpos") 1322, [(774, 1324), (781, 1334), (788, 1344), (795, 1353), (800, 1359), (807, 1368), (814, 1387)]), (.str (Str.ofString "joinedhand.classdefs") 1387, [(814, 1389), (861, 1449)]), (.str (Str.ofString "joinedhand.gdef") 1449, [(861, 1451), (861, 1453), (861, 1455), (861, 1457), (909, 1526)]), (.str (Str.ofString "law_nu0205_01") 1526, [(909, 1528), (914, 1534), (921, 1547), (928, 1555), (935, 1562), (940, 1568), (945, 1574), (950, 1580), (957, 1590), (964, 1600), (971, 1611), (978, 1619), (985, 1629), (992, 1643), (999, 1660), (1006, 1677), (1013, 1691), (1020, 1702), (1025, 1708)])]
structure LaidT where
  es : List DictEntry
  ks : List Value
  os : List Obj
noncomputable def top (P : Params) : List (Value × Nat × Nat) → List Stmt → LaidT
  | (mv, n, t) :: m, s :: r =>
    let x := st1 P mv n t s
    let y := top P m r
    ⟨if x.key == Str.ofString "__name__" then y.es else ent P x.key x.t x.val :: y.es, x.ks ++ y.ks, x.os ++ y.os⟩
  | _, _ => ⟨[], [], []⟩
noncomputable def planL : List (Value × Nat × Nat) := plan.flatMap fun x => x.2.map fun y => (x.1, y)
noncomputable def mvAt (k : Nat) : Value := match planL.drop k with
  | x :: _ => x.1
  | [] => .str (Str.ofString "law_nu0205_01") 1526
noncomputable def body : List Stmt := PySem.Challenge.pw_nu0205_01.main.body
noncomputable def envT : Env := { scope := PySem.Challenge.pw_nu0205_01.main.scope, locals := mainNs, globals := mainNs, cells := [], code := .ref 13, frame := some 14 }
noncomputable def posOf (s : Stmt) : Pos := vw s (fun _ _ _ _ p => p) (fun _ _ _ p => p) (fun _ p _ => p) default
noncomputable def posAt : Nat → Pos
  | 0 => default
  | k + 1 => (body[k]?.map posOf).getD default
noncomputable def ev : List Obj → List Obj
  | [] => []
  | a :: [] => [a]
  | a :: _ :: r => a :: ev r
noncomputable def od : List Obj → List Obj
  | [] => []
  | _ :: [] => []
  | _ :: b :: r => b :: od r
noncomputable def bt : Nat → List Obj → BT
  | 0, _ => .nil
  | _ + 1, [] => .nil
  | n + 1, x :: r => .node x (bt n (ev r)) (bt n (od r))
noncomputable def ev2 : List Obj → List Obj
  | [] => []
  | a :: [] => [a]
  | a :: _ :: r => a :: ev2 r
noncomputable def od2 : List Obj → List Obj
  | [] => []
  | _ :: [] => []
  | _ :: b :: r => b :: od2 r
noncomputable def bt2 : Nat → List Obj → BT
  | 0, _ => .nil
  | _ + 1, [] => .nil
  | n + 1, x :: r => .node x (bt2 n (ev2 r)) (bt2 n (od2 r))
noncomputable def ap {α : Type} : List α → List α → List α
  | [], m => m
  | a :: r, m => a :: ap r m
noncomputable def globO (P : Params) (mv : Value) (T : LaidT) : Obj := match boot_o_3 P with
  | ⟨c, d, .dict ⟨e :: r⟩ n, s⟩ => ⟨c, d, .dict ⟨{ e with val := mv } :: (ap r T.es)⟩ (n + T.es.length), s⟩
  | o => o
noncomputable def objsAt (P : Params) (mv : Value) (T : LaidT) : List Obj :=
  boot_o_0 P :: boot_o_1 P :: boot_o_2 P :: globO P mv T :: boot_o_4 P :: boot_o_5 P :: boot_o_6 P :: boot_o_7 P :: boot_o_8 P :: boot_o_9 P :: boot_o_10 P ::
  ob "tuple" (.seq #[]) :: ⟨.none, none, fld T.ks, #[]⟩ :: codeO (Str.ofString "<module>") (Str.ofString "<module>") 182 1 0 0 11 false nul 185 ::
  ⟨.type "frame", none, .plain, #[some (.ref 13), some (.ref 3), some (.ref 3), none, some (.str (Str.ofString "__main__") 164), none, some (.ref 0)]⟩ :: T.os
noncomputable def topAt (P : Params) (k : Nat) : LaidT := top P planL (body.take k)
noncomputable def Sk (w : World) (os : OsState) (k n t : Nat) : SharedT := ⟨bt 11 (objsAt w.params (mvAt k) (topAt w.params k)), n, {}, #[], {}, t, os⟩
noncomputable def Sk2 (w : World) (os : OsState) (k n t : Nat) : SharedT := ⟨bt2 11 (objsAt w.params (mvAt k) (topAt w.params k)), n, {}, #[], {}, t, os⟩
abbrev PieceF (i l n t n' t' m : Nat) : Prop := ∀ (p : Program) (b : List Stmt) (w : World) (os : OsState),
  Fast.tw10110043849684766642 Fast.tw14364793385576792824 p w 11 (some (.ref 6)) 1 m (Sk w os i n t) ⟨(Fast.tw12563942051412417395 ((body.drop i).take l) envT).wrap doneF deadEnd id id, .body b envT, posAt i, [topFrame default]⟩ =
    some (.next, Sk2 w os (i + l) n' t', .body b envT, posAt (i + l))
end Mine
end
section
set_option maxHeartbeats 0
open PySem PySem.W PyProof.Rows
namespace Mine
-- Hp
set_option maxHeartbeats 0
theorem pc_0 : PieceF 0 8 15 187 48 247 340 := by intro p b w os; kernel_rfl!
theorem pc_8 : PieceF 8 7 48 247 105 330 395 := by intro p b w os; kernel_rfl!
theorem pc_15 : PieceF 15 1 105 330 140 389 301 := by intro p b w os; kernel_rfl!
theorem pc_16 : PieceF 16 4 140 389 190 457 389 := by intro p b w os; kernel_rfl!
theorem pc_20 : PieceF 20 14 190 457 268 574 383 := by intro p b w os; kernel_rfl!
theorem pc_34 : PieceF 34 14 268 574 345 691 381 := by intro p b w os; kernel_rfl!
theorem pc_48 : PieceF 48 7 345 691 387 759 208 := by intro p b w os; kernel_rfl!
theorem pc_55 : PieceF 55 5 387 759 436 829 379 := by intro p b w os; kernel_rfl!
theorem pc_60 : PieceF 60 1 436 829 471 878 291 := by intro p b w os; kernel_rfl!
theorem pc_61 : PieceF 61 3 471 878 522 950 377 := by intro p b w os; kernel_rfl!
theorem pc_64 : PieceF 64 8 522 950 569 1029 380 := by intro p b w os; kernel_rfl!
theorem pc_72 : PieceF 72 7 569 1029 607 1090 197 := by intro p b w os; kernel_rfl!
theorem pc_79 : PieceF 79 2 607 1090 649 1148 322 := by intro p b w os; kernel_rfl!
theorem pc_81 : PieceF 81 5 649 1148 694 1209 348 := by intro p b w os; kernel_rfl!
theorem pc_86 : PieceF 86 1 694 1209 728 1255 287 := by intro p b w os; kernel_rfl!
theorem pc_87 : PieceF 87 5 728 1255 781 1334 391 := by intro p b w os; kernel_rfl!
theorem pc_92 : PieceF 92 6 781 1334 814 1389 171 := by intro p b w os; kernel_rfl!
theorem pc_98 : PieceF 98 5 814 1389 861 1457 384 := by intro p b w os; kernel_rfl!
theorem pc_103 : PieceF 103 3 861 1457 914 1534 393 := by intro p b w os; kernel_rfl!
theorem pc_106 : PieceF 106 12 914 1534 992 1643 368 := by intro p b w os; kernel_rfl!
theorem pc_118 : PieceF 118 6 992 1643 1030 1714 200 := by intro p b w os; kernel_rfl!
end Mine
end
section
set_option maxHeartbeats 0
open PySem PySem.W PyProof.Rows
namespace Mine
-- Hg
theorem ev2_eq : ∀ l, ev2 l = ev l
  | [] => rfl
  | [_] => rfl
  | a :: _ :: r => congrArg (a :: ·) (ev2_eq r)
theorem od2_eq : ∀ l, od2 l = od l
  | [] => rfl
  | [_] => rfl
  | _ :: b :: r => congrArg (b :: ·) (od2_eq r)
theorem bt2_eq : ∀ n l, bt2 n l = bt n l
  | 0, _ => rfl
  | _ + 1, [] => rfl
  | n + 1, x :: r => by rw [bt2, bt, ev2_eq, od2_eq, bt2_eq n, bt2_eq n]
theorem Sk2_eq {w os k n t} : Sk2 w os k n t = Sk w os k n t := by rw [Sk2, Sk, bt2_eq]
theorem piece_ {i l n t n' t' m : Nat} (h : PieceF i l n t n' t' m) (p b w os) : segRun treeTable p w 11 (some (.ref 6)) 1 m (Sk w os i n t).abs (piecesOf ((body.drop i).take l) envT (.body b envT) (posAt i) [topFrame default]) =
    some (.next, (Sk w os (i + l) n' t').abs, .body b envT, posAt (i + l)) := by
  apply segRun_of
  have h := h p b w os
  rw [Sk2_eq] at h
  rw [Fast.te10110043849684766642, Fast.te14364793385576792824, piecesOf, Fast.te12563942051412417395]
  exact h
theorem step_ {i l j n t n' t' m N : Nat} {p b w os r} (h : PieceF i l n t n' t' m) (e : i + l = j) (k : topRun treeTable p w 11 (some (.ref 6)) N (Sk w os j n' t').abs (restOf (body.drop j) envT (.body b envT) (posAt j) [topFrame default]) = some r) :
    topRun treeTable p w 11 (some (.ref 6)) (m + N) (Sk w os i n t).abs (restOf (body.drop i) envT (.body b envT) (posAt i) [topFrame default]) = some r := by
  subst e
  have := piece_app (rest := body.drop (i + l)) (piece_ h p b w os) k
  rwa [← List.drop_drop, List.take_append_drop] at this
theorem nil_ : body.drop 124 = [] := by kernel_rfl!
theorem finT (p b w os) : topRun treeTable p w 11 (some (.ref 6)) 2 (Sk w os 124 1030 1714).abs (restOf (body.drop 124) envT (.body b envT) (posAt 124) [topFrame default]) = some (Sk w os 124 1030 1714).abs := by
  rw [nil_]; kernel_rfl!
theorem chainT (p b w os) : topRun treeTable p w 11 (some (.ref 6)) (340 + (395 + (301 + (389 + (383 + (381 + (208 + (379 + (291 + (377 + (380 + (197 + (322 + (348 + (287 + (391 + (171 + (384 + (393 + (368 + (200 + 2))))))))))))))))))))) (Sk w os 0 15 187).abs (restOf (body.drop 0) envT (.body b envT) (posAt 0) [topFrame default]) = some (Sk w os 124 1030 1714).abs :=
  step_ pc_0 rfl (step_ pc_8 rfl (step_ pc_15 rfl (step_ pc_16 rfl (step_ pc_20 rfl (step_ pc_34 rfl (step_ pc_48 rfl (step_ pc_55 rfl (step_ pc_60 rfl (step_ pc_61 rfl (step_ pc_64 rfl (step_ pc_72 rfl (step_ pc_79 rfl (step_ pc_81 rfl (step_ pc_86 rfl (step_ pc_87 rfl (step_ pc_92 rfl (step_ pc_98 rfl (step_ pc_103 rfl (step_ pc_106 rfl (step_ pc_118 rfl (finT p b w os)))))))))))))))))))))
theorem preF (w os) : Fast.tw15667345088766844465 Fast.tw14364793385576792824 PySem.Challenge.pw_nu0205_01 w 11 (some (.ref 6)) 12 ⟨boot_heap w.params, #[], boot_drawn, boot_toks, os⟩ (topStub PySem.Challenge.pw_nu0205_01) =
    some ((Sk w os 0 15 187).abs, ⟨Fast.tw11892475500146522536 Fast.tw14364793385576792824 (.body body envT), .body body envT, default, [topFrame default]⟩) := by kernel_rfl!
theorem preT (w os) : topGo treeTable PySem.Challenge.pw_nu0205_01 w 11 (some (.ref 6)) 12 ⟨boot_heap w.params, #[], boot_drawn, boot_toks, os⟩ (topStub PySem.Challenge.pw_nu0205_01) =
    some ((Sk w os 0 15 187).abs, ⟨denote treeTable (.body body envT), .body body envT, default, [topFrame default]⟩) := by
  rw [Fast.te15667345088766844465, Fast.te14364793385576792824, Fast.te11892475500146522536]
  exact preF w os
theorem blockT (p w os) : segRun treeTable p w 11 (some (.ref 6)) 1 1 (Sk w os 0 15 187).abs (blockOf body envT (.body body envT) default [topFrame default]) = some (.next, (Sk w os 0 15 187).abs, .body body envT, default) := by kernel_rfl!
theorem runT (w os) : topRun treeTable PySem.Challenge.pw_nu0205_01 w 11 (some (.ref 6)) (12 + (1 + (340 + (395 + (301 + (389 + (383 + (381 + (208 + (379 + (291 + (377 + (380 + (197 + (322 + (348 + (287 + (391 + (171 + (384 + (393 + (368 + (200 + 2))))))))))))))))))))))) ⟨boot_heap w.params, #[], boot_drawn, boot_toks, os⟩ (topStub PySem.Challenge.pw_nu0205_01) = some (Sk w os 124 1030 1714).abs :=
  go_top (preT w os) (piece_block (blockT _ w os) (chainT _ _ w os))
end Mine
end
section
set_option maxHeartbeats 0
open PySem PySem.W PyProof.Rows
namespace Mine
-- Hl
noncomputable def TT (P : Params) : BT := bt 11 (objsAt P (mvAt 124) (topAt P 124))
noncomputable def hp (P : Params) : Heap := absHeap (TT P) 1030 {}
noncomputable def keyOf (s : Stmt) : Option Str := vw s (fun n _ _ _ _ => some n) (fun n _ _ _ => some n) (fun x _ _ => if x == Str.ofString "__name__" then none else some x) none
noncomputable def looseL : List Str := (body.take 123).filterMap keyOf
noncomputable def qv : Program := { PySem.Challenge.pw_nu0205_01 with main := { PySem.Challenge.pw_nu0205_01.main with body := body.drop 123 } }
set_option maxHeartbeats 0
theorem lk1 (w : World) (os : OsState) : (staticsOk (importedModules PySem.Challenge.pw_nu0205_01.main.body) (boot_heap w.params) (hp w.params) && namesBound PySem.Challenge.pw_nu0205_01 (hp w.params) && gensDone ⟨hp w.params, #[], {}, 1714, os⟩ && laidKept (boot_heap w.params) (hp w.params)) = true := by kernel_rfl!
theorem lk2F (w : World) (os : OsState) : Fast.tw4187177175401517315 qv looseL (importedModules PySem.Challenge.pw_nu0205_01.main.body) (fun _ => true) true ⟨hp w.params, #[], {}, 1714, os⟩ = openGood qv looseL := by kernel_rfl!
theorem lk2 (w : World) (os : OsState) : openSeen qv looseL (importedModules PySem.Challenge.pw_nu0205_01.main.body) (fun _ => true) true ⟨hp w.params, #[], {}, 1714, os⟩ = openGood qv looseL := by rw [Fast.te4187177175401517315]; exact lk2F w os
end Mine
end
section
set_option maxHeartbeats 0
open PySem PySem.W PyProof.Rows
namespace Mine
-- Hm
theorem leftL : LeftO PySem.Challenge.pw_nu0205_01 qv looseL (fun _ => true) (fun s => s.heap) (fun w => hp w.params) 20000 :=
  LeftO.of_pieces (H₀ := boot_heap) (H₁ := hp) (gs₀ := #[]) (gs₁ := #[]) (d₀ := boot_drawn) (d₁ := {}) (k₀ := boot_toks) (k₁ := 1714) (m₀ := 11) (ann := some (.ref 6)) (M := (12 + (1 + (340 + (395 + (301 + (389 + (383 + (381 + (208 + (379 + (291 + (377 + (380 + (197 + (322 + (348 + (287 + (391 + (171 + (384 + (393 + (368 + (200 + 2))))))))))))))))))))))))
    (boot_open (by kernel_rfl!) rfl (fun s => by kernel_rfl!)) (fun w => by kernel_rfl!) runT (by decide)
    (fun w => funext fun os => congr (congrArg Prod.mk (lk1 w os)) (congrArg (fun x => (x, hp w.params)) (lk2 w os)))
noncomputable def lawD : DefRec :=
  let n : DefRec := ⟨Str.empty, ⟨[], [], none, [], [], none, []⟩, [], ⟨.module, [], false, false, []⟩, default⟩
  vw ((body.drop 123).headD (.Pass default)) (fun n as b sc ps => ⟨n, as, b, sc, ps⟩) (fun _ _ _ _ => n) (fun _ _ _ => n) n
theorem hdefL : defOf qv (Str.ofString "law") = some (lawD, []) := by kernel_rfl!
theorem theL : PySem.Challenge.pw_nu0205_01.theDef (Str.ofString "law") = some (lawD.params, lawD.body, lawD.scope) := by kernel_rfl!
theorem okL : (chainsOk qv && opensWell PySem.Challenge.pw_nu0205_01 && (frees PySem.Challenge.rw_nu0205_01.row.toRowW && PySem.Challenge.rw_nu0205_01.row.toRowW.within.isEmpty)) = true := by kernel_rfl!
end Mine
end
section
open PySem
namespace Mine
-- C1
inductive V where
  | none | bool (b : Bool) | int (i : Int) | str (s : Str) | ref (a : Addr) | type (n : String) | builtin (n : String) | bad
noncomputable def er : Value → V
  | .none => .none
  | .bool b => .bool b
  | .int i _ => .int i
  | .str s _ => .str s
  | .ref a => .ref a
  | .type n => .type n
  | .builtin n => .builtin n
  | _ => .bad
inductive C where
  | list (xs : List V)
  | tup (xs : List V)
  | dict (n : Nat) (es : List (Int × V))
  | tdict (n : Nat) (es : List ((Int × Int) × Addr × V))
  | inst (c d : Addr)
  | ns (o : Addr) (fs : List (String × V))
  | range (lo hi : Int)
  | vals (d : Addr)
  | set (xs : List Int)
  | scr (xs : List V)
inductive Ev : C → C → Prop
  | list {xs ys} : Ev (.list xs) (.list ys)
  | dict {n xs m ys} : Ev (.dict n xs) (.dict m ys)
  | dt {n xs m ys} : Ev (.dict n xs) (.tdict m ys)
  | tdict {n xs m ys} : Ev (.tdict n xs) (.tdict m ys)
  | ns {o xs ys} : Ev (.ns o xs) (.ns o ys)
  | same {c} : Ev c c
abbrev Sg := Addr → Option C
noncomputable def up (σ : Sg) (a : Addr) (c : C) : Sg := fun b => if b = a then some c else σ b
inductive E where
  | lit (v : V)
  | loc (i : Nat)
  | attr (e : E) (n : String)
  | sub (e i : E)
  | slice (e : E) (lo hi : E)
  | bin (op : Operator) (a b : E)
  | neg (a : E)
  | not (a : E)
  | and (a b : E)
  | or (a b : E)
  | cmp (op : CmpOp) (a b : E)
  | chain (op op' : CmpOp) (a b c : E)
  | ite (c a b : E)
  | list (es : List E)
  | tup (es : List E)
  | dict (kvs : List (Int × V))
  | fcall (f : Addr) (args : List E)
  | ccall (c i : Addr) (args : List E)
  | tcall (n : String) (args : List E)
  | bcall (n : String) (args : List E)
  | vcall (f : E) (args : List E)
  | meth (o : E) (n : String) (args : List E)
  | comp1 (elt : E) (x : Nat) (it : E) (ifs : List E)
  | comp2 (elt : E) (x : Nat) (it : E) (x' : Nat) (it' : E) (ifs : List E)
inductive T1 where
  | loc (i : Nat)
  | attr (e : E) (n : String)
  | sub (e i : E)
inductive T where
  | one (t : T1)
  | many (ts : List T1)
inductive S where
  | expr (e : E)
  | ret (e : E)
  | assign (t : T) (e : E)
  | ite (c : E) (a b : List S)
  | while (c : E) (b : List S)
  | for (t : T) (it : E) (b : List S)
inductive Fl where
  | next
  | ret (v : V)
structure Fn where
  pars : Nat
  dfl : List V
  size : Nat
  body : List S
structure Cls where
  init : Addr
  meths : List (String × Addr)
structure Pg where
  fns : List (Addr × Fn)
  cls : List (Addr × Cls)
noncomputable def fieldNames : List String := ["actions", "ahead", "attach", "back", "bond", "buffer", "carets", "classes", "cluster", "code", "coverage", "depth", "end", "firsts", "flag", "form", "gdef", "glyph", "glyphs", "inside", "is_backward", "is_chained", "is_second", "is_unsafe", "kind", "last_lig", "lig_count", "lig_id", "lig_part", "lookup", "lookups", "mark_set", "mask", "pairs", "parent", "points", "row", "rows", "seconds", "sets", "tables", "values", "x_advance", "x_offset", "y_advance", "y_offset"]
end Mine
end
section
open PySem
namespace Mine
-- C2
noncomputable def fn_attach_wanted : Fn where
  pars := 1
  dfl := []
  size := 1
  body := [
    .ret (.bin .Mod (.bin .FloorDiv (.loc 0) (.lit (.int (256)))) (.lit (.int (256))))]
noncomputable def fn_class_bit : Fn where
  pars := 1
  dfl := []
  size := 1
  body := [
    .ret (.meth (.dict [((1), .int (2)), ((2), .int (4)), ((3), .int (8))]) "get" [(.loc 0), (.lit (.int (0)))])]
noncomputable def fn_is_ignored : Fn where
  pars := 3
  dfl := []
  size := 5
  body := [
    .assign (.one (.loc 3)) (.meth (.loc 0) "glyph_class" [(.loc 2)]),
    .ite (.bin .BitAnd (.attr (.loc 1) "flag") (.fcall 83 [(.loc 3)])) [
      .ret (.lit (.bool true))] [],
    .ite (.cmp .NotEq (.loc 3) (.lit (.int (3)))) [
      .ret (.lit (.bool false))] [],
    .ite (.bin .BitAnd (.attr (.loc 1) "flag") (.lit (.int (16)))) [
      .ret (.not (.meth (.loc 0) "is_in_set" [(.attr (.loc 1) "mark_set"), (.loc 2)]))] [],
    .assign (.one (.loc 4)) (.fcall 76 [(.attr (.loc 1) "flag")]),
    .ret (.and (.cmp .Gt (.loc 4) (.lit (.int (0)))) (.cmp .NotEq (.meth (.loc 0) "attach_class" [(.loc 2)]) (.loc 4)))]
noncomputable def fn_passes : Fn where
  pars := 2
  dfl := []
  size := 2
  body := [
    .ret (.fcall 90 [(.attr (.loc 0) "gdef"), (.attr (.loc 0) "lookup"), (.attr (.sub (.attr (.attr (.loc 0) "buffer") "row") (.loc 1)) "glyph")])]
noncomputable def fn_nested_scene : Fn where
  pars := 2
  dfl := []
  size := 2
  body := [
    .ite (.not (.chain .LtE .Lt (.lit (.int (0))) (.loc 1) (.bcall "len" [(.attr (.loc 0) "lookups")]))) [
      .ret (.lit .none)] [],
    .ret (.ccall 65 62 [(.attr (.loc 0) "buffer"), (.attr (.loc 0) "gdef"), (.attr (.loc 0) "lookups"), (.sub (.attr (.loc 0) "lookups") (.loc 1)), (.attr (.loc 0) "mask"), (.bin .Add (.attr (.loc 0) "depth") (.lit (.int (1))))])]
noncomputable def fn_hang : Fn where
  pars := 3
  dfl := []
  size := 7
  body := [
    .assign (.one (.loc 3)) (.slice (.attr (.loc 0) "row") (.loc 1) (.loc 2)),
    .ite (.cmp .Lt (.bcall "len" [(.loc 3)]) (.lit (.int (2)))) [
      .ret (.lit .none)] [],
    .assign (.one (.loc 5)) (.bcall "min" [(.comp1 (.attr (.loc 6) "cluster") 6 (.loc 3) [])]),
    .for (.one (.loc 4)) (.loc 3) [
      .ite (.cmp .NotEq (.attr (.loc 4) "cluster") (.loc 5)) [
        .assign (.one (.attr (.loc 4) "is_unsafe")) (.lit (.bool true))] []]]
noncomputable def fn_fits : Fn where
  pars := 2
  dfl := []
  size := 2
  body := [
    .ite (.cmp .Eq (.sub (.loc 0) (.lit (.int (0)))) (.lit (.str (Str.ofString "glyph")))) [
      .ret (.cmp .Eq (.sub (.loc 0) (.lit (.int (1)))) (.loc 1))] [],
    .ite (.cmp .Eq (.sub (.loc 0) (.lit (.int (0)))) (.lit (.str (Str.ofString "class")))) [
      .ret (.cmp .Eq (.meth (.sub (.loc 0) (.lit (.int (1)))) "class_of" [(.loc 1)]) (.sub (.loc 0) (.lit (.int (2)))))] [],
    .ret (.meth (.sub (.loc 0) (.lit (.int (1)))) "has" [(.loc 1)])]
noncomputable def fn_neighbour : Fn where
  pars := 3
  dfl := []
  size := 4
  body := [
    .assign (.one (.loc 3)) (.bin .Add (.loc 1) (.loc 2)),
    .while (.chain .LtE .Lt (.lit (.int (0))) (.loc 3) (.bcall "len" [(.attr (.attr (.loc 0) "buffer") "row")])) [
      .ite (.and (.not (.fcall 97 [(.loc 0), (.loc 3)])) (.cmp .NotIn (.attr (.sub (.attr (.attr (.loc 0) "buffer") "row") (.loc 3)) "kind") (.lit (.ref 190)))) [
        .ret (.loc 3)] [],
      .assign (.one (.loc 3)) (.bin .Add (.loc 3) (.loc 2))],
    .ret (.neg (.lit (.int (1))))]
noncomputable def fn_next_at : Fn where
  pars := 2
  dfl := []
  size := 2
  body := [
    .ret (.fcall 204 [(.loc 0), (.loc 1), (.lit (.int (1)))])]
noncomputable def fn_is_borne : Fn where
  pars := 2
  dfl := []
  size := 2
  body := [
    .ret (.cmp .NotEq (.bin .BitAnd (.attr (.loc 1) "mask") (.attr (.loc 0) "mask")) (.lit (.int (0))))]
noncomputable def fn_found_at : Fn where
  pars := 6
  dfl := []
  size := 8
  body := [
    .assign (.one (.loc 6)) (.bin .Add (.loc 1) (.loc 2)),
    .while (.chain .LtE .Lt (.lit (.int (0))) (.loc 6) (.bcall "len" [(.attr (.attr (.loc 0) "buffer") "row")])) [
      .ite (.not (.fcall 97 [(.loc 0), (.loc 6)])) [
        .assign (.one (.loc 7)) (.sub (.attr (.attr (.loc 0) "buffer") "row") (.loc 6)),
        .ite (.and (.fcall 197 [(.loc 3), (.attr (.loc 7) "glyph")]) (.or (.fcall 225 [(.loc 0), (.loc 7)]) (.not (.loc 5)))) [
          .ret (.loc 6)] [],
        .ite (.cmp .NotIn (.attr (.loc 7) "kind") (.loc 4)) [
          .ret (.neg (.lit (.int (1))))] []] [],
      .assign (.one (.loc 6)) (.bin .Add (.loc 6) (.loc 2))],
    .ret (.neg (.lit (.int (1))))]
noncomputable def fn_input_at : Fn where
  pars := 3
  dfl := []
  size := 6
  body := [
    .ite (.not (.fcall 197 [(.sub (.loc 2) (.lit (.int (0)))), (.attr (.sub (.attr (.attr (.loc 0) "buffer") "row") (.loc 1)) "glyph")])) [
      .ret (.lit .none)] [],
    .assign (.one (.loc 3)) (.list [(.loc 1)]),
    .for (.one (.loc 4)) (.slice (.loc 2) (.lit (.int (1))) (.lit .none)) [
      .assign (.one (.loc 5)) (.fcall 232 [(.loc 0), (.sub (.loc 3) (.neg (.lit (.int (1))))), (.lit (.int (1))), (.loc 4), (.lit (.ref 189)), (.lit (.bool true))]),
      .ite (.cmp .Lt (.loc 5) (.lit (.int (0)))) [
        .ret (.lit .none)] [],
      .expr (.meth (.loc 3) "append" [(.loc 5)])],
    .ret (.loc 3)]
noncomputable def fn_last_at : Fn where
  pars := 4
  dfl := []
  size := 6
  body := [
    .assign (.one (.loc 4)) (.loc 1),
    .for (.one (.loc 5)) (.loc 3) [
      .assign (.one (.loc 4)) (.fcall 232 [(.loc 0), (.loc 4), (.loc 2), (.loc 5), (.lit (.ref 190)), (.lit (.bool false))]),
      .ite (.cmp .Lt (.loc 4) (.lit (.int (0)))) [
        .ret (.neg (.lit (.int (1))))] []],
    .ret (.loc 4)]
noncomputable def fn_ahead_at : Fn where
  pars := 3
  dfl := []
  size := 3
  body := [
    .ret (.fcall 246 [(.loc 0), (.loc 1), (.lit (.int (1))), (.loc 2)])]
noncomputable def fn_back_at : Fn where
  pars := 3
  dfl := []
  size := 3
  body := [
    .ret (.fcall 246 [(.loc 0), (.loc 1), (.neg (.lit (.int (1)))), (.loc 2)])]
noncomputable def fn_coverage_of : Fn where
  pars := 1
  dfl := []
  size := 3
  body := [
    .assign (.one (.loc 1)) (.dict []),
    .for (.one (.loc 2)) (.loc 0) [
      .assign (.one (.sub (.loc 1) (.loc 2))) (.lit (.bool true))],
    .ret (.ccall 424 400 [(.tcall "tuple" [(.bcall "sorted" [(.loc 1)])])])]
noncomputable def fn_tests_of : Fn where
  pars := 3
  dfl := []
  size := 4
  body := [
    .ite (.cmp .Eq (.loc 1) (.lit (.str (Str.ofString "class")))) [
      .ret (.comp1 (.tup [(.lit (.str (Str.ofString "class"))), (.loc 2), (.loc 3)]) 3 (.loc 0) [])] [],
    .ret (.comp1 (.tup [(.loc 1), (.loc 3)]) 3 (.loc 0) [])]
noncomputable def fn_rule_tests : Fn where
  pars := 2
  dfl := []
  size := 6
  body := [
    .assign (.one (.loc 2)) (.sub (.list [(.lit (.str (Str.ofString ""))), (.lit (.str (Str.ofString "glyph"))), (.lit (.str (Str.ofString "class"))), (.lit (.str (Str.ofString "cover")))]) (.attr (.loc 0) "form")),
    .assign (.many [(.loc 3), (.loc 4), (.loc 5)]) (.ite (.cmp .Eq (.attr (.loc 0) "form") (.lit (.int (2)))) (.attr (.loc 0) "classes") (.tup [(.lit .none), (.lit .none), (.lit .none)])),
    .ret (.tup [(.fcall 521 [(.attr (.loc 1) "back"), (.loc 2), (.loc 3)]), (.fcall 521 [(.attr (.loc 1) "inside"), (.loc 2), (.loc 4)]), (.fcall 521 [(.attr (.loc 1) "ahead"), (.loc 2), (.loc 5)]), (.attr (.loc 1) "actions")])]
noncomputable def fn_rules_at : Fn where
  pars := 2
  dfl := []
  size := 4
  body := [
    .ite (.cmp .Eq (.attr (.loc 0) "form") (.lit (.int (1)))) [
      .assign (.one (.loc 2)) (.meth (.attr (.loc 0) "sets") "get" [(.loc 1), (.list [])])] [
      .ite (.cmp .Eq (.attr (.loc 0) "form") (.lit (.int (2)))) [
        .assign (.one (.loc 2)) (.ite (.meth (.attr (.loc 0) "coverage") "has" [(.loc 1)]) (.meth (.attr (.loc 0) "sets") "get" [(.meth (.sub (.attr (.loc 0) "classes") (.lit (.int (1)))) "class_of" [(.loc 1)]), (.list [])]) (.list []))] [
        .assign (.one (.loc 2)) (.comp1 (.loc 3) 3 (.meth (.loc 0) "rules" []) [(.meth (.sub (.attr (.loc 3) "inside") (.lit (.int (0)))) "has" [(.loc 1)])])]],
    .ret (.comp1 (.fcall 528 [(.loc 0), (.loc 3)]) 3 (.loc 2) [])]
noncomputable def fn_match_rule : Fn where
  pars := 3
  dfl := []
  size := 10
  body := [
    .assign (.many [(.loc 3), (.loc 4), (.loc 5), (.loc 6)]) (.loc 2),
    .assign (.one (.loc 7)) (.fcall 239 [(.loc 0), (.loc 1), (.loc 4)]),
    .ite (.cmp .Is (.loc 7) (.lit .none)) [
      .ret (.lit .none)] [],
    .assign (.one (.loc 8)) (.fcall 260 [(.loc 0), (.loc 1), (.loc 3)]),
    .ite (.cmp .Lt (.loc 8) (.lit (.int (0)))) [
      .ret (.lit .none)] [],
    .assign (.one (.loc 9)) (.fcall 253 [(.loc 0), (.sub (.loc 7) (.neg (.lit (.int (1))))), (.loc 5)]),
    .ret (.ite (.cmp .Lt (.loc 9) (.lit (.int (0)))) (.lit .none) (.tup [(.loc 7), (.loc 8), (.loc 9)]))]
noncomputable def fn_inner_scene : Fn where
  pars := 2
  dfl := []
  size := 2
  body := [
    .ret (.ite (.cmp .GtE (.attr (.loc 0) "depth") (.lit (.int (6)))) (.lit .none) (.fcall 104 [(.loc 0), (.loc 1)]))]
noncomputable def fn_do_action : Fn where
  pars := 4
  dfl := []
  size := 9
  body := [
    .assign (.many [(.loc 4), (.loc 5)]) (.loc 2),
    .ite (.or (.cmp .GtE (.loc 4) (.bcall "len" [(.attr (.loc 1) "row")])) (.cmp .GtE (.sub (.attr (.loc 1) "row") (.loc 4)) (.bcall "len" [(.attr (.attr (.loc 0) "buffer") "row")]))) [
      .ret (.lit (.bool true))] [],
    .assign (.one (.loc 6)) (.fcall 568 [(.loc 0), (.loc 5)]),
    .ite (.cmp .Is (.loc 6) (.lit .none)) [
      .ret (.lit (.bool true))] [],
    .assign (.one (.loc 7)) (.bcall "len" [(.attr (.attr (.loc 0) "buffer") "row")]),
    .ite (.cmp .Lt (.vcall (.loc 3) [(.loc 6), (.sub (.attr (.loc 1) "row") (.loc 4))]) (.lit (.int (0)))) [
      .ret (.lit (.bool true))] [],
    .assign (.one (.loc 8)) (.bin .Sub (.bcall "len" [(.attr (.attr (.loc 0) "buffer") "row")]) (.loc 7)),
    .ite (.and (.cmp .Gt (.loc 8) (.lit (.int (0)))) (.cmp .Gt (.bin .Add (.loc 8) (.bcall "len" [(.attr (.loc 1) "row")])) (.lit (.int (64))))) [
      .assign (.one (.attr (.loc 1) "end")) (.bin .Add (.attr (.loc 1) "end") (.loc 8)),
      .ret (.lit (.bool false))] [],
    .ite (.cmp .NotEq (.loc 8) (.lit (.int (0)))) [
      .expr (.fcall 585 [(.loc 1), (.loc 4), (.loc 8)])] [],
    .ret (.lit (.bool true))]
noncomputable def fn_do_actions : Fn where
  pars := 4
  dfl := []
  size := 5
  body := [
    .for (.one (.loc 4)) (.loc 2) [
      .ite (.not (.fcall 592 [(.loc 0), (.loc 1), (.loc 4), (.loc 3)])) [
        .ret (.attr (.loc 1) "end")] []],
    .ret (.attr (.loc 1) "end")]
noncomputable def fn_apply_context : Fn where
  pars := 4
  dfl := []
  size := 6
  body := [
    .for (.one (.loc 4)) (.fcall 533 [(.loc 1), (.attr (.sub (.attr (.attr (.loc 0) "buffer") "row") (.loc 2)) "glyph")]) [
      .assign (.one (.loc 5)) (.fcall 561 [(.loc 0), (.loc 2), (.loc 4)]),
      .ite (.cmp .IsNot (.loc 5) (.lit .none)) [
        .expr (.fcall 188 [(.attr (.loc 0) "buffer"), (.sub (.loc 5) (.lit (.int (1)))), (.bin .Add (.sub (.loc 5) (.lit (.int (2)))) (.lit (.int (1))))]),
        .ret (.fcall 599 [(.loc 0), (.ccall 550 547 [(.sub (.loc 5) (.lit (.int (0)))), (.bin .Add (.sub (.sub (.loc 5) (.lit (.int (0)))) (.neg (.lit (.int (1))))) (.lit (.int (1))))]), (.sub (.loc 4) (.lit (.int (3)))), (.loc 3)])] []],
    .ret (.neg (.lit (.int (1))))]
noncomputable def fn_add_value : Fn where
  pars := 3
  dfl := []
  size := 3
  body := [
    .assign (.one (.attr (.loc 0) "x_offset")) (.bin .Add (.attr (.loc 0) "x_offset") (.attr (.loc 1) "x_offset")),
    .assign (.one (.attr (.loc 0) "y_offset")) (.bin .Add (.attr (.loc 0) "y_offset") (.attr (.loc 1) "y_offset")),
    .assign (.one (.attr (.loc 0) "x_advance")) (.bin .Add (.attr (.loc 0) "x_advance") (.attr (.loc 1) "x_advance"))]
noncomputable def fn_apply_adjust : Fn where
  pars := 3
  dfl := []
  size := 5
  body := [
    .assign (.one (.loc 3)) (.sub (.attr (.attr (.loc 0) "buffer") "row") (.loc 2)),
    .assign (.one (.loc 4)) (.meth (.attr (.loc 1) "values") "get" [(.attr (.loc 3) "glyph")]),
    .ite (.cmp .Is (.loc 4) (.lit .none)) [
      .ret (.neg (.lit (.int (1))))] [],
    .expr (.fcall 648 [(.loc 3), (.loc 4), (.attr (.attr (.loc 0) "buffer") "is_backward")]),
    .ret (.bin .Add (.loc 2) (.lit (.int (1))))]
noncomputable def fn_moves_second : Fn where
  pars := 1
  dfl := []
  size := 2
  body := [
    .ret (.cmp .NotEq (.comp1 (.loc 1) 1 (.loc 0) [(.not (.meth (.sub (.loc 1) (.lit (.int (1)))) "is_nothing" []))]) (.list []))]
noncomputable def fn_has_second : Fn where
  pars := 1
  dfl := []
  size := 1
  body := [
    .ret (.attr (.loc 0) "is_second")]
noncomputable def fn_apply_pair : Fn where
  pars := 3
  dfl := []
  size := 6
  body := [
    .assign (.one (.loc 3)) (.fcall 211 [(.loc 0), (.loc 2)]),
    .ite (.cmp .Lt (.loc 3) (.lit (.int (0)))) [
      .ret (.neg (.lit (.int (1))))] [],
    .assign (.one (.loc 4)) (.attr (.attr (.loc 0) "buffer") "row"),
    .assign (.one (.loc 5)) (.meth (.loc 1) "find" [(.attr (.sub (.loc 4) (.loc 2)) "glyph"), (.attr (.sub (.loc 4) (.loc 3)) "glyph")]),
    .ite (.cmp .Is (.loc 5) (.lit .none)) [
      .ret (.neg (.lit (.int (1))))] [],
    .expr (.fcall 188 [(.attr (.loc 0) "buffer"), (.loc 2), (.bin .Add (.loc 3) (.lit (.int (1))))]),
    .expr (.fcall 648 [(.sub (.loc 4) (.loc 2)), (.sub (.loc 5) (.lit (.int (0)))), (.attr (.attr (.loc 0) "buffer") "is_backward")]),
    .expr (.fcall 648 [(.sub (.loc 4) (.loc 3)), (.sub (.loc 5) (.lit (.int (1)))), (.attr (.attr (.loc 0) "buffer") "is_backward")]),
    .ret (.ite (.fcall 766 [(.loc 1)]) (.bin .Add (.loc 3) (.lit (.int (1)))) (.loc 3))]
noncomputable def fn_apply_position : Fn where
  pars := 4
  dfl := []
  size := 4
  body := [
    .ite (.cmp .Eq (.loc 0) (.lit (.str (Str.ofString "adjust")))) [
      .ret (.fcall 681 [(.loc 1), (.loc 2), (.loc 3)])] [],
    .ite (.cmp .Eq (.loc 0) (.lit (.str (Str.ofString "pair")))) [
      .ret (.fcall 773 [(.loc 1), (.loc 2), (.loc 3)])] [],
    .ite (.cmp .Eq (.loc 0) (.lit (.str (Str.ofString "cursive")))) [
      .ret (.fcall 309 [(.loc 1), (.loc 2), (.loc 3)])] [],
    .ite (.cmp .Eq (.loc 0) (.lit (.str (Str.ofString "base")))) [
      .ret (.fcall 358 [(.loc 1), (.loc 2), (.loc 3)])] [],
    .ite (.cmp .Eq (.loc 0) (.lit (.str (Str.ofString "component")))) [
      .ret (.fcall 372 [(.loc 1), (.loc 2), (.loc 3)])] [],
    .ite (.cmp .Eq (.loc 0) (.lit (.str (Str.ofString "mark")))) [
      .ret (.fcall 386 [(.loc 1), (.loc 2), (.loc 3)])] [],
    .ret (.fcall 606 [(.loc 1), (.loc 2), (.loc 3), (.lit (.ref 787))])]
noncomputable def fn_position_at : Fn where
  pars := 2
  dfl := []
  size := 4
  body := [
    .for (.one (.loc 2)) (.attr (.attr (.loc 0) "lookup") "tables") [
      .assign (.one (.loc 3)) (.fcall 780 [(.attr (.attr (.loc 0) "lookup") "kind"), (.loc 0), (.loc 2), (.loc 1)]),
      .ite (.cmp .GtE (.loc 3) (.lit (.int (0)))) [
        .ret (.loc 3)] []],
    .ret (.neg (.lit (.int (1))))]
noncomputable def fn_beginnings_of_context : Fn where
  pars := 1
  dfl := []
  size := 3
  body := [
    .ite (.cmp .Eq (.attr (.loc 0) "form") (.lit (.int (1)))) [
      .ret (.tcall "list" [(.attr (.loc 0) "sets")])] [],
    .ite (.cmp .Eq (.attr (.loc 0) "form") (.lit (.int (2)))) [
      .ret (.tcall "list" [(.attr (.attr (.loc 0) "coverage") "glyphs")])] [],
    .assign (.one (.loc 1)) (.list []),
    .for (.one (.loc 2)) (.meth (.attr (.loc 0) "sets") "get" [(.lit (.int (0))), (.list [])]) [
      .expr (.meth (.loc 1) "extend" [(.attr (.sub (.attr (.loc 2) "inside") (.lit (.int (0)))) "glyphs")])],
    .ret (.loc 1)]
noncomputable def fn_beginnings_of_pair : Fn where
  pars := 1
  dfl := []
  size := 2
  body := [
    .ite (.bcall "isinstance" [(.loc 0), (.lit (.ref 755))]) [
      .ret (.tcall "list" [(.attr (.attr (.loc 0) "coverage") "glyphs")])] [],
    .ret (.comp1 (.sub (.loc 1) (.lit (.int (0)))) 1 (.attr (.loc 0) "pairs") [])]
noncomputable def fn_beginnings : Fn where
  pars := 2
  dfl := []
  size := 3
  body := [
    .ite (.cmp .Eq (.loc 0) (.lit (.str (Str.ofString "adjust")))) [
      .assign (.one (.loc 2)) (.tcall "list" [(.attr (.loc 1) "values")])] [
      .ite (.cmp .Eq (.loc 0) (.lit (.str (Str.ofString "pair")))) [
        .assign (.one (.loc 2)) (.fcall 799 [(.loc 1)])] [
        .ite (.cmp .Eq (.loc 0) (.lit (.str (Str.ofString "cursive")))) [
          .assign (.one (.loc 2)) (.tcall "list" [(.attr (.loc 1) "ends")])] [
          .ite (.cmp .In (.loc 0) (.tup [(.lit (.str (Str.ofString "context"))), (.lit (.str (Str.ofString "chain")))])) [
            .assign (.one (.loc 2)) (.fcall 794 [(.loc 1)])] [
            .assign (.one (.loc 2)) (.tcall "list" [(.attr (.loc 1) "marks")])]]]],
    .ret (.bcall "sorted" [(.tcall "set" [(.loc 2)])])]
noncomputable def fn_run_position : Fn where
  pars := 5
  dfl := []
  size := 13
  body := [
    .assign (.one (.loc 5)) (.sub (.loc 2) (.loc 3)),
    .assign (.one (.loc 6)) (.dict []),
    .for (.one (.loc 7)) (.attr (.loc 5) "tables") [
      .for (.one (.loc 8)) (.fcall 806 [(.attr (.loc 5) "kind"), (.loc 7)]) [
        .assign (.one (.sub (.loc 6) (.loc 8))) (.lit (.bool true))]],
    .assign (.one (.loc 9)) (.ccall 65 62 [(.loc 0), (.loc 1), (.loc 2), (.loc 5), (.loc 4)]),
    .assign (.one (.loc 10)) (.lit (.int (0))),
    .while (.cmp .Lt (.loc 10) (.bcall "len" [(.attr (.loc 0) "row")])) [
      .assign (.one (.loc 11)) (.neg (.lit (.int (1)))),
      .assign (.one (.loc 12)) (.sub (.attr (.loc 0) "row") (.loc 10)),
      .ite (.and (.cmp .In (.attr (.loc 12) "glyph") (.loc 6)) (.and (.cmp .NotEq (.bin .BitAnd (.attr (.loc 12) "mask") (.loc 4)) (.lit (.int (0)))) (.not (.fcall 97 [(.loc 9), (.loc 10)])))) [
        .assign (.one (.loc 11)) (.fcall 787 [(.loc 9), (.loc 10)])] [],
      .assign (.one (.loc 10)) (.bcall "max" [(.loc 11), (.bin .Add (.loc 10) (.lit (.int (1))))])]]
noncomputable def fn_law_pen : Fn where
  pars := 1
  dfl := []
  size := 2
  body := [
    .ret (.list [(.comp1 (.tcall "int" [(.loc 1)]) 1 (.slice (.loc 0) (.lit .none) (.lit (.int (40)))) []), (.lit (.int (0))), (.lit (.int (0)))])]
noncomputable def fn_law_draw : Fn where
  pars := 2
  dfl := []
  size := 7
  body := [
    .ite (.cmp .Gt (.sub (.loc 0) (.lit (.int (2)))) (.lit (.int (0)))) [
      .assign (.one (.loc 2)) (.bin .Mod (.tcall "int" [(.sub (.loc 0) (.lit (.int (2))))]) (.loc 1)),
      .assign (.one (.sub (.loc 0) (.lit (.int (2))))) (.bin .FloorDiv (.tcall "int" [(.sub (.loc 0) (.lit (.int (2))))]) (.loc 1)),
      .ret (.loc 2)] [],
    .assign (.one (.loc 3)) (.sub (.loc 0) (.lit (.int (1)))),
    .assign (.one (.sub (.loc 0) (.lit (.int (1))))) (.bin .Add (.loc 3) (.lit (.int (1)))),
    .assign (.one (.loc 4)) (.bin .Add (.bin .Add (.bin .Mult (.lit (.int (20947))) (.loc 3)) (.lit (.int (3571)))) (.bin .Mod (.tcall "int" [(.bcall "sum" [(.slice (.sub (.loc 0) (.lit (.int (0)))) (.lit .none) (.lit (.int (1))))])]) (.lit (.int (1000003))))),
    .ite (.cmp .NotEq (.sub (.loc 0) (.lit (.int (0)))) (.list [])) [
      .assign (.one (.loc 4)) (.sub (.sub (.loc 0) (.lit (.int (0)))) (.bin .Mod (.tcall "int" [(.loc 3)]) (.bcall "len" [(.sub (.loc 0) (.lit (.int (0))))])))] [],
    .ite (.and (.cmp .Lt (.loc 3) (.bcall "len" [(.sub (.loc 0) (.lit (.int (0))))])) (.cmp .GtE (.bcall "abs" [(.loc 4)]) (.bin .Pow (.lit (.int (10))) (.lit (.int (18)))))) [
      .assign (.one (.loc 5)) (.bin .Add (.bin .Mult (.lit (.int (2))) (.bin .Sub (.bcall "abs" [(.loc 4)]) (.bin .Pow (.lit (.int (10))) (.lit (.int (18)))))) (.tcall "int" [(.cmp .Lt (.loc 4) (.lit (.int (0))))])),
      .assign (.one (.sub (.loc 0) (.lit (.int (2))))) (.bin .FloorDiv (.tcall "int" [(.loc 5)]) (.loc 1)),
      .ret (.bin .Mod (.tcall "int" [(.loc 5)]) (.loc 1))] [],
    .assign (.one (.loc 6)) (.bin .Mod (.tcall "int" [(.bin .Pow (.bin .Add (.bin .Add (.bin .Mod (.tcall "int" [(.loc 4)]) (.lit (.int (2147483587)))) (.bin .Mult (.lit (.int (20947))) (.loc 3))) (.lit (.int (3571)))) (.lit (.int (5))))]) (.lit (.int (2147483629)))),
    .assign (.one (.loc 6)) (.bin .Mod (.tcall "int" [(.bin .Pow (.bin .Add (.bin .Add (.bin .Mult (.loc 6) (.bin .Add (.bin .Mult (.lit (.int (2))) (.loc 3)) (.lit (.int (7207))))) (.bin .Mult (.bin .Mult (.lit (.int (20947))) (.loc 3)) (.loc 3))) (.lit (.int (31)))) (.lit (.int (3))))]) (.lit (.int (2147483579)))),
    .ret (.bin .Mod (.tcall "int" [(.bin .FloorDiv (.loc 6) (.lit (.int (32))))]) (.loc 1))]
noncomputable def fn_law_pick : Fn where
  pars := 2
  dfl := []
  size := 2
  body := [
    .ret (.sub (.loc 1) (.fcall 920 [(.loc 0), (.bcall "len" [(.loc 1)])]))]
noncomputable def fn_law_value : Fn where
  pars := 1
  dfl := []
  size := 1
  body := [
    .ret (.ccall 637 620 [(.fcall 927 [(.loc 0), (.list [(.lit (.int (0))), (.lit (.int (1))), (.neg (.lit (.int (2))))])]), (.fcall 927 [(.loc 0), (.list [(.lit (.int (0))), (.lit (.int (3))), (.neg (.lit (.int (4))))])]), (.fcall 927 [(.loc 0), (.list [(.lit (.int (0))), (.lit (.int (10))), (.neg (.lit (.int (20))))])]), (.fcall 920 [(.loc 0), (.lit (.int (2)))])])]
noncomputable def fn_law_few : Fn where
  pars := 2
  dfl := []
  size := 4
  body := [
    .assign (.one (.loc 2)) (.comp1 (.loc 3) 3 (.tcall "range" [(.lit (.int (6)))]) [(.cmp .Eq (.fcall 920 [(.loc 0), (.loc 1)]) (.lit (.int (0))))]),
    .ret (.ite (.cmp .NotEq (.loc 2) (.list [])) (.loc 2) (.list [(.fcall 920 [(.loc 0), (.lit (.int (6)))])]))]
noncomputable def fn_law_pair_table : Fn where
  pars := 1
  dfl := []
  size := 11
  body := [
    .assign (.many [(.loc 1), (.loc 2)]) (.tup [(.ccall 637 620 [(.lit (.int (0))), (.lit (.int (0))), (.lit (.int (0))), (.lit (.int (0)))]), (.cmp .Eq (.fcall 920 [(.loc 0), (.lit (.int (3)))]) (.lit (.int (0))))]),
    .ite (.cmp .Eq (.fcall 920 [(.loc 0), (.lit (.int (2)))]) (.lit (.int (0)))) [
      .assign (.one (.loc 3)) (.dict []),
      .for (.one (.loc 4)) (.tcall "range" [(.fcall 920 [(.loc 0), (.lit (.int (9)))])]) [
        .assign (.one (.loc 5)) (.ite (.loc 2) (.fcall 934 [(.loc 0)]) (.loc 1)),
        .assign (.one (.sub (.loc 3) (.tup [(.fcall 920 [(.loc 0), (.lit (.int (6)))]), (.fcall 920 [(.loc 0), (.lit (.int (6)))])]))) (.tup [(.fcall 934 [(.loc 0)]), (.loc 5)])],
      .ret (.ccall 723 708 [(.loc 3), (.loc 2)])] [],
    .assign (.one (.loc 6)) (.list []),
    .for (.one (.loc 7)) (.tcall "range" [(.lit (.int (2)))]) [
      .expr (.meth (.loc 6) "append" [(.tcall "tuple" [(.comp1 (.tup [(.fcall 934 [(.loc 0)]), (.ite (.loc 2) (.fcall 934 [(.loc 0)]) (.loc 1))]) 10 (.tcall "range" [(.lit (.int (3)))]) [])])])],
    .assign (.one (.loc 8)) (.ccall 856 827 [(.tcall "dict" [(.comp1 (.tup [(.loc 10), (.lit (.int (1)))]) 10 (.fcall 939 [(.loc 0), (.lit (.int (2)))]) [])])]),
    .assign (.one (.loc 9)) (.ccall 856 827 [(.tcall "dict" [(.comp1 (.tup [(.loc 10), (.bin .Add (.lit (.int (1))) (.fcall 920 [(.loc 0), (.lit (.int (2)))]))]) 10 (.fcall 939 [(.loc 0), (.lit (.int (2)))]) [])])]),
    .ret (.ccall 755 740 [(.fcall 435 [(.fcall 939 [(.loc 0), (.lit (.int (2)))])]), (.loc 8), (.loc 9), (.tcall "tuple" [(.loc 6)]), (.loc 2)])]
noncomputable def fn_law_context_table : Fn where
  pars := 3
  dfl := []
  size := 14
  body := [
    .assign (.one (.loc 4)) (.tcall "tuple" [(.comp1 (.ccall 856 827 [(.tcall "dict" [(.comp1 (.tup [(.loc 13), (.lit (.int (1)))]) 13 (.fcall 939 [(.loc 0), (.lit (.int (2)))]) [])])]) 12 (.tcall "range" [(.lit (.int (3)))]) [])]),
    .assign (.many [(.loc 5), (.loc 6)]) (.tup [(.dict []), (.ite (.cmp .Eq (.loc 1) (.lit (.int (3)))) (.lit (.int (1))) (.bin .Add (.lit (.int (1))) (.fcall 920 [(.loc 0), (.lit (.int (2)))])))]),
    .for (.one (.loc 3)) (.tcall "range" [(.loc 6)]) [
      .assign (.one (.loc 7)) (.list []),
      .for (.one (.loc 8)) (.tup [(.ite (.loc 2) (.fcall 920 [(.loc 0), (.lit (.int (2)))]) (.lit (.int (0)))), (.bin .Add (.lit (.int (1))) (.fcall 920 [(.loc 0), (.lit (.int (2)))])), (.ite (.loc 2) (.fcall 920 [(.loc 0), (.lit (.int (2)))]) (.lit (.int (0))))]) [
        .ite (.cmp .Eq (.loc 1) (.lit (.int (3)))) [
          .expr (.meth (.loc 7) "append" [(.tcall "tuple" [(.comp1 (.fcall 435 [(.fcall 939 [(.loc 0), (.lit (.int (2)))])]) 12 (.tcall "range" [(.loc 8)]) [])])])] [
          .expr (.meth (.loc 7) "append" [(.tcall "tuple" [(.comp1 (.fcall 920 [(.loc 0), (.ite (.cmp .Eq (.loc 1) (.lit (.int (1)))) (.lit (.int (6))) (.lit (.int (2))))]) 12 (.tcall "range" [(.loc 8)]) [])])])]],
      .assign (.one (.loc 9)) (.tcall "tuple" [(.comp1 (.tup [(.fcall 920 [(.loc 0), (.lit (.int (3)))]), (.fcall 920 [(.loc 0), (.lit (.int (2)))])]) 12 (.tcall "range" [(.fcall 920 [(.loc 0), (.lit (.int (3)))])]) [])]),
      .assign (.one (.loc 10)) (.ite (.cmp .Eq (.loc 1) (.lit (.int (3)))) (.lit (.int (0))) (.sub (.sub (.loc 7) (.lit (.int (1)))) (.lit (.int (0))))),
      .expr (.meth (.meth (.loc 5) "setdefault" [(.loc 10), (.list [])]) "append" [(.ccall 466 449 [(.sub (.loc 7) (.lit (.int (0)))), (.sub (.loc 7) (.lit (.int (1)))), (.sub (.loc 7) (.lit (.int (2)))), (.loc 9)])])],
    .assign (.one (.loc 11)) (.ite (.cmp .Eq (.loc 1) (.lit (.int (2)))) (.fcall 435 [(.fcall 939 [(.loc 0), (.lit (.int (2)))])]) (.lit .none)),
    .ret (.ccall 507 485 [(.loc 1), (.loc 2), (.loc 5), (.loc 11), (.ite (.cmp .Eq (.loc 1) (.lit (.int (2)))) (.loc 4) (.lit .none))])]
noncomputable def fn_law_fits : Fn where
  pars := 4
  dfl := []
  size := 4
  body := [
    .ite (.cmp .Eq (.attr (.loc 0) "form") (.lit (.int (1)))) [
      .ret (.cmp .Eq (.loc 1) (.loc 3))] [],
    .ite (.cmp .Eq (.attr (.loc 0) "form") (.lit (.int (2)))) [
      .ret (.cmp .Eq (.meth (.attr (.sub (.attr (.loc 0) "classes") (.loc 2)) "classes") "get" [(.loc 3), (.lit (.int (0)))]) (.loc 1))] [],
    .ret (.cmp .In (.loc 3) (.attr (.loc 1) "glyphs"))]
noncomputable def fn_law_is_passed : Fn where
  pars := 3
  dfl := []
  size := 4
  body := [
    .assign (.one (.loc 3)) (.cmp .In (.sub (.sub (.sub (.loc 0) (.lit (.int (0)))) (.loc 2)) (.lit (.int (0)))) (.sub (.loc 0) (.lit (.int (1))))),
    .ret (.or (.and (.loc 3) (.cmp .NotEq (.bin .BitAnd (.attr (.loc 1) "flag") (.lit (.int (8)))) (.lit (.int (0))))) (.and (.not (.loc 3)) (.cmp .NotEq (.bin .BitAnd (.attr (.loc 1) "flag") (.lit (.int (2)))) (.lit (.int (0))))))]
noncomputable def fn_law_beside : Fn where
  pars := 4
  dfl := []
  size := 5
  body := [
    .assign (.one (.loc 4)) (.bin .Add (.loc 2) (.loc 3)),
    .while (.chain .LtE .Lt (.lit (.int (0))) (.loc 4) (.bcall "len" [(.sub (.loc 0) (.lit (.int (0))))])) [
      .ite (.not (.fcall 963 [(.loc 0), (.loc 1), (.loc 4)])) [
        .ret (.loc 4)] [],
      .assign (.one (.loc 4)) (.bin .Add (.loc 4) (.loc 3))],
    .ret (.neg (.lit (.int (1))))]
noncomputable def fn_law_move : Fn where
  pars := 2
  dfl := []
  size := 2
  body := [
    .assign (.one (.sub (.loc 0) (.lit (.int (3))))) (.bin .Add (.sub (.loc 0) (.lit (.int (3)))) (.attr (.loc 1) "x_advance")),
    .assign (.one (.sub (.loc 0) (.lit (.int (4))))) (.bin .Add (.sub (.loc 0) (.lit (.int (4)))) (.attr (.loc 1) "x_offset")),
    .assign (.one (.sub (.loc 0) (.lit (.int (5))))) (.bin .Add (.sub (.loc 0) (.lit (.int (5)))) (.attr (.loc 1) "y_offset"))]
noncomputable def fn_law_hang : Fn where
  pars := 3
  dfl := []
  size := 4
  body := [
    .for (.one (.loc 3)) (.tcall "range" [(.bin .Add (.loc 1) (.lit (.int (1)))), (.bin .Add (.loc 2) (.lit (.int (1))))]) [
      .assign (.one (.sub (.sub (.sub (.loc 0) (.lit (.int (0)))) (.loc 3)) (.lit (.int (2))))) (.lit (.bool true))]]
noncomputable def fn_law_pair : Fn where
  pars := 4
  dfl := []
  size := 8
  body := [
    .assign (.one (.loc 4)) (.fcall 970 [(.loc 0), (.loc 1), (.loc 3), (.lit (.int (1)))]),
    .ite (.cmp .Lt (.loc 4) (.lit (.int (0)))) [
      .ret (.neg (.lit (.int (1))))] [],
    .assign (.many [(.loc 5), (.loc 6)]) (.tup [(.sub (.sub (.sub (.loc 0) (.lit (.int (0)))) (.loc 3)) (.lit (.int (0)))), (.sub (.sub (.sub (.loc 0) (.lit (.int (0)))) (.loc 4)) (.lit (.int (0))))]),
    .ite (.bcall "isinstance" [(.loc 2), (.lit (.ref 723))]) [
      .assign (.one (.loc 7)) (.meth (.attr (.loc 2) "pairs") "get" [(.tup [(.loc 5), (.loc 6)])])] [
      .assign (.one (.loc 7)) (.sub (.sub (.attr (.loc 2) "rows") (.meth (.attr (.attr (.loc 2) "firsts") "classes") "get" [(.loc 5), (.lit (.int (0)))])) (.meth (.attr (.attr (.loc 2) "seconds") "classes") "get" [(.loc 6), (.lit (.int (0)))])),
      .assign (.one (.loc 7)) (.ite (.cmp .In (.loc 5) (.attr (.attr (.loc 2) "coverage") "glyphs")) (.loc 7) (.lit .none))],
    .ite (.cmp .Is (.loc 7) (.lit .none)) [
      .ret (.neg (.lit (.int (1))))] [],
    .expr (.fcall 984 [(.loc 0), (.loc 3), (.loc 4)]),
    .expr (.fcall 977 [(.sub (.sub (.loc 0) (.lit (.int (0)))) (.loc 3)), (.sub (.loc 7) (.lit (.int (0))))]),
    .expr (.fcall 977 [(.sub (.sub (.loc 0) (.lit (.int (0)))) (.loc 4)), (.sub (.loc 7) (.lit (.int (1))))]),
    .ret (.ite (.attr (.loc 2) "is_second") (.bin .Add (.loc 4) (.lit (.int (1)))) (.loc 4))]
noncomputable def fn_law_matched : Fn where
  pars := 6
  dfl := []
  size := 11
  body := [
    .assign (.many [(.loc 6), (.loc 7)]) (.tup [(.list [(.loc 4)]), (.loc 4)]),
    .ite (.not (.fcall 956 [(.loc 2), (.sub (.attr (.loc 3) "inside") (.lit (.int (0)))), (.lit (.int (1))), (.sub (.sub (.sub (.loc 0) (.lit (.int (0)))) (.loc 4)) (.lit (.int (0))))])) [
      .ret (.lit .none)] [],
    .for (.one (.loc 8)) (.slice (.attr (.loc 3) "inside") (.lit (.int (1))) (.lit .none)) [
      .assign (.one (.loc 9)) (.fcall 970 [(.loc 0), (.loc 1), (.sub (.loc 6) (.neg (.lit (.int (1))))), (.lit (.int (1)))]),
      .ite (.or (.cmp .Lt (.loc 9) (.lit (.int (0)))) (.or (.not (.fcall 956 [(.loc 2), (.loc 8), (.lit (.int (1))), (.sub (.sub (.sub (.loc 0) (.lit (.int (0)))) (.loc 9)) (.lit (.int (0))))])) (.cmp .Eq (.bin .BitAnd (.sub (.sub (.sub (.loc 0) (.lit (.int (0)))) (.loc 9)) (.lit (.int (1)))) (.loc 5)) (.lit (.int (0)))))) [
        .ret (.lit .none)] [],
      .expr (.meth (.loc 6) "append" [(.loc 9)])],
    .for (.one (.loc 8)) (.attr (.loc 3) "back") [
      .assign (.one (.loc 7)) (.fcall 970 [(.loc 0), (.loc 1), (.loc 7), (.neg (.lit (.int (1))))]),
      .ite (.or (.cmp .Lt (.loc 7) (.lit (.int (0)))) (.not (.fcall 956 [(.loc 2), (.loc 8), (.lit (.int (0))), (.sub (.sub (.sub (.loc 0) (.lit (.int (0)))) (.loc 7)) (.lit (.int (0))))]))) [
        .ret (.lit .none)] []],
    .assign (.one (.loc 10)) (.sub (.loc 6) (.neg (.lit (.int (1))))),
    .for (.one (.loc 8)) (.attr (.loc 3) "ahead") [
      .assign (.one (.loc 10)) (.fcall 970 [(.loc 0), (.loc 1), (.loc 10), (.lit (.int (1)))]),
      .ite (.or (.cmp .Lt (.loc 10) (.lit (.int (0)))) (.not (.fcall 956 [(.loc 2), (.loc 8), (.lit (.int (2))), (.sub (.sub (.sub (.loc 0) (.lit (.int (0)))) (.loc 10)) (.lit (.int (0))))]))) [
        .ret (.lit .none)] []],
    .ret (.tup [(.loc 6), (.loc 7), (.loc 10)])]
noncomputable def fn_law_context : Fn where
  pars := 5
  dfl := []
  size := 11
  body := [
    .assign (.one (.loc 5)) (.sub (.sub (.sub (.loc 0) (.lit (.int (0)))) (.loc 3)) (.lit (.int (0)))),
    .ite (.and (.cmp .Eq (.attr (.loc 2) "form") (.lit (.int (2)))) (.cmp .NotIn (.loc 5) (.attr (.attr (.loc 2) "coverage") "glyphs"))) [
      .ret (.neg (.lit (.int (1))))] [],
    .assign (.one (.loc 6)) (.ite (.cmp .Eq (.attr (.loc 2) "form") (.lit (.int (1)))) (.loc 5) (.ite (.cmp .Eq (.attr (.loc 2) "form") (.lit (.int (2)))) (.meth (.attr (.sub (.attr (.loc 2) "classes") (.lit (.int (1)))) "classes") "get" [(.loc 5), (.lit (.int (0)))]) (.lit (.int (0))))),
    .for (.one (.loc 7)) (.meth (.attr (.loc 2) "sets") "get" [(.loc 6), (.list [])]) [
      .assign (.one (.loc 8)) (.fcall 998 [(.loc 0), (.loc 1), (.loc 2), (.loc 7), (.loc 3), (.loc 4)]),
      .ite (.cmp .IsNot (.loc 8) (.lit .none)) [
        .expr (.fcall 984 [(.loc 0), (.sub (.loc 8) (.lit (.int (1)))), (.sub (.loc 8) (.lit (.int (2))))]),
        .for (.many [(.loc 9), (.loc 10)]) (.attr (.loc 7) "actions") [
          .ite (.cmp .Lt (.loc 9) (.bcall "len" [(.sub (.loc 8) (.lit (.int (0))))])) [
            .expr (.fcall 1012 [(.loc 0), (.loc 10), (.sub (.sub (.loc 8) (.lit (.int (0)))) (.loc 9)), (.loc 4)])] []],
        .ret (.bin .Add (.sub (.sub (.loc 8) (.lit (.int (0)))) (.neg (.lit (.int (1))))) (.lit (.int (1))))] []],
    .ret (.neg (.lit (.int (1))))]
noncomputable def fn_law_apply : Fn where
  pars := 4
  dfl := []
  size := 8
  body := [
    .assign (.one (.loc 4)) (.sub (.sub (.loc 0) (.lit (.int (2)))) (.loc 1)),
    .for (.one (.loc 5)) (.attr (.loc 4) "tables") [
      .ite (.cmp .Eq (.attr (.loc 4) "kind") (.lit (.str (Str.ofString "adjust")))) [
        .assign (.one (.loc 6)) (.meth (.attr (.loc 5) "values") "get" [(.sub (.sub (.sub (.loc 0) (.lit (.int (0)))) (.loc 2)) (.lit (.int (0))))]),
        .assign (.one (.loc 7)) (.ite (.cmp .Is (.loc 6) (.lit .none)) (.neg (.lit (.int (1)))) (.bin .Add (.loc 2) (.lit (.int (1))))),
        .ite (.cmp .IsNot (.loc 6) (.lit .none)) [
          .expr (.fcall 977 [(.sub (.sub (.loc 0) (.lit (.int (0)))) (.loc 2)), (.loc 6)])] []] [
        .ite (.cmp .Eq (.attr (.loc 4) "kind") (.lit (.str (Str.ofString "pair")))) [
          .assign (.one (.loc 7)) (.fcall 991 [(.loc 0), (.loc 4), (.loc 5), (.loc 2)])] [
          .assign (.one (.loc 7)) (.fcall 1005 [(.loc 0), (.loc 4), (.loc 5), (.loc 2), (.loc 3)])]],
      .ite (.cmp .GtE (.loc 7) (.lit (.int (0)))) [
        .ret (.loc 7)] []],
    .ret (.neg (.lit (.int (1))))]
noncomputable def fn_law_run : Fn where
  pars := 3
  dfl := []
  size := 5
  body := [
    .assign (.one (.loc 3)) (.lit (.int (0))),
    .while (.cmp .Lt (.loc 3) (.bcall "len" [(.sub (.loc 0) (.lit (.int (0))))])) [
      .assign (.one (.loc 4)) (.neg (.lit (.int (1)))),
      .ite (.and (.cmp .NotEq (.bin .BitAnd (.sub (.sub (.sub (.loc 0) (.lit (.int (0)))) (.loc 3)) (.lit (.int (1)))) (.loc 2)) (.lit (.int (0)))) (.not (.fcall 963 [(.loc 0), (.sub (.sub (.loc 0) (.lit (.int (2)))) (.loc 1)), (.loc 3)]))) [
        .assign (.one (.loc 4)) (.fcall 1012 [(.loc 0), (.loc 1), (.loc 3), (.loc 2)])] [],
      .assign (.one (.loc 3)) (.ite (.cmp .Gt (.loc 4) (.loc 3)) (.loc 4) (.bin .Add (.loc 3) (.lit (.int (1)))))]]
noncomputable def fn_law_told : Fn where
  pars := 1
  dfl := []
  size := 2
  body := [
    .ret (.comp1 (.list [(.attr (.loc 1) "glyph"), (.attr (.loc 1) "mask"), (.attr (.loc 1) "is_unsafe"), (.attr (.loc 1) "x_advance"), (.attr (.loc 1) "x_offset"), (.attr (.loc 1) "y_offset")]) 1 (.attr (.loc 0) "row") [])]
noncomputable def fn_law : Fn where
  pars := 1
  dfl := []
  size := 22
  body := [
    .assign (.one (.loc 1)) (.fcall 913 [(.loc 0)]),
    .assign (.one (.loc 2)) (.comp1 (.ccall 135 118 [(.lit (.int (65))), (.fcall 920 [(.loc 1), (.lit (.int (6)))]), (.loc 20)]) 20 (.tcall "range" [(.fcall 920 [(.loc 1), (.lit (.int (8)))])]) []),
    .for (.one (.loc 3)) (.loc 2) [
      .assign (.many [(.attr (.loc 3) "mask"), (.attr (.loc 3) "x_advance"), (.attr (.loc 3) "y_advance"), (.attr (.loc 3) "y_offset")]) (.tup [(.fcall 927 [(.loc 1), (.list [(.lit (.int (3))), (.lit (.int (1))), (.lit (.int (2))), (.lit (.int (3)))])]), (.lit (.int (5))), (.lit (.int (9))), (.fcall 920 [(.loc 1), (.lit (.int (3)))])])],
    .assign (.one (.loc 4)) (.comp1 (.loc 20) 20 (.tcall "range" [(.lit (.int (6)))]) [(.cmp .Eq (.fcall 920 [(.loc 1), (.lit (.int (4)))]) (.lit (.int (0))))]),
    .assign (.one (.loc 5)) (.comp1 (.ccall 670 662 [(.tcall "dict" [(.comp1 (.tup [(.loc 21), (.fcall 934 [(.loc 1)])]) 21 (.fcall 939 [(.loc 1), (.lit (.int (3)))]) [])])]) 20 (.tcall "range" [(.bin .Add (.lit (.int (1))) (.fcall 920 [(.loc 1), (.lit (.int (2)))]))]) []),
    .assign (.one (.loc 6)) (.comp1 (.fcall 944 [(.loc 1)]) 20 (.tcall "range" [(.bin .Add (.lit (.int (1))) (.fcall 920 [(.loc 1), (.lit (.int (2)))]))]) []),
    .assign (.many [(.loc 7), (.loc 8)]) (.tup [(.cmp .Eq (.fcall 920 [(.loc 1), (.lit (.int (2)))]) (.lit (.int (0)))), (.bin .Add (.lit (.int (1))) (.fcall 920 [(.loc 1), (.lit (.int (3)))]))]),
    .assign (.one (.loc 9)) (.comp1 (.fcall 949 [(.loc 1), (.loc 8), (.loc 7)]) 20 (.tcall "range" [(.lit (.int (2)))]) []),
    .assign (.one (.loc 10)) (.comp1 (.fcall 927 [(.loc 1), (.list [(.lit (.int (0))), (.lit (.int (8))), (.lit (.int (8))), (.lit (.int (2)))])]) 20 (.tcall "range" [(.lit (.int (3)))]) []),
    .assign (.one (.loc 11)) (.list [(.lit (.str (Str.ofString "adjust"))), (.lit (.str (Str.ofString "pair"))), (.ite (.loc 7) (.lit (.str (Str.ofString "chain"))) (.lit (.str (Str.ofString "context"))))]),
    .assign (.one (.loc 12)) (.comp1 (.ccall 43 35 [(.sub (.loc 11) (.loc 20)), (.sub (.loc 10) (.loc 20)), (.lit (.int (0))), (.sub (.list [(.loc 5), (.loc 6), (.loc 9)]) (.loc 20))]) 20 (.tcall "range" [(.lit (.int (3)))]) []),
    .assign (.one (.loc 13)) (.ccall 904 875 [(.ccall 856 827 [(.tcall "dict" [(.comp1 (.tup [(.loc 20), (.ite (.cmp .In (.loc 20) (.loc 4)) (.lit (.int (3))) (.lit (.int (1))))]) 20 (.tcall "range" [(.lit (.int (6)))]) [])])]), (.ccall 856 827 [(.dict [])]), (.list [])]),
    .assign (.many [(.loc 14), (.loc 15), (.loc 16)]) (.tup [(.ccall 179 154 [(.loc 2)]), (.fcall 927 [(.loc 1), (.list [(.lit (.int (2))), (.lit (.int (2))), (.lit (.int (1))), (.lit (.int (0)))])]), (.fcall 927 [(.loc 1), (.list [(.lit (.int (1))), (.lit (.int (2))), (.lit (.int (3)))])])]),
    .assign (.one (.loc 17)) (.tup [(.fcall 1024 [(.loc 14)]), (.loc 4), (.loc 12)]),
    .expr (.fcall 813 [(.loc 14), (.loc 13), (.loc 12), (.loc 15), (.loc 16)]),
    .expr (.fcall 1019 [(.loc 17), (.loc 15), (.loc 16)]),
    .ite (.or (.cmp .NotEq (.fcall 1024 [(.loc 14)]) (.sub (.loc 17) (.lit (.int (0))))) (.cmp .NotEq (.comp1 (.attr (.loc 20) "y_advance") 20 (.attr (.loc 14) "row") []) (.bin .Mult (.list [(.lit (.int (9)))]) (.bcall "len" [(.loc 2)])))) [
      .ret (.lit (.bool false))] [],
    .ite (.cmp .Eq (.loc 2) (.list [])) [
      .ret (.lit (.bool true))] [],
    .assign (.one (.loc 18)) (.fcall 920 [(.loc 1), (.bcall "len" [(.loc 2)])]),
    .assign (.one (.loc 19)) (.fcall 787 [(.ccall 65 62 [(.loc 14), (.loc 13), (.loc 12), (.sub (.loc 12) (.loc 15)), (.loc 16)]), (.loc 18)]),
    .ret (.and (.cmp .Eq (.loc 19) (.fcall 1012 [(.loc 17), (.loc 15), (.loc 18), (.loc 16)])) (.and (.cmp .Eq (.fcall 1024 [(.loc 14)]) (.sub (.loc 17) (.lit (.int (0))))) (.cmp .Eq (.meth (.loc 14) "clusters" []) (.tcall "list" [(.tcall "range" [(.bcall "len" [(.loc 2)])])]))))]
noncomputable def fn_Lookup_init : Fn where
  pars := 5
  dfl := []
  size := 5
  body := [
    .assign (.one (.attr (.loc 0) "kind")) (.loc 1),
    .assign (.one (.attr (.loc 0) "flag")) (.loc 2),
    .assign (.one (.attr (.loc 0) "mark_set")) (.loc 3),
    .assign (.one (.attr (.loc 0) "tables")) (.loc 4)]
noncomputable def fn_Scene_init : Fn where
  pars := 7
  dfl := [(.int (0))]
  size := 7
  body := [
    .assign (.one (.attr (.loc 0) "buffer")) (.loc 1),
    .assign (.one (.attr (.loc 0) "gdef")) (.loc 2),
    .assign (.one (.attr (.loc 0) "lookups")) (.loc 3),
    .assign (.one (.attr (.loc 0) "lookup")) (.loc 4),
    .assign (.one (.attr (.loc 0) "mask")) (.loc 5),
    .assign (.one (.attr (.loc 0) "depth")) (.loc 6)]
noncomputable def fn_Info_init : Fn where
  pars := 4
  dfl := []
  size := 4
  body := [
    .assign (.one (.attr (.loc 0) "code")) (.loc 1),
    .assign (.one (.attr (.loc 0) "glyph")) (.loc 2),
    .assign (.one (.attr (.loc 0) "cluster")) (.loc 3),
    .assign (.one (.attr (.loc 0) "mask")) (.lit (.int (0))),
    .assign (.one (.attr (.loc 0) "is_unsafe")) (.lit (.bool false)),
    .assign (.one (.attr (.loc 0) "lig_id")) (.lit (.int (0))),
    .assign (.one (.attr (.loc 0) "lig_part")) (.lit (.int (0))),
    .assign (.one (.attr (.loc 0) "lig_count")) (.lit (.int (0))),
    .assign (.one (.attr (.loc 0) "kind")) (.lit (.str (Str.ofString ""))),
    .assign (.one (.attr (.loc 0) "x_advance")) (.lit (.int (0))),
    .assign (.one (.attr (.loc 0) "y_advance")) (.lit (.int (0))),
    .assign (.one (.attr (.loc 0) "x_offset")) (.lit (.int (0))),
    .assign (.one (.attr (.loc 0) "y_offset")) (.lit (.int (0))),
    .assign (.one (.attr (.loc 0) "parent")) (.lit (.int (0))),
    .assign (.one (.attr (.loc 0) "bond")) (.lit (.str (Str.ofString "")))]
noncomputable def fn_Buffer_init : Fn where
  pars := 3
  dfl := [(.bool false)]
  size := 3
  body := [
    .assign (.one (.attr (.loc 0) "row")) (.loc 1),
    .assign (.one (.attr (.loc 0) "is_backward")) (.loc 2),
    .assign (.one (.attr (.loc 0) "last_lig")) (.lit (.int (0)))]
noncomputable def fn_Buffer_clusters : Fn where
  pars := 1
  dfl := []
  size := 2
  body := [
    .ret (.comp1 (.attr (.loc 1) "cluster") 1 (.attr (.loc 0) "row") [])]
noncomputable def fn_Coverage_init : Fn where
  pars := 2
  dfl := []
  size := 2
  body := [
    .assign (.one (.attr (.loc 0) "glyphs")) (.loc 1)]
noncomputable def fn_Coverage_index : Fn where
  pars := 2
  dfl := []
  size := 5
  body := [
    .assign (.one (.loc 2)) (.lit (.int (0))),
    .assign (.one (.loc 3)) (.bcall "len" [(.attr (.loc 0) "glyphs")]),
    .while (.cmp .Lt (.loc 2) (.loc 3)) [
      .assign (.one (.loc 4)) (.bin .FloorDiv (.bin .Add (.loc 2) (.loc 3)) (.lit (.int (2)))),
      .ite (.cmp .Lt (.sub (.attr (.loc 0) "glyphs") (.loc 4)) (.loc 1)) [
        .assign (.one (.loc 2)) (.bin .Add (.loc 4) (.lit (.int (1))))] [
        .assign (.one (.loc 3)) (.loc 4)]],
    .ite (.and (.cmp .Lt (.loc 2) (.bcall "len" [(.attr (.loc 0) "glyphs")])) (.cmp .Eq (.sub (.attr (.loc 0) "glyphs") (.loc 2)) (.loc 1))) [
      .ret (.loc 2)] [],
    .ret (.neg (.lit (.int (1))))]
noncomputable def fn_Coverage_has : Fn where
  pars := 2
  dfl := []
  size := 2
  body := [
    .ret (.cmp .GtE (.meth (.loc 0) "index" [(.loc 1)]) (.lit (.int (0))))]
noncomputable def fn_Rule_init : Fn where
  pars := 5
  dfl := []
  size := 5
  body := [
    .assign (.one (.attr (.loc 0) "back")) (.loc 1),
    .assign (.one (.attr (.loc 0) "inside")) (.loc 2),
    .assign (.one (.attr (.loc 0) "ahead")) (.loc 3),
    .assign (.one (.attr (.loc 0) "actions")) (.loc 4)]
noncomputable def fn_Contexts_init : Fn where
  pars := 6
  dfl := [.none, .none]
  size := 6
  body := [
    .assign (.one (.attr (.loc 0) "form")) (.loc 1),
    .assign (.one (.attr (.loc 0) "is_chained")) (.loc 2),
    .assign (.one (.attr (.loc 0) "sets")) (.loc 3),
    .assign (.one (.attr (.loc 0) "coverage")) (.loc 4),
    .assign (.one (.attr (.loc 0) "classes")) (.loc 5)]
noncomputable def fn_Contexts_rules : Fn where
  pars := 1
  dfl := []
  size := 4
  body := [
    .assign (.one (.loc 1)) (.list []),
    .for (.one (.loc 2)) (.bcall "sorted" [(.attr (.loc 0) "sets")]) [
      .for (.one (.loc 3)) (.sub (.attr (.loc 0) "sets") (.loc 2)) [
        .expr (.meth (.loc 1) "append" [(.loc 3)])]],
    .ret (.loc 1)]
noncomputable def fn_Places_init : Fn where
  pars := 3
  dfl := []
  size := 3
  body := [
    .assign (.one (.attr (.loc 0) "row")) (.loc 1),
    .assign (.one (.attr (.loc 0) "end")) (.loc 2)]
noncomputable def fn_Value_init : Fn where
  pars := 5
  dfl := []
  size := 5
  body := [
    .assign (.one (.attr (.loc 0) "x_offset")) (.loc 1),
    .assign (.one (.attr (.loc 0) "y_offset")) (.loc 2),
    .assign (.one (.attr (.loc 0) "x_advance")) (.loc 3),
    .assign (.one (.attr (.loc 0) "y_advance")) (.loc 4)]
noncomputable def fn_Value_told : Fn where
  pars := 1
  dfl := []
  size := 1
  body := [
    .ret (.tup [(.attr (.loc 0) "x_offset"), (.attr (.loc 0) "y_offset"), (.attr (.loc 0) "x_advance"), (.attr (.loc 0) "y_advance")])]
noncomputable def fn_Value_is_nothing : Fn where
  pars := 1
  dfl := []
  size := 1
  body := [
    .ret (.cmp .Eq (.meth (.loc 0) "told" []) (.tup [(.lit (.int (0))), (.lit (.int (0))), (.lit (.int (0))), (.lit (.int (0)))]))]
noncomputable def fn_Adjust_init : Fn where
  pars := 2
  dfl := []
  size := 2
  body := [
    .assign (.one (.attr (.loc 0) "values")) (.loc 1)]
noncomputable def fn_PairGlyphs_init : Fn where
  pars := 3
  dfl := [(.bool false)]
  size := 3
  body := [
    .assign (.one (.attr (.loc 0) "pairs")) (.loc 1),
    .assign (.one (.attr (.loc 0) "is_second")) (.or (.loc 2) (.fcall 693 [(.meth (.loc 1) "values" [])]))]
noncomputable def fn_PairGlyphs_find : Fn where
  pars := 3
  dfl := []
  size := 3
  body := [
    .ret (.meth (.attr (.loc 0) "pairs") "get" [(.tup [(.loc 1), (.loc 2)])])]
noncomputable def fn_PairClasses_init : Fn where
  pars := 6
  dfl := [(.bool false)]
  size := 8
  body := [
    .assign (.one (.attr (.loc 0) "coverage")) (.loc 1),
    .assign (.one (.attr (.loc 0) "firsts")) (.loc 2),
    .assign (.one (.attr (.loc 0) "seconds")) (.loc 3),
    .assign (.one (.attr (.loc 0) "rows")) (.loc 4),
    .assign (.one (.attr (.loc 0) "is_second")) (.or (.loc 5) (.fcall 693 [(.comp2 (.loc 7) 6 (.loc 4) 7 (.loc 6) [])]))]
noncomputable def fn_PairClasses_find : Fn where
  pars := 3
  dfl := []
  size := 5
  body := [
    .ite (.not (.meth (.attr (.loc 0) "coverage") "has" [(.loc 1)])) [
      .ret (.lit .none)] [],
    .assign (.one (.loc 3)) (.meth (.attr (.loc 0) "firsts") "class_of" [(.loc 1)]),
    .assign (.one (.loc 4)) (.meth (.attr (.loc 0) "seconds") "class_of" [(.loc 2)]),
    .ite (.or (.cmp .GtE (.loc 3) (.bcall "len" [(.attr (.loc 0) "rows")])) (.cmp .GtE (.loc 4) (.bcall "len" [(.sub (.attr (.loc 0) "rows") (.loc 3))]))) [
      .ret (.lit .none)] [],
    .ret (.sub (.sub (.attr (.loc 0) "rows") (.loc 3)) (.loc 4))]
noncomputable def fn_ClassDef_init : Fn where
  pars := 2
  dfl := []
  size := 2
  body := [
    .assign (.one (.attr (.loc 0) "classes")) (.loc 1)]
noncomputable def fn_ClassDef_class_of : Fn where
  pars := 2
  dfl := []
  size := 2
  body := [
    .ret (.meth (.attr (.loc 0) "classes") "get" [(.loc 1), (.lit (.int (0)))])]
noncomputable def fn_Gdef_init : Fn where
  pars := 6
  dfl := [.none, .none]
  size := 6
  body := [
    .assign (.one (.attr (.loc 0) "classes")) (.loc 1),
    .assign (.one (.attr (.loc 0) "attach")) (.loc 2),
    .assign (.one (.attr (.loc 0) "sets")) (.loc 3),
    .assign (.one (.attr (.loc 0) "points")) (.ite (.cmp .Is (.loc 4) (.lit .none)) (.dict []) (.loc 4)),
    .assign (.one (.attr (.loc 0) "carets")) (.ite (.cmp .Is (.loc 5) (.lit .none)) (.dict []) (.loc 5))]
noncomputable def fn_Gdef_glyph_class : Fn where
  pars := 2
  dfl := []
  size := 3
  body := [
    .assign (.one (.loc 2)) (.meth (.attr (.loc 0) "classes") "class_of" [(.loc 1)]),
    .ret (.ite (.chain .LtE .LtE (.lit (.int (1))) (.loc 2) (.lit (.int (4)))) (.loc 2) (.lit (.int (0))))]
noncomputable def pg : Pg where
  fns := [(76, fn_attach_wanted), (83, fn_class_bit), (90, fn_is_ignored), (97, fn_passes), (104, fn_nested_scene), (188, fn_hang), (197, fn_fits), (204, fn_neighbour), (211, fn_next_at), (225, fn_is_borne), (232, fn_found_at), (239, fn_input_at), (246, fn_last_at), (253, fn_ahead_at), (260, fn_back_at), (435, fn_coverage_of), (521, fn_tests_of), (528, fn_rule_tests), (533, fn_rules_at), (561, fn_match_rule), (568, fn_inner_scene), (592, fn_do_action), (599, fn_do_actions), (606, fn_apply_context), (648, fn_add_value), (681, fn_apply_adjust), (693, fn_moves_second), (766, fn_has_second), (773, fn_apply_pair), (780, fn_apply_position), (787, fn_position_at), (794, fn_beginnings_of_context), (799, fn_beginnings_of_pair), (806, fn_beginnings), (813, fn_run_position), (913, fn_law_pen), (920, fn_law_draw), (927, fn_law_pick), (934, fn_law_value), (939, fn_law_few), (944, fn_law_pair_table), (949, fn_law_context_table), (956, fn_law_fits), (963, fn_law_is_passed), (970, fn_law_beside), (977, fn_law_move), (984, fn_law_hang), (991, fn_law_pair), (998, fn_law_matched), (1005, fn_law_context), (1012, fn_law_apply), (1019, fn_law_run), (1024, fn_law_told), (1029, fn_law), (35, fn_Lookup_init), (62, fn_Scene_init), (118, fn_Info_init), (154, fn_Buffer_init), (164, fn_Buffer_clusters), (400, fn_Coverage_init), (407, fn_Coverage_index), (414, fn_Coverage_has), (449, fn_Rule_init), (485, fn_Contexts_init), (504, fn_Contexts_rules), (547, fn_Places_init), (620, fn_Value_init), (627, fn_Value_told), (634, fn_Value_is_nothing), (662, fn_Adjust_init), (708, fn_PairGlyphs_init), (715, fn_PairGlyphs_find), (740, fn_PairClasses_init), (747, fn_PairClasses_find), (827, fn_ClassDef_init), (834, fn_ClassDef_class_of), (875, fn_Gdef_init), (882, fn_Gdef_glyph_class)]
  cls := [(43, { init := 35, meths := [("told", 40)] }),
    (65, { init := 62, meths := [] }),
    (135, { init := 118, meths := [("copied", 125), ("told", 132)] }),
    (179, { init := 154, meths := [("glyphs", 159), ("clusters", 164), ("told", 169), ("next_lig", 176)] }),
    (424, { init := 400, meths := [("index", 407), ("has", 414), ("told", 421)] }),
    (466, { init := 449, meths := [("told", 456), ("reach", 463)] }),
    (507, { init := 485, meths := [("told", 490), ("used_classes", 497), ("rules", 504)] }),
    (550, { init := 547, meths := [] }),
    (637, { init := 620, meths := [("told", 627), ("is_nothing", 634)] }),
    (670, { init := 662, meths := [("told", 667)] }),
    (723, { init := 708, meths := [("find", 715), ("told", 720)] }),
    (755, { init := 740, meths := [("find", 747), ("told", 752)] }),
    (856, { init := 827, meths := [("class_of", 834), ("glyphs_of", 841), ("count", 848), ("told", 853)] }),
    (904, { init := 875, meths := [("glyph_class", 882), ("attach_class", 889), ("is_in_set", 896), ("told", 901)] })]
end Mine
end
section
open PySem
namespace Mine
-- C3
abbrev Mp := List (Option V)
abbrev Po := V → Sg → Prop
abbrev Lo := List V → Sg → Prop
abbrev Tst := Bool → Sg → Prop
abbrev Ps := Fl → Mp → Sg → Prop
abbrev Kall := Addr → List V → Sg → Po → Prop
noncomputable def sl : Mp → Nat → Option V
  | [], _ => none
  | x :: _, 0 => x
  | _ :: r, n + 1 => sl r n
noncomputable def st : Mp → Nat → V → Mp
  | [], _, _ => []
  | _ :: r, 0, v => some v :: r
  | x :: r, n + 1, v => x :: st r n v
inductive kIf (P R : Sg → Prop) (t : Bool) (σ : Sg) : Prop
  | t (h : t = true) (p : P σ)
  | f (h : t = false) (p : R σ)
noncomputable def onO (o : Option V) (Q : Po) (σ : Sg) : Prop := Option.rec False (fun v => Q v σ) o
inductive New (σ : Sg) (c : C) (Q : Po) : Prop
  | mk (h : ∀ l, σ l = none → Q (.ref l) (up σ l c))
inductive NewD (σ : Sg) (es : List (Int × V)) (Q : Po) : Prop
  | mk (h : ∀ n, New σ (.dict n es) Q)
noncomputable def Obj1 (σ : Sg) (a c : Addr) (fs : List (String × V)) : Prop := ∃ d, σ a = some (.inst c d) ∧ σ d = some (.ns a fs)
noncomputable def rangeL (lo hi : Int) : List V := (List.range (hi - lo).toNat).map fun (k : Nat) => V.int (lo + (k : Int))
inductive Items (σ : Sg) (s : V) : List V → Prop
  | list {a xs} (e : s = .ref a) (h : σ a = some (.list xs)) : Items σ s xs
  | tup {a xs} (e : s = .ref a) (h : σ a = some (.tup xs)) : Items σ s xs
  | range {a lo hi} (e : s = .ref a) (h : σ a = some (.range lo hi)) : Items σ s (rangeL lo hi)
  | dict {a n es} (e : s = .ref a) (h : σ a = some (.dict n es)) : Items σ s (es.map fun e => V.int e.1)
  | tdict {a n es} (e : s = .ref a) (h : σ a = some (.tdict n es)) : Items σ s (es.map fun e => V.ref e.2.1)
  | vals {a d n es} (e : s = .ref a) (h : σ a = some (.vals d)) (k : σ d = some (.dict n es)) : Items σ s (es.map fun e => e.2)
  | tvals {a d n es} (e : s = .ref a) (h : σ a = some (.vals d)) (k : σ d = some (.tdict n es)) : Items σ s (es.map fun e => e.2.2)
noncomputable def Same (src : V) (σ σ' : Sg) : Prop := ∀ a, src = .ref a → σ' a = σ a ∧ ∀ d, σ a = some (.vals d) → σ' d = σ d
inductive EqS : V → V → Bool → Prop
  | none : EqS .none .none true
  | bool {a b} : EqS (.bool a) (.bool b) (a == b)
  | int {a b} : EqS (.int a) (.int b) (a == b)
  | str {a b} : EqS (.str a) (.str b) (a == b)
inductive EqA (P : V → V → Bool → Prop) : List V → List V → Bool → Prop
  | nil : EqA P [] [] true
  | cons {x y xs ys a b} : P x y a → EqA P xs ys b → EqA P (x :: xs) (y :: ys) (a && b)
inductive EqL (P : V → V → Bool → Prop) (σ : Sg) (x y : V) (r : Bool) : Prop
  | one (h : EqS x y r)
  | list {a b xs ys} (e : x = .ref a) (f : y = .ref b) (h : σ a = some (.list xs)) (k : σ b = some (.list ys)) (n : a ≠ b) (q : EqA P xs ys r)
  | tup {a b xs ys} (e : x = .ref a) (f : y = .ref b) (h : σ a = some (.tup xs)) (k : σ b = some (.tup ys)) (n : a ≠ b) (q : EqA P xs ys r)
  | len {a b xs ys} (e : x = .ref a) (f : y = .ref b) (h : σ a = some (.list xs)) (k : σ b = some (.list ys)) (n : a ≠ b) (q : xs.length ≠ ys.length) (g : r = false)
inductive InA (x : V) : List V → Bool → Prop
  | nil : InA x [] false
  | cons {y ys a b} : EqS y x a → InA x ys b → InA x (y :: ys) (a || b)
inductive CmpK (op : CmpOp) (Q : Tst) (x y : V) (σ : Sg) : Prop
  | lt {i j} (e : x = .int i) (f : y = .int j) (o : op = .Lt) (q : Q (decide (i < j)) σ)
  | le {i j} (e : x = .int i) (f : y = .int j) (o : op = .LtE) (q : Q (decide (i ≤ j)) σ)
  | gt {i j} (e : x = .int i) (f : y = .int j) (o : op = .Gt) (q : Q (decide (j < i)) σ)
  | ge {i j} (e : x = .int i) (f : y = .int j) (o : op = .GtE) (q : Q (decide (j ≤ i)) σ)
  | isT (e : x = .none) (f : y = .none) (o : op = .Is) (q : Q true σ)
  | isF {a} (e : x = .ref a) (f : y = .none) (o : op = .Is) (q : Q false σ)
  | notT (e : x = .none) (f : y = .none) (o : op = .IsNot) (q : Q false σ)
  | notF {a} (e : x = .ref a) (f : y = .none) (o : op = .IsNot) (q : Q true σ)
  | eq {b} (h : EqL (EqL EqS σ) σ x y b) (o : op = .Eq) (q : Q b σ)
  | ne {b} (h : EqL (EqL EqS σ) σ x y b) (o : op = .NotEq) (q : Q (!b) σ)
  | inL {a xs b} (f : y = .ref a) (h : σ a = some (.list xs)) (k : InA x xs b) (o : op = .In) (q : Q b σ)
  | inT {a xs b} (f : y = .ref a) (h : σ a = some (.tup xs)) (k : InA x xs b) (o : op = .In) (q : Q b σ)
  | inD {i a n es} (e : x = .int i) (f : y = .ref a) (h : σ a = some (.dict n es)) (o : op = .In) (q : Q (es.lookup i).isSome σ)
  | niL {a xs b} (f : y = .ref a) (h : σ a = some (.list xs)) (k : InA x xs b) (o : op = .NotIn) (q : Q (!b) σ)
  | niT {a xs b} (f : y = .ref a) (h : σ a = some (.tup xs)) (k : InA x xs b) (o : op = .NotIn) (q : Q (!b) σ)
noncomputable def tQ (Q : Tst) (v : V) (σ : Sg) : Prop := V.rec (Q false σ) (fun b => Q b σ) (fun i => Q (i != 0) σ) (fun _ => False) (fun _ => False) (fun _ => False) (fun _ => False) False v
inductive Idx (xs : List V) : Int → V → Prop
  | pos {i v} : 0 ≤ i → i < 2 ^ 62 → xs[i.toNat]? = some v → Idx xs i v
  | last {v} : xs.getLast? = some v → Idx xs (-1) v
inductive SubK (Q : Po) (o k : V) (σ : Sg) : Prop
  | list {a xs i v} (e : o = .ref a) (f : k = .int i) (h : σ a = some (.list xs)) (x : Idx xs i v) (q : Q v σ)
  | tup {a xs i v} (e : o = .ref a) (f : k = .int i) (h : σ a = some (.tup xs)) (x : Idx xs i v) (q : Q v σ)
  | dict {a n es i v} (e : o = .ref a) (f : k = .int i) (h : σ a = some (.dict n es)) (x : es.lookup i = some v) (q : Q v σ)
inductive AttrK (n : String) (Q : Po) (o : V) (σ : Sg) : Prop
  | mk {a c fs v} (e : o = .ref a) (h : Obj1 σ a c fs) (x : fs.lookup n = some v) (q : Q v σ)
inductive BinK (op : Operator) (Q : Po) (x y : V) (σ : Sg) : Prop
  | add {i j} (e : x = .int i) (f : y = .int j) (o : op = .Add) (q : Q (.int (i + j)) σ)
  | sub {i j} (e : x = .int i) (f : y = .int j) (o : op = .Sub) (q : Q (.int (i - j)) σ)
  | mul {i j} (e : x = .int i) (f : y = .int j) (o : op = .Mult) (h : i.natAbs < 2 ^ 60 ∨ j.natAbs < 2 ^ 60) (q : Q (.int (i * j)) σ)
  | fdiv {i j} (e : x = .int i) (f : y = .int j) (o : op = .FloorDiv) (h : 0 < j) (k : j < 2 ^ 64) (q : Q (.int (i / j)) σ)
  | mod {i j} (e : x = .int i) (f : y = .int j) (o : op = .Mod) (h : 0 < j) (q : Q (.int (i % j)) σ)
  | pow {i j} (e : x = .int i) (f : y = .int j) (o : op = .Pow) (h : i.natAbs < 2 ^ 64) (k : 0 ≤ j) (k' : j ≤ 18) (q : Q (.int (i ^ j.toNat)) σ)
  | and {i j} (e : x = .int i) (f : y = .int j) (o : op = .BitAnd) (h : 0 ≤ i) (k : 0 ≤ j) (q : Q (.int ((i.toNat &&& j.toNat : Nat) : Int)) σ)
  | rep {a w j} (e : x = .ref a) (f : y = .int j) (o : op = .Mult) (h : σ a = some (.list [w])) (k : 0 ≤ j) (k' : j ≤ 100) (q : New σ (.list (List.replicate j.toNat w)) Q)
inductive Cut (xs : List V) : V → V → List V → Prop
  | to {h} : 0 ≤ h → h < 2 ^ 62 → Cut xs .none (.int h) (xs.take h.toNat)
  | «from» {l} : 0 ≤ l → l.toNat ≤ xs.length → Cut xs (.int l) .none (xs.drop l.toNat)
  | both {l h} : 0 ≤ l → l ≤ h → h.toNat ≤ xs.length → Cut xs (.int l) (.int h) ((xs.take h.toNat).drop l.toNat)
inductive SliceK (Q : Po) (o lo hi : V) (σ : Sg) : Prop
  | scr {a xs ys} (e : o = .ref a) (h : σ a = some (.scr xs)) (k : xs.length ≤ 1000) (c : Cut xs lo hi ys) (q : New σ (.list ys) Q)
  | list {a xs ys} (e : o = .ref a) (h : σ a = some (.list xs)) (k : xs.length ≤ 1000) (c : Cut xs lo hi ys) (q : New σ (.list ys) Q)
  | tup {a xs k} (e : o = .ref a) (f : lo = .int k) (g : hi = .none) (h : σ a = some (.tup xs)) (b : xs.length ≤ 1000) (k1 : 1 ≤ k) (k2 : k.toNat ≤ xs.length) (q : New σ (.tup (xs.drop k.toNat)) Q)
noncomputable def dput (es : List (Int × V)) (k : Int) (v : V) : List (Int × V) := match es with
  | [] => [(k, v)]
  | (k', v') :: r => if k' = k then (k', v) :: r else (k', v') :: dput r k v
noncomputable def tget (es : List ((Int × Int) × Addr × V)) (k : Int × Int) : Option V := match es with
  | [] => none
  | (k', _, v) :: r => if k' = k then some v else tget r k
noncomputable def tput (es : List ((Int × Int) × Addr × V)) (k : Int × Int) (a : Addr) (v : V) : List ((Int × Int) × Addr × V) := match es with
  | [] => [(k, a, v)]
  | (k', a', v') :: r => if k' = k then (k', a', v) :: r else (k', a', v') :: tput r k a v
noncomputable def fput (fs : List (String × V)) (n : String) (v : V) : List (String × V) := match fs with
  | [] => [(n, v)]
  | (n', v') :: r => if n' = n then (n', v) :: r else (n', v') :: fput r n v
inductive PairsOf (σ : Sg) : List V → List (Int × V) → Prop
  | nil : PairsOf σ [] []
  | cons {t k v r l} : σ t = some (.tup [.int k, v]) → PairsOf σ r l → PairsOf σ (.ref t :: r) ((k, v) :: l)
noncomputable def notB : V → Bool
  | .builtin _ => false
  | _ => true
noncomputable def fieldOk (c : Addr) (n : String) : Bool := (pg.cls.lookup c).any fun k => fieldNames.contains n && !(k.meths.map (·.1)).contains n
inductive SetK (n : String) (P : Sg → Prop) (v o : V) (σ : Sg) : Prop
  | mk {a c d fs} (e : o = .ref a) (h : σ a = some (.inst c d)) (k : σ d = some (.ns a fs)) (f : fieldOk c n = true) (l : fs.length ≤ 40) (b : notB v = true) (q : P (up σ d (.ns a (fput fs n v))))
inductive SetItemK (P : Sg → Prop) (v o k : V) (σ : Sg) : Prop
  | list {a xs i} (e : o = .ref a) (f : k = .int i) (h : σ a = some (.list xs)) (i0 : 0 ≤ i) (i1 : i.toNat < xs.length) (i2 : i < 2 ^ 62) (q : P (up σ a (.list (xs.set i.toNat v))))
  | dict {a n es i} (e : o = .ref a) (f : k = .int i) (h : σ a = some (.dict n es)) (l : es.length ≤ 100) (q : ∀ n', P (up σ a (.dict n' (dput es i v))))
  | first {a n t i j} (e : o = .ref a) (f : k = .ref t) (h : σ a = some (.dict n [])) (g : σ t = some (.tup [.int i, .int j])) (q : ∀ n', P (up σ a (.tdict n' [((i, j), t, v)])))
  | tdict {a n es t i j} (e : o = .ref a) (f : k = .ref t) (h : σ a = some (.tdict n es)) (l : es.length ≤ 100) (g : σ t = some (.tup [.int i, .int j])) (q : ∀ n', P (up σ a (.tdict n' (tput es (i, j) t v))))
inductive Its (σ : Sg) (s : V) : List Int → Prop
  | set {a xs} (e : s = .ref a) (h : σ a = some (.set xs)) : Its σ s xs
  | dict {a n es} (e : s = .ref a) (h : σ a = some (.dict n es)) : Its σ s (es.map (·.1))
inductive Lst (σ : Sg) (s : V) : List V → Prop
  | list {a xs} (e : s = .ref a) (h : σ a = some (.list xs)) : Lst σ s xs
  | tup {a xs} (e : s = .ref a) (h : σ a = some (.tup xs)) : Lst σ s xs
  | range {a lo hi} (e : s = .ref a) (h : σ a = some (.range lo hi)) : Lst σ s (rangeL lo hi)
  | dict {a n es} (e : s = .ref a) (h : σ a = some (.dict n es)) : Lst σ s (es.map fun e => V.int e.1)
inductive TyK (n : String) (Q : Po) (vs : List V) (σ : Sg) : Prop
  | int {i} (e : n = "int") (f : vs = [.int i]) (q : Q (.int i) σ)
  | intB {b : Bool} (e : n = "int") (f : vs = [.bool b]) (q : Q (.int (if b then 1 else 0)) σ)
  | range {k : Int} (e : n = "range") (f : vs = [.int k]) (h : k < 2 ^ 62) (h' : -(2 ^ 62) < k) (q : New σ (.range 0 k) Q)
  | range2 {i k : Int} (e : n = "range") (f : vs = [.int i, .int k]) (g : i < 2 ^ 62) (g' : -(2 ^ 62) < i) (h : k < 2 ^ 62) (h' : -(2 ^ 62) < k) (q : New σ (.range i k) Q)
  | list {v xs} (e : n = "list") (f : vs = [v]) (h : Lst σ v xs) (l : xs.length ≤ 1000) (q : New σ (.list xs) Q)
  | tuple {a xs} (e : n = "tuple") (f : vs = [.ref a]) (h : σ a = some (.list xs)) (l : xs.length ≤ 1000) (q : New σ (.tup xs) Q)
  | dict {a xs kvs} (e : n = "dict") (f : vs = [.ref a]) (h : σ a = some (.list xs)) (p : PairsOf σ xs kvs) (l : kvs.length ≤ 100) (q : NewD σ (kvs.foldl (fun es kv => dput es kv.1 kv.2) []) Q)
  | set {a} {is : List Int} (e : n = "set") (f : vs = [.ref a]) (h : σ a = some (.list (is.map V.int))) (l : is.length ≤ 1000) (b : ∀ i ∈ is, 0 ≤ i ∧ i < 6)
      (q : ∀ js : List Int, (∀ v, v ∈ js ↔ v ∈ is) → js.length ≤ 6 → New σ (.set js) Q)
inductive BiK (n : String) (Q : Po) (vs : List V) (σ : Sg) : Prop
  | abs {i : Int} (e : n = "abs") (f : vs = [.int i]) (q : Q (.int i.natAbs) σ)
  | lenL {a xs} (e : n = "len") (f : vs = [.ref a]) (h : σ a = some (.list xs)) (l : xs.length < 2 ^ 62) (q : Q (.int xs.length) σ)
  | lenT {a xs} (e : n = "len") (f : vs = [.ref a]) (h : σ a = some (.tup xs)) (l : xs.length < 2 ^ 62) (q : Q (.int xs.length) σ)
  | sum {a} {is : List Int} (e : n = "sum") (f : vs = [.ref a]) (h : σ a = some (.list (is.map V.int))) (q : Q (.int is.sum) σ)
  | min {a i} {is : List Int} (e : n = "min") (f : vs = [.ref a]) (h : σ a = some (.list (V.int i :: is.map V.int))) (q : Q (.int (is.foldl Min.min i)) σ)
  | max {i j : Int} (e : n = "max") (f : vs = [.int i, .int j]) (q : Q (.int (Max.max i j)) σ)
  | sorted {v is} (e : n = "sorted") (f : vs = [v]) (h : Its σ v is) (l : is.length < 60) (q : ∀ js : List Int, js.Perm is → js.Pairwise (· ≤ ·) → New σ (.list (js.map V.int)) Q)
  | isi {a c c' d} (e : n = "isinstance") (f : vs = [.ref a, .ref c]) (h : σ a = some (.inst c' d)) (k : (pg.cls.lookup c).isSome = true) (q : Q (.bool (c' == c)) σ)
noncomputable def fnFrame (fn : Fn) (vs : List V) : Mp := (vs ++ fn.dfl.drop (vs.length + fn.dfl.length - fn.pars)).map some ++ List.replicate (fn.size - fn.pars) none
inductive ClsK (K : Kall) (c i : Addr) (Q : Po) (vs : List V) (σ : Sg) : Prop
  | mk (h : ∀ x d, σ x = none → σ d = none → x ≠ d → K i (.ref x :: vs) (up (up σ d (.ns x [])) x (.inst c d)) fun r σ' => r = .none ∧ Q (.ref x) σ')
inductive ValK (K : Kall) (Q : Po) (fv : V) (vs : List V) (σ : Sg) : Prop
  | mk {f} (e : fv = .ref f) (h : pg.cls.lookup f = none) (q : K f vs σ Q)
noncomputable def methOf (c : Addr) (n : String) : Option Addr := (pg.cls.lookup c).bind fun k => k.meths.lookup n
inductive RecvC (n : String) : C → Prop
  | app {xs} (e : n = "append") : RecvC n (.list xs)
  | ext {xs} (e : n = "extend") : RecvC n (.list xs)
  | get {k es} (e : n = "get") : RecvC n (.dict k es)
  | sdf {k es} (e : n = "setdefault") : RecvC n (.dict k es)
  | vals {k es} (e : n = "values") : RecvC n (.dict k es)
  | tget {k es} (e : n = "get") : RecvC n (.tdict k es)
  | tvals {k es} (e : n = "values") : RecvC n (.tdict k es)
inductive BmK (n : String) (Q : Po) (a : Addr) (vs : List V) (σ : Sg) : Prop
  | app {xs v} (e : n = "append") (f : vs = [v]) (h : σ a = some (.list xs)) (l : xs.length ≤ 1000) (q : Q .none (up σ a (.list (xs ++ [v]))))
  | extT {xs b ys} (e : n = "extend") (f : vs = [.ref b]) (h : σ a = some (.list xs)) (k : σ b = some (.tup ys)) (l : xs.length + ys.length ≤ 1000) (q : Q .none (up σ a (.list (xs ++ ys))))
  | get {k es i} (e : n = "get") (f : vs = [.int i]) (h : σ a = some (.dict k es)) (q : Q ((es.lookup i).getD .none) σ)
  | getD {k es i d} (e : n = "get") (f : vs = [.int i, d]) (h : σ a = some (.dict k es)) (q : Q ((es.lookup i).getD d) σ)
  | sdfS {k es i d v} (e : n = "setdefault") (f : vs = [.int i, d]) (h : σ a = some (.dict k es)) (l : es.length ≤ 100) (x : es.lookup i = some v) (q : Q v σ)
  | sdfN {k es i d} (e : n = "setdefault") (f : vs = [.int i, d]) (h : σ a = some (.dict k es)) (l : es.length ≤ 100) (x : es.lookup i = none) (q : ∀ n', Q d (up σ a (.dict n' (es ++ [(i, d)]))))
  | vals {k es} (e : n = "values") (f : vs = []) (h : σ a = some (.dict k es)) (q : New σ (.vals a) Q)
  | tvals {k es} (e : n = "values") (f : vs = []) (h : σ a = some (.tdict k es)) (q : New σ (.vals a) Q)
  | none {k t i j} (e : n = "get") (f : vs = [.ref t]) (h : σ a = some (.dict k [])) (g : σ t = some (.tup [.int i, .int j])) (q : Q .none σ)
  | tget {k es t i j} (e : n = "get") (f : vs = [.ref t]) (h : σ a = some (.tdict k es)) (g : σ t = some (.tup [.int i, .int j])) (q : Q ((Mine.tget es (i, j)).getD .none) σ)
inductive MethK (K : Kall) (n : String) (A : Lo → Sg → Prop) (Q : Po) (o : V) (σ : Sg) : Prop
  | inst {a c d f} (e : o = .ref a) (h : σ a = some (.inst c d)) (k : methOf c n = some f) (p : A (fun vs σ => K f (.ref a :: vs) σ Q) σ)
  | bi {a c} (e : o = .ref a) (h : σ a = some c) (k : RecvC n c) (p : A (BmK n Q a) σ)
noncomputable def loopL {α : Type} (ok : Sg → Prop) (step : V → (α → Sg → Prop) → α → Sg → Prop) : List V → (α → Sg → Prop) → α → Sg → Prop
  | [], Q, a, σ => ok σ ∧ Q a σ
  | x :: xs, Q, a, σ => ok σ ∧ step x (loopL ok step xs Q) a σ
inductive CompK (step : V → Lo → Lo) (Q : Lo) (acc : List V) (s : V) (σ : Sg) : Prop
  | mk {xs} (i : Items σ s xs) (l : xs.length ≤ 1000) (p : loopL (Same s σ) step xs Q acc σ)
noncomputable def seqR (k : Mp → Sg → Prop) (R : Ps) (f : Fl) : Mp → Sg → Prop := Fl.rec k (fun v => R (.ret v)) f
noncomputable def forL (ok : Sg → Prop) (step : V → Ps → Mp → Sg → Prop) : List V → Ps → Mp → Sg → Prop
  | [], R, m, σ => ok σ ∧ R .next m σ
  | x :: xs, R, m, σ => ok σ ∧ step x (seqR (forL ok step xs R) R) m σ
noncomputable def whileN (c : Mp → Tst → Sg → Prop) (b : Ps → Mp → Sg → Prop) : Nat → Ps → Mp → Sg → Prop
  | 0, _, _, _ => False
  | k + 1, R, m, σ => c m (kIf (b (seqR (whileN c b k R) R) m) (R .next m)) σ
inductive ForK (step : V → Ps → Mp → Sg → Prop) (R : Ps) (m : Mp) (s : V) (σ : Sg) : Prop
  | mk {xs} (i : Items σ s xs) (p : forL (Same s σ) step xs R m σ)
inductive WhK (c : Mp → Tst → Sg → Prop) (b : Ps → Mp → Sg → Prop) (R : Ps) (m : Mp) (σ : Sg) : Prop
  | mk (k : Nat) (p : whileN c b k R m σ)
noncomputable def bQ (Q : Po) : Tst := fun b => Q (.bool b)
noncomputable def nB (Q : Tst) : Tst := fun b => Q (!b)
noncomputable def kNeg (Q : Po) (v : V) (σ : Sg) : Prop := V.rec False (fun _ => False) (fun i => Q (.int (-i)) σ) (fun _ => False) (fun _ => False) (fun _ => False) (fun _ => False) False v
noncomputable def kL (Q : Po) : Lo := fun vs σ => New σ (.list vs) Q
noncomputable def kT (Q : Po) : Lo := fun vs σ => New σ (.tup vs) Q
noncomputable def kC (v : V) (Q : Lo) : Lo := fun vs => Q (v :: vs)
noncomputable def kFn (K : Kall) (f : Addr) (Q : Po) : Lo := fun vs σ => K f vs σ Q
noncomputable def kAcc (R : Lo) (acc : List V) : Po := fun y => R (acc ++ [y])
mutual
noncomputable def awpE (K : Kall) : E → Mp → Po → Sg → Prop
  | .lit v, _, Q, σ => Q v σ
  | .loc i, m, Q, σ => onO (sl m i) Q σ
  | .attr e n, m, Q, σ => awpE K e m (AttrK n Q) σ
  | .sub e i, m, Q, σ => awpE K e m (fun o => awpE K i m (SubK Q o)) σ
  | .slice e lo hi, m, Q, σ => awpE K e m (fun o => awpE K lo m fun l => awpE K hi m (SliceK Q o l)) σ
  | .bin op a b, m, Q, σ => awpE K a m (fun x => awpE K b m (BinK op Q x)) σ
  | .neg a, m, Q, σ => awpE K a m (kNeg Q) σ
  | .not a, m, Q, σ => awpE K a m (tQ (nB (bQ Q))) σ
  | .and a b, m, Q, σ => awpE K a m (fun x => tQ (kIf (awpE K b m Q) (Q x)) x) σ
  | .or a b, m, Q, σ => awpE K a m (fun x => tQ (kIf (Q x) (awpE K b m Q)) x) σ
  | .cmp op a b, m, Q, σ => awpE K a m (fun x => awpE K b m (CmpK op (bQ Q) x)) σ
  | .chain op op' a b c, m, Q, σ => awpE K a m (fun x => awpE K b m fun y => CmpK op (kIf (awpE K c m (CmpK op' (bQ Q) y)) (Q (.bool false))) x y) σ
  | .ite c a b, m, Q, σ => awpC K c m (kIf (awpE K a m Q) (awpE K b m Q)) σ
  | .list es, m, Q, σ => awpEs K es m (kL Q) σ
  | .tup es, m, Q, σ => awpEs K es m (kT Q) σ
  | .dict kvs, _, Q, σ => NewD σ kvs Q
  | .fcall f args, m, Q, σ => awpEs K args m (kFn K f Q) σ
  | .ccall c i args, m, Q, σ => awpEs K args m (ClsK K c i Q) σ
  | .tcall n args, m, Q, σ => awpEs K args m (TyK n Q) σ
  | .bcall n args, m, Q, σ => awpEs K args m (BiK n Q) σ
  | .vcall f args, m, Q, σ => awpE K f m (fun fv => awpEs K args m (ValK K Q fv)) σ
  | .meth o n args, m, Q, σ => awpE K o m (MethK K n (awpEs K args m) Q) σ
  | .comp1 elt x it ifs, m, Q, σ => awpE K it m (CompK (fun v R acc => awpIfs K ifs (st m x v) (kIf (awpE K elt (st m x v) (kAcc R acc)) (R acc))) (kL Q) []) σ
  | .comp2 elt x it x' it' ifs, m, Q, σ => awpE K it m (CompK (fun v R acc => awpE K it' (st m x v)
      (CompK (fun v' R acc => awpIfs K ifs (st (st m x v) x' v') (kIf (awpE K elt (st (st m x v) x' v') (kAcc R acc)) (R acc))) R acc)) (kL Q) []) σ
noncomputable def awpEs (K : Kall) : List E → Mp → Lo → Sg → Prop
  | [], _, Q, σ => Q [] σ
  | e :: r, m, Q, σ => awpE K e m (fun v => awpEs K r m (kC v Q)) σ
noncomputable def awpIfs (K : Kall) : List E → Mp → Tst → Sg → Prop
  | [], _, Q, σ => Q true σ
  | c :: r, m, Q, σ => awpC K c m (kIf (awpIfs K r m Q) (Q false)) σ
noncomputable def awpC (K : Kall) : E → Mp → Tst → Sg → Prop
  | .not a, m, Q, σ => awpC K a m (nB Q) σ
  | .and a b, m, Q, σ => awpC K a m (kIf (awpC K b m Q) (Q false)) σ
  | .or a b, m, Q, σ => awpC K a m (kIf (Q true) (awpC K b m Q)) σ
  | .cmp op a b, m, Q, σ => awpE K a m (fun x => awpE K b m (CmpK op Q x)) σ
  | .chain op op' a b c, m, Q, σ => awpE K a m (fun x => awpE K b m fun y => CmpK op (kIf (awpE K c m (CmpK op' Q y)) (Q false)) x y) σ
  | .fcall f args, m, Q, σ => awpEs K args m (kFn K f (tQ Q)) σ
  | .vcall f args, m, Q, σ => awpE K f m (fun fv => awpEs K args m (ValK K (tQ Q) fv)) σ
  | .bcall n args, m, Q, σ => awpEs K args m (BiK n (tQ Q)) σ
  | .meth o n args, m, Q, σ => awpE K o m (MethK K n (awpEs K args m) (tQ Q)) σ
  | .loc i, m, Q, σ => onO (sl m i) (tQ Q) σ
  | .attr e n, m, Q, σ => awpE K e m (AttrK n (tQ Q)) σ
  | .bin op a b, m, Q, σ => awpE K a m (fun x => awpE K b m (BinK op (tQ Q) x)) σ
  | _, _, _, _ => False
end
noncomputable def asg1 (K : Kall) (t : T1) (q : Mp → Sg → Prop) (m : Mp) (v : V) (σ : Sg) : Prop := match t with
  | .loc i => q (st m i v) σ
  | .attr e n => awpE K e m (SetK n (q m) v) σ
  | .sub e i => awpE K e m (fun o => awpE K i m (SetItemK (q m) v o)) σ
noncomputable def asgN (K : Kall) : List T1 → (Mp → Sg → Prop) → List V → Mp → Sg → Prop
  | [], q, [], m, σ => q m σ
  | t :: ts, q, v :: vs, m, σ => asg1 K t (asgN K ts q vs) m v σ
  | _, _, _, _, _ => False
inductive ManyK (K : Kall) (ts : List T1) (q : Mp → Sg → Prop) (m : Mp) (v : V) (σ : Sg) : Prop
  | mk {a vs} (e : v = .ref a) (h : σ a = some (.tup vs)) (l : ts.length = vs.length) (p : asgN K ts q vs m σ)
noncomputable def asg (K : Kall) (t : T) (q : Mp → Sg → Prop) (m : Mp) : Po := match t with
  | .one t => asg1 K t q m
  | .many ts => ManyK K ts q m
noncomputable def kExp (P : Sg → Prop) (v : V) (σ : Sg) : Prop := V.rec (P σ) (fun _ => P σ) (fun _ => P σ) (fun _ => P σ) (fun _ => False) (fun _ => P σ) (fun _ => P σ) (P σ) v
noncomputable def kRet (R : Ps) (m : Mp) : Po := fun v => R (.ret v) m
noncomputable def kEnd (Q : Po) (f : Fl) (_ : Mp) (σ : Sg) : Prop := Fl.rec (Q .none σ) (fun v => Q v σ) f
mutual
noncomputable def awpS (K : Kall) : S → Ps → Mp → Sg → Prop
  | .expr e, R, m, σ => awpE K e m (kExp (R .next m)) σ
  | .ret e, R, m, σ => awpE K e m (kRet R m) σ
  | .assign t e, R, m, σ => awpE K e m (asg K t (R .next) m) σ
  | .ite c a b, R, m, σ => awpC K c m (kIf (awpSs K a R m) (awpSs K b R m)) σ
  | .while c b, R, m, σ => WhK (awpC K c) (awpSs K b) R m σ
  | .for t it b, R, m, σ => awpE K it m (ForK (fun v R m => asg K t (awpSs K b R) m v) R m) σ
noncomputable def awpSs (K : Kall) : List S → Ps → Mp → Sg → Prop
  | [], R, m, σ => R .next m σ
  | s :: r, R, m, σ => awpS K s (seqR (awpSs K r R) R) m σ
end
inductive DefK (K : Kall) (f : Addr) (vs : List V) (σ : Sg) (Q : Po) : Prop
  | mk {fn : Fn} (h : pg.fns.lookup f = some fn) (k : fn.pars ≤ vs.length + fn.dfl.length) (l : vs.length ≤ fn.pars) (p : awpSs K fn.body (kEnd Q) (fnFrame fn vs) σ)
@[irreducible] noncomputable def callSem : Nat → Kall
  | 0, _, _, _, _ => False
  | n + 1, f, vs, σ, Q => DefK (callSem n) f vs σ Q
end Mine
end
section
open PySem
namespace Mine
-- Q0
noncomputable def Ext (σ σ' : Sg) : Prop := ∀ a c, σ a = some c → σ' a = some c
theorem Ext.refl (σ : Sg) : Ext σ σ := fun _ _ h => h
theorem Ext.trans {σ σ' σ'' : Sg} (h : Ext σ σ') (k : Ext σ' σ'') : Ext σ σ'' := fun a c e => k a c (h a c e)
theorem up_self (σ : Sg) (a : Addr) (c : C) : up σ a c a = some c := if_pos rfl
theorem up_ne {σ : Sg} {a b : Addr} {c : C} (h : b ≠ a) : up σ a c b = σ b := if_neg h
theorem ne_of {σ : Sg} {a b : Addr} {c : C} (h : σ a = some c) (k : σ b = none) : a ≠ b := fun q => nomatch (q ▸ h).symm.trans k
theorem Ext.new {σ σ' : Sg} {l : Addr} {c : C} (E : Ext σ σ') (h : σ' l = none) : Ext σ (up σ' l c) := fun a c' e => (up_ne (ne_of (E a c' e) h)).trans (E a c' e)
inductive Ob (σ : Sg) (a d c : Addr) (fs : List (String × V)) : Prop
  | mk (i : σ a = some (.inst c d)) (n : σ d = some (.ns a fs))
theorem Ext.ob {τ σ : Sg} {a d c : Addr} {fs : List (String × V)} (E : Ext τ σ) (h : Ob τ a d c fs) : Ob σ a d c fs := ⟨E _ _ h.1, E _ _ h.2⟩
noncomputable def notNs : C → Bool
  | .ns .. => false
  | _ => true
inductive Wk (σ σ' : Sg) : Prop
  | mk (c : ∀ a c, notNs c = true → σ a = some c → σ' a = some c) (o : ∀ a d c fs, (c != 135) = true → Ob σ a d c fs → Ob σ' a d c fs)
theorem Ext.wk {τ σ : Sg} (E : Ext τ σ) : Wk τ σ := ⟨fun a c _ h => E a c h, fun _ _ _ _ _ h => E.ob h⟩
section
variable {K : Kall} {m : Mp} {σ σ' : Sg} {Q : Po} {T : Tst} {L : Lo} {P R : Sg → Prop} {l d c a b : Addr} {fs : List (String × V)} {n : String} {v w : V} {k : Nat}
theorem call {n : Nat} {a : Addr} {vs : List V} (fn : Fn) (h : pg.fns.lookup a = some fn) (h1 : (decide (fn.pars ≤ vs.length + fn.dfl.length) && decide (vs.length ≤ fn.pars)) = true)
    (p : awpSs (callSem n) fn.body (kEnd Q) (fnFrame fn vs) σ) : callSem (n + 1) a vs σ Q := by
  rw [Bool.and_eq_true] at h1
  with_unfolding_all exact DefK.mk h (of_decide_eq_true h1.1) (of_decide_eq_true h1.2) p
theorem callm {n : Nat} {a : Addr} {vs : List V} (fn : Fn) (m : Mp) (h : pg.fns.lookup a = some fn) (h1 : (decide (fn.pars ≤ vs.length + fn.dfl.length) && decide (vs.length ≤ fn.pars)) = true) (hm : fnFrame fn vs = m)
    (p : awpSs (callSem n) fn.body (kEnd Q) m σ) : callSem (n + 1) a vs σ Q := call fn h h1 (hm ▸ p)
theorem kI_ {p : Prop} [Decidable p] (h1 : p → P σ) (h2 : ¬ p → R σ) : kIf P R (decide p) σ := if h : p then .t (decide_eq_true h) (h1 h) else .f (decide_eq_false h) (h2 h)
theorem kB {t : Bool} (h1 : t = true → P σ) (h2 : t = false → R σ) : kIf P R t σ := match t with
  | true => .t rfl (h1 rfl)
  | false => .f rfl (h2 rfl)
theorem kN {t : Bool} (h1 : t = false → P σ) (h2 : t = true → R σ) : kIf P R (!t) σ := match t with
  | true => .f rfl (h2 rfl)
  | false => .t rfl (h1 rfl)
theorem yes (p : P σ) : kIf P R true σ := .t rfl p
theorem no (p : R σ) : kIf P R false σ := .f rfl p
theorem g_ (h : Ob σ l d c fs) (x : fs.lookup n = some v) (q : Q v σ) : AttrK n Q (.ref l) σ := .mk rfl ⟨d, h.1, h.2⟩ x q
theorem new_ {c : C} (h : ∀ l σ', Ext σ σ' → σ' l = some c → σ l = none → Q (.ref l) σ') : New σ c Q := ⟨fun l hl => h l _ ((Ext.refl σ).new hl) (up_self _ _ _) hl⟩
theorem newD_ {es : List (Int × V)} (h : ∀ n l σ', Ext σ σ' → σ' l = some (.dict n es) → σ l = none → Q (.ref l) σ') : NewD σ es Q := ⟨fun n => new_ (h n)⟩
theorem u_l {xs : List V} {i : Int} (h : σ l = some (.list xs)) (x : Idx xs i v) (q : Q v σ) : SubK Q (.ref l) (.int i) σ := .list rfl rfl h x q
theorem u_t {xs : List V} {i : Int} (h : σ l = some (.tup xs)) (x : Idx xs i v) (q : Q v σ) : SubK Q (.ref l) (.int i) σ := .tup rfl rfl h x q
theorem u_d {k : Nat} {es : List (Int × V)} {i : Int} (h : σ l = some (.dict k es)) (x : es.lookup i = some v) (q : Q v σ) : SubK Q (.ref l) (.int i) σ := .dict rfl rfl h x q
variable {i j : Int}
theorem k_lt (q : T (decide (i < j)) σ) : CmpK .Lt T (.int i) (.int j) σ := .lt rfl rfl rfl q
theorem k_le (q : T (decide (i ≤ j)) σ) : CmpK .LtE T (.int i) (.int j) σ := .le rfl rfl rfl q
theorem k_gt (q : T (decide (j < i)) σ) : CmpK .Gt T (.int i) (.int j) σ := .gt rfl rfl rfl q
theorem k_ge (q : T (decide (j ≤ i)) σ) : CmpK .GtE T (.int i) (.int j) σ := .ge rfl rfl rfl q
theorem k_isT (q : T true σ) : CmpK .Is T .none .none σ := .isT rfl rfl rfl q
theorem k_isF (q : T false σ) : CmpK .Is T (.ref l) .none σ := .isF rfl rfl rfl q
theorem k_inT (q : T false σ) : CmpK .IsNot T .none .none σ := .notT rfl rfl rfl q
theorem k_inF (q : T true σ) : CmpK .IsNot T (.ref l) .none σ := .notF rfl rfl rfl q
theorem k_eqi (q : T (i == j) σ) : CmpK .Eq T (.int i) (.int j) σ := .eq (.one .int) rfl q
theorem k_nei (q : T (!(i == j)) σ) : CmpK .NotEq T (.int i) (.int j) σ := .ne (.one .int) rfl q
theorem k_eqs {x y : Str} {b : Bool} (e : (x == y) = b) (q : T b σ) : CmpK .Eq T (.str x) (.str y) σ := .eq (.one (e ▸ .str)) rfl q
theorem k_inL {xs : List V} {b : Bool} (h : σ l = some (.list xs)) (k : InA v xs b) (q : T b σ) : CmpK .In T v (.ref l) σ := .inL rfl h k rfl q
theorem k_inTu {xs : List V} {b : Bool} (h : σ l = some (.tup xs)) (k : InA v xs b) (q : T b σ) : CmpK .In T v (.ref l) σ := .inT rfl h k rfl q
theorem k_niT {xs : List V} {b : Bool} (h : σ l = some (.tup xs)) (k : InA v xs b) (q : T (!b) σ) : CmpK .NotIn T v (.ref l) σ := .niT rfl h k rfl q
theorem k_inD {n : Nat} {es : List (Int × V)} (h : σ l = some (.dict n es)) (q : T (es.lookup i).isSome σ) : CmpK .In T (.int i) (.ref l) σ := .inD rfl rfl h rfl q
theorem b_add (q : Q (.int (i + j)) σ) : BinK .Add Q (.int i) (.int j) σ := .add rfl rfl rfl q
theorem b_sub (q : Q (.int (i - j)) σ) : BinK .Sub Q (.int i) (.int j) σ := .sub rfl rfl rfl q
theorem b_mul (h : i.natAbs < 2 ^ 60 ∨ j.natAbs < 2 ^ 60) (q : Q (.int (i * j)) σ) : BinK .Mult Q (.int i) (.int j) σ := .mul rfl rfl rfl h q
theorem b_fdiv (h : 0 < j) (k : j < 2 ^ 64) (q : Q (.int (i / j)) σ) : BinK .FloorDiv Q (.int i) (.int j) σ := .fdiv rfl rfl rfl h k q
theorem b_mod (h : 0 < j) (q : Q (.int (i % j)) σ) : BinK .Mod Q (.int i) (.int j) σ := .mod rfl rfl rfl h q
theorem b_pow (h : i.natAbs < 2 ^ 64) (k : 0 ≤ j) (k' : j ≤ 18) (q : Q (.int (i ^ j.toNat)) σ) : BinK .Pow Q (.int i) (.int j) σ := .pow rfl rfl rfl h k k' q
theorem b_and (h : 0 ≤ i) (k : 0 ≤ j) (q : Q (.int ((i.toNat &&& j.toNat : Nat) : Int)) σ) : BinK .BitAnd Q (.int i) (.int j) σ := .and rfl rfl rfl h k q
theorem len_l {xs : List V} (h : σ l = some (.list xs)) (k : xs.length < 2 ^ 62) (q : Q (.int xs.length) σ) : BiK "len" Q [.ref l] σ := .lenL rfl rfl h k q
theorem len_t {xs : List V} (h : σ l = some (.tup xs)) (k : xs.length < 2 ^ 62) (q : Q (.int xs.length) σ) : BiK "len" Q [.ref l] σ := .lenT rfl rfl h k q
theorem isi_ (h : Ob σ l d c fs) (k : (pg.cls.lookup a).isSome = true) (q : Q (.bool (c == a)) σ) : BiK "isinstance" Q [.ref l, .ref a] σ := .isi rfl rfl h.1 k q
theorem m_ {A : Lo → Sg → Prop} (h : Ob σ l d c fs) (k : methOf c n = some a) (p : A (fun vs σ => K a (.ref l :: vs) σ Q) σ) : MethK K n A Q (.ref l) σ := .inst rfl h.1 k p
theorem m_app {A : Lo → Sg → Prop} {xs : List V} (h : σ l = some (.list xs)) (p : A (BmK "append" Q l) σ) : MethK K "append" A Q (.ref l) σ := .bi rfl h (.app rfl) p
theorem m_ext {A : Lo → Sg → Prop} {xs : List V} (h : σ l = some (.list xs)) (p : A (BmK "extend" Q l) σ) : MethK K "extend" A Q (.ref l) σ := .bi rfl h (.ext rfl) p
theorem m_get {A : Lo → Sg → Prop} {es : List (Int × V)} (h : σ l = some (.dict k es)) (p : A (BmK "get" Q l) σ) : MethK K "get" A Q (.ref l) σ := .bi rfl h (.get rfl) p
theorem m_sdf {A : Lo → Sg → Prop} {es : List (Int × V)} (h : σ l = some (.dict k es)) (p : A (BmK "setdefault" Q l) σ) : MethK K "setdefault" A Q (.ref l) σ := .bi rfl h (.sdf rfl) p
theorem m_vals {A : Lo → Sg → Prop} {es : List (Int × V)} (h : σ l = some (.dict k es)) (p : A (BmK "values" Q l) σ) : MethK K "values" A Q (.ref l) σ := .bi rfl h (.vals rfl) p
theorem m_tget {A : Lo → Sg → Prop} {es : List ((Int × Int) × Addr × V)} (h : σ l = some (.tdict k es)) (p : A (BmK "get" Q l) σ) : MethK K "get" A Q (.ref l) σ := .bi rfl h (.tget rfl) p
theorem m_tvals {A : Lo → Sg → Prop} {es : List ((Int × Int) × Addr × V)} (h : σ l = some (.tdict k es)) (p : A (BmK "values" Q l) σ) : MethK K "values" A Q (.ref l) σ := .bi rfl h (.tvals rfl) p
theorem t_app {xs : List V} (h : σ l = some (.list xs)) (k : xs.length ≤ 1000) (q : Q .none (up σ l (.list (xs ++ [v])))) : BmK "append" Q l [v] σ := .app rfl rfl h k q
theorem t_get {es : List (Int × V)} (h : σ l = some (.dict k es)) (q : Q ((es.lookup i).getD .none) σ) : BmK "get" Q l [.int i] σ := .get rfl rfl h q
theorem t_getD {es : List (Int × V)} (h : σ l = some (.dict k es)) (q : Q ((es.lookup i).getD v) σ) : BmK "get" Q l [.int i, v] σ := .getD rfl rfl h q
theorem f_nil {ok : Sg → Prop} {step : V → Ps → Mp → Sg → Prop} {R : Ps} (h : ok σ) (q : R .next m σ) : forL ok step [] R m σ := ⟨h, q⟩
theorem f_cons {ok : Sg → Prop} {step : V → Ps → Mp → Sg → Prop} {R : Ps} {xs : List V} (h : ok σ) (q : step v (seqR (forL ok step xs R) R) m σ) : forL ok step (v :: xs) R m σ := ⟨h, q⟩
theorem l_nil {α : Type} {ok : Sg → Prop} {step : V → (α → Sg → Prop) → α → Sg → Prop} {x : α} {Q : α → Sg → Prop} (h : ok σ) (q : Q x σ) : loopL ok step [] Q x σ := ⟨h, q⟩
theorem l_cons {α : Type} {ok : Sg → Prop} {step : V → (α → Sg → Prop) → α → Sg → Prop} {xs : List V} {x : α} {Q : α → Sg → Prop} (h : ok σ) (q : step v (loopL ok step xs Q) x σ) : loopL ok step (v :: xs) Q x σ := ⟨h, q⟩
theorem v_ {i : Nat} (h : sl m i = some v) (q : Q v σ) : onO (sl m i) Q σ := by rw [h]; exact q
end
end Mine
end
section
open PySem
namespace Mine
-- Q1
/-! plain data -/
structure Rw where
  g : Int
  m : Int
  u : Bool
  xa : Int
  xo : Int
  yo : Int
noncomputable def sEmpty : V := .str (Str.ofString "")
noncomputable def infoFs (i : Nat) (r : Rw) : List (String × V) := [("code", .int 65), ("glyph", .int r.g), ("cluster", .int i), ("mask", .int r.m), ("is_unsafe", .bool r.u), ("lig_id", .int 0), ("lig_part", .int 0), ("lig_count", .int 0), ("kind", sEmpty),
  ("x_advance", .int r.xa), ("y_advance", .int 9), ("x_offset", .int r.xo), ("y_offset", .int r.yo), ("parent", .int 0), ("bond", sEmpty)]
structure Cd where
  a : Addr
  d : Addr
  D : Addr
  k : Nat
  es : List (Int × Int)
noncomputable def iv (e : Int × Int) : Int × V := (e.1, .int e.2)
noncomputable def cdFs (c : Cd) : List (String × V) := [("classes", .ref c.D)]
inductive RCd (τ : Sg) (c : Cd) : Prop
  | mk (o : Ob τ c.a c.d 856 (cdFs c)) (h : τ c.D = some (.dict c.k (c.es.map iv)))
theorem RCd.wk {τ σ : Sg} {c : Cd} (E : Wk τ σ) (h : RCd τ c) : RCd σ c := ⟨E.2 _ _ _ _ rfl h.1, E.1 _ _ rfl h.2⟩
theorem RCd.ext {τ σ : Sg} {c : Cd} (E : Ext τ σ) (h : RCd τ c) : RCd σ c := h.wk E.wk
noncomputable def getI (es : List (Int × Int)) (g : Int) : Int := (es.lookup g).getD 0
theorem lookup_int {g : Int} : ∀ {es : List (Int × Int)}, ((es.map iv).lookup g).getD (.int 0) = .int (getI es g)
  | [] => rfl
  | (a, b) :: r => by
    unfold getI
    rw [List.map_cons, iv, List.lookup_cons, List.lookup_cons]
    cases g == a
    · exact lookup_int
    · rfl
theorem c_class_of {n : Nat} {σ : Sg} {c : Cd} (h : RCd σ c) {g : Int} {Q : Po} (q : Q (.int (getI c.es g)) σ) : callSem (n + 1) 834 [.ref c.a, .int g] σ Q :=
  call fn_ClassDef_class_of rfl rfl (g_ h.1 rfl (m_get h.2 (t_getD h.2 (lookup_int.symm ▸ q))))
structure Wd where
  buf : Addr
  bd : Addr
  row : Addr
  gd : Addr
  gdd : Addr
  cd : Cd
  av : V
  sv : V
  pv : V
  kv : V
  lks : Addr
  k : Nat
  A : Nat → Addr
  D : Nat → Addr
  mb : Int → Bool
noncomputable def bufFs (W : Wd) : List (String × V) := [("row", .ref W.row), ("is_backward", .bool false), ("last_lig", .int 0)]
noncomputable def gdFs (W : Wd) : List (String × V) := [("classes", .ref W.cd.a), ("attach", W.av), ("sets", W.sv), ("points", W.pv), ("carets", W.kv)]
noncomputable def rowV (k : Nat) (A : Nat → Addr) : List V := (List.range k).map fun i => .ref (A i)
inductive Base (τ : Sg) (W : Wd) : Prop
  | mk (buf : Ob τ W.buf W.bd 179 (bufFs W)) (row : τ W.row = some (.list (rowV W.k W.A))) (gd : Ob τ W.gd W.gdd 904 (gdFs W)) (cd : RCd τ W.cd) (mk : ∀ g : Int, 0 ≤ g → g < 6 → getI W.cd.es g = if W.mb g then 3 else 1) (small : W.k < 8)
    (kinds : τ 190 = some (.tup [.str (Str.ofString "zwj"), .str (Str.ofString "zwnj"), .str (Str.ofString "hidden")])) (kinds2 : τ 189 = some (.tup [.str (Str.ofString "zwj"), .str (Str.ofString "hidden")]))
theorem Base.wk {τ σ : Sg} {W : Wd} (E : Wk τ σ) (B : Base τ W) : Base σ W := ⟨E.2 _ _ _ _ rfl B.1, E.1 _ _ rfl B.2, E.2 _ _ _ _ rfl B.3, B.4.wk E, B.5, B.6, E.1 _ _ rfl B.7, E.1 _ _ rfl B.8⟩
theorem Base.ext {τ σ : Sg} {W : Wd} (E : Ext τ σ) (B : Base τ W) : Base σ W := B.wk E.wk
structure Lu where
  l : Addr
  d : Addr
  T : Addr
  kind : String
  f : Int
  tabs : List V
noncomputable def luFs (U : Lu) : List (String × V) := [("kind", .str (Str.ofString U.kind)), ("flag", .int U.f), ("mark_set", .int 0), ("tables", .ref U.T)]
inductive RLu (τ : Sg) (U : Lu) : Prop
  | mk (o : Ob τ U.l U.d 43 (luFs U)) (t : τ U.T = some (.list U.tabs)) (f : U.f = 0 ∨ U.f = 8 ∨ U.f = 2)
theorem RLu.wk {τ σ : Sg} {U : Lu} (E : Wk τ σ) (h : RLu τ U) : RLu σ U := ⟨E.2 _ _ _ _ rfl h.1, E.1 _ _ rfl h.2, h.3⟩
theorem RLu.ext {τ σ : Sg} {U : Lu} (E : Ext τ σ) (h : RLu τ U) : RLu σ U := h.wk E.wk
structure Sn where
  s : Addr
  d : Addr
  mask : Int
  depth : Int
noncomputable def snFs (W : Wd) (l : Addr) (s : Sn) : List (String × V) := [("buffer", .ref W.buf), ("gdef", .ref W.gd), ("lookups", .ref W.lks), ("lookup", .ref l), ("mask", .int s.mask), ("depth", .int s.depth)]
inductive Infos (σ : Sg) (W : Wd) (rows : List Rw) : Prop
  | mk (h : ∀ i r, rows[i]? = some r → Ob σ (W.A i) (W.D i) 135 (infoFs i r))
theorem Infos.ext {σ σ' : Sg} {W : Wd} {rows : List Rw} (E : Ext σ σ') (h : Infos σ W rows) : Infos σ' W rows := ⟨fun i r hi => E.ob (h.1 i r hi)⟩
noncomputable def gm (r : Rw) : Int × Int := (r.g, r.m)
noncomputable def GOk (rows : List Rw) : Prop := ∀ x ∈ rows.map gm, (0 ≤ x.1 ∧ x.1 < 6) ∧ (0 ≤ x.2 ∧ x.2 < 4)
theorem GOk.at {rows : List Rw} (h : GOk rows) {i : Nat} {r : Rw} (hi : rows[i]? = some r) : (0 ≤ r.g ∧ r.g < 6) ∧ (0 ≤ r.m ∧ r.m < 4) := h (gm r) (List.mem_map_of_mem (List.mem_of_getElem? hi))
inductive Sc (τ : Sg) (W : Wd) (U : Lu) (s : Sn) (rows : List Rw) : Prop
  | mk (B : Base τ W) (L : RLu τ U) (C : Ob τ s.s s.d 65 (snFs W U.l s)) (I : Infos τ W rows) (G : GOk rows) (hk : rows.length = W.k) (m : 0 ≤ s.mask)
theorem Sc.ext {τ σ : Sg} {W : Wd} {U : Lu} {s : Sn} {rows : List Rw} (E : Ext τ σ) (S : Sc τ W U s rows) : Sc σ W U s rows := ⟨S.1.ext E, S.2.ext E, E.ob S.3, S.4.ext E, S.5, S.6, S.7⟩
noncomputable def passB (f : Int) (mk : Bool) : Bool := if mk then f == 8 else f == 2
section
variable {n : Nat} {σ : Sg} {W : Wd} {U : Lu} {s : Sn} {rows : List Rw} {Q : Po} {g f : Int} {i : Nat} {r : Rw}
theorem c_glyph_class (B : Base σ W) (h0 : 0 ≤ g) (h6 : g < 6) (q : Q (.int (if W.mb g then 3 else 1)) σ) : callSem (n + 2) 882 [.ref W.gd, .int g] σ Q := by
  refine call fn_Gdef_glyph_class rfl rfl (g_ B.3 rfl (m_ B.4.1 rfl (c_class_of B.4 ?_)))
  rw [B.5 g h0 h6]
  cases hm : W.mb g <;> rw [hm] at q
  · exact k_le (kIf.t rfl (k_le (kIf.t rfl q)))
  · exact k_le (kIf.t rfl (k_le (kIf.t rfl q)))
theorem c_attach (q : Q (.int (f / 256 % 256)) σ) : callSem (n + 1) 76 [.int f] σ Q :=
  call fn_attach_wanted rfl rfl (b_fdiv (by decide) (by decide) (b_mod (by decide) q))
theorem c_class_bit {b : Bool} (q : ∀ σ', Ext σ σ' → Q (.int (if b then 8 else 2)) σ') : callSem (n + 1) 83 [.int (if b then 3 else 1)] σ Q :=
  call fn_class_bit rfl rfl (newD_ fun n l σ' E h _ => m_get h (t_getD h (by cases b <;> exact q σ' E)))
theorem c_is_ignored (B : Base σ W) (L : RLu σ U) (h0 : 0 ≤ g) (h6 : g < 6) (q : ∀ σ', Ext σ σ' → Q (.bool (passB U.f (W.mb g))) σ') : callSem (n + 3) 90 [.ref W.gd, .ref U.l, .int g] σ Q := by
  refine call fn_is_ignored rfl rfl (m_ B.3 rfl (c_glyph_class B h0 h6 (g_ L.1 rfl (c_class_bit fun σ' E => b_and ?_ ?_ ?_))))
  · rcases L.3 with h | h | h <;> rw [h] <;> decide
  · cases W.mb g <;> decide
  have q := q σ' E
  have o := E.ob L.1
  revert q
  generalize W.mb g = b
  rcases L.3 with h | h | h <;> rw [passB, h] <;> cases b <;> intro q
  · exact .f rfl (k_nei (.t rfl q))
  · exact .f rfl (k_nei (.f rfl (g_ o rfl (b_and (by rw [h]; decide) (by decide) (.f (by rw [h]; rfl) (g_ o rfl (c_attach (k_gt (.f (by rw [h]; rfl) (by rw [h]; exact q))))))))))
  · exact .f rfl (k_nei (.t rfl q))
  · exact .t rfl q
  · exact .t rfl q
  · exact .f rfl (k_nei (.f rfl (g_ o rfl (b_and (by rw [h]; decide) (by decide) (.f (by rw [h]; rfl) (g_ o rfl (c_attach (k_gt (.f (by rw [h]; rfl) (by rw [h]; exact q))))))))))
theorem rowIdx {k i : Nat} {A : Nat → Addr} (h : i < k) (hk : k < 8) : Idx (rowV k A) (i : Int) (.ref (A i)) := .pos (Int.natCast_nonneg i) (by lia) (by rw [Int.toNat_natCast, rowV, List.getElem?_map, List.getElem?_range h]; rfl)
noncomputable def psd (mk : Int → Bool) (f : Int) (rows : List Rw) (i : Nat) : Bool := match rows[i]? with
  | some r => passB f (mk r.g)
  | none => false
theorem Sc.row (S : Sc σ W U s rows) (hi : i < W.k) : ∃ r, rows[i]? = some r := ⟨_, List.getElem?_eq_getElem (by rw [S.6]; exact hi)⟩
theorem c_passes (S : Sc σ W U s rows) (hi : i < W.k) (q : ∀ σ', Ext σ σ' → Q (.bool (psd W.mb U.f rows i)) σ') : callSem (n + 4) 97 [.ref s.s, .int i] σ Q := by
  obtain ⟨r, hr⟩ := S.row hi
  refine call fn_passes rfl rfl (g_ S.3 rfl (g_ S.3 rfl (g_ S.3 rfl (g_ S.1.1 rfl (u_l S.1.2 (rowIdx hi S.1.6) (g_ (S.4.1 i r hr) rfl (c_is_ignored S.1 S.2 (S.5.at hr).1.1 (S.5.at hr).1.2 fun σ' E => ?_)))))))
  have := q σ' E
  rwa [psd, hr] at this
end
end Mine
end
section
open PySem
namespace Mine
-- Q2
structure Cov where
  a : Addr
  d : Addr
  T : Addr
  gs : List Int
noncomputable def covFs (c : Cov) : List (String × V) := [("glyphs", .ref c.T)]
inductive RCov (τ : Sg) (c : Cov) : Prop
  | mk (o : Ob τ c.a c.d 424 (covFs c)) (t : τ c.T = some (.tup (c.gs.map .int))) (s : c.gs.Pairwise (· ≤ ·)) (l : c.gs.length ≤ 60)
theorem RCov.wk {τ σ : Sg} {c : Cov} (E : Wk τ σ) (h : RCov τ c) : RCov σ c := ⟨E.2 _ _ _ _ rfl h.1, E.1 _ _ rfl h.2, h.3, h.4⟩
theorem RCov.ext {τ σ : Sg} {c : Cov} (E : Ext τ σ) (h : RCov τ c) : RCov σ c := h.wk E.wk
theorem intsIdx {gs : List Int} {i : Nat} (h : i < gs.length) (hl : gs.length ≤ 60) : Idx (gs.map V.int) (i : Int) (.int gs[i]) :=
  .pos (Int.natCast_nonneg i) (by lia) (by rw [Int.toNat_natCast, List.getElem?_map, List.getElem?_eq_getElem h]; rfl)
inductive Bis (gs : List Int) (g : Int) (lo hi : Nat) : Prop
  | mk (l : ∀ i (h : i < gs.length), i < lo → gs[i] < g) (r : ∀ i (h : i < gs.length), hi ≤ i → g ≤ gs[i])
theorem Bis.up {gs : List Int} {g : Int} {lo hi m : Nat} (B : Bis gs g lo hi) (s : gs.Pairwise (· ≤ ·)) (h : m < gs.length) (q : gs[m] < g) : Bis gs g (m + 1) hi :=
  ⟨fun i hi c => if e : i = m then by subst e; exact q else Int.lt_of_le_of_lt (List.pairwise_iff_getElem.mp s i m hi h (by lia)) q, B.2⟩
theorem Bis.down {gs : List Int} {g : Int} {lo hi m : Nat} (B : Bis gs g lo hi) (s : gs.Pairwise (· ≤ ·)) (h : m < gs.length) (q : ¬ gs[m] < g) : Bis gs g lo m :=
  ⟨B.1, fun i hi c => if e : i = m then by subst e; exact Int.not_lt.mp q else Int.le_trans (Int.not_lt.mp q) (List.pairwise_iff_getElem.mp s m i h hi (by lia))⟩
theorem Bis.no {gs : List Int} {g : Int} {lo : Nat} (B : Bis gs g lo lo) (h : ∀ h : lo < gs.length, gs[lo] ≠ g) (s : gs.Pairwise (· ≤ ·)) : gs.contains g = false :=
  Bool.eq_false_iff.mpr fun c => by
    obtain ⟨i, hi, e⟩ := List.getElem_of_mem (List.contains_iff_mem.mp c)
    by_cases c : i < lo
    · have := B.1 i hi c; lia
    · by_cases c2 : i = lo
      · subst c2; exact h hi e
      · have := List.pairwise_iff_getElem.mp s lo i (by lia) hi (by lia)
        have := B.2 lo (by lia) (Nat.le_refl _)
        have := h (by lia)
        lia
section
variable {n : Nat} {σ : Sg} {c : Cov} {g : Int} {Q : Po}
theorem index_loop (H : RCov σ c) {b : List S} (hb : b = [.assign (.one (.loc 4)) (.bin .FloorDiv (.bin .Add (.loc 2) (.loc 3)) (.lit (.int 2))), .ite (.cmp .Lt (.sub (.attr (.loc 0) "glyphs") (.loc 4)) (.loc 1)) [.assign (.one (.loc 2)) (.bin .Add (.loc 4) (.lit (.int 1)))] [.assign (.one (.loc 3)) (.loc 4)]])
    {R : Ps} (q : ∀ (lo : Nat) (x y : Option V), lo ≤ c.gs.length → Bis c.gs g lo lo → R .next [some (.ref c.a), some (.int g), some (.int lo), x, y] σ) :
    ∀ (j lo hi : Nat) (x : Option V), hi ≤ lo + j → lo ≤ hi → hi ≤ c.gs.length → Bis c.gs g lo hi → whileN (awpC (callSem n) (.cmp .Lt (.loc 2) (.loc 3))) (awpSs (callSem n) b) (j + 1) R [some (.ref c.a), some (.int g), some (.int lo), some (.int hi), x] σ
  | 0, lo, hi, x, h0, h1, h2, B => k_lt (.f (decide_eq_false (by lia)) (q lo _ x (by lia) (by rwa [Nat.le_antisymm h0 h1] at B)))
  | j + 1, lo, hi, x, h0, h1, h2, B => by
    refine k_lt (kI_ (fun h => ?_) fun h => q lo _ x (by lia) (by rwa [show hi = lo by lia] at B))
    subst hb
    refine b_add (b_fdiv (by decide) (by decide) ?_)
    rw [show ((lo : Int) + hi) / 2 = (((lo + hi) / 2 : Nat) : Int) by lia]
    have m1 : (lo + hi) / 2 < hi := by lia
    have m2 : lo ≤ (lo + hi) / 2 := by lia
    generalize (lo + hi) / 2 = m at m1 m2
    have m3 : m < c.gs.length := by lia
    refine g_ H.1 rfl (u_t H.2 (intsIdx m3 H.4) (k_lt (kI_ (fun h => b_add ?_) fun h => ?_)))
    · exact index_loop H rfl q j (m + 1) hi _ (by lia) (by lia) h2 (B.up H.3 m3 h)
    · exact index_loop H rfl q j lo m _ (by lia) (by lia) (by lia) (B.down H.3 m3 h)
theorem c_index (H : RCov σ c) (q : ∀ r : Int, decide (0 ≤ r) = c.gs.contains g → Q (.int r) σ) : callSem (n + 1) 407 [.ref c.a, .int g] σ Q := by
  have hl := H.4
  have hlen : (c.gs.map V.int).length = c.gs.length := List.length_map ..
  refine call fn_Coverage_index rfl rfl (g_ H.1 rfl (len_t H.2 (by lia) ?_))
  rw [hlen]
  refine .mk (c.gs.length + 1) (index_loop H rfl (fun lo x y h B => g_ H.1 rfl (len_t H.2 (by lia) ?_)) c.gs.length 0 c.gs.length none (by lia) (Nat.zero_le _) (Nat.le_refl _) ⟨fun i h hi => absurd hi (Nat.not_lt_zero i), fun i h hi => absurd h (Nat.not_lt.mpr hi)⟩)
  rw [hlen]
  by_cases hlt : lo < c.gs.length
  · refine k_lt (.t (decide_eq_true (by lia)) (g_ H.1 rfl (u_t H.2 (intsIdx hlt H.4) (k_eqi ?_))))
    by_cases e : c.gs[lo] = g
    · refine .t (beq_iff_eq.mpr e) (q _ ?_)
      rw [decide_eq_true (Int.natCast_nonneg lo), ← e]
      exact (List.contains_iff_mem.mpr (List.getElem_mem hlt)).symm
    · exact .f (beq_false_of_ne e) (q _ (B.no (fun _ => e) H.3).symm)
  · exact k_lt (.f (decide_eq_false (by lia)) (.f rfl (q _ (B.no (fun h => absurd h hlt) H.3).symm)))
theorem c_has (H : RCov σ c) (q : Q (.bool (c.gs.contains g)) σ) : callSem (n + 2) 414 [.ref c.a, .int g] σ Q :=
  call fn_Coverage_has rfl rfl (m_ H.1 rfl (c_index H fun r hr => k_ge (hr ▸ q)))
end
inductive Ts where
  | glyph (g : Int)
  | cls (es : List (Int × Int)) (n : Int)
  | cov (gs : List Int)
noncomputable def fitsT : Ts → Int → Bool
  | .glyph g, x => g == x
  | .cls es n, x => getI es x == n
  | .cov gs, x => gs.contains x
inductive Both (p q : Prop) : Prop
  | mk (a : p) (b : q)
inductive Tl where
  | glyph (a : Addr) (g : Int)
  | cls (a : Addr) (c : Cd) (n : Int)
  | cov (a : Addr) (c : Cov)
noncomputable def Tl.v : Tl → V
  | .glyph a _ | .cls a _ _ | .cov a _ => .ref a
noncomputable def Tl.t : Tl → Ts
  | .glyph _ g => .glyph g
  | .cls _ c n => .cls c.es n
  | .cov _ c => .cov c.gs
noncomputable def RTl (τ : Sg) : Tl → Prop
  | .glyph a g => τ a = some (.tup [.str (Str.ofString "glyph"), .int g])
  | .cls a c n => Both (τ a = some (.tup [.str (Str.ofString "class"), .ref c.a, .int n])) (RCd τ c)
  | .cov a c => Both (τ a = some (.tup [.str (Str.ofString "cover"), .ref c.a])) (RCov τ c)
theorem RTl.wk {τ σ : Sg} (E : Wk τ σ) : ∀ {t : Tl}, RTl τ t → RTl σ t
  | .glyph .., h => E.1 _ _ rfl h
  | .cls .., h => ⟨E.1 _ _ rfl h.1, h.2.wk E⟩
  | .cov .., h => ⟨E.1 _ _ rfl h.1, h.2.wk E⟩
theorem RTl.ext {τ σ : Sg} (E : Ext τ σ) {t : Tl} (h : RTl τ t) : RTl σ t := RTl.wk E.wk h
theorem i0 {x : V} {xs : List V} : Idx (x :: xs) 0 x := .pos (by decide) (by decide) rfl
theorem i1 {x y : V} {xs : List V} : Idx (x :: y :: xs) 1 y := .pos (by decide) (by decide) rfl
theorem i2 {x y z : V} {xs : List V} : Idx (x :: y :: z :: xs) 2 z := .pos (by decide) (by decide) rfl
theorem c_fits {n : Nat} {σ : Sg} {g : Int} {Q : Po} : ∀ {t : Tl}, RTl σ t → Q (.bool (fitsT t.t g)) σ → callSem (n + 3) 197 [t.v, .int g] σ Q
  | .glyph .., h, q => call fn_fits rfl rfl (u_t h i0 (k_eqs rfl (.t rfl (u_t h i1 (k_eqi q)))))
  | .cls .., h, q => call fn_fits rfl rfl (u_t h.1 i0 (k_eqs rfl (.f rfl (u_t h.1 i0 (k_eqs rfl (.t rfl (u_t h.1 i1 (m_ h.2.1 rfl (c_class_of h.2 (u_t h.1 i2 (k_eqi q)))))))))))
  | .cov .., h, q => call fn_fits rfl rfl (u_t h.1 i0 (k_eqs rfl (.f rfl (u_t h.1 i0 (k_eqs rfl (.f rfl (u_t h.1 i1 (m_ h.2.1 rfl (c_has h.2 q)))))))))
end Mine
end
section
open PySem
namespace Mine
-- Q3
noncomputable def bes (p : Nat → Bool) (k : Nat) (s : Int) : Nat → Int → Int
  | 0, _ => -1
  | j + 1, h => if 0 ≤ h ∧ h < k then (bif p h.toNat then bes p k s j (h + s) else h) else -1
theorem bes_val {p : Nat → Bool} {k : Nat} {s : Int} : ∀ {j : Nat} {h : Int}, bes p k s j h = -1 ∨ ∃ i : Nat, bes p k s j h = i ∧ i < k ∧ p i = false
  | 0, _ => .inl rfl
  | j + 1, h => by
    unfold bes
    split
    · cases e : p h.toNat
      · exact .inr ⟨h.toNat, (Int.toNat_of_nonneg (by lia)).symm, by lia, e⟩
      · exact bes_val
    · exact .inl rfl
noncomputable def Far (k : Nat) (s : Int) (j : Nat) (h : Int) : Prop := (s = 1 ∧ (k : Int) - h ≤ j) ∨ (s = -1 ∧ h + 1 ≤ j)
theorem Far.next {k : Nat} {s h : Int} {j : Nat} (f : Far k s (j + 1) h) : Far k s j (h + s) := by
  unfold Far at f ⊢; lia
theorem Far.zero {k : Nat} {s h : Int} (f : Far k s 0 h) : ¬ (0 ≤ h ∧ h < k) := by
  unfold Far at f; lia
section
variable {n : Nat} {σ τ : Sg} {W : Wd} {U : Lu} {s : Sn} {rows : List Rw} {Q : Po} {T : Tst} {g f : Int} {i : Nat} {r : Rw}
theorem rowLen {k : Nat} {A : Nat → Addr} : (rowV k A).length = k := by rw [rowV, List.length_map, List.length_range]
theorem range_test (S : Sc σ W U s rows) {m : Mp} {h : Int} (m0 : sl m 0 = some (.ref s.s)) (mi : sl m i = some (.int h)) (q1 : 0 ≤ h ∧ h < W.k → T true σ) (q2 : ¬ (0 ≤ h ∧ h < W.k) → T false σ) :
    awpC (callSem n) (.chain .LtE .Lt (.lit (.int 0)) (.loc i) (.bcall "len" [.attr (.attr (.loc 0) "buffer") "row"])) m T σ := by
  refine v_ mi (k_le (kI_ (fun h0 => v_ m0 (g_ S.3 rfl (g_ S.1.1 rfl (len_l S.1.2 ?_ (k_lt ?_))))) fun h0 => q2 fun c => h0 c.1))
  · rw [rowLen]; exact Nat.lt_trans S.1.6 (by decide)
  · rw [rowLen]
    by_cases c : h < W.k
    · rw [decide_eq_true c]; exact q1 ⟨h0, c⟩
    · rw [decide_eq_false c]; exact q2 fun x => c x.2
noncomputable def NoKind (σ : Sg) (kd : Addr) : Prop := ∀ {T : Tst}, T true σ → CmpK .NotIn T sEmpty (.ref kd) σ
theorem Base.no1 (B : Base σ W) : NoKind σ 190 := fun {T} q => k_niT B.7 (b := false) (.cons (a := false) (b := false) .str (.cons (a := false) (b := false) .str (.cons (a := false) (b := false) .str .nil))) q
theorem Base.no2 (B : Base σ W) : NoKind σ 189 := fun {T} q => k_niT B.8 (b := false) (.cons (a := false) (b := false) .str (.cons (a := false) (b := false) .str .nil)) q
theorem bes_no {p : Nat → Bool} {k j : Nat} {s h : Int} (c : ¬ (0 ≤ h ∧ h < k)) : bes p k s (j + 1) h = -1 := if_neg c
theorem bes_go {p : Nat → Bool} {k i j : Nat} {s : Int} (c : 0 ≤ (i : Int) ∧ (i : Int) < k) (e : p i = true) : bes p k s (j + 1) i = bes p k s j (i + s) := by rw [bes, if_pos c, Int.toNat_natCast, e]; rfl
theorem bes_at {p : Nat → Bool} {k i j : Nat} {s : Int} (c : 0 ≤ (i : Int) ∧ (i : Int) < k) (e : p i = false) : bes p k s (j + 1) i = i := by rw [bes, if_pos c, Int.toNat_natCast, e]; rfl
theorem neigh_loop {step : Int} {x : Option V} {R : Ps} (j : Nat) :
    ∀ (h : Int) {σ : Sg}, Sc σ W U s rows → Far W.k step j h → (∀ b m σ', bes (psd W.mb U.f rows) W.k step (j + 1) h = b → Ext σ σ' → (0 ≤ b → R (.ret (.int b)) m σ') ∧ (b = -1 → R .next m σ')) →
      whileN (awpC (callSem (n + 4)) (.chain .LtE .Lt (.lit (.int 0)) (.loc 3) (.bcall "len" [.attr (.attr (.loc 0) "buffer") "row"]))) (awpSs (callSem (n + 4)) [.ite (.and (.not (.fcall 97 [.loc 0, .loc 3])) (.cmp .NotIn (.attr (.sub (.attr (.attr (.loc 0) "buffer") "row") (.loc 3)) "kind") (.lit (.ref 190)))) [.ret (.loc 3)] [], .assign (.one (.loc 3)) (.bin .Add (.loc 3) (.loc 2))])
        (j + 1) R [some (.ref s.s), x, some (.int step), some (.int h)] σ := by
  induction j with
  | zero => exact fun h σ S hf q => range_test S rfl rfl (fun c => absurd c hf.zero) fun no => .f rfl ((q _ _ σ (bes_no no) (.refl σ)).2 rfl)
  | succ j ih =>
    refine fun h σ S hf q => range_test S rfl rfl (fun c => .t rfl ?_) fun no => .f rfl ((q _ _ σ (bes_no no) (.refl σ)).2 rfl)
    obtain ⟨i, rfl⟩ := Int.eq_ofNat_of_zero_le c.1
    have hi : i < W.k := Int.ofNat_lt.mp c.2
    refine c_passes S hi fun σ1 E1 => kN (fun hp => ?_) fun hp => .f rfl (b_add (ih _ (S.ext E1) hf.next fun b m σ' e E2 => q b m σ' ((bes_go c hp).trans e) (E1.trans E2)))
    obtain ⟨r, hr⟩ := S.row hi
    exact g_ (E1.ob S.3) rfl (g_ (E1.ob S.1.1) rfl (u_l (E1 _ _ S.1.2) (rowIdx hi S.1.6) (g_ (E1.ob (S.4.1 i r hr)) rfl ((S.1.ext E1).no1 (.t rfl ((q _ _ σ1 (bes_at c hp) E1).1 c.1))))))
theorem c_neighbour (S : Sc σ W U s rows) {i step : Int} (h : Far W.k step 9 (i + step)) (q : ∀ σ', Ext σ σ' → Q (.int (bes (psd W.mb U.f rows) W.k step 10 (i + step))) σ') : callSem (n + 5) 204 [.ref s.s, .int i, .int step] σ Q :=
  call fn_neighbour rfl rfl (b_add (.mk 10 (neigh_loop 9 (i + step) S h fun b m σ' e E => ⟨fun _ => e ▸ q σ' E, fun h0 => ((e.trans h0) ▸ q σ' E : Q (.int (-1)) σ')⟩)))
theorem c_next (S : Sc σ W U s rows) {i : Int} (h : Far W.k 1 9 (i + 1)) (q : ∀ σ', Ext σ σ' → Q (.int (bes (psd W.mb U.f rows) rows.length 1 10 (i + 1))) σ') : callSem (n + 6) 211 [.ref s.s, .int i] σ Q :=
  call fn_next_at rfl rfl (c_neighbour S h (S.6 ▸ q))
noncomputable def borne (m mask : Int) : Bool := !(((m.toNat &&& mask.toNat : Nat) : Int) == 0)
theorem c_borne (S : Sc σ W U s rows) (hr : rows[i]? = some r) (q : Q (.bool (borne r.m s.mask)) σ) : callSem (n + 1) 225 [.ref s.s, .ref (W.A i)] σ Q :=
  call fn_is_borne rfl rfl (g_ (S.4.1 i r hr) rfl (g_ S.3 rfl (b_and (S.5.at hr).2.1 S.7 (k_nei q))))
noncomputable def okAt (rows : List Rw) (t : Ts) (mask : Int) (inp : Bool) (i : Nat) : Bool := match rows[i]? with
  | some r => fitsT t r.g && (borne r.m mask || !inp)
  | none => false
noncomputable def fndB (ok : Nat → Bool) (b : Int) : Int := if b < 0 then -1 else bif ok b.toNat then b else -1
noncomputable def fnd (p : Nat → Bool) (ok : Nat → Bool) (k : Nat) (s : Int) (j : Nat) (h : Int) : Int := fndB ok (bes p k s j h)
theorem okAt_t {t : Ts} {mask : Int} {inp : Bool} {i : Nat} (hr : rows[i]? = some r) (h1 : fitsT t r.g = true) (h2 : (borne r.m mask || !inp) = true) : fndB (okAt rows t mask inp) i = i := by
  rw [fndB, okAt, if_neg (Int.not_lt.mpr (Int.natCast_nonneg i)), Int.toNat_natCast, hr]; show cond (fitsT t r.g && (borne r.m mask || !inp)) (i : Int) (-1) = i; rw [h1, h2]; rfl
theorem okAt_f {t : Ts} {mask : Int} {inp : Bool} {i : Nat} (hr : rows[i]? = some r) (h : (fitsT t r.g && (borne r.m mask || !inp)) = false) : fndB (okAt rows t mask inp) i = -1 := by
  rw [fndB, okAt, if_neg (Int.not_lt.mpr (Int.natCast_nonneg i)), Int.toNat_natCast, hr]; show cond (fitsT t r.g && (borne r.m mask || !inp)) (i : Int) (-1) = -1; rw [h]; rfl
theorem found_loop {step : Int} {x : Option V} {t : Tl} {inp : Bool} {kd : Addr} {R : Ps} (hk : ∀ σ', Sc σ' W U s rows → NoKind σ' kd) (j : Nat) :
    ∀ (h : Int) {σ : Sg} {y : Option V}, Sc σ W U s rows → RTl σ t → Far W.k step j h → (∀ b m σ', bes (psd W.mb U.f rows) W.k step (j + 1) h = b → Ext σ σ' → (0 ≤ b → R (.ret (.int (fndB (okAt rows t.t s.mask inp) b))) m σ') ∧ (b = -1 → R .next m σ')) →
      whileN (awpC (callSem (n + 4)) (.chain .LtE .Lt (.lit (.int 0)) (.loc 6) (.bcall "len" [.attr (.attr (.loc 0) "buffer") "row"]))) (awpSs (callSem (n + 4)) [.ite (.not (.fcall 97 [.loc 0, .loc 6])) [.assign (.one (.loc 7)) (.sub (.attr (.attr (.loc 0) "buffer") "row") (.loc 6)),
        .ite (.and (.fcall 197 [.loc 3, .attr (.loc 7) "glyph"]) (.or (.fcall 225 [.loc 0, .loc 7]) (.not (.loc 5)))) [.ret (.loc 6)] [],
        .ite (.cmp .NotIn (.attr (.loc 7) "kind") (.loc 4)) [.ret (.neg (.lit (.int 1)))] []] [], .assign (.one (.loc 6)) (.bin .Add (.loc 6) (.loc 2))])
        (j + 1) R [some (.ref s.s), x, some (.int step), some t.v, some (.ref kd), some (.bool inp), some (.int h), y] σ := by
  induction j with
  | zero => exact fun h σ y S ht hf q => range_test S rfl rfl (fun c => absurd c hf.zero) fun no => .f rfl ((q _ _ σ (bes_no no) (.refl σ)).2 rfl)
  | succ j ih =>
    refine fun h σ y S ht hf q => range_test S rfl rfl (fun c => .t rfl ?_) fun no => .f rfl ((q _ _ σ (bes_no no) (.refl σ)).2 rfl)
    obtain ⟨i, rfl⟩ := Int.eq_ofNat_of_zero_le c.1
    have hi : i < W.k := Int.ofNat_lt.mp c.2
    refine c_passes S hi fun σ1 E1 => kN (fun hp => ?_) fun hp => b_add (ih _ (S.ext E1) (ht.ext E1) hf.next fun b m σ' e E2 => q b m σ' ((bes_go c hp).trans e) (E1.trans E2))
    obtain ⟨r, hr⟩ := S.row hi
    have o := E1.ob (S.4.1 i r hr)
    have q := fun m => (q _ m σ1 (bes_at c hp) E1).1 c.1
    refine g_ (E1.ob S.3) rfl (g_ (E1.ob S.1.1) rfl (u_l (E1 _ _ S.1.2) (rowIdx hi S.1.6) (g_ o rfl (c_fits (ht.ext E1) (kB (fun h1 => c_borne (S.ext E1) hr (kB (fun h2 => .t rfl (okAt_t hr h1 (by rw [h2]; rfl) ▸ q _)) fun h2 => ?_)) fun h1 => .f rfl (g_ o rfl (hk σ1 (S.ext E1) (.t rfl (okAt_f hr (by rw [h1]; rfl) ▸ q _ : R (.ret (.int (-1))) _ σ1)))))))))
    cases inp with
    | false => exact .t rfl ((okAt_t (inp := false) hr h1 (by rw [h2]; rfl) ▸ q _))
    | true => exact .f rfl ((g_ o rfl (hk σ1 (S.ext E1) (.t rfl (okAt_f (inp := true) hr (by rw [h1, h2]; rfl) ▸ q _ : R (.ret (.int (-1))) _ σ1)))))
theorem c_found (S : Sc σ W U s rows) {i step : Int} {t : Tl} {inp : Bool} {kd : Addr} (ht : RTl σ t) (hk : ∀ σ', Sc σ' W U s rows → NoKind σ' kd) (h : Far W.k step 9 (i + step))
    (q : ∀ σ', Ext σ σ' → Q (.int (fnd (psd W.mb U.f rows) (okAt rows t.t s.mask inp) rows.length step 10 (i + step))) σ') : callSem (n + 5) 232 [.ref s.s, .int i, .int step, t.v, .ref kd, .bool inp] σ Q := by
  rw [S.6] at q
  exact   call fn_found_at rfl rfl (b_add (.mk 10 (found_loop hk 9 (i + step) S ht h fun b m σ' e E => ⟨fun _ => by have := q σ' E; rw [fnd, e] at this; exact this, fun h0 => by have := q σ' E; rw [fnd, e, h0] at this; exact this⟩)))
end
end Mine
end
section
open PySem
namespace Mine
-- Q4
noncomputable def inputs (fd : Ts → Int → Int) : List Ts → Int → List Int → Option (List Int)
  | [], _, acc => some acc
  | t :: ts, last, acc => if fd t (last + 1) < 0 then none else inputs fd ts (fd t (last + 1)) (acc ++ [fd t (last + 1)])
noncomputable def lasts (fd : Ts → Int → Int) (s : Int) : List Ts → Int → Int
  | [], h => h
  | t :: ts, h => if fd t (h + s) < 0 then -1 else lasts fd s ts (fd t (h + s))
theorem getLast_map {l : List Int} {x : Int} (h : l.getLast? = some x) : (l.map V.int).getLast? = some (.int x) := by rw [List.getLast?_map, h]; rfl
theorem getLast_snoc {l : List Int} {x : Int} : (l ++ [x]).getLast? = some x := List.getLast?_concat
theorem Ext.put {τ σ : Sg} {f : Addr} {c : C} (E : Ext τ σ) (h : τ f = none) : Ext τ (up σ f c) := fun a c' e => (up_ne (ne_of e h)).trans (E a c' e)
noncomputable def hide (f : Addr) (σ : Sg) : Sg := fun a => if a = f then none else σ a
theorem hide_self (f : Addr) (σ : Sg) : hide f σ f = none := if_pos rfl
theorem hide_ext {f : Addr} {σ : Sg} : Ext (hide f σ) σ := fun a c e => by
  unfold hide at e
  split at e
  · cases e
  · exact e
theorem hide_at {f a : Addr} {σ : Sg} {c : C} (h : σ a = some c) (n : a ≠ f) : hide f σ a = some c := (if_neg n).trans h
theorem Ext.toHide {τ σ : Sg} {f : Addr} (E : Ext τ σ) (h : τ f = none) : Ext τ (hide f σ) := fun a c e => hide_at (E a c e) (ne_of e h)
theorem same_list {σ σ' : Sg} {a : Addr} {xs : List V} (h : σ a = some (.list xs)) (h' : σ' a = some (.list xs)) : Same (.ref a) σ σ' := fun b e => by
  cases e
  exact ⟨h'.trans h.symm, fun d q => nomatch h.symm.trans q⟩
theorem same_tup {σ σ' : Sg} {a : Addr} {xs : List V} (h : σ a = some (.tup xs)) (h' : σ' a = some (.tup xs)) : Same (.ref a) σ σ' := fun b e => by
  cases e
  exact ⟨h'.trans h.symm, fun d q => nomatch h.symm.trans q⟩
theorem same_range {σ σ' : Sg} {a : Addr} {lo hi : Int} (h : σ a = some (.range lo hi)) (h' : σ' a = some (.range lo hi)) : Same (.ref a) σ σ' := fun b e => by
  cases e
  exact ⟨h'.trans h.symm, fun d q => nomatch h.symm.trans q⟩
theorem Ext.no {τ σ : Sg} {f : Addr} (E : Ext τ σ) (h : σ f = none) : τ f = none := by
  cases e : τ f with
  | none => rfl
  | some c => exact nomatch (E _ _ e).symm.trans h
theorem fndB_lt {ok : Nat → Bool} {b : Int} {k : Nat} (h : b < k) : fndB ok b < k := by
  unfold fndB
  cases ok b.toNat <;> simp only [cond_true, cond_false] <;> split <;> lia
theorem bes_lt {p : Nat → Bool} {k : Nat} {s h : Int} {j : Nat} : bes p k s j h < k := by
  rcases bes_val (p := p) (k := k) (s := s) (j := j) (h := h) with e | ⟨i, e, hi, _⟩ <;> lia
noncomputable def fdI (mk : Int → Bool) (f : Int) (rows : List Rw) (mask : Int) (t : Ts) (h : Int) : Int := fnd (psd mk f rows) (okAt rows t mask true) rows.length 1 10 h
noncomputable def fdA (mk : Int → Bool) (f : Int) (rows : List Rw) (mask : Int) (s : Int) (t : Ts) (h : Int) : Int := fnd (psd mk f rows) (okAt rows t mask false) rows.length s 10 h
noncomputable def rowG (rows : List Rw) (i : Nat) : Int := match rows[i]? with | some r => r.g | none => 0
theorem rowG_at {rows : List Rw} {i : Nat} {r : Rw} (h : rows[i]? = some r) : rowG rows i = r.g := by rw [rowG, h]
noncomputable def insP (mk : Int → Bool) (f : Int) (rows : List Rw) (mask : Int) (ts : List Ts) (i : Nat) : Option (List Int) := match ts with
  | [] => none
  | t :: ts => bif fitsT t (rowG rows i) then inputs (fdI mk f rows mask) ts i [(i : Int)] else none
noncomputable def matP (mk : Int → Bool) (f : Int) (rows : List Rw) (mask : Int) (bk ins ah : List Ts) (i : Nat) : Option (List Int × Int × Int) := match insP mk f rows mask ins i with
  | none => none
  | some ps =>
    if lasts (fdA mk f rows mask (-1)) (-1) bk i < 0 then none
    else if lasts (fdA mk f rows mask 1) 1 ah (ps.getLast?.getD 0) < 0 then none
    else some (ps, lasts (fdA mk f rows mask (-1)) (-1) bk i, lasts (fdA mk f rows mask 1) 1 ah (ps.getLast?.getD 0))
theorem inputs_all {fd : Ts → Int → Int} {k : Nat} (hfd : ∀ t h, fd t h < k) : ∀ {ts : List Ts} {last : Int} {acc ps : List Int}, acc.getLast? = some last → (∀ x ∈ acc, 0 ≤ x ∧ x < k) → inputs fd ts last acc = some ps → (∃ x, ps.getLast? = some x) ∧ ∀ x ∈ ps, 0 ≤ x ∧ x < k
  | [], last, acc, ps, hl, ha, h => by cases h; exact ⟨⟨_, hl⟩, ha⟩
  | t :: ts, last, acc, ps, hl, ha, h => by
    unfold inputs at h
    split at h
    · cases h
    · rename_i c
      refine inputs_all hfd getLast_snoc (fun x hx => ?_) h
      rcases List.mem_append.mp hx with hx | hx
      · exact ha x hx
      · rw [List.mem_singleton.mp hx]; exact ⟨Int.not_lt.mp c, hfd _ _⟩
section
variable {n : Nat} {σ τ : Sg} {W : Wd} {U : Lu} {s : Sn} {rows : List Rw} {Q : Po} {R : Ps} {i : Nat} {fo sc tl : Addr} {src : List V} {x1 x2 x y : Option V} {mk : Int → Bool} {f mask : Int}
theorem input_loop (S : Sc τ W U s rows) (hfo : τ fo = none) (hsc : τ sc = some (.list src)) {σ₁ : Sg} (h1 : σ₁ sc = some (.list src)) (ts : List Tl) :
    ∀ {acc : List Int} {last : Int} {σ : Sg} {x y : Option V}, (∀ t ∈ ts, RTl τ t) → Ext τ σ → σ fo = some (.list (acc.map .int)) → acc.getLast? = some last → 0 ≤ last → acc.length + ts.length ≤ 500 →
      (∀ m σ', Ext τ σ' → inputs (fdI W.mb U.f rows s.mask) (ts.map Tl.t) last acc = none → R (.ret .none) m σ') →
      (∀ xs x y σ', Ext τ σ' → inputs (fdI W.mb U.f rows s.mask) (ts.map Tl.t) last acc = some xs → σ' fo = some (.list (xs.map .int)) → R .next [some (.ref s.s), x1, x2, some (.ref fo), x, y] σ') →
      forL (Same (.ref sc) σ₁) (fun v R m => asg (callSem (n + 5)) (.one (.loc 4)) (awpSs (callSem (n + 5)) [.assign (.one (.loc 5)) (.fcall 232 [.loc 0, .sub (.loc 3) (.neg (.lit (.int 1))), .lit (.int 1), .loc 4, .lit (.ref 189), .lit (.bool true)]), .ite (.cmp .Lt (.loc 5) (.lit (.int 0))) [.ret (.lit .none)] [], .expr (.meth (.loc 3) "append" [.loc 5])] R) m v)
        (ts.map Tl.v) R [some (.ref s.s), x1, x2, some (.ref fo), x, y] σ := by
  induction ts with
  | nil => exact fun {acc last σ x y} _ E hf _ _ _ _ q => f_nil (same_list h1 (E _ _ hsc)) (q acc x y σ E rfl hf)
  | cons t ts ih =>
    refine fun {acc last σ x y} ht E hf hl h0 hn q0 q => f_cons (same_list h1 (E _ _ hsc)) (u_l hf (.last (getLast_map hl)) (c_found (S.ext E) ((ht t (.head _)).ext E) (fun _ S => S.1.no2) (.inl ⟨rfl, by have := S.1.6; lia⟩) fun σ' E' => ?_))
    have e : ∀ h, fnd (psd W.mb U.f rows) (okAt rows t.t s.mask true) rows.length 1 10 (last + 1) = h → inputs (fdI W.mb U.f rows s.mask) ((t :: ts).map Tl.t) last acc = if h < 0 then none else inputs (fdI W.mb U.f rows s.mask) (ts.map Tl.t) h (acc ++ [h]) := fun h e => by rw [← e]; rfl
    generalize fnd (psd W.mb U.f rows) (okAt rows t.t s.mask true) rows.length 1 10 (last + 1) = h at e
    have e := e h rfl
    have E2 := E.trans E'
    refine k_lt (kI_ (fun c => q0 _ σ' E2 (e.trans (if_pos c))) fun c => m_app (E' _ _ hf) (t_app (E' _ _ hf) ?_ (ih (fun t h => ht t (.tail _ h)) (E2.put hfo) ?_ getLast_snoc (Int.not_lt.mp c) ?_ (fun m σ'' E'' h => q0 m σ'' E'' (e.trans ((if_neg c).trans h))) fun xs x y σ'' E'' h => q xs x y σ'' E'' (e.trans ((if_neg c).trans h)))))
    · rw [List.length_map]; rw [List.length_cons] at hn; lia
    · rw [List.map_append]; exact up_self _ _ _
    · rw [List.length_append]; rw [List.length_cons] at hn; exact Nat.le_trans (Nat.le_of_eq (Nat.add_right_comm ..)) hn
theorem c_input (S : Sc σ W U s rows) (hi : i < W.k) {t : Tl} {ts : List Tl} (htl : σ tl = some (.list ((t :: ts).map Tl.v))) (ht : ∀ x ∈ t :: ts, RTl σ x) (hsz : ts.length ≤ 100)
    (q0 : ∀ σ', Ext σ σ' → insP W.mb U.f rows s.mask ((t :: ts).map Tl.t) i = none → Q .none σ')
    (q : ∀ σ' fo xs, Ext σ σ' → insP W.mb U.f rows s.mask ((t :: ts).map Tl.t) i = some xs → σ' fo = some (.list (xs.map .int)) → Q (.ref fo) σ') : callSem (n + 6) 239 [.ref s.s, .int i, .ref tl] σ Q := by
  obtain ⟨r, hr⟩ := S.row hi
  have hg : fitsT t.t r.g = fitsT t.t (rowG rows i) := by rw [rowG_at hr]
  refine call fn_input_at rfl rfl (u_l htl i0 (g_ S.3 rfl (g_ S.1.1 rfl (u_l S.1.2 (rowIdx hi S.1.6) (g_ (S.4.1 i r hr) rfl (c_fits (ht t (.head _)) (kN (fun h => q0 σ (.refl σ) ?_) fun h => new_ fun fo σ1 E1 hfo hfn => .list rfl (E1 _ _ htl) ?_ (.from (by decide) (Nat.succ_le_succ (Nat.zero_le _))) (new_ fun sc σ2 E2 hsc hs0 => ?_))))))))
  · show cond (fitsT t.t (rowG rows i)) _ _ = _
    rw [← hg, h]; rfl
  · rw [List.length_map]; exact Nat.le_trans (Nat.succ_le_succ hsz) (by decide)
  have e : insP W.mb U.f rows s.mask ((t :: ts).map Tl.t) i = inputs (fdI W.mb U.f rows s.mask) (ts.map Tl.t) i [(i : Int)] := by
    show cond (fitsT t.t (rowG rows i)) _ _ = _
    rw [← hg, h]; rfl
  have F : Ext σ (hide fo σ2) := (E1.trans E2).toHide hfn
  have hf2 := E2 _ _ hfo
  have hne : sc ≠ fo := (ne_of hfo hs0).symm
  refine .mk (.list rfl hsc) (input_loop (S.ext F) (hide_self _ _) (hide_at hsc hne) hsc ts (fun x h => (ht x (.tail _ h)).ext F) hide_ext (acc := [(i : Int)]) hf2 rfl (Int.natCast_nonneg i) ?_ (fun m σ' E h => q0 σ' (F.trans E) (e.trans h)) fun xs x y σ' E h hx => q σ' fo xs (F.trans E) (e.trans h) hx)
  exact Nat.le_trans (Nat.add_le_add_left hsz 1) (by decide)
theorem last_loop (S : Sc τ W U s rows) {step : Int} (hs : step = 1 ∨ step = -1) (hsc : τ sc = some (.list src)) {σ₁ : Sg} (h1 : σ₁ sc = some (.list src)) (ts : List Tl) :
    ∀ {h : Int} {σ : Sg} {x : Option V}, (∀ t ∈ ts, RTl τ t) → Ext τ σ → 0 ≤ h → h < W.k →
      (∀ b m σ', Ext τ σ' → lasts (fdA W.mb U.f rows s.mask step) step (ts.map Tl.t) h = b → b < 0 → R (.ret (.int (-1))) m σ' ∧ b = -1) →
      (∀ b x σ', Ext τ σ' → lasts (fdA W.mb U.f rows s.mask step) step (ts.map Tl.t) h = b → 0 ≤ b → R .next [some (.ref s.s), x1, some (.int step), x2, some (.int b), x] σ') →
      forL (Same (.ref sc) σ₁) (fun v R m => asg (callSem (n + 5)) (.one (.loc 5)) (awpSs (callSem (n + 5)) [.assign (.one (.loc 4)) (.fcall 232 [.loc 0, .loc 4, .loc 2, .loc 5, .lit (.ref 190), .lit (.bool false)]), .ite (.cmp .Lt (.loc 4) (.lit (.int 0))) [.ret (.neg (.lit (.int 1)))] []] R) m v)
        (ts.map Tl.v) R [some (.ref s.s), x1, some (.int step), x2, some (.int h), x] σ := by
  induction ts with
  | nil => exact fun {h σ x} _ E h0 _ _ q => f_nil (same_list h1 (E _ _ hsc)) (q h x σ E rfl h0)
  | cons t ts ih =>
    refine fun {h σ x} ht E h0 hk q0 q => f_cons (same_list h1 (E _ _ hsc)) (c_found (S.ext E) ((ht t (.head _)).ext E) (fun _ S => S.1.no1) ?_ fun σ' E' => ?_)
    · have := S.1.6; unfold Far; lia
    have hlt : fnd (psd W.mb U.f rows) (okAt rows t.t s.mask false) rows.length step 10 (h + step) < rows.length := fndB_lt bes_lt
    have e : ∀ b, fnd (psd W.mb U.f rows) (okAt rows t.t s.mask false) rows.length step 10 (h + step) = b → lasts (fdA W.mb U.f rows s.mask step) step ((t :: ts).map Tl.t) h = if b < 0 then -1 else lasts (fdA W.mb U.f rows s.mask step) step (ts.map Tl.t) b := fun b e => by rw [← e]; rfl
    generalize fnd (psd W.mb U.f rows) (okAt rows t.t s.mask false) rows.length step 10 (h + step) = b at e hlt
    have e := e b rfl
    have E2 := E.trans E'
    exact k_lt (kI_ (fun c => (q0 (-1) _ σ' E2 (e.trans (if_pos c)) (by decide)).1) fun c => ih (fun t h => ht t (.tail _ h)) E2 (Int.not_lt.mp c) (S.6 ▸ hlt) (fun b' m σ'' E'' h => q0 b' m σ'' E'' (e.trans ((if_neg c).trans h))) fun b' x σ'' E'' h => q b' x σ'' E'' (e.trans ((if_neg c).trans h)))
theorem lasts_neg {fd : Ts → Int → Int} {s : Int} : ∀ {ts : List Ts} {h : Int}, 0 ≤ h → lasts fd s ts h < 0 → lasts fd s ts h = -1
  | [], _, h0, h => absurd h (Int.not_lt.mpr h0)
  | t :: ts, _, _, h => by
    unfold lasts at h ⊢
    split at h
    · rename_i c; exact if_pos c
    · rename_i c; rw [if_neg c]; exact lasts_neg (Int.not_lt.mp c) h
theorem c_last (S : Sc σ W U s rows) {step : Int} (hs : step = 1 ∨ step = -1) {h : Int} (h0 : 0 ≤ h) (hk : h < W.k) {ts : List Tl} (htl : σ tl = some (.list (ts.map Tl.v))) (ht : ∀ x ∈ ts, RTl σ x)
    (q : ∀ σ', Ext σ σ' → Q (.int (lasts (fdA W.mb U.f rows s.mask step) step (ts.map Tl.t) h)) σ') : callSem (n + 6) 246 [.ref s.s, .int h, .int step, .ref tl] σ Q :=
  call fn_last_at rfl rfl (.mk (.list rfl htl) (last_loop S hs htl htl ts ht (.refl σ) h0 hk (fun b m σ' E e h => by subst e; have e := lasts_neg h0 h; have := q σ' E; rw [e] at this; exact ⟨this, e⟩) fun b x σ' E e _ => e ▸ q σ' E))
theorem insP_all {i : Nat} {ts : List Ts} {ps : List Int} (hi : i < rows.length) (h : insP mk f rows mask ts i = some ps) : (∃ x, ps.getLast? = some x) ∧ ∀ x ∈ ps, 0 ≤ x ∧ x < rows.length := by
  unfold insP at h
  cases ts with
  | nil => cases h
  | cons t ts =>
    dsimp only at h
    cases e : fitsT t (rowG rows i) <;> rw [e] at h
    · cases h
    · refine inputs_all (fun t h => fndB_lt bes_lt) rfl (fun x hx => ?_) h
      rw [List.mem_singleton.mp hx]
      exact ⟨Int.natCast_nonneg i, Int.ofNat_lt.mpr hi⟩
set_option maxHeartbeats 2000000 in
theorem c_match (S : Sc σ W U s rows) (hi : i < W.k) {tt bl il al : Addr} {bk ah : List Tl} {t : Tl} {ins : List Tl} {acts : V} (htt : σ tt = some (.tup [.ref bl, .ref il, .ref al, acts])) (hbl : σ bl = some (.list (bk.map Tl.v))) (hil : σ il = some (.list ((t :: ins).map Tl.v)))
    (hal : σ al = some (.list (ah.map Tl.v))) (hb : ∀ x ∈ bk, RTl σ x) (hin : ∀ x ∈ t :: ins, RTl σ x) (ha : ∀ x ∈ ah, RTl σ x) (hsz : ins.length ≤ 100)
    (q0 : ∀ σ', Ext σ σ' → matP W.mb U.f rows s.mask (bk.map Tl.t) ((t :: ins).map Tl.t) (ah.map Tl.t) i = none → Q .none σ')
    (q : ∀ σ' t' pl ps b e, Ext σ σ' → matP W.mb U.f rows s.mask (bk.map Tl.t) ((t :: ins).map Tl.t) (ah.map Tl.t) i = some (ps, b, e) → σ' t' = some (.tup [.ref pl, .int b, .int e]) → σ' pl = some (.list (ps.map .int)) → Q (.ref t') σ') : callSem (n + 8) 561 [.ref s.s, .int i, .ref tt] σ Q := by
  unfold matP at q0 q
  refine callm fn_match_rule [some _, some (.int i), some _, none, none, none, none, none, none, none] rfl rfl rfl (.mk rfl htt rfl (c_input S hi hil hin hsz (fun σ1 E1 h => k_isT (.t rfl (q0 σ1 E1 (by rw [h])))) fun σ1 fo ps E1 h hfo => k_isF (.f rfl ?_)))
  rw [h] at q0 q
  dsimp only at q0 q
  obtain ⟨⟨x, hx⟩, hall⟩ := insP_all (by rw [S.6]; exact hi) h
  have hx2 := hall x (List.mem_of_getLast? hx)
  rw [hx, Option.getD_some] at q0 q
  rw [S.6] at hx2
  refine call fn_back_at rfl rfl (c_last (S.ext E1) (.inr rfl) (Int.natCast_nonneg i) (Int.ofNat_lt.mpr hi) (E1 _ _ hbl) (fun x h => (hb x h).ext E1) fun σ2 E2 => ?_)
  generalize lasts (fdA W.mb U.f rows s.mask (-1)) (-1) (bk.map Tl.t) i = b at q0 q
  have E12 := E1.trans E2
  refine k_lt (kI_ (fun c => q0 σ2 E12 (if_pos c)) fun c => u_l (E2 _ _ hfo) (.last (getLast_map hx)) (call fn_ahead_at rfl rfl (c_last (S.ext E12) (.inl rfl) hx2.1 hx2.2 (E12 _ _ hal) (fun x h => (ha x h).ext E12) fun σ3 E3 => ?_)))
  rw [if_neg c] at q0 q
  generalize lasts (fdA W.mb U.f rows s.mask 1) 1 (ah.map Tl.t) x = e at q0 q
  exact k_lt (kI_ (fun c2 => q0 σ3 (E12.trans E3) (if_pos c2)) fun c2 => new_ fun t' σ4 E4 ht' _ => q σ4 t' fo ps b e ((E12.trans E3).trans E4) (if_neg c2) ht' (E4 _ _ (E3 _ _ (E2 _ _ hfo))))
end
end Mine
end
section
open PySem
namespace Mine
-- Q5
section
variable {α β : Type} {f : α → V} {ok : Sg → Prop}
theorem map_snoc {γ : Type} {g : α → γ} {l : List α} {a : α} : l.map g ++ [g a] = (l ++ [a]).map g := by rw [List.map_append]; rfl
theorem split_mem {all d r : List α} {a : α} (h : all = d ++ a :: r) : a ∈ all := h ▸ List.mem_append_right _ (.head _)
theorem split_len {all d r : List α} {a : α} (h : all = d ++ a :: r) : d.length < all.length := by
  rw [h, List.length_append]; exact Nat.lt_add_of_pos_right (Nat.succ_pos _)
theorem loop_al {J : List α → β → Sg → Prop} {step : V → (β → Sg → Prop) → β → Sg → Prop} {Q : β → Sg → Prop} (all : List α) (hok : ∀ {d b σ}, J d b σ → ok σ)
    (hs : ∀ {d a r b σ} {R : β → Sg → Prop}, all = d ++ a :: r → J d b σ → (∀ b' σ', J (d ++ [a]) b' σ' → R b' σ') → step (f a) R b σ) (hq : ∀ {b σ}, J all b σ → Q b σ) :
    ∀ {as d : List α} {b : β} {σ : Sg}, all = d ++ as → J d b σ → loopL ok step (as.map f) Q b σ
  | [], d, b, σ, e, h => ⟨hok h, hq (by rw [e, List.append_nil]; exact h)⟩
  | a :: as, d, b, σ, e, h => ⟨hok h, hs e h fun b' σ' h' => loop_al (J := J) all hok hs hq (d := d ++ [a]) (by rw [e, List.append_assoc]; rfl) h'⟩
theorem for_al {J : List α → β → Sg → Prop} {F : β → Mp} {step : V → Ps → Mp → Sg → Prop} {Q : Ps} (all : List α) (hok : ∀ {d b σ}, J d b σ → ok σ)
    (hs : ∀ {d a r b σ} {R : Ps}, all = d ++ a :: r → J d b σ → (∀ b' σ', J (d ++ [a]) b' σ' → R .next (F b') σ') → (∀ v m σ', Q (.ret v) m σ' → R (.ret v) m σ') → step (f a) R (F b) σ) (hq : ∀ {b σ}, J all b σ → Q .next (F b) σ) :
    ∀ {as d : List α} {b : β} {σ : Sg}, all = d ++ as → J d b σ → forL ok step (as.map f) Q (F b) σ
  | [], d, b, σ, e, h => ⟨hok h, hq (by rw [e, List.append_nil]; exact h)⟩
  | a :: as, d, b, σ, e, h => ⟨hok h, hs e h (fun b' σ' h' => for_al (J := J) all hok hs hq (d := d ++ [a]) (by rw [e, List.append_assoc]; rfl) h') fun v m σ' q => q⟩
end
inductive Pt where
  | num (n : Int)
  | cov (c : Cov)
noncomputable def Pt.v : Pt → V
  | .num n => .int n
  | .cov c => .ref c.a
noncomputable def RPt (τ : Sg) (form : Int) : Pt → Prop
  | .num _ => form = 1 ∨ form = 2
  | .cov c => Both (form = 3) (RCov τ c)
theorem RPt.wk {τ σ : Sg} {form : Int} (E : Wk τ σ) : ∀ {p : Pt}, RPt τ form p → RPt σ form p
  | .num _, h => h
  | .cov _, h => ⟨h.1, h.2.wk E⟩
theorem RPt.ext {τ σ : Sg} {form : Int} (E : Ext τ σ) {p : Pt} (h : RPt τ form p) : RPt σ form p := RPt.wk E.wk h
structure Ac where
  t : Addr
  i : Int
  n : Int
noncomputable def Ac.v (a : Ac) : V := .ref a.t
noncomputable def RAc (τ : Sg) (a : Ac) : Prop := τ a.t = some (.tup [.int a.i, .int a.n])
structure Rl where
  a : Addr
  d : Addr
  tb : Addr
  ti : Addr
  th : Addr
  tc : Addr
  back : List Pt
  i0 : Pt
  ins : List Pt
  ah : List Pt
  acts : List Ac
noncomputable def rlFs (r : Rl) : List (String × V) := [("back", .ref r.tb), ("inside", .ref r.ti), ("ahead", .ref r.th), ("actions", .ref r.tc)]
inductive RRl (τ : Sg) (form : Int) (r : Rl) : Prop
  | mk (o : Ob τ r.a r.d 466 (rlFs r)) (b : τ r.tb = some (.tup (r.back.map Pt.v))) (i : τ r.ti = some (.tup ((r.i0 :: r.ins).map Pt.v))) (h : τ r.th = some (.tup (r.ah.map Pt.v))) (c : τ r.tc = some (.tup (r.acts.map Ac.v)))
    (rb : ∀ p ∈ r.back, RPt τ form p) (ri : ∀ p ∈ r.i0 :: r.ins, RPt τ form p) (rh : ∀ p ∈ r.ah, RPt τ form p) (ra : ∀ a ∈ r.acts, RAc τ a) (lb : r.back.length ≤ 100) (li : r.ins.length ≤ 99) (lh : r.ah.length ≤ 100)
theorem RRl.wk {τ σ : Sg} {form : Int} {r : Rl} (E : Wk τ σ) (h : RRl τ form r) : RRl σ form r :=
  ⟨E.2 _ _ _ _ rfl h.1, E.1 _ _ rfl h.2, E.1 _ _ rfl h.3, E.1 _ _ rfl h.4, E.1 _ _ rfl h.5, fun p k => (h.6 p k).wk E, fun p k => (h.7 p k).wk E, fun p k => (h.8 p k).wk E, fun p k => E.1 _ _ rfl (h.9 p k), h.10, h.11, h.12⟩
theorem RRl.ext {τ σ : Sg} {form : Int} {r : Rl} (E : Ext τ σ) (h : RRl τ form r) : RRl σ form r := h.wk E.wk
noncomputable def tsOf (form : Int) (es : List (Int × Int)) : Pt → Ts
  | .num n => if form = 1 then .glyph n else .cls es n
  | .cov c => .cov c.gs
noncomputable def wordOf (form : Int) : String := if form = 1 then "glyph" else if form = 2 then "class" else "cover"
noncomputable def cdV (form : Int) (c : Cd) : V := if form = 2 then .ref c.a else .none
section
variable {σ : Sg} {n : Nat} {Q : Po} {form : Int} {c : Cd}
inductive RTls (σ : Sg) (form : Int) (es : List (Int × Int)) (ps : List Pt) (ts : List Tl) : Prop
  | mk (h : ∀ t ∈ ts, RTl σ t) (e : ts.map Tl.t = ps.map (tsOf form es))
theorem RTls.wk {σ σ' : Sg} {es : List (Int × Int)} {ps : List Pt} {ts : List Tl} (E : Wk σ σ') (h : RTls σ form es ps ts) : RTls σ' form es ps ts := ⟨fun t k => (h.1 t k).wk E, h.2⟩
theorem RTls.ext {σ σ' : Sg} {es : List (Int × Int)} {ps : List Pt} {ts : List Tl} (E : Ext σ σ') (h : RTls σ form es ps ts) : RTls σ' form es ps ts := h.wk E.wk
theorem RTls.snoc {es : List (Int × Int)} {ps : List Pt} {ts : List Tl} {p : Pt} {t : Tl} (h : RTls σ form es ps ts) (k : RTl σ t) (e : t.t = tsOf form es p) : RTls σ form es (ps ++ [p]) (ts ++ [t]) :=
  ⟨fun x hx => (List.mem_append.mp hx).elim (h.1 x) fun q => List.mem_singleton.mp q ▸ k, by rw [List.map_append, List.map_append, h.2]; exact congrArg (fun x => _ ++ [x]) e⟩
theorem c_tests_of (hf : form = 1 ∨ form = 2 ∨ form = 3) {rt : Addr} {ps : List Pt} (hrt : σ rt = some (.tup (ps.map Pt.v))) (hp : ∀ p ∈ ps, RPt σ form p) (hl : ps.length ≤ 100) (hc : form = 2 → RCd σ c)
    (q : ∀ σ' l ts, Ext σ σ' → σ' l = some (.list (ts.map Tl.v)) → RTls σ' form c.es ps ts → Q (.ref l) σ') : callSem (n + 1) 521 [.ref rt, .str (Str.ofString (wordOf form)), cdV form c] σ Q := by
  have inv : ∀ {m : Mp} {el : E}, (∀ p σ1 (R : Po), RPt σ1 form p → Ext σ σ1 → (∀ t σ2, Ext σ1 σ2 → RTl σ2 t → t.t = tsOf form c.es p → R t.v σ2) → awpE (callSem n) el (st m 3 p.v) R σ1) → CompK (fun v R acc => awpIfs (callSem n) [] (st m 3 v) (kIf (awpE (callSem n) el (st m 3 v) (kAcc R acc)) (R acc))) (kL Q) [] (.ref rt) σ := fun {m el} he => by
    refine .mk (.tup rfl hrt) (by rw [List.length_map]; exact Nat.le_trans hl (by decide)) (loop_al ps (J := fun d acc σ1 => Ext σ σ1 ∧ ∃ ts, acc = ts.map Tl.v ∧ RTls σ1 form c.es d ts) (fun h => same_tup hrt (h.1 _ _ hrt)) ?_ ?_ (d := []) rfl ⟨.refl σ, [], rfl, fun _ h => (nomatch h), rfl⟩)
    · rintro d p r acc σ1 R e ⟨E1, ts, rfl, h⟩ hR
      refine .t rfl (he p σ1 _ ((hp p (split_mem e)).ext E1) E1 fun t σ2 E2 k e => hR _ _ ⟨E1.trans E2, ts ++ [t], map_snoc, (h.ext E2).snoc k e⟩)
    · rintro acc σ1 ⟨E1, ts, rfl, h⟩
      exact new_ fun l σ2 E2 hl _ => q σ2 l ts (E1.trans E2) hl (h.ext E2)
  rcases hf with rfl | rfl | rfl
  · refine call fn_tests_of rfl rfl (k_eqs rfl (.f rfl (inv fun p σ1 R h E1 hR => ?_)))
    cases p with
    | num g => exact new_ fun l σ2 E2 hl _ => hR (.glyph l g) σ2 E2 hl rfl
    | cov c => exact absurd h.1 (by decide)
  · refine call fn_tests_of rfl rfl (k_eqs rfl (.t rfl (inv fun p σ1 R h E1 hR => ?_)))
    cases p with
    | num g => exact new_ fun l σ2 E2 hl _ => hR (.cls l c g) σ2 E2 ⟨hl, (hc rfl).ext (E1.trans E2)⟩ rfl
    | cov c => exact absurd h.1 (by decide)
  · refine call fn_tests_of rfl rfl (k_eqs rfl (.f rfl (inv fun p σ1 R h E1 hR => ?_)))
    cases p with
    | num g => exact absurd h (show ¬ ((3 : Int) = 1 ∨ (3 : Int) = 2) by decide)
    | cov c => exact new_ fun l σ2 E2 hl _ => hR (.cov l c) σ2 E2 ⟨hl, h.2.ext E2⟩ rfl
structure Cx3 where
  a : Addr
  d : Addr
  D : Addr
  k : Nat
  ch : V
  form : Int
  sets : List (Int × Addr × List Rl)
  cov : Cov
  ct : Addr
  c0 : Cd
  c1 : Cd
  c2 : Cd
noncomputable def cxFs (t : Cx3) : List (String × V) := [("form", .int t.form), ("is_chained", t.ch), ("sets", .ref t.D), ("coverage", if t.form = 2 then .ref t.cov.a else .none), ("classes", if t.form = 2 then .ref t.ct else .none)]
noncomputable def setV (e : Int × Addr × List Rl) : Int × V := (e.1, .ref e.2.1)
noncomputable def Rl.v (r : Rl) : V := .ref r.a
inductive RSet (τ : Sg) (form : Int) (e : Int × Addr × List Rl) : Prop
  | mk (h : τ e.2.1 = some (.list (e.2.2.map Rl.v))) (r : ∀ r ∈ e.2.2, RRl τ form r) (l : e.2.2.length ≤ 100)
inductive RC2 (τ : Sg) (t : Cx3) : Prop
  | mk (c : RCov τ t.cov) (h : τ t.ct = some (.tup [.ref t.c0.a, .ref t.c1.a, .ref t.c2.a])) (c0 : RCd τ t.c0) (c1 : RCd τ t.c1) (c2 : RCd τ t.c2)
inductive RCx (τ : Sg) (t : Cx3) : Prop
  | mk (o : Ob τ t.a t.d 507 (cxFs t)) (h : τ t.D = some (.dict t.k (t.sets.map setV))) (s : ∀ e ∈ t.sets, RSet τ t.form e) (two : t.form = 2 → RC2 τ t) (form : t.form = 1 ∨ t.form = 2 ∨ t.form = 3)
    (three : t.form = 3 → ∃ l rs, t.sets = [(0, l, rs)] ∧ rs.length ≤ 10) (few : t.sets.length ≤ 100) (keys : t.form = 1 → ∀ e ∈ t.sets, 0 ≤ e.1 ∧ e.1 < 6) (covs : t.form = 2 → ∀ g ∈ t.cov.gs, 0 ≤ g ∧ g < 6) (cov3 : ∀ e ∈ t.sets, ∀ r ∈ e.2.2, ∀ c, r.i0 = .cov c → ∀ g ∈ c.gs, 0 ≤ g ∧ g < 6)
theorem RSet.wk {τ σ : Sg} {form : Int} {e : Int × Addr × List Rl} (E : Wk τ σ) (h : RSet τ form e) : RSet σ form e := ⟨E.1 _ _ rfl h.1, fun r k => (h.2 r k).wk E, h.3⟩
theorem RSet.ext {τ σ : Sg} {form : Int} {e : Int × Addr × List Rl} (E : Ext τ σ) (h : RSet τ form e) : RSet σ form e := h.wk E.wk
theorem RC2.wk {τ σ : Sg} {t : Cx3} (E : Wk τ σ) (h : RC2 τ t) : RC2 σ t := ⟨h.1.wk E, E.1 _ _ rfl h.2, h.3.wk E, h.4.wk E, h.5.wk E⟩
theorem RC2.ext {τ σ : Sg} {t : Cx3} (E : Ext τ σ) (h : RC2 τ t) : RC2 σ t := h.wk E.wk
theorem RCx.wk {τ σ : Sg} {t : Cx3} (E : Wk τ σ) (h : RCx τ t) : RCx σ t := ⟨E.2 _ _ _ _ rfl h.1, E.1 _ _ rfl h.2, fun e k => (h.3 e k).wk E, fun f => (h.4 f).wk E, h.5, h.6, h.7, h.8, h.9, h.10⟩
theorem RCx.ext {τ σ : Sg} {t : Cx3} (E : Ext τ σ) (h : RCx τ t) : RCx σ t := h.wk E.wk
structure Rt where
  tt : Addr
  bl : Addr
  il : Addr
  al : Addr
  r : Rl
  tb : List Tl
  t0 : Tl
  ti : List Tl
  ta : List Tl
noncomputable def Rt.v (t : Rt) : V := .ref t.tt
inductive RRt (σ : Sg) (t : Cx3) (x : Rt) : Prop
  | mk (h : σ x.tt = some (.tup [.ref x.bl, .ref x.il, .ref x.al, .ref x.r.tc])) (b : σ x.bl = some (.list (x.tb.map Tl.v))) (i : σ x.il = some (.list ((x.t0 :: x.ti).map Tl.v))) (a : σ x.al = some (.list (x.ta.map Tl.v))) (c : σ x.r.tc = some (.tup (x.r.acts.map Ac.v)))
    (rb : RTls σ t.form t.c0.es x.r.back x.tb) (ri : RTls σ t.form t.c1.es (x.r.i0 :: x.r.ins) (x.t0 :: x.ti)) (ra : RTls σ t.form t.c2.es x.r.ah x.ta) (rc : ∀ a ∈ x.r.acts, RAc σ a) (l : x.r.ins.length ≤ 99)
theorem RRt.wk {σ σ' : Sg} {t : Cx3} {x : Rt} (E : Wk σ σ') (h : RRt σ t x) : RRt σ' t x := ⟨E.1 _ _ rfl h.1, E.1 _ _ rfl h.2, E.1 _ _ rfl h.3, E.1 _ _ rfl h.4, E.1 _ _ rfl h.5, h.6.wk E, h.7.wk E, h.8.wk E, fun a k => E.1 _ _ rfl (h.9 a k), h.10⟩
theorem RRt.ext {σ σ' : Sg} {t : Cx3} {x : Rt} (E : Ext σ σ') (h : RRt σ t x) : RRt σ' t x := h.wk E.wk
theorem c_rule_tests {t : Cx3} {r : Rl} (ht : RCx σ t) (hr : RRl σ t.form r) (q : ∀ σ' x, Ext σ σ' → x.r = r → RRt σ' t x → Q x.v σ') : callSem (n + 2) 528 [.ref t.a, r.v] σ Q := by
  refine callm fn_rule_tests [some _, some _, none, none, none, none] rfl rfl rfl (new_ fun wl σ1 E1 hwl _ => g_ (E1.ob ht.1) rfl (u_l (v := .str (Str.ofString (wordOf t.form))) hwl ?_ (g_ (E1.ob ht.1) rfl (k_eqi ?_))))
  · rw [wordOf]
    rcases ht.5 with e | e | e <;> rw [e] <;> exact .pos (by decide) (by decide) rfl
  have fin : ∀ {σ2 : Sg} {x2 v0 v1 v2 : V}, Ext σ σ2 → x2 = .str (Str.ofString (wordOf t.form)) → v0 = cdV t.form t.c0 → v1 = cdV t.form t.c1 → v2 = cdV t.form t.c2 → awpSs (callSem (n + 1)) (fn_rule_tests.body.drop 2) (kEnd Q) [some (.ref t.a), some (.ref r.a), some x2, some v0, some v1, some v2] σ2 := fun {σ2 x2 v0 v1 v2} E2 e e0 e1 e2 => by
    subst e e0 e1 e2
    have hr2 := hr.ext E2
    have h2 := fun f => (ht.4 f).ext E2
    refine g_ hr2.1 rfl (c_tests_of ht.5 hr2.2 hr2.6 hr.10 (fun f => (h2 f).3) fun σ3 bl tb E3 hbl rb => g_ (E3.ob hr2.1) rfl (c_tests_of ht.5 (E3 _ _ hr2.3) (fun p k => (hr2.7 p k).ext E3) (Nat.succ_le_succ hr.11) (fun f => (h2 f).4.ext E3) fun σ4 il ti E4 hil ri => ?_))
    have hr4 := (hr2.ext E3).ext E4
    refine g_ hr4.1 rfl (c_tests_of ht.5 hr4.4 hr4.8 hr.12 (fun f => ((h2 f).5.ext E3).ext E4) fun σ5 al ta E5 hal ra => g_ (E5.ob hr4.1) rfl (new_ fun tt σ6 E6 htt _ => ?_))
    have E56 := E5.trans E6
    cases ti with
    | nil => exact nomatch ri.2
    | cons t0 ti => exact q σ6 ⟨tt, bl, il, al, r, tb, t0, ti, ta⟩ (((E2.trans E3).trans E4).trans E56) rfl ⟨htt, E56 _ _ (E4 _ _ hbl), E56 _ _ hil, E6 _ _ hal, E56 _ _ hr4.5, (rb.ext E4).ext E56, ri.ext E56, ra.ext E6, fun a k => E56 _ _ (hr4.9 a k), hr.11⟩
  by_cases hf : t.form = 2
  · exact .t (beq_iff_eq.mpr hf) (g_ (E1.ob ht.1) rfl (.mk (if_pos hf) (E1 _ _ (ht.4 hf).2) rfl (fin E1 rfl (if_pos hf).symm (if_pos hf).symm (if_pos hf).symm)))
  · exact .f (beq_false_of_ne hf) (new_ fun l σ2 E2 hl _ => .mk rfl hl rfl (fin (E1.trans E2) rfl (if_neg hf).symm (if_neg hf).symm (if_neg hf).symm))
end
end Mine
end
section
open PySem
namespace Mine
-- Q6
noncomputable def setL (sets : List (Int × Addr × List Rl)) (g : Int) : List Rl := match sets.lookup g with
  | some e => e.2
  | none => []
noncomputable def headCov (r : Rl) (g : Int) : Bool := match r.i0 with
  | .cov c => c.gs.contains g
  | _ => false
noncomputable def rulesOf (t : Cx3) (g : Int) : List Rl := if t.form = 1 then setL t.sets g else if t.form = 2 then (bif t.cov.gs.contains g then setL t.sets (getI t.c1.es g) else []) else setL t.sets 0
noncomputable def rulesF (t : Cx3) (g : Int) : List Rl := if t.form = 3 then (rulesOf t g).filter fun r => headCov r g else rulesOf t g
theorem rulesF1 {t : Cx3} {g : Int} (h : t.form = 1) : rulesF t g = setL t.sets g := by rw [rulesF, rulesOf, if_pos h, if_neg (by rw [h]; decide)]
theorem rulesF2 {t : Cx3} {g : Int} (h : t.form = 2) : rulesF t g = bif t.cov.gs.contains g then setL t.sets (getI t.c1.es g) else [] := by rw [rulesF, rulesOf, if_pos h, if_neg (by rw [h]; decide), if_neg (by rw [h]; decide)]
theorem rulesF3 {t : Cx3} {g : Int} (h : t.form = 3) : rulesF t g = (setL t.sets 0).filter fun r => headCov r g := by rw [rulesF, rulesOf, if_pos h, if_neg (by rw [h]; decide), if_neg (by rw [h]; decide)]
inductive RLs (σ : Sg) (form : Int) (l : Addr) (rs : List Rl) : Prop
  | mk (h : σ l = some (.list (rs.map Rl.v))) (r : ∀ r ∈ rs, RRl σ form r) (l : rs.length ≤ 100)
theorem RLs.wk {σ σ' : Sg} {form : Int} {l : Addr} {rs : List Rl} (E : Wk σ σ') (h : RLs σ form l rs) : RLs σ' form l rs := ⟨E.1 _ _ rfl h.1, fun r k => (h.2 r k).wk E, h.3⟩
theorem RLs.ext {σ σ' : Sg} {form : Int} {l : Addr} {rs : List Rl} (E : Ext σ σ') (h : RLs σ form l rs) : RLs σ' form l rs := h.wk E.wk
section
variable {σ : Sg} {n : Nat} {Q : Po} {t : Cx3} {g : Int}
theorem sets_get {form : Int} {e : Addr} (he : σ e = some (.list [])) : ∀ {sets : List (Int × Addr × List Rl)}, (∀ e ∈ sets, RSet σ form e) → ∃ l, ((sets.map setV).lookup g).getD (.ref e) = .ref l ∧ RLs σ form l (setL sets g)
  | [], _ => ⟨e, rfl, he, fun _ h => (nomatch h), Nat.zero_le _⟩
  | (k, l, rs) :: r, h => by
    unfold setL
    rw [List.map_cons, setV, List.lookup_cons, List.lookup_cons]
    cases g == k
    · exact sets_get he fun e q => h e (.tail _ q)
    · have := h _ (.head _); exact ⟨l, rfl, this.1, this.2, this.3⟩
theorem c_rules (ht : RCx σ t) {l : Addr} {rs : List Rl} (h3 : t.sets = [(0, l, rs)]) (q : ∀ σ' l, Ext σ σ' → RLs σ' t.form l rs → Q (.ref l) σ') : callSem (n + 1) 504 [.ref t.a] σ Q := by
  have hD := ht.2
  have h := ht.3 (0, l, rs) (by rw [h3]; exact .head _)
  rw [h3] at hD
  refine call fn_Contexts_rules rfl rfl (new_ fun fo σ1 E1 hfo hfn => g_ (E1.ob ht.1) rfl (.sorted rfl rfl (.dict rfl (E1 _ _ hD)) (show 1 < 60 by decide) fun js hj _ => ?_))
  have : js = [0] := List.perm_singleton.mp hj
  subst this
  refine new_ fun ks σ2 E2 hks hkn => ?_
  have F : Ext σ (hide fo σ2) := (E1.trans E2).toHide hfn
  have ho := hide_at hks (ne_of hfo hkn).symm
  have Fo := (F.ob ht.1)
  refine .mk (.list rfl hks) (f_cons (same_list hks hks) (g_ (hide_ext.ob Fo) rfl (u_d (hide_ext _ _ (F _ _ hD)) rfl (.mk (.list rfl (hide_ext _ _ (F _ _ h.1))) (for_al (F := fun x => [some (.ref t.a), some (.ref fo), some (.int 0), x]) rs (J := fun d _ σ' => Ext (hide fo σ2) σ' ∧ σ' fo = some (.list (d.map Rl.v))) (fun J => same_list (hide_ext _ _ (F _ _ h.1)) (J.1 _ _ (F _ _ h.1))) (fun e J hR _ => m_app J.2 (t_app J.2 ?_ (hR _ _ ⟨J.1.put (hide_self _ _), by rw [List.map_append]; exact up_self _ _ _⟩))) (fun J => And.intro (same_list hks (J.1 _ _ ho)) (q _ fo (F.trans J.1) ⟨J.2, fun r k => (h.2 r k).ext (F.trans J.1), h.3⟩)) (d := []) (b := none) rfl ⟨hide_ext, E2 _ _ hfo⟩)))))
  have := split_len e
  have := h.3
  rw [List.length_map]; dsimp only at *; lia
theorem rules_tail (ht : RCx σ t) {l : Addr} {rs : List Rl} {x : Option V} (h : RLs σ t.form l rs)
    (q : ∀ σ' l (xs : List Rt), Ext σ σ' → σ' l = some (.list (xs.map Rt.v)) → xs.map Rt.r = rs → (∀ x ∈ xs, RRt σ' t x) → Q (.ref l) σ') :
    awpSs (callSem (n + 2)) (fn_rules_at.body.drop 1) (kEnd Q) [some (.ref t.a), some (.int g), some (.ref l), x] σ := by
  refine .mk (.list rfl h.1) (by rw [List.length_map]; exact Nat.le_trans h.3 (by decide)) (loop_al rs (J := fun d acc σ1 => Ext σ σ1 ∧ ∃ xs : List Rt, acc = xs.map Rt.v ∧ xs.map Rt.r = d ∧ ∀ x ∈ xs, RRt σ1 t x) (fun J => same_list h.1 (J.1 _ _ h.1)) ?_ ?_ (d := []) rfl ⟨.refl σ, [], rfl, rfl, fun _ h => (nomatch h)⟩)
  · rintro d r _ acc σ1 R e ⟨E1, xs, rfl, rfl, hx⟩ hR
    refine .t rfl (c_rule_tests (ht.ext E1) ((h.2 r (split_mem e)).ext E1) fun σ2 x E2 er hr => hR _ _ ⟨E1.trans E2, xs ++ [x], map_snoc, ?_, fun y hy => (List.mem_append.mp hy).elim (fun k => (hx y k).ext E2) fun k => List.mem_singleton.mp k ▸ hr⟩)
    rw [List.map_append, ← er]; rfl
  · rintro acc σ1 ⟨E1, xs, rfl, e, hx⟩
    exact new_ fun l σ2 E2 hl _ => q σ2 l xs (E1.trans E2) hl e fun x k => (hx x k).ext E2
theorem c_rules_at (ht : RCx σ t) (q : ∀ σ' l (xs : List Rt), Ext σ σ' → σ' l = some (.list (xs.map Rt.v)) → xs.map Rt.r = rulesF t g → (∀ x ∈ xs, RRt σ' t x) → Q (.ref l) σ') : callSem (n + 3) 533 [.ref t.a, .int g] σ Q := by
  refine call fn_rules_at rfl rfl (g_ ht.1 rfl (k_eqi ?_))
  by_cases f1 : t.form = 1
  · rw [rulesF1 f1] at q
    refine .t (beq_iff_eq.mpr f1) (g_ ht.1 rfl (m_get ht.2 (new_ fun e σ1 E1 he _ => t_getD (E1 _ _ ht.2) ?_)))
    obtain ⟨l, e1, hl⟩ := sets_get (g := g) he fun e k => (ht.3 e k).ext E1
    rw [e1]
    exact rules_tail (ht.ext E1) hl fun σ' l xs E => q σ' l xs (E1.trans E)
  refine .f (beq_false_of_ne f1) (g_ ht.1 rfl (k_eqi ?_))
  by_cases f2 : t.form = 2
  · rw [rulesF2 f2] at q
    have h2 := ht.4 f2
    refine .t (beq_iff_eq.mpr f2) (g_ (v := .ref t.cov.a) ht.1 (congrArg some (if_pos f2)) (m_ h2.1.1 rfl (c_has h2.1 ?_)))
    cases hc : t.cov.gs.contains g with
    | true =>
      rw [hc, cond_true] at q
      refine .t rfl (g_ ht.1 rfl (m_get ht.2 (g_ (v := .ref t.ct) ht.1 (congrArg some (if_pos f2)) (u_t h2.2 i1 (m_ h2.4.1 rfl (c_class_of h2.4 (new_ fun e σ1 E1 he _ => t_getD (E1 _ _ ht.2) ?_)))))))
      obtain ⟨l, e1, hl⟩ := sets_get (g := getI t.c1.es g) he fun e k => (ht.3 e k).ext E1
      rw [e1]
      exact rules_tail (ht.ext E1) hl fun σ' l xs E => q σ' l xs (E1.trans E)
    | false =>
      rw [hc, cond_false] at q
      exact .f rfl (new_ fun e σ1 E1 he _ => rules_tail (rs := []) (ht.ext E1) ⟨he, fun _ h => (nomatch h), Nat.zero_le _⟩ fun σ' l xs E => q σ' l xs (E1.trans E))
  have f3 : t.form = 3 := (ht.5.resolve_left f1).resolve_left f2
  rw [rulesF3 f3] at q
  obtain ⟨sl, rs, hrs, -⟩ := ht.6 f3
  rw [hrs] at q
  refine .f (beq_false_of_ne f2) (m_ ht.1 rfl (c_rules ht hrs fun σ1 l E1 hl => .mk (.list rfl hl.1) (by rw [List.length_map]; exact Nat.le_trans hl.3 (by decide)) ?_))
  refine loop_al rs (J := fun d acc σ2 => Ext σ1 σ2 ∧ acc = (d.filter fun r => headCov r g).map Rl.v) (fun J => same_list hl.1 (J.1 _ _ hl.1)) ?_ ?_ (d := []) rfl ⟨.refl σ1, rfl⟩
  · rintro d r _ acc σ2 R e ⟨E2, rfl⟩ hR
    have hr := (hl.2 r (split_mem e)).ext E2
    have hp := hr.7 r.i0 (.head _)
    have hh : ∃ c, r.i0 = .cov c ∧ RCov σ2 c ∧ headCov r g = c.gs.contains g := by
      unfold headCov
      cases e : r.i0 <;> rw [e] at hp
      · exact absurd hp (show ¬ (t.form = 1 ∨ t.form = 2) by rw [f3]; decide)
      · exact ⟨_, rfl, hp.2, rfl⟩
    obtain ⟨c, ec, hc, hh⟩ := hh
    have hi := hr.3
    rw [List.map_cons, ec] at hi
    refine g_ hr.1 rfl (u_t hi i0 (m_ hc.1 rfl (c_has hc (kB (fun h => .t rfl (hR _ _ ⟨E2, ?_⟩)) fun h => .f rfl (hR _ _ ⟨E2, ?_⟩)))))
    · rw [List.filter_append, List.filter_cons, if_pos (hh.trans h), List.map_append]; rfl
    · rw [List.filter_append, List.filter_cons, if_neg (by rw [hh, h]; decide), List.filter_nil, List.append_nil]
  · rintro acc σ2 ⟨E2, rfl⟩
    refine new_ fun l2 σ3 E3 hl3 _ => rules_tail (ht.ext (E1.trans (E2.trans E3))) ⟨hl3, fun r k => (hl.2 r (List.mem_filter.mp k).1).ext (E2.trans E3), Nat.le_trans (List.length_filter_le _ _) hl.3⟩ fun σ' l xs E => q σ' l xs ((E1.trans (E2.trans E3)).trans E)
end
end Mine
end
section
open PySem
namespace Mine
-- Q7
noncomputable def Md (D : Nat → Addr) (k : Nat) (σ σ' : Sg) : Prop := ∀ a c, (∀ i, i < k → a ≠ D i) → σ a = some c → σ' a = some c
theorem Md.refl {D : Nat → Addr} {k : Nat} (σ : Sg) : Md D k σ σ := fun _ _ _ e => e
theorem Md.trans {D : Nat → Addr} {k : Nat} {σ σ' σ'' : Sg} (h : Md D k σ σ') (h' : Md D k σ' σ'') : Md D k σ σ'' := fun a c n e => h' a c n (h a c n e)
theorem Ext.md {D : Nat → Addr} {k : Nat} {σ σ' : Sg} (E : Ext σ σ') : Md D k σ σ' := fun a c _ e => E a c e
theorem Ext.thenMd {D : Nat → Addr} {k : Nat} {τ σ σ' : Sg} (E : Ext τ σ) (hD : ∀ i, i < k → τ (D i) = none) (h : Md D k σ σ') : Ext τ σ' := fun a c e => h a c (fun i hi => ne_of e (hD i hi)) (E a c e)
noncomputable def upd (p : Nat → Bool) (rows : List Rw) : List Rw := rows.mapIdx fun i r => bif p i then { r with u := true } else r
theorem upd_at {p : Nat → Bool} {rows : List Rw} {i : Nat} : (upd p rows)[i]? = rows[i]?.map fun r => bif p i then { r with u := true } else r := List.getElem?_mapIdx
theorem upd_congr {p q : Nat → Bool} {rows : List Rw} (h : ∀ i, i < rows.length → p i = q i) : upd p rows = upd q rows :=
  List.ext_getElem? fun i => by
    rw [upd_at, upd_at]
    by_cases hi : i < rows.length
    · rw [h i hi]
    · rw [List.getElem?_eq_none (Nat.not_lt.mp hi)]; rfl
theorem upd_none {rows : List Rw} : upd (fun _ => false) rows = rows := List.ext_getElem? fun i => by rw [upd_at]; cases rows[i]? <;> rfl
theorem upd_set {p : Nat → Bool} {rows : List Rw} {i : Nat} {r : Rw} (h : rows[i]? = some r) : (upd p rows).set i { r with u := true } = upd (fun j => p j || j == i) rows :=
  List.ext_getElem? fun j => by
    rw [List.getElem?_set, upd_at (p := fun j => p j || j == i)]
    by_cases hj : i = j
    · subst hj
      rw [if_pos rfl, if_pos (by rw [upd, List.length_mapIdx]; exact (List.getElem?_eq_some_iff.mp h).1), h, beq_self_eq_true, Bool.or_true]; rfl
    · rw [if_neg hj, upd_at, beq_false_of_ne fun e => hj e.symm, Bool.or_false]
theorem upd_gm {p : Nat → Bool} {rows : List Rw} : (upd p rows).map gm = rows.map gm :=
  List.ext_getElem? fun j => by
    rw [List.getElem?_map, List.getElem?_map, upd_at, Option.map_map]
    congr 1; funext r
    show gm (cond _ _ _) = gm r
    cases p j <;> rfl
theorem set_gm {rows : List Rw} {i : Nat} {r r' : Rw} (h : rows[i]? = some r) (e : gm r' = gm r) : (rows.set i r').map gm = rows.map gm := by
  obtain ⟨hi, h⟩ := List.getElem?_eq_some_iff.mp h
  rw [List.map_set, e, ← h, ← List.getElem_map gm (h := by rw [List.length_map]; exact hi)]
  exact List.set_getElem_self _
inductive St (τ : Sg) (W : Wd) : Prop
  | mk (B : Base τ W) (hD : ∀ i, i < W.k → τ (W.D i) = none) (inj : ∀ i j, i < W.k → j < W.k → W.D i = W.D j → i = j)
inductive Now (τ σ : Sg) (W : Wd) (rows : List Rw) : Prop
  | mk (S : St τ W) (E : Ext τ σ) (I : Infos σ W rows) (G : GOk rows) (hk : rows.length = W.k)
inductive Stp (W : Wd) (σ σ' : Sg) (rows rows' : List Rw) : Prop
  | mk (m : Md W.D W.k σ σ') (I : Infos σ' W rows') (g : rows'.map gm = rows.map gm)
section
variable {τ σ σ' σ'' : Sg} {W : Wd} {rows rows' rows'' : List Rw} {n i : Nat} {Q : Po} {P : Sg → Prop} {r : Rw} {U : Lu} {s : Sn}
theorem Now.grow (N : Now τ σ W rows) (E : Ext σ σ') : Now τ σ' W rows := ⟨N.1, N.2.trans E, N.3.ext E, N.4, N.5⟩
theorem gm_len (h : rows'.map gm = rows.map gm) : rows'.length = rows.length := by rw [← List.length_map (f := gm), h, List.length_map]
theorem Now.go (N : Now τ σ W rows) (h : Stp W σ σ' rows rows') : Now τ σ' W rows' := ⟨N.1, N.2.thenMd N.1.2 h.1, h.2, by unfold GOk; rw [h.3]; exact N.4, (gm_len h.3).trans N.5⟩
theorem Now.same (N : Now τ σ W rows) (E : Ext σ σ') : Stp W σ σ' rows rows := ⟨E.md, N.3.ext E, rfl⟩
theorem Stp.trans (h : Stp W σ σ' rows rows') (k : Stp W σ' σ'' rows' rows'') : Stp W σ σ'' rows rows'' := ⟨h.1.trans k.1, k.2, k.3.trans h.3⟩
theorem Stp.after (E : Ext σ σ') (k : Stp W σ' σ'' rows rows') : Stp W σ σ'' rows rows' := ⟨E.md.trans k.1, k.2, k.3⟩
theorem Stp.then (h : Stp W σ σ' rows rows') (E : Ext σ' σ'') : Stp W σ σ'' rows rows' := ⟨h.1.trans E.md, h.2.ext E, h.3⟩
theorem Now.row (N : Now τ σ W rows) (hi : i < W.k) : ∃ r, rows[i]? = some r := ⟨_, List.getElem?_eq_getElem (by rw [N.5]; exact hi)⟩
theorem Now.lt (N : Now τ σ W rows) (h : rows[i]? = some r) : i < W.k := N.5 ▸ (List.getElem?_eq_some_iff.mp h).1
theorem Now.base (N : Now τ σ W rows) : Base σ W := N.1.1.ext N.2
theorem Now.sc (N : Now τ σ W rows) (L : RLu τ U) (C : Ob τ s.s s.d 65 (snFs W U.l s)) (hm : 0 ≤ s.mask) : Sc σ W U s rows := ⟨N.base, L.ext N.2, N.2.ob C, N.3, N.4, N.5, hm⟩
theorem Now.set {nm : String} {v : V} (N : Now τ σ W rows) (hr : rows[i]? = some r) (r' : Rw) (hf : fieldOk 135 nm = true) (hv : notB v = true) (e : fput (infoFs i r) nm v = infoFs i r') (g : gm r' = gm r) (q : ∀ σ', Stp W σ σ' rows (rows.set i r') → P σ') :
    SetK nm P v (.ref (W.A i)) σ := by
  have o := N.3.1 i r hr
  refine .mk rfl o.1 o.2 hf (show 15 ≤ 40 by decide) hv (q _ ⟨fun a c n h => (up_ne (n i (N.lt hr))).trans h, ⟨fun j rj hj => ?_⟩, set_gm hr g⟩)
  rw [e]
  rw [List.getElem?_set] at hj
  by_cases c : i = j
  · subst c
    rw [if_pos rfl, if_pos (List.getElem?_eq_some_iff.mp hr).1] at hj
    cases hj
    exact ⟨(up_ne fun q => nomatch (q ▸ o.1).symm.trans o.2).trans o.1, up_self _ _ _⟩
  · rw [if_neg c] at hj
    have oj := N.3.1 j rj hj
    exact ⟨(up_ne fun q => nomatch (q ▸ oj.1).symm.trans o.2).trans oj.1, (up_ne fun q => c (N.1.3 j i (N.lt hj) (N.lt hr) q).symm).trans oj.2⟩
theorem foldl_min {b : Int} : ∀ {l : List Int}, (∀ x ∈ l, b ≤ x) → l.foldl Min.min b = b
  | [], _ => rfl
  | x :: l, h => by
    rw [List.foldl_cons, Int.min_eq_left (h x (.head _))]
    exact foldl_min fun y hy => h y (.tail _ hy)
noncomputable def hangR (rows : List Rw) (b e : Nat) : List Rw := upd (fun i => decide (b < i ∧ i < e)) rows
theorem hang_no {b e : Nat} (h : e ≤ b + 1) : hangR rows b e = rows := (upd_congr fun i _ => decide_eq_false fun c => absurd c.2 (Nat.not_lt.mpr (Nat.le_trans h c.1))).trans upd_none
theorem hang_more {b e : Nat} (hr : rows[e]? = some r) (h : b < e) : (hangR rows b e).set e { r with u := true } = hangR rows b (e + 1) := by
  rw [hangR, upd_set hr]
  refine upd_congr fun i _ => ?_
  rw [Bool.eq_iff_iff, Bool.or_eq_true, decide_eq_true_eq, decide_eq_true_eq, beq_iff_eq]
  exact ⟨fun k => k.elim (fun k => ⟨k.1, Nat.lt_succ_of_lt k.2⟩) fun q => ⟨q ▸ h, q ▸ Nat.lt_succ_self _⟩, fun k => (Nat.lt_succ_iff_lt_or_eq.mp k.2).elim (fun q => .inl ⟨k.1, q⟩) .inr⟩
theorem hang_at {b e : Nat} (hr : rows[e]? = some r) : (hangR rows b e)[e]? = some r := by
  rw [hangR, upd_at, hr, Option.map_some, decide_eq_false fun c => absurd c.2 (Nat.lt_irrefl _)]; rfl
theorem range_split {b l a : Nat} {d r : List Nat} (h : List.range' b l = d ++ a :: r) : a = b + d.length ∧ d.length < l := by
  have h2 := split_len h
  rw [List.length_range'] at h2
  have h1 : (List.range' b l)[d.length]? = some a := by rw [h, List.getElem?_append_right (Nat.le_refl _), Nat.sub_self]; rfl
  rw [List.getElem?_range' h2, Nat.one_mul] at h1
  exact ⟨(Option.some.inj h1).symm, h2⟩
theorem take_drop_range {k b e : Nat} (h : e < k) : ((List.range k).take (e + 1)).drop b = List.range' b (e + 1 - b) := by
  rw [List.take_range, Nat.min_eq_left h, List.range_eq_range', List.drop_range', Nat.mul_one, Nat.zero_add]
theorem c_hang (N : Now τ σ W rows) {b e : Nat} (hbe : b ≤ e) (he : e < W.k) (q : ∀ σ', Stp W σ σ' rows (hangR rows b (e + 1)) → Q .none σ') : callSem (n + 1) 188 [.ref W.buf, .int b, .int ((e + 1 : Nat) : Int)] σ Q := by
  have B := N.base
  have e8 : (e + 1 : Nat) < 8 := Nat.lt_of_le_of_lt he B.6
  have b8 : b < 8 := Nat.lt_of_le_of_lt hbe (Nat.lt_of_succ_lt e8)
  have big : ∀ {m : Nat}, m < 8 → (m : Int) < 2 ^ 62 := fun h => Int.lt_trans (Int.ofNat_lt.mpr h) (by decide)
  have hcut := Cut.both (xs := rowV W.k W.A) (l := (b : Int)) (h := ((e + 1 : Nat) : Int)) (Int.natCast_nonneg _) (Int.ofNat_le.mpr (Nat.le_succ_of_le hbe)) (by rw [rowLen]; exact he)
  rw [Int.toNat_natCast, Int.toNat_natCast, rowV, ← List.map_take, ← List.map_drop, take_drop_range he] at hcut
  have hlen : ((List.range' b (e + 1 - b)).map fun i => V.ref (W.A i)).length = e + 1 - b := by rw [List.length_map, List.length_range']
  have l8 : e + 1 - b < 8 := Nat.lt_of_le_of_lt (Nat.sub_le _ _) e8
  refine call fn_hang rfl rfl (g_ B.1 rfl (.list rfl B.2 (by rw [rowLen]; exact Nat.le_of_lt (Nat.lt_trans B.6 (by decide))) hcut (new_ fun sl σ1 E1 hsl hs0 => len_l hsl (by rw [hlen]; exact Nat.lt_trans l8 (by decide)) ?_)))
  rw [hlen]
  refine k_lt (kI_ (fun hlt => q σ1 ⟨E1.md, ?_, upd_gm⟩) fun _ => .mk (.list rfl hsl) (by rw [hlen]; exact Nat.le_of_lt (Nat.lt_trans l8 (by decide))) (loop_al (List.range' b (e + 1 - b)) (J := fun d acc σ2 => Ext σ1 σ2 ∧ acc = d.map fun (i : Nat) => V.int (i : Int)) (fun J => same_list hsl (J.1 _ _ hsl)) ?_ ?_ (d := []) rfl ⟨.refl σ1, rfl⟩))
  · rw [hang_no (by lia)]; exact N.3.ext E1
  · rintro d i _ acc σ2 R h ⟨E2, rfl⟩ hR
    obtain ⟨rfl, h'⟩ := range_split h
    obtain ⟨r, hr⟩ := N.row (Nat.lt_of_lt_of_le (Nat.add_lt_of_lt_sub' h') he)
    exact .t rfl (g_ ((N.3.ext (E1.trans E2)).1 _ r hr) rfl (hR _ _ ⟨E2, map_snoc⟩))
  rintro acc σ2 ⟨E2, rfl⟩
  refine new_ fun cl σ3 E3 hcl _ => ?_
  rw [Nat.succ_sub hbe, List.range'_succ, List.map_cons] at hcl
  refine .min (is := (List.range' (b + 1) (e - b)).map fun (i : Nat) => (i : Int)) rfl rfl (by rw [List.map_map]; exact hcl) ?_
  rw [foldl_min fun x hx => by obtain ⟨i, hi, rfl⟩ := List.mem_map.mp hx; rw [List.mem_range'_1] at hi; exact Int.ofNat_le.mpr (Nat.le_of_lt hi.1)]
  have E23 := E2.trans E3
  have hs3 := E23 _ _ hsl
  have slD : ∀ i, i < W.k → sl ≠ W.D i := fun i hi => let ⟨r, hr⟩ := N.row hi; (ne_of (N.3.1 i r hr).2 hs0).symm
  refine .mk (.list rfl hs3) (for_al (F := fun x => [some (.ref W.buf), some (.int b), some (.int ((e + 1 : Nat) : Int)), some (.ref sl), x, some (.int b), none]) (List.range' b (e + 1 - b)) (J := fun d _ σ4 => Stp W σ σ4 rows (hangR rows b (b + d.length)) ∧ σ4 sl = some (.list ((List.range' b (e + 1 - b)).map fun i => .ref (W.A i)))) (fun J => same_list hs3 J.2) ?_ ?_ (d := []) (b := none) rfl ⟨⟨(E1.trans E23).md, ?_, upd_gm⟩, hs3⟩)
  · rintro d i r x σ4 R h ⟨J, hs4⟩ hR -
    obtain ⟨rfl, h'⟩ := range_split h
    have hl : ∀ x : Nat, b + (d ++ [x]).length = b + d.length + 1 := fun x => by rw [List.length_append]; rfl
    rw [hl] at hR
    obtain ⟨r, hr⟩ := N.row (Nat.lt_of_lt_of_le (Nat.add_lt_of_lt_sub' h') he)
    have hr4 := hang_at (b := b) hr
    refine g_ (J.2.1 _ r hr4) rfl (k_nei ?_)
    by_cases c : d.length = 0
    · rw [c, hang_no (e := b + 0) (Nat.le_succ b)] at J
      rw [c, hang_no (b := b) (e := b + 0 + 1) (Nat.le_refl _)] at hR
      exact .f (by rw [c, Nat.add_zero, beq_self_eq_true]; rfl) (hR _ _ ⟨J, hs4⟩)
    · have c := Nat.lt_add_of_pos_right (n := b) (Nat.pos_of_ne_zero c)
      exact .t (by rw [beq_false_of_ne (fun q => Nat.ne_of_gt c (Int.ofNat_inj.mp q))]; rfl) ((N.go J).set hr4 { r with u := true } rfl rfl rfl rfl fun σ5 T => hR _ σ5 ⟨hang_more hr c ▸ J.trans T, T.1 _ _ slD hs4⟩)
  · rintro x σ4 ⟨J, -⟩
    rw [List.length_range', Nat.add_sub_of_le (Nat.le_succ_of_le hbe)] at J
    exact q σ4 J
  · show Infos σ3 W (hangR rows b b)
    rw [hang_no (Nat.le_succ b)]; exact N.3.ext (E1.trans E23)
end
end Mine
end
section
open PySem
namespace Mine
-- Q8
structure Vl where
  a : Addr
  d : Addr
  xo : Int
  yo : Int
  xa : Int
  ya : Int
noncomputable def vlFs (v : Vl) : List (String × V) := [("x_offset", .int v.xo), ("y_offset", .int v.yo), ("x_advance", .int v.xa), ("y_advance", .int v.ya)]
noncomputable def RVl (τ : Sg) (v : Vl) : Prop := Ob τ v.a v.d 637 (vlFs v)
noncomputable def Vl.v (x : Vl) : V := .ref x.a
structure Pv where
  t : Addr
  v1 : Vl
  v2 : Vl
noncomputable def Pv.v (x : Pv) : V := .ref x.t
inductive RPv (τ : Sg) (x : Pv) : Prop
  | mk (h : τ x.t = some (.tup [.ref x.v1.a, .ref x.v2.a])) (v1 : RVl τ x.v1) (v2 : RVl τ x.v2)
theorem RPv.wk {τ σ : Sg} {x : Pv} (E : Wk τ σ) (h : RPv τ x) : RPv σ x := ⟨E.1 _ _ rfl h.1, E.2 _ _ _ _ rfl h.2, E.2 _ _ _ _ rfl h.3⟩
theorem RPv.ext {τ σ : Sg} {x : Pv} (E : Ext τ σ) (h : RPv τ x) : RPv σ x := h.wk E.wk
noncomputable def mvd (r : Rw) (v : Vl) : Rw := { r with xa := r.xa + v.xa, xo := r.xo + v.xo, yo := r.yo + v.yo }
noncomputable def moveR (rows : List Rw) (i : Nat) (v : Vl) : List Rw := match rows[i]? with
  | some r => rows.set i (mvd r v)
  | none => rows
theorem moveR_at {rows : List Rw} {i : Nat} {v : Vl} {r : Rw} (h : rows[i]? = some r) : moveR rows i v = rows.set i (mvd r v) := by rw [moveR, h]
theorem set_at {rows : List Rw} {i : Nat} {r r' : Rw} (h : rows[i]? = some r) : (rows.set i r')[i]? = some r' := List.getElem?_set_self (List.getElem?_eq_some_iff.mp h).1
theorem moveR_gm {rows : List Rw} {i : Nat} {v : Vl} : (moveR rows i v).map gm = rows.map gm := by
  unfold moveR
  split
  · rename_i r h; exact set_gm h rfl
  · rfl
structure Aj where
  a : Addr
  d : Addr
  D : Addr
  k : Nat
  vals : List (Int × Vl)
noncomputable def ajFs (t : Aj) : List (String × V) := [("values", .ref t.D)]
noncomputable def ajV (e : Int × Vl) : Int × V := (e.1, .ref e.2.a)
noncomputable def Aj.v (t : Aj) : V := .ref t.a
inductive RAj (τ : Sg) (t : Aj) : Prop
  | mk (o : Ob τ t.a t.d 670 (ajFs t)) (h : τ t.D = some (.dict t.k (t.vals.map ajV))) (v : ∀ e ∈ t.vals, RVl τ e.2) (keys : ∀ e ∈ t.vals, 0 ≤ e.1 ∧ e.1 < 6) (few : t.vals.length ≤ 100)
theorem RAj.wk {τ σ : Sg} {t : Aj} (E : Wk τ σ) (h : RAj τ t) : RAj σ t := ⟨E.2 _ _ _ _ rfl h.1, E.1 _ _ rfl h.2, fun e k => E.2 _ _ _ _ rfl (h.3 e k), h.4, h.5⟩
theorem RAj.ext {τ σ : Sg} {t : Aj} (E : Ext τ σ) (h : RAj τ t) : RAj σ t := h.wk E.wk
theorem aj_lookup {g : Int} : ∀ {vals : List (Int × Vl)}, (vals.map ajV).lookup g = (vals.lookup g).map Vl.v
  | [] => rfl
  | (a, b) :: r => by
    rw [List.map_cons, ajV, List.lookup_cons, List.lookup_cons]
    cases g == a
    · exact aj_lookup
    · rfl
theorem lookup_mem {β : Type} {g : Int} {x : β} : ∀ {l : List (Int × β)}, l.lookup g = some x → (g, x) ∈ l
  | [], h => nomatch h
  | (a, b) :: r, h => by
    rw [List.lookup_cons] at h
    by_cases e : g = a
    · rw [beq_iff_eq.mpr e] at h; cases h; exact e ▸ .head _
    · rw [beq_false_of_ne e] at h; exact .tail _ (lookup_mem h)
noncomputable def adjP (vals : List (Int × Vl)) (rows : List Rw) (i : Nat) : Int × List Rw := match vals.lookup (rowG rows i) with
  | none => (-1, rows)
  | some x => ((i : Int) + 1, moveR rows i x)
section
variable {τ σ σ' σ'' : Sg} {W : Wd} {rows rows' rows'' : List Rw} {n i : Nat} {Q : Po} {P : Sg → Prop} {r : Rw} {U : Lu} {s : Sn} {w : V}
theorem c_add_value (N : Now τ σ W rows) (hi : i < W.k) {x : Vl} (o : RVl τ x) (q : ∀ σ', Stp W σ σ' rows (moveR rows i x) → Q .none σ') : callSem (n + 1) 648 [.ref (W.A i), .ref x.a, w] σ Q := by
  obtain ⟨r, hr⟩ := N.row hi
  rw [moveR_at hr] at q
  refine call fn_add_value rfl rfl (g_ (N.3.1 i r hr) rfl (g_ (N.2.ob o) rfl (b_add (N.set hr { r with xo := r.xo + x.xo } rfl rfl rfl rfl fun σ1 T1 => ?_))))
  have N1 := N.go T1
  have h1 := set_at (r' := { r with xo := r.xo + x.xo }) hr
  refine g_ (N1.3.1 i _ h1) rfl (g_ (N1.2.ob o) rfl (b_add (N1.set h1 { r with xo := r.xo + x.xo, yo := r.yo + x.yo } rfl rfl rfl rfl fun σ2 T2 => ?_)))
  rw [List.set_set] at T2
  have N2 := N1.go T2
  have h2 := set_at (r' := { r with xo := r.xo + x.xo, yo := r.yo + x.yo }) hr
  refine g_ (N2.3.1 i _ h2) rfl (g_ (N2.2.ob o) rfl (b_add (N2.set h2 (mvd r x) rfl rfl rfl rfl fun σ3 T3 => ?_)))
  rw [List.set_set] at T3
  exact q σ3 ((T1.trans T2).trans T3)
theorem c_apply_adjust (N : Now τ σ W rows) (C : Ob τ s.s s.d 65 (snFs W U.l s)) {t : Aj} (ht : RAj τ t) (hi : i < W.k) (q : ∀ σ', Stp W σ σ' rows (adjP t.vals rows i).2 → Q (.int (adjP t.vals rows i).1) σ') : callSem (n + 2) 681 [.ref s.s, .ref t.a, .int i] σ Q := by
  obtain ⟨r, hr⟩ := N.row hi
  have B := N.base
  have C := N.2.ob C
  have hD := N.2 _ _ ht.2
  refine call fn_apply_adjust rfl rfl (g_ C rfl (g_ B.1 rfl (u_l B.2 (rowIdx hi B.6) (g_ (N.2.ob ht.1) rfl (m_get hD (g_ (N.3.1 i r hr) rfl (t_get hD ?_)))))))
  rw [adjP, rowG_at hr] at q
  rw [aj_lookup]
  cases e : t.vals.lookup r.g with
  | none =>
    rw [e] at q
    exact k_isT (.t rfl (q σ (N.same (.refl σ))))
  | some x =>
    rw [e] at q
    exact k_isF (.f rfl (g_ C rfl (g_ B.1 rfl (c_add_value N hi (ht.3 _ (lookup_mem e)) fun σ1 T => b_add (q σ1 T)))))
end
inductive Tp where
  | gl0 (a d D : Addr) (k : Nat) (sec : Bool)
  | gl (a d D : Addr) (k : Nat) (sec : Bool) (ps : List ((Int × Int) × Addr × Pv))
  | cl (a d : Addr) (cov : Cov) (f1 f2 : Cd) (R : Addr) (sec : Bool) (rows : List (Addr × List Pv))
noncomputable def Tp.v : Tp → V
  | .gl0 a .. | .gl a .. | .cl a .. => .ref a
noncomputable def Tp.sec : Tp → Bool
  | .gl0 _ _ _ _ s | .gl _ _ _ _ s _ | .cl _ _ _ _ _ _ s _ => s
noncomputable def pget : List ((Int × Int) × Addr × Pv) → Int × Int → Option Pv
  | [], _ => none
  | (k', _, v) :: r, k => if k' = k then some v else pget r k
noncomputable def pairF : Tp → Int → Int → Option Pv
  | .gl0 .., _, _ => none
  | .gl _ _ _ _ _ ps, g, h => pget ps (g, h)
  | .cl _ _ cov f1 f2 _ _ rows, g, h => bif cov.gs.contains g then (rows[(getI f1.es g).toNat]?).bind fun r => r.2[(getI f2.es h).toNat]? else none
noncomputable def glV (e : (Int × Int) × Addr × Pv) : (Int × Int) × Addr × V := (e.1, e.2.1, .ref e.2.2.t)
noncomputable def rwV (e : Addr × List Pv) : V := .ref e.1
noncomputable def glFs (D : Addr) (sec : Bool) : List (String × V) := [("pairs", .ref D), ("is_second", .bool sec)]
noncomputable def clFs (cov : Cov) (f1 f2 : Cd) (R : Addr) (sec : Bool) : List (String × V) := [("coverage", .ref cov.a), ("firsts", .ref f1.a), ("seconds", .ref f2.a), ("rows", .ref R), ("is_second", .bool sec)]
inductive RRw (τ : Sg) (e : Addr × List Pv) : Prop
  | mk (h : τ e.1 = some (.tup (e.2.map Pv.v))) (p : ∀ x ∈ e.2, RPv τ x) (l : e.2.length = 3)
inductive RGl (τ : Sg) (e : (Int × Int) × Addr × Pv) : Prop
  | mk (h : τ e.2.1 = some (.tup [.int e.1.1, .int e.1.2])) (p : RPv τ e.2.2)
inductive RG (τ : Sg) (a d D : Addr) (k : Nat) (sec : Bool) (ps : List ((Int × Int) × Addr × Pv)) : Prop
  | mk (o : Ob τ a d 723 (glFs D sec)) (h : τ D = some (.tdict k (ps.map glV))) (p : ∀ e ∈ ps, RGl τ e) (l : ps.length ≤ 100) (g : ∀ e ∈ ps, 0 ≤ e.1.1 ∧ e.1.1 < 6)
inductive RCl (τ : Sg) (a d : Addr) (cov : Cov) (f1 f2 : Cd) (R : Addr) (sec : Bool) (rows : List (Addr × List Pv)) : Prop
  | mk (o : Ob τ a d 755 (clFs cov f1 f2 R sec)) (c : RCov τ cov) (h1 : RCd τ f1) (h2 : RCd τ f2) (h : τ R = some (.tup (rows.map rwV))) (r : ∀ e ∈ rows, RRw τ e) (l : rows.length = 2) (k1 : ∀ g, 0 ≤ getI f1.es g ∧ getI f1.es g < 2) (k2 : ∀ g, 0 ≤ getI f2.es g ∧ getI f2.es g < 3)
      (kc : ∀ g ∈ cov.gs, 0 ≤ g ∧ g < 6)
noncomputable def RTp (τ : Sg) : Tp → Prop
  | .gl0 a d D k sec => Both (Ob τ a d 723 (glFs D sec)) (τ D = some (.dict k []))
  | .gl a d D k sec ps => RG τ a d D k sec ps
  | .cl a d cov f1 f2 R sec rows => RCl τ a d cov f1 f2 R sec rows
theorem RRw.wk {τ σ : Sg} {e : Addr × List Pv} (E : Wk τ σ) (h : RRw τ e) : RRw σ e := ⟨E.1 _ _ rfl h.1, fun x k => (h.2 x k).wk E, h.3⟩
theorem RRw.ext {τ σ : Sg} {e : Addr × List Pv} (E : Ext τ σ) (h : RRw τ e) : RRw σ e := h.wk E.wk
theorem RGl.wk {τ σ : Sg} {e : (Int × Int) × Addr × Pv} (E : Wk τ σ) (h : RGl τ e) : RGl σ e := ⟨E.1 _ _ rfl h.1, h.2.wk E⟩
theorem RGl.ext {τ σ : Sg} {e : (Int × Int) × Addr × Pv} (E : Ext τ σ) (h : RGl τ e) : RGl σ e := h.wk E.wk
theorem RTp.wk {τ σ : Sg} (E : Wk τ σ) : ∀ {t : Tp}, RTp τ t → RTp σ t
  | .gl0 .., h => ⟨E.2 _ _ _ _ rfl h.1, E.1 _ _ rfl h.2⟩
  | .gl .., h => ⟨E.2 _ _ _ _ rfl h.1, E.1 _ _ rfl h.2, fun e k => (h.3 e k).wk E, h.4, h.5⟩
  | .cl .., h => ⟨E.2 _ _ _ _ rfl h.1, h.2.wk E, h.3.wk E, h.4.wk E, E.1 _ _ rfl h.5, fun e k => (h.6 e k).wk E, h.7, h.8, h.9, h.10⟩
theorem RTp.ext {τ σ : Sg} (E : Ext τ σ) {t : Tp} (h : RTp τ t) : RTp σ t := RTp.wk E.wk h
theorem gl_get {k : Int × Int} : ∀ {ps : List ((Int × Int) × Addr × Pv)}, tget (ps.map glV) k = (pget ps k).map Pv.v
  | [] => rfl
  | (a, b, c) :: r => by
    rw [List.map_cons, glV, tget, pget]
    by_cases e : a = k
    · rw [if_pos e, if_pos e]; rfl
    · rw [if_neg e, if_neg e]; exact gl_get
theorem pget_mem {k : Int × Int} {x : Pv} : ∀ {ps : List ((Int × Int) × Addr × Pv)}, pget ps k = some x → ∃ a, (k, a, x) ∈ ps
  | [], h => nomatch h
  | (a, b, c) :: r, h => by
    rw [pget] at h
    split at h
    · rename_i e; cases h; exact ⟨b, e ▸ .head _⟩
    · let ⟨a, m⟩ := pget_mem h; exact ⟨a, .tail _ m⟩
noncomputable def pvV : Option Pv → V
  | none => .none
  | some x => .ref x.t
theorem pvV_map {o : Option Pv} : (o.map Pv.v).getD .none = pvV o := by cases o <;> rfl
theorem cl_at {rows : List (Addr × List Pv)} {σ : Sg} {a b : Int} (hr : ∀ e ∈ rows, RRw σ e) (hl : rows.length = 2) (ha : 0 ≤ a ∧ a < 2) (hb : 0 ≤ b ∧ b < 3) :
    ∃ e x, rows[a.toNat]? = some e ∧ e ∈ rows ∧ e.2[b.toNat]? = some x ∧ x ∈ e.2 ∧ Idx (rows.map rwV) a (.ref e.1) ∧ Idx (e.2.map Pv.v) b (.ref x.t) := by
  have h1 : a.toNat < rows.length := by rw [hl]; exact (Int.toNat_lt ha.1).mpr ha.2
  have e1 := List.getElem?_eq_getElem h1
  have m1 := List.mem_of_getElem? e1
  generalize rows[a.toNat] = e at e1 m1
  have h2 : b.toNat < e.2.length := by rw [(hr e m1).3]; exact (Int.toNat_lt hb.1).mpr hb.2
  have e2 := List.getElem?_eq_getElem h2
  have m2 := List.mem_of_getElem? e2
  generalize e.2[b.toNat] = x at e2 m2
  exact ⟨e, x, e1, m1, e2, m2, .pos ha.1 (Int.lt_trans ha.2 (by decide)) (by rw [List.getElem?_map, e1]; rfl), .pos hb.1 (Int.lt_trans hb.2 (by decide)) (by rw [List.getElem?_map, e2]; rfl)⟩
section
variable {σ : Sg} {n : Nat} {Q : Po} {g1 g2 : Int}
theorem pair_in {x : Pv} : ∀ {t : Tp}, RTp σ t → pairF t g1 g2 = some x → RPv σ x
  | .gl .., h, e => let ⟨_, m⟩ := pget_mem e; (h.3 _ m).2
  | .cl a d cov f1 f2 R sec rows, h, e => by
    rw [pairF] at e
    cases c : cov.gs.contains g1 <;> rw [c] at e
    · cases e
    · obtain ⟨r, y, e1, m1, e2, m2, -, -⟩ := cl_at h.6 h.7 (h.8 g1) (h.9 g2)
      rw [cond_true, e1, Option.bind_some, e2] at e
      exact Option.some.inj e ▸ (h.6 r m1).2 y m2
theorem meth_find {A : Lo → Sg → Prop} (hA : ∀ {L : Lo}, L [.int g1, .int g2] σ → A L σ) : ∀ {t : Tp}, RTp σ t → (∀ σ', Ext σ σ' → Q (pvV (pairF t g1 g2)) σ') → MethK (callSem (n + 3)) "find" A Q t.v σ
  | .gl0 .., h, q => m_ h.1 rfl (hA (call fn_PairGlyphs_find rfl rfl (g_ h.1 rfl (m_get h.2 (new_ fun l σ1 E1 hl _ => .none rfl rfl (E1 _ _ h.2) hl (q σ1 E1))))))
  | .gl a d D k sec ps, h, q => m_ h.1 rfl (hA (call fn_PairGlyphs_find rfl rfl (g_ h.1 rfl (m_tget h.2 (new_ fun l σ1 E1 hl _ => .tget rfl rfl (E1 _ _ h.2) hl (by rw [gl_get, pvV_map]; exact q σ1 E1))))))
  | .cl a d cov f1 f2 R sec rows, h, q => by
    refine m_ h.1 rfl (hA (callm fn_PairClasses_find [some _, some (.int g1), some (.int g2), none, none] rfl rfl rfl (g_ h.1 rfl (m_ h.2.1 rfl (c_has h.2 (kN (fun e => ?_) fun e => ?_))))))
    · rw [pairF, e] at q
      exact q σ (.refl σ)
    · obtain ⟨r, x, e1, m1, e2, m2, i1, i2⟩ := cl_at h.6 h.7 (h.8 g1) (h.9 g2)
      have hr := h.6 r m1
      rw [pairF, e, cond_true, e1, Option.bind_some, e2] at q
      refine g_ h.1 rfl (m_ h.3.1 rfl (c_class_of h.3 (g_ h.1 rfl (m_ h.4.1 rfl (c_class_of h.4 (g_ h.1 rfl (len_t h.5 (by rw [List.length_map, h.7]; decide) (k_ge (.f ?_ (g_ h.1 rfl (u_t h.5 i1 (len_t hr.1 (by rw [List.length_map, hr.3]; decide) (k_ge (.f ?_ (g_ h.1 rfl (u_t h.5 i1 (u_t hr.1 i2 (q σ (.refl σ)))))))))))))))))))
      · rw [List.length_map, h.7]; exact decide_eq_false (Int.not_le.mpr (h.8 g1).2)
      · rw [List.length_map, hr.3]; exact decide_eq_false (Int.not_le.mpr (h.9 g2).2)
theorem has_second : ∀ {t : Tp}, RTp σ t → Q (.bool t.sec) σ → callSem (n + 1) 766 [t.v] σ Q
  | .gl0 .., h, q => call fn_has_second rfl rfl (g_ h.1 rfl q)
  | .gl .., h, q => call fn_has_second rfl rfl (g_ h.1 rfl q)
  | .cl .., h, q => call fn_has_second rfl rfl (g_ h.1 rfl q)
end
noncomputable def prQ (t : Tp) (rows : List Rw) (i j : Nat) : Int × List Rw := match pairF t (rowG rows i) (rowG rows j) with
  | none => (-1, rows)
  | some x => (if t.sec then (j : Int) + 1 else j, moveR (moveR (hangR rows i (j + 1)) i x.v1) j x.v2)
noncomputable def prP (mk : Int → Bool) (f : Int) (t : Tp) (rows : List Rw) (i : Nat) : Int × List Rw :=
  if bes (psd mk f rows) rows.length 1 10 ((i : Int) + 1) < 0 then (-1, rows) else prQ t rows i (bes (psd mk f rows) rows.length 1 10 ((i : Int) + 1)).toNat
theorem bes_ge {p : Nat → Bool} {k : Nat} : ∀ {j : Nat} {h : Int}, 0 ≤ bes p k 1 j h → h ≤ bes p k 1 j h
  | 0, _, q => absurd q (show ¬ (0 ≤ (-1 : Int)) by decide)
  | j + 1, h, q => by
    rw [bes] at q ⊢
    split at q
    · rename_i c
      rw [if_pos c]
      cases e : p h.toNat <;> rw [e] at q
      · exact Int.le_refl _
      · exact Int.le_trans (Int.le_add_one (Int.le_refl h)) (bes_ge q)
    · exact absurd q (by decide)
theorem bes_next {p : Nat → Bool} {k i : Nat} : bes p k 1 10 ((i : Int) + 1) = -1 ∨ ∃ j : Nat, bes p k 1 10 ((i : Int) + 1) = j ∧ j < k ∧ i < j := by
  rcases bes_val (p := p) (k := k) (s := 1) (j := 10) (h := (i : Int) + 1) with e | ⟨j, e, hj, -⟩
  · exact .inl e
  · have := bes_ge (p := p) (k := k) (j := 10) (h := (i : Int) + 1) (by rw [e]; exact Int.natCast_nonneg j)
    rw [e] at this
    exact .inr ⟨j, e, hj, Int.ofNat_lt.mp this⟩
section
variable {τ σ σ' : Sg} {W : Wd} {rows : List Rw} {n i : Nat} {Q : Po} {U : Lu} {s : Sn}
theorem c_apply_pair (N : Now τ σ W rows) (L : RLu τ U) (C : Ob τ s.s s.d 65 (snFs W U.l s)) (hm : 0 ≤ s.mask) {t : Tp} (ht : RTp τ t) (hi : i < W.k) (q : ∀ σ', Stp W σ σ' rows (prP W.mb U.f t rows i).2 → Q (.int (prP W.mb U.f t rows i).1) σ') :
    callSem (n + 7) 773 [.ref s.s, t.v, .int i] σ Q := by
  have hk := N.base.6
  refine callm fn_apply_pair [some _, some _, some (.int i), none, none, none] rfl rfl rfl (c_next (N.sc L C hm) (.inl ⟨rfl, by lia⟩) fun σ1 E1 => ?_)
  have N1 := N.grow E1
  unfold prP at q
  rcases bes_next (p := psd W.mb U.f rows) (k := rows.length) (i := i) with e | ⟨j, e, hj, hij⟩
  · rw [e] at q ⊢
    exact k_lt (.t rfl (q σ1 (N.same E1)))
  · rw [e, if_neg (Int.not_lt.mpr (Int.natCast_nonneg j)), Int.toNat_natCast] at q
    rw [e]
    rw [N.5] at hj
    obtain ⟨ri, hri⟩ := N.row hi
    obtain ⟨rj, hrj⟩ := N.row hj
    have B := N1.base
    have row := B.2
    have gi := N1.3.1 i ri hri
    have gj := N1.3.1 j rj hrj
    rw [prQ, rowG_at hri, rowG_at hrj] at q
    refine k_lt (.f (decide_eq_false (Int.not_lt.mpr (Int.natCast_nonneg j))) (g_ (N1.2.ob C) rfl (g_ B.1 rfl (meth_find (g1 := ri.g) (g2 := rj.g) ?_ (ht.ext N1.2) fun σ2 E2 => ?_))))
    · exact fun {L} h => u_l row (rowIdx hi hk) (g_ gi rfl (u_l row (rowIdx hj hk) (g_ gj rfl h)))
    have N2 := N1.grow E2
    cases e2 : pairF t ri.g rj.g with
    | none =>
      rw [e2] at q
      exact k_isT (.t rfl (q σ2 (N.same (E1.trans E2))))
    | some x =>
      rw [e2] at q
      have hx := pair_in ht e2
      refine k_isF (.f rfl (g_ (N2.2.ob C) rfl (b_add (c_hang N2 (Nat.le_of_lt hij) hj fun σ3 T3 => ?_))))
      have N3 := N2.go T3
      have C3 := N3.2.ob C
      have B3 := N3.base
      refine u_l B3.2 (rowIdx hi hk) (u_t (N3.2 _ _ hx.1) i0 (g_ C3 rfl (g_ B3.1 rfl (c_add_value N3 hi hx.2 fun σ4 T4 => ?_))))
      have N4 := N3.go T4
      have B4 := N4.base
      refine u_l B4.2 (rowIdx hj hk) (u_t (N4.2 _ _ hx.1) i1 (g_ (N4.2.ob C) rfl (g_ B4.1 rfl (c_add_value N4 hj hx.3 fun σ5 T5 => has_second (ht.ext (N4.go T5).2) ?_))))
      have q := q σ5 (.after (E1.trans E2) ((T3.trans T4).trans T5))
      cases e : t.sec <;> rw [e] at q
      · exact .f rfl q
      · exact .t rfl (b_add q)
end
end Mine
end
section
open PySem
namespace Mine
-- Q9
inductive Ini (σ0 σ : Sg) (x d c : Addr) (fs : List (String × V)) : Prop
  | mk (E : Ext σ0 σ) (o : Ob σ x d c fs) (x0 : σ0 x = none) (d0 : σ0 d = none)
section
variable {K : Kall} {σ0 σ σ' : Sg} {nm : String} {v : V} {x c d i : Addr} {fs : List (String × V)} {Q : Po} {P : Sg → Prop} {vs : List V} {n : Nat}
theorem ini_ (I : Ini σ0 σ x d c fs) (hf : fieldOk c nm = true) (hl : Nat.ble fs.length 40 = true) (hv : notB v = true) (q : ∀ σ', Ini σ0 σ' x d c (fput fs nm v) → P σ') : SetK nm P v (.ref x) σ :=
  .mk rfl I.2.1 I.2.2 hf (Nat.le_of_ble_eq_true hl) hv (q _ ⟨I.1.put I.4, ⟨(up_ne fun e => nomatch (e ▸ I.2.1).symm.trans I.2.2).trans I.2.1, up_self _ _ _⟩, I.3, I.4⟩)
theorem cls_ (h : ∀ x d σ', Ini σ σ' x d c [] → K i (.ref x :: vs) σ' fun r σ' => r = .none ∧ Q (.ref x) σ') : ClsK K c i Q vs σ :=
  ⟨fun x d hx hd n => h x d _ ⟨((Ext.refl σ).new hd).new ((up_ne n).trans hx), ⟨up_self _ _ _, (up_ne n.symm).trans (up_self _ _ _)⟩, hx, hd⟩⟩
theorem new_scene {W : Wd} {l : Addr} {mask : Int} (q : ∀ σ' s, Ini σ σ' s.s s.d 65 (snFs W l s) → s.mask = mask → s.depth = 1 → Q (.ref s.s) σ') : ClsK (callSem (n + 1)) 65 62 Q [.ref W.buf, .ref W.gd, .ref W.lks, .ref l, .int mask, .int 1] σ :=
  cls_ fun x d σ1 I => call fn_Scene_init rfl rfl (ini_ I rfl rfl rfl fun σ2 I => ini_ I rfl rfl rfl fun σ3 I => ini_ I rfl rfl rfl fun σ4 I => ini_ I rfl rfl rfl fun σ5 I => ini_ I rfl rfl rfl fun σ6 I => ini_ I rfl rfl rfl fun σ7 I => ⟨rfl, q σ7 ⟨x, d, mask, 1⟩ I rfl rfl⟩)
theorem new_scene0 {W : Wd} {l : Addr} {mask : Int} (q : ∀ σ' s, Ini σ σ' s.s s.d 65 (snFs W l s) → s.mask = mask → s.depth = 0 → Q (.ref s.s) σ') : ClsK (callSem (n + 1)) 65 62 Q [.ref W.buf, .ref W.gd, .ref W.lks, .ref l, .int mask] σ :=
  cls_ fun x d σ1 I => call fn_Scene_init rfl rfl (ini_ I rfl rfl rfl fun σ2 I => ini_ I rfl rfl rfl fun σ3 I => ini_ I rfl rfl rfl fun σ4 I => ini_ I rfl rfl rfl fun σ5 I => ini_ I rfl rfl rfl fun σ6 I => ini_ I rfl rfl rfl fun σ7 I => ⟨rfl, q σ7 ⟨x, d, mask, 0⟩ I rfl rfl⟩)
noncomputable def plFs (pl : Addr) (e : Int) : List (String × V) := [("row", .ref pl), ("end", .int e)]
theorem new_places {pl : Addr} {e : Int} (q : ∀ σ' x d, Ini σ σ' x d 550 (plFs pl e) → Q (.ref x) σ') : ClsK (callSem (n + 1)) 550 547 Q [.ref pl, .int e] σ :=
  cls_ fun x d σ1 I => call fn_Places_init rfl rfl (ini_ I rfl rfl rfl fun σ2 I => ini_ I rfl rfl rfl fun σ3 I => ⟨rfl, q σ3 x d I⟩)
end
noncomputable def cut (D : Nat → Addr) (k : Nat) (σ : Sg) : Sg := fun a => bif (List.range k).any (fun i => decide (D i = a)) then none else σ a
section
variable {τ σ σ' : Sg} {D : Nat → Addr} {k : Nat} {W : Wd} {rows : List Rw}
theorem cut_no {i : Nat} (h : i < k) : cut D k σ (D i) = none := by
  rw [cut, List.any_eq_true.mpr ⟨i, List.mem_range.mpr h, decide_eq_true rfl⟩]; rfl
theorem cut_ne {a : Addr} (h : ∀ i, i < k → a ≠ D i) : cut D k σ a = σ a := by
  have : (List.range k).any (fun i => decide (D i = a)) = false := Bool.eq_false_iff.mpr fun q => let ⟨i, h1, h2⟩ := List.any_eq_true.mp q; h i (List.mem_range.mp h1) (of_decide_eq_true h2).symm
  rw [cut, this]; rfl
theorem cut_ext : Ext (cut D k σ) σ := fun a c e => by
  unfold cut at e
  cases h : (List.range k).any (fun i => decide (D i = a)) <;> rw [h] at e
  · exact e
  · cases e
theorem cut_of (E : Ext τ σ) (hD : ∀ i, i < k → τ (D i) = none) : Ext τ (cut D k σ) := fun a c e => (cut_ne fun i hi => ne_of e (hD i hi)).trans (E a c e)
theorem Now.cut (N : Now τ σ W rows) : Now (cut W.D W.k σ) σ W rows := ⟨⟨N.1.1.ext (cut_of N.2 N.1.2), fun _ hi => cut_no hi, N.1.3⟩, cut_ext, N.3, N.4, N.5⟩
theorem Now.ec (N : Now τ σ W rows) : Ext τ (Mine.cut W.D W.k σ) := cut_of N.2 N.1.2
theorem Now.wk (N : Now τ σ W rows) : Wk σ (Mine.cut W.D W.k σ) := by
  have ns : ∀ {a c}, notNs c = true → σ a = some c → Mine.cut W.D W.k σ a = some c := fun {a c} hc h => (cut_ne fun i hi e => by
    obtain ⟨r, hr⟩ := N.row hi
    have := Option.some.inj ((e ▸ h).symm.trans (N.3.1 i r hr).2)
    rw [this] at hc; cases hc).trans h
  refine ⟨fun a c => ns, fun a d c fs hc h => ⟨ns rfl h.1, (cut_ne fun i hi e => ?_).trans h.2⟩⟩
  obtain ⟨r, hr⟩ := N.row hi
  have h2 := (e ▸ h.2).symm.trans (N.3.1 i r hr).2
  injection h2 with h2
  injection h2 with h2
  have h3 := (h2 ▸ h.1).symm.trans (N.3.1 i r hr).1
  injection h3 with h3
  injection h3 with h3
  rw [h3] at hc; cases hc
end
structure Lw where
  U0 : Lu
  U1 : Lu
  U2 : Lu
  adj : List Aj
  pairs : List Tp
  cxs : List Cx3
noncomputable def Cx3.v (t : Cx3) : V := .ref t.a
noncomputable def AcOk (a : Ac) : Prop := 0 ≤ a.i ∧ a.i < 3 ∧ (a.n = 0 ∨ a.n = 1)
inductive RLw (τ : Sg) (lks : Addr) (L : Lw) : Prop
  | mk (h : τ lks = some (.list [.ref L.U0.l, .ref L.U1.l, .ref L.U2.l])) (u0 : RLu τ L.U0) (u1 : RLu τ L.U1) (u2 : RLu τ L.U2) (k0 : L.U0.kind = "adjust") (k1 : L.U1.kind = "pair") (k2 : L.U2.kind = "context" ∨ L.U2.kind = "chain")
    (t0 : L.U0.tabs = L.adj.map Aj.v) (t1 : L.U1.tabs = L.pairs.map Tp.v) (t2 : L.U2.tabs = L.cxs.map Cx3.v) (a : ∀ t ∈ L.adj, RAj τ t) (p : ∀ t ∈ L.pairs, RTp τ t) (c : ∀ t ∈ L.cxs, RCx τ t) (acts : ∀ t ∈ L.cxs, ∀ e ∈ t.sets, ∀ r ∈ e.2.2, ∀ a ∈ r.acts, AcOk a)
theorem RLw.wk {τ σ : Sg} {lks : Addr} {L : Lw} (E : Wk τ σ) (h : RLw τ lks L) : RLw σ lks L := ⟨E.1 _ _ rfl h.1, h.2.wk E, h.3.wk E, h.4.wk E, h.5, h.6, h.7, h.8, h.9, h.10, fun t k => (h.11 t k).wk E, fun t k => (h.12 t k).wk E, fun t k => (h.13 t k).wk E, h.14⟩
theorem RLw.ext {τ σ : Sg} {lks : Addr} {L : Lw} (E : Ext τ σ) (h : RLw τ lks L) : RLw σ lks L := h.wk E.wk
noncomputable def firstP {α : Type} (F : α → List Rw → Nat → Int × List Rw) : List α → List Rw → Nat → Int × List Rw
  | [], rows, _ => (-1, rows)
  | t :: ts, rows, i => if 0 ≤ (F t rows i).1 then F t rows i else firstP F ts (F t rows i).2 i
noncomputable def inP (mk : Int → Bool) (L : Lw) (num : Int) (rows : List Rw) (i : Nat) : Int × List Rw :=
  if num = 0 then firstP (fun t => adjP t.vals) L.adj rows i else firstP (prP mk L.U1.f) L.pairs rows i
noncomputable def actP (mk : Int → Bool) (L : Lw) (ps : List Int) (a : Ac) (rows : List Rw) : List Rw := match ps[a.i.toNat]? with
  | some p => (inP mk L a.n rows p.toNat).2
  | none => rows
noncomputable def actsP (mk : Int → Bool) (L : Lw) (ps : List Int) : List Ac → List Rw → List Rw
  | [], rows => rows
  | a :: as, rows => actsP mk L ps as (actP mk L ps a rows)
noncomputable def matR (mk : Int → Bool) (f : Int) (rows : List Rw) (mask : Int) (t : Cx3) (r : Rl) (i : Nat) : Option (List Int × Int × Int) :=
  matP mk f rows mask (r.back.map (tsOf t.form t.c0.es)) ((r.i0 :: r.ins).map (tsOf t.form t.c1.es)) (r.ah.map (tsOf t.form t.c2.es)) i
noncomputable def ctxP (mk : Int → Bool) (L : Lw) (mask : Int) (t : Cx3) : List Rl → List Rw → Nat → Int × List Rw
  | [], rows, _ => (-1, rows)
  | r :: rs, rows, i => match matR mk L.U2.f rows mask t r i with
    | none => ctxP mk L mask t rs rows i
    | some (ps, b, e) => (ps.getLast?.getD 0 + 1, actsP mk L ps r.acts (hangR rows b.toNat (e.toNat + 1)))
noncomputable def cxP (mk : Int → Bool) (L : Lw) (mask : Int) (t : Cx3) (rows : List Rw) (i : Nat) : Int × List Rw := ctxP mk L mask t (rulesF t (rowG rows i)) rows i
noncomputable def apP (mk : Int → Bool) (L : Lw) (mask : Int) (num : Int) (rows : List Rw) (i : Nat) : Int × List Rw :=
  if num = 2 then firstP (cxP mk L mask) L.cxs rows i else inP mk L num rows i
section
variable {τ σ σ' : Sg} {W : Wd} {rows : List Rw} {n i : Nat} {Q : Po} {R : Ps} {U : Lu} {s : Sn} {L : Lw}
theorem pos_loop {α : Type} {f : α → V} {F : α → List Rw → Nat → Int × List Rw} {all : List α} (hU : RLu τ U) (C : Ob τ s.s s.d 65 (snFs W U.l s)) {σ1 : Sg} (h1 : σ1 U.T = some (.list U.tabs))
    (hs : ∀ t σ' rows' (Q : Po), t ∈ all → Now τ σ' W rows' → (∀ σ'', Stp W σ' σ'' rows' (F t rows' i).2 → Q (.int (F t rows' i).1) σ'') → callSem n 780 [.str (Str.ofString U.kind), .ref s.s, f t, .int i] σ' Q) (ts : List α) :
    ∀ {σ : Sg} {rows : List Rw} {x y : Option V}, (∀ t ∈ ts, t ∈ all) → Now τ σ W rows → (∀ m σ', Stp W σ σ' rows (firstP F ts rows i).2 → (0 ≤ (firstP F ts rows i).1 → R (.ret (.int (firstP F ts rows i).1)) m σ') ∧ ((firstP F ts rows i).1 = -1 → R .next m σ')) →
      forL (Same (.ref U.T) σ1) (fun v R m => asg (callSem n) (.one (.loc 2)) (awpSs (callSem n) [.assign (.one (.loc 3)) (.fcall 780 [.attr (.attr (.loc 0) "lookup") "kind", .loc 0, .loc 2, .loc 1]), .ite (.cmp .GtE (.loc 3) (.lit (.int 0))) [.ret (.loc 3)] []] R) m v)
        (ts.map f) R [some (.ref s.s), some (.int i), x, y] σ := by
  induction ts with
  | nil => exact fun {σ rows x y} _ N q => f_nil (same_list h1 (N.2 _ _ hU.2)) ((q _ σ (N.same (.refl σ))).2 rfl)
  | cons t ts ih =>
    refine fun {σ rows x y} ha N q => f_cons (same_list h1 (N.2 _ _ hU.2)) (g_ (N.2.ob C) rfl (g_ (N.2.ob hU.1) rfl (hs t σ rows _ (ha t (.head _)) N fun σ' T => k_ge (kI_ (fun c => ?_) fun c => ih (fun t h => ha t (.tail _ h)) (N.go T) fun m σ'' T' => ?_))))
    · rw [firstP, if_pos c] at q
      exact (q _ σ' T).1 c
    · rw [firstP, if_neg c] at q
      exact q m σ'' (T.trans T')
theorem pos_at {α : Type} {f : α → V} {F : α → List Rw → Nat → Int × List Rw} {ts : List α} (N : Now τ σ W rows) (hU : RLu τ U) (ht : U.tabs = ts.map f) (C : Ob τ s.s s.d 65 (snFs W U.l s))
    (hs : ∀ t σ' rows' (Q : Po), t ∈ ts → Now τ σ' W rows' → (∀ σ'', Stp W σ' σ'' rows' (F t rows' i).2 → Q (.int (F t rows' i).1) σ'') → callSem n 780 [.str (Str.ofString U.kind), .ref s.s, f t, .int i] σ' Q)
    (q : ∀ σ', Stp W σ σ' rows (firstP F ts rows i).2 → Q (.int (firstP F ts rows i).1) σ') : callSem (n + 1) 787 [.ref s.s, .int i] σ Q := by
  refine call fn_position_at rfl rfl (g_ (N.2.ob C) rfl (g_ (N.2.ob hU.1) rfl (.mk (.list rfl (N.2 _ _ hU.2)) ?_)))
  have := pos_loop hU C (N.2 _ _ hU.2) hs ts (R := seqR (awpSs (callSem n) [.ret (.neg (.lit (.int 1)))] (kEnd Q)) (kEnd Q)) (x := none) (y := none) (fun _ h => h) N fun m σ' T => ⟨fun _ => q σ' T, fun e => by have := q σ' T; rw [e] at this; exact this⟩
  rw [← ht] at this
  exact this
theorem c_pos_in (N : Now τ σ W rows) (RL : RLw τ W.lks L) {num : Int} (C : Ob τ s.s s.d 65 (snFs W (if num = 0 then L.U0.l else L.U1.l) s)) (hm : 0 ≤ s.mask) (hi : i < W.k) (q : ∀ σ', Stp W σ σ' rows (inP W.mb L num rows i).2 → Q (.int (inP W.mb L num rows i).1) σ') :
    callSem (n + 9) 787 [.ref s.s, .int i] σ Q := by
  unfold inP at q
  by_cases hz : num = 0
  · rw [if_pos hz] at q C
    exact pos_at N RL.2 RL.8 C (fun t σ' rows' Q k N q => RL.5 ▸ call fn_apply_position rfl rfl (k_eqs rfl (.t rfl (c_apply_adjust N C (RL.11 t k) hi q)))) q
  · rw [if_neg hz] at q C
    exact pos_at N RL.3 RL.9 C (fun t σ' rows' Q k N q => RL.6 ▸ call fn_apply_position rfl rfl (k_eqs rfl (.f rfl (k_eqs rfl (.t rfl (c_apply_pair N RL.3 C hm (RL.12 t k) hi q)))))) q
theorem c_inner (N : Now τ σ W rows) (RL : RLw τ W.lks L) {l : Addr} (C : Ob τ s.s s.d 65 (snFs W l s)) (hd : s.depth = 0) {a : Int} (ha : a = 0 ∨ a = 1) (q : ∀ σ' s', Ini σ σ' s'.s s'.d 65 (snFs W (if a = 0 then L.U0.l else L.U1.l) s') → s'.mask = s.mask → Q (.ref s'.s) σ') :
    callSem (n + 3) 568 [.ref s.s, .int a] σ Q := by
  have hl := N.2 _ _ RL.1
  have C := N.2.ob C
  obtain ⟨ss, sd, sm, dp⟩ := s
  cases hd
  rcases ha with rfl | rfl
  · exact call fn_inner_scene rfl rfl (g_ C rfl (k_ge (.f rfl (call fn_nested_scene rfl rfl (k_le (.t rfl (g_ C rfl (len_l hl (show 3 < 2 ^ 62 by decide) (k_lt (.f rfl (g_ C rfl (g_ C rfl (g_ C rfl (g_ C rfl (u_l hl i0 (g_ C rfl (g_ C rfl (b_add (new_scene fun σ' s' I e _ => q σ' s' I e)))))))))))))))))))
  · exact call fn_inner_scene rfl rfl (g_ C rfl (k_ge (.f rfl (call fn_nested_scene rfl rfl (k_le (.t rfl (g_ C rfl (len_l hl (show 3 < 2 ^ 62 by decide) (k_lt (.f rfl (g_ C rfl (g_ C rfl (g_ C rfl (g_ C rfl (u_l hl i1 (g_ C rfl (g_ C rfl (b_add (new_scene fun σ' s' I e _ => q σ' s' I e)))))))))))))))))))
theorem c_do_action (N : Now τ σ W rows) (RL : RLw τ W.lks L) {l : Addr} (C : Ob τ s.s s.d 65 (snFs W l s)) (hd : s.depth = 0) (hm : 0 ≤ s.mask) {p pd pl : Addr} {e : Int} {ps : List Int} (op : Ob τ p pd 550 (plFs pl e)) (hpl : τ pl = some (.list (ps.map .int))) (hall : ∀ x ∈ ps, 0 ≤ x ∧ x < W.k)
    (hsz : ps.length ≤ 200) {a : Ac} (hv : RAc τ a) (ha : AcOk a) (q : ∀ σ', Stp W σ σ' rows (actP W.mb L ps a rows) → Q (.bool true) σ') : callSem (n + 10) 592 [.ref s.s, .ref p, a.v, .ref 787] σ Q := by
  have B := N.base
  have hlen : (ps.map V.int).length = ps.length := List.length_map _
  have k8 : W.k < 2 ^ 62 := Nat.lt_trans B.6 (by decide)
  refine callm fn_do_action [some _, some _, some _, some _, none, none, none, none, none] rfl rfl rfl (.mk rfl (N.2 _ _ hv) rfl (g_ (N.2.ob op) rfl (len_l (N.2 _ _ hpl) (by rw [hlen]; exact Nat.lt_of_le_of_lt hsz (by decide)) ?_)))
  rw [hlen]
  unfold actP at q
  refine k_ge (kI_ (fun c => .t rfl ?_) fun c => ?_)
  · rw [List.getElem?_eq_none (by have := ha.1; lia)] at q
    exact q σ (N.same (.refl σ))
  · have hx := List.getElem?_eq_getElem (l := ps) (i := a.i.toNat) (by have := ha.1; lia)
    have hmem := hall _ (List.mem_of_getElem? hx)
    generalize ps[a.i.toNat]'_ = x at hx hmem
    obtain ⟨xn, rfl⟩ := Int.eq_ofNat_of_zero_le hmem.1
    have hxk := Int.ofNat_lt.mp hmem.2
    have hxi : Idx (ps.map V.int) a.i (.int xn) := .pos ha.1 (Int.lt_trans ha.2.1 (by decide)) (by rw [List.getElem?_map, hx]; rfl)
    rw [hx] at q
    refine g_ (N.2.ob op) rfl (u_l (N.2 _ _ hpl) hxi (g_ (N.2.ob C) rfl (g_ B.1 rfl (len_l B.2 (by rw [rowLen]; exact k8) ?_))))
    rw [rowLen]
    refine k_ge (.f (decide_eq_false (Int.not_le.mpr hmem.2)) (c_inner N RL C hd ha.2.2 fun σ1 s' I em => k_isF (.f rfl ?_)))
    have N1 := N.grow I.1
    have B1 := N1.base
    refine g_ (N1.2.ob C) rfl (g_ B1.1 rfl (len_l B1.2 (by rw [rowLen]; exact k8) ?_))
    rw [rowLen]
    refine g_ (N1.2.ob op) rfl (u_l (N1.2 _ _ hpl) hxi (.mk rfl rfl (c_pos_in N1.cut (RL.ext N1.ec) (N1.wk.2 _ _ _ _ rfl I.2) (em ▸ hm) hxk fun σ3 T => ?_)))
    have N3 := N1.go T
    have fin := q σ3 (.after I.1 T)
    refine k_lt (kI_ (fun _ => fin) fun _ => ?_)
    have B3 := N3.base
    refine g_ (N3.2.ob C) rfl (g_ B3.1 rfl (len_l B3.2 (by rw [rowLen]; exact k8) ?_))
    rw [rowLen]
    refine b_sub ?_
    rw [Int.sub_self]
    exact k_gt (.f rfl (.f rfl (k_nei (.f rfl fin))))
theorem acts_loop (RL : RLw τ W.lks L) {l : Addr} (C : Ob τ s.s s.d 65 (snFs W l s)) (hd : s.depth = 0) (hm : 0 ≤ s.mask) {p pd pl : Addr} {e : Int} {ps : List Int} (op : Ob τ p pd 550 (plFs pl e)) (hpl : τ pl = some (.list (ps.map .int))) (hall : ∀ x ∈ ps, 0 ≤ x ∧ x < W.k) (hsz : ps.length ≤ 200)
    {at_ : Addr} {cv : List V} (hat : τ at_ = some (.tup cv)) {σ1 : Sg} (h1 : σ1 at_ = some (.tup cv)) (as : List Ac) : ∀ {σ : Sg} {rows : List Rw} {x : Option V}, (∀ a ∈ as, RAc τ a ∧ AcOk a) → Now τ σ W rows → (∀ σ' x, Stp W σ σ' rows (actsP W.mb L ps as rows) → R .next [some (.ref s.s), some (.ref p), some (.ref at_), some (.ref 787), x] σ') →
      forL (Same (.ref at_) σ1) (fun v R m => asg (callSem (n + 10)) (.one (.loc 4)) (awpSs (callSem (n + 10)) [.ite (.not (.fcall 592 [(.loc 0), (.loc 1), (.loc 4), (.loc 3)])) [.ret (.attr (.loc 1) "end")] []] R) m v)
        (as.map Ac.v) R [some (.ref s.s), some (.ref p), some (.ref at_), some (.ref 787), x] σ := by
  induction as with
  | nil => exact fun {σ rows x} _ N q => f_nil (same_tup h1 (N.2 _ _ hat)) (q σ x (N.same (.refl σ)))
  | cons a as ih => exact fun {σ rows x} ha N q => f_cons (same_tup h1 (N.2 _ _ hat)) (c_do_action N RL C hd hm op hpl hall hsz (ha a (.head _)).1 (ha a (.head _)).2 fun σ' T => .f rfl (ih (fun a h => ha a (.tail _ h)) (N.go T) fun σ'' x T' => q σ'' x (T.trans T')))
theorem c_do_actions (N : Now τ σ W rows) (RL : RLw τ W.lks L) {l : Addr} (C : Ob τ s.s s.d 65 (snFs W l s)) (hd : s.depth = 0) (hm : 0 ≤ s.mask) {p pd pl : Addr} {e : Int} {ps : List Int} (op : Ob τ p pd 550 (plFs pl e)) (hpl : τ pl = some (.list (ps.map .int))) (hall : ∀ x ∈ ps, 0 ≤ x ∧ x < W.k) (hsz : ps.length ≤ 200)
    {at_ : Addr} {as : List Ac} (hat : τ at_ = some (.tup (as.map Ac.v))) (ha : ∀ a ∈ as, RAc τ a ∧ AcOk a) (q : ∀ σ', Stp W σ σ' rows (actsP W.mb L ps as rows) → Q (.int e) σ') : callSem (n + 11) 599 [.ref s.s, .ref p, .ref at_, .ref 787] σ Q :=
  call fn_do_actions rfl rfl (.mk (.tup rfl (N.2 _ _ hat)) (acts_loop RL C hd hm op hpl hall hsz hat (N.2 _ _ hat) as ha N fun σ' x T => g_ ((N.go T).2.ob op) rfl (q σ' T)))
end
end Mine
end
section
open PySem
namespace Mine
-- Q10
theorem bes_le {p : Nat → Bool} {k : Nat} : ∀ {j : Nat} {h : Int}, bes p k (-1) j h = -1 ∨ bes p k (-1) j h ≤ h
  | 0, _ => .inl rfl
  | j + 1, h => by
    rw [bes]
    split
    · cases p h.toNat
      · exact .inr (Int.le_refl _)
      · exact bes_le.imp id fun q => Int.le_trans q (Int.sub_le_self h (by decide))
    · exact .inl rfl
theorem fndB_or {ok : Nat → Bool} {b : Int} : fndB ok b = -1 ∨ (fndB ok b = b ∧ 0 ≤ b) := by
  unfold fndB
  split
  · exact .inl rfl
  · rename_i h
    cases ok b.toNat
    · exact .inl rfl
    · exact .inr ⟨rfl, Int.not_lt.mp h⟩
theorem fnd_dn {p ok : Nat → Bool} {k j : Nat} {h : Int} : fnd p ok k (-1) j h = -1 ∨ fnd p ok k (-1) j h ≤ h :=
  (fndB_or (ok := ok) (b := bes p k (-1) j h)).elim .inl fun q => bes_le.elim (fun e => absurd q.2 (by rw [e]; decide)) fun l => .inr (by rw [fnd, q.1]; exact l)
theorem fnd_up {p ok : Nat → Bool} {k j : Nat} {h : Int} : fnd p ok k 1 j h = -1 ∨ h ≤ fnd p ok k 1 j h :=
  (fndB_or (ok := ok) (b := bes p k 1 j h)).imp id fun q => by rw [fnd, q.1]; exact bes_ge q.2
theorem lasts_back {fd : Ts → Int → Int} (h : ∀ t x, fd t x = -1 ∨ fd t x ≤ x) : ∀ {ts : List Ts} {x : Int}, 0 ≤ x → lasts fd (-1) ts x ≤ x
  | [], _, _ => Int.le_refl _
  | t :: ts, x, h0 => by
    rw [lasts]
    split
    · exact Int.le_trans (by decide) h0
    · rename_i c
      exact Int.le_trans (lasts_back h (Int.not_lt.mp c)) ((h t (x + -1)).elim (fun e => absurd (by rw [e]; decide) c) fun l => Int.le_trans l (Int.sub_le_self x (by decide)))
theorem lasts_ahead {fd : Ts → Int → Int} {k : Nat} (h : ∀ t x, fd t x = -1 ∨ x ≤ fd t x) (hk : ∀ t x, fd t x < k) : ∀ {ts : List Ts} {x : Int}, x < k → lasts fd 1 ts x < 0 ∨ (x ≤ lasts fd 1 ts x ∧ lasts fd 1 ts x < k)
  | [], _, h0 => .inr ⟨Int.le_refl _, h0⟩
  | t :: ts, x, h0 => by
    rw [lasts]
    split
    · exact .inl (by decide)
    · rename_i c
      exact (lasts_ahead h hk (hk t _)).imp id fun q => ⟨Int.le_trans ((h t (x + 1)).elim (fun e => absurd (by rw [e]; decide) c) fun l => Int.le_trans (Int.le_add_one (Int.le_refl x)) l) q.1, q.2⟩
theorem inputs_last {fd : Ts → Int → Int} (h : ∀ t x, fd t x = -1 ∨ x ≤ fd t x) : ∀ {ts : List Ts} {last : Int} {acc ps : List Int}, acc.getLast? = some last → inputs fd ts last acc = some ps → (∃ x, ps.getLast? = some x ∧ last ≤ x) ∧ ps.length = acc.length + ts.length
  | [], last, acc, ps, ha, hi => by cases hi; exact ⟨⟨_, ha, Int.le_refl _⟩, rfl⟩
  | t :: ts, last, acc, ps, ha, hi => by
    rw [inputs] at hi
    split at hi
    · cases hi
    · rename_i c
      obtain ⟨⟨x, hx, l⟩, hn⟩ := inputs_last h getLast_snoc hi
      exact ⟨⟨x, hx, Int.le_trans ((h t (last + 1)).elim (fun e => absurd (by rw [e]; decide) c) fun q => Int.le_trans (Int.le_add_one (Int.le_refl last)) q) l⟩, by rw [hn, List.length_append, List.length_cons]; exact Nat.add_right_comm ..⟩
inductive MatAt (k : Nat) (ps : List Int) (b e : Int) (m : Nat) : Prop
  | mk (x : Int) (h : ps.getLast? = some x) (all : ∀ x ∈ ps, 0 ≤ x ∧ x < k) (b0 : 0 ≤ b) (be : b ≤ e) (ek : e < k) (l : ps.length ≤ m + 1)
theorem mat_at {mk : Int → Bool} {f mask : Int} {rows : List Rw} {i : Nat} {bk ins ah : List Ts} (hi : i < rows.length) {ps : List Int} {b e : Int} (h : matP mk f rows mask bk ins ah i = some (ps, b, e)) : MatAt rows.length ps b e ins.length := by
  unfold matP at h
  split at h
  · cases h
  · rename_i ps' hins
    split at h
    · cases h
    · rename_i hb
      split at h
      · cases h
      · rename_i he
        cases h
        obtain ⟨⟨x, hx⟩, hall⟩ := insP_all hi hins
        have hxm := hall x (List.mem_of_getLast? hx)
        rw [hx, Option.getD_some] at he ⊢
        have lo := lasts_back (fd := fdA mk f rows mask (-1)) (ts := bk) (x := (i : Int)) (fun t x => fnd_dn) (Int.natCast_nonneg i)
        have up := (lasts_ahead (fd := fdA mk f rows mask 1) (k := rows.length) (fun t x => fnd_up) (fun t x => fndB_lt bes_lt) (ts := ah) hxm.2).resolve_left he
        have ix : (i : Int) ≤ x ∧ ps.length ≤ ins.length + 1 := by
          unfold insP at hins
          split at hins
          · cases hins
          · rename_i t ts
            cases c : fitsT t (rowG rows i) <;> rw [c] at hins
            · cases hins
            · obtain ⟨⟨y, hy, l⟩, hn⟩ := inputs_last (fd := fdI mk f rows mask) (fun t x => fnd_up) (acc := [(i : Int)]) rfl hins
              rw [hx] at hy
              cases hy
              exact ⟨l, by rw [hn, List.length_cons, Nat.add_comm]; exact Nat.le_succ _⟩
        exact ⟨x, hx, hall, Int.not_lt.mp hb, Int.le_trans (Int.le_trans lo ix.1) up.1, up.2, ix.2⟩
section
variable {τ σ σ' : Sg} {W : Wd} {rows : List Rw} {n i : Nat} {Q : Po} {R : Ps} {U : Lu} {s : Sn} {L : Lw} {t : Cx3}
theorem ctx_loop (RL : RLw τ W.lks L) (C : Ob τ s.s s.d 65 (snFs W L.U2.l s)) (hd : s.depth = 0) (hm : 0 ≤ s.mask) (hi : i < W.k) {T : Addr} {tl : List V} (hT : τ T = some (.list tl)) {σ1 : Sg} (h1 : σ1 T = some (.list tl)) (xs : List Rt) :
    ∀ {σ : Sg} {x y : Option V}, (∀ x ∈ xs, RRt τ t x ∧ ∀ a ∈ x.r.acts, AcOk a) → Now τ σ W rows → (∀ m σ', Stp W σ σ' rows (ctxP W.mb L s.mask t (xs.map Rt.r) rows i).2 → (0 ≤ (ctxP W.mb L s.mask t (xs.map Rt.r) rows i).1 → R (.ret (.int (ctxP W.mb L s.mask t (xs.map Rt.r) rows i).1)) m σ') ∧ ((ctxP W.mb L s.mask t (xs.map Rt.r) rows i).1 = -1 → R .next m σ')) →
      forL (Same (.ref T) σ1) (fun v R m => asg (callSem (n + 12)) (.one (.loc 4)) (awpSs (callSem (n + 12)) [.assign (.one (.loc 5)) (.fcall 561 [(.loc 0), (.loc 2), (.loc 4)]),
      .ite (.cmp .IsNot (.loc 5) (.lit .none)) [
        .expr (.fcall 188 [(.attr (.loc 0) "buffer"), (.sub (.loc 5) (.lit (.int (1)))), (.bin .Add (.sub (.loc 5) (.lit (.int (2)))) (.lit (.int (1))))]),
        .ret (.fcall 599 [(.loc 0), (.ccall 550 547 [(.sub (.loc 5) (.lit (.int (0)))), (.bin .Add (.sub (.sub (.loc 5) (.lit (.int (0)))) (.neg (.lit (.int (1))))) (.lit (.int (1))))]), (.sub (.loc 4) (.lit (.int (3)))), (.loc 3)])] []] R) m v)
        (xs.map Rt.v) R [some (.ref s.s), some (.ref t.a), some (.int i), some (.ref 787), x, y] σ := by
  induction xs with
  | nil => exact fun {σ x y} _ N q => f_nil (same_list h1 (N.2 _ _ hT)) ((q _ σ (N.same (.refl σ))).2 rfl)
  | cons x xs ih =>
    refine fun {σ _ _} ha N q => f_cons (same_list h1 (N.2 _ _ hT)) ?_
    obtain ⟨hx, hac⟩ := ha x (.head _)
    have hxσ := hx.ext N.2
    have hti : x.ti.length ≤ 99 := by
      have h := congrArg List.length hx.7.2
      rw [List.length_map, List.length_map, List.length_cons, List.length_cons] at h
      exact Nat.le_trans (Nat.le_of_eq (Nat.succ.inj h)) hx.10
    have em : matP W.mb L.U2.f rows s.mask (x.tb.map Tl.t) ((x.t0 :: x.ti).map Tl.t) (x.ta.map Tl.t) i = matR W.mb L.U2.f rows s.mask t x.r i := by rw [hx.6.2, hx.7.2, hx.8.2]; rfl
    refine c_match (N.sc RL.4 C hm) hi hxσ.1 hxσ.2 hxσ.3 hxσ.4 hxσ.6.1 hxσ.7.1 hxσ.8.1 ?_ (fun σ2 E2 h => k_inT (.f rfl (ih (fun x h => ha x (.tail _ h)) (N.grow E2) fun m σ' T => ?_))) fun σ2 t' pl ps b e E2 h ht' hpl => ?_
    · exact Nat.le_succ_of_le hti
    · rw [List.map_cons, ctxP, ← em, h] at q
      exact q m σ' (.after E2 T)
    · have N2 := N.grow E2
      have hi2 : i < rows.length := by rw [N.5]; exact hi
      rw [List.map_cons, ctxP, ← em, h] at q
      obtain ⟨xl, hxl, hall, b0, be, ek, hpsl⟩ := mat_at hi2 h
      rw [List.length_map, List.length_cons] at hpsl
      rw [N.5] at ek hall
      obtain ⟨b, rfl⟩ := Int.eq_ofNat_of_zero_le b0
      obtain ⟨e, rfl⟩ := Int.eq_ofNat_of_zero_le (Int.le_trans b0 be)
      dsimp only at q
      rw [hxl, Option.getD_some] at q
      refine k_inF (.t rfl (g_ (N2.2.ob C) rfl (u_t ht' i1 (u_t ht' i2 (b_add (c_hang N2 (Int.ofNat_le.mp be) (Int.ofNat_lt.mp ek) fun σ3 T3 => ?_))))))
      have N3 := N2.cut.go T3
      have F : Ext (cut W.D W.k σ2) σ3 := N3.2
      have t3 := F _ _ (N2.wk.1 _ _ rfl ht')
      have p3 := F _ _ (N2.wk.1 _ _ rfl hpl)
      have x3 := (hx.ext N2.ec).ext F
      refine u_t t3 i0 (u_t t3 i0 (u_l p3 (.last (getLast_map hxl)) (b_add (new_places fun σ4 po pd I => u_t (I.1 _ _ x3.1) (.pos (by decide) (by decide) rfl) ?_))))
      have N4 := N3.grow I.1
      have ec := N2.ec.trans N4.ec
      exact c_do_actions N4.cut (RL.ext ec) (ec.ob C) hd hm (N4.wk.2 _ _ _ _ rfl I.2) (N4.wk.1 _ _ rfl (I.1 _ _ p3)) hall (Nat.le_trans hpsl (Nat.le_trans (Nat.add_le_add_right (Nat.succ_le_succ hti) 1) (by decide))) (ec _ _ hx.5) (fun a h => ⟨ec _ _ (hx.9 a h), hac a h⟩) fun σ5 T5 =>
        (q _ σ5 (.after E2 ((T3.then I.1).trans T5))).1 (Int.le_add_one (hall xl (List.mem_of_getLast? hxl)).1)
theorem setL_sub {sets : List (Int × Addr × List Rl)} {g : Int} {r : Rl} (h : r ∈ setL sets g) : ∃ e ∈ sets, r ∈ e.2.2 := by
  unfold setL at h
  split at h
  · rename_i e k; exact ⟨_, lookup_mem k, h⟩
  · cases h
theorem rulesF_sub {g : Int} {r : Rl} (h : r ∈ rulesF t g) : ∃ e ∈ t.sets, r ∈ e.2.2 := by
  have h2 : r ∈ rulesOf t g := by
    unfold rulesF at h
    split at h
    · exact (List.mem_filter.mp h).1
    · exact h
  unfold rulesOf at h2
  split at h2
  · exact setL_sub h2
  · split at h2
    · cases c : t.cov.gs.contains g <;> rw [c] at h2
      · cases h2
      · exact setL_sub h2
    · exact setL_sub h2
theorem c_apply_context (N : Now τ σ W rows) (RL : RLw τ W.lks L) (C : Ob τ s.s s.d 65 (snFs W L.U2.l s)) (hd : s.depth = 0) (hm : 0 ≤ s.mask) (ht : t ∈ L.cxs) (hi : i < W.k) (q : ∀ σ', Stp W σ σ' rows (cxP W.mb L s.mask t rows i).2 → Q (.int (cxP W.mb L s.mask t rows i).1) σ') :
    callSem (n + 13) 606 [.ref s.s, .ref t.a, .int i, .ref 787] σ Q := by
  obtain ⟨r, hr⟩ := N.row hi
  have B := N.base
  rw [cxP, rowG_at hr] at q
  refine callm fn_apply_context [some _, some _, some (.int i), some _, none, none] rfl rfl rfl (g_ (N.2.ob C) rfl (g_ B.1 rfl (u_l B.2 (rowIdx hi B.6) (g_ (N.3.1 i r hr) rfl (c_rules_at ((RL.13 t ht).ext N.2) fun σ1 T xs E1 hT hr hx => .mk (.list rfl hT) ?_)))))
  have N1 := N.grow E1
  rw [← hr] at q
  have mem : ∀ x ∈ xs, ∀ a ∈ x.r.acts, AcOk a := fun x k a h => let ⟨e, h1, h2⟩ := rulesF_sub (hr ▸ List.mem_map_of_mem k : x.r ∈ rulesF t _); RL.14 t ht e h1 x.r h2 a h
  exact ctx_loop (RL.ext N1.ec) (N1.ec.ob C) hd hm hi (N1.wk.1 _ _ rfl hT) hT xs (fun x k => ⟨(hx x k).wk N1.wk, mem x k⟩) N1.cut fun m σ' T => ⟨fun _ => q σ' (.after E1 T), fun e => by have := q σ' (.after E1 T); rw [e] at this; exact this⟩
theorem c_kind_ctx (N : Now τ σ W rows) (RL : RLw τ W.lks L) (C : Ob τ s.s s.d 65 (snFs W L.U2.l s)) (hd : s.depth = 0) (hm : 0 ≤ s.mask) (ht : t ∈ L.cxs) (hi : i < W.k) (q : ∀ σ', Stp W σ σ' rows (cxP W.mb L s.mask t rows i).2 → Q (.int (cxP W.mb L s.mask t rows i).1) σ') :
    callSem (n + 14) 780 [.str (Str.ofString L.U2.kind), .ref s.s, t.v, .int i] σ Q := by
  have fin := c_apply_context (n := n) N RL C hd hm ht hi q
  rcases RL.7 with e | e <;> rw [e] <;> exact call fn_apply_position rfl rfl (k_eqs rfl (.f rfl (k_eqs rfl (.f rfl (k_eqs rfl (.f rfl (k_eqs rfl (.f rfl (k_eqs rfl (.f rfl (k_eqs rfl (.f rfl fin))))))))))))
noncomputable def Lw.u (L : Lw) (num : Int) : Lu := if num = 2 then L.U2 else if num = 0 then L.U0 else L.U1
theorem c_pos (N : Now τ σ W rows) (RL : RLw τ W.lks L) {num : Int} (C : Ob τ s.s s.d 65 (snFs W (L.u num).l s)) (hd : s.depth = 0) (hm : 0 ≤ s.mask) (hi : i < W.k) (q : ∀ σ', Stp W σ σ' rows (apP W.mb L s.mask num rows i).2 → Q (.int (apP W.mb L s.mask num rows i).1) σ') :
    callSem (n + 15) 787 [.ref s.s, .int i] σ Q := by
  unfold apP at q
  unfold Lw.u at C
  by_cases h2 : num = 2
  · rw [if_pos h2] at q C
    exact pos_at N RL.4 RL.10 C (fun t σ' rows' Q k N q => c_kind_ctx N RL C hd hm k hi q) q
  · rw [if_neg h2] at q C
    exact c_pos_in N RL (by split at C <;> rename_i h <;> simp only [h, if_true, if_false] <;> exact C) hm hi q
end
end Mine
end
section
open PySem
namespace Mine
-- Q11
noncomputable def bgT : Tp → List Int
  | .gl0 .. => []
  | .gl _ _ _ _ _ ps => ps.map fun e => e.1.1
  | .cl _ _ cov .. => cov.gs
noncomputable def headL (r : Rl) : List Int := match r.i0 with
  | .cov c => c.gs
  | _ => []
noncomputable def bgC (t : Cx3) : List Int := if t.form = 1 then t.sets.map (·.1) else if t.form = 2 then t.cov.gs else (setL t.sets 0).flatMap headL
inductive Bg (σ : Sg) (b : Addr) (bg : List Int) : Prop
  | mk (ks : List Int) (h : σ b = some (.list (ks.map .int))) (m : ∀ g, g ∈ ks ↔ g ∈ bg) (l : ks.length ≤ 6)
section
variable {σ : Sg} {n : Nat} {Q : Po}
theorem bg_tail {x y : Option V} {a : Addr} {js : List Int} (h : σ a = some (.list (js.map .int))) (hl : js.length ≤ 1000) (h6 : ∀ g ∈ js, 0 ≤ g ∧ g < 6) (q : ∀ σ' b, Ext σ σ' → Bg σ' b js → Q (.ref b) σ') :
    awpSs (callSem n) (fn_beginnings.body.drop 1) (kEnd Q) [x, y, some (.ref a)] σ :=
  .set rfl rfl h hl h6 fun js' hjs hl6 => new_ fun sa σ1 E1 hsa _ => .sorted rfl rfl (.set rfl hsa) (Nat.lt_of_le_of_lt hl6 (by decide)) fun ks hks _ => new_ fun b σ2 E2 hb _ => q σ2 b (E1.trans E2) ⟨ks, hb, fun g => (hks.mem_iff).trans (hjs g), hks.length_eq ▸ hl6⟩
theorem c_bg_adj {t : Aj} (ht : RAj σ t) (q : ∀ σ' b, Ext σ σ' → Bg σ' b (t.vals.map (·.1)) → Q (.ref b) σ') : callSem (n + 1) 806 [.str (Str.ofString "adjust"), .ref t.a] σ Q := by
  have e : (t.vals.map ajV).map (fun e => V.int e.1) = (t.vals.map (·.1)).map V.int := by rw [List.map_map, List.map_map]; rfl
  refine call fn_beginnings rfl rfl (k_eqs rfl (.t rfl (g_ ht.1 rfl (.list rfl rfl (.dict rfl ht.2) (by rw [List.length_map, List.length_map]; exact Nat.le_trans ht.5 (by decide)) ?_))))
  rw [e]
  refine new_ fun l σ1 E1 hl _ => bg_tail hl (by rw [List.length_map]; exact Nat.le_trans ht.5 (by decide)) (fun g hg => ?_) fun σ' b E => q σ' b (E1.trans E)
  obtain ⟨e, he, rfl⟩ := List.mem_map.mp hg
  exact ht.4 e he
theorem c_bg_pair : ∀ {t : Tp}, RTp σ t → (∀ σ' b, Ext σ σ' → Bg σ' b (bgT t) → Q (.ref b) σ') → callSem (n + 2) 806 [.str (Str.ofString "pair"), t.v] σ Q
  | .gl0 .., h, q => call fn_beginnings rfl rfl (k_eqs rfl (.f rfl (k_eqs rfl (.t rfl (call fn_beginnings_of_pair rfl rfl (isi_ h.1 rfl (.f rfl (g_ h.1 rfl (.mk (.dict rfl h.2) (by decide) (And.intro (fun b e => ⟨rfl, fun d q => rfl⟩) (new_ fun l σ1 E1 hl _ => bg_tail (js := []) hl (by decide) (fun _ h => nomatch h) fun σ' b E => q σ' b (E1.trans E))))))))))))
  | .gl a d D k sec ps, h, q => by
    have hl := h.4
    have e : (ps.map glV).map (fun e => V.ref e.2.1) = ps.map fun e => V.ref e.2.1 := by rw [List.map_map]; rfl
    refine call fn_beginnings rfl rfl (k_eqs rfl (.f rfl (k_eqs rfl (.t rfl (call fn_beginnings_of_pair rfl rfl (isi_ h.1 rfl (.f rfl (g_ h.1 rfl (.mk (.tdict rfl h.2) (by rw [List.length_map, List.length_map]; exact Nat.le_trans hl (by decide)) ?_)))))))))
    rw [e]
    refine loop_al ps (J := fun d acc σ1 => Ext σ σ1 ∧ acc = d.map fun e => V.int e.1.1) (fun J b e => ?_) (fun e J hR => .t rfl (u_t (J.1 _ _ (h.3 _ (split_mem e)).1) i0 (hR _ _ ⟨J.1, by rw [J.2]; exact map_snoc⟩))) (fun J => ?_) (d := []) rfl ⟨.refl σ, rfl⟩
    · cases e
      exact ⟨(J.1 _ _ h.2).trans h.2.symm, fun d q => nomatch h.2.symm.trans q⟩
    · rw [J.2]
      refine new_ fun l σ2 E2 hl2 _ => bg_tail (js := bgT (.gl a d D k sec ps)) (by rw [hl2, bgT, List.map_map]; rfl) (by rw [bgT, List.length_map]; exact Nat.le_trans hl (by decide)) (fun g hg => ?_) fun σ' b E k => q σ' b ((J.1.trans E2).trans E) k
      obtain ⟨e, he, rfl⟩ := List.mem_map.mp hg
      exact h.5 e he
  | .cl a d cov f1 f2 R sec rows, h, q => call fn_beginnings rfl rfl (k_eqs rfl (.f rfl (k_eqs rfl (.t rfl (call fn_beginnings_of_pair rfl rfl (isi_ h.1 rfl (.t rfl (g_ h.1 rfl (g_ h.2.1 rfl (.list rfl rfl (.tup rfl h.2.2) (by rw [List.length_map]; exact Nat.le_trans h.2.4 (by decide)) (new_ fun l σ1 E1 hl _ => bg_tail hl (Nat.le_trans h.2.4 (by decide)) h.10 fun σ' b E => q σ' b (E1.trans E))))))))))))
theorem c_bg_ctx {t : Cx3} (ht : RCx σ t) {kind : String} (hk : kind = "context" ∨ kind = "chain") (q : ∀ σ' b, Ext σ σ' → Bg σ' b (bgC t) → Q (.ref b) σ') : callSem (n + 2) 806 [.str (Str.ofString kind), .ref t.a] σ Q := by
  have neq : (Str.ofString kind == Str.ofString "adjust") = false ∧ (Str.ofString kind == Str.ofString "pair") = false ∧ (Str.ofString kind == Str.ofString "cursive") = false ∧ (Str.ofString "context" == Str.ofString kind || (Str.ofString "chain" == Str.ofString kind || false)) = true := by
    rcases hk with rfl | rfl <;> decide +kernel
  refine call fn_beginnings rfl rfl (k_eqs neq.1 (.f rfl (k_eqs neq.2.1 (.f rfl (k_eqs neq.2.2.1 (.f rfl (new_ fun tt σ0 E0 htt _ => k_inTu htt (.cons .str (.cons .str .nil)) (.t neq.2.2.2 ?_))))))))
  have h := ht.ext E0
  refine call fn_beginnings_of_context rfl rfl (g_ h.1 rfl (k_eqi ?_))
  by_cases f1 : t.form = 1
  · have e : (t.sets.map setV).map (fun e => V.int e.1) = (t.sets.map (·.1)).map V.int := by rw [List.map_map, List.map_map]; rfl
    have eb : bgC t = t.sets.map (·.1) := by rw [bgC, if_pos f1]
    refine .t (beq_iff_eq.mpr f1) (g_ h.1 rfl (.list rfl rfl (.dict rfl h.2) (by rw [List.length_map, List.length_map]; exact Nat.le_trans h.7 (by decide)) ?_))
    rw [e]
    refine new_ fun l σ1 E1 hl _ => bg_tail hl (by rw [List.length_map]; exact Nat.le_trans h.7 (by decide)) (fun g hg => ?_) fun σ' b E k => q σ' b ((E0.trans E1).trans E) (eb ▸ k)
    obtain ⟨e, he, rfl⟩ := List.mem_map.mp hg
    exact h.8 f1 e he
  refine .f (beq_false_of_ne f1) (g_ h.1 rfl (k_eqi ?_))
  by_cases f2 : t.form = 2
  · have c := (h.4 f2).1
    have eb : bgC t = t.cov.gs := by rw [bgC, if_neg f1, if_pos f2]
    exact .t (beq_iff_eq.mpr f2) (g_ (v := .ref t.cov.a) h.1 (congrArg some (if_pos f2)) (g_ c.1 rfl (.list rfl rfl (.tup rfl c.2) (by rw [List.length_map]; exact Nat.le_trans c.4 (by decide)) (new_ fun l σ1 E1 hl _ => bg_tail hl (Nat.le_trans c.4 (by decide)) (h.9 f2) fun σ' b E k => q σ' b ((E0.trans E1).trans E) (eb ▸ k)))))
  have f3 : t.form = 3 := (ht.5.resolve_left f1).resolve_left f2
  obtain ⟨sl, rs, hrs, hr10⟩ := h.6 f3
  have eb : bgC t = rs.flatMap headL := by rw [bgC, if_neg f1, if_neg f2, hrs]; rfl
  have hS := h.3 (0, sl, rs) (by rw [hrs]; exact .head _)
  have c3 := h.10 (0, sl, rs) (by rw [hrs]; exact .head _)
  have hD := h.2
  rw [hrs] at hD
  refine .f (beq_false_of_ne f2) (new_ fun fo σ1 E1 hfo hfn => g_ (E1.ob h.1) rfl (m_get (E1 _ _ hD) (new_ fun e0 σ2 E2 he0 _ => t_getD (E2 _ _ (E1 _ _ hD)) ?_)))
  have F : Ext σ0 (hide fo σ2) := (E1.trans E2).toHide hfn
  have hS2 := hS.ext F
  have hd : ∀ r ∈ rs, ∃ c, r.i0 = .cov c ∧ RRl (hide fo σ2) t.form r ∧ RCov (hide fo σ2) c ∧ headL r = c.gs := fun r k => by
    have hr := hS2.2 r k
    have hp := hr.7 r.i0 (.head _)
    unfold headL
    cases e : r.i0 <;> rw [e] at hp
    · exact absurd hp (show ¬ (t.form = 1 ∨ t.form = 2) by rw [f3]; decide)
    · exact ⟨_, rfl, hr, hp.2, rfl⟩
  refine .mk (.list rfl (hide_ext _ _ hS2.1)) (for_al (F := fun x => [some (.ref t.a), some (.ref fo), x]) rs (J := fun d _ σ' => Ext (hide fo σ2) σ' ∧ σ' fo = some (.list ((d.flatMap headL).map .int)) ∧ (d.flatMap headL).length ≤ 60 * d.length) (fun J => same_list (hide_ext _ _ hS2.1) (J.1 _ _ hS2.1)) ?_ ?_ (d := []) (b := none) rfl ⟨hide_ext, E2 _ _ hfo, Nat.zero_le _⟩)
  · rintro d r r' x σ' R e ⟨J1, J2, J3⟩ hR -
    obtain ⟨c, ec, hr, hc, hh⟩ := hd r (split_mem e)
    have ht := hr.3
    rw [List.map_cons, ec] at ht
    have lc : (c.gs.map V.int).length = c.gs.length := List.length_map _
    have l60 : (d.flatMap headL).length + c.gs.length ≤ 60 * (d.length + 1) := by rw [Nat.mul_succ]; exact Nat.add_le_add J3 hc.4
    have dl : 60 * (d.length + 1) ≤ 600 := Nat.mul_le_mul_left 60 (Nat.le_trans (split_len e) hr10)
    have ef : (d ++ [r]).flatMap headL = d.flatMap headL ++ c.gs := by rw [List.flatMap_append, List.flatMap_cons, hh, List.flatMap_nil, List.append_nil]
    refine m_ext J2 (g_ (J1.ob hr.1) rfl (u_t (J1 _ _ ht) i0 (g_ (J1.ob hc.1) rfl (.extT rfl rfl J2 (J1 _ _ hc.2) (by rw [List.length_map, lc]; exact Nat.le_trans l60 (Nat.le_trans dl (by decide))) (hR _ _ ⟨J1.put (hide_self _ _), ?_, ?_⟩)))))
    · rw [ef, List.map_append]; exact up_self _ _ _
    · rw [ef, List.length_append, List.length_append]; exact l60
  · rintro x σ' ⟨J1, J2, J3⟩
    refine bg_tail J2 (Nat.le_trans J3 (Nat.le_trans (Nat.mul_le_mul_left 60 hr10) (by decide))) (fun g hg => ?_) fun σ' b E k => q σ' b ((E0.trans (F.trans J1)).trans E) (eb ▸ k)
    obtain ⟨r, hr, hg⟩ := List.mem_flatMap.mp hg
    obtain ⟨c, ec, -, -, hh⟩ := hd r hr
    exact c3 r hr c ec g (hh ▸ hg)
end
end Mine
end
section
open PySem
namespace Mine
-- Q12
theorem dput_some {g k : Int} {v : V} : ∀ {es : List (Int × V)}, ((dput es k v).lookup g).isSome = true ↔ g = k ∨ (es.lookup g).isSome = true
  | [] => by
    rw [dput, List.lookup_cons, List.lookup_nil]
    by_cases h : g = k
    · rw [beq_iff_eq.mpr h]; exact ⟨fun _ => .inl h, fun _ => rfl⟩
    · rw [beq_false_of_ne h]; exact ⟨fun q => (nomatch q), fun q => q.elim (fun e => absurd e h) fun q => (nomatch q)⟩
  | (k', v') :: r => by
    rw [dput]
    by_cases q : k' = k
    · rw [if_pos q, List.lookup_cons, List.lookup_cons]
      by_cases h : g = k'
      · rw [beq_iff_eq.mpr h]; exact ⟨fun _ => .inr rfl, fun _ => rfl⟩
      · rw [beq_false_of_ne h]; exact ⟨.inr, fun c => c.elim (fun e => absurd (e.trans q.symm) h) id⟩
    · rw [if_neg q, List.lookup_cons, List.lookup_cons]
      by_cases h : g = k'
      · rw [beq_iff_eq.mpr h]; exact ⟨fun _ => .inr rfl, fun _ => rfl⟩
      · rw [beq_false_of_ne h]; exact dput_some
theorem dput_len {k : Int} {v : V} : ∀ {es : List (Int × V)}, (dput es k v).length ≤ es.length + 1
  | [] => Nat.le_refl _
  | (k', v') :: r => by
    rw [dput]
    by_cases q : k' = k
    · rw [if_pos q]; exact Nat.le_succ _
    · rw [if_neg q]; exact Nat.succ_le_succ dput_len
noncomputable def bgAll (L : Lw) (num : Int) : List Int := if num = 2 then L.cxs.flatMap bgC else if num = 0 then L.adj.flatMap (fun t => t.vals.map (·.1)) else L.pairs.flatMap bgT
theorem first_no {α : Type} {F : α → List Rw → Nat → Int × List Rw} {bg : α → List Int} {rows : List Rw} {i : Nat} {g : Int} : ∀ {ts : List α}, (∀ t ∈ ts, g ∉ bg t → F t rows i = (-1, rows)) → g ∉ ts.flatMap bg → firstP F ts rows i = (-1, rows)
  | [], _, _ => rfl
  | t :: ts, h, q => by
    rw [List.flatMap_cons, List.mem_append, not_or] at q
    rw [firstP, h t (.head _) q.1, if_neg (show ¬ (0:Int) ≤ -1 by decide)]
    exact first_no (fun t k => h t (.tail _ k)) q.2
theorem lookup_no {β : Type} {g : Int} {l : List (Int × β)} (h : g ∉ l.map (·.1)) : l.lookup g = none := by
  cases e : l.lookup g with
  | none => rfl
  | some x => exact absurd (List.mem_map_of_mem (f := (·.1)) (lookup_mem e)) h
theorem setL_no {g : Int} {l : List (Int × Addr × List Rl)} (h : g ∉ l.map (·.1)) : setL l g = [] := by rw [setL, lookup_no h]
theorem adj_no {vals : List (Int × Vl)} {rows : List Rw} {i : Nat} (h : rowG rows i ∉ vals.map (·.1)) : adjP vals rows i = (-1, rows) := by rw [adjP, lookup_no h]
theorem pr_no {mk : Int → Bool} {f : Int} {t : Tp} {rows : List Rw} {i : Nat} (h : rowG rows i ∉ bgT t) : prP mk f t rows i = (-1, rows) := by
  unfold prP
  split
  · rfl
  · have : ∀ x, pairF t (rowG rows i) x = none := fun x => by
      cases t with
      | gl0 => rfl
      | gl a d D k sec ps =>
        rw [pairF]
        cases e : pget ps (rowG rows i, x) with
        | none => rfl
        | some v => obtain ⟨a, m⟩ := pget_mem e; exact absurd (List.mem_map_of_mem (f := fun e : (Int × Int) × Addr × Pv => e.1.1) m) h
      | cl a d cov =>
        have e : cov.gs.contains (rowG rows i) = false := Bool.eq_false_iff.mpr fun q => h (List.contains_iff_mem.mp q)
        rw [pairF, e]; rfl
    rw [prQ, this]
theorem cx_no {mk : Int → Bool} {L : Lw} {mask : Int} {t : Cx3} {rows : List Rw} {i : Nat} (hf : t.form = 1 ∨ t.form = 2 ∨ t.form = 3) (h : rowG rows i ∉ bgC t) : cxP mk L mask t rows i = (-1, rows) := by
  have : rulesF t (rowG rows i) = [] := by
    rw [bgC] at h
    by_cases f1 : t.form = 1
    · rw [if_pos f1] at h
      rw [rulesF1 f1, setL_no h]
    · rw [if_neg f1] at h
      by_cases f2 : t.form = 2
      · rw [if_pos f2] at h
        rw [rulesF2 f2, Bool.eq_false_iff.mpr fun q => h (List.contains_iff_mem.mp q)]; rfl
      · rw [if_neg f2] at h
        rw [rulesF3 ((hf.resolve_left f1).resolve_left f2), List.filter_eq_nil_iff]
        intro r hr q
        refine h (List.mem_flatMap.mpr ⟨r, hr, ?_⟩)
        unfold headCov at q
        unfold headL
        cases e : r.i0 <;> rw [e] at q
        · cases q
        · exact List.contains_iff_mem.mp q
  rw [cxP, this]; rfl
noncomputable def rowM (rows : List Rw) (i : Nat) : Int := match rows[i]? with | some r => r.m | none => 0
theorem rowM_at {rows : List Rw} {i : Nat} {r : Rw} (h : rows[i]? = some r) : rowM rows i = r.m := by rw [rowM, h]
noncomputable def stepP (mk : Int → Bool) (L : Lw) (mask num : Int) (rows : List Rw) (i : Nat) : Int × List Rw :=
  bif borne (rowM rows i) mask && !psd mk (L.u num).f rows i then apP mk L mask num rows i else (-1, rows)
noncomputable def runP (mk : Int → Bool) (L : Lw) (mask num : Int) : Nat → Nat → List Rw → List Rw
  | 0, _, rows => rows
  | j + 1, i, rows => if i < rows.length then runP mk L mask num j (max (stepP mk L mask num rows i).1 ((i : Int) + 1)).toNat (stepP mk L mask num rows i).2 else rows
inductive KD (σ : Sg) (K : Addr) (S : List Int) (b : Nat) : Prop
  | mk (n : Nat) (es : List (Int × V)) (h : σ K = some (.dict n es)) (m : ∀ g, (es.lookup g).isSome = true ↔ g ∈ S) (l : es.length ≤ b)
theorem KD.cong {σ : Sg} {K : Addr} {S S' : List Int} {b b' : Nat} (h : KD σ K S b) (e : ∀ g, g ∈ S ↔ g ∈ S') (l : b ≤ b') : KD σ K S' b' := let ⟨n, es, h, m, k⟩ := h; ⟨n, es, h, fun g => (m g).trans (e g), Nat.le_trans k l⟩
section
variable {τ σ σ' : Sg} {W : Wd} {rows : List Rw} {n i : Nat} {Q : Po} {R : Ps} {U : Lu} {s : Sn} {L : Lw} {mask num : Int}
theorem ap_no (RL : RLw τ W.lks L) (h : rowG rows i ∉ bgAll L num) : apP W.mb L mask num rows i = (-1, rows) := by
  rw [apP]
  rw [bgAll] at h
  split
  · rename_i q
    rw [if_pos q] at h
    exact first_no (fun t k => cx_no (RL.13 t k).5) h
  · rename_i q
    rw [if_neg q] at h
    rw [inP]
    split <;> rename_i q <;> simp only [q, if_true, if_false] at h
    · exact first_no (fun t k => adj_no) h
    · exact first_no (fun t k => pr_no) h
theorem known_loop {α : Type} {f : α → V} {bg : α → List Int} {K : Addr} {all : List α} (hU : RLu τ U) (ht : U.tabs = all.map f) (hK : τ K = none) (h10 : all.length ≤ 10)
    (hs : ∀ t σ (Q : Po), t ∈ all → Ext τ σ → (∀ σ' b, Ext σ σ' → Bg σ' b (bg t) → Q (.ref b) σ') → callSem n 806 [.str (Str.ofString U.kind), f t] σ Q) (E : Ext τ σ) (k0 : KD σ K [] 0) {v0 v1 v2 v3 v4 : Option V}
    (q : ∀ σ' x y, Ext (hide K σ) σ' → KD σ' K (all.flatMap bg) 60 → R .next [v0, v1, v2, v3, v4, some (.ref U.l), some (.ref K), x, y, none, none, none, none] σ') :
    forL (Same (.ref U.T) σ) (fun v R m => asg (callSem n) (.one (.loc 7)) (awpSs (callSem n) [.for (.one (.loc 8)) (.fcall 806 [(.attr (.loc 5) "kind"), (.loc 7)]) [.assign (.one (.sub (.loc 6) (.loc 8))) (.lit (.bool true))]] R) m v)
      U.tabs R [v0, v1, v2, v3, v4, some (.ref U.l), some (.ref K), none, none, none, none, none, none] σ := by
  have EH := E.toHide hK
  rw [ht]
  refine for_al (F := fun p : Option V × Option V => [v0, v1, v2, v3, v4, some (.ref U.l), some (.ref K), p.1, p.2, none, none, none, none]) all (J := fun d _ σ' => Ext (hide K σ) σ' ∧ KD σ' K (d.flatMap bg) (6 * d.length)) (fun J => same_list (E _ _ hU.2) (J.1 _ _ (EH _ _ hU.2))) ?_ (fun {p σ'} J => q σ' p.1 p.2 J.1 (J.2.cong (fun _ => .rfl) (Nat.mul_le_mul_left 6 h10))) (d := []) (b := (none, none)) rfl ⟨hide_ext, k0⟩
  rintro d t r ⟨x, y⟩ σ1 R e ⟨E1, k1⟩ hR -
  have h1 := EH.trans E1
  have dl : d.length + 1 ≤ 10 := Nat.le_trans (split_len e) h10
  refine g_ (h1.ob hU.1) rfl (hs t σ1 _ (split_mem e) h1 fun σ2 b E2 B => ?_)
  obtain ⟨ks, hb, hks, kl⟩ := B
  obtain ⟨nn, es, c1, c2, c3⟩ := k1
  have hbK := hide_at hb fun q => nomatch (q ▸ hb).symm.trans (E2 _ _ c1)
  refine .mk (.list rfl hb) (for_al (F := fun y => [v0, v1, v2, v3, v4, some (.ref U.l), some (.ref K), some (f t), y, none, none, none, none]) ks (J := fun d2 _ σ3 => Ext (hide K σ2) σ3 ∧ KD σ3 K (d.flatMap bg ++ d2) (6 * d.length + d2.length)) (fun J => same_list hb (J.1 _ _ hbK)) ?_ ?_ (d := []) rfl ⟨hide_ext, nn, es, E2 _ _ c1, fun g => by rw [c2, List.append_nil], c3⟩)
  · rintro d2 g r2 y σ3 R e2 ⟨E3, n3, es3, f1, f2, f3⟩ hR -
    refine .dict rfl rfl f1 (Nat.le_trans f3 (Nat.le_trans (Nat.add_le_add (Nat.mul_le_mul_left 6 (Nat.le_of_lt (show d.length < 10 from dl))) (Nat.le_trans (Nat.le_of_lt (split_len e2)) kl)) (by decide))) fun n' => hR _ _ ⟨E3.put (hide_self _ _), n', _, up_self _ _ _, fun g' => (dput_some.trans (or_congr .rfl (f2 g'))).trans ?_, Nat.le_trans dput_len ?_⟩
    · rw [← List.append_assoc, List.mem_append (s := d.flatMap bg ++ d2), List.mem_singleton]; exact or_comm
    · rw [List.length_append]; exact Nat.succ_le_succ f3
  · rintro y σ3 ⟨E3, k3⟩
    refine hR (_, _) _ ⟨((E1.trans E2).toHide (hide_self _ _)).trans E3, k3.cong (fun g => ?_) ?_⟩
    · rw [List.flatMap_append, List.flatMap_cons, List.flatMap_nil, List.append_nil, List.mem_append, List.mem_append, hks]
    · rw [List.length_append]; exact Nat.add_le_add_left kl _
noncomputable def runB : List Mine.S := [
      .assign (.one (.loc 11)) (.neg (.lit (.int (1)))),
      .assign (.one (.loc 12)) (.sub (.attr (.loc 0) "row") (.loc 10)),
      .ite (.and (.cmp .In (.attr (.loc 12) "glyph") (.loc 6)) (.and (.cmp .NotEq (.bin .BitAnd (.attr (.loc 12) "mask") (.loc 4)) (.lit (.int (0)))) (.not (.fcall 97 [(.loc 9), (.loc 10)])))) [
        .assign (.one (.loc 11)) (.fcall 787 [(.loc 9), (.loc 10)])] [],
      .assign (.one (.loc 10)) (.bcall "max" [(.loc 11), (.bin .Add (.loc 10) (.lit (.int (1))))])]
theorem run_loop (RL : RLw τ W.lks L) (hU : RLu τ (L.u num)) (C : Ob τ s.s s.d 65 (snFs W (L.u num).l s)) (hd : s.depth = 0) (hm : 0 ≤ s.mask) {K : Addr} {nk : Nat} {es : List (Int × V)} (hK : τ K = some (.dict nk es)) (hes : ∀ g, (es.lookup g).isSome = true ↔ g ∈ bgAll L num)
    {v1 v2 v3 v5 x7 x8 : Option V} (j : Nat) : ∀ (a : Nat) {rows : List Rw} {σ : Sg} {x11 x12 : Option V}, W.k ≤ a + j → Now τ σ W rows → (∀ σ' m, Stp W σ σ' rows (runP W.mb L s.mask num j a rows) → R .next m σ') →
      whileN (awpC (callSem (n + 15)) (.cmp .Lt (.loc 10) (.bcall "len" [(.attr (.loc 0) "row")]))) (awpSs (callSem (n + 15)) runB) (j + 1) R [some (.ref W.buf), v1, v2, v3, some (.int s.mask), v5, some (.ref K), x7, x8, some (.ref s.s), some (.int a), x11, x12] σ := by
  have test : ∀ {a : Nat} {rows : List Rw} {σ : Sg} {x11 x12 : Option V} {T : Tst}, Now τ σ W rows → (a < W.k → T true σ) → (¬ a < W.k → T false σ) → awpC (callSem (n + 15)) (.cmp .Lt (.loc 10) (.bcall "len" [(.attr (.loc 0) "row")])) [some (.ref W.buf), v1, v2, v3, some (.int s.mask), v5, some (.ref K), x7, x8, some (.ref s.s), some (.int a), x11, x12] T σ := fun {a rows σ x11 x12 T} N h1 h2 => by
    have B := N.base
    refine g_ B.1 rfl (len_l B.2 (by rw [rowLen]; exact Nat.lt_trans B.6 (by decide)) (k_lt ?_))
    rw [rowLen]
    by_cases c : a < W.k
    · rw [decide_eq_true (Int.ofNat_lt.mpr c)]; exact h1 c
    · rw [decide_eq_false fun q => c (Int.ofNat_lt.mp q)]; exact h2 c
  induction j with
  | zero => exact fun a {rows σ x11 x12} hj N q => test N (fun c => absurd c (Nat.not_lt.mpr hj)) fun _ => .f rfl (q σ _ (N.same (.refl σ)))
  | succ j ih =>
    refine fun a {rows σ x11 x12} hj N q => test N (fun ha => .t rfl ?_) fun c => .f rfl (q σ _ (by rw [runP, if_neg (by rw [N.5]; exact c)]; exact N.same (.refl σ)))
    obtain ⟨r, hr⟩ := N.row ha
    have B := N.base
    have o := N.3.1 a r hr
    rw [runP, if_pos (by rw [N.5]; exact ha)] at q
    have fin : ∀ (w : Int) rows' σ', Stp W σ σ' rows rows' → stepP W.mb L s.mask num rows a = (w, rows') → ∀ {x12}, awpSs (callSem (n + 15)) (runB.drop 3) (seqR (whileN (awpC (callSem (n + 15)) (.cmp .Lt (.loc 10) (.bcall "len" [(.attr (.loc 0) "row")]))) (awpSs (callSem (n + 15)) runB) (j + 1) R) R)
        [some (.ref W.buf), v1, v2, v3, some (.int s.mask), v5, some (.ref K), x7, x8, some (.ref s.s), some (.int a), some (.int w), x12] σ' := fun w rows' σ' T e {x12} => by
      rw [e] at q
      refine b_add (.max rfl rfl ?_)
      have h1 : ((max w ((a : Int) + 1)).toNat : Int) = max w ((a : Int) + 1) := Int.toNat_of_nonneg (Int.le_trans (Int.natCast_nonneg (a + 1)) (Int.le_max_right ..))
      rw [← h1]
      exact ih _ (by have := Int.le_max_right w ((a : Int) + 1); lia) (N.go T) fun σ'' m T' => q σ'' m (T.trans T')
    have skip : ∀ σ', Ext σ σ' → (borne r.m s.mask && !psd W.mb (L.u num).f rows a) = false → ∀ {x12}, awpSs (callSem (n + 15)) (runB.drop 3) (seqR (whileN (awpC (callSem (n + 15)) (.cmp .Lt (.loc 10) (.bcall "len" [(.attr (.loc 0) "row")]))) (awpSs (callSem (n + 15)) runB) (j + 1) R) R)
        [some (.ref W.buf), v1, v2, v3, some (.int s.mask), v5, some (.ref K), x7, x8, some (.ref s.s), some (.int a), some (.int (-1)), x12] σ' := fun σ' E h {x12} => fin (-1) rows σ' (N.same E) (by rw [stepP, rowM_at hr, h]; rfl)
    refine g_ B.1 rfl (u_l B.2 (rowIdx ha B.6) (g_ o rfl (k_inD (N.2 _ _ hK) (kB (fun hk => g_ o rfl (b_and (N.4.at hr).2.1 hm (k_nei (kB (fun hb => c_passes (N.sc hU C hm) ha fun σ2 E2 => kN (fun hp => ?_) fun hp => skip σ2 E2 (by rw [hp]; exact Bool.and_false _)) fun hb => .f rfl (skip σ (.refl σ) ?_))))) fun hk => .f rfl ?_))))
    · exact c_pos (N.grow E2) RL C hd hm ha fun σ3 T => fin _ _ σ3 (.after E2 T) (by rw [stepP, rowM_at hr, hp, show borne r.m s.mask = true from hb]; rfl)
    · rw [show borne r.m s.mask = false from hb]; rfl
    · refine fin (-1) rows σ (N.same (.refl σ)) ?_
      rw [stepP, ap_no RL (by rw [rowG_at hr, ← hes, hk]; decide)]
      cases borne (rowM rows a) s.mask && !psd W.mb (L.u num).f rows a <;> rfl
noncomputable def runF : Mine.S := .for (.one (.loc 7)) (.attr (.loc 5) "tables") [
      .for (.one (.loc 8)) (.fcall 806 [(.attr (.loc 5) "kind"), (.loc 7)]) [
        .assign (.one (.sub (.loc 6) (.loc 8))) (.lit (.bool true))]]
theorem c_run (N : Now τ σ W rows) (RL : RLw τ W.lks L) (hnum : num = 0 ∨ num = 1 ∨ num = 2) (hm : 0 ≤ mask) (h10 : L.adj.length ≤ 10 ∧ L.pairs.length ≤ 10 ∧ L.cxs.length ≤ 10) (q : ∀ σ', Stp W σ σ' rows (runP W.mb L mask num 8 0 rows) → Q .none σ') :
    callSem (n + 16) 813 [.ref W.buf, .ref W.gd, .ref W.lks, .int num, .int mask] σ Q := by
  have hl := N.2 _ _ RL.1
  have start : ∀ {l : Addr}, Idx [.ref L.U0.l, .ref L.U1.l, .ref L.U2.l] num (.ref l) → (L.u num).l = l → RLu τ (L.u num) → (∀ σ1 K, Ext σ σ1 → σ K = none → KD σ1 K [] 0 → ∀ R : Ps, (∀ σ2 x y, Ext (hide K σ1) σ2 → KD σ2 K (bgAll L num) 60 → R .next [some (.ref W.buf), some (.ref W.gd), some (.ref W.lks), some (.int num), some (.int mask), some (.ref l), some (.ref K), x, y, none, none, none, none] σ2) →
      awpS (callSem (n + 15)) runF R [some (.ref W.buf), some (.ref W.gd), some (.ref W.lks), some (.int num), some (.int mask), some (.ref l), some (.ref K), none, none, none, none, none, none] σ1) → callSem (n + 16) 813 [.ref W.buf, .ref W.gd, .ref W.lks, .int num, .int mask] σ Q := fun {l} hx e hU kn => by
    refine callm fn_run_position [some _, some _, some _, some (.int num), some (.int mask), none, none, none, none, none, none, none, none] rfl rfl rfl (u_l hl hx (newD_ fun n0 K σ1 E1 hK hK0 => kn σ1 K E1 hK0 ⟨n0, [], hK, fun g => ⟨fun q => (nomatch q), fun q => (nomatch q)⟩, Nat.le_refl _⟩ _ fun σ2 x y E2 k2 => ?_))
    obtain ⟨nk, es, e1, e2, e3⟩ := k2
    have E02 : Ext σ σ2 := (E1.toHide hK0).trans E2
    have N2 := N.grow E02
    refine new_scene0 fun σ3 s I em ed => ?_
    have N3 := N2.grow I.1
    subst e em
    exact .mk 9 (run_loop (RL.ext N3.ec) (hU.ext N3.ec) (N3.wk.2 _ _ _ _ rfl I.2) ed hm (N3.wk.1 _ _ rfl (I.1 _ _ e1)) e2 8 0 (Nat.le_trans (Nat.le_of_lt N.base.6) (by decide)) N3.cut fun σ4 m T => q σ4 (.after (E02.trans I.1) T))
  rcases hnum with rfl | rfl | rfl
  · exact start i0 rfl RL.2 fun σ1 K E1 hK k0 R q => g_ (N.2.trans E1 |>.ob RL.2.1) rfl (.mk (.list rfl ((N.2.trans E1) _ _ RL.2.2)) (known_loop RL.2 RL.8 (N.2.no hK) h10.1 (fun t σ Q k E q => RL.5 ▸ c_bg_adj ((RL.11 t k).ext E) q) (N.2.trans E1) k0 q))
  · exact start i1 rfl RL.3 fun σ1 K E1 hK k0 R q => g_ (N.2.trans E1 |>.ob RL.3.1) rfl (.mk (.list rfl ((N.2.trans E1) _ _ RL.3.2)) (known_loop RL.3 RL.9 (N.2.no hK) h10.2.1 (fun t σ Q k E q => RL.6 ▸ c_bg_pair ((RL.12 t k).ext E) q) (N.2.trans E1) k0 q))
  · exact start i2 rfl RL.4 fun σ1 K E1 hK k0 R q => g_ (N.2.trans E1 |>.ob RL.4.1) rfl (.mk (.list rfl ((N.2.trans E1) _ _ RL.4.2)) (known_loop RL.4 RL.10 (N.2.no hK) h10.2.2 (fun t σ Q k E q => c_bg_ctx ((RL.13 t k).ext E) RL.7 q) (N.2.trans E1) k0 q))
end
end Mine
end
section
open PySem
namespace Mine
-- Q13
theorem inInts {g : Int} : ∀ {gs : List Int}, InA (.int g) (gs.map V.int) (gs.contains g)
  | [] => .nil
  | x :: r => by
    rw [List.map_cons, List.contains_cons, show (g == x) = (x == g) by rw [Bool.eq_iff_iff, beq_iff_eq, beq_iff_eq]; exact eq_comm]
    exact .cons .int inInts
noncomputable def wrow (r : Rw) : List V := [.int r.g, .int r.m, .bool r.u, .int r.xa, .int r.xo, .int r.yo]
structure Vd where
  wt : Addr
  wr : Addr
  ml : Addr
  ms : List Int
  lks : Addr
  k : Nat
  A : Nat → Addr
inductive WRows (σ : Sg) (W : Vd) (rows : List Rw) : Prop
  | mk (h : ∀ i r, rows[i]? = some r → σ (W.A i) = some (.list (wrow r)))
inductive Sw (τ : Sg) (W : Vd) : Prop
  | mk (t : τ W.wt = some (.tup [.ref W.wr, .ref W.ml, .ref W.lks])) (r : τ W.wr = some (.list (rowV W.k W.A))) (m : τ W.ml = some (.list (W.ms.map .int))) (hA : ∀ i, i < W.k → τ (W.A i) = none) (inj : ∀ i j, i < W.k → j < W.k → W.A i = W.A j → i = j) (small : W.k < 8)
inductive Nw (τ σ : Sg) (W : Vd) (rows : List Rw) : Prop
  | mk (S : Sw τ W) (E : Ext τ σ) (I : WRows σ W rows) (G : GOk rows) (hk : rows.length = W.k)
inductive Stl (W : Vd) (σ σ' : Sg) (rows rows' : List Rw) : Prop
  | mk (m : Md W.A W.k σ σ') (I : WRows σ' W rows') (g : rows'.map gm = rows.map gm)
noncomputable def Vd.mb (W : Vd) (g : Int) : Bool := W.ms.contains g
section
variable {τ σ σ' σ'' : Sg} {W : Vd} {rows rows' rows'' : List Rw} {n i : Nat} {Q : Po} {P : Sg → Prop} {r : Rw} {U : Lu} {L : Lw} {K : Kall} {m : Mp} {a : Addr} {c : C} {j : Int} {v : V}
theorem WRows.ext (E : Ext σ σ') (h : WRows σ W rows) : WRows σ' W rows := ⟨fun i r hi => E _ _ (h.1 i r hi)⟩
theorem Nw.grow (N : Nw τ σ W rows) (E : Ext σ σ') : Nw τ σ' W rows := ⟨N.1, N.2.trans E, N.3.ext E, N.4, N.5⟩
theorem Nw.go (N : Nw τ σ W rows) (h : Stl W σ σ' rows rows') : Nw τ σ' W rows' := ⟨N.1, N.2.thenMd N.1.4 h.1, h.2, by unfold GOk; rw [h.3]; exact N.4, (gm_len h.3).trans N.5⟩
theorem Nw.same (N : Nw τ σ W rows) (E : Ext σ σ') : Stl W σ σ' rows rows := ⟨E.md, N.3.ext E, rfl⟩
theorem Stl.trans (h : Stl W σ σ' rows rows') (k : Stl W σ' σ'' rows' rows'') : Stl W σ σ'' rows rows'' := ⟨h.1.trans k.1, k.2, k.3.trans h.3⟩
theorem Stl.after (E : Ext σ σ') (k : Stl W σ' σ'' rows rows') : Stl W σ σ'' rows rows' := ⟨E.md.trans k.1, k.2, k.3⟩
theorem Nw.row (N : Nw τ σ W rows) (hi : i < W.k) : ∃ r, rows[i]? = some r := ⟨_, List.getElem?_eq_getElem (by rw [N.5]; exact hi)⟩
theorem Nw.lt (N : Nw τ σ W rows) (h : rows[i]? = some r) : i < W.k := N.5 ▸ (List.getElem?_eq_some_iff.mp h).1
theorem Nw.cut (N : Nw τ σ W rows) : Nw (cut W.A W.k σ) σ W rows := have E := cut_of N.2 N.1.4; ⟨⟨E _ _ N.1.1, E _ _ N.1.2, E _ _ N.1.3, fun _ hi => cut_no hi, N.1.5, N.1.6⟩, cut_ext, N.3, N.4, N.5⟩
theorem Nw.ec (N : Nw τ σ W rows) : Ext τ (Mine.cut W.A W.k σ) := cut_of N.2 N.1.4
theorem Nw.fresh (N : Nw τ σ W rows) (h0 : σ a = none) (h : σ' a = some c) : Mine.cut W.A W.k σ' a = some c := (cut_ne fun i hi => let ⟨r, hr⟩ := N.row hi; (ne_of (N.3.1 i r hr) h0).symm).trans h
theorem Nw.set (N : Nw τ σ W rows) (hr : rows[i]? = some r) (r' : Rw) (h0 : 0 ≤ j) (h1 : j.toNat < (wrow r).length) (e : (wrow r).set j.toNat v = wrow r') (g : gm r' = gm r) (q : ∀ σ', Stl W σ σ' rows (rows.set i r') → P σ') :
    SetItemK P v (.ref (W.A i)) (.int j) σ := by
  refine .list rfl rfl (N.3.1 i r hr) h0 h1 (Int.lt_trans (show j < 6 from (Int.toNat_lt h0).mp h1) (by decide)) (q _ ⟨fun a c n h => (up_ne (n i (N.lt hr))).trans h, ⟨fun k rk hk => ?_⟩, set_gm hr g⟩)
  rw [e]
  rw [List.getElem?_set] at hk
  by_cases c : i = k
  · subst c
    rw [if_pos rfl, if_pos (List.getElem?_eq_some_iff.mp hr).1] at hk
    cases hk
    exact up_self _ _ _
  · rw [if_neg c] at hk
    exact (up_ne fun q => c (N.1.5 k i (N.lt hk) (N.lt hr) q).symm).trans (N.3.1 k rk hk)
theorem l_fits {t : Cx3} (h : RCx σ t) {p : Pt} (hp : RPt σ t.form p) {cd : Cd} (hj : (j = 0 ∧ cd = t.c0) ∨ (j = 1 ∧ cd = t.c1) ∨ (j = 2 ∧ cd = t.c2)) {g : Int} (q : Q (.bool (fitsT (tsOf t.form cd.es p) g)) σ) : callSem (n + 1) 956 [.ref t.a, p.v, .int j, .int g] σ Q := by
  refine call fn_law_fits rfl rfl (g_ h.1 rfl (k_eqi ?_))
  cases p with
  | num x =>
    rw [tsOf] at q
    rcases (hp : t.form = 1 ∨ t.form = 2) with f | f
    · rw [if_pos f] at q
      exact .t (beq_iff_eq.mpr f) (k_eqi q)
    · rw [if_neg (by rw [f]; decide)] at q
      have h2 := h.4 f
      have : RCd σ cd ∧ Idx [.ref t.c0.a, .ref t.c1.a, .ref t.c2.a] j (.ref cd.a) := by
        rcases hj with ⟨rfl, rfl⟩ | ⟨rfl, rfl⟩ | ⟨rfl, rfl⟩
        · exact ⟨h2.3, i0⟩
        · exact ⟨h2.4, i1⟩
        · exact ⟨h2.5, i2⟩
      exact .f (by rw [f]; rfl) (g_ h.1 rfl (k_eqi (.t (beq_iff_eq.mpr f) (g_ (v := .ref t.ct) h.1 (congrArg some (if_pos f)) (u_t h2.2 this.2 (g_ this.1.1 rfl (m_get this.1.2 (t_getD this.1.2 (lookup_int.symm ▸ k_eqi q)))))))))
  | cov c => exact .f (by rw [hp.1]; rfl) (g_ h.1 rfl (k_eqi (.f (by rw [hp.1]; rfl) (g_ hp.2.1 rfl (k_inTu hp.2.2 inInts q)))))
theorem l_passed (N : Nw τ σ W rows) (hU : RLu τ U) (hi : i < W.k) (q : Q (.bool (psd W.mb U.f rows i)) σ) : callSem (n + 1) 963 [.ref W.wt, .ref U.l, .int i] σ Q := by
  obtain ⟨r, hr⟩ := N.row hi
  have ol := N.2.ob hU.1
  have t := N.2 _ _ N.1.1
  rw [psd, hr] at q
  replace q : Q (.bool (if W.ms.contains r.g then U.f == 8 else U.f == 2)) σ := q
  refine call fn_law_is_passed rfl rfl (u_t t i0 (u_l (N.2 _ _ N.1.2) (rowIdx hi N.1.6) (u_l (N.3.1 i r hr) i0 (u_t t i1 (k_inL (N.2 _ _ N.1.3) inInts ?_)))))
  have f0 : 0 ≤ U.f := by rcases hU.3 with f | f | f <;> rw [f] <;> decide
  generalize W.ms.contains r.g = b at q ⊢
  cases b with
  | true =>
    refine .t rfl (g_ ol rfl (b_and f0 (by decide) (k_nei ?_)))
    rcases hU.3 with f | f | f <;> rw [f] at q ⊢
    · exact .f rfl (.f rfl q)
    · exact .t rfl q
    · exact .f rfl (.f rfl q)
  | false =>
    refine .f rfl (.f rfl (.t rfl (g_ ol rfl (b_and f0 (by decide) (k_nei ?_)))))
    rcases hU.3 with f | f | f <;> rw [f] at q ⊢ <;> exact q
theorem beside_loop (N : Nw τ σ W rows) (hU : RLu τ U) {step : Int} {x : Option V} {R : Ps} (j : Nat) : ∀ (h : Int), Far W.k step j h → (∀ b m, bes (psd W.mb U.f rows) W.k step (j + 1) h = b → (0 ≤ b → R (.ret (.int b)) m σ) ∧ (b = -1 → R .next m σ)) →
      whileN (awpC (callSem (n + 1)) (.chain .LtE .Lt (.lit (.int (0))) (.loc 4) (.bcall "len" [(.sub (.loc 0) (.lit (.int (0))))]))) (awpSs (callSem (n + 1)) [.ite (.not (.fcall 963 [(.loc 0), (.loc 1), (.loc 4)])) [.ret (.loc 4)] [], .assign (.one (.loc 4)) (.bin .Add (.loc 4) (.loc 3))])
        (j + 1) R [some (.ref W.wt), some (.ref U.l), x, some (.int step), some (.int h)] σ := by
  have rt : ∀ {h : Int} {T : Tst}, (0 ≤ h ∧ h < W.k → T true σ) → (¬ (0 ≤ h ∧ h < W.k) → T false σ) → awpC (callSem (n + 1)) (.chain .LtE .Lt (.lit (.int (0))) (.loc 4) (.bcall "len" [(.sub (.loc 0) (.lit (.int (0))))])) [some (.ref W.wt), some (.ref U.l), x, some (.int step), some (.int h)] T σ := fun {h T} q1 q2 => by
    refine k_le (kI_ (fun h0 => u_t (N.2 _ _ N.1.1) i0 (len_l (N.2 _ _ N.1.2) (by rw [rowLen]; exact Nat.lt_trans N.1.6 (by decide)) (k_lt ?_))) fun h0 => q2 fun c => h0 c.1)
    rw [rowLen]
    by_cases c : h < W.k
    · rw [decide_eq_true c]; exact q1 ⟨h0, c⟩
    · rw [decide_eq_false c]; exact q2 fun x => c x.2
  induction j with
  | zero => exact fun h hf q => rt (fun c => absurd c hf.zero) fun no => .f rfl ((q _ _ (bes_no no)).2 rfl)
  | succ j ih =>
    refine fun h hf q => rt (fun c => .t rfl ?_) fun no => .f rfl ((q _ _ (bes_no no)).2 rfl)
    obtain ⟨i, rfl⟩ := Int.eq_ofNat_of_zero_le c.1
    exact l_passed N hU (Int.ofNat_lt.mp c.2) (kN (fun hp => (q _ _ (bes_at c hp)).1 c.1) fun hp => b_add (ih _ hf.next fun b m e => q b m ((bes_go c hp).trans e)))
theorem l_beside (N : Nw τ σ W rows) (hU : RLu τ U) {i step : Int} (h : Far W.k step 9 (i + step)) (q : Q (.int (bes (psd W.mb U.f rows) rows.length step 10 (i + step))) σ) : callSem (n + 2) 970 [.ref W.wt, .ref U.l, .int i, .int step] σ Q := by
  rw [N.5] at q
  exact call fn_law_beside rfl rfl (b_add (.mk 10 (beside_loop N hU 9 (i + step) h fun b m e => ⟨fun _ => e ▸ q, fun h0 => ((e.trans h0) ▸ q : Q (.int (-1)) σ)⟩)))
theorem l_move (N : Nw τ σ W rows) (hi : i < W.k) {x : Vl} (o : RVl τ x) (q : ∀ σ', Stl W σ σ' rows (moveR rows i x) → Q .none σ') : callSem (n + 1) 977 [.ref (W.A i), .ref x.a] σ Q := by
  obtain ⟨r, hr⟩ := N.row hi
  rw [moveR_at hr] at q
  refine call fn_law_move rfl rfl (u_l (N.3.1 i r hr) (.pos (by decide) (by decide) rfl) (g_ (N.2.ob o) rfl (b_add (N.set hr { r with xa := r.xa + x.xa } (by decide) (show 3 < 6 by decide) rfl rfl fun σ1 T1 => ?_))))
  have N1 := N.go T1
  have h1 := set_at (r' := { r with xa := r.xa + x.xa }) hr
  refine u_l (N1.3.1 i _ h1) (.pos (by decide) (by decide) rfl) (g_ (N1.2.ob o) rfl (b_add (N1.set h1 { r with xa := r.xa + x.xa, xo := r.xo + x.xo } (by decide) (show 4 < 6 by decide) rfl rfl fun σ2 T2 => ?_)))
  rw [List.set_set] at T2
  have N2 := N1.go T2
  have h2 := set_at (r' := { r with xa := r.xa + x.xa, xo := r.xo + x.xo }) hr
  refine u_l (N2.3.1 i _ h2) (.pos (by decide) (by decide) rfl) (g_ (N2.2.ob o) rfl (b_add (N2.set h2 (mvd r x) (by decide) (show 5 < 6 by decide) rfl rfl fun σ3 T3 => ?_)))
  rw [List.set_set] at T3
  exact q σ3 ((T1.trans T2).trans T3)
theorem l_hang (N : Nw τ σ W rows) {b e : Nat} (hbe : b ≤ e) (he : e < W.k) (q : ∀ σ', Stl W σ σ' rows (hangR rows b (e + 1)) → Q .none σ') : callSem (n + 1) 984 [.ref W.wt, .int b, .int e] σ Q := by
  have big : ∀ {m : Nat}, m < 8 → ((m : Int) + 1 < 2 ^ 62 ∧ -(2 ^ 62) < (m : Int) + 1) := fun h => ⟨Int.lt_trans (Int.add_lt_add_right (Int.ofNat_lt.mpr h) 1) (by decide), Int.lt_of_lt_of_le (by decide) (Int.natCast_nonneg (_ + 1))⟩
  have e8 : e < 8 := Nat.lt_trans he N.1.6
  have b8 := big (Nat.lt_of_le_of_lt hbe e8)
  refine call fn_law_hang rfl rfl (b_add (b_add (.range2 rfl rfl b8.1 b8.2 (big e8).1 (big e8).2 (new_ fun rl σ1 E1 hrl hr0 => ?_))))
  have er : rangeL ((b : Int) + 1) (e + 1) = (List.range' (b + 1) (e - b)).map fun (j : Nat) => V.int j := by
    rw [rangeL, show ((e : Int) + 1 - (b + 1)).toNat = e - b by lia, List.range'_eq_map_range, List.map_map]
    exact List.map_congr_left fun x _ => congrArg V.int (Int.natCast_add (b + 1) x).symm
  have N1 := N.grow E1
  have slA : ∀ i, i < W.k → rl ≠ W.A i := fun i hi => let ⟨r, hr⟩ := N.row hi; (ne_of (N.3.1 i r hr) hr0).symm
  have fin := for_al (f := fun (j : Nat) => V.int j) (F := fun x => [some (.ref W.wt), some (.int b), some (.int e), x]) (List.range' (b + 1) (e - b)) (J := fun d _ σ2 => Stl W σ1 σ2 rows (hangR rows b (b + 1 + d.length))) (ok := Same (.ref rl) σ1) (Q := seqR (awpSs (callSem n) [] (kEnd Q)) (kEnd Q)) (step := fun v R m => asg (callSem n) (.one (.loc 3)) (awpSs (callSem n) [.assign (.one (.sub (.sub (.sub (.loc 0) (.lit (.int (0)))) (.loc 3)) (.lit (.int (2))))) (.lit (.bool true))] R) m v)
    (fun J => same_range hrl (J.1 _ _ slA hrl)) ?_ ?_ (d := []) (b := none) rfl ⟨Md.refl σ1, by rw [hang_no (b := b) (e := b + 1 + [].length) (Nat.le_refl _)]; exact N1.3, upd_gm⟩
  · rw [← er] at fin
    exact .mk (.range rfl hrl) fin
  · rintro d j r x σ2 R h J hR -
    obtain ⟨rfl, h'⟩ := range_split h
    have N2 := N1.go J
    have hj : b + 1 + d.length < W.k := Nat.lt_of_le_of_lt (by lia) he
    obtain ⟨r, hr⟩ := N.row hj
    refine u_t (N2.2 _ _ N.1.1) i0 (u_l (N2.2 _ _ N.1.2) (rowIdx hj N.1.6) (N2.set (hang_at hr) { r with u := true } (by decide) (show 2 < 6 by decide) rfl rfl fun σ3 T => hR _ σ3 ?_))
    rw [List.length_append]
    exact hang_more hr (Nat.lt_of_lt_of_le (Nat.lt_succ_self b) (Nat.le_add_right _ _)) ▸ J.trans T
  · intro x σ2 J
    rw [List.length_range', show b + 1 + (e - b) = e + 1 by lia] at J
    exact q σ2 (.after E1 J)
end
end Mine
end
section
open PySem
namespace Mine
-- Q14
section
variable {τ σ σ' : Sg} {W : Vd} {rows : List Rw} {n i : Nat} {Q : Po} {R : Ps} {r : Rw} {U : Lu} {t : Cx3} {mask : Int}
noncomputable def lprB : S := .ite (.bcall "isinstance" [(.loc 2), (.lit (.ref 723))]) [
      .assign (.one (.loc 7)) (.meth (.attr (.loc 2) "pairs") "get" [(.tup [(.loc 5), (.loc 6)])])] [
      .assign (.one (.loc 7)) (.sub (.sub (.attr (.loc 2) "rows") (.meth (.attr (.attr (.loc 2) "firsts") "classes") "get" [(.loc 5), (.lit (.int (0)))])) (.meth (.attr (.attr (.loc 2) "seconds") "classes") "get" [(.loc 6), (.lit (.int (0)))])),
      .assign (.one (.loc 7)) (.ite (.cmp .In (.loc 5) (.attr (.attr (.loc 2) "coverage") "glyphs")) (.loc 7) (.lit .none))]
theorem l_find {g1 g2 : Int} {x0 x1 x3 x4 x7 : Option V} : ∀ {t : Tp}, RTp σ t → (∀ σ', Ext σ σ' → R .next [x0, x1, some t.v, x3, x4, some (.int g1), some (.int g2), some (pvV (pairF t g1 g2))] σ') → awpS (callSem n) lprB R [x0, x1, some t.v, x3, x4, some (.int g1), some (.int g2), x7] σ
  | .gl0 .., h, q => isi_ h.1 rfl (.t rfl (g_ h.1 rfl (m_get h.2 (new_ fun p σ1 E1 hp _ => .none rfl rfl (E1 _ _ h.2) hp (q σ1 E1)))))
  | .gl .., h, q => isi_ h.1 rfl (.t rfl (g_ h.1 rfl (m_tget h.2 (new_ fun p σ1 E1 hp _ => .tget rfl rfl (E1 _ _ h.2) hp (by rw [gl_get, pvV_map]; exact q σ1 E1)))))
  | .cl a d cov f1 f2 R' sec rows, h, q => by
    obtain ⟨e, x, e1, m1, e2, m2, i1, i2⟩ := cl_at h.6 h.7 (h.8 g1) (h.9 g2)
    rw [pairF, e1, Option.bind_some, e2] at q
    refine isi_ h.1 rfl (.f rfl (g_ h.1 rfl (g_ h.1 rfl (g_ h.3.1 rfl (m_get h.3.2 (t_getD h.3.2 (lookup_int.symm ▸ u_t h.5 i1 (g_ h.1 rfl (g_ h.4.1 rfl (m_get h.4.2 (t_getD h.4.2 (lookup_int.symm ▸ u_t (h.6 e m1).1 i2 (g_ h.1 rfl (g_ h.2.1 rfl (k_inTu h.2.2 inInts (kB (fun c => ?_) fun c => ?_))))))))))))))))
    · rw [c] at q; exact q σ (.refl σ)
    · rw [c] at q; exact q σ (.refl σ)
theorem l_pair (N : Nw τ σ W rows) (hU : RLu τ U) {t : Tp} (ht : RTp τ t) (hi : i < W.k) (q : ∀ σ', Stl W σ σ' rows (prP W.mb U.f t rows i).2 → Q (.int (prP W.mb U.f t rows i).1) σ') : callSem (n + 3) 991 [.ref W.wt, .ref U.l, t.v, .int i] σ Q := by
  have hk := N.1.6
  have tw := N.2 _ _ N.1.1
  have tr := N.2 _ _ N.1.2
  refine callm fn_law_pair [some _, some _, some _, some (.int i), none, none, none, none] rfl rfl rfl (l_beside N hU (.inl ⟨rfl, by lia⟩) ?_)
  unfold prP at q
  rcases bes_next (p := psd W.mb U.f rows) (k := rows.length) (i := i) with e | ⟨j, e, hj, hij⟩
  · rw [e] at q ⊢
    exact k_lt (.t rfl (q σ (N.same (.refl σ))))
  · rw [e, if_neg (Int.not_lt.mpr (Int.natCast_nonneg j)), Int.toNat_natCast] at q
    rw [e]
    rw [N.5] at hj
    obtain ⟨ri, hri⟩ := N.row hi
    obtain ⟨rj, hrj⟩ := N.row hj
    rw [prQ, rowG_at hri, rowG_at hrj] at q
    refine k_lt (.f (decide_eq_false (Int.not_lt.mpr (Int.natCast_nonneg j))) (u_t tw i0 (u_l tr (rowIdx hi hk) (u_l (N.3.1 i ri hri) i0 (u_t tw i0 (u_l tr (rowIdx hj hk) (u_l (N.3.1 j rj hrj) i0 (new_ fun tt σ1 E1 htt _ => .mk rfl htt rfl ?_))))))))
    have N1 := N.grow E1
    refine l_find (ht.ext N1.2) fun σ2 E2 => ?_
    have N2 := N1.grow E2
    cases e2 : pairF t ri.g rj.g with
    | none =>
      rw [e2] at q
      exact k_isT (.t rfl (q σ2 (N.same (E1.trans E2))))
    | some x =>
      rw [e2] at q
      have hx := pair_in ht e2
      refine k_isF (.f rfl (l_hang N2 (Nat.le_of_lt hij) hj fun σ3 T3 => ?_))
      have N3 := N2.go T3
      refine u_t (N3.2 _ _ N.1.1) i0 (u_l (N3.2 _ _ N.1.2) (rowIdx hi hk) (u_t (N3.2 _ _ hx.1) i0 (l_move N3 hi hx.2 fun σ4 T4 => ?_)))
      have N4 := N3.go T4
      refine u_t (N4.2 _ _ N.1.1) i0 (u_l (N4.2 _ _ N.1.2) (rowIdx hj hk) (u_t (N4.2 _ _ hx.1) i1 (l_move N4 hj hx.3 fun σ5 T5 => ?_)))
      have q := q σ5 (.after (E1.trans E2) ((T3.trans T4).trans T5))
      have h5 := ht.ext (N4.go T5).2
      have sec : ∀ {σ : Sg} {P : Po} {t : Tp}, RTp σ t → P (.bool t.sec) σ → AttrK "is_second" P t.v σ := fun {σ P t} h k => match t, h with
        | .gl0 .., h => g_ h.1 rfl k
        | .gl .., h => g_ h.1 rfl k
        | .cl .., h => g_ h.1 rfl k
      refine sec h5 ?_
      cases e : t.sec <;> rw [e] at q
      · exact .f rfl q
      · exact .t rfl (b_add q)
theorem lm_inputs {fo sc : Addr} (N : Nw τ σ W rows) (hm : 0 ≤ mask) (hU : RLu τ U) (ht : RCx τ t) (hfo : σ fo = none) {src : List V} (hsc : σ sc = some (.tup src)) {σ1 : Sg} (h1 : σ1 sc = some (.tup src)) {v3 v4 v7 : Option V} (ps : List Pt) :
    ∀ {acc : List Int} {last : Int} {σ2 : Sg} {x y : Option V}, (∀ p ∈ ps, RPt τ t.form p) → Ext σ σ2 → σ2 fo = some (.list (acc.map .int)) → acc.getLast? = some last → 0 ≤ last → acc.length + ps.length ≤ 500 →
      (∀ m σ', Ext σ σ' → inputs (fdI W.mb U.f rows mask) (ps.map (tsOf t.form t.c1.es)) last acc = none → R (.ret .none) m σ') →
      (∀ xs x y σ', Ext σ σ' → inputs (fdI W.mb U.f rows mask) (ps.map (tsOf t.form t.c1.es)) last acc = some xs → σ' fo = some (.list (xs.map .int)) → R .next [some (.ref W.wt), some (.ref U.l), some (.ref t.a), v3, v4, some (.int mask), some (.ref fo), v7, x, y, none] σ') →
      forL (Same (.ref sc) σ1) (fun v R m => asg (callSem (n + 2)) (.one (.loc 8)) (awpSs (callSem (n + 2)) [.assign (.one (.loc 9)) (.fcall 970 [(.loc 0), (.loc 1), (.sub (.loc 6) (.neg (.lit (.int (1))))), (.lit (.int (1)))]),
      .ite (.or (.cmp .Lt (.loc 9) (.lit (.int (0)))) (.or (.not (.fcall 956 [(.loc 2), (.loc 8), (.lit (.int (1))), (.sub (.sub (.sub (.loc 0) (.lit (.int (0)))) (.loc 9)) (.lit (.int (0))))])) (.cmp .Eq (.bin .BitAnd (.sub (.sub (.sub (.loc 0) (.lit (.int (0)))) (.loc 9)) (.lit (.int (1)))) (.loc 5)) (.lit (.int (0)))))) [
        .ret (.lit .none)] [],
      .expr (.meth (.loc 6) "append" [(.loc 9)])] R) m v)
        (ps.map Pt.v) R [some (.ref W.wt), some (.ref U.l), some (.ref t.a), v3, v4, some (.int mask), some (.ref fo), v7, x, y, none] σ2 := by
  induction ps with
  | nil => exact fun {acc last σ2 x y} _ E hf _ _ _ _ q => f_nil (same_tup h1 (E _ _ hsc)) (q acc x y σ2 E rfl hf)
  | cons p ps ih =>
    refine fun {acc last σ2 x y} hp E hf hl h0 hn q0 q => f_cons (same_tup h1 (E _ _ hsc)) ?_
    have N2 := N.grow E
    have hk := N.1.6
    have e : ∀ b, bes (psd W.mb U.f rows) rows.length 1 10 (last + 1) = b → inputs (fdI W.mb U.f rows mask) ((p :: ps).map (tsOf t.form t.c1.es)) last acc = if fndB (okAt rows (tsOf t.form t.c1.es p) mask true) b < 0 then none else inputs (fdI W.mb U.f rows mask) (ps.map (tsOf t.form t.c1.es)) (fndB (okAt rows (tsOf t.form t.c1.es p) mask true) b) (acc ++ [fndB (okAt rows (tsOf t.form t.c1.es p) mask true) b]) := fun b e => by rw [← e]; rfl
    refine u_l hf (.last (getLast_map hl)) (l_beside N2 hU (.inl ⟨rfl, by lia⟩) ?_)
    rcases bes_val (p := psd W.mb U.f rows) (k := rows.length) (s := 1) (j := 10) (h := last + 1) with eb | ⟨j, eb, hj, -⟩
    · rw [eb]
      exact k_lt (.t rfl (.t rfl (q0 _ σ2 E ((e _ eb).trans rfl))))
    · rw [eb]
      rw [N.5] at hj
      have e := e _ eb
      obtain ⟨r, hr⟩ := N.row hj
      have tw := N2.2 _ _ N.1.1
      have no : (fitsT (tsOf t.form t.c1.es p) r.g && (borne r.m mask || !true)) = false → ∀ m, R (.ret .none) m σ2 := fun h m => q0 m σ2 E (e.trans (by rw [okAt_f hr h]; rfl))
      refine k_lt (.f (decide_eq_false (Int.not_lt.mpr (Int.natCast_nonneg j))) (u_t tw i0 (u_l (N2.2 _ _ N.1.2) (rowIdx hj hk) (u_l (N2.3.1 j r hr) i0 (l_fits (ht.ext N2.2) ((hp p (.head _)).ext N2.2) (.inr (.inl ⟨rfl, rfl⟩)) (kN (fun h => .t rfl (no (by rw [h]; rfl) _)) fun h => u_t tw i0 (u_l (N2.2 _ _ N.1.2) (rowIdx hj hk) (u_l (N2.3.1 j r hr) i1 (b_and (N.4.at hr).2.1 hm (k_eqi ?_))))))))))
      cases hb : ((((r.m.toNat &&& mask.toNat : Nat) : Int)) == 0) with
      | true => exact .t rfl (no (by rw [h, borne, hb]; rfl) _)
      | false =>
        rw [okAt_t hr h (by rw [borne, hb]; rfl), if_neg (Int.not_lt.mpr (Int.natCast_nonneg j))] at e
        rw [List.length_cons] at hn
        refine .f rfl (m_app hf (t_app hf (by rw [List.length_map]; lia) (ih (fun p h => hp p (.tail _ h)) (E.put hfo) (acc := acc ++ [(j : Int)]) ?_ getLast_snoc (Int.natCast_nonneg j) ?_ (fun m σ' E' h => q0 m σ' E' (e.trans h)) fun xs x y σ' E' h => q xs x y σ' E' (e.trans h))))
        · rw [List.map_append]; exact up_self _ _ _
        · rw [List.length_append]; exact Nat.le_trans (Nat.le_of_eq (Nat.add_right_comm ..)) hn
end
end Mine
end
section
open PySem
namespace Mine
-- Q15
inductive Fz (wt l ta : Addr) (z : Nat) (F : Option V → Int → Mp) : Prop
  | mk (h0 : ∀ x h, sl (F x h) 0 = some (.ref wt)) (h1 : ∀ x h, sl (F x h) 1 = some (.ref l)) (h2 : ∀ x h, sl (F x h) 2 = some (.ref ta)) (hz : ∀ x h, sl (F x h) z = some (.int h)) (s8 : ∀ x h w, st (F x h) 8 w = F (some w) h) (h8 : ∀ w h, sl (F (some w) h) 8 = some w) (sz : ∀ x h h', st (F x h) z (.int h') = F x h')
section
variable {τ σ σ' : Sg} {W : Vd} {rows : List Rw} {n i : Nat} {Q : Po} {R : Ps} {r : Rw} {U : Lu} {t : Cx3} {mask : Int} {L : Lw}
theorem lm_around {sc : Addr} (N : Nw τ σ W rows) (hU : RLu τ U) (ht : RCx τ t) {src : List V} (hsc : σ sc = some (.tup src)) {z : Nat} {step j3 : Int} {cd : Cd} (hj : (j3 = 0 ∧ cd = t.c0) ∨ (j3 = 1 ∧ cd = t.c1) ∨ (j3 = 2 ∧ cd = t.c2)) {se : E}
    (hse : ∀ {m : Mp} {Q : Po}, Q (.int step) σ → awpE (callSem (n + 2)) se m Q σ) (hst : step = 1 ∨ step = -1) {F : Option V → Int → Mp} (hF : Fz W.wt U.l t.a z F) (ps : List Pt) :
    ∀ {h : Int} {x : Option V}, (∀ p ∈ ps, RPt τ t.form p) → 0 ≤ h → h < W.k →
      (lasts (fdA W.mb U.f rows mask step) step (ps.map (tsOf t.form cd.es)) h < 0 → ∀ m, R (.ret .none) m σ) → (∀ b x, lasts (fdA W.mb U.f rows mask step) step (ps.map (tsOf t.form cd.es)) h = b → 0 ≤ b → R .next (F x b) σ) →
      forL (Same (.ref sc) σ) (fun v R m => asg (callSem (n + 2)) (.one (.loc 8)) (awpSs (callSem (n + 2)) [.assign (.one (.loc z)) (.fcall 970 [(.loc 0), (.loc 1), (.loc z), se]),
      .ite (.or (.cmp .Lt (.loc z) (.lit (.int (0)))) (.not (.fcall 956 [(.loc 2), (.loc 8), (.lit (.int j3)), (.sub (.sub (.sub (.loc 0) (.lit (.int (0)))) (.loc z)) (.lit (.int (0))))]))) [
        .ret (.lit .none)] []] R) m v) (ps.map Pt.v) R (F x h) σ := by
  induction ps with
  | nil => exact fun {h x} _ h0 _ _ q => f_nil (same_tup hsc hsc) (q h x rfl h0)
  | cons p ps ih =>
    refine fun {h x} hp h0 hk q0 q => f_cons (same_tup hsc hsc) ?_
    show awpSs _ _ _ (st (F x h) 8 p.v) σ
    rw [hF.5]
    refine v_ (hF.1 _ _) (v_ (hF.2 _ _) (v_ (hF.4 _ _) (hse (l_beside N hU (by have := N.1.6; unfold Far; lia) ?_))))
    show awpSs _ _ _ (st (F (some p.v) h) z (.int _)) σ
    rw [hF.7]
    have e : ∀ b, bes (psd W.mb U.f rows) rows.length step 10 (h + step) = b → lasts (fdA W.mb U.f rows mask step) step ((p :: ps).map (tsOf t.form cd.es)) h = if fndB (okAt rows (tsOf t.form cd.es p) mask false) b < 0 then -1 else lasts (fdA W.mb U.f rows mask step) step (ps.map (tsOf t.form cd.es)) (fndB (okAt rows (tsOf t.form cd.es p) mask false) b) := fun b e => by rw [← e]; rfl
    rcases bes_val (p := psd W.mb U.f rows) (k := rows.length) (s := step) (j := 10) (h := h + step) with eb | ⟨j, eb, hj', -⟩
    · rw [eb]
      exact v_ (hF.4 _ _) (k_lt (.t rfl (.t rfl (q0 (by rw [e _ eb]; exact (show (-1 : Int) < 0 by decide)) _))))
    · rw [eb]
      rw [N.5] at hj'
      obtain ⟨r, hr⟩ := N.row hj'
      have e := e _ eb
      refine v_ (hF.4 _ _) (k_lt (.f (decide_eq_false (Int.not_lt.mpr (Int.natCast_nonneg j))) (v_ (hF.3 _ _) (v_ (hF.6 _ _) (v_ (hF.1 _ _) (u_t (N.2 _ _ N.1.1) i0 (v_ (hF.4 _ _) (u_l (N.2 _ _ N.1.2) (rowIdx hj' N.1.6) (u_l (N.3.1 j r hr) i0 (l_fits (ht.ext N.2) ((hp p (.head _)).ext N.2) hj (kN (fun c => q0 ?_ _) fun c => ih (fun p h => hp p (.tail _ h)) (Int.natCast_nonneg j) (Int.ofNat_lt.mpr hj') (fun h => q0 ?_) fun b x h => q b x ?_)))))))))))
      · rw [e, okAt_f hr (by rw [c]; rfl)]; exact (show (-1 : Int) < 0 by decide)
      · rw [e, okAt_t hr c (Bool.or_true _), if_neg (Int.not_lt.mpr (Int.natCast_nonneg j))]; exact h
      · rw [e, okAt_t hr c (Bool.or_true _), if_neg (Int.not_lt.mpr (Int.natCast_nonneg j))]; exact h
theorem l_matched (N : Nw τ σ W rows) (hm : 0 ≤ mask) (hU : RLu τ U) (ht : RCx τ t) {r : Rl} (hr : RRl τ t.form r) (hi : i < W.k)
    (q0 : ∀ σ', Ext σ σ' → matR W.mb U.f rows mask t r i = none → Q .none σ')
    (q : ∀ σ' tt pl ps b e, Ext σ σ' → matR W.mb U.f rows mask t r i = some (ps, b, e) → σ tt = none → σ pl = none → σ' tt = some (.tup [.ref pl, .int b, .int e]) → σ' pl = some (.list (ps.map .int)) → Q (.ref tt) σ') : callSem (n + 3) 998 [.ref W.wt, .ref U.l, .ref t.a, .ref r.a, .int i, .int mask] σ Q := by
  obtain ⟨rw', hrw⟩ := N.row hi
  have hg : fitsT (tsOf t.form t.c1.es r.i0) rw'.g = fitsT (tsOf t.form t.c1.es r.i0) (rowG rows i) := by rw [rowG_at hrw]
  refine callm fn_law_matched [some _, some _, some _, some _, some (.int i), some (.int mask), none, none, none, none, none] rfl rfl rfl (new_ fun fo σ1 E1 hfo hf0 => new_ fun t0 σ2 E2 ht0 htn => .mk rfl ht0 rfl ?_)
  have E02 := E1.trans E2
  have N2 := N.grow E02
  have o2 := N2.2.ob hr.1
  have i2 := N2.2 _ _ hr.3
  refine g_ o2 rfl (u_t i2 i0 (u_t (N2.2 _ _ N.1.1) i0 (u_l (N2.2 _ _ N.1.2) (rowIdx hi N.1.6) (u_l (N2.3.1 i _ hrw) i0 (l_fits (ht.ext N2.2) ((hr.7 _ (.head _)).ext N2.2) (.inr (.inl ⟨rfl, rfl⟩)) (kN (fun h => q0 σ2 E02 ?_) fun h => (g_ o2 rfl (.tup rfl rfl rfl i2 ?_ (by decide) ?_ (new_ fun sc σ3 E3 hsc hs0 => ?_)))))))))
  · have e : insP W.mb U.f rows mask ((r.i0 :: r.ins).map (tsOf t.form t.c1.es)) i = none := by
      show cond (fitsT (tsOf t.form t.c1.es r.i0) (rowG rows i)) _ _ = _
      rw [← hg, h]; rfl
    rw [matR, matP, e]
  · rw [List.length_map]; exact Nat.le_trans (Nat.succ_le_succ hr.11) (by decide)
  · rw [List.length_map]; exact Nat.succ_le_succ (Nat.zero_le _)
  have e : insP W.mb U.f rows mask ((r.i0 :: r.ins).map (tsOf t.form t.c1.es)) i = inputs (fdI W.mb U.f rows mask) (r.ins.map (tsOf t.form t.c1.es)) i [(i : Int)] := by
    show cond (fitsT (tsOf t.form t.c1.es r.i0) (rowG rows i)) _ _ = _
    rw [← hg, h]; rfl
  have E23 := E2.trans E3
  have F3 : Ext σ (hide fo σ3) := (E1.trans E23).toHide hf0
  have NH := N.grow F3
  have hsH := hide_at hsc (ne_of (E2 _ _ hfo) hs0).symm
  refine .mk (.tup rfl hsc) (lm_inputs (fo := fo) NH hm hU ht (hide_self _ _) hsH hsc r.ins (fun p h => hr.7 p (.tail _ h)) hide_ext (acc := [(i : Int)]) (last := (i : Int)) (E23 _ _ hfo) rfl (Int.natCast_nonneg i) (Nat.le_trans (Nat.add_le_add_left hr.11 1) (by decide)) (fun m σ4 E4 h4 => q0 σ4 (F3.trans E4) (by rw [matR, matP, e, h4])) fun xs x y σ4 E4 h4 hx => ?_)
  have E04 := F3.trans E4
  have N4 := NH.grow E4
  rw [matR, matP, e, h4] at q0 q
  dsimp only at q0 q
  obtain ⟨⟨xl, hxl⟩, hall⟩ := insP_all (by rw [N.5]; exact hi) (e.trans h4)
  have hx2 := hall xl (List.mem_of_getLast? hxl)
  rw [hxl, Option.getD_some] at q0 q
  rw [N.5] at hx2
  have b4 := N4.2 _ _ hr.2
  refine g_ (N4.2.ob hr.1) rfl (.mk (.tup rfl b4) (lm_around (mask := mask) (z := 7) (step := -1) (se := .neg (.lit (.int 1))) (j3 := 0) N4 hU ht b4 (.inl ⟨rfl, rfl⟩) (fun q => q) (.inr rfl) (F := fun x h => [some (.ref W.wt), some (.ref U.l), some (.ref t.a), some (.ref r.a), some (.int i), some (.int mask), some (.ref fo), some (.int h), x, y, none]) ⟨fun _ _ => rfl, fun _ _ => rfl, fun _ _ => rfl, fun _ _ => rfl, fun _ _ _ => rfl, fun _ _ => rfl, fun _ _ _ => rfl⟩ r.back hr.6 (Int.natCast_nonneg i) (Int.ofNat_lt.mpr hi) (fun h m => q0 σ4 E04 (if_pos h)) fun b x hb b0 => ?_))
  rw [hb, if_neg (Int.not_lt.mpr b0)] at q0 q
  have a4 := N4.2 _ _ hr.4
  refine u_l hx (.last (getLast_map hxl)) (g_ (N4.2.ob hr.1) rfl (.mk (.tup rfl a4) (lm_around (mask := mask) (z := 10) (step := 1) (se := .lit (.int 1)) (j3 := 2) N4 hU ht a4 (.inr (.inr ⟨rfl, rfl⟩)) (fun q => q) (.inl rfl) (F := fun x h => [some (.ref W.wt), some (.ref U.l), some (.ref t.a), some (.ref r.a), some (.int i), some (.int mask), some (.ref fo), some (.int b), x, y, some (.int h)]) ⟨fun _ _ => rfl, fun _ _ => rfl, fun _ _ => rfl, fun _ _ => rfl, fun _ _ _ => rfl, fun _ _ => rfl, fun _ _ _ => rfl⟩ r.ah hr.8 hx2.1 hx2.2 (fun h m => q0 σ4 E04 (if_pos h)) fun e' x he e0 => ?_)))
  rw [he, if_neg (Int.not_lt.mpr e0)] at q
  exact new_ fun tt σ5 E5 htt ht0 => q σ5 tt fo xs b e' (E04.trans E5) rfl (E04.no ht0) hf0 htt (E5 _ _ hx)
theorem ctx_all {rows : List Rw} {mk : Int → Bool} {g : Int} (hg : rowG rows i = g) : ∀ {rs : List Rl}, (∀ r ∈ rs, ∃ c, r.i0 = .cov c) → ctxP mk L mask t (rs.filter fun r => headCov r g) rows i = ctxP mk L mask t rs rows i
  | [], _ => rfl
  | r :: rs, h => by
    have ih := ctx_all (mk := mk) hg fun r hr => h r (.tail _ hr)
    obtain ⟨c, e⟩ := h r (.head _)
    rw [List.filter_cons]
    by_cases hc : headCov r g = true
    · rw [if_pos hc, ctxP, ctxP, ih]
    · rw [if_neg hc, ih, ctxP]
      have : matR mk L.U2.f rows mask t r i = none := by
        have e2 : insP mk L.U2.f rows mask ((r.i0 :: r.ins).map (tsOf t.form t.c1.es)) i = none := by
          show cond (fitsT (tsOf t.form t.c1.es r.i0) (rowG rows i)) _ _ = _
          rw [hg, e, show fitsT (tsOf t.form t.c1.es (.cov c)) g = false by rw [headCov, e] at hc; exact Bool.eq_false_iff.mpr hc]; rfl
        rw [matR, matP, e2]
      rw [this]
end
end Mine
end
section
open PySem
namespace Mine
-- Q16
noncomputable def lapI : S := .ite (.cmp .Eq (.attr (.loc 4) "kind") (.lit (.str (Str.ofString "adjust")))) [
        .assign (.one (.loc 6)) (.meth (.attr (.loc 5) "values") "get" [(.sub (.sub (.sub (.loc 0) (.lit (.int (0)))) (.loc 2)) (.lit (.int (0))))]),
        .assign (.one (.loc 7)) (.ite (.cmp .Is (.loc 6) (.lit .none)) (.neg (.lit (.int (1)))) (.bin .Add (.loc 2) (.lit (.int (1))))),
        .ite (.cmp .IsNot (.loc 6) (.lit .none)) [
          .expr (.fcall 977 [(.sub (.sub (.loc 0) (.lit (.int (0)))) (.loc 2)), (.loc 6)])] []] [
        .ite (.cmp .Eq (.attr (.loc 4) "kind") (.lit (.str (Str.ofString "pair")))) [
          .assign (.one (.loc 7)) (.fcall 991 [(.loc 0), (.loc 4), (.loc 5), (.loc 2)])] [
          .assign (.one (.loc 7)) (.fcall 1005 [(.loc 0), (.loc 4), (.loc 5), (.loc 2), (.loc 3)])]]
noncomputable def Lap (τ : Sg) (W : Vd) (n : Nat) (num : Int) (i : Nat) (mask : Int) (l : Addr) (v : V) (F : List Rw → Nat → Int × List Rw) : Prop :=
  ∀ (σ : Sg) rows x6 x7 (R : Ps), Nw τ σ W rows → (∀ σ' y6, Stl W σ σ' rows (F rows i).2 → R .next [some (.ref W.wt), some (.int num), some (.int i), some (.int mask), some (.ref l), some v, y6, some (.int (F rows i).1)] σ') →
    awpS (callSem n) lapI R [some (.ref W.wt), some (.int num), some (.int i), some (.int mask), some (.ref l), some v, x6, x7] σ
section
variable {τ σ σ' : Sg} {W : Vd} {rows : List Rw} {n i : Nat} {Q : Po} {R : Ps} {r : Rw} {U : Lu} {t : Cx3} {mask num : Int} {L : Lw}
theorem lap_adj (hi : i < W.k) (hU : RLu τ L.U0) (hk : L.U0.kind = "adjust") {t : Aj} (ht : RAj τ t) : Lap τ W (n + 1) num i mask L.U0.l t.v (adjP t.vals) := fun σ rows x6 x7 R N q => by
  obtain ⟨r, hr⟩ := N.row hi
  have hD := N.2 _ _ ht.2
  have tw := N.2 _ _ N.1.1
  have tr := N.2 _ _ N.1.2
  rw [adjP, rowG_at hr] at q
  refine g_ (N.2.ob hU.1) rfl (k_eqs (b := true) (by rw [hk]; exact beq_self_eq_true _) (.t rfl (g_ (N.2.ob ht.1) rfl (m_get hD (u_t tw i0 (u_l tr (rowIdx hi N.1.6) (u_l (N.3.1 i r hr) i0 (t_get hD ?_))))))))
  rw [aj_lookup]
  cases e : t.vals.lookup r.g with
  | none =>
    rw [e] at q
    exact k_isT (.t rfl (k_inT (.f rfl (q σ _ (N.same (.refl σ))))))
  | some x =>
    rw [e] at q
    exact k_isF (.f rfl (b_add (k_inF (.t rfl (u_t tw i0 (u_l tr (rowIdx hi N.1.6) (l_move N hi (ht.3 _ (lookup_mem e)) fun σ' T => q σ' _ T)))))))
theorem lap_pair (hi : i < W.k) (hU : RLu τ L.U1) (hk : L.U1.kind = "pair") {t : Tp} (ht : RTp τ t) : Lap τ W (n + 3) num i mask L.U1.l t.v (prP W.mb L.U1.f t) := fun σ rows x6 x7 R N q =>
  g_ (N.2.ob hU.1) rfl (k_eqs (b := false) (by rw [hk]; rfl) (.f rfl (g_ (N.2.ob hU.1) rfl (k_eqs (b := true) (by rw [hk]; exact beq_self_eq_true _) (.t rfl (l_pair N hU ht hi fun σ' T => q σ' _ T))))))
theorem lap_loop {α : Type} {f : α → V} {F : α → List Rw → Nat → Int × List Rw} {all : List α} (hU : RLu τ U) {σ1 : Sg} (h1 : σ1 U.T = some (.list U.tabs)) (hs : ∀ t ∈ all, Lap τ W n num i mask U.l (f t) (F t)) (ts : List α) :
    ∀ {σ : Sg} {rows : List Rw} {x y z : Option V}, (∀ t ∈ ts, t ∈ all) → Nw τ σ W rows → (∀ m σ', Stl W σ σ' rows (firstP F ts rows i).2 → (0 ≤ (firstP F ts rows i).1 → R (.ret (.int (firstP F ts rows i).1)) m σ') ∧ ((firstP F ts rows i).1 = -1 → R .next m σ')) →
      forL (Same (.ref U.T) σ1) (fun v R m => asg (callSem n) (.one (.loc 5)) (awpSs (callSem n) [lapI, .ite (.cmp .GtE (.loc 7) (.lit (.int (0)))) [.ret (.loc 7)] []] R) m v)
        (ts.map f) R [some (.ref W.wt), some (.int num), some (.int i), some (.int mask), some (.ref U.l), x, y, z] σ := by
  induction ts with
  | nil => exact fun {σ rows x y z} _ N q => f_nil (same_list h1 (N.2 _ _ hU.2)) ((q _ σ (N.same (.refl σ))).2 rfl)
  | cons t ts ih =>
    refine fun {σ rows x y z} ha N q => f_cons (same_list h1 (N.2 _ _ hU.2)) (hs t (ha t (.head _)) σ rows _ _ _ N fun σ' y6 T => k_ge (kI_ (fun c => ?_) fun c => ih (fun t h => ha t (.tail _ h)) (N.go T) fun m σ'' T' => ?_))
    · rw [firstP, if_pos c] at q
      exact (q _ σ' T).1 c
    · rw [firstP, if_neg c] at q
      exact q m σ'' (T.trans T')
theorem lap_at {α : Type} {f : α → V} {F : α → List Rw → Nat → Int × List Rw} {ts : List α} (N : Nw τ σ W rows) (hU : RLu τ U) (ht : U.tabs = ts.map f) {ls : List V} (hl : τ W.lks = some (.list ls)) (hx : Idx ls num (.ref U.l)) (hs : ∀ t ∈ ts, Lap τ W n num i mask U.l (f t) (F t))
    (q : ∀ σ', Stl W σ σ' rows (firstP F ts rows i).2 → Q (.int (firstP F ts rows i).1) σ') : callSem (n + 1) 1012 [.ref W.wt, .int num, .int i, .int mask] σ Q := by
  refine callm fn_law_apply [some _, some (.int num), some (.int i), some (.int mask), none, none, none, none] rfl rfl rfl (u_t (N.2 _ _ N.1.1) i2 (u_l (N.2 _ _ hl) hx (g_ (N.2.ob hU.1) rfl (.mk (.list rfl (N.2 _ _ hU.2)) ?_))))
  have := lap_loop hU (N.2 _ _ hU.2) hs ts (R := seqR (awpSs (callSem n) [.ret (.neg (.lit (.int 1)))] (kEnd Q)) (kEnd Q)) (x := none) (y := none) (z := none) (fun _ h => h) N fun m σ' T => ⟨fun _ => q σ' T, fun e => by have := q σ' T; rw [e] at this; exact this⟩
  rw [← ht] at this
  exact this
theorem l_in (N : Nw τ σ W rows) (RL : RLw τ W.lks L) (hnum : num = 0 ∨ num = 1) (hi : i < W.k) (q : ∀ σ', Stl W σ σ' rows (inP W.mb L num rows i).2 → Q (.int (inP W.mb L num rows i).1) σ') : callSem (n + 4) 1012 [.ref W.wt, .int num, .int i, .int mask] σ Q := by
  unfold inP at q
  rcases hnum with rfl | rfl
  · exact lap_at N RL.2 RL.8 RL.1 i0 (fun t k => lap_adj hi RL.2 RL.5 (RL.11 t k)) q
  · exact lap_at N RL.3 RL.9 RL.1 i1 (fun t k => lap_pair hi RL.3 RL.6 (RL.12 t k)) q
theorem la_loop {ft pl at_ : Addr} (RL : RLw τ W.lks L) {b e : V} {ps : List Int} (hft : τ ft = some (.tup [.ref pl, b, e])) (hpl : τ pl = some (.list (ps.map .int))) (hall : ∀ x ∈ ps, 0 ≤ x ∧ x < W.k) (hsz : ps.length ≤ 200)
    {cv : List V} (hat : τ at_ = some (.tup cv)) {σ1 : Sg} (h1 : σ1 at_ = some (.tup cv)) {v1 v2 v3 v5 v6 v7 : Option V} (as : List Ac) : ∀ {σ : Sg} {rows : List Rw} {x y : Option V}, (∀ a ∈ as, RAc τ a ∧ AcOk a) → Nw τ σ W rows →
      (∀ σ' x y, Stl W σ σ' rows (actsP W.mb L ps as rows) → R .next [some (.ref W.wt), v1, v2, v3, some (.int mask), v5, v6, v7, some (.ref ft), x, y] σ') →
      forL (Same (.ref at_) σ1) (fun v R m => asg (callSem (n + 4)) (.many [(.loc 9), (.loc 10)]) (awpSs (callSem (n + 4)) [.ite (.cmp .Lt (.loc 9) (.bcall "len" [(.sub (.loc 8) (.lit (.int (0))))])) [
            .expr (.fcall 1012 [(.loc 0), (.loc 10), (.sub (.sub (.loc 8) (.lit (.int (0)))) (.loc 9)), (.loc 4)])] []] R) m v) (as.map Ac.v) R [some (.ref W.wt), v1, v2, v3, some (.int mask), v5, v6, v7, some (.ref ft), x, y] σ := by
  induction as with
  | nil => exact fun {σ rows x y} _ N q => f_nil (same_tup h1 (N.2 _ _ hat)) (q σ x y (N.same (.refl σ)))
  | cons a as ih =>
    refine fun {σ rows x y} ha N q => f_cons (same_tup h1 (N.2 _ _ hat)) (.mk rfl (N.2 _ _ (ha a (.head _)).1) rfl (u_t (N.2 _ _ hft) i0 (len_l (N.2 _ _ hpl) (by rw [List.length_map]; exact Nat.lt_of_le_of_lt hsz (by decide)) (k_lt ?_))))
    have ok := (ha a (.head _)).2
    have ih := fun {σ : Sg} {rows : List Rw} {x y : Option V} => ih (σ := σ) (rows := rows) (x := x) (y := y) fun a h => ha a (.tail _ h)
    rw [List.length_map]
    refine kI_ (fun c => ?_) fun c => ih N fun σ'' x y T => q σ'' x y ?_
    · have hx := List.getElem?_eq_getElem (l := ps) (i := a.i.toNat) ((Int.toNat_lt ok.1).mpr c)
      have hmem := hall _ (List.mem_of_getElem? hx)
      generalize ps[a.i.toNat]'_ = x at hx hmem
      obtain ⟨xn, rfl⟩ := Int.eq_ofNat_of_zero_le hmem.1
      have hxi : Idx (ps.map V.int) a.i (.int xn) := .pos ok.1 (Int.lt_trans ok.2.1 (by decide)) (by rw [List.getElem?_map, hx]; rfl)
      have e1 : actP W.mb L ps a rows = (inP W.mb L a.n rows xn).2 := by rw [actP, hx]; rfl
      exact u_t (N.2 _ _ hft) i0 (u_l (N.2 _ _ hpl) hxi (l_in N RL ok.2.2 (Int.ofNat_lt.mp hmem.2) fun σ' T => ih (N.go T) fun σ'' x y T' => q σ'' x y (by rw [actsP, e1]; exact T.trans T')))
    · have e1 : actP W.mb L ps a rows = rows := by rw [actP, List.getElem?_eq_none (Nat.not_lt.mp fun q => c ((Int.toNat_lt ok.1).mp q))]
      rw [actsP, e1]; exact T
theorem lctx_loop {T : Addr} (RL : RLw τ W.lks L) (hm : 0 ≤ mask) (ht : RCx τ t) (hi : i < W.k) {tl : List V} (hT : τ T = some (.list tl)) {σ1 : Sg} (h1 : σ1 T = some (.list tl)) {v5 v6 : Option V} (rs : List Rl) :
    ∀ {σ : Sg} {x y z w : Option V}, (∀ r ∈ rs, RRl τ t.form r ∧ ∀ a ∈ r.acts, AcOk a) → Nw τ σ W rows → (∀ m σ', Stl W σ σ' rows (ctxP W.mb L mask t rs rows i).2 → (0 ≤ (ctxP W.mb L mask t rs rows i).1 → R (.ret (.int (ctxP W.mb L mask t rs rows i).1)) m σ') ∧ ((ctxP W.mb L mask t rs rows i).1 = -1 → R .next m σ')) →
      forL (Same (.ref T) σ1) (fun v R m => asg (callSem (n + 5)) (.one (.loc 7)) (awpSs (callSem (n + 5)) [
      .assign (.one (.loc 8)) (.fcall 998 [(.loc 0), (.loc 1), (.loc 2), (.loc 7), (.loc 3), (.loc 4)]),
      .ite (.cmp .IsNot (.loc 8) (.lit .none)) [
        .expr (.fcall 984 [(.loc 0), (.sub (.loc 8) (.lit (.int (1)))), (.sub (.loc 8) (.lit (.int (2))))]),
        .for (.many [(.loc 9), (.loc 10)]) (.attr (.loc 7) "actions") [
          .ite (.cmp .Lt (.loc 9) (.bcall "len" [(.sub (.loc 8) (.lit (.int (0))))])) [
            .expr (.fcall 1012 [(.loc 0), (.loc 10), (.sub (.sub (.loc 8) (.lit (.int (0)))) (.loc 9)), (.loc 4)])] []],
        .ret (.bin .Add (.sub (.sub (.loc 8) (.lit (.int (0)))) (.neg (.lit (.int (1))))) (.lit (.int (1))))] []] R) m v)
        (rs.map Rl.v) R [some (.ref W.wt), some (.ref L.U2.l), some (.ref t.a), some (.int i), some (.int mask), v5, v6, x, y, z, w] σ := by
  induction rs with
  | nil => exact fun {σ x y z w} _ N q => f_nil (same_list h1 (N.2 _ _ hT)) ((q _ σ (N.same (.refl σ))).2 rfl)
  | cons r rs ih =>
    refine fun {σ x y z w} ha N q => f_cons (same_list h1 (N.2 _ _ hT)) (l_matched N hm RL.4 ht (ha r (.head _)).1 hi (fun σ2 E2 h => k_inT (.f rfl (ih (fun r h => ha r (.tail _ h)) (N.grow E2) fun m σ' T => ?_))) fun σ2 ft pl ps b e E2 h hf0 hp0 hft hpl => ?_)
    · rw [ctxP, h] at q
      exact q m σ' (.after E2 T)
    · rw [ctxP, h] at q
      have N2 := N.grow E2
      have hr := (ha r (.head _)).1
      obtain ⟨xl, hxl, hall, b0, be, ek, hpsl⟩ := mat_at (by rw [N.5]; exact hi) h
      rw [List.length_map, List.length_cons] at hpsl
      rw [N.5] at ek hall
      obtain ⟨b, rfl⟩ := Int.eq_ofNat_of_zero_le b0
      obtain ⟨e, rfl⟩ := Int.eq_ofNat_of_zero_le (Int.le_trans b0 be)
      dsimp only at q
      rw [hxl, Option.getD_some] at q
      refine k_inF (.t rfl (u_t hft i1 (u_t hft i2 (l_hang N2 (Int.ofNat_le.mp be) (Int.ofNat_lt.mp ek) fun σ3 T3 => ?_))))
      have N3 := N2.cut.go T3
      have ftC := N.fresh hf0 hft
      have plC := N.fresh hp0 hpl
      have hrC := hr.ext N2.ec
      refine g_ (N3.2.ob hrC.1) rfl (.mk (.tup rfl (N3.2 _ _ hrC.5)) (la_loop (RL.ext N2.ec) ftC plC hall (Nat.le_trans hpsl (Nat.le_trans (Nat.add_le_add_right (Nat.succ_le_succ hr.11) 1) (by decide))) hrC.5 (N3.2 _ _ hrC.5) r.acts (fun a h => ⟨hrC.9 a h, (ha r (.head _)).2 a h⟩) N3 fun σ4 x y T4 => ?_))
      have N4 := N3.go T4
      exact u_t (N4.2 _ _ ftC) i0 (u_l (N4.2 _ _ plC) (.last (getLast_map hxl)) (b_add ((q _ σ4 (.after E2 (T3.trans T4))).1 (Int.le_add_one (hall xl (List.mem_of_getLast? hxl)).1))))
theorem l_context (N : Nw τ σ W rows) (RL : RLw τ W.lks L) (hm : 0 ≤ mask) (ht : t ∈ L.cxs) (hi : i < W.k) (q : ∀ σ', Stl W σ σ' rows (cxP W.mb L mask t rows i).2 → Q (.int (cxP W.mb L mask t rows i).1) σ') : callSem (n + 6) 1005 [.ref W.wt, .ref L.U2.l, .ref t.a, .int i, .int mask] σ Q := by
  obtain ⟨r, hr⟩ := N.row hi
  have hx := RL.13 t ht
  have h := hx.ext N.2
  have hg := rowG_at hr
  refine callm fn_law_context [some _, some _, some _, some (.int i), some (.int mask), none, none, none, none, none, none] rfl rfl rfl (u_t (N.2 _ _ N.1.1) i0 (u_l (N.2 _ _ N.1.2) (rowIdx hi N.1.6) (u_l (N.3.1 i r hr) i0 ?_)))
  have rest : ∀ (key : Int), ctxP W.mb L mask t (setL t.sets key) rows i = cxP W.mb L mask t rows i → awpSs (callSem (n + 5)) (fn_law_context.body.drop 3) (kEnd Q) [some (.ref W.wt), some (.ref L.U2.l), some (.ref t.a), some (.int i), some (.int mask), some (.int r.g), some (.int key), none, none, none, none] σ := fun key hc => by
    refine g_ h.1 rfl (m_get h.2 (new_ fun e0 σ1 E1 he he0 => t_getD (E1 _ _ h.2) ?_))
    have N1 := N.grow E1
    obtain ⟨l, e1, hl⟩ := sets_get (g := key) (N.fresh he0 he) fun e k => (hx.3 e k).ext N1.ec
    rw [e1]
    have hl1 := cut_ext _ _ hl.1
    exact .mk (.list rfl hl1) (lctx_loop (RL.ext N1.ec) hm (hx.ext N1.ec) hi hl.1 hl1 _ (fun r k => ⟨hl.2 r k, fun a h => let ⟨e, h1, h2⟩ := setL_sub k; RL.14 t ht e h1 r h2 a h⟩) N1.cut fun m σ' T => by rw [hc] at T ⊢; exact ⟨fun _ => q σ' (.after E1 T), fun e => by have := q σ' (.after E1 T); rw [e] at this; exact this⟩)
  refine g_ h.1 rfl (k_eqi ?_)
  by_cases f1 : t.form = 1
  · exact .f (by rw [f1]; rfl) (.f rfl (g_ h.1 rfl (k_eqi (.t (beq_iff_eq.mpr f1) (rest r.g (by rw [cxP, rulesF1 f1, hg]))))))
  by_cases f2 : t.form = 2
  · have h2 := h.4 f2
    refine .t (beq_iff_eq.mpr f2) (g_ (v := .ref t.cov.a) h.1 (congrArg some (if_pos f2)) (g_ h2.1.1 rfl (k_niT h2.1.2 inInts (kN (fun c => ?_) fun c => ?_))))
    · have e : cxP W.mb L mask t rows i = (-1, rows) := by rw [cxP, rulesF2 f2, hg, c]; rfl
      rw [e] at q
      exact q σ (N.same (.refl σ))
    · exact g_ h.1 rfl (k_eqi (.f (beq_false_of_ne f1) (g_ h.1 rfl (k_eqi (.t (beq_iff_eq.mpr f2) (g_ (v := .ref t.ct) h.1 (congrArg some (if_pos f2)) (u_t h2.2 i1 (g_ h2.4.1 rfl (m_get h2.4.2 (t_getD h2.4.2 (lookup_int.symm ▸ rest _ (by rw [cxP, rulesF2 f2, hg, c]; rfl))))))))))))
  have f3 : t.form = 3 := (h.5.resolve_left f1).resolve_left f2
  refine .f (beq_false_of_ne f2) (.f rfl (g_ h.1 rfl (k_eqi (.f (beq_false_of_ne f1) (g_ h.1 rfl (k_eqi (.f (beq_false_of_ne f2) (rest 0 ?_))))))))
  rw [cxP, rulesF3 f3, hg]
  refine (ctx_all hg fun r hr => ?_).symm
  obtain ⟨e, he, hre⟩ := setL_sub hr
  have hp := ((hx.3 e he).2 r hre).7 r.i0 (.head _)
  cases e : r.i0 <;> rw [e] at hp
  · exact absurd hp (show ¬ (t.form = 1 ∨ t.form = 2) by rw [f3]; decide)
  · exact ⟨_, rfl⟩
theorem lap_ctx (hi : i < W.k) (RL : RLw τ W.lks L) (hm : 0 ≤ mask) (ht : t ∈ L.cxs) : Lap τ W (n + 6) num i mask L.U2.l t.v (cxP W.mb L mask t) := fun σ rows x6 x7 R N q =>
  have ol := N.2.ob RL.4.1
  g_ ol rfl (k_eqs (b := false) (by rcases RL.7 with e | e <;> rw [e] <;> rfl) (.f rfl (g_ ol rfl (k_eqs (b := false) (by rcases RL.7 with e | e <;> rw [e] <;> rfl) (.f rfl (l_context N RL hm ht hi fun σ' T => q σ' _ T))))))
theorem l_apply (N : Nw τ σ W rows) (RL : RLw τ W.lks L) (hm : 0 ≤ mask) (hnum : num = 0 ∨ num = 1 ∨ num = 2) (hi : i < W.k) (q : ∀ σ', Stl W σ σ' rows (apP W.mb L mask num rows i).2 → Q (.int (apP W.mb L mask num rows i).1) σ') : callSem (n + 7) 1012 [.ref W.wt, .int num, .int i, .int mask] σ Q := by
  unfold apP at q
  by_cases h2 : num = 2
  · rw [if_pos h2] at q
    subst h2
    exact lap_at N RL.4 RL.10 RL.1 i2 (fun t k => lap_ctx hi RL hm k) q
  · rw [if_neg h2] at q
    exact l_in N RL (hnum.imp_right fun h => h.resolve_right h2) hi q
noncomputable def lrunB : List S := [
      .assign (.one (.loc 4)) (.neg (.lit (.int (1)))),
      .ite (.and (.cmp .NotEq (.bin .BitAnd (.sub (.sub (.sub (.loc 0) (.lit (.int (0)))) (.loc 3)) (.lit (.int (1)))) (.loc 2)) (.lit (.int (0)))) (.not (.fcall 963 [(.loc 0), (.sub (.sub (.loc 0) (.lit (.int (2)))) (.loc 1)), (.loc 3)]))) [
        .assign (.one (.loc 4)) (.fcall 1012 [(.loc 0), (.loc 1), (.loc 3), (.loc 2)])] [],
      .assign (.one (.loc 3)) (.ite (.cmp .Gt (.loc 4) (.loc 3)) (.loc 4) (.bin .Add (.loc 3) (.lit (.int (1)))))]
theorem lrun_tail {X : Mp → Sg → Prop} {w a : Int} {v0 v1 v2 : Option V} (h : X [v0, v1, v2, some (.int (max w (a + 1))), some (.int w)] σ) : awpSs (callSem n) (lrunB.drop 2) (seqR X R) [v0, v1, v2, some (.int a), some (.int w)] σ :=
  k_gt (kI_ (fun c => by rw [Int.max_eq_left (Int.add_one_le_of_lt c)] at h; exact h) fun c => b_add (by rw [Int.max_eq_right (Int.le_add_one (Int.not_lt.mp c))] at h; exact h))
theorem lrun_loop (RL : RLw τ W.lks L) (hm : 0 ≤ mask) (hnum : num = 0 ∨ num = 1 ∨ num = 2) (hx : Idx [.ref L.U0.l, .ref L.U1.l, .ref L.U2.l] num (.ref (L.u num).l)) (hU : RLu τ (L.u num)) (j : Nat) :
    ∀ (a : Nat) {rows : List Rw} {σ : Sg} {x4 : Option V}, W.k ≤ a + j → Nw τ σ W rows → (∀ σ' m, Stl W σ σ' rows (runP W.mb L mask num j a rows) → R .next m σ') →
      whileN (awpC (callSem (n + 7)) (.cmp .Lt (.loc 3) (.bcall "len" [(.sub (.loc 0) (.lit (.int (0))))]))) (awpSs (callSem (n + 7)) lrunB) (j + 1) R [some (.ref W.wt), some (.int num), some (.int mask), some (.int a), x4] σ := by
  have test : ∀ {a : Nat} {rows : List Rw} {σ : Sg} {x4 : Option V} {T : Tst}, Nw τ σ W rows → (a < W.k → T true σ) → (¬ a < W.k → T false σ) → awpC (callSem (n + 7)) (.cmp .Lt (.loc 3) (.bcall "len" [(.sub (.loc 0) (.lit (.int (0))))])) [some (.ref W.wt), some (.int num), some (.int mask), some (.int a), x4] T σ := fun {a rows σ x4 T} N h1 h2 => by
    refine u_t (N.2 _ _ N.1.1) i0 (len_l (N.2 _ _ N.1.2) (by rw [rowLen]; exact Nat.lt_trans N.1.6 (by decide)) (k_lt ?_))
    rw [rowLen]
    by_cases c : a < W.k
    · rw [decide_eq_true (Int.ofNat_lt.mpr c)]; exact h1 c
    · rw [decide_eq_false fun q => c (Int.ofNat_lt.mp q)]; exact h2 c
  induction j with
  | zero => exact fun a {rows σ x4} hj N q => test N (fun c => absurd c (Nat.not_lt.mpr hj)) fun _ => .f rfl (q σ _ (N.same (.refl σ)))
  | succ j ih =>
    refine fun a {rows σ x4} hj N q => test N (fun ha => .t rfl ?_) fun c => .f rfl (q σ _ (by rw [runP, if_neg (by rw [N.5]; exact c)]; exact N.same (.refl σ)))
    obtain ⟨r, hr⟩ := N.row ha
    rw [runP, if_pos (by rw [N.5]; exact ha)] at q
    have tw := N.2 _ _ N.1.1
    have fin : ∀ (w : Int) rows' σ', Stl W σ σ' rows rows' → stepP W.mb L mask num rows a = (w, rows') → awpSs (callSem (n + 7)) (lrunB.drop 2) (seqR (whileN (awpC (callSem (n + 7)) (.cmp .Lt (.loc 3) (.bcall "len" [(.sub (.loc 0) (.lit (.int (0))))]))) (awpSs (callSem (n + 7)) lrunB) (j + 1) R) R)
        [some (.ref W.wt), some (.int num), some (.int mask), some (.int a), some (.int w)] σ' := fun w rows' σ' T e => by
      rw [e] at q
      refine lrun_tail ?_
      have h1 : ((max w ((a : Int) + 1)).toNat : Int) = max w ((a : Int) + 1) := Int.toNat_of_nonneg (Int.le_trans (Int.natCast_nonneg (a + 1)) (Int.le_max_right ..))
      rw [← h1]
      exact ih _ (by have := Int.le_max_right w ((a : Int) + 1); lia) (N.go T) fun σ'' m T' => q σ'' m (T.trans T')
    refine u_t tw i0 (u_l (N.2 _ _ N.1.2) (rowIdx ha N.1.6) (u_l (N.3.1 a r hr) i1 (b_and (N.4.at hr).2.1 hm (k_nei (kB (fun hb => u_t tw i2 (u_l (N.2 _ _ RL.1) hx (l_passed N hU ha (kN (fun hp => l_apply N RL hm hnum ha fun σ3 T => fin _ _ σ3 T ?_) fun hp => fin (-1) rows σ (N.same (.refl σ)) ?_)))) fun hb => .f rfl (fin (-1) rows σ (N.same (.refl σ)) ?_))))))
    · rw [stepP, rowM_at hr, hp, show borne r.m mask = true from hb]; rfl
    · rw [stepP, rowM_at hr, hp, Bool.not_true, Bool.and_false]; rfl
    · rw [stepP, rowM_at hr, show borne r.m mask = false from hb]; rfl
theorem l_run (N : Nw τ σ W rows) (RL : RLw τ W.lks L) (hm : 0 ≤ mask) (hnum : num = 0 ∨ num = 1 ∨ num = 2) (q : ∀ σ', Stl W σ σ' rows (runP W.mb L mask num 8 0 rows) → Q .none σ') : callSem (n + 8) 1019 [.ref W.wt, .int num, .int mask] σ Q := by
  have h : Idx [.ref L.U0.l, .ref L.U1.l, .ref L.U2.l] num (.ref (L.u num).l) ∧ RLu τ (L.u num) := by
    rcases hnum with rfl | rfl | rfl
    · exact ⟨i0, RL.2⟩
    · exact ⟨i1, RL.3⟩
    · exact ⟨i2, RL.4⟩
  exact call fn_law_run rfl rfl (.mk 9 (lrun_loop RL hm hnum h.1 h.2 8 0 (Nat.le_trans (Nat.le_of_lt N.1.6) (by decide)) N fun σ' m T => q σ' T))
end
end Mine
end
section
open PySem
namespace Mine
-- Q17
inductive Cells (p : Addr) (τ σ : Sg) (N : Nat) : Prop
  | mk (cl : Addr) (cs : List Int) (s x : Int) (h : σ p = some (.list [.ref cl, .int s, .int x])) (k : τ cl = some (.list (cs.map .int))) (l : cs.length ≤ 40) (s0 : 0 ≤ s) (s1 : s + N ≤ 100000)
inductive Pn (p : Addr) (τ μ σ : Sg) (N : Nat) : Prop
  | mk (E : Ext τ σ) (F : Ext μ σ) (D : ∀ a c, μ a = some c → τ a = none) (t0 : τ p = none) (m0 : μ p = none) (c : Cells p τ σ N)
noncomputable def see (p : Addr) (μ σ : Sg) : Sg := fun a => if a = p then none else Option.rec (σ a) (fun _ => none) (μ a)
section
variable {p a K : Addr} {τ μ μ' σ σ' : Sg} {N n : Nat} {c c0 : C} {Q : Po} {P : Sg → Prop} {R : Prop}
theorem see_at (h : σ a = some c) (h1 : a ≠ p) (h2 : μ a = none) : see p μ σ a = some c := by rw [see, if_neg h1, h2]; exact h
theorem see_no (h : μ a = some c) : see p μ σ a = none := by
  rw [see, h]
  split <;> rfl
theorem see_ext : Ext (see p μ σ) σ := fun a c e => by
  unfold see at e
  split at e
  · cases e
  · cases h : μ a <;> rw [h] at e
    · exact e
    · cases e
theorem Cells.ext {τ' : Sg} (h : Cells p τ σ N) (T : Ext τ τ') (e : ∀ c, σ p = some c → σ' p = some c) : Cells p τ' σ' N := let ⟨cl, cs, s, x, h, k, l, s0, s1⟩ := h; ⟨cl, cs, s, x, e _ h, T _ _ k, l, s0, s1⟩
theorem Cells.some (h : Cells p τ σ N) : ∃ c, σ p = some c := let ⟨_, _, _, _, h, _, _, _, _⟩ := h; ⟨_, h⟩
theorem Pn.le {M : Nat} (H : Pn p τ μ σ M) (h : N ≤ M) : Pn p τ μ σ N := ⟨H.1, H.2, H.3, H.4, H.5, let ⟨cl, cs, s, x, h', k', l, s0, s1⟩ := H.6; ⟨cl, cs, s, x, h', k', l, s0, Int.le_trans (Int.add_le_add_left (Int.ofNat_le.mpr h) s) s1⟩⟩
theorem Pn.less (k : Nat) (H : Pn p τ μ σ (N + k)) : Pn p τ μ σ N := H.le (Nat.le_add_right N k)
theorem Pn.grow (H : Pn p τ μ σ N) (E : Ext σ σ') : Pn p τ μ σ' N := ⟨H.1.trans E, H.2.trans E, H.3, H.4, H.5, H.6.ext (.refl τ) (E p)⟩
theorem Pn.mno (H : Pn p τ μ σ N) (h : τ a = some c) : μ a = none := by
  cases e : μ a
  · rfl
  · exact nomatch (H.3 _ _ e).symm.trans h
theorem Pn.seal (H : Pn p τ μ' σ N) (h : Ext μ μ') (E : Ext σ σ') (q : ∀ τ', Ext τ τ' → (∀ a c, σ' a = some c → a ≠ p → μ a = none → τ' a = some c) → Pn p τ' μ σ' N → R) : R :=
  have T : Ext τ (see p μ σ') := fun _ _ e => see_at (E _ _ (H.1 _ _ e)) (ne_of e H.4) (h.no (H.mno e))
  q _ T (fun _ _ => see_at) ⟨see_ext, (h.trans H.2).trans E, fun _ _ => see_no, if_pos rfl, h.no H.5, H.6.ext T (E p)⟩
theorem pnew (H : Pn p τ μ σ N) (q : ∀ l τ' σ', Ext τ τ' → Pn p τ' μ σ' N → τ' l = some c → Q (.ref l) σ') : New σ c Q :=
  new_ fun l σ1 E h h0 => H.seal (.refl μ) E fun τ' T at_ H' => q l τ' σ1 T H' (at_ l c h (let ⟨_, k⟩ := H.6.some; (ne_of k h0).symm) (H.2.no h0))
theorem up_cases {P : Prop} {c' : C} (h : up σ K c a = some c') (h1 : a = K → c = c' → P) (h2 : a ≠ K → σ a = some c' → P) : P := by
  unfold up at h
  split at h
  · exact h1 ‹_› (Option.some.inj h)
  · exact h2 ‹_› h
theorem Pn.turn (H : Pn p τ μ σ N) (h : τ K = none) (hp : p ≠ K) : Pn p τ (up μ K c) (up σ K c) N :=
  ⟨H.1.put h, fun a c' e => up_cases e (fun q q' => q' ▸ q ▸ up_self _ _ _) fun q e => (up_ne q).trans (H.2 _ _ e), fun a c' e => up_cases e (fun q _ => q ▸ h) fun _ e => H.3 _ _ e, H.4, (up_ne hp).trans H.5, H.6.ext (.refl τ) fun c' e => (up_ne hp).trans e⟩
theorem pmut (H : Pn p τ μ σ N) (q : ∀ l σ', μ l = none → Pn p τ (up μ l c) σ' N → Q (.ref l) σ') : New σ c Q :=
  ⟨fun l h0 => q l _ (H.2.no h0) (H.turn (H.1.no h0) (let ⟨_, k⟩ := H.6.some; ne_of k h0))⟩
theorem Pn.at (H : Pn p τ (up μ K c) σ N) : σ K = some c := H.2 _ _ (up_self _ _ _)
theorem Pn.put (H : Pn p τ μ σ N) (h : μ K = some c0) : Pn p τ (up μ K c) (up σ K c) N := H.turn (H.3 _ _ h) (ne_of h H.5).symm
theorem up_up {σ : Sg} {c c' : C} : up (up σ a c) a c' = up σ a c' := by
  funext b
  unfold up
  split <;> rfl
theorem Pn.reput {c' : C} (H : Pn p τ (up μ K c) σ N) : Pn p τ (up μ K c') (up σ K c') N := by
  have := H.put (c := c') (up_self μ K c)
  rwa [up_up] at this
theorem up_ext (h : μ K = none) : Ext μ (up μ K c) := (Ext.refl μ).put h
theorem Pn.pen {cl : Addr} {cs : List Int} {s x : Int} {M : Nat} (H : Pn p τ μ σ M) (k : τ cl = some (.list (cs.map .int))) (l : cs.length ≤ 40) (s0 : 0 ≤ s) (s1 : s + N ≤ 100000) : Pn p τ μ (up σ p (.list [.ref cl, .int s, .int x])) N :=
  ⟨H.1.put H.4, H.2.put H.5, H.3, H.4, H.5, cl, cs, s, x, up_self _ _ _, k, l, s0, s1⟩
theorem Pn.drop (H : Pn p τ μ' σ N) (h : Ext μ μ') : Pn p τ μ σ N := ⟨H.1, h.trans H.2, fun a c e => H.3 a c (h a c e), H.4, h.no H.5, H.6⟩
theorem Pn.ini {x d k : Addr} {fs : List (String × V)} (H : Pn p τ μ σ N) (I : Ini σ σ' x d k fs) (q : ∀ τ', Ext τ τ' → Pn p τ' μ σ' N → Ob τ' x d k fs → R) : R :=
  H.seal (.refl μ) I.1 fun τ' T at_ H' => q τ' T H' (let ⟨_, h⟩ := H.6.some; ⟨at_ _ _ I.2.1 (ne_of h I.3).symm (H.2.no I.3), at_ _ _ I.2.2 (ne_of h I.4).symm (H.2.no I.4)⟩)
theorem up_id (h : σ a = some c) : up σ a c = σ := by
  funext b
  unfold up
  split
  · rename_i q; rw [q]; exact h.symm
  · rfl
theorem Pn.mini {x d k : Addr} {fs : List (String × V)} (H : Pn p τ μ σ N) (I : Ini σ σ' x d k fs) (q : ∀ τ', Ext τ τ' → Pn p τ' (up μ d (.ns x fs)) σ' N → τ' x = some (.inst k d) → μ d = none → R) : R := by
  obtain ⟨_, h⟩ := H.6.some
  have H1 := (H.grow I.1).turn (c := .ns x fs) (H.1.no I.4) (ne_of h I.4)
  rw [up_id I.2.2] at H1
  have xd : x ≠ d := fun e => nomatch (e ▸ I.2.1).symm.trans I.2.2
  exact H1.seal (.refl _) (.refl _) fun τ' T at_ H2 => q τ' T H2 (at_ _ _ I.2.1 (ne_of h I.3).symm ((up_ne xd).trans (H.2.no I.3))) (H.2.no I.4)
theorem draw1 {x s : Int} (h : 0 ≤ x) (h' : x < 2147483587) (s0 : 0 ≤ s) (s1 : s ≤ 100000) : (x + 20947 * s + 3571).natAbs < 2 ^ 64 := by lia
theorem draw2 {y s : Int} (h : 0 ≤ y) (h' : y < 2147483629) (s0 : 0 ≤ s) (s1 : s ≤ 100000) : (y * (2 * s + 7207) + 20947 * s * s + 31).natAbs < 2 ^ 64 := by
  have b1 : 0 ≤ y * (2 * s + 7207) := Int.mul_nonneg h (by lia)
  have b2 : y * (2 * s + 7207) ≤ 2147483629 * 300000 := Int.mul_le_mul (Int.le_of_lt h') (by lia) (by lia) (by decide)
  have b3 : 0 ≤ 20947 * s * s := Int.mul_nonneg (by lia) s0
  have b4 : 20947 * s * s ≤ 2094700000 * 100000 := Int.mul_le_mul (by lia) s1 s0 (by decide)
  lia
theorem c_draw (H : Pn p τ μ σ (N + 1)) {many : Int} (hm : 0 < many) (hm' : many < 2 ^ 64) (q : ∀ σ' v, Pn p τ μ σ' N → 0 ≤ v → v < many → Q (.int v) σ') : callSem (n + 1) 920 [.ref p, .int many] σ Q := by
  obtain ⟨cl, cs, s, x, h, k, l, s0, s1⟩ := H.6
  have s2 : s + N ≤ 100000 := by lia
  have sb : s ≤ 100000 := by lia
  have q' : ∀ σ' w, Pn p τ μ σ' N → Q (.int (w % many)) σ' := fun σ' w P => q σ' _ P (Int.emod_nonneg _ (Int.ne_of_gt hm)) (Int.emod_lt_of_pos _ hm)
  refine callm fn_law_draw [some _, some (.int many), none, none, none, none, none] rfl rfl rfl (u_l h i2 (k_gt (kI_ (fun hex => ?_) fun hex => ?_)))
  · exact u_l h i2 (.int rfl rfl (b_mod hm (u_l h i2 (.int rfl rfl (b_fdiv hm hm' (.list rfl rfl h (by decide) (show 2 < 3 by decide) (by decide) (q' _ _ (H.pen k l s0 s2))))))))
  refine u_l h i1 (b_add (.list rfl rfl h (by decide) (show 1 < 3 by decide) (by decide) ?_))
  have H1 : Pn p τ μ (up σ p (.list [.ref cl, .int (s + 1), .int x])) N := H.pen k l (Int.le_add_one s0) (by lia)
  have h1 : up σ p (.list [.ref cl, .int (s + 1), .int x]) p = _ := up_self _ _ _
  revert H1 h1
  show _ → _ → awpSs _ _ _ _ (up σ p (.list [.ref cl, .int (s + 1), .int x]))
  generalize up σ p (.list [.ref cl, .int (s + 1), .int x]) = σ1
  intro H1 h1
  refine b_mul (.inl (by decide)) (b_add (u_l h1 i0 (.list rfl (H1.1 _ _ k) (by rw [List.length_map]; lia) (.to (by decide) (by decide)) (new_ fun sl σ2 E2 hsl _ => .sum rfl rfl (is := cs.take 1) (by rw [List.map_take]; exact hsl) (.int rfl rfl (b_mod (by decide) (b_add ?_)))))))
  generalize 20947 * s + 3571 + (cs.take 1).sum % 1000003 = cell0
  refine u_l (E2 _ _ h1) i0 (new_ fun e0 σ3 E3 he0 h0 => ?_)
  have H3 := (H1.grow E2).grow E3
  have h3 := E3 _ _ (E2 _ _ h1)
  have k3 := H3.1 _ _ k
  have nce : cl ≠ e0 := ne_of ((H1.grow E2).1 _ _ k) h0
  have kl : (cs.map V.int).length < 2 ^ 62 := by rw [List.length_map]; lia
  have tail : ∀ cell : Int, awpSs (callSem n) (fn_law_draw.body.drop 5) (kEnd Q) [some (.ref p), some (.int many), none, some (.int s), some (.int cell), none, none] σ3 := fun cell => by
    have last : awpSs (callSem n) (fn_law_draw.body.drop 6) (kEnd Q) [some (.ref p), some (.int many), none, some (.int s), some (.int cell), none, none] σ3 := by
      refine .int rfl rfl (b_mod (by decide) (b_mul (.inl (by decide)) (b_add (b_add (b_pow (draw1 (Int.emod_nonneg _ (by decide)) (Int.emod_lt_of_pos _ (by decide)) s0 sb) (by decide) (by decide) (.int rfl rfl (b_mod (by decide) ?_)))))))
      generalize (cell % 2147483587 + 20947 * s + 3571) ^ (5 : Int).toNat = y
      have y0 : 0 ≤ y % 2147483629 := Int.emod_nonneg _ (by decide)
      have y1 : y % 2147483629 < 2147483629 := Int.emod_lt_of_pos _ (by decide)
      refine b_mul (.inl (by decide)) (b_add (b_mul (.inl (by lia)) (b_mul (.inl (by decide)) (b_mul (.inr (by lia)) (b_add (b_add (b_pow (draw2 y0 y1 s0 sb) (by decide) (by decide) (.int rfl rfl (b_mod (by decide) ?_)))))))))
      exact b_fdiv (by decide) (by decide) (.int rfl rfl (b_mod hm (q' σ3 _ H3)))
    refine u_l h3 i0 (len_l k3 kl (k_lt (kI_ (fun c1 => .abs rfl rfl (b_pow (by decide) (by decide) (by decide) (k_ge (kI_ (fun c2 => ?_) fun c2 => last)))) fun c1 => .f rfl last)))
    refine .abs rfl rfl (b_pow (by decide) (by decide) (by decide) (b_sub (b_mul (.inl (by decide)) (k_lt (.intB rfl rfl (b_add (.int rfl rfl (b_fdiv hm hm' (.list rfl rfl h3 (by decide) (show 2 < 3 by decide) (by decide) (.int rfl rfl (b_mod hm ?_))))))))))) 
    exact q' _ _ (H3.pen k l (Int.le_add_one s0) (by lia))
  cases cs with
  | nil => exact .ne (.list rfl rfl k3 he0 nce .nil) rfl (.f rfl (tail cell0))
  | cons y r =>
    have hl0 : (0 : Int) < ((y :: r).map V.int).length := Int.ofNat_lt.mpr (Nat.succ_pos _)
    refine .ne (.len rfl rfl k3 he0 nce (Nat.succ_ne_zero _) rfl) rfl (.t rfl (u_l h3 i0 (.int rfl rfl (u_l h3 i0 (len_l k3 kl (b_mod hl0 ?_))))))
    have j0 : 0 ≤ s % (((y :: r).map V.int).length : Int) := Int.emod_nonneg _ (Int.ne_of_gt hl0)
    have j1 : s % (((y :: r).map V.int).length : Int) < ((y :: r).map V.int).length := Int.emod_lt_of_pos _ hl0
    rw [List.length_map] at j0 j1 ⊢
    have hj : (s % ((y :: r).length : Int)).toNat < (y :: r).length := (Int.toNat_lt j0).mpr j1
    exact .list rfl rfl k3 (.pos j0 (by lia) (by rw [List.getElem?_map, List.getElem?_eq_getElem hj]; rfl)) (tail _)
end
end Mine
end
section
open PySem
namespace Mine
-- Q18
section
variable {p a K l : Addr} {τ μ σ : Sg} {N n x : Nat} {c : C} {Q : Po} {m : Mp} {k : Int}
theorem c_pick {xs : List Int} (H : Pn p τ μ σ (N + 1)) (h : μ l = some (.list (xs.map .int))) (h0 : 0 < xs.length) (hl : xs.length ≤ 100) (q : ∀ σ' i, Pn p τ μ σ' N → i ∈ xs → Q (.int i) σ') : callSem (n + 2) 927 [.ref p, .ref l] σ Q := by
  have e : (xs.map V.int).length = xs.length := List.length_map _
  refine call fn_law_pick rfl rfl (len_l (H.2 _ _ h) (by rw [e]; lia) ?_)
  rw [e]
  refine c_draw H (Int.ofNat_lt.mpr h0) (by lia) fun σ' v H' v0 v1 => ?_
  have hv : v.toNat < xs.length := (Int.toNat_lt v0).mpr v1
  exact u_l (H'.2 _ _ h) (.pos v0 (by lia) (by rw [List.getElem?_map, List.getElem?_eq_getElem hv]; rfl)) (q σ' _ H' (List.getElem_mem hv))
theorem pick_ (xs : List Int) (H : Pn p τ μ σ (N + 1)) (h : Nat.ble xs.length 100 = true) (h0 : Nat.blt 0 xs.length = true) (q : ∀ σ' i, Pn p τ μ σ' N → i ∈ xs → Q (.int i) σ') : New σ (.list (xs.map .int)) fun v σ => callSem (n + 2) 927 [.ref p, v] σ Q :=
  pmut H fun l σ1 hl H1 => c_pick H1 (up_self _ _ _) (Nat.le_of_ble_eq_true h0) (Nat.le_of_ble_eq_true h) fun σ2 i H2 hi => q σ2 i (H2.drop (up_ext hl)) hi
theorem c_value (H : Pn p τ μ σ (N + 4)) (q : ∀ τ' σ' x, Ext τ τ' → Pn p τ' μ σ' N → RVl τ' x → Q x.v σ') : callSem (n + 3) 934 [.ref p] σ Q :=
  call fn_law_value rfl rfl (pick_ [0, 1, -2] H rfl rfl fun σ1 xo H1 _ => pick_ [0, 3, -4] H1 rfl rfl fun σ2 yo H2 _ => pick_ [0, 10, -20] H2 rfl rfl fun σ3 xa H3 _ => c_draw H3 (by decide) (by decide) fun σ4 ya H4 _ _ =>
    cls_ fun x d σ5 I => call fn_Value_init rfl rfl (ini_ I rfl rfl rfl fun σ6 I => ini_ I rfl rfl rfl fun σ7 I => ini_ I rfl rfl rfl fun σ8 I => ini_ I rfl rfl rfl fun σ9 I => ⟨rfl, H4.ini I fun τ' T H' => q τ' σ9 ⟨x, d, xo, yo, xa, ya⟩ T H'⟩))
end
end Mine
end
section
open PySem
namespace Mine
-- Q19
theorem range_nat (n : Nat) : rangeL 0 (n : Int) = (List.range n).map fun (j : Nat) => V.int j := by
  rw [rangeL, Int.sub_zero, Int.toNat_natCast]
  exact List.map_congr_left fun x _ => congrArg V.int (Int.zero_add _)
section
variable {p a K b l : Addr} {τ μ σ : Sg} {N n x c : Nat} {Q : Po} {m : Mp} {Kc : Kall} {elt de : E} {s : V} {gs : List Int}
theorem pcomp {α β γ : Type} (κ : α → γ) (kb : β → γ) {g : β → V} {f : α → V} {R : Sg → α → Prop} (hR : ∀ {τ σ x}, Ext τ σ → R τ x → R σ x) {all : List β} (hi : Items σ s (all.map g)) (hs : ∀ σ', Ext τ σ' → Same s σ σ') (hl : all.length ≤ 1000) (H : Pn p τ μ σ (N + c * all.length))
    (he : ∀ b τ1 σ1 M (Q : Po), b ∈ all → Ext τ τ1 → Pn p τ1 μ σ1 (M + c) → (∀ y τ2 σ2, κ y = kb b → Ext τ1 τ2 → Pn p τ2 μ σ2 M → R τ2 y → Q (f y) σ2) → awpE Kc elt (st m x (g b)) Q σ1)
    (q : ∀ l (ys : List α) τ' σ', Ext τ τ' → Pn p τ' μ σ' N → τ' l = some (.list (ys.map f)) → ys.map κ = all.map kb → (∀ y ∈ ys, R τ' y) → Q (.ref l) σ') :
    CompK (fun v R acc => awpIfs Kc [] (st m x v) (kIf (awpE Kc elt (st m x v) (kAcc R acc)) (R acc))) (kL Q) [] s σ := by
  refine .mk hi (by rw [List.length_map]; exact hl) (loop_al all (J := fun d acc σ1 => ∃ (τ1 : Sg) (ys : List α), Ext τ τ1 ∧ Pn p τ1 μ σ1 (N + c * (all.length - d.length)) ∧ acc = ys.map f ∧ ys.map κ = d.map kb ∧ ∀ y ∈ ys, R τ1 y) ?_ ?_ ?_ (d := []) rfl ⟨τ, [], .refl τ, H, rfl, rfl, fun _ h => nomatch h⟩)
  · rintro d acc σ1 ⟨τ1, ys, T, H1, -⟩
    exact hs _ (T.trans H1.1)
  · rintro d b r acc σ1 R' e ⟨τ1, ys, T, H1, rfl, h2, h3⟩ hR'
    have e1 : all.length - d.length = (all.length - (d ++ [b]).length) + 1 := by
      have := split_len e
      rw [List.length_append, List.length_singleton]; lia
    rw [e1, Nat.mul_succ, ← Nat.add_assoc] at H1
    refine .t rfl (he b τ1 σ1 _ _ (split_mem e) T H1 fun y τ2 σ2 k T2 H2 hy => hR' _ _ ⟨τ2, ys ++ [y], T.trans T2, H2, map_snoc, by rw [← map_snoc, ← map_snoc, h2, k], fun z hz => ?_⟩)
    exact (List.mem_append.mp hz).elim (fun h => hR T2 (h3 z h)) fun h => List.mem_singleton.mp h ▸ hy
  · rintro acc σ1 ⟨τ1, ys, T, H1, rfl, h2, h3⟩
    rw [Nat.sub_self] at H1
    exact pnew H1 fun l τ2 σ2 T2 H2 hl => q l ys τ2 σ2 (T.trans T2) H2 hl h2 fun y hy => hR T2 (h3 y hy)
theorem prangeK {α γ : Type} (κ : α → γ) (kb : Nat → γ) {f : α → V} {R : Sg → α → Prop} (hR : ∀ {τ σ x}, Ext τ σ → R τ x → R σ x) {k : Int} (n : Nat) (hk : k = n) (hn : n ≤ 100) (H : Pn p τ μ σ (N + c * n))
    (he : ∀ (j : Nat) τ1 σ1 M (Q : Po), j < n → Ext τ τ1 → Pn p τ1 μ σ1 (M + c) → (∀ y τ2 σ2, κ y = kb j → Ext τ1 τ2 → Pn p τ2 μ σ2 M → R τ2 y → Q (f y) σ2) → awpE Kc elt (st m x (.int j)) Q σ1)
    (q : ∀ l (ys : List α) τ' σ', Ext τ τ' → Pn p τ' μ σ' N → τ' l = some (.list (ys.map f)) → ys.map κ = (List.range n).map kb → (∀ y ∈ ys, R τ' y) → Q (.ref l) σ') :
    TyK "range" (CompK (fun v R acc => awpIfs Kc [] (st m x v) (kIf (awpE Kc elt (st m x v) (kAcc R acc)) (R acc))) (kL Q) []) [.int k] σ := by
  subst hk
  refine .range rfl rfl (by lia) (by lia) (pnew H fun rl τ1 σ1 T H1 hrl => ?_)
  have h1 := H1.1 _ _ hrl
  have hi : Items σ1 (.ref rl) (rangeL 0 n) := .range rfl h1
  rw [range_nat] at hi
  refine pcomp κ kb (R := R) (all := List.range n) hR hi (fun σ' T' => same_range h1 (T' _ _ hrl)) (by rw [List.length_range]; lia) (by rw [List.length_range]; exact H1) (fun j τ2 σ2 M Q hj T2 => he j τ2 σ2 M Q (List.mem_range.mp hj) (T.trans T2)) fun l ys τ' σ' T' H' hl h2 => q l ys τ' σ' (T.trans T') H' hl h2
theorem prange {α : Type} {f : α → V} {R : Sg → α → Prop} (hR : ∀ {τ σ x}, Ext τ σ → R τ x → R σ x) {k : Int} (n : Nat) (hk : k = n) (hn : n ≤ 100) (H : Pn p τ μ σ (N + c * n))
    (he : ∀ (j : Nat) τ1 σ1 M (Q : Po), j < n → Ext τ τ1 → Pn p τ1 μ σ1 (M + c) → (∀ y τ2 σ2, Ext τ1 τ2 → Pn p τ2 μ σ2 M → R τ2 y → Q (f y) σ2) → awpE Kc elt (st m x (.int j)) Q σ1)
    (q : ∀ l (ys : List α) τ' σ', Ext τ τ' → Pn p τ' μ σ' N → τ' l = some (.list (ys.map f)) → ys.length = n → (∀ y ∈ ys, R τ' y) → Q (.ref l) σ') :
    TyK "range" (CompK (fun v R acc => awpIfs Kc [] (st m x v) (kIf (awpE Kc elt (st m x v) (kAcc R acc)) (R acc))) (kL Q) []) [.int k] σ :=
  prangeK (R := R) (fun _ => ()) (fun _ => ()) hR n hk hn H (fun j τ1 σ1 M Q h T H' q => he j τ1 σ1 M Q h T H' fun y τ2 σ2 => q y τ2 σ2 rfl) fun l ys τ' σ' T H' hl h2 => q l ys τ' σ' T H' hl (by have := congrArg List.length h2; rwa [List.length_map, List.length_map, List.length_range] at this)
theorem pfilter (hx : ∀ v, sl (st m x v) x = some v) (H : Pn p τ μ σ (N + 6)) (hd : ∀ (j : Nat) τ1 σ1 M (Q : Po), Pn p τ1 μ σ1 (M + 1) → (∀ σ2 v, Pn p τ1 μ σ2 M → Q (.int v) σ2) → awpE Kc de (st m x (.int j)) Q σ1)
    (q : ∀ l (gs : List Int) τ' σ', Ext τ τ' → Pn p τ' μ σ' N → τ' l = some (.list (gs.map .int)) → (∀ g ∈ gs, 0 ≤ g ∧ g < 6) → gs.length ≤ 6 → Q (.ref l) σ') :
    TyK "range" (CompK (fun v R acc => awpIfs Kc [.cmp .Eq de (.lit (.int 0))] (st m x v) (kIf (awpE Kc (.loc x) (st m x v) (kAcc R acc)) (R acc))) (kL Q) []) [.int 6] σ := by
  refine .range rfl rfl (by decide) (by decide) (pnew H fun rl τ1 σ1 T H1 hrl => ?_)
  have h1 := H1.1 _ _ hrl
  have hi : Items σ1 (.ref rl) (rangeL 0 (6 : Nat)) := .range rfl h1
  rw [range_nat] at hi
  refine .mk hi (by decide) (loop_al (List.range 6) (J := fun d acc σ2 => ∃ gs : List Int, Pn p τ1 μ σ2 (N + (6 - d.length)) ∧ acc = gs.map .int ∧ gs.length ≤ d.length ∧ ∀ g ∈ gs, 0 ≤ g ∧ g < 6) (fun ⟨_, J, _⟩ => same_range h1 (J.1 _ _ hrl)) ?_ ?_ (d := []) rfl ⟨[], H1, rfl, Nat.le_refl _, fun _ h => nomatch h⟩)
  · rintro d j r acc σ2 R e ⟨gs, H2, rfl, h2, h3⟩ hR
    have hj := List.mem_range.mp (split_mem e)
    have e1 : 6 - d.length = (6 - (d ++ [j]).length) + 1 := by
      have := split_len e
      rw [List.length_range] at this
      rw [List.length_append, List.length_singleton]; lia
    rw [e1] at H2
    have dl : (d ++ [j]).length = d.length + 1 := by rw [List.length_append]; rfl
    refine hd j τ1 σ2 _ _ H2 fun σ3 v H3 => k_eqi (kB (fun _ => .t rfl ?_) fun _ => .f rfl (hR _ _ ⟨gs, H3, rfl, dl ▸ Nat.le_succ_of_le h2, h3⟩))
    refine v_ (hx _) (hR _ _ ⟨gs ++ [(j : Int)], H3, map_snoc, by rw [dl, List.length_append]; exact Nat.succ_le_succ h2, fun z hz => ?_⟩)
    exact (List.mem_append.mp hz).elim (h3 z) fun h => List.mem_singleton.mp h ▸ ⟨Int.natCast_nonneg j, Int.ofNat_lt.mpr hj⟩
  · rintro acc σ2 ⟨gs, H2, rfl, h2, h3⟩
    exact pnew H2 fun l τ2 σ3 T2 H3 hl => q l gs τ2 σ3 (T.trans T2) H3 hl h3 h2
inductive Fw (τ : Sg) (b : Addr) (gs : List Int) : Prop
  | mk (h : τ b = some (.list (gs.map .int))) (g : ∀ g ∈ gs, 0 ≤ g ∧ g < 6) (l : gs.length ≤ 6)
theorem ne_empty {T : Tst} {a b : Addr} (ha : σ a = some (.list (gs.map .int))) (hb : σ b = some (.list [])) (n : a ≠ b) (q : T (!gs.isEmpty) σ) : CmpK .NotEq T (.ref a) (.ref b) σ := by
  cases gs with
  | nil => exact .ne (.list rfl rfl ha hb n .nil) rfl q
  | cons x r => exact .ne (.len rfl rfl ha hb n (Nat.succ_ne_zero _) rfl) rfl q
theorem c_few (H : Pn p τ μ σ (N + 7)) {many : Int} (hm : 0 < many) (hm' : many < 2 ^ 64) (q : ∀ τ' σ' b gs, Ext τ τ' → Pn p τ' μ σ' N → Fw τ' b gs → Q (.ref b) σ') : callSem (n + 2) 939 [.ref p, .int many] σ Q := by
  refine call fn_law_few rfl rfl (pfilter (N := N + 1) (fun _ => rfl) H (fun j τ1 σ1 M Q H1 q => c_draw H1 hm hm' fun σ2 v H2 _ _ => q σ2 v H2) fun l gs τ1 σ1 T H1 hl h1 h2 => new_ fun e0 σ2 E2 he0 h0 => ?_)
  have h3 := H1.1 _ _ hl
  have H2 := H1.grow E2
  refine ne_empty (E2 _ _ h3) he0 (ne_of h3 h0) (kB (fun _ => q τ1 σ2 l gs T (H2.less 1) ⟨hl, h1, h2⟩) fun _ => ?_)
  exact c_draw H2 (by decide) (by decide) fun σ3 v H3 v0 v6 => pnew H3 fun l τ4 σ4 T4 H4 hl => q τ4 σ4 l [v] (T.trans T4) H4 ⟨hl, fun g hg => List.mem_singleton.mp hg ▸ ⟨v0, v6⟩, (show 1 ≤ 6 by decide)⟩
theorem mem_dput {k : Int} {v : V} {e : Int × V} : ∀ {es : List (Int × V)}, e ∈ dput es k v → e ∈ es ∨ e = (k, v)
  | [], h => .inr (List.mem_singleton.mp h)
  | (k', v') :: r, h => by
    unfold dput at h
    split at h
    · rename_i c
      exact (List.mem_cons.mp h).elim (fun h => .inr (c ▸ h)) fun h => .inl (.tail _ h)
    · exact (List.mem_cons.mp h).elim (fun h => .inl (h ▸ .head _)) fun h => (mem_dput h).imp_left (.tail _)
theorem c_coverage (H : Pn p τ μ σ N) (F : Fw τ b gs) (q : ∀ τ' σ' c, Ext τ τ' → Pn p τ' μ σ' N → RCov τ' c → (∀ g ∈ c.gs, 0 ≤ g ∧ g < 6) → Q (.ref c.a) σ') : callSem (n + 2) 435 [.ref b] σ Q := by
  refine call fn_coverage_of rfl rfl ⟨fun n0 => pmut H fun K σ1 hK H1 => ?_⟩
  have h1 := H1.1 _ _ F.1
  refine .mk (.list rfl h1) (for_al (F := fun y => [some (.ref b), some (.ref K), y]) gs (J := fun d _ σ2 => ∃ (n : Nat) (es : List (Int × V)), Pn p τ (up μ K (.dict n es)) σ2 N ∧ es.length ≤ d.length ∧ ∀ e ∈ es, 0 ≤ e.1 ∧ e.1 < 6) (fun ⟨_, _, J, _⟩ => same_list h1 (J.1 _ _ F.1)) ?_ ?_ (d := []) rfl ⟨n0, [], H1, Nat.le_refl _, fun _ h => nomatch h⟩)
  · rintro d g r y σ2 R e ⟨n2, es, H2, h2, h3⟩ hR -
    have := split_len e
    have := F.3
    refine .dict rfl rfl H2.at (by lia) fun n' => hR (some (.int g)) _ ⟨n', _, H2.reput, Nat.le_trans dput_len ?_, fun e he => ?_⟩
    · rw [List.length_append]; exact Nat.succ_le_succ h2
    · rcases mem_dput he with he | rfl
      · exact h3 e he
      · exact F.2 g (split_mem ‹_›)
  · rintro y σ2 ⟨n2, es, H2, h2, h3⟩
    have := F.3
    refine .sorted rfl rfl (.dict rfl H2.at) (by rw [List.length_map]; lia) fun js hj hs => ?_
    have jl := hj.length_eq
    rw [List.length_map] at jl
    refine pnew (H2.drop (up_ext hK)) fun l τ3 σ3 T3 H3 hl => .tuple rfl rfl (H3.1 _ _ hl) (by rw [List.length_map]; lia) (pnew H3 fun t τ4 σ4 T4 H4 ht => cls_ fun x d σ5 I => call fn_Coverage_init rfl rfl (ini_ I rfl rfl rfl fun σ6 I => ⟨rfl, H4.ini I fun τ6 T6 H6 o => ?_⟩))
    refine q τ6 σ6 ⟨x, d, t, js⟩ ((T3.trans T4).trans T6) H6 ⟨o, T6 _ _ ht, hs, by lia⟩ fun g hg => ?_
    obtain ⟨e, he, rfl⟩ := List.mem_map.mp (hj.mem_iff.mp hg)
    exact h3 e he
theorem c_fcov (H : Pn p τ μ σ (N + 7)) (q : ∀ τ' σ' c, Ext τ τ' → Pn p τ' μ σ' N → RCov τ' c → (∀ g ∈ c.gs, 0 ≤ g ∧ g < 6) → Q (.ref c.a) σ') : callSem (n + 2) 939 [.ref p, .int 2] σ fun v σ => callSem (n + 2) 435 [v] σ Q :=
  c_few H (by decide) (by decide) fun _ _ _ _ T H1 F => c_coverage H1 F fun τ' σ' c T' => q τ' σ' c (T.trans T')
end
end Mine
end
section
open PySem
namespace Mine
-- Q20
section
variable {p l : Addr} {τ μ σ : Sg} {N n x c : Nat} {Q : Po} {m : Mp} {e2 : E} {many : Int}
theorem dput_map {α : Type} {h : α → V} {k : Int} {y : α} : ∀ {es : List (Int × α)}, ∃ es' : List (Int × α), dput (es.map fun e => (e.1, h e.2)) k (h y) = es'.map (fun e => (e.1, h e.2)) ∧ (∀ e ∈ es', e ∈ es ∨ e = (k, y)) ∧ es'.length ≤ es.length + 1
  | [] => ⟨[(k, y)], rfl, fun _ he => .inr (List.mem_singleton.mp he), Nat.le_refl _⟩
  | (k', v') :: r => by
    rw [List.map_cons, dput]
    by_cases q : k' = k
    · rw [if_pos q]
      exact ⟨(k', y) :: r, rfl, fun e he => (List.mem_cons.mp he).elim (fun e => .inr (q ▸ e)) fun h => .inl (.tail _ h), Nat.le_succ _⟩
    · rw [if_neg q]
      obtain ⟨es', h1, h2, h3⟩ := dput_map (h := h) (k := k) (y := y) (es := r)
      exact ⟨(k', v') :: es', by rw [h1]; rfl, fun e he => (List.mem_cons.mp he).elim (fun e => .inl (e ▸ .head _)) fun h => (h2 e h).imp_left (.tail _), Nat.succ_le_succ h3⟩
theorem fold_map {α : Type} {h : α → V} {ys : List (Addr × Int × α)} : ∀ {es : List (Int × α)}, ∃ es' : List (Int × α), (ys.map fun y => (y.2.1, h y.2.2)).foldl (fun es kv => dput es kv.1 kv.2) (es.map fun e => (e.1, h e.2)) = es'.map (fun e => (e.1, h e.2)) ∧ (∀ e ∈ es', e ∈ es ∨ ∃ y ∈ ys, e = y.2) ∧ es'.length ≤ es.length + ys.length := by
  induction ys with
  | nil => exact fun {es} => ⟨es, rfl, fun e he => .inl he, Nat.le_refl _⟩
  | cons y ys ih =>
    intro es
    obtain ⟨es1, h1, h2, h3⟩ := dput_map (h := h) (k := y.2.1) (y := y.2.2) (es := es)
    obtain ⟨es2, g1, g2, g3⟩ := ih (es := es1)
    refine ⟨es2, by rw [List.map_cons, List.foldl_cons, h1]; exact g1, fun e he => ?_, by rw [List.length_cons]; lia⟩
    rcases g2 e he with he | ⟨z, hz, e⟩
    · rcases h2 e he with he | rfl
      · exact .inl he
      · exact .inr ⟨y, .head _, rfl⟩
    · exact .inr ⟨z, .tail _ hz, e⟩
theorem pairs_of {α : Type} {h : α → V} : ∀ {ys : List (Addr × Int × α)}, (∀ y ∈ ys, σ y.1 = some (.tup [.int y.2.1, h y.2.2])) → PairsOf σ (ys.map fun y => .ref y.1) (ys.map fun y => (y.2.1, h y.2.2))
  | [], _ => .nil
  | _ :: _, k => .cons (k _ (.head _)) (pairs_of fun y hy => k y (.tail _ hy))
theorem pdict {α : Type} {h : α → V} {ys : List (Addr × Int × α)} (H : Pn p τ μ σ N) (hl : τ l = some (.list (ys.map fun y => .ref y.1))) (hy : ∀ y ∈ ys, τ y.1 = some (.tup [.int y.2.1, h y.2.2])) (hn : ys.length ≤ 100)
    (q : ∀ τ' σ' D k (es : List (Int × α)), Ext τ τ' → Pn p τ' μ σ' N → τ' D = some (.dict k (es.map fun e => (e.1, h e.2))) → (∀ e ∈ es, ∃ y ∈ ys, e = y.2) → es.length ≤ ys.length → Q (.ref D) σ') : TyK "dict" Q [.ref l] σ := by
  refine .dict rfl rfl (H.1 _ _ hl) (pairs_of fun y k => H.1 _ _ (hy y k)) (by rw [List.length_map]; exact hn) ?_
  obtain ⟨es, h1, h2, h3⟩ := fold_map (h := h) (ys := ys) (es := [])
  rw [show ([] : List (Int × V)) = [].map fun e : Int × α => (e.1, h e.2) from rfl, h1]
  exact ⟨fun k => pnew H fun D τ' σ' T H' hD => q τ' σ' D k es T H' hD (fun e he => (h2 e he).resolve_left fun h => nomatch h) (Nat.le_trans h3 (Nat.le_of_eq (Nat.zero_add _)))⟩
theorem e_dict {α : Type} {h : α → V} {Rel : Sg → Int → α → Prop} (hR : ∀ {τ σ g x}, Ext τ σ → Rel τ g x → Rel σ g x) (hm : 0 < many) (hm' : many < 2 ^ 64) (H : Pn p τ μ σ (N + c * 6 + 7)) {i : Nat} (hi : sl m i = some (.ref p)) (hx : ∀ v, sl (st m x v) x = some v)
    (he : ∀ g τ1 σ1 M (Q : Po), 0 ≤ g ∧ g < 6 → Ext τ τ1 → Pn p τ1 μ σ1 (M + c) → (∀ τ2 σ2 y, Ext τ1 τ2 → Pn p τ2 μ σ2 M → Rel τ2 g y → Q (h y) σ2) → awpE (callSem (n + 2)) e2 (st m x (.int g)) Q σ1)
    (q : ∀ τ' σ' D k (es : List (Int × α)), Ext τ τ' → Pn p τ' μ σ' N → τ' D = some (.dict k (es.map fun e => (e.1, h e.2))) → (∀ e ∈ es, (0 ≤ e.1 ∧ e.1 < 6) ∧ Rel τ' e.1 e.2) → es.length ≤ 6 → Q (.ref D) σ') :
    awpE (callSem (n + 2)) (.tcall "dict" [.comp1 (.tup [.loc x, e2]) x (.fcall 939 [.loc i, .lit (.int many)]) []]) m Q σ := by
  refine v_ hi (c_few H hm hm' fun τ1 σ1 b gs T F1 F => ?_)
  have h1 := F1.1 _ _ F.1
  have l6 := F.3
  have H1 : Pn p τ1 μ σ1 (N + c * gs.length) := F1.le (Nat.add_le_add_left (Nat.mul_le_mul_left c l6) N)
  refine pcomp (fun _ => ()) (fun _ => ()) (f := fun y : Addr × Int × α => .ref y.1) (R := fun τ y => τ y.1 = some (.tup [.int y.2.1, h y.2.2]) ∧ (0 ≤ y.2.1 ∧ y.2.1 < 6) ∧ Rel τ y.2.1 y.2.2) (fun E h => ⟨E _ _ h.1, h.2.1, hR E h.2.2⟩) (.list rfl h1) (fun σ' E => same_list h1 (E _ _ F.1)) (Nat.le_trans l6 (by decide)) H1
    (fun g τ2 σ2 M Q hg T2 H2 q => v_ (hx _) (he g τ2 σ2 M _ (F.2 g hg) (T.trans T2) H2 fun τ3 σ3 y T3 H3 hy => pnew H3 fun t τ4 σ4 T4 H4 ht => q (t, g, y) τ4 σ4 rfl (T3.trans T4) H4 ⟨ht, F.2 g hg, hR T4 hy⟩)) fun l ys τ2 σ2 T2 H2 hl h2 h3 => ?_
  replace h2 : ys.length = gs.length := by have := congrArg List.length h2; rwa [List.length_map, List.length_map] at this
  rw [← h2] at l6
  refine pdict H2 hl (fun y hy => (h3 y hy).1) (Nat.le_trans l6 (by decide)) fun τ3 σ3 D k es T3 H3 hD g1 g2 => q τ3 σ3 D k es ((T.trans T2).trans T3) H3 hD (fun e he => ?_) (Nat.le_trans g2 l6)
  obtain ⟨y, hy, rfl⟩ := g1 e he
  exact ⟨(h3 y hy).2.1, hR T3 (h3 y hy).2.2⟩
theorem e_cls {Vp : Int → Prop} (H : Pn p τ μ σ (N + c * 6 + 7)) (hi : sl m 0 = some (.ref p)) (hx : ∀ v, sl (st m x v) x = some v)
    (he : ∀ g τ1 σ1 M (Q : Po), Ext τ τ1 → Pn p τ1 μ σ1 (M + c) → (∀ σ2 v, Pn p τ1 μ σ2 M → Vp v → Q (.int v) σ2) → awpE (callSem (n + 2)) e2 (st m x (.int g)) Q σ1)
    (q : ∀ τ' σ' cd, Ext τ τ' → Pn p τ' μ σ' N → RCd τ' cd → (∀ e ∈ cd.es, Vp e.2) → Q (.ref cd.a) σ') :
    awpE (callSem (n + 2)) (.ccall 856 827 [.tcall "dict" [.comp1 (.tup [.loc x, e2]) x (.fcall 939 [.loc 0, .lit (.int 2)]) []]]) m Q σ :=
  e_dict (h := V.int) (Rel := fun _ _ v => Vp v) (fun _ h => h) (by decide) (by decide) H hi hx (fun g τ1 σ1 M Q _ T1 H1 q => he g τ1 σ1 M Q T1 H1 fun σ2 v H2 hv => q τ1 σ2 v (.refl τ1) H2 hv) fun τ1 σ1 D k es T H1 hD h1 _ =>
    cls_ fun a d σ2 I => call fn_ClassDef_init rfl rfl (ini_ I rfl rfl rfl fun σ3 I => ⟨rfl, H1.ini I fun τ3 T3 H3 o => q τ3 σ3 ⟨a, d, D, k, es⟩ (T.trans T3) H3 ⟨o, T3 _ _ hD⟩ fun e he => (h1 e he).2⟩)
theorem e_adj (H : Pn p τ μ σ (N + 31)) (hi : sl m 1 = some (.ref p)) (hx : ∀ v, sl (st m x v) x = some v) (h1 : ∀ v, sl (st m x v) 1 = some (.ref p)) (q : ∀ τ' σ' t, Ext τ τ' → Pn p τ' μ σ' N → RAj τ' t → Q (.ref t.a) σ') :
    awpE (callSem (n + 3)) (.ccall 670 662 [.tcall "dict" [.comp1 (.tup [.loc x, .fcall 934 [.loc 1]]) x (.fcall 939 [.loc 1, .lit (.int 3)]) []]]) m Q σ :=
  e_dict (h := Vl.v) (c := 4) (Rel := fun τ _ v => RVl τ v) (fun E h => E.ob h) (by decide) (by decide) H hi hx (fun g τ1 σ1 M Q _ T1 H1 q => v_ (h1 _) (c_value H1 fun τ2 σ2 y T2 H2 hy => q τ2 σ2 y T2 H2 hy)) fun τ1 σ1 D k es T H1 hD h1 h6 =>
    cls_ fun a d σ2 I => call fn_Adjust_init rfl rfl (ini_ I rfl rfl rfl fun σ3 I => ⟨rfl, H1.ini I fun τ3 T3 H3 o => q τ3 σ3 ⟨a, d, D, k, es⟩ (T.trans T3) H3 ⟨o, T3 _ _ hD, fun e he => T3.ob (h1 e he).2, fun e he => (h1 e he).1, Nat.le_trans h6 (by decide)⟩⟩)
end
end Mine
end
section
open PySem
namespace Mine
-- Q21
section
variable {p a K R l : Addr} {τ μ σ σ1 : Sg} {N n : Nat} {Q : Po} {s : V} {fs : List (String × V)} {c d x : Addr} {vs : Lo}
theorem c_is_nothing {x : Vl} (h : RVl σ x) (q : ∀ σ' b, Ext σ σ' → Q (.bool b) σ') : callSem (n + 2) 634 [.ref x.a] σ Q :=
  call fn_Value_is_nothing rfl rfl (m_ h rfl (call fn_Value_told rfl rfl (g_ h rfl (g_ h rfl (g_ h rfl (g_ h rfl (new_ fun t σ1 E1 ht _ => new_ fun t2 σ2 E2 ht2 h0 => .eq (.tup rfl rfl (E2 _ _ ht) ht2 (ne_of ht h0) (.cons (.one .int) (.cons (.one .int) (.cons (.one .int) (.cons (.one .int) .nil))))) rfl (q σ2 _ (E1.trans E2)))))))))
theorem c_moves {xs : List Pv} (hi : Items σ s (xs.map Pv.v)) (hs : ∀ σ', Ext σ σ' → Same s σ σ') (hl : xs.length ≤ 1000) (hx : ∀ x ∈ xs, RPv σ x) (q : ∀ σ' b, Ext σ σ' → Q (.bool b) σ') : callSem (n + 3) 693 [s] σ Q := by
  refine call fn_moves_second rfl rfl (.mk hi (by rw [List.length_map]; exact hl) (loop_al xs (J := fun _ _ σ1 => Ext σ σ1) (fun J => hs _ J) ?_ ?_ (d := []) rfl (.refl σ)))
  · intro d x r acc σ1 R e E1 hR
    have h := (hx x (split_mem e)).ext E1
    exact u_t h.1 i1 (m_ h.3 rfl (c_is_nothing h.3 fun σ2 b E2 => kN (fun _ => .t rfl (hR _ _ (E1.trans E2))) fun _ => .f rfl (hR _ _ (E1.trans E2))))
  · intro acc σ1 E1
    refine new_ fun l σ2 E2 hl _ => new_ fun e0 σ3 E3 he0 h0 => ?_
    have E13 := (E1.trans E2).trans E3
    cases acc with
    | nil => exact .ne (.list rfl rfl (E3 _ _ hl) he0 (ne_of hl h0) .nil) rfl (q σ3 _ E13)
    | cons x r => exact .ne (.len rfl rfl (E3 _ _ hl) he0 (ne_of hl h0) (Nat.succ_ne_zero _) rfl) rfl (q σ3 _ E13)
theorem same_vals {va D : Addr} {c : C} (h : σ va = some (.vals D)) (k : σ D = some c) (σ' : Sg) (E : Ext σ σ') : Same (.ref va) σ σ' := fun b e => by
  cases e
  refine ⟨(E _ _ h).trans h.symm, fun d q => ?_⟩
  cases h.symm.trans q
  exact (E _ _ k).trans k.symm
theorem new_pairG {D : Addr} {sec : Bool} {xs : List Pv} (hD : (∃ k, σ D = some (.dict k []) ∧ xs = []) ∨ ∃ k es, σ D = some (.tdict k es) ∧ xs.map Pv.v = es.map fun e => e.2.2) (hl : xs.length ≤ 1000) (hx : ∀ x ∈ xs, RPv σ x)
    (q : ∀ σ' a d b, Ini σ σ' a d 723 (glFs D b) → Q (.ref a) σ') : ClsK (callSem (n + 4)) 723 708 Q [.ref D, .bool sec] σ := by
  refine cls_ fun x d σ1 I => call fn_PairGlyphs_init rfl rfl (ini_ I rfl rfl rfl fun σ2 I => ?_)
  have fin : ∀ σ3 b, Ext σ2 σ3 → SetK "is_second" (fun σ' => V.none = .none ∧ Q (.ref x) σ') (.bool b) (.ref x) σ3 := fun σ3 b E => ini_ (I := ⟨I.1.trans E, E.ob I.2, I.3, I.4⟩) rfl rfl rfl fun σ4 I => ⟨rfl, q σ4 x d b I⟩
  cases sec with
  | true => exact .t rfl (fin σ2 true (.refl σ2))
  | false =>
    refine .f rfl ?_
    have E := I.1
    rcases hD with ⟨k, hD, rfl⟩ | ⟨k, es, hD, e⟩
    · have h := E _ _ hD
      exact m_vals h (.vals rfl rfl h (new_ fun va σ3 E3 hva _ => c_moves (xs := []) (.vals rfl hva (E3 _ _ h)) (same_vals hva (E3 _ _ h)) hl (fun _ h => nomatch h) fun σ4 b E4 => fin σ4 b (E3.trans E4)))
    · have h := E _ _ hD
      refine m_tvals h (.tvals rfl rfl h (new_ fun va σ3 E3 hva _ => c_moves (xs := xs) ?_ (same_vals hva (E3 _ _ h)) hl (fun x hx' => ((hx x hx').ext E).ext E3) fun σ4 b E4 => fin σ4 b (E3.trans E4)))
      rw [e]; exact .tvals rfl hva (E3 _ _ h)
theorem new_pairC {cov : Cov} {f1 f2 : Cd} {sec : Bool} {rows : List (Addr × List Pv)} (hR : σ R = some (.tup (rows.map rwV))) (hr : ∀ e ∈ rows, RRw σ e) (hl : rows.length = 2) (q : ∀ σ' a d b, Ini σ σ' a d 755 (clFs cov f1 f2 R b) → Q (.ref a) σ') :
    ClsK (callSem (n + 4)) 755 740 Q [.ref cov.a, .ref f1.a, .ref f2.a, .ref R, .bool sec] σ := by
  refine cls_ fun x d σ1 I => callm fn_PairClasses_init [some (.ref x), some _, some _, some _, some _, some (.bool sec), none, none] rfl rfl rfl (ini_ I rfl rfl rfl fun σ2 I => ini_ I rfl rfl rfl fun σ3 I => ini_ I rfl rfl rfl fun σ4 I => ini_ I rfl rfl rfl fun σ5 I => ?_)
  have fin : ∀ σ6 b, Ext σ5 σ6 → SetK "is_second" (fun σ' => V.none = .none ∧ Q (.ref x) σ') (.bool b) (.ref x) σ6 := fun σ6 b E => ini_ (I := ⟨I.1.trans E, E.ob I.2, I.3, I.4⟩) rfl rfl rfl fun σ7 I => ⟨rfl, q σ7 x d b I⟩
  cases sec with
  | true => exact .t rfl (fin σ5 true (.refl σ5))
  | false =>
    have h5 := I.1 _ _ hR
    refine .f rfl (.mk (.tup rfl h5) (by rw [List.length_map, hl]; decide) (loop_al rows (J := fun d acc σ6 => σ6 = σ5 ∧ acc = (d.flatMap (·.2)).map Pv.v) (fun J => same_tup h5 (J.1 ▸ h5)) ?_ ?_ (d := []) rfl ⟨rfl, rfl⟩))
    · rintro d e r acc σ6 R' e1 ⟨rfl, rfl⟩ hR'
      have he := (hr e (split_mem e1)).ext I.1
      refine .mk (.tup rfl he.1) (by rw [List.length_map, he.3]; decide) (loop_al e.2 (J := fun d2 acc σ7 => σ7 = σ6 ∧ acc = (d.flatMap (·.2) ++ d2).map Pv.v) (fun J => same_tup he.1 (J.1 ▸ he.1)) ?_ ?_ (d := []) rfl ⟨rfl, by rw [List.append_nil]⟩)
      · rintro d2 y r2 acc σ7 R2 e2 ⟨rfl, rfl⟩ hR2
        exact .t rfl (hR2 _ _ ⟨rfl, by rw [map_snoc, List.append_assoc]⟩)
      · rintro acc σ7 ⟨rfl, rfl⟩
        exact hR' _ _ ⟨rfl, by rw [List.flatMap_append, List.flatMap_singleton]⟩
    · rintro acc σ6 ⟨rfl, rfl⟩
      refine new_ fun la σ7 E7 hla _ => c_moves (xs := rows.flatMap (·.2)) (.list rfl hla) (fun σ' E => same_list hla (E _ _ hla)) ?_ (fun y hy => ?_) fun σ8 b E8 => fin σ8 b (E7.trans E8)
      · match rows, hl with
        | [r1, r2], _ => rw [List.flatMap_cons, List.flatMap_cons, List.flatMap_nil, List.append_nil, List.length_append, (hr r1 (.head _)).3, (hr r2 (.tail _ (.head _))).3]; decide
      · obtain ⟨e, he, hy⟩ := List.mem_flatMap.mp hy
        exact (((hr e he).2 y hy).ext I.1).ext E7
end
end Mine
end
section
open PySem
namespace Mine
-- Q22
abbrev Ps3 := List ((Int × Int) × Addr × Pv)
theorem tput_map {k : Int × Int} {a : Addr} {x : Pv} {P : (Int × Int) × Addr × Pv → Prop} (h0 : P (k, a, x)) (hc : ∀ a' y, P (k, a', y) → P (k, a', x)) : ∀ {ps : Ps3}, (∀ e ∈ ps, P e) → ∃ ps' : Ps3, tput (ps.map glV) k a (.ref x.t) = ps'.map glV ∧ (∀ e ∈ ps', P e) ∧ ps'.length ≤ ps.length + 1
  | [], _ => ⟨[(k, a, x)], rfl, fun e he => List.mem_singleton.mp he ▸ h0, Nat.le_refl _⟩
  | (k', a', y) :: r, h => by
    rw [List.map_cons, glV, tput]
    by_cases q : k' = k
    · subst q
      rw [if_pos rfl]
      exact ⟨(k', a', x) :: r, rfl, fun e he => (List.mem_cons.mp he).elim (fun e => e ▸ hc a' y (h _ (.head _))) fun he => h e (.tail _ he), Nat.le_succ _⟩
    · rw [if_neg q]
      obtain ⟨ps', h1, h2, h3⟩ := tput_map h0 hc (ps := r) fun e he => h e (.tail _ he)
      exact ⟨(k', a', y) :: ps', by rw [h1]; rfl, fun e he => (List.mem_cons.mp he).elim (fun e => e ▸ h _ (.head _)) fun he => h2 e he, Nat.succ_le_succ h3⟩
inductive PD (ps : Ps3) (c : C) : Prop
  | no (n : Nat) (h : ps = []) (e : c = .dict n [])
  | ok (n : Nat) (e : c = .tdict n (ps.map glV))
noncomputable def PsOk (τ : Sg) (ps : Ps3) : Prop := ∀ e ∈ ps, RGl τ e ∧ 0 ≤ e.1.1 ∧ e.1.1 < 6
section
variable {p a K R l rl : Addr} {τ μ σ σ1 : Sg} {N n : Nat} {Q : Po} {s : V} {k : Int} {nv : Vl} {sec : Bool} {x4 x5 : Option V}
noncomputable def lapB : List S := [.assign (.one (.loc 5)) (.ite (.loc 2) (.fcall 934 [(.loc 0)]) (.loc 1)),
        .assign (.one (.sub (.loc 3) (.tup [(.fcall 920 [(.loc 0), (.lit (.int (6)))]), (.fcall 920 [(.loc 0), (.lit (.int (6)))])]))) (.tup [(.fcall 934 [(.loc 0)]), (.loc 5)])]
theorem pair_lap {c : C} {ps : Ps3} (H : Pn p τ (up μ K c) σ (N + 10)) (hv : RVl τ nv) (D : PD ps c) (O : PsOk τ ps) (hl : ps.length ≤ 50) {R : Ps} {t6 t7 t8 t9 t10 : Option V}
    (q : ∀ τ' σ' c' ps' x5, Ext τ τ' → Pn p τ' (up μ K c') σ' N → PD ps' c' → PsOk τ' ps' → ps'.length ≤ ps.length + 1 → R .next [some (.ref p), some nv.v, some (.bool sec), some (.ref K), x4, x5, t6, t7, t8, t9, t10] σ') :
    awpSs (callSem (n + 3)) lapB R [some (.ref p), some nv.v, some (.bool sec), some (.ref K), x4, x5, t6, t7, t8, t9, t10] σ := by
  have go : ∀ {τ1 σ1 : Sg} {w : Vl}, Ext τ τ1 → Pn p τ1 (up μ K c) σ1 (N + 6) → RVl τ1 w → awpSs (callSem (n + 3)) (lapB.drop 1) R [some (.ref p), some nv.v, some (.bool sec), some (.ref K), x4, some w.v, t6, t7, t8, t9, t10] σ1 := fun {τ1 σ1 w} T1 H1 hw => by
    refine c_value H1 fun τ2 σ2 u T2 H2 hu => pnew H2 fun t τ3 σ3 T3 H3 ht => c_draw H3 (by decide) (by decide) fun σ4 a H4 a0 a6 => c_draw H4 (by decide) (by decide) fun σ5 b H5 b0 b6 => pnew H5 fun kt τ6 σ6 T6 H6 hkt => ?_
    have T16 := T1.trans ((T2.trans T3).trans T6)
    have pv : RPv τ6 ⟨t, u, w⟩ := ⟨T6 _ _ ht, (T3.trans T6).ob hu, ((T2.trans T3).trans T6).ob hw⟩
    obtain ⟨ps', e, o, l⟩ := tput_map (k := (a, b)) (a := kt) (x := ⟨t, u, w⟩) (P := fun e => RGl τ6 e ∧ 0 ≤ e.1.1 ∧ e.1.1 < 6) ⟨⟨hkt, pv⟩, a0, a6⟩ (fun a' y h => ⟨⟨h.1.1, pv⟩, h.2⟩) (ps := ps) fun e he => ⟨(O e he).1.ext T16, (O e he).2⟩
    cases D with
    | no m h0 hc =>
      subst h0 hc
      exact .first rfl rfl H6.at (H6.1 _ _ hkt) fun n' => q τ6 _ _ ps' _ T16 H6.reput (.ok n' (e ▸ rfl)) o l
    | ok m hc =>
      subst hc
      refine .tdict rfl rfl H6.at (by rw [List.length_map]; lia) (H6.1 _ _ hkt) fun n' => q τ6 _ _ ps' _ T16 H6.reput (.ok n' (e ▸ rfl)) o l
  exact kB (fun _ => c_value H fun τ1 σ1 w T1 H1 hw => go T1 H1 hw) fun _ => go (.refl τ) (H.less 4) hv
theorem pair_gl (H : Pn p τ μ σ (N + 81)) (hv : RVl τ nv) {r : List S} (q : ∀ τ' σ' t, Ext τ τ' → Pn p τ' μ σ' N → RTp τ' t → Q t.v σ') :
    awpSs (callSem (n + 5)) ([.assign (.one (.loc 3)) (.dict []), .for (.one (.loc 4)) (.tcall "range" [(.fcall 920 [(.loc 0), (.lit (.int (9)))])]) lapB, .ret (.ccall 723 708 [(.loc 3), (.loc 2)])] ++ r) (kEnd Q) [some (.ref p), some nv.v, some (.bool sec), none, none, none, none, none, none, none, none] σ := by
  refine ⟨fun n0 => pmut H fun K σ1 hK H1 => c_draw H1 (by decide) (by decide) fun σ2 v H2 v0 v9 => ?_⟩
  obtain ⟨k, rfl⟩ := Int.eq_ofNat_of_zero_le v0
  have k8 : k ≤ 8 := Nat.le_of_lt_succ (Int.ofNat_lt.mp v9)
  refine .range rfl rfl (by lia) (by lia) (pnew H2 fun rl τ3 σ3 T3 H3 hrl => ?_)
  have h3 := H3.1 _ _ hrl
  have hi : Items σ3 (.ref rl) (rangeL 0 k) := .range rfl h3
  rw [range_nat] at hi
  have H3 : Pn p τ3 (up μ K (.dict n0 [])) σ3 (N + 10 * k) := H3.le (by lia)
  refine .mk hi (for_al (F := fun x : Option V × Option V => [some (.ref p), some nv.v, some (.bool sec), some (.ref K), x.1, x.2, none, none, none, none, none]) (List.range k) (J := fun d _ σ4 => ∃ (τ4 : Sg) (c : C) (ps : Ps3), Ext τ3 τ4 ∧ Pn p τ4 (up μ K c) σ4 (N + 10 * (k - d.length)) ∧ PD ps c ∧ PsOk τ4 ps ∧ ps.length ≤ d.length) (fun ⟨_, _, _, T, J, _⟩ => same_range h3 (J.1 _ _ (T _ _ hrl))) ?_ ?_ (d := []) (b := (none, none)) rfl ⟨τ3, _, [], .refl τ3, H3, .no n0 rfl rfl, (fun _ h => nomatch h), Nat.le_refl _⟩)
  · rintro d j r ⟨y4, y5⟩ σ4 R e ⟨τ4, c, ps, T4, H4, D, O, hl⟩ hR -
    have dl := split_len e
    rw [List.length_range] at dl
    have e1 : k - d.length = (k - (d ++ [j]).length) + 1 := by rw [List.length_append, List.length_singleton]; lia
    rw [e1, Nat.mul_succ, ← Nat.add_assoc] at H4
    exact pair_lap H4 ((T3.trans T4).ob hv) D O (by lia) fun τ5 σ5 c' ps' y T5 H5 D' O' l' => hR (_, y) _ ⟨τ5, c', ps', T4.trans T5, H5, D', O', Nat.le_trans l' (by rw [List.length_append]; exact Nat.succ_le_succ hl)⟩
  · rintro ⟨y4, y5⟩ σ4 ⟨τ4, c, ps, T4, H4, D, O, hl⟩
    rw [List.length_range] at hl
    rw [List.length_range, Nat.sub_self] at H4
    have l100 : ps.length ≤ 100 := by lia
    refine H4.seal (up_ext hK) (.refl σ4) fun τ5 T5 at_ H5 => ?_
    have kc := at_ K c H4.at (ne_of (up_self μ K c) H4.5) hK
    have O5 : PsOk τ5 ps := fun e he => ⟨(O e he).1.ext T5, (O e he).2⟩
    have hx : ∀ x ∈ ps.map (fun e => e.2.2), RPv σ4 x := fun x hx => by
      obtain ⟨e, he, rfl⟩ := List.mem_map.mp hx
      exact (O5 e he).1.2.ext H5.1
    refine new_pairG (xs := ps.map fun e => e.2.2) ?_ (by rw [List.length_map]; exact Nat.le_trans l100 (by decide)) hx fun σ6 a d b I => H5.ini I fun τ6 T6 H6 o => ?_
    · cases D with
      | no m h0 hc => exact .inl ⟨m, hc ▸ H4.at, by rw [h0]; rfl⟩
      | ok m hc => exact .inr ⟨m, _, hc ▸ H4.at, by rw [List.map_map, List.map_map]; rfl⟩
    have T := ((T3.trans T4).trans T5).trans T6
    cases D with
    | no m h0 hc => exact q τ6 σ6 (.gl0 a d K m b) T H6 ⟨o, T6 _ _ (hc ▸ kc)⟩
    | ok m hc => exact q τ6 σ6 (.gl a d K m b ps) T H6 ⟨o, T6 _ _ (hc ▸ kc), fun e he => (O5 e he).1.ext T6, l100, fun e he => (O e he).2⟩
theorem getI_of {es : List (Int × Int)} {P : Int → Prop} (h0 : P 0) (h : ∀ e ∈ es, P e.2) (g : Int) : P (getI es g) := by
  induction es with
  | nil => exact h0
  | cons a r ih =>
    obtain ⟨a1, a2⟩ := a
    rw [getI, List.lookup_cons]
    cases g == a1 with
    | true => exact h _ (.head _)
    | false => exact ih fun e he => h e (.tail _ he)
theorem pair_cl (H : Pn p τ μ σ (N + 90)) (hv : RVl τ nv) (q : ∀ τ' σ' t, Ext τ τ' → Pn p τ' μ σ' N → RTp τ' t → Q t.v σ') :
    awpSs (callSem (n + 5)) (fn_law_pair_table.body.drop 2) (kEnd Q) [some (.ref p), some nv.v, some (.bool sec), none, none, none, none, none, none, none, none] σ := by
  refine pmut H fun R0 σ1 hR H1 => .range rfl rfl (by decide) (by decide) (pnew H1 fun rl τ3 σ3 T3 H3 hrl => ?_)
  have h3 := H3.1 _ _ hrl
  have hi : Items σ3 (.ref rl) (rangeL 0 (2 : Nat)) := .range rfl h3
  rw [range_nat] at hi
  refine .mk hi (for_al (F := fun x : Option V => [some (.ref p), some nv.v, some (.bool sec), none, none, none, some (.ref R0), x, none, none, none]) (List.range 2) (J := fun d _ σ4 => ∃ (τ4 : Sg) (rows : List (Addr × List Pv)), Ext τ3 τ4 ∧ Pn p τ4 (up μ R0 (.list (rows.map rwV))) σ4 (N + 42 + 24 * (2 - d.length)) ∧ (∀ e ∈ rows, RRw τ4 e) ∧ rows.length = d.length) (fun ⟨_, _, T, J, _⟩ => same_range h3 (J.1 _ _ (T _ _ hrl))) ?_ ?_ (d := []) (b := none) rfl ⟨τ3, [], .refl τ3, H3, (fun _ h => nomatch h), rfl⟩)
  · rintro d j r y σ4 R e ⟨τ4, rows, T4, H4, O, hl⟩ hR -
    have dl := split_len e
    rw [List.length_range] at dl
    have e1 : 2 - d.length = (2 - (d ++ [j]).length) + 1 := by rw [List.length_append, List.length_singleton]; lia
    rw [e1, Nat.mul_succ, ← Nat.add_assoc] at H4
    refine m_app H4.at (prange (c := 8) (f := Pv.v) (R := RPv) (fun E h => h.ext E) 3 rfl (by decide) H4 (fun j τ5 σ5 M Q _ T5 H5 q => ?_) fun l ys τ5 σ5 T5 H5 hl' h5 O5 => .tuple rfl rfl (H5.1 _ _ hl') (by rw [List.length_map, h5]; decide) (pnew H5 fun t τ6 σ6 T6 H6 ht => t_app H6.at (by rw [List.length_map]; lia) (hR _ _ ⟨τ6, rows ++ [(t, ys)], (T4.trans T5).trans T6, map_snoc ▸ H6.reput, fun e he => ?_, by rw [List.length_append, List.length_append, hl]; rfl⟩)))
    · refine c_value (N := M + 4) H5 fun τ6 σ6 u T6 H6 hu => kB (fun _ => ?_) fun _ => ?_
      · exact c_value H6 fun τ7 σ7 w T7 H7 hw => pnew H7 fun t τ8 σ8 T8 H8 ht => q ⟨t, u, w⟩ τ8 σ8 ((T6.trans T7).trans T8) H8 ⟨ht, (T7.trans T8).ob hu, T8.ob hw⟩
      · exact pnew (H6.less 4) fun t τ8 σ8 T8 H8 ht => q ⟨t, u, nv⟩ τ8 σ8 (T6.trans T8) H8 ⟨ht, T8.ob hu, ((((T3.trans T4).trans T5).trans T6).trans T8).ob hv⟩
    · rcases List.mem_append.mp he with he | he
      · exact (O e he).ext (T5.trans T6)
      · exact List.mem_singleton.mp he ▸ ⟨ht, fun x hx => (O5 x hx).ext T6, h5⟩
  · rintro y σ4 ⟨τ4, rows, T4, H4, O, hl⟩
    refine e_cls (N := N + 29) (c := 0) (Vp := (· = 1)) (H4.less 6) rfl (fun _ => rfl) (fun g τ5 σ5 M Q _ H5 q => q σ5 1 H5 rfl) fun τ5 σ5 f1 T5 H5 hf1 v1 => ?_
    show awpE _ _ _ _ _
    refine e_cls (N := N + 16) (c := 1) (Vp := fun v => v = 1 ∨ v = 2) H5 (by rfl) (fun _ => by rfl) (fun g τ6 σ6 M Q _ H6 q => ?_) fun τ6 σ6 f2 T6 H6 hf2 v2 => ?_
    · exact c_draw H6 (by decide) (by decide) fun σ7 v H7 v0 v2 => b_add (q σ7 _ H7 (by lia))
    refine c_fcov (N := N + 9) H6 fun τ7 σ7 cov T7 H7 hc kc => .tuple rfl rfl H7.at (by rw [List.length_map, hl]; decide) (pnew H7 fun T τ8 σ8 T8 H8 hT => ?_)
    have H8' := (H8.less 9).drop (up_ext hR)
    have T48 := ((T5.trans T6).trans T7).trans T8
    refine new_pairC (H8'.1 _ _ hT) (fun e he => ((O e he).ext T48).ext H8'.1) hl fun σ9 a d b I => H8'.ini I fun τ9 T9 H9 o => ?_
    refine q τ9 σ9 (.cl a d cov f1 f2 T b rows) (((T3.trans T4).trans T48).trans T9) H9 ⟨o, (hc.ext T8).ext T9, (((hf1.ext T6).ext T7).ext T8).ext T9, ((hf2.ext T7).ext T8).ext T9, T9 _ _ hT, fun e he => ((O e he).ext T48).ext T9, hl, getI_of (P := fun v => 0 ≤ v ∧ v < 2) (by decide) fun e he => by rw [v1 e he]; decide, getI_of (P := fun v => 0 ≤ v ∧ v < 3) (by decide) fun e he => by rcases v2 e he with h | h <;> rw [h] <;> decide, kc⟩
theorem c_pair_table (H : Pn p τ μ σ (N + 92)) (q : ∀ τ' σ' t, Ext τ τ' → Pn p τ' μ σ' N → RTp τ' t → Q t.v σ') : callSem (n + 6) 944 [.ref p] σ Q := by
  refine call fn_law_pair_table rfl rfl (cls_ fun x d σ1 I => call fn_Value_init rfl rfl (ini_ I rfl rfl rfl fun σ2 I => ini_ I rfl rfl rfl fun σ3 I => ini_ I rfl rfl rfl fun σ4 I => ini_ I rfl rfl rfl fun σ5 I => ⟨rfl, H.ini I fun τ5 T5 H5 o => ?_⟩))
  refine c_draw H5 (by decide) (by decide) fun σ6 v H6 _ _ => k_eqi (new_ fun tt σ7 E7 htt _ => .mk rfl htt rfl ?_)
  have hv : RVl τ5 ⟨x, d, 0, 0, 0, 0⟩ := o
  refine c_draw (H6.grow E7) (by decide) (by decide) fun σ8 w H8 _ _ => k_eqi (kB (fun _ => ?_) fun _ => ?_)
  · exact pair_gl (nv := ⟨x, d, 0, 0, 0, 0⟩) (r := []) (H8.less 9) hv fun τ' σ' t T => q τ' σ' t (T5.trans T)
  · exact pair_cl (nv := ⟨x, d, 0, 0, 0, 0⟩) H8 hv fun τ' σ' t T => q τ' σ' t (T5.trans T)
end
end Mine
end
section
open PySem
namespace Mine
-- Q23
noncomputable def PtG (form : Int) : Pt → Prop
  | .num n => form = 1 → 0 ≤ n ∧ n < 6
  | .cov c => ∀ g ∈ c.gs, 0 ≤ g ∧ g < 6
inductive RTu (τ : Sg) (form : Int) (t : Addr) (ps : List Pt) : Prop
  | mk (h : τ t = some (.tup (ps.map Pt.v))) (r : ∀ p ∈ ps, RPt τ form p) (g : ∀ p ∈ ps, PtG form p)
inductive RPr (τ : Sg) (form : Int) (r : Rl) : Prop
  | mk (b : RTu τ form r.tb r.back) (i : RTu τ form r.ti (r.i0 :: r.ins)) (h : RTu τ form r.th r.ah) (c : τ r.tc = some (.tup (r.acts.map Ac.v))) (ra : ∀ a ∈ r.acts, RAc τ a) (ok : ∀ a ∈ r.acts, AcOk a) (lb : r.back.length ≤ 2) (li : r.ins.length ≤ 1) (lh : r.ah.length ≤ 2)
noncomputable def sizeB : List S := [.ite (.cmp .Eq (.loc 1) (.lit (.int (3)))) [
          .expr (.meth (.loc 7) "append" [(.tcall "tuple" [(.comp1 (.fcall 435 [(.fcall 939 [(.loc 0), (.lit (.int (2)))])]) 12 (.tcall "range" [(.loc 8)]) [])])])] [
          .expr (.meth (.loc 7) "append" [(.tcall "tuple" [(.comp1 (.fcall 920 [(.loc 0), (.ite (.cmp .Eq (.loc 1) (.lit (.int (1)))) (.lit (.int (6))) (.lit (.int (2))))]) 12 (.tcall "range" [(.loc 8)]) [])])])]]
section
variable {p R0 : Addr} {τ μ σ : Sg} {N n k : Nat} {Q : Po} {R : Ps} {form : Int} {xs : List V} {y2 y3 y4 y5 y6 y7 y8 y9 y10 y11 y12 y13 : Option V} {ch : Bool}
theorem RTu.ext {τ' : Sg} {t : Addr} {ps : List Pt} (E : Ext τ τ') (h : RTu τ form t ps) : RTu τ' form t ps := ⟨E _ _ h.1, fun p k => (h.2 p k).ext E, h.3⟩
theorem size_lap (H : Pn p τ (up μ R0 (.list xs)) σ (N + 14)) (hf : form = 1 ∨ form = 2 ∨ form = 3) (hk : k ≤ 2) (hl : xs.length ≤ 10)
    (q : ∀ τ' σ' t ps, Ext τ τ' → Pn p τ' (up μ R0 (.list (xs ++ [.ref t]))) σ' N → RTu τ' form t ps → ps.length = k → R .next [some (.ref p), some (.int form), y2, y3, y4, y5, y6, some (.ref R0), some (.int k), y9, y10, y11, y12, y13] σ') :
    awpSs (callSem (n + 3)) sizeB R [some (.ref p), some (.int form), y2, y3, y4, y5, y6, some (.ref R0), some (.int k), y9, y10, y11, y12, y13] σ := by
  have run : ∀ {elt : E}, (∀ (v : V) τ1 σ1 M (Q : Po), Pn p τ1 (up μ R0 (.list xs)) σ1 (M + 7) → (∀ y τ2 σ2, Ext τ1 τ2 → Pn p τ2 (up μ R0 (.list xs)) σ2 M → RPt τ2 form y ∧ PtG form y → Q y.v σ2) → awpE (callSem (n + 3)) elt [some (.ref p), some (.int form), y2, y3, y4, y5, y6, some (.ref R0), some (.int k), y9, y10, y11, some v, y13] Q σ1) → awpSs (callSem (n + 3)) [.expr (.meth (.loc 7) "append" [(.tcall "tuple" [(.comp1 elt 12 (.tcall "range" [(.loc 8)]) [])])])] R [some (.ref p), some (.int form), y2, y3, y4, y5, y6, some (.ref R0), some (.int k), y9, y10, y11, y12, y13] σ := fun {elt} he =>
    m_app H.at (prange (c := 7) (N := N) (f := Pt.v) (R := fun τ x => RPt τ form x ∧ PtG form x) (fun E h => ⟨h.1.ext E, h.2⟩) k rfl (Nat.le_trans hk (by decide)) (H.le (Nat.add_le_add_left (Nat.mul_le_mul_left 7 hk) N)) (fun j τ1 σ1 M Q _ _ H1 q => he _ τ1 σ1 M Q H1 q) fun l ys τ1 σ1 T1 H1 hl' h1 h2 =>
      .tuple rfl rfl (H1.1 _ _ hl') (by rw [List.length_map, h1]; exact Nat.le_trans hk (by decide)) (pnew H1 fun t τ2 σ2 T2 H2 ht => t_app H2.at (Nat.le_trans hl (by decide)) (q τ2 _ t ys (T1.trans T2) H2.reput ⟨ht, fun p k => (h2 p k).1.ext T2, fun p k => (h2 p k).2⟩ h1)))
  rcases hf with rfl | rfl | rfl
  · exact k_eqi (.f rfl (run fun v τ1 σ1 M Q H1 q => k_eqi (.t rfl (c_draw (H1.less 6) (by decide) (by decide) fun σ2 v H2 v0 v6 => q (.num v) τ1 σ2 (.refl τ1) H2 ⟨.inl rfl, fun _ => ⟨v0, v6⟩⟩))))
  · exact k_eqi (.f rfl (run fun v τ1 σ1 M Q H1 q => k_eqi (.f rfl (c_draw (H1.less 6) (by decide) (by decide) fun σ2 v H2 v0 v6 => q (.num v) τ1 σ2 (.refl τ1) H2 ⟨.inr rfl, fun e => absurd e (by decide)⟩))))
  · exact k_eqi (.t rfl (run fun v τ1 σ1 M Q H1 q => c_fcov H1 fun τ2 σ2 c T2 H2 hc hg => q (.cov c) τ2 σ2 T2 H2 ⟨⟨rfl, hc⟩, hg⟩))
noncomputable def preB : List S := [
      .assign (.one (.loc 7)) (.list []),
      .for (.one (.loc 8)) (.tup [(.ite (.loc 2) (.fcall 920 [(.loc 0), (.lit (.int (2)))]) (.lit (.int (0)))), (.bin .Add (.lit (.int (1))) (.fcall 920 [(.loc 0), (.lit (.int (2)))])), (.ite (.loc 2) (.fcall 920 [(.loc 0), (.lit (.int (2)))]) (.lit (.int (0))))]) sizeB,
      .assign (.one (.loc 9)) (.tcall "tuple" [(.comp1 (.tup [(.fcall 920 [(.loc 0), (.lit (.int (3)))]), (.fcall 920 [(.loc 0), (.lit (.int (2)))])]) 12 (.tcall "range" [(.fcall 920 [(.loc 0), (.lit (.int (3)))])]) [])]),
      .assign (.one (.loc 10)) (.ite (.cmp .Eq (.loc 1) (.lit (.int (3)))) (.lit (.int (0))) (.sub (.sub (.loc 7) (.lit (.int (1)))) (.lit (.int (0)))))]
theorem size_at (H : Pn p τ μ σ (N + 1)) (h1 : ∀ σ' (v : Nat), Pn p τ μ σ' N → v ≤ 1 → Q (.int v) σ') : kIf (callSem (n + 1) 920 [.ref p, .int 2] · Q) (Q (.int 0)) ch σ :=
  kB (fun _ => c_draw H (by decide) (by decide) fun σ' v H' v0 v2 => by
    obtain ⟨k, rfl⟩ := Int.eq_ofNat_of_zero_le v0
    exact h1 σ' k H' (Nat.le_of_lt_succ (Int.ofNat_lt.mp v2))) fun _ => h1 σ 0 (H.less 1) (Nat.zero_le _)
inductive Ky (form key : Int) (r : Rl) : Prop
  | mk (k1 : form = 1 → 0 ≤ key ∧ key < 6) (k3 : form = 3 → key = 0)
theorem cx_pre (H : Pn p τ μ σ (N + 50)) (hf : form = 1 ∨ form = 2 ∨ form = 3) {r : List S}
    (q : ∀ τ' σ' R0 r' key x8, Ext τ τ' → Pn p τ' μ σ' N → τ' R0 = some (.list [.ref r'.tb, .ref r'.ti, .ref r'.th]) → RPr τ' form r' → Ky form key r' → awpSs (callSem (n + 3)) r R [some (.ref p), some (.int form), some (.bool ch), y3, y4, y5, y6, some (.ref R0), x8, some (.ref r'.tc), some (.int key), y11, y12, y13] σ') :
    awpSs (callSem (n + 3)) (preB ++ r) R [some (.ref p), some (.int form), some (.bool ch), y3, y4, y5, y6, y7, y8, y9, y10, y11, y12, y13] σ := by
  refine pmut H fun R0 σ1 hR H1 => size_at H1 fun σ2 k0 H2 l0 => c_draw H2 (by decide) (by decide) fun σ3 v H3 v0 v2 => b_add (size_at H3 fun σ4 k2 H4 l2 => ?_)
  obtain ⟨k1, rfl⟩ := Int.eq_ofNat_of_zero_le v0
  have l1 : 1 + k1 ≤ 2 := Nat.add_le_add_left (Nat.le_of_lt_succ (Int.ofNat_lt.mp v2)) 1
  rw [show (1 : Int) + (k1 : Int) = ((1 + k1 : Nat) : Int) from rfl]
  refine pnew H4 fun st_ τ5 σ5 T5 H5 hst => ?_
  have h5 := H5.1 _ _ hst
  refine .mk (.tup rfl h5) (f_cons (same_tup h5 h5) (size_lap (N := N + 33) (k := k0) H5 hf (Nat.le_succ_of_le l0) (Nat.zero_le _) fun τ6 σ6 t0 p0 T6 H6 r0 e0 => ?_))
  show forL _ _ _ _ _ _
  refine f_cons (same_tup h5 (H6.1 _ _ (T6 _ _ hst))) (size_lap (N := N + 19) (k := 1 + k1) H6 hf l1 (show 1 ≤ 10 by decide) fun τ7 σ7 t1 p1 T7 H7 r1 e1 => ?_)
  have T57 := T6.trans T7
  show forL _ _ _ _ _ _
  refine f_cons (same_tup h5 (H7.1 _ _ (T57 _ _ hst))) (size_lap (N := N + 5) (k := k2) H7 hf (Nat.le_succ_of_le l2) (show 2 ≤ 10 by decide) fun τ8 σ8 t2 p2 T8 H8 r2 e2 => ?_)
  show forL _ _ _ _ _ _
  refine f_nil (same_tup h5 (H8.1 _ _ (T8 _ _ (T57 _ _ hst)))) (c_draw H8 (by decide) (by decide) fun σ9 v H9 v0 v3 => ?_)
  obtain ⟨ka, rfl⟩ := Int.eq_ofNat_of_zero_le v0
  have la : ka ≤ 2 := Nat.le_of_lt_succ (Int.ofNat_lt.mp v3)
  refine prange (c := 2) (N := N) (f := Ac.v) (R := fun τ a => RAc τ a ∧ AcOk a) (fun E h => ⟨E _ _ h.1, h.2⟩) ka rfl (Nat.le_trans la (by decide)) (H9.le (Nat.add_le_add_left (Nat.mul_le_mul_left 2 la) N)) (fun j τa σa M Q _ _ Ha q => c_draw Ha (by decide) (by decide) fun σb i Hb i0 i3 => c_draw Hb (by decide) (by decide) fun σc w Hc w0 w2 => pnew Hc fun t τd σd Td Hd ht => q ⟨t, i, w⟩ τd σd Td Hd ⟨ht, i0, i3, by lia⟩) fun l acts τa σa Ta Ha hla ea ra => ?_
  refine .tuple rfl rfl (Ha.1 _ _ hla) (by rw [List.length_map, ea]; exact Nat.le_trans la (by decide)) (pnew Ha fun tc τb σb Tb Hb htc => ?_)
  refine Hb.seal (up_ext hR) (.refl σb) fun τc Tc at_ Hc => ?_
  have hR0 := at_ R0 _ Hb.at (ne_of (up_self μ R0 _) Hb.5) hR
  have T8c := (Ta.trans Tb).trans Tc
  have T5c := T57.trans (T8.trans T8c)
  cases p1 with
  | nil => exact absurd e1 (by rw [List.length_nil]; lia)
  | cons i0 ins =>
  have li : ins.length ≤ 1 := Nat.le_of_succ_le_succ (Nat.le_trans (Nat.le_of_eq e1) l1)
  have pr : RPr τc form ⟨0, 0, t0, t1, t2, tc, p0, i0, ins, p2, acts⟩ := ⟨r0.ext (T7.trans (T8.trans T8c)), r1.ext (T8.trans T8c), r2.ext T8c, Tc _ _ htc, fun a h => (Tb.trans Tc) _ _ (ra a h).1, fun a h => (ra a h).2, e0 ▸ Nat.le_succ_of_le l0, li, e2 ▸ Nat.le_succ_of_le l2⟩
  have go := fun key ky => q τc σb R0 ⟨0, 0, t0, t1, t2, tc, p0, i0, ins, p2, acts⟩ key (some (.int k2)) (T5.trans T5c) Hc hR0 pr ky
  refine k_eqi ?_
  by_cases f3 : form = 3
  · exact .t (by rw [f3]; rfl) (go 0 ⟨fun h => absurd (f3 ▸ h) (by decide), fun _ => rfl⟩)
  · refine .f (beq_false_of_ne f3) (u_l (Hc.1 _ _ hR0) i1 ?_)
    have hp := pr.2.2 i0 (.head _)
    have hg := pr.2.3 i0 (.head _)
    have ht := Hc.1 _ _ pr.2.1
    cases i0 with
    | num k => exact u_t ht i0 (go k ⟨hg, fun h => absurd h f3⟩)
    | cov c => exact absurd hp.1 f3
end
end Mine
end
section
open PySem
namespace Mine
-- Q24
abbrev Sets := List (Int × Addr × List Rl)
inductive SM (μ0 μ : Sg) (K : Addr) (n : Nat) (sets : Sets) : Prop
  | mk (E : Ext μ0 μ) (k : μ K = some (.dict n (sets.map setV))) (s : ∀ e ∈ sets, μ e.2.1 = some (.list (e.2.2.map Rl.v))) (k0 : μ0 K = none) (s0 : ∀ e ∈ sets, μ0 e.2.1 = none)
inductive GR (τ : Sg) (form : Int) (r : Rl) : Prop
  | mk (h : RRl τ form r) (g : PtG form r.i0) (a : ∀ a ∈ r.acts, AcOk a)
noncomputable def addS : S := .expr (.meth (.meth (.loc 5) "setdefault" [(.loc 10), (.list [])]) "append" [(.ccall 466 449 [(.sub (.loc 7) (.lit (.int (0)))), (.sub (.loc 7) (.lit (.int (1)))), (.sub (.loc 7) (.lit (.int (2)))), (.loc 9)])])
section
variable {p K R0 : Addr} {τ μ μ0 σ : Sg} {N n nk : Nat} {Q : Po} {R : Ps} {form key : Int} {sets : Sets} {r : Rl} {y1 y2 y3 y4 y6 y8 y11 y12 y13 : Option V}
theorem GR.ext {τ' : Sg} (E : Ext τ τ') (h : GR τ form r) : GR τ' form r := ⟨h.1.ext E, h.2, h.3⟩
theorem new_rule (H : Pn p τ μ σ N) (h : RPr τ form r) (q : ∀ τ' σ' s d, Ext τ τ' → Pn p τ' μ σ' N → GR τ' form { r with a := s, d := d } → Q (.ref s) σ') : ClsK (callSem (n + 1)) 466 449 Q [.ref r.tb, .ref r.ti, .ref r.th, .ref r.tc] σ :=
  cls_ fun x d σ1 I => call fn_Rule_init rfl rfl (ini_ I rfl rfl rfl fun σ2 I => ini_ I rfl rfl rfl fun σ3 I => ini_ I rfl rfl rfl fun σ4 I => ini_ I rfl rfl rfl fun σ5 I => ⟨rfl, H.ini I fun τ5 T H5 o => q τ5 σ5 x d T H5 ⟨⟨o, T _ _ h.1.1, T _ _ h.2.1, T _ _ h.3.1, T _ _ h.4, fun p k => (h.1.2 p k).ext T, fun p k => (h.2.2 p k).ext T, fun p k => (h.3.2 p k).ext T, fun a k => T _ _ (h.5 a k), Nat.le_trans h.7 (by decide), Nat.le_trans h.8 (by decide), Nat.le_trans h.9 (by decide)⟩, h.2.3 _ (.head _), h.6⟩⟩)
theorem add_new (H : Pn p τ μ σ N) (S : SM μ0 μ K nk sets) (hno : (sets.map setV).lookup key = none) (hl : sets.length ≤ 50) (hR : τ R0 = some (.list [.ref r.tb, .ref r.ti, .ref r.th])) (h : RPr τ form r)
    (q : ∀ τ' μ' σ' n' e0 r', Ext τ τ' → Pn p τ' μ' σ' N → SM μ0 μ' K n' (sets ++ [(key, e0, [r'])]) → GR τ' form r' → R .next [some (.ref p), y1, y2, y3, y4, some (.ref K), y6, some (.ref R0), y8, some (.ref r.tc), some (.int key), y11, y12, y13] σ') :
    awpSs (callSem (n + 1)) [addS] R [some (.ref p), y1, y2, y3, y4, some (.ref K), y6, some (.ref R0), y8, some (.ref r.tc), some (.int key), y11, y12, y13] σ := by
  refine m_sdf (H.2 _ _ S.2) (pmut H fun e0 σ1 he H1 => ?_)
  have ne : K ≠ e0 := ne_of S.2 he
  have k1 : up μ e0 (.list []) K = _ := (up_ne ne).trans S.2
  refine .sdfN rfl rfl (H1.2 _ _ k1) (by rw [List.length_map]; exact Nat.le_trans hl (by decide)) hno fun n' => ?_
  have H2 := H1.put (c := .dict n' (sets.map setV ++ [(key, .ref e0)])) k1
  have e1 : up (up μ e0 (.list [])) K (.dict n' (sets.map setV ++ [(key, .ref e0)])) e0 = _ := (up_ne ne.symm).trans (up_self _ _ _)
  have h2 := H2.1 _ _ hR
  refine m_app (H2.2 _ _ e1) (u_l h2 i0 (u_l h2 i1 (u_l h2 i2 (new_rule H2 h fun τ3 σ3 s d T3 H3 g => t_app (H3.2 _ _ e1) (Nat.zero_le _) (q τ3 _ _ n' e0 _ T3 (H3.put e1) ?_ g)))))
  have h0 := S.1.no he
  refine ⟨((S.1.put h0).put S.4).put h0, ((up_ne ne).trans (up_self _ _ _)).trans (by rw [List.map_append]; rfl), fun e k => ?_, S.4, fun e k => ?_⟩
  · rcases List.mem_append.mp k with k | k
    · have hs := S.3 e k
      have ne0 : e.2.1 ≠ e0 := ne_of hs he
      exact (up_ne ne0).trans ((up_ne fun q => nomatch (q ▸ hs).symm.trans S.2).trans ((up_ne ne0).trans hs))
    · rw [List.mem_singleton.mp k]; exact up_self _ _ _
  · exact (List.mem_append.mp k).elim (S.5 e) fun k => List.mem_singleton.mp k ▸ h0
theorem add_old {l : Addr} {rs : List Rl} (H : Pn p τ μ σ N) (S : SM μ0 μ K nk [(key, l, rs)]) (hl : rs.length ≤ 50) (hR : τ R0 = some (.list [.ref r.tb, .ref r.ti, .ref r.th])) (h : RPr τ form r)
    (q : ∀ τ' μ' σ' r', Ext τ τ' → Pn p τ' μ' σ' N → SM μ0 μ' K nk [(key, l, rs ++ [r'])] → GR τ' form r' → R .next [some (.ref p), y1, y2, y3, y4, some (.ref K), y6, some (.ref R0), y8, some (.ref r.tc), some (.int key), y11, y12, y13] σ') :
    awpSs (callSem (n + 1)) [addS] R [some (.ref p), y1, y2, y3, y4, some (.ref K), y6, some (.ref R0), y8, some (.ref r.tc), some (.int key), y11, y12, y13] σ := by
  refine m_sdf (H.2 _ _ S.2) (new_ fun e0 σ1 E1 _ _ => ?_)
  have H1 := H.grow E1
  have hs := S.3 _ (.head _)
  refine .sdfS rfl rfl (H1.2 _ _ S.2) (show 1 ≤ 100 by decide) (v := .ref l) (by rw [List.map_cons, setV, List.lookup_cons, BEq.rfl]) ?_
  have h2 := H1.1 _ _ hR
  refine m_app (H1.2 _ _ hs) (u_l h2 i0 (u_l h2 i1 (u_l h2 i2 (new_rule H1 h fun τ3 σ3 s d T3 H3 g => t_app (H3.2 _ _ hs) (by rw [List.length_map]; exact Nat.le_trans hl (by decide)) (q τ3 _ _ _ T3 (H3.put hs) ?_ g)))))
  refine ⟨S.1.put (S.5 _ (.head _)), (up_ne fun q => nomatch (q ▸ S.2).symm.trans hs).trans S.2, fun e k => ?_, S.4, fun e k => ?_⟩
  · rw [List.mem_singleton.mp k, List.map_append]; exact up_self _ _ _
  · rw [List.mem_singleton.mp k]; exact S.5 (key, l, rs) (.head _)
inductive GS (τ : Sg) (form : Int) (sets : Sets) : Prop
  | mk (r : ∀ e ∈ sets, ∀ r ∈ e.2.2, GR τ form r) (k1 : form = 1 → ∀ e ∈ sets, 0 ≤ e.1 ∧ e.1 < 6) (k3 : form = 3 → ∃ l rs, sets = [(0, l, rs)] ∧ rs.length ≤ 10) (l : sets.length ≤ 100) (l' : ∀ e ∈ sets, e.2.2.length ≤ 100)
theorem lap1 (H : Pn p τ μ σ (N + 50)) (hf : form = 1 ∨ form = 2 ∨ form = 3) (S : SM μ0 μ K nk []) {ch : Bool} {x6 y7 y9 y10 : Option V}
    (q : ∀ τ' μ' σ' n' k l r x7 x8 x9 x10, Ext τ τ' → Pn p τ' μ' σ' N → SM μ0 μ' K n' [(k, l, [r])] → GR τ' form r → Ky form k r → R .next [some (.ref p), some (.int form), some (.bool ch), y3, y4, some (.ref K), x6, x7, x8, x9, x10, y11, y12, y13] σ') :
    awpSs (callSem (n + 3)) (preB ++ [addS]) R [some (.ref p), some (.int form), some (.bool ch), y3, y4, some (.ref K), x6, y7, y8, y9, y10, y11, y12, y13] σ :=
  cx_pre H hf fun τ1 σ1 R0 r key x8 T1 H1 hR h ky => add_new H1 S rfl (Nat.zero_le _) hR h fun τ2 μ2 σ2 n' e0 r' T2 H2 S2 g => q τ2 μ2 σ2 n' key e0 r' _ _ _ _ (T1.trans T2) H2 S2 g ⟨ky.1, ky.2⟩
theorem lap2 (H : Pn p τ μ σ (N + 50)) (hf : form = 1 ∨ form = 2) {k : Int} {l : Addr} (S : SM μ0 μ K nk [(k, l, [r])]) (g : GR τ form r) (hk : form = 1 → 0 ≤ k ∧ k < 6) {ch : Bool} {x6 y7 y9 y10 : Option V}
    (q : ∀ τ' μ' σ' n' sets x7 x8 x9 x10, Ext τ τ' → Pn p τ' μ' σ' N → SM μ0 μ' K n' sets → GS τ' form sets → R .next [some (.ref p), some (.int form), some (.bool ch), y3, y4, some (.ref K), x6, x7, x8, x9, x10, y11, y12, y13] σ') :
    awpSs (callSem (n + 3)) (preB ++ [addS]) R [some (.ref p), some (.int form), some (.bool ch), y3, y4, some (.ref K), x6, y7, y8, y9, y10, y11, y12, y13] σ := by
  have f3 : form ≠ 3 := by rcases hf with f | f <;> rw [f] <;> decide
  refine cx_pre H (hf.imp_right .inl) fun τ1 σ1 R0 r1 key x8 T1 H1 hR h ky => ?_
  by_cases e : key = k
  · subst e
    refine add_old H1 S (show 1 ≤ 50 by decide) hR h fun τ2 μ2 σ2 r2 T2 H2 S2 g2 => q τ2 μ2 σ2 nk _ _ _ _ _ (T1.trans T2) H2 S2 ⟨fun e he r' hr => ?_, fun f e he => by rw [List.mem_singleton.mp he]; exact hk f, fun f => absurd f f3, (show 1 ≤ 100 by decide), fun e he => by rw [List.mem_singleton.mp he]; exact (show 2 ≤ 100 by decide)⟩
    rw [List.mem_singleton.mp he] at hr
    exact (List.mem_append.mp hr).elim (fun hr => List.mem_singleton.mp hr ▸ g.ext (T1.trans T2)) fun hr => List.mem_singleton.mp hr ▸ g2
  · refine add_new H1 S (by rw [List.map_cons, setV, List.lookup_cons, beq_false_of_ne e]; rfl) (show 1 ≤ 50 by decide) hR h fun τ2 μ2 σ2 n' e0 r2 T2 H2 S2 g2 => q τ2 μ2 σ2 n' _ _ _ _ _ (T1.trans T2) H2 S2 ⟨fun e he r' hr => ?_, fun f e he => ?_, fun f => absurd f f3, (show 2 ≤ 100 by decide), fun e he => ?_⟩
    · rcases List.mem_append.mp he with he | he <;> rw [List.mem_singleton.mp he] at hr
      · exact List.mem_singleton.mp hr ▸ g.ext (T1.trans T2)
      · exact List.mem_singleton.mp hr ▸ g2
    · rcases List.mem_append.mp he with he | he <;> rw [List.mem_singleton.mp he]
      · exact hk f
      · exact ky.1 f
    · rcases List.mem_append.mp he with he | he <;> rw [List.mem_singleton.mp he] <;> exact (show 1 ≤ 100 by decide)
end
end Mine
end
section
open PySem
namespace Mine
-- Q25
section
variable {p K : Addr} {τ μ μ' σ : Sg} {N n nk : Nat} {Q : Po} {form : Int} {sets : Sets} {ch : Bool} {cov : Cov} {ct : Addr} {c0 c1 c2 : Cd}
noncomputable def AcsOk (sets : Sets) : Prop := ∀ e ∈ sets, ∀ r ∈ e.2.2, ∀ a ∈ r.acts, AcOk a
theorem ctx_end (H : Pn p τ μ' σ N) (S : SM μ μ' K nk sets) (G : GS τ form sets) (hf : form = 1 ∨ form = 2 ∨ form = 3) (hct : τ ct = some (.tup [.ref c0.a, .ref c1.a, .ref c2.a])) (h0 : RCd τ c0) (h1 : RCd τ c1) (h2 : RCd τ c2) (hcov : form = 2 → RCov τ cov ∧ ∀ g ∈ cov.gs, 0 ≤ g ∧ g < 6)
    (q : ∀ τ' σ' t, Ext τ τ' → Pn p τ' μ σ' N → RCx τ' t → AcsOk t.sets → Q (.ref t.a) σ') :
    ClsK (callSem (n + 1)) 507 485 Q [.int form, .bool ch, .ref K, if form = 2 then .ref cov.a else .none, if form = 2 then .ref ct else .none] σ := by
  have nb : ∀ {a : Addr}, notB (if form = 2 then V.ref a else .none) = true := fun {a} => by split <;> rfl
  refine H.seal S.1 (.refl σ) fun τ1 T1 at_ H1 => cls_ fun x d σ2 I => call fn_Contexts_init rfl rfl (ini_ I rfl rfl rfl fun σ3 I => ini_ I rfl rfl rfl fun σ4 I => ini_ I rfl rfl rfl fun σ5 I => ini_ I rfl rfl nb fun σ6 I => ini_ I rfl rfl nb fun σ7 I => ⟨rfl, H1.ini I fun τ2 T2 H2 o => ?_⟩)
  have T := T1.trans T2
  refine q τ2 σ7 ⟨x, d, K, nk, .bool ch, form, sets, cov, ct, c0, c1, c2⟩ T H2 ⟨o, T2 _ _ (at_ _ _ (H.2 _ _ S.2) (ne_of S.2 H.5) S.4), fun e he => ⟨T2 _ _ (at_ _ _ (H.2 _ _ (S.3 e he)) (ne_of (S.3 e he) H.5) (S.5 e he)), fun r hr => (G.1 e he r hr).1.ext T, G.5 e he⟩, fun f => ⟨(hcov f).1.ext T, T _ _ hct, h0.ext T, h1.ext T, h2.ext T⟩, hf, G.3, G.4, G.2, fun f => (hcov f).2, fun e he r hr c hc => ?_⟩ fun e he r hr => (G.1 e he r hr).3
  have := (G.1 e he r hr).2
  rw [hc] at this
  exact this
theorem c_context_table (H : Pn p τ μ σ (N + 130)) (hf : form = 1 ∨ form = 2 ∨ form = 3) (q : ∀ τ' σ' t, Ext τ τ' → Pn p τ' μ σ' N → RCx τ' t → AcsOk t.sets → Q (.ref t.a) σ') : callSem (n + 5) 949 [.ref p, .int form, .bool ch] σ Q := by
  refine callm fn_law_context_table [some _, some (.int form), some (.bool ch), none, none, none, none, none, none, none, none, none, none, none] rfl rfl rfl ?_
  refine prange (N := N + 109) (c := 7) (f := fun cd : Cd => .ref cd.a) (R := RCd) (fun E h => h.ext E) 3 rfl (by decide) H (fun j τ1 σ1 M Q _ _ H1 q => ?_) fun l ys τ1 σ1 T1 H1 hl hy rc => .tuple rfl rfl (H1.1 _ _ hl) (by rw [List.length_map, hy]; decide) (pnew H1 fun ct τ2 σ2 T2 H2 hct => ?_)
  · exact e_cls (N := M) (c := 0) (Vp := fun _ => True) H1 rfl (fun _ => rfl) (fun g τ6 σ6 M Q _ H6 q => q σ6 1 H6 trivial) fun τ' σ' cd T H' h _ => q cd τ' σ' T H' h
  match ys, hy with
  | [c0, c1, c2], _ =>
  have h0 := (rc c0 (.head _)).ext T2
  have h1 := (rc c1 (.tail _ (.head _))).ext T2
  have h2 := (rc c2 (.tail _ (.tail _ (.head _)))).ext T2
  refine ⟨fun n0 => pmut H2 fun K σ3 hK H3 => ?_⟩
  have S3 : SM μ (up μ K (.dict n0 [])) K n0 [] := ⟨up_ext hK, up_self _ _ _, fun _ h => (nomatch h), hK, fun _ h => nomatch h⟩
  have rest : ∀ {τ4 σ4 : Sg} {μ4 : Sg} {n4 : Nat} {sets : Sets} {x3 x6 x7 x8 x9 x10 : Option V}, Ext τ2 τ4 → Pn p τ4 μ4 σ4 (N + 7) → SM μ μ4 K n4 sets → GS τ4 form sets → awpSs (callSem (n + 4)) (fn_law_context_table.body.drop 3) (kEnd Q) [some (.ref p), some (.int form), some (.bool ch), x3, some (.ref ct), some (.ref K), x6, x7, x8, x9, x10, none, none, none] σ4 := fun {τ4 σ4 μ4 n4 sets x3 x6 x7 x8 x9 x10} T4 H4 S4 G4 => by
    have T04 := (T1.trans T2).trans T4
    refine k_eqi ?_
    by_cases f2 : form = 2
    · refine .t (by rw [f2]; rfl) (c_fcov H4 fun τ5 σ5 cov T5 H5 hc hg => k_eqi (.t (by rw [f2]; rfl) ?_))
      have := ctx_end (n := n + 3) (ch := ch) (cov := cov) (Q := Q) H5 S4 ⟨fun e he r hr => (G4.1 e he r hr).ext T5, G4.2, G4.3, G4.4, G4.5⟩ hf ((T4.trans T5) _ _ hct) (h0.ext (T4.trans T5)) (h1.ext (T4.trans T5)) (h2.ext (T4.trans T5)) (fun _ => ⟨hc, hg⟩) fun τ' σ' t T => q τ' σ' t ((T04.trans T5).trans T)
      rw [if_pos f2, if_pos f2] at this
      exact this
    · refine .f (beq_false_of_ne f2) (k_eqi (.f (beq_false_of_ne f2) ?_))
      have := ctx_end (n := n + 3) (ch := ch) (cov := ⟨0, 0, 0, []⟩) (Q := Q) (H4.less 7) S4 G4 hf (T4 _ _ hct) (h0.ext T4) (h1.ext T4) (h2.ext T4) (fun f => absurd f f2) fun τ' σ' t T => q τ' σ' t (T04.trans T)
      rw [if_neg f2, if_neg f2] at this
      exact this
  have laps : ∀ {σ4 : Sg} (k : Nat), Pn p τ2 (up μ K (.dict n0 [])) σ4 (N + 107) → (k = 1 ∨ (k = 2 ∧ form ≠ 3)) → ∀ {x1 : Addr}, σ4 x1 = some (.tup [.ref K, .int k]) → ManyK (callSem (n + 4)) [.loc 5, .loc 6] (fun m σ => awpSs (callSem (n + 4)) (fn_law_context_table.body.drop 2) (kEnd Q) m σ) [some (.ref p), some (.int form), some (.bool ch), none, some (.ref ct), none, none, none, none, none, none, none, none, none] (.ref x1) σ4 := fun {σ4} k H4 hk x1 hx => by
    refine .mk rfl hx rfl (.range rfl rfl (by lia) (by lia) (pnew H4 fun rl τ5 σ5 T5 H5 hrl => ?_))
    have h5 := H5.1 _ _ hrl
    have hi : Items σ5 (.ref rl) (rangeL 0 k) := .range rfl h5
    rw [range_nat] at hi
    refine .mk hi ?_
    rcases hk with rfl | ⟨rfl, f3⟩
    · refine f_cons (same_range h5 h5) (lap1 H5 hf S3 fun τ6 μ6 σ6 n6 k l r x7 x8 x9 x10 T6 H6 S6 g ky => ?_)
      show forL _ _ _ _ _ _
      refine f_nil (same_range h5 (H6.1 _ _ (T6 _ _ hrl))) (rest (T5.trans T6) (H6.less 50) S6 ⟨fun e he r' hr => ?_, fun f e he => ?_, fun f => ⟨l, [r], by rw [ky.2 f], (show 1 ≤ 10 by decide)⟩, (show 1 ≤ 100 by decide), fun e he => ?_⟩)
      · rw [List.mem_singleton.mp he] at hr; exact List.mem_singleton.mp hr ▸ g
      · rw [List.mem_singleton.mp he]; exact ky.1 f
      · rw [List.mem_singleton.mp he]; exact (show 1 ≤ 100 by decide)
    · have hf2 : form = 1 ∨ form = 2 := hf.imp_right fun h => h.resolve_right f3
      refine f_cons (same_range h5 h5) (lap1 H5 hf S3 fun τ6 μ6 σ6 n6 k l r x7 x8 x9 x10 T6 H6 S6 g ky => ?_)
      show forL _ _ _ _ _ _
      refine f_cons (same_range h5 (H6.1 _ _ (T6 _ _ hrl))) (lap2 H6 hf2 S6 g ky.1 fun τ7 μ7 σ7 n7 sets x7 x8 x9 x10 T7 H7 S7 G7 => ?_)
      show forL _ _ _ _ _ _
      exact f_nil (same_range h5 (H7.1 _ _ ((T6.trans T7) _ _ hrl))) (rest ((T5.trans T6).trans T7) H7 S7 G7)
  refine k_eqi ?_
  by_cases f3 : form = 3
  · exact .t (by rw [f3]; rfl) (new_ fun t σ4 E4 ht _ => laps 1 ((H3.grow E4).less 2) (.inl rfl) ht)
  · refine .f (beq_false_of_ne f3) (c_draw H3 (by decide) (by decide) fun σ4 v H4 v0 v2 => b_add (new_ fun t σ5 E5 ht _ => ?_))
    obtain ⟨k, rfl⟩ := Int.eq_ofNat_of_zero_le v0
    exact laps (1 + k) ((H4.grow E5).less 1) (by have := Int.ofNat_lt.mp v2; lia) ht
end
end Mine
end
section
open PySem
namespace Mine
-- Q26
noncomputable def ext1 {α : Type} (A : Nat → α) (n : Nat) (x : α) : Nat → α := fun j => if j = n then x else A j
theorem ext1_at {α : Type} {A : Nat → α} {n : Nat} {x : α} : ext1 A n x n = x := if_pos rfl
theorem ext1_lt {α : Type} {A : Nat → α} {n j : Nat} {x : α} (h : j < n) : ext1 A n x j = A j := if_neg (Nat.ne_of_lt h)
theorem rowV_snoc {A : Nat → Addr} {n : Nat} {x : Addr} : rowV n A ++ [.ref x] = rowV (n + 1) (ext1 A n x) := by
  rw [rowV, rowV, List.range_succ, List.map_append, List.map_singleton, ext1_at]
  exact congrArg (· ++ _) (List.map_congr_left fun j hj => by rw [ext1_lt (List.mem_range.mp hj)])
noncomputable def info0 (i : Nat) (g : Int) : List (String × V) := [("code", .int 65), ("glyph", .int g), ("cluster", .int i), ("mask", .int 0), ("is_unsafe", .bool false), ("lig_id", .int 0), ("lig_part", .int 0), ("lig_count", .int 0), ("kind", sEmpty),
  ("x_advance", .int 0), ("y_advance", .int 0), ("x_offset", .int 0), ("y_offset", .int 0), ("parent", .int 0), ("bond", sEmpty)]
noncomputable def fsAt (rows : List Rw) (G : Nat → Int) (i : Nat) : List (String × V) := match rows[i]? with
  | some r => infoFs i r
  | none => info0 i (G i)
inductive Nf (τ μ : Sg) (k : Nat) (A D : Nat → Addr) (G : Nat → Int) (rows : List Rw) : Prop
  | mk (a : ∀ i, i < k → τ (A i) = some (.inst 135 (D i))) (d : ∀ i, i < k → μ (D i) = some (.ns (A i) (fsAt rows G i))) (g : ∀ i, i < k → 0 ≤ G i ∧ G i < 6)
theorem range_at {k j : Nat} {d r : List Nat} (e : List.range k = d ++ j :: r) : j = d.length ∧ d.length < k ∧ k - d.length = (k - (d ++ [j]).length) + 1 := by
  have h0 := split_len e
  rw [List.length_range] at h0
  have h := congrArg (·[d.length]?) e
  simp only [List.getElem?_append_right (Nat.le_refl _), Nat.sub_self, List.getElem?_cons_zero, List.getElem?_range h0] at h
  exact ⟨(Option.some.inj h).symm, h0, by rw [List.length_append, List.length_singleton]; lia⟩
section
variable {p : Addr} {τ μ σ : Sg} {N n k : Nat} {Q : Po} {R : Ps} {m : Mp} {A D : Nat → Addr} {G : Nat → Int} {rows : List Rw}
theorem fsAt_cl {i : Nat} : (fsAt rows G i).lookup "cluster" = some (.int i) := by
  unfold fsAt
  cases rows[i]? <;> rfl
theorem Nf.inj (h : Nf τ μ k A D G rows) {i j : Nat} (hi : i < k) (hj : j < k) (e : D i = D j) : i = j := by
  have := (e ▸ h.2 i hi).symm.trans (h.2 j hj)
  injection this with this
  injection this with _ this
  have := congrArg (List.lookup "cluster") this
  rw [fsAt_cl, fsAt_cl] at this
  injection this with this
  injection this with this
  exact Int.ofNat.inj this
theorem c_pen {sc : Addr} {is : List Int} (hs : σ sc = some (.scr (is.map .int))) (hl : is.length ≤ 1000) (q : ∀ p τ' σ', Ext σ τ' → Pn p τ' (fun _ => none) σ' 2000 → Q (.ref p) σ') : callSem (n + 1) 913 [.ref sc] σ Q := by
  refine call fn_law_pen rfl rfl (.scr rfl hs (by rw [List.length_map]; exact hl) (.to (by decide) (by decide)) (new_ fun a σ1 E1 ha _ => ?_))
  rw [← List.map_take] at ha
  have h40 : (is.take (40 : Int).toNat).length ≤ 40 := by rw [List.length_take]; exact Nat.min_le_left _ _
  generalize is.take (40 : Int).toNat = ts at ha h40
  refine .mk (.list rfl ha) (by rw [List.length_map]; exact Nat.le_trans h40 (by decide)) (loop_al ts (J := fun d acc σ2 => σ2 = σ1 ∧ acc = d.map .int) (fun J => same_list ha (J.1 ▸ ha)) ?_ ?_ (d := []) rfl ⟨rfl, rfl⟩)
  · rintro d j r acc σ2 R e ⟨rfl, rfl⟩ hR
    exact .t rfl (.int rfl rfl (hR _ _ ⟨rfl, map_snoc⟩))
  · rintro acc σ2 ⟨rfl, rfl⟩
    refine new_ fun c σ3 E3 hc _ => new_ fun p σ4 E4 hp h0 => ?_
    have T : Ext σ3 (hide p σ4) := E4.toHide h0
    exact q p (hide p σ4) σ4 ((E1.trans E3).trans T) ⟨hide_ext, fun _ _ e => (nomatch e), fun _ _ e => (nomatch e), hide_self _ _, rfl, c, ts, 0, 0, hp, T _ _ hc, h40, by decide, by decide⟩
theorem e_infos (H : Pn p τ μ σ (N + 8)) (hx : ∀ v, sl (st m 20 v) 20 = some v) (h1 : sl m 1 = some (.ref p)) (h1' : ∀ v, sl (st m 20 v) 1 = some (.ref p))
    (q : ∀ τ' μ' σ' il k A D G, Ext τ τ' → Ext μ μ' → Pn p τ' μ' σ' N → τ' il = some (.list (rowV k A)) → k < 8 → Nf τ' μ' k A D G [] → Q (.ref il) σ') :
    awpE (callSem (n + 2)) (.comp1 (.ccall 135 118 [(.lit (.int (65))), (.fcall 920 [(.loc 1), (.lit (.int (6)))]), (.loc 20)]) 20 (.tcall "range" [(.fcall 920 [(.loc 1), (.lit (.int (8)))])]) []) m Q σ := by
  refine v_ h1 (c_draw H (by decide) (by decide) fun σ1 v H1 v0 v8 => ?_)
  obtain ⟨k, rfl⟩ := Int.eq_ofNat_of_zero_le v0
  have k8 : k < 8 := Int.ofNat_lt.mp v8
  refine .range rfl rfl (by lia) (by lia) (pnew H1 fun rl τ2 σ2 T2 H2 hrl => ?_)
  have h2 := H2.1 _ _ hrl
  have hi : Items σ2 (.ref rl) (rangeL 0 k) := .range rfl h2
  rw [range_nat] at hi
  refine .mk hi (by rw [List.length_map, List.length_range]; lia) (loop_al (List.range k) (J := fun d acc σ3 => ∃ (τ3 μ3 : Sg) (A D : Nat → Addr) (G : Nat → Int), Ext τ2 τ3 ∧ Ext μ μ3 ∧ Pn p τ3 μ3 σ3 (N + (k - d.length)) ∧ acc = rowV d.length A ∧ Nf τ3 μ3 d.length A D G []) ?_ ?_ ?_ (d := []) rfl ⟨τ2, μ, fun _ => 0, fun _ => 0, fun _ => 0, .refl _, .refl _, H2.le (by show N + k ≤ N + 7; lia), rfl, fun _ h => (nomatch h), fun _ h => (nomatch h), fun _ h => nomatch h⟩)
  · rintro d acc σ3 ⟨τ3, μ3, A, D, G, T3, -, H3, -⟩
    exact same_range h2 (H3.1 _ _ (T3 _ _ hrl))
  · rintro d j r acc σ3 R e ⟨τ3, μ3, A, D, G, T3, M3, H3, rfl, F⟩ hR
    obtain ⟨hj, -, e1⟩ := range_at e
    subst hj
    rw [e1] at H3
    refine .t rfl (v_ (h1' _) (c_draw H3 (by decide) (by decide) fun σ4 g H4 g0 g6 => v_ (hx _) (cls_ fun x d' σ5 I => call fn_Info_init rfl rfl ?_)))
    refine ini_ I rfl rfl rfl fun σ5 I => ini_ I rfl rfl rfl fun σ5 I => ini_ I rfl rfl rfl fun σ5 I => ini_ I rfl rfl rfl fun σ5 I => ini_ I rfl rfl rfl fun σ5 I => ini_ I rfl rfl rfl fun σ5 I => ini_ I rfl rfl rfl fun σ5 I => ini_ I rfl rfl rfl fun σ5 I => ini_ I rfl rfl rfl fun σ5 I => ini_ I rfl rfl rfl fun σ5 I => ini_ I rfl rfl rfl fun σ5 I => ini_ I rfl rfl rfl fun σ5 I => ini_ I rfl rfl rfl fun σ5 I => ini_ I rfl rfl rfl fun σ5 I => ini_ I rfl rfl rfl fun σ6 I => ⟨rfl, H4.mini I fun τ6 T6 H6 hx6 hd => hR _ _ ⟨τ6, _, ext1 A d.length x, ext1 D d.length d', ext1 G d.length g, T3.trans T6, M3.put (M3.no hd), H6, ?_, ?_⟩⟩
    · rw [List.length_append]; exact rowV_snoc
    · rw [List.length_append]
      have cs : ∀ {P : Nat → Prop}, (∀ i, i < d.length → P i) → P d.length → ∀ i, i < d.length + [d.length].length → P i := fun {P} h1 h2 i hi => (Nat.lt_or_eq_of_le (Nat.le_of_lt_succ hi)).elim (h1 i) fun e => e ▸ h2
      refine ⟨cs (fun i hi => ?_) ?_, cs (fun i hi => ?_) ?_, cs (fun i hi => ?_) ?_⟩
      · rw [ext1_lt hi, ext1_lt hi]; exact T6 _ _ (F.1 i hi)
      · rw [ext1_at, ext1_at]; exact hx6
      · rw [ext1_lt hi, ext1_lt hi, fsAt, List.getElem?_nil, ext1_lt hi]
        exact (up_ne (ne_of (F.2 i hi) hd)).trans (F.2 i hi)
      · rw [ext1_at, ext1_at, fsAt, List.getElem?_nil, ext1_at]; exact up_self _ _ _
      · rw [ext1_lt hi]; exact F.3 i hi
      · rw [ext1_at]; exact ⟨g0, g6⟩
  · rintro acc σ3 ⟨τ3, μ3, A, D, G, T3, M3, H3, rfl, F⟩
    rw [List.length_range, Nat.sub_self] at H3
    rw [List.length_range] at F ⊢
    exact pnew H3 fun il τ4 σ4 T4 H4 hil => q τ4 μ3 σ4 il k A D G ((T2.trans T3).trans T4) M3 H4 hil k8 ⟨fun i hi => T4 _ _ (F.1 i hi), F.2, F.3⟩
end
end Mine
end
section
open PySem
namespace Mine
-- Q27
section
variable {p il : Addr} {τ μ σ : Sg} {N n k : Nat} {Q : Po} {R : Ps} {m : Mp} {A D : Nat → Addr} {G : Nat → Int} {rows : List Rw} {x0 x3 : Option V} {ms : Mp} {P : Sg → Prop}
theorem setf {a d : Addr} {fs : List (String × V)} {nm : String} {v : V} (H : Pn p τ (up μ d (.ns a fs)) σ N) (ha : τ a = some (.inst 135 d)) (hf : fieldOk 135 nm = true) (hl : Nat.ble fs.length 40 = true) (hv : notB v = true) (q : ∀ σ', Pn p τ (up μ d (.ns a (fput fs nm v))) σ' N → P σ') : SetK nm P v (.ref a) σ :=
  .mk rfl (H.1 _ _ ha) H.at hf (Nat.le_of_ble_eq_true hl) hv (q _ H.reput)
theorem fsAt_snoc {r : Rw} {i : Nat} (h : i ≠ rows.length) : fsAt (rows ++ [r]) G i = fsAt rows G i := by
  have e : (rows ++ [r])[i]? = rows[i]? := by
    rw [List.getElem?_append]
    split
    · rfl
    · rw [List.getElem?_eq_none (l := [r]) (by rw [List.length_singleton]; lia), List.getElem?_eq_none (by lia)]
  rw [fsAt, e]; rfl
theorem fsAt_last {r : Rw} : fsAt (rows ++ [r]) G rows.length = infoFs rows.length r := by rw [fsAt, List.getElem?_concat_length]
theorem fill (H : Pn p τ μ σ (N + 14)) (hil : τ il = some (.list (rowV k A))) (hk : k < 8) (F : Nf τ μ k A D G [])
    (q : ∀ μ' σ' x rows, Pn p τ μ' σ' N → rows.length = k → GOk rows → Nf τ μ' k A D G rows → R .next (x0 :: some (.ref p) :: some (.ref il) :: x :: ms) σ') :
    awpS (callSem (n + 3)) (.for (.one (.loc 3)) (.loc 2) [
      .assign (.many [(.attr (.loc 3) "mask"), (.attr (.loc 3) "x_advance"), (.attr (.loc 3) "y_advance"), (.attr (.loc 3) "y_offset")]) (.tup [(.fcall 927 [(.loc 1), (.list [(.lit (.int (3))), (.lit (.int (1))), (.lit (.int (2))), (.lit (.int (3)))])]), (.lit (.int (5))), (.lit (.int (9))), (.fcall 920 [(.loc 1), (.lit (.int (3)))])])])
      R (x0 :: some (.ref p) :: some (.ref il) :: x3 :: ms) σ := by
  have h0 := H.1 _ _ hil
  refine .mk (.list rfl h0) (for_al (f := fun i => .ref (A i)) (F := fun x => x0 :: some (.ref p) :: some (.ref il) :: x :: ms) (List.range k) (J := fun d _ σ1 => ∃ (μ1 : Sg) (rows : List Rw), Pn p τ μ1 σ1 (N + 2 * (k - d.length)) ∧ rows.length = d.length ∧ GOk rows ∧ Nf τ μ1 k A D G rows) (fun ⟨_, _, J, _⟩ => same_list h0 (J.1 _ _ hil)) ?_ ?_ (d := []) rfl ⟨μ, [], H.le (by show N + 2 * k ≤ N + 14; lia), rfl, (fun _ h => nomatch h), F⟩)
  · rintro d j r x σ1 R e ⟨μ1, rows, H1, hl, G1, F1⟩ hR -
    obtain ⟨hj, jk, e1⟩ := range_at e
    rw [← hl] at hj
    rw [← hl] at jk
    subst hj
    rw [e1, Nat.mul_succ, ← Nat.add_assoc] at H1
    refine pick_ [3, 1, 2, 3] (N := N + 2 * (k - (d ++ [rows.length]).length) + 1) H1 rfl rfl fun σ2 mv H2 hm => c_draw H2 (by decide) (by decide) fun σ3 w H3 w0 w3 => new_ fun t σ4 E4 ht _ => ?_
    have hd := F1.2 _ jk
    rw [fsAt, List.getElem?_eq_none (Nat.le_refl _)] at hd
    have H4 := H3.grow E4
    rw [← up_id hd] at H4
    have ha := F1.1 _ jk
    refine .mk rfl ht rfl (setf H4 ha rfl rfl rfl fun σ5 H5 => setf H5 ha rfl rfl rfl fun σ6 H6 => setf H6 ha rfl rfl rfl fun σ7 H7 => setf H7 ha rfl rfl rfl fun σ8 H8 => hR _ _ ⟨_, rows ++ [⟨G rows.length, mv, false, 5, 0, w⟩], H8, by rw [List.length_append, List.length_append, hl]; rfl, fun x hx => ?_, F1.1, fun i hi => ?_, F1.3⟩)
    · rw [List.map_append] at hx
      rcases List.mem_append.mp hx with hx | hx
      · exact G1 x hx
      · rw [List.mem_singleton.mp hx]
        exact ⟨F1.3 _ jk, (by decide : ∀ x ∈ [(3 : Int), 1, 2, 3], 0 ≤ x ∧ x < 4) mv hm⟩
    · by_cases c : i = rows.length
      · subst c
        rw [fsAt_last]; exact up_self _ _ _
      · rw [fsAt_snoc c]
        exact (up_ne fun q => c (F1.inj hi jk q)).trans (F1.2 i hi)
  · rintro x σ1 ⟨μ1, rows, H1, hl, G1, F1⟩
    rw [List.length_range] at hl
    exact q μ1 σ1 x rows (H1.le (Nat.le_add_right _ _)) hl G1 F1
noncomputable def mkB (ms : List Int) (j : Nat) : Int × Int := ((j : Int), if ms.contains (j : Int) then 3 else 1)
theorem e_gdef {ml : Addr} {ms : List Int} (H : Pn p τ μ σ N) (hml : τ ml = some (.list (ms.map .int))) (hx : ∀ v, sl (st m 20 v) 20 = some v) (h4 : ∀ v, sl (st m 20 v) 4 = some (.ref ml))
    (q : ∀ τ' σ' a d cd av sv pv kv, Ext τ τ' → Pn p τ' μ σ' N → Ob τ' a d 904 [("classes", .ref cd.a), ("attach", av), ("sets", sv), ("points", pv), ("carets", kv)] → RCd τ' cd → (∀ g : Int, 0 ≤ g → g < 6 → getI cd.es g = if ms.contains g then 3 else 1) → Q (.ref a) σ') :
    awpE (callSem (n + 2)) (.ccall 904 875 [(.ccall 856 827 [(.tcall "dict" [(.comp1 (.tup [(.loc 20), (.ite (.cmp .In (.loc 20) (.loc 4)) (.lit (.int (3))) (.lit (.int (1))))]) 20 (.tcall "range" [(.lit (.int (6)))]) [])])]), (.ccall 856 827 [(.dict [])]), (.list [])]) m Q σ := by
  refine prangeK (fun y : Addr × Int × Int => y.2) (mkB ms) (c := 0) (N := N) (f := fun y => .ref y.1) (R := fun τ y => τ y.1 = some (.tup [.int y.2.1, .int y.2.2])) (fun E h => E _ _ h) 6 rfl (by decide) H (fun j τ1 σ1 M Q _ T1 H1 q => ?_) fun l ys τ1 σ1 T1 H1 hl hk hr => ?_
  · refine v_ (hx _) (v_ (hx _) (v_ (h4 _) (k_inL (H1.1 _ _ (T1 _ _ hml)) inInts (kB (fun b => ?_) fun b => ?_))))
    · exact pnew H1 fun t τ2 σ2 T2 H2 ht => q (t, j, 3) τ2 σ2 (by rw [mkB, b]; rfl) T2 H2 ht
    · exact pnew H1 fun t τ2 σ2 T2 H2 ht => q (t, j, 1) τ2 σ2 (by rw [mkB, b]; rfl) T2 H2 ht
  have e1 : ys.map (fun y => (y.2.1, V.int y.2.2)) = ((List.range 6).map (mkB ms)).map iv := by rw [← hk, List.map_map]; rfl
  refine .dict rfl rfl (H1.1 _ _ hl) (pairs_of fun y h => H1.1 _ _ (hr y h)) (by rw [e1, List.length_map, List.length_map]; decide) ⟨fun k => ?_⟩
  rw [e1]
  refine pnew H1 fun D τ2 σ2 T2 H2 hD => cls_ fun x d σ3 I => call fn_ClassDef_init rfl rfl (ini_ I rfl rfl rfl fun σ4 I => ⟨rfl, H2.ini I fun τ4 T4 H4 o => ⟨fun k2 => new_ fun D2 σ5 E5 _ _ => cls_ fun x2 d2 σ6 I2 => call fn_ClassDef_init rfl rfl (ini_ I2 rfl rfl rfl fun σ7 I2 => ⟨rfl, new_ fun l2 σ8 E8 _ _ => cls_ fun a d3 σ9 I => ?_⟩)⟩⟩)
  have H8 := ((H4.grow E5).grow I2.1).grow E8
  refine call fn_Gdef_init rfl rfl (ini_ I rfl rfl rfl fun τ1 I => ini_ I rfl rfl rfl fun τ2 I => ini_ I rfl rfl rfl fun τ3 I => k_isT (.t rfl ⟨fun n1 => new_ fun d1 τ4 F4 _ _ => ini_ (I := ⟨I.1.trans F4, F4.ob I.2, I.3, I.4⟩) rfl rfl rfl fun τ5 I => k_isT (.t rfl ⟨fun n2 => new_ fun d2 τ6 F6 _ _ => ini_ (I := ⟨I.1.trans F6, F6.ob I.2, I.3, I.4⟩) rfl rfl rfl fun τ7 I => ⟨rfl, H8.ini I fun τ8 T8 H8 og => ?_⟩⟩)⟩))
  refine q τ8 τ7 a d3 ⟨x, d, D, k, (List.range 6).map (mkB ms)⟩ _ _ _ _ (((T1.trans T2).trans T4).trans T8) H8 og ⟨T8.ob o, T8 _ _ (T4 _ _ hD)⟩ fun g g0 g6 => ?_
  have : g = 0 ∨ g = 1 ∨ g = 2 ∨ g = 3 ∨ g = 4 ∨ g = 5 := by lia
  rcases this with rfl | rfl | rfl | rfl | rfl | rfl <;> rfl
end
end Mine
end
section
open PySem
namespace Mine
-- Q28
theorem eqI {a : Int} : EqS (.int a) (.int a) true := (BEq.rfl : (a == a) = true) ▸ .int
theorem eqB {a : Bool} : EqS (.bool a) (.bool a) true := (BEq.rfl : (a == a) = true) ▸ .bool
theorem eqA_map {α : Type} {P : V → V → Bool → Prop} {f g : α → V} : ∀ {l : List α}, (∀ x ∈ l, P (f x) (g x) true) → EqA P (l.map f) (l.map g) true
  | [], _ => .nil
  | _ :: _, h => .cons (a := true) (b := true) (h _ (.head _)) (eqA_map fun x hx => h x (.tail _ hx))
theorem eqW {r : Rw} : EqA EqS (wrow r) (wrow r) true := .cons eqI (.cons eqI (.cons eqB (.cons eqI (.cons eqI (.cons eqI .nil)))))
inductive Ia (τ μ : Sg) (W : Wd) (rows : List Rw) : Prop
  | mk (a : ∀ i r, rows[i]? = some r → τ (W.A i) = some (.inst 135 (W.D i))) (d : ∀ i r, rows[i]? = some r → μ (W.D i) = some (.ns (W.A i) (infoFs i r)))
section
variable {p : Addr} {τ μ σ σ' : Sg} {N n : Nat} {Q : Po} {K : Kall} {m : Mp} {x : Nat} {W : Wd} {rows rows' : List Rw}
theorem Ia.ext {τ' μ' : Sg} (T : Ext τ τ') (M : Ext μ μ') (h : Ia τ μ W rows) : Ia τ' μ' W rows := ⟨fun i r e => T _ _ (h.1 i r e), fun i r e => M _ _ (h.2 i r e)⟩
theorem Ia.infos (h : Ia τ μ W rows) (H : Pn p τ μ σ N) : Infos σ W rows := ⟨fun i r e => ⟨H.1 _ _ (h.1 i r e), H.2 _ _ (h.2 i r e)⟩⟩
theorem row_at (hk : rows.length = W.k) {i : Nat} (hi : i < W.k) : ∃ r, rows[i]? = some r := ⟨_, List.getElem?_eq_getElem (hk ▸ hi)⟩
theorem c_told (H : Pn p τ μ σ N) (B : Base τ W) (I : Ia τ μ W rows) (hk : rows.length = W.k)
    (q : ∀ τ' μ' σ' wr A, Ext τ τ' → Ext μ μ' → Pn p τ' μ' σ' N → τ wr = none → τ' wr = some (.list (rowV W.k A)) → (∀ i r, rows[i]? = some r → μ' (A i) = some (.list (wrow r))) → (∀ i, i < W.k → μ (A i) = none) → (∀ i j, i < W.k → j < W.k → A i = A j → i = j) → Q (.ref wr) σ') : callSem (n + 1) 1024 [.ref W.buf] σ Q := by
  have h0 := H.1 _ _ B.2
  have k8 := B.6
  refine call fn_law_told rfl rfl (g_ (H.1.ob B.1) rfl (.mk (.list rfl h0) (by rw [rowLen]; lia) (loop_al (f := fun i => .ref (W.A i)) (List.range W.k) (J := fun d acc σ1 => ∃ (μ1 : Sg) (A : Nat → Addr), Ext μ μ1 ∧ Pn p τ μ1 σ1 N ∧ acc = rowV d.length A ∧ (∀ i, i < d.length → (∃ r, rows[i]? = some r ∧ μ1 (A i) = some (.list (wrow r))) ∧ μ (A i) = none) ∧ (∀ i j, i < d.length → j < d.length → A i = A j → i = j)) (fun ⟨_, _, _, J, _⟩ => same_list h0 (J.1 _ _ B.2)) ?_ ?_ (d := []) rfl ⟨μ, fun _ => 0, .refl _, H, rfl, (fun _ h => nomatch h), fun _ _ h => nomatch h⟩)))
  · rintro d j r acc σ1 R e ⟨μ1, A, M1, H1, rfl, F, I1⟩ hR
    obtain ⟨hj, jk, -⟩ := range_at e
    subst hj
    obtain ⟨r, hr⟩ := row_at hk jk
    have o := ((I.ext (.refl τ) M1).infos H1).1 _ r hr
    refine .t rfl (g_ o rfl (g_ o rfl (g_ o rfl (g_ o rfl (g_ o rfl (g_ o rfl (pmut H1 fun w σ2 hw H2 => hR _ _ ⟨_, ext1 A d.length w, M1.put (M1.no hw), H2, ?_, ?_, ?_⟩)))))))
    · rw [List.length_append]; exact rowV_snoc
    · rw [List.length_append]
      intro i hi
      rcases Nat.lt_or_eq_of_le (Nat.le_of_lt_succ hi) with c | c
      · obtain ⟨⟨r', h1, h2⟩, h3⟩ := F i c
        rw [ext1_lt c]
        exact ⟨⟨r', h1, (up_ne (ne_of h2 hw)).trans h2⟩, h3⟩
      · rw [c, ext1_at]
        exact ⟨⟨r, hr, up_self _ _ _⟩, M1.no hw⟩
    · rw [List.length_append]
      intro i j hi hj e
      rcases Nat.lt_or_eq_of_le (Nat.le_of_lt_succ hi) with c | c <;> rcases Nat.lt_or_eq_of_le (Nat.le_of_lt_succ hj) with c' | c'
      · rw [ext1_lt c, ext1_lt c'] at e
        exact I1 i j c c' e
      · rw [ext1_lt c, show j = d.length from c', ext1_at] at e
        obtain ⟨⟨r', _, h2⟩, _⟩ := F i c
        exact absurd e (ne_of h2 hw)
      · rw [ext1_lt c', show i = d.length from c, ext1_at] at e
        obtain ⟨⟨r', _, h2⟩, _⟩ := F j c'
        exact absurd e.symm (ne_of h2 hw)
      · exact c.trans c'.symm
  · rintro acc σ1 ⟨μ1, A, M1, H1, rfl, F, I1⟩
    rw [List.length_range] at F I1 ⊢
    refine new_ fun wr σ2 E h h0 => H1.seal (.refl _) E fun τ' T at_ H2 => q τ' μ1 σ2 wr A T M1 H2 (H1.1.no h0) (at_ _ _ h (let ⟨_, k⟩ := H1.6.some; (ne_of k h0).symm) (H1.2.no h0)) (fun i r hr => ?_) (fun i hi => (F i hi).2) I1
    obtain ⟨⟨r', h1, h2⟩, _⟩ := F i (hk ▸ (List.getElem?_eq_some_iff.mp hr).1)
    exact Option.some.inj (hr.symm.trans h1) ▸ h2
theorem c_field {f : String} {F : Nat → Int} (B : Base σ W) (I : Infos σ W rows) (hk : rows.length = W.k) (hf : ∀ i r, (infoFs i r).lookup f = some (.int (F i))) (hx : ∀ v, sl (st m x v) x = some v) (q : ∀ σ' l, Ext σ σ' → σ l = none → σ' l = some (.list ((List.range W.k).map fun i => .int (F i))) → Q (.ref l) σ') :
    AttrK "row" (CompK (fun v R acc => awpIfs K [] (st m x v) (kIf (awpE K (.attr (.loc x) f) (st m x v) (kAcc R acc)) (R acc))) (kL Q) []) (.ref W.buf) σ := by
  have k8 := B.6
  refine g_ B.1 rfl (.mk (.list rfl B.2) (by rw [rowLen]; lia) (loop_al (f := fun i => .ref (W.A i)) (List.range W.k) (J := fun d acc σ1 => σ1 = σ ∧ acc = d.map fun i => .int (F i)) (fun J => same_list B.2 (J.1 ▸ B.2)) ?_ ?_ (d := []) rfl ⟨rfl, rfl⟩))
  · rintro d j r acc σ1 R e ⟨rfl, rfl⟩ hR
    obtain ⟨r, hr⟩ := row_at hk (List.mem_range.mp (split_mem e))
    exact .t rfl (v_ (hx _) (g_ (I.1 j r hr) (hf j r) (hR _ _ ⟨rfl, by rw [List.map_append]; rfl⟩)))
  · rintro acc σ1 ⟨rfl, rfl⟩
    exact new_ fun l σ2 E h h0 => q σ2 l E h0 h
end
noncomputable def anew (μ σ : Sg) : Sg := fun a => Option.rec none (fun _ => σ a) (μ a)
section
variable {p : Addr} {τ μ σ σ' : Sg} {N : Nat} {D : Nat → Addr} {k : Nat} {a : Addr} {c c0 : C}
theorem anew_at (h : μ a = some c0) (h' : σ a = some c) : anew μ σ a = some c := by rw [anew, h]; exact h'
theorem anew_of (h : anew μ σ a = some c) : σ a = some c ∧ ∃ c', μ a = some c' := by
  unfold anew at h
  cases e : μ a <;> rw [e] at h
  · cases h
  · exact ⟨h, _, rfl⟩
theorem Pn.anew (H : Pn p τ μ σ N) (M : Md D k σ σ') (hD : ∀ i, i < k → ∃ c, μ (D i) = some c) : Pn p τ (anew μ σ') σ' N :=
  ⟨fun a c e => M a c (fun i hi q => let ⟨_, h⟩ := hD i hi; nomatch (q ▸ e).symm.trans (H.3 _ _ h)) (H.1 a c e), fun a c e => (anew_of e).1, fun a c e => let ⟨_, _, h⟩ := anew_of e; H.3 _ _ h, H.4, by rw [Mine.anew, H.5], H.6.ext (.refl τ) fun c e => M p c (fun i hi q => let ⟨_, h⟩ := hD i hi; nomatch (q ▸ H.5).symm.trans h) e⟩
end
inductive Bo (p : Addr) (τ μ σ : Sg) (N : Nat) (W : Wd) (V : Vd) (L : Lw) (ra rb : List Rw) : Prop
  | mk (H : Pn p τ μ σ N) (B : Base τ W) (RL : RLw τ W.lks L) (a : Ia τ μ W ra) (t : τ V.wt = some (.tup [.ref V.wr, .ref V.ml, .ref W.lks])) (r : τ V.wr = some (.list (rowV W.k V.A))) (m : τ V.ml = some (.list (V.ms.map .int))) (b : ∀ i r, rb[i]? = some r → μ (V.A i) = some (.list (wrow r)))
      (inj : ∀ i j, i < W.k → j < W.k → V.A i = V.A j → i = j) (ga : GOk ra) (gb : GOk rb) (la : ra.length = W.k) (lb : rb.length = W.k) (ek : V.k = W.k) (el : V.lks = W.lks)
section
variable {p : Addr} {τ μ σ σ' : Sg} {N : Nat} {W : Wd} {V : Vd} {L : Lw} {ra rb rc : List Rw}
theorem Bo.set {τ' : Sg} {M : Nat} (h : Bo p τ μ σ N W V L ra rb) (T : Ext τ τ') (H : Pn p τ' μ σ' M) : Bo p τ' μ σ' M W V L ra rb := ⟨H, h.2.ext T, h.3.ext T, h.4.ext T (.refl μ), T _ _ h.5, T _ _ h.6, T _ _ h.7, h.8, h.9, h.10, h.11, h.12, h.13, h.14, h.15⟩
theorem Bo.now (h : Bo p τ μ σ N W V L ra rb) : Now τ σ W ra := by
  refine ⟨⟨h.2, fun i hi => ?_, fun i j hi hj e => ?_⟩, h.1.1, h.4.infos h.1, h.10, h.12⟩
  · obtain ⟨r, hr⟩ := row_at h.12 hi
    exact h.1.3 _ _ (h.4.2 i r hr)
  · obtain ⟨r, hr⟩ := row_at h.12 hi
    obtain ⟨r', hr'⟩ := row_at h.12 hj
    have := (e ▸ h.4.2 i r hr).symm.trans (h.4.2 j r' hr')
    injection this with this
    injection this with _ this
    have := congrArg (List.lookup "cluster") this
    injection this with this
    injection this with this
    exact Int.ofNat.inj this
theorem Bo.nw (h : Bo p τ μ σ N W V L ra rb) : Nw τ σ V rb := by
  refine ⟨⟨h.15 ▸ h.5, h.14 ▸ h.6, h.7, fun i hi => ?_, h.14 ▸ h.9, h.14 ▸ h.2.6⟩, h.1.1, ⟨fun i r e => h.1.2 _ _ (h.8 i r e)⟩, h.11, h.13.trans h.14.symm⟩
  obtain ⟨r, hr⟩ := row_at h.13 (h.14 ▸ hi)
  exact h.1.3 _ _ (h.8 i r hr)
theorem row_back {rows rows' : List Rw} (e : rows'.map gm = rows.map gm) {i : Nat} {r : Rw} (h : rows'[i]? = some r) : ∃ r', rows[i]? = some r' := ⟨_, List.getElem?_eq_getElem (gm_len e ▸ (List.getElem?_eq_some_iff.mp h).1)⟩
theorem gm_ok {rows rows' : List Rw} (e : rows'.map gm = rows.map gm) (h : GOk rows) : GOk rows' := by unfold GOk; rw [e]; exact h
theorem Bo.run (h : Bo p τ μ σ N W V L ra rb) (T : Stp W σ σ' ra rc) : Bo p τ (anew μ σ') σ' N W V L rc rb := by
  refine ⟨h.1.anew T.1 fun i hi => ?_, h.2, h.3, ⟨fun i r e => ?_, fun i r e => ?_⟩, h.5, h.6, h.7, fun i r e => anew_at (h.8 i r e) (T.1 _ _ (fun j hj q => ?_) (h.1.2 _ _ (h.8 i r e))), h.9, gm_ok T.3 h.10, h.11, (gm_len T.3).trans h.12, h.13, h.14, h.15⟩
  · obtain ⟨r, hr⟩ := row_at h.12 hi
    exact ⟨_, h.4.2 i r hr⟩
  · obtain ⟨r', hr⟩ := row_back T.3 e
    exact h.4.1 i r' hr
  · obtain ⟨r', hr⟩ := row_back T.3 e
    exact anew_at (h.4.2 i r' hr) (T.2.1 i r e).2
  · obtain ⟨r', hr⟩ := row_at h.12 hj
    exact nomatch (q ▸ h.8 i r e).symm.trans (h.4.2 j r' hr)
theorem Bo.lrun (h : Bo p τ μ σ N W V L ra rb) (T : Stl V σ σ' rb rc) : Bo p τ (anew μ σ') σ' N W V L ra rc := by
  refine ⟨h.1.anew T.1 fun i hi => ?_, h.2, h.3, ⟨h.4.1, fun i r e => anew_at (h.4.2 i r e) (T.1 _ _ (fun j hj q => ?_) (h.1.2 _ _ (h.4.2 i r e)))⟩, h.5, h.6, h.7, fun i r e => ?_, h.9, h.10, gm_ok T.3 h.11, h.12, (gm_len T.3).trans h.13, h.14, h.15⟩
  · obtain ⟨r, hr⟩ := row_at h.13 (h.14 ▸ hi)
    exact ⟨_, h.8 i r hr⟩
  · obtain ⟨r', hr⟩ := row_at h.13 (h.14 ▸ hj)
    exact nomatch (q ▸ h.4.2 i r e).symm.trans (h.8 j r' hr)
  · obtain ⟨r', hr⟩ := row_back T.3 e
    exact anew_at (h.8 i r' hr) (T.2.1 i r e)
end
end Mine
end
section
open PySem
namespace Mine
-- Q29
section
variable {p : Addr} {τ μ σ σ' : Sg} {N n : Nat} {Q : Po} {W : Wd} {V : Vd} {L : Lw} {rows : List Rw} {num mask : Int} {x0 x1 x3 x4 x5 x6 x7 x8 x9 x10 x11 x17 x18 x19 x20 x21 : Option Mine.V}
theorem u_ix (h : num = 0 ∨ num = 1 ∨ num = 2) : Idx [.ref L.U0.l, .ref L.U1.l, .ref L.U2.l] num (.ref (L.u num).l) := by
  rcases h with rfl | rfl | rfl
  · exact i0
  · exact i1
  · exact i2
theorem c_same (h : Bo p τ μ σ N W V L rows rows) (q : ∀ l τ' σ', Ext τ τ' → Bo p τ' μ σ' N W V L rows rows → EqL (EqL EqS σ') σ' (.ref l) (.ref V.wr) true → Q (.ref l) σ') : callSem (n + 1) 1024 [.ref W.buf] σ Q := by
  refine c_told h.1 h.2 h.4 h.12 fun τ' μ' σ' l A T M H h0 h1 h2 h3 _ => q l τ' σ' T (h.set T (H.drop M)) (.list rfl rfl (H.1 _ _ h1) (H.1 _ _ (T _ _ h.6)) (ne_of h.6 h0).symm (eqA_map fun i hi => ?_))
  have hi := List.mem_range.mp hi
  obtain ⟨r, hr⟩ := row_at h.12 hi
  exact .list rfl rfl (H.2 _ _ (h2 i r hr)) (H.2 _ _ (M _ _ (h.8 i r hr))) (ne_of (h.8 i r hr) (h3 i hi)).symm eqW
theorem law_last (h : Bo p τ μ σ N W V L rows rows) (hm : 0 ≤ mask) (hnum : num = 0 ∨ num = 1 ∨ num = 2) (hmb : W.mb = V.mb) {spot : Nat} (hs : spot < W.k) (q : ∀ σ', Q (.bool true) σ') :
    awpSs (callSem (n + 16)) (fn_law.body.drop 19) (kEnd Q) [x0, x1, some (.ref W.row), x3, x4, x5, x6, x7, x8, x9, x10, x11, some (.ref W.lks), some (.ref W.gd), some (.ref W.buf), some (.int num), some (.int mask), some (.ref V.wt), some (.int spot), x19, x20, x21] σ := by
  have k8 := h.2.6
  refine u_l (h.1.1 _ _ h.3.1) (u_ix hnum) (new_scene0 fun σ1 s I em ed => h.1.ini I fun τ1 T1 H1 o => ?_)
  subst em
  have h1 := h.set T1 H1
  refine c_pos (n := n + 1) h1.now h1.3 o ed hm hs fun σ2 S2 => ?_
  rw [hmb] at S2 ⊢
  have h2 := h1.run S2
  refine l_apply h2.nw (h2.15 ▸ h2.3) hm hnum (h2.14 ▸ hs) fun σ3 S3 => k_eqi (.t BEq.rfl (c_same (h2.lrun S3) fun l τ4 σ4 T4 h4 e => u_t (h4.1.1 _ _ h4.5) i0 (.eq e rfl (.t rfl ?_))))
  refine m_ (h4.1.1.ob h4.2.1) rfl (call fn_Buffer_clusters rfl rfl (c_field (F := fun i => (i : Int)) (h4.2.ext h4.1.1) (h4.4.infos h4.1) h4.12 (fun _ _ => rfl) (fun _ => rfl) fun σ5 l5 E5 h50 h5 => ?_))
  refine len_l (E5 _ _ (h4.1.1 _ _ h4.2.2)) (by rw [rowLen]; lia) ?_
  rw [rowLen]
  refine .range rfl rfl (by lia) (by lia) (new_ fun rl σ6 E6 hrl _ => .list rfl rfl (.range rfl hrl) (by rw [range_nat, List.length_map, List.length_range]; lia) (new_ fun l7 σ7 E7 hl7 h70 => ?_))
  rw [range_nat] at hl7
  exact .eq (.list rfl rfl (E7 _ _ (E6 _ _ h5)) hl7 (ne_of (E6 _ _ h5) h70) (eqA_map fun i _ => .one eqI)) rfl (q σ7)
theorem law_mid (H : Pn p τ μ σ (N + 1)) (B : Base τ W) (RL : RLw τ W.lks L) (I : Ia τ μ W rows) (G : GOk rows) (hk : rows.length = W.k) (hm : 0 ≤ mask) (hnum : num = 0 ∨ num = 1 ∨ num = 2) (h10 : L.adj.length ≤ 10 ∧ L.pairs.length ≤ 10 ∧ L.cxs.length ≤ 10) {ml : Addr} {ms : List Int} (hml : τ ml = some (.list (ms.map .int))) (hmb : W.mb = fun g => ms.contains g) (q : ∀ σ', Q (.bool true) σ') :
    awpSs (callSem (n + 16)) (fn_law.body.drop 13) (kEnd Q) [x0, some (.ref p), some (.ref W.row), x3, some (.ref ml), x5, x6, x7, x8, x9, x10, x11, some (.ref W.lks), some (.ref W.gd), some (.ref W.buf), some (.int num), some (.int mask), x17, x18, x19, x20, x21] σ := by
  have k8 := B.6
  refine c_told H B I hk fun τ1 μ1 σ1 wr A T1 M1 H1 w0 hw hA _ inj => pnew H1 fun wt τ2 σ2 T2 H2 hwt => ?_
  have T12 := T1.trans T2
  have h2 : Bo p τ2 μ1 σ2 (N + 1) W ⟨wt, wr, ml, ms, W.lks, W.k, A⟩ L rows rows := ⟨H2, B.ext T12, RL.ext T12, I.ext T12 M1, hwt, T2 _ _ hw, T12 _ _ hml, hA, inj, G, G, hk, hk, rfl, rfl⟩
  refine c_run h2.now h2.3 hnum hm h10 fun σ3 S3 => ?_
  rw [hmb] at S3
  have h3 := h2.run S3
  refine l_run h3.nw h3.3 hm hnum fun σ4 S4 => c_same (h3.lrun S4) fun l τ5 σ5 T5 h5 e => u_t (h5.1.1 _ _ h5.5) i0 (.ne e rfl (.f rfl ?_))
  refine c_field (F := fun _ => 9) (h5.2.ext h5.1.1) (h5.4.infos h5.1) h5.12 (fun _ _ => rfl) (fun _ => rfl) fun σ6 l6 E6 h60 h6 => new_ fun l7 σ7 E7 hl7 _ => ?_
  have E57 := E6.trans E7
  refine len_l (E57 _ _ (h5.1.1 _ _ h5.2.2)) (by rw [rowLen]; lia) ?_
  rw [rowLen]
  refine .rep rfl rfl rfl hl7 (Int.natCast_nonneg _) (by lia) (new_ fun l8 σ8 E8 hl8 h80 => ?_)
  rw [Int.toNat_natCast, show List.replicate W.k (V.int 9) = (List.range W.k).map fun _ => V.int 9 by rw [List.map_const', List.length_range]] at hl8
  have h6' := E7 _ _ h6
  refine .ne (.list rfl rfl (E8 _ _ h6') hl8 (ne_of h6' h80) (eqA_map fun i _ => .one eqI)) rfl (.f rfl ?_)
  have E58 := E57.trans E8
  refine new_ fun e0 σ9 E9 he0 h90 => ?_
  have row8 := E58 _ _ (h5.1.1 _ _ h5.2.2)
  have row9 := E9 _ _ row8
  have nr := ne_of row8 h90
  by_cases hz : W.k = 0
  · refine .eq (.list rfl rfl row9 he0 nr ?_) rfl (.t rfl (q σ9))
    rw [rowV, hz]; exact .nil
  refine .eq (.len rfl rfl row9 he0 nr (by rw [rowLen]; exact hz) rfl) rfl (.f rfl (len_l row9 (by rw [rowLen]; lia) ?_))
  rw [rowLen]
  refine c_draw (h5.1.grow (E58.trans E9)) (by lia) (by lia) fun σA v HA v0 vk => ?_
  obtain ⟨spot, rfl⟩ := Int.eq_ofNat_of_zero_le v0
  exact law_last (h5.set (.refl _) HA) hm hnum hmb (Int.ofNat_lt.mp vk) q
end
end Mine
end
section
open PySem
namespace Mine
-- Q30
noncomputable def sel {α : Type} (a b c : α) : Nat → α
  | 0 => a
  | 1 => b
  | _ => c
theorem sel_ix {α : Type} {f : α → V} {a b c : α} : ∀ {j : Nat}, j < 3 → Idx [f a, f b, f c] (j : Int) (f (sel a b c j))
  | 0, _ => i0
  | 1, _ => i1
  | 2, _ => i2
  | _ + 3, h => absurd h (Nat.not_lt.mpr (Nat.le_add_left 3 _))
theorem sel_all {α : Type} {P : α → Prop} {a b c : α} (ha : P a) (hb : P b) (hc : P c) : ∀ j, P (sel a b c j)
  | 0 => ha
  | 1 => hb
  | _ + 2 => hc
noncomputable def strV (s : String) : V := .str (Str.ofString s)
section
variable {p il ml adl pal cxl : Addr} {τ μ σ : Sg} {N n k : Nat} {Q : Po} {A D : Nat → Addr} {G : Nat → Int} {rows : List Rw} {x0 x3 x8 : Option Mine.V} {ms : List Int} {adj : List Aj} {prs : List Tp} {cxs : List Cx3} {ch : Bool}
theorem law_b (H : Pn p τ μ σ (N + 6)) (hil : τ il = some (.list (rowV k A))) (k8 : k < 8) (F : Nf τ μ k A D G rows) (hl : rows.length = k) (hG : GOk rows) (hml : τ ml = some (.list (ms.map .int)))
    (ha : τ adl = some (.list (adj.map Aj.v))) (ra : ∀ t ∈ adj, RAj τ t) (la : adj.length ≤ 2) (hp : τ pal = some (.list (prs.map Tp.v))) (rp : ∀ t ∈ prs, RTp τ t) (lp : prs.length ≤ 2) (hc : τ cxl = some (.list (cxs.map Cx3.v))) (rc : ∀ t ∈ cxs, RCx τ t ∧ AcsOk t.sets) (lc : cxs.length = 2)
    (k1 : τ 190 = some (.tup [.str (Str.ofString "zwj"), .str (Str.ofString "zwnj"), .str (Str.ofString "hidden")])) (k2 : τ 189 = some (.tup [.str (Str.ofString "zwj"), .str (Str.ofString "hidden")])) (q : ∀ σ', Q (.bool true) σ') :
    awpSs (callSem (n + 16)) (fn_law.body.drop 8) (kEnd Q) [x0, some (.ref p), some (.ref il), x3, some (.ref ml), some (.ref adl), some (.ref pal), some (.bool ch), x8, some (.ref cxl), none, none, none, none, none, none, none, none, none, none, none, none] σ := by
  refine prange (N := N + 3) (c := 1) (f := V.int) (R := fun _ f => f = 0 ∨ f = 8 ∨ f = 2) (fun _ h => h) 3 rfl (by decide) H (fun j τ1 σ1 M Q _ _ H1 q => pick_ [0, 8, 8, 2] H1 rfl rfl fun σ2 i H2 hi => q i τ1 σ2 (.refl τ1) H2 ?_) fun fl fs τ1 σ1 T1 H1 hfl hf rf => ?_
  · exact (by decide : ∀ x ∈ [(0 : Int), 8, 8, 2], x = 0 ∨ x = 8 ∨ x = 2) i hi
  match fs, hf with
  | [f0, f1, f2], _ =>
  obtain ⟨ks, hks, hkc⟩ : ∃ ks : String, (ks = "context" ∨ ks = "chain") ∧ ∀ {P : Po} {σ : Sg}, P (strV ks) σ → kIf (P (strV "chain")) (P (strV "context")) ch σ := by
    cases ch with
    | true => exact ⟨"chain", .inr rfl, fun h => .t rfl h⟩
    | false => exact ⟨"context", .inl rfl, fun h => .f rfl h⟩
  show kIf _ _ ch σ1
  refine hkc (P := fun v σ => New σ (.list [strV "adjust", strV "pair", v]) _) (pnew H1 fun kl τ2 σ2 T2 H2 hkl => ?_)
  have hfl := T2 _ _ hfl
  have T02 := T1.trans T2
  refine prangeK (fun U : Lu => (U.kind, U.tabs)) (fun j => (sel "adjust" "pair" ks j, sel (adj.map Aj.v) (prs.map Tp.v) (cxs.map Cx3.v) j)) (N := N + 3) (c := 0) (f := fun U => .ref U.l) (R := RLu) (fun E h => h.ext E) 3 rfl (by decide) H2 (fun j τ3 σ3 M Q hj T3 H3 q => ?_) fun lks Us τ3 σ3 T3 H3 hlks hU rU => ?_
  · refine u_l (H3.1 _ _ (T3 _ _ hkl)) (sel_ix (f := strV) hj) (u_l (H3.1 _ _ (T3 _ _ hfl)) (sel_ix (f := V.int) hj) (pnew H3 fun tl τ4 σ4 T4 H4 htl => u_l (H4.1 _ _ htl) (sel_ix (f := V.ref) hj) (cls_ fun x d σ5 I => call fn_Lookup_init rfl rfl (ini_ I rfl rfl rfl fun σ6 I => ini_ I rfl rfl rfl fun σ7 I => ini_ I rfl rfl rfl fun σ8 I => ini_ I rfl rfl rfl fun σ9 I => ⟨rfl, H4.ini I fun τ5 T5 H5 o => q ⟨x, d, sel adl pal cxl j, sel "adjust" "pair" ks j, sel f0 f1 f2 j, sel (adj.map Aj.v) (prs.map Tp.v) (cxs.map Cx3.v) j⟩ τ5 σ9 rfl (T4.trans T5) H5 ⟨o, ?_, ?_⟩⟩))))
    · have T := T02.trans (T3.trans (T4.trans T5))
      exact match j with
      | 0 => T _ _ ha
      | 1 => T _ _ hp
      | _ + 2 => T _ _ hc
    · exact sel_all (P := fun f : Int => f = 0 ∨ f = 8 ∨ f = 2) (rf f0 (.head _)) (rf f1 (.tail _ (.head _))) (rf f2 (.tail _ (.tail _ (.head _)))) j
  have hlen : Us.length = 3 := (List.length_map _).symm.trans (congrArg List.length hU)
  match Us, hlen, hU with
  | [U0, U1, U2], _, hU =>
  obtain ⟨e0, e1, e2⟩ : (U0.kind, U0.tabs) = ("adjust", adj.map Aj.v) ∧ (U1.kind, U1.tabs) = ("pair", prs.map Tp.v) ∧ (U2.kind, U2.tabs) = (ks, cxs.map Cx3.v) := by
    injection hU with h0 hU
    injection hU with h1 hU
    injection hU with h2 _
    exact ⟨h0, h1, h2⟩
  refine e_gdef H3 ((T02.trans T3) _ _ hml) (fun _ => rfl) (fun _ => rfl) fun τ4 σ4 gd gdd cd av sv pv kv T4 H4 ogd hcd hg => ?_
  refine cls_ fun buf bd σ5 I => call fn_Buffer_init rfl rfl (ini_ I rfl rfl rfl fun σ6 I => ini_ I rfl rfl rfl fun σ7 I => ini_ I rfl rfl rfl fun σ8 I => ⟨rfl, H4.ini I fun τ5 T5 H5 obuf => ?_⟩)
  refine pick_ [2, 2, 1, 0] H5 rfl rfl fun σ9 num H9 hnum => pick_ [1, 2, 3] H9 rfl rfl fun σA mask HA hmask => new_ fun t σB EB ht _ => .mk rfl ht rfl ?_
  have T35 := T4.trans T5
  have T := T02.trans (T3.trans T35)
  have fAt : ∀ {i r}, rows[i]? = some r → i < k ∧ fsAt rows G i = infoFs i r := fun {i r} h => ⟨hl ▸ (List.getElem?_eq_some_iff.mp h).1, by rw [fsAt, h]⟩
  have e2k : U2.kind = "context" ∨ U2.kind = "chain" := by
    rw [show U2.kind = ks from congrArg Prod.fst e2]; exact hks
  have RL : RLw τ5 lks ⟨U0, U1, U2, adj, prs, cxs⟩ := ⟨T35 _ _ hlks, (rU U0 (.head _)).ext T35, (rU U1 (.tail _ (.head _))).ext T35, (rU U2 (.tail _ (.tail _ (.head _)))).ext T35, congrArg Prod.fst e0, congrArg Prod.fst e1, e2k, congrArg Prod.snd e0, congrArg Prod.snd e1, congrArg Prod.snd e2, fun t h => (ra t h).ext T, fun t h => (rp t h).ext T, fun t h => (rc t h).1.ext T, fun t h => (rc t h).2⟩
  refine law_mid (W := ⟨buf, bd, il, gd, gdd, cd, av, sv, pv, kv, lks, k, A, D, fun g => ms.contains g⟩) (rows := rows) (ms := ms) (HA.grow EB) ⟨obuf, T _ _ hil, T5.ob ogd, hcd.ext T5, hg, k8, T _ _ k1, T _ _ k2⟩ RL ⟨fun i r h => T _ _ (F.1 i (fAt h).1), fun i r h => (fAt h).2 ▸ F.2 i (fAt h).1⟩ hG hl ?_ ?_ ⟨Nat.le_trans la (by decide), Nat.le_trans lp (by decide), Nat.le_trans (Nat.le_of_eq lc) (by decide)⟩ (T _ _ hml) rfl q
  · exact (by decide : ∀ x ∈ [(1 : Int), 2, 3], 0 ≤ x) mask hmask
  · exact (by decide : ∀ x ∈ [(2 : Int), 2, 1, 0], x = 0 ∨ x = 1 ∨ x = 2) num hnum
theorem le_two {k : Nat} (h : (k : Int) < 2) : 1 + k ≤ 2 := Nat.add_le_add_left (Nat.le_of_lt_succ (Int.ofNat_lt.mp h)) 1
theorem c_law {sc : Addr} {is : List Int} (hs : σ sc = some (.scr (is.map .int))) (hl : is.length ≤ 1000)
    (k1 : σ 190 = some (.tup [.str (Str.ofString "zwj"), .str (Str.ofString "zwnj"), .str (Str.ofString "hidden")])) (k2 : σ 189 = some (.tup [.str (Str.ofString "zwj"), .str (Str.ofString "hidden")])) (q : ∀ σ', Q (.bool true) σ') : callSem (n + 17) 1029 [.ref sc] σ Q := by
  refine callm fn_law [some _, none, none, none, none, none, none, none, none, none, none, none, none, none, none, none, none, none, none, none, none, none] rfl rfl rfl (c_pen hs hl fun p τ1 σ1 T1 H1 => ?_)
  show awpE _ _ _ _ _
  refine e_infos (N := 1992) H1 (fun _ => rfl) rfl (fun _ => rfl) fun τ2 μ σ2 il k A D G T2 _ H2 hil k8 F => ?_
  refine fill (N := 1978) H2 hil k8 F fun μ σ3 x rows H3 hl G3 F => ?_
  refine pfilter (N := 1972) (fun _ => rfl) H3 (fun j τ σ M Q H q => c_draw H (by decide) (by decide) fun σ2 v H _ _ => q σ2 v H) fun ml ms τ4 σ4 T4 H4 hml _ _ => ?_
  refine c_draw H4 (by decide) (by decide) fun σ5 v H5 v0 v2 => b_add ?_
  obtain ⟨ka, rfl⟩ := Int.eq_ofNat_of_zero_le v0
  have la := le_two v2
  refine prange (c := 31) (N := 1909) (f := Aj.v) (R := RAj) (fun E h => h.ext E) (1 + ka) rfl (Nat.le_trans la (by decide)) (H5.le (Nat.add_le_add_left (Nat.mul_le_mul_left 31 la) 1909)) (fun j τ σ M Q _ _ H q => e_adj H rfl (fun _ => rfl) (fun _ => rfl) fun τ' σ' t T H' h => q t τ' σ' T H' h) fun adl adj τ6 σ6 T6 H6 ha ea ra => ?_
  refine c_draw H6 (by decide) (by decide) fun σ7 v H7 v0 v2 => b_add ?_
  obtain ⟨kp, rfl⟩ := Int.eq_ofNat_of_zero_le v0
  have lp := le_two v2
  refine prange (c := 92) (N := 1724) (f := Tp.v) (R := RTp) (fun E h => h.ext E) (1 + kp) rfl (Nat.le_trans lp (by decide)) (H7.le (Nat.add_le_add_left (Nat.mul_le_mul_left 92 lp) 1724)) (fun j τ σ M Q _ _ H q => c_pair_table H fun τ' σ' t T H' h => q t τ' σ' T H' h) fun pal prs τ8 σ8 T8 H8 hp ep rp => ?_
  refine c_draw H8 (by decide) (by decide) fun σ9 v H9 _ _ => k_eqi (c_draw H9 (by decide) (by decide) fun σA w HA w0 w3 => b_add (new_ fun t σB EB ht _ => .mk rfl ht rfl ?_))
  refine prange (c := 130) (N := 1462) (f := Cx3.v) (R := fun τ t => RCx τ t ∧ AcsOk t.sets) (fun E h => ⟨h.1.ext E, h.2⟩) 2 rfl (by decide) (HA.grow EB) (fun j τ σ M Q _ _ H q => c_context_table H (by lia) fun τ' σ' t T H' h a => q t τ' σ' T H' ⟨h, a⟩) fun cxl cxs τC σC TC HC hc ec rc => ?_
  have T8C := T8.trans TC
  have T4C := T6.trans T8C
  have T2C := T4.trans T4C
  have T := T1.trans (T2.trans T2C)
  exact law_b (N := 1456) HC (T2C _ _ hil) k8 ⟨fun i hi => T2C _ _ (F.1 i hi), F.2, F.3⟩ hl G3 (T4C _ _ hml) (T8C _ _ ha) (fun t h => (ra t h).ext T8C) (ea ▸ la) (TC _ _ hp) (fun t h => (rp t h).ext TC) (ep ▸ lp) hc rc ec (T _ _ k1) (T _ _ k2) q
end
end Mine
end
section
open PySem PySem.W PyProof.Rows
namespace Mine
-- B1
theorem lookup_zip {n : Str} : ∀ {ns : List Str} {vs : List Value}, ns.Nodup → ∀ {i : Nat}, ns[i]? = some n → (ns.zip vs).lookup n = vs[i]?
  | a :: ns, [], _, i, _ => by rw [List.zip_nil_right, List.getElem?_nil]; rfl
  | a :: ns, b :: vs, _, 0, h => by
    cases h
    rw [List.zip_cons_cons, List.lookup_cons, beq_self_eq_true]; rfl
  | a :: ns, b :: vs, hn, i + 1, h => by
    have hn := List.nodup_cons.mp hn
    have h : ns[i]? = some n := h
    rw [List.zip_cons_cons, List.lookup_cons, beq_false_of_ne fun e : n = a => hn.1 (e ▸ List.mem_of_getElem? h)]
    exact lookup_zip hn.2 h
noncomputable def fillD (slots : List (Str × Value)) : List (Str × Value) → List (Str × Value)
  | [] => slots
  | (n, d) :: r => fillD (if (slots.lookup n).isNone then slots ++ [(n, d)] else slots) r
theorem lookup_append_of {n : Str} : ∀ (l r : List (Str × Value)), (l ++ r).lookup n = (l.lookup n).or (r.lookup n)
  | [], r => by simp
  | (a, b) :: l, r => by
    simp only [List.cons_append, List.lookup_cons]
    cases n == a <;> simp [lookup_append_of l r]
theorem fillD_lookup {n : Str} : ∀ (ds slots : List (Str × Value)), (fillD slots ds).lookup n = (slots.lookup n).or (ds.lookup n)
  | [], slots => (Option.or_none).symm
  | (a, b) :: ds, slots => by
    rw [fillD, fillD_lookup ds, List.lookup_cons]
    cases h : n == a with
    | true =>
      rw [eq_of_beq h]
      cases e : slots.lookup a with
      | none => rw [if_pos (show (none : Option Value).isNone = true from rfl), lookup_append_of, e, List.lookup_cons, beq_self_eq_true]; rfl
      | some x => rw [if_neg (fun h : (some x).isNone = true => nomatch h), e]; rfl
    | false =>
      split
      · rw [lookup_append_of, List.lookup_cons, h, List.lookup_nil, Option.or_none]
      · rfl
theorem filter_zip {l : List Str} : ∀ {ws : List Value} {f : Str → Option Value}, l.length = ws.length → (∀ (i : Nat) n, l[i]? = some n → f n = ws[i]?) → (l.filterMap fun n => (f n).map fun x => (n, x)) = l.zip ws := by
  induction l with
  | nil => exact fun _ _ => rfl
  | cons a l ih =>
    intro ws f e h
    cases ws with
    | nil => cases e
    | cons w ws =>
      rw [List.filterMap_cons, h 0 a rfl, List.zip_cons_cons]
      exact congrArg _ (ih (Nat.succ.inj e) fun i n q => h (i + 1) n q)
section
variable {ns : List Str} {vals ds : List Value} (hn : ns.Nodup) (hle : vals.length ≤ ns.length) (hge : ns.length ≤ vals.length + ds.length) (hds : ds.length ≤ ns.length)
include hn hle hge hds
theorem bind_all : (ns.filterMap fun n => ((fillD (ns.zip vals) ((ns.drop (ns.length - ds.length)).zip ds)).lookup n).map fun x => (n, x)) = ns.zip (vals ++ ds.drop (vals.length + ds.length - ns.length)) := by
  refine filter_zip (by rw [List.length_append, List.length_drop]; lia) fun i n h => ?_
  rw [fillD_lookup, lookup_zip hn h]
  by_cases c : i < vals.length
  · rw [List.getElem?_append_left c, List.getElem?_eq_getElem c]; rfl
  · have c := Nat.le_of_not_lt c
    rw [List.getElem?_append_right c, List.getElem?_eq_none c, List.getElem?_drop, Option.none_or,
      lookup_zip (i := i - (ns.length - ds.length)) (hn.sublist (List.drop_sublist ..)) (by rw [List.getElem?_drop, show ns.length - ds.length + (i - (ns.length - ds.length)) = i by lia]; exact h)]
    exact congrArg (ds[·]?) (by lia)
omit hds in
theorem bind_miss : ((ns.take (ns.length - ds.length)).filter fun n => ((ns.zip vals).lookup n).isNone) = [] := by
  refine List.filter_eq_nil_iff.mpr fun a ha => ?_
  obtain ⟨i, hi⟩ := List.mem_iff_getElem?.mp ha
  have h2 := (List.getElem?_eq_some_iff.mp hi).1
  rw [List.length_take] at h2
  rw [lookup_zip hn ((List.getElem?_take_of_lt (by lia)).symm.trans hi), List.getElem?_eq_getElem (by lia)]
  exact fun h => nomatch h
theorem bind_all2 : (ns.filterMap fun n => ((fillD (ns.zip vals) ((ns.drop (ns.length - (ds.drop (ds.length - ns.length)).length)).zip (ds.drop (ds.length - ns.length)))).lookup n).map fun x => (n, x)) = ns.zip (vals ++ ds.drop (vals.length + ds.length - ns.length)) := by
  rw [Nat.sub_eq_zero_of_le hds, List.drop_zero]; exact bind_all hn hle hge hds
theorem bind_miss2 : ¬ (!((ns.take (ns.length - (ds.drop (ds.length - ns.length)).length)).filter fun n => ((ns.zip vals).lookup n).isNone).isEmpty) = true := by
  rw [Nat.sub_eq_zero_of_le hds, List.drop_zero, bind_miss hn hle hge]; exact fun h => nomatch h
end
theorem fill_loop {M : Model} {A : Around} {Ee : Value → Shared → Prop} {s : Shared} : ∀ {l slots : List (Str × Value)} {Q : List (Str × Value) → Shared → Prop}, Q (fillD slots l) s →
    wpAny M A (forIn l slots fun x (r : List (Str × Value)) => if (List.lookup x.fst r).isNone = true then pure (ForInStep.yield (r ++ [(x.fst, x.snd)])) else pure (ForInStep.yield r)) Q Ee s
  | [], _, _, h => wpAny_pure h
  | x :: l, slots, Q, h => by
    rw [List.forIn_cons]
    rw [fillD] at h
    split
    · rename_i c; rw [if_pos c] at h; exact wpAny_bind (wpAny_pure (fill_loop h))
    · rename_i c; rw [if_neg c] at h; exact wpAny_bind (wpAny_pure (fill_loop h))
theorem wp_else {M : Model} {A : Around} {Ee : Value → Shared → Prop} {s : Shared} {α : Type} {c : Prop} [Decidable c] {x y : Sem α} {Q : α → Shared → Prop} (n : ¬ c) (h : wpAny M A y Q Ee s) : wpAny M A (if c then x else y) Q Ee s := by rw [if_neg n]; exact h
theorem wp_bindArgs {M : Model} {A : Around} {Ee : Value → Shared → Prop} {s : Shared} {fd : FuncData} {vals ds : List Value} {Q : List (Str × Value) → Shared → Prop}
    (h1 : fd.params.posonlyargs = []) (h2 : fd.params.vararg = none) (h3 : fd.params.kwonlyargs = []) (h4 : fd.params.kwarg = none)
    (hn : (fd.params.args.map (·.arg)).Nodup)
    (hd : ∀ Q' : Option (Array Value) → Shared → Prop, (∀ o : Option (Array Value), (o.getD #[]).toList = ds → Q' o s) → wpAny M A (seqItems? fd.defaults) Q' Ee s)
    (hle : vals.length ≤ fd.params.args.length) (hge : fd.params.args.length ≤ vals.length + ds.length) (hds : ds.length ≤ fd.params.args.length)
    (h : Q ((fd.params.args.map (·.arg)).zip (vals ++ ds.drop (vals.length + ds.length - fd.params.args.length))) s) : wpAny M A (bindArgs fd ⟨vals, []⟩) Q Ee s := by
  obtain ⟨nm, qn, ⟨po, as, va, ko, kd, kwa, df⟩, bd, sc, gl, cl, dfl, kwd, dc, pm, an, cd, ct, bl⟩ := fd
  obtain rfl : po = [] := h1
  obtain rfl : va = none := h2
  obtain rfl : ko = [] := h3
  obtain rfl : kwa = none := h4
  refine wpAny_bind (wpAny_pure (wpAny_bind (hd _ fun o ho => ?_)))
  subst ho
  dsimp only at hle hge hds h hn
  rw [← List.length_map (f := Arg.arg) (as := as)] at hle hge hds h
  refine wp_else (fun e => Nat.not_lt.mpr hle (of_decide_eq_true (Bool.and_eq_true_iff.mp e).1)) (wp_else (bind_miss2 hn hle hge hds) (wpAny_bind (fill_loop (wpAny_bind (wpAny_pure (wp_else (fun h => nomatch h) (wpAny_pure ?_)))))))
  show Q (List.filterMap _ (as.map Arg.arg ++ [])) s
  rw [List.append_nil]
  exact (bind_all2 hn hle hge hds).symm ▸ h
end Mine
end
section
set_option maxRecDepth 100000
open PySem PySem.W PyProof.Rows
namespace Mine
-- S1
noncomputable def Lb (b : Nat) : List Nat := (List.range 6).filter b.testBit
noncomputable def Tb (b : Nat) (led : Bool) : SetTable where
  mask := if (Lb b).length < 5 then 7 else 31
  place := (Lb b).toArray
  dummies := #[]
  finger := 0
  led := led
  moves := if (Lb b).length < 5 then 0 else 1
  plain := true
noncomputable def TpS (b k : Nat) (led : Bool) : SetTable where
  mask := if (Lb b).length < 5 then 7 else 31
  place := (Lb (b ||| 2 ^ k)).toArray
  dummies := #[]
  finger := 0
  led := led
  moves := if (Lb b).length < 5 then 0 else 1
  plain := true
noncomputable def pk (b k : Nat) : Nat := ((Lb b).filter (· < k)).length
noncomputable def hs (b : Nat) : Array Int := ((Lb b).map Int.ofNat).toArray
theorem st_free : ∀ b : Nat, b < 64 → ∀ k : Nat, k < 6 → b.testBit k = false → ∀ led, (Tb b led).freeSlot (Int.ofNat k) = some (k, false) := by decide +kernel
theorem st_put : ∀ b : Nat, b < 64 → ∀ k : Nat, k < 6 → b.testBit k = false → ∀ led, (Tb b led).put k = (TpS b k led, pk b k) := by decide +kernel
theorem st_ins : ∀ b : Nat, b < 64 → ∀ k : Nat, k < 6 → b.testBit k = false → (Lb b).take (pk b k) ++ [k] ++ (Lb b).drop (pk b k) = Lb (b ||| 2 ^ k) ∧ pk b k ≤ (Lb b).length ∧ b ||| 2 ^ k < 64 ∧ (Lb (b ||| 2 ^ k)).length = (Lb b).length + 1 := by decide +kernel
theorem st_fit : ∀ b < 64, ∀ led, (Tb b led).fits (Lb b).length = true := by decide +kernel
theorem st_fit2 : ∀ b : Nat, b < 64 → ∀ k : Nat, k < 6 → b.testBit k = false → ∀ led, (TpS b k led).fits ((Lb b).length + 1) = true := by decide +kernel
theorem st_full : ∀ b : Nat, b < 64 → ∀ k : Nat, k < 6 → b.testBit k = false → ∀ led, (TpS b k led).tooFull = false → TpS b k led = Tb (b ||| 2 ^ k) led := by decide +kernel
noncomputable def rlOk (b k : Nat) (led : Bool) : Bool := match (TpS b k led).relaid (hs (b ||| 2 ^ k)) (SetTable.grown (Lb (b ||| 2 ^ k)).length) with
  | some (t, o) => decide (t = Tb (b ||| 2 ^ k) led) && decide (o = Array.range (Lb (b ||| 2 ^ k)).length)
  | none => false
theorem st_relay0 : ∀ b : Nat, b < 64 → ∀ k : Nat, k < 6 → (b.testBit k || !(TpS b k true).tooFull || rlOk b k true && rlOk b k false) = true := by decide +kernel
theorem st_relay {b k : Nat} (hb : b < 64) (hk : k < 6) (hn : b.testBit k = false) (led : Bool) (hf : (TpS b k led).tooFull = true) :
    (TpS b k led).relaid (hs (b ||| 2 ^ k)) (SetTable.grown (Lb (b ||| 2 ^ k)).length) = some (Tb (b ||| 2 ^ k) led, Array.range (Lb (b ||| 2 ^ k)).length) := by
  have h := st_relay0 b hb k hk
  have hf' : (TpS b k true).tooFull = true := by cases led <;> exact hf
  rw [hn, hf'] at h
  simp only [Bool.not_true, Bool.false_or, Bool.and_eq_true] at h
  have : rlOk b k led = true := by cases led; exact h.2; exact h.1
  unfold rlOk at this
  split at this
  · rename_i t o e
    simp only [Bool.and_eq_true, decide_eq_true_eq] at this
    rw [e, this.1, this.2]
  · cases this
theorem st_below : ∀ b < 64, ∀ i ≤ (Lb b).length, SetTable.below (Lb b).toArray (match i with | 0 => 0 | j + 1 => (Lb b).toArray.getD j 0 + 1) = i := by decide +kernel
theorem st_mem : ∀ b : Nat, b < 64 → ∀ k : Nat, k < 6 → (Lb b).contains k = b.testBit k := by decide +kernel
theorem st_lt : ∀ b < 64, (Lb b).all (· < 6) = true ∧ (Lb b).length ≤ 6 := by decide +kernel
theorem st_or : ∀ b : Nat, b < 64 → ∀ k : Nat, k < 6 → ∀ j : Nat, j < 6 → (b ||| 2 ^ k).testBit j = (b.testBit j || j == k) := by decide +kernel
end Mine
end
section
set_option maxRecDepth 100000
open PySem PySem.W PyProof.Rows
namespace Mine
-- S2
noncomputable def num? : Value → Option Int
  | .int i _ => some i
  | _ => none
theorem num_int {v : Value} {i : Int} (h : num? v = some i) : ∃ t, v = .int i t := by
  cases v <;> simp [num?] at h; subst h; exact ⟨_, rfl⟩
noncomputable def EsOf (b : Nat) (es : List (Int × Value)) : Prop := es.map (fun e => (e.1, num? e.2)) = (Lb b).map fun k => (Int.ofNat k, some (Int.ofNat k))
noncomputable def SetSt (h : Heap) (a : Addr) (b ep : Nat) (led : Bool) (es : Array (Int × Value)) : Prop :=
  h.get? a = some { cls := .type "set", dict := none, data := .set es ep (Tb b led) } ∧ EsOf b es.toList
theorem hash_small : ∀ k : Nat, k < 6 → hashInt (Int.ofNat k) = Int.ofNat k := by decide +kernel
theorem EsOf.size {b : Nat} {es : Array (Int × Value)} (h : EsOf b es.toList) : es.size = (Lb b).length := by
  have := congrArg List.length h; simpa using this
theorem EsOf.get {b : Nat} {es : List (Int × Value)} (h : EsOf b es) {e : Int × Value} (he : e ∈ es) : ∃ k t, k ∈ Lb b ∧ e = (Int.ofNat k, .int (Int.ofNat k) t) := by
  have : (e.1, num? e.2) ∈ (Lb b).map fun k => (Int.ofNat k, some (Int.ofNat k)) := by rw [← h]; exact List.mem_map.mpr ⟨e, he, rfl⟩
  obtain ⟨k, hk, e1⟩ := List.mem_map.mp this
  obtain ⟨t, e2⟩ := num_int (congrArg Prod.snd e1).symm
  exact ⟨k, t, hk, Prod.ext (congrArg Prod.fst e1).symm e2⟩
theorem lb_lt {b k : Nat} (hb : b < 64) (hk : k ∈ Lb b) : k < 6 := by
  have := List.all_eq_true.mp (st_lt b hb).1 k hk; simpa using this
theorem EsOf.elems {prog : Program} {w : World} {b : Nat} {es : List (Int × Value)} (hb : b < 64) (h : EsOf b es) : ElemsOf (intKind prog w) es := by
  intro e he
  obtain ⟨k, t, hk, rfl⟩ := h.get he
  exact ⟨⟨Int.ofNat k, intKind_is _ _ _ _, (hash_small k (lb_lt hb hk)).symm⟩, rfl⟩
theorem EsOf.find {b : Nat} {es : List (Int × Value)} (h : EsOf b es) (hb : b < 64) {k : Nat} (hk : k < 6) : (∃ e ∈ es, e.2.isInt (Int.ofNat k) = true) ↔ b.testBit k = true := by
  rw [← st_mem b hb k hk, List.contains_iff_mem]
  constructor
  · rintro ⟨e, he, hi⟩
    obtain ⟨k', t, hk', rfl⟩ := h.get he
    have : (Int.ofNat k') = Int.ofNat k := by simpa [Value.isInt] using hi
    have : k' = k := Int.ofNat.inj this
    exact this ▸ hk'
  · intro hm
    have : (Int.ofNat k, some (Int.ofNat k)) ∈ es.map (fun e => (e.1, num? e.2)) := by rw [h]; exact List.mem_map.mpr ⟨k, hm, rfl⟩
    obtain ⟨e, he, e1⟩ := List.mem_map.mp this
    obtain ⟨t, e2⟩ := num_int (congrArg Prod.snd e1)
    exact ⟨e, he, by rw [e2]; simp [Value.isInt]⟩
theorem insertAt_list {α : Type} (xs : Array α) (p : Nat) (x : α) : (SetTable.insertAt xs p x).toList = xs.toList.take p ++ [x] ++ xs.toList.drop p := by
  unfold SetTable.insertAt
  simp only [Array.toList_append, Array.toList_push, Array.toList_extract]
  congr 1
  simp only [List.extract]
  rw [List.take_of_length_le (by simp)]
theorem EsOf.ins {b k : Nat} {es : Array (Int × Value)} {t : Tok} (h : EsOf b es.toList) (hb : b < 64) (hk : k < 6) (hn : b.testBit k = false) :
    EsOf (b ||| 2 ^ k) (SetTable.insertAt es (pk b k) (Int.ofNat k, .int (Int.ofNat k) t)).toList := by
  unfold EsOf at h ⊢
  rw [insertAt_list, ← (st_ins b hb k hk hn).1]
  simp only [List.map_append, List.map_take, List.map_drop, h, List.map_cons, List.map_nil]
  rfl
theorem relay_of {b k : Nat} {led : Bool} {es : Array (Int × Value)} (hb : b < 64) (hk : k < 6) (hn : b.testBit k = false) (h : EsOf (b ||| 2 ^ k) es.toList) (hf : (TpS b k led).tooFull = true) :
    relayAll (TpS b k led) es (SetTable.grown es.size) = (es, Tb (b ||| 2 ^ k) led, false) := by
  have hm : es.map (·.1) = hs (b ||| 2 ^ k) := by
    apply Array.ext'
    rw [Array.toList_map]
    have := congrArg (List.map Prod.fst) h
    rw [List.map_map, List.map_map] at this
    have e2 : (List.map Int.ofNat (Lb (b ||| 2 ^ k))) = List.map (fun x : Nat => (x : Int)) (Lb (b ||| 2 ^ k)) := rfl
    simpa [hs, Function.comp_def, e2] using this
  have hsz := h.size
  have hfm : (Array.range es.size).filterMap (es[·]?) = es := by
    apply Array.ext'
    rw [Array.toList_filterMap, Array.toList_range]
    exact filterMap_getElem?_range es
  have hcov : coversAll (Array.range es.size) es.size = true := by
    unfold coversAll
    rw [Array.toList_range]
    exact List.isPerm_iff.mpr (.refl _)
  have hfit : (Tb (b ||| 2 ^ k) led).fits es.size = true := by rw [hsz]; exact st_fit _ (st_ins b hb k hk hn).2.2.1 led
  unfold relayAll
  rw [hm, hsz, st_relay hb hk hn led hf, ← hsz]
  simp only [hfm, hcov, hfit, Bool.and_self, if_true]
section
variable {prog : Program} {w : World} {A : Around} {E : Value → Shared → Prop} {s : Shared} {a : Addr}
theorem set_add {b ep k : Nat} {led : Bool} {es : Array (Int × Value)} {t : Tok} {Q : Bool → Shared → Prop} (hb : b < 64) (hk : k < 6) (hS : SetSt s.heap a b ep led es)
    (h : ∀ h' ep' es' r, Heap.SameBut a s.heap h' → SetSt h' a (b ||| 2 ^ k) ep' led es' → Q r { s with heap := h', toks := s.toks + 1 }) : wpAny (model prog w) A (setAdd a (.int (Int.ofNat k) t)) Q E s := by
  obtain ⟨ho, hes⟩ := hS
  have hel := hes.elems (prog := prog) (w := w) hb
  have hsz := hes.size
  have hl6 := (st_lt b hb).2
  have hf : (Tb b led).fits es.size = true := by rw [hsz]; exact st_fit b hb led
  have hsb : es.size < scanBound := by unfold scanBound; omega
  unfold setAdd
  refine wpAny_holding (wpAny_bind ((intKind prog w).pyHash (k := Int.ofNat k) (intKind_is _ _ _ _) ?_))
  unfold setAddHashed setAddHashedIn
  refine wpAny_holding (wpAny_bind (wpAny_setState_of (s := { s with toks := s.toks + 1 }) ho rfl hf ?_))
  dsimp only
  rw [byScan_of (knd := intKind prog w) rfl hsb hel]
  simp only [if_true]
  unfold setAddByScan
  refine wpAny_bind (wpAny_bind (wpAny_rule (wpAny_bind (wpAny_setScan_of (s := { s with toks := s.toks + 1 }) (knd := intKind prog w) (intKind_is _ _ _ _) ho rfl hf hel ?_))))
  cases hr : List.findIdx? (fun e => (intKind prog w).is (Int.ofNat k) e.2) es.toList with
  | some j =>
    dsimp only
    obtain ⟨hj, hpj, _⟩ := List.findIdx?_eq_some_iff_getElem.mp hr
    have ht : b.testBit k = true := (hes.find hb hk).mp ⟨_, List.getElem_mem hj, hpj⟩
    have hbb : b ||| 2 ^ k = b := by
      apply Nat.eq_of_testBit_eq
      intro i
      rw [Nat.testBit_or, Nat.testBit_two_pow]
      by_cases hik : k = i
      · subst hik; simp [ht]
      · simp [hik]
    refine wpAny_pure (wpAny_pure ?_)
    exact h s.heap ep es false (Heap.SameBut.refl a s.heap) (by rw [hbb]; exact ⟨ho, hes⟩)
  | none =>
    dsimp only
    have ht : b.testBit k = false := by
      cases q : b.testBit k with
      | false => rfl
      | true =>
        obtain ⟨e, he, hi⟩ := (hes.find hb hk).mpr q
        have := List.findIdx?_eq_none_iff.mp hr e he
        have hi' : (intKind prog w).is (Int.ofNat k) e.2 = true := hi
        rw [hi'] at this; cases this
    obtain ⟨i1, i2, i3, i4⟩ := st_ins b hb k hk ht
    have hes' := hes.ins (t := t) hb hk ht
    have hsz' := hes'.size
    have hhash : (intKind prog w).hash (Int.ofNat k) = Int.ofNat k := hash_small k hk
    have hlay : layNew (Tb b led) es ((intKind prog w).hash (Int.ofNat k)) (.int (Int.ofNat k) t) = (SetTable.insertAt es (pk b k) (Int.ofNat k, .int (Int.ofNat k) t), TpS b k led, false, false) := by
      have hfit : (TpS b k led).fits (SetTable.insertAt es (pk b k) (Int.ofNat k, Value.int (Int.ofNat k) t)).size = true := by rw [hsz', i4]; exact st_fit2 b hb k hk ht led
      unfold layNew
      rw [hhash, st_free b hb k hk ht led]
      simp only [st_put b hb k hk ht led, SetTable.orStandIn, hfit, if_true, Bool.not_true]
    rw [hlay]
    dsimp only
    refine wpAny_bind (m := pure ()) (wpAny_pure ?_)
    have hpl : (TpS b k led).plain = true := rfl
    rw [if_pos hpl, hashByValue_scannable 8 (x := .int (Int.ofNat k) t) rfl]
    refine wpAny_bind (wpAny_pure ?_)
    rw [if_pos (show plainKind (.int (Int.ofNat k) t) = true from rfl)]
    have hl6' := (st_lt _ i3).2
    refine wpAny_bind (wpAny_storeSet_of (s := { s with toks := s.toks + 1 }) ho rfl ?_ (by rw [hsz', sizeLine_eq]; omega))
    have ho1 : (s.heap.update a (Obj.putSet (SetTable.insertAt es (pk b k) (Int.ofNat k, .int (Int.ofNat k) t)) (TpS b k led))).get? a = some { cls := .type "set", dict := none, data := .set (SetTable.insertAt es (pk b k) (Int.ofNat k, .int (Int.ofNat k) t)) (ep + 1) (TpS b k led) } :=
      Heap.get?_update_self _ ho rfl
    cases hfull : (TpS b k led).tooFull with
    | false =>
      simp only [Bool.not_false, Bool.and_false, Bool.false_eq_true, if_false]
      refine wpAny_pure (wpAny_pure ?_)
      refine h _ (ep + 1) (SetTable.insertAt es (pk b k) (Int.ofNat k, .int (Int.ofNat k) t)) true (Heap.SameBut.update ..) ⟨?_, hes'⟩
      rw [← st_full b hb k hk ht led hfull]
      exact ho1
    | true =>
      simp only [Bool.not_false, Bool.and_true, if_true]
      rw [relay_of hb hk ht hes' hfull]
      dsimp only
      refine wpAny_bind (m := pure ()) (wpAny_pure ?_)
      refine wpAny_bind (wpAny_storeSet_of (s := { s with heap := s.heap.update a (Obj.putSet (SetTable.insertAt es (pk b k) (Int.ofNat k, .int (Int.ofNat k) t)) (TpS b k led)), toks := s.toks + 1 }) ho1 rfl ?_ (by rw [hsz', sizeLine_eq]; omega))
      refine wpAny_pure (wpAny_pure ?_)
      have ho2 := Heap.get?_update_self (Obj.putSet (SetTable.insertAt es (pk b k) (Int.ofNat k, .int (Int.ofNat k) t)) (Tb (b ||| 2 ^ k) led)) ho1 rfl
      exact h _ _ (SetTable.insertAt es (pk b k) (Int.ofNat k, .int (Int.ofNat k) t)) true ((Heap.SameBut.update ..).trans (Heap.SameBut.update ..)) ⟨ho2, hes'⟩
end
end Mine
end
section
set_option maxRecDepth 100000
open PySem PySem.W PyProof.Rows
namespace Mine
-- S3
theorem or_lt : ∀ b : Nat, b < 64 → ∀ k : Nat, k < 6 → b ||| 2 ^ k < 64 := by decide +kernel
noncomputable def bitsOf (val : Nat → Nat) : Nat → Nat
  | 0 => 0
  | i + 1 => bitsOf val i ||| 2 ^ val i
theorem bitsOf_lt {val : Nat → Nat} : ∀ {n : Nat}, (∀ i, i < n → val i < 6) → bitsOf val n < 64
  | 0, _ => by simp [bitsOf]
  | n + 1, h => or_lt _ (bitsOf_lt fun i hi => h i (Nat.lt_succ_of_lt hi)) _ (h n (Nat.lt_succ_self n))
theorem bitsOf_test {val : Nat → Nat} {j : Nat} (hj : j < 6) : ∀ {n : Nat}, (∀ i, i < n → val i < 6) → ((bitsOf val n).testBit j = true ↔ ∃ i, i < n ∧ val i = j)
  | 0, _ => by simp [bitsOf]
  | n + 1, h => by
    have h' : ∀ i, i < n → val i < 6 := fun i hi => h i (Nat.lt_succ_of_lt hi)
    show (bitsOf val n ||| 2 ^ val n).testBit j = true ↔ _
    rw [st_or _ (bitsOf_lt h') _ (h n (Nat.lt_succ_self n)) j hj, Bool.or_eq_true, bitsOf_test hj h']
    constructor
    · rintro (⟨i, hi, e⟩ | e)
      · exact ⟨i, Nat.lt_succ_of_lt hi, e⟩
      · exact ⟨n, Nat.lt_succ_self n, (by simpa using e : j = val n).symm⟩
    · rintro ⟨i, hi, e⟩
      rcases Nat.lt_succ_iff_lt_or_eq.mp hi with hi | rfl
      · exact .inl ⟨i, hi, e⟩
      · exact .inr (by simp [e])
noncomputable def Txt (w : World) : Bool := w.params.followText "set-order"
section
variable {prog : Program} {w : World} {A : Around} {R : Result → Shared → Prop} {I : Addr} {fp wr : List Addr} {G : Array GenState → Array GenState → Prop} {n : Nat} {P : Nat → Value → Prop} {St : Nat → Shared → Prop}
theorem SetSt.keep {h h' : Heap} {a : Addr} {b ep : Nat} {led : Bool} {es : Array (Int × Value)} (x : SetSt h a b ep led es) (hk : ∀ o, h.get? a = some o → h'.get? a = some o) : SetSt h' a b ep led es := ⟨hk _ x.1, x.2⟩
theorem set_loop (W : WalksS prog w A.in1 I fp wr G n P St) (S : Addr) (hSf : S ∉ fp) (val : Nat → Nat) (hval : ∀ i v, P i v → ∃ t, v = .int (Int.ofNat (val i)) t) (h6 : ∀ i, i < n → val i < 6) (led : Bool) :
    ∀ (k i : Nat) (s : Shared) (ep : Nat) (es : Array (Int × Value)), n - i = k → i ≤ n → St i s → SetSt s.heap S (bitsOf val i) ep led es →
      (∀ s' ep' es', Moved (S :: wr) G s s' → SetSt s'.heap S (bitsOf val n) ep' led es' → R (.ok (.ret .none)) s') →
      codeAny (model prog w) A (.builtin "set.update.loop" ⟨[.ref S, .ref I], []⟩) R s := by
  have hSw : S ∉ wr := fun h => hSf (W.sub _ h)
  have hsub : ∀ b ∈ wr, b ∈ S :: wr := fun b hb => List.mem_cons_of_mem _ hb
  intro k
  induction k with
  | zero =>
    intro i s ep es hk hi hst hS hR
    have hin : i = n := by omega
    subst hin
    refine codeAny_builtin PyProof.Rows.F.entry_set_update_loop ?_
    rw [Around.under_plainId PyProof.Rows.F.plain_set_update_loop _]
    show wpAny _ A.in1 (pyNext (.ref I) >>= _) _ _ s
    refine wpAny_bind (W.done s _ _ hst fun s' hm => ?_)
    show wpAny _ A.in1 (ret Value.none) _ _ s'
    exact wpAny_pure (hR s' ep es (hm.mono hsub) (hS.keep fun o e => hm.heap S _ hSw e))
  | succ k ih =>
    intro i s ep es hk hi hst hS hR
    have hlt : i < n := by omega
    refine codeAny_builtin PyProof.Rows.F.entry_set_update_loop ?_
    rw [Around.under_plainId PyProof.Rows.F.plain_set_update_loop _]
    show wpAny _ A.in1 (pyNext (.ref I) >>= _) _ _ s
    refine wpAny_bind (W.item i s _ _ hlt hst fun v s' hP hst' hm => ?_)
    obtain ⟨t, rfl⟩ := hval i v hP
    have hS' := hS.keep fun o e => hm.heap S _ hSw e
    show wpAny _ A.in1 (holding [Value.int (Int.ofNat (val i)) t] (setAdd S (.int (Int.ofNat (val i)) t)) >>= _) _ _ s'
    refine wpAny_bind (wpAny_holding (set_add (bitsOf_lt fun j hj => h6 j (by omega)) (h6 i hlt) hS' fun h' ep' es' r hsb hS2 => ?_))
    refine wpAny_pure ⟨plainId_quiet PyProof.Rows.F.plain_set_update_loop _, ih (i + 1) _ ep' es' (by omega) hlt (W.frame _ s' _ _ hst' (Nat.le_succ _) fun b hb o e => ?_) hS2 fun s'' ep'' es'' hm'' hS'' => ?_⟩
    · rw [hsb.2 b (fun h : b = S => hSf (by rw [← h]; exact hb))]; exact e
    · refine hR s'' ep'' es'' (Moved.trans W.gtrans ((hm.mono hsub).then_heap (Nat.le_succ _) fun b o hb e => ?_) hm'') hS''
      rw [hsb.2 b (fun h : b = S => hb (by rw [h]; exact List.mem_cons_self))]; exact e
end
section
variable {prog : Program} {w : World} {A : Around} {E : Value → Shared → Prop} {s : Shared}
theorem code_set_new (a : Value) {Q₁ : Value → Shared → Prop}
    (h : Q₁ (.ref s.heap.objs.size) { s with heap := s.heap.push { cls := .type "set", dict := none, data := .set #[] 0 (.fresh 0 0 (!Txt w)) } }) :
    codeAny (model prog w) A (.call (.builtin "set.__new__") ⟨[.type "set", a], []⟩) (wants Q₁ E) s := by
  refine codeAny_of_tree ?_
  show wpAny _ A.in1 (do checkBuiltinCall "set.__new__" ⟨[.type "set", a], []⟩; again (.builtin "set.__new__" ⟨[.type "set", a], []⟩)) _ _ s
  refine wpAny_bind (wpAny_of_eq (PySem.F.newCall_set_1 a) (wpAny_pure ⟨plainId_quiet PySem.F.plain_set_new _, codeAny_builtin PySem.F.entry_set_new ?_⟩))
  rw [Around.under_plainId PySem.F.plain_set_new _]
  unfold Builtin.«set.__new__» Builtin.Frozenset.newClass
  have hsub := sub_set_self
  obtain ⟨hp, g, d, tk, os⟩ := s
  dsimp only
  wp_walk
  refine wpAny_askSetting (wpAny_pure ?_)
  dsimp only
  simp only [newObj]
  refine wpAny_bind (wpAny_alloc (wpAny_pure ?_))
  exact wpAny_pure h
end
end Mine
end
section
set_option maxRecDepth 100000
open PySem PySem.W PyProof.Rows
namespace Mine
-- S4
theorem owner_seti : Manifest.owners.lookup (String.ofList ['r', 'o', 't', 'a', 'r', 'e', 't', 'i', '_', 't', 'e', 's'].reverse) = some Manifest.sig_set_iterator := by kernel_rfl
theorem slot_seti_next : Slot "set_iterator" "__next__" "set_iterator.__next__" :=
  .of (owner := "set_iterator") (n := "__next__") (by rw [typeLookup_type, builtinLookup_eq_fast]; kernel_rfl) (by decide +kernel) (by decide +kernel) (by decide +kernel)
    (by first | exact .inl (by decide +kernel) | exact .inr (by decide +kernel)) (by rw [isSubtype_type]; kernel_rfl)
theorem entry_seti_next : entryFor table "set_iterator.__next__" = some Builtin.«set_iterator.__next__» := entryFor_of_tree (by kernel_rfl)
theorem args_seti_next (a : Value) : argsOk "set_iterator.__next__" ⟨[a], []⟩ := by
  unfold argsOk; rw [signature?_of (id := "set_iterator.__next__") (n := ['_', '_', 't', 'x', 'e', 'n', '_', '_']) (o := ['r', 'o', 't', 'a', 'r', 'e', 't', 'i', '_', 't', 'e', 's']) (by kernel_rfl) owner_seti]; kernel_rfl
theorem slot_seti_iter : Slot "set_iterator" "__iter__" "set_iterator.__iter__" :=
  .of (owner := "set_iterator") (n := "__iter__") (by rw [typeLookup_type, builtinLookup_eq_fast]; kernel_rfl) (by decide +kernel) (by decide +kernel) (by decide +kernel)
    (by first | exact .inl (by decide +kernel) | exact .inr (by decide +kernel)) (by rw [isSubtype_type]; kernel_rfl)
theorem entry_seti_iter : entryFor table "set_iterator.__iter__" = some Builtin.«dict_keyiterator.__iter__» :=
  entryFor_alias (id' := "dict_keyiterator.__iter__") (by kernel_rfl) (by decide +kernel) (by decide +kernel) (by kernel_rfl)
theorem args_seti_iter (a : Value) : argsOk "set_iterator.__iter__" ⟨[a], []⟩ := by
  unfold argsOk; rw [signature?_of (id := "set_iterator.__iter__") (n := ['_', '_', 'r', 'e', 't', 'i', '_', '_']) (o := ['r', 'o', 't', 'a', 'r', 'e', 't', 'i', '_', 't', 'e', 's']) (by kernel_rfl) owner_seti]; kernel_rfl
theorem entry_set_iter : entryFor table "set.__iter__" = some Builtin.«frozenset.__iter__» :=
  entryFor_alias (id' := "frozenset.__iter__") (by kernel_rfl) rfl (by decide +kernel) (by kernel_rfl)
theorem Tb_zero : ∀ led, Tb 0 led = .fresh 0 0 led := by decide +kernel
section
variable {prog : Program} {w : World} {A : Around} {E : Value → Shared → Prop} {s : Shared}
set_option maxHeartbeats 3200000 in
theorem call_set {l : Addr} {items : Array Value} {val : Nat → Nat} {Q : Value → Shared → Prop}
    (hh : A.handled = none) (hl : s.heap.IsList l items) (hval : ∀ i v, items[i]? = some v → ∃ t, v = Value.int (Int.ofNat (val i)) t) (h6 : ∀ i, i < items.size → val i < 6)
    (h : ∀ (h' : Heap) (tk ep : Nat) (es : Array (Int × Value)), SetSt h' s.heap.objs.size (bitsOf val items.size) ep (!Txt w) es →
      (∀ b o, s.heap.get? b = some o → h'.get? b = some o) → Q (.ref s.heap.objs.size) { s with heap := h', toks := tk }) :
    wpAny (model prog w) A (PySem.call (.type "set") [.ref l]) Q E s := by
  obtain ⟨c, tl, hmro⟩ := PySem.F.called_set.mro
  have hmade := PySem.F.called_set.made
  have hsub := PySem.F.called_set.sub
  refine wpAny_call (codeAny_of_tree ?_)
  show wpAny _ _ (callAny (.type "set") _) _ _ _
  refine wpAny_pure ⟨Code.quiet_builtin _ (by decide +kernel), codeAny_builtin PySem.F.entry_type_call ?_⟩
  rw [Around.under_plain (weight_type_call_type "set" [.ref l] []) rfl]
  have h1 := PySem.F.called_set.notType
  have h2 := PySem.F.called_set.canCreate
  have hct := PySem.F.typeCall_set_1 (.ref l)
  repeat (any_goals (first | assumption | wp_step))
  refine codeAny_mono (code_set_new (.ref l) (E := E) (Q₁ := fun obj s₁ => obj = .ref s.heap.objs.size ∧ s₁ = { s with heap := s.heap.push { cls := .type "set", dict := none, data := .set #[] 0 (.fresh 0 0 (!Txt w)) } }) ⟨rfl, rfl⟩) fun r s₁ hr => ?_
  cases r with
  | error e => exact hr
  | ok fl =>
    cases fl with
    | ret obj =>
      obtain ⟨rfl, rfl⟩ := hr
      have hS : (s.heap.push { cls := .type "set", dict := none, data := .set #[] 0 (.fresh 0 0 (!Txt w)) }).get? s.heap.objs.size = some { cls := .type "set", dict := none, data := .set #[] 0 (.fresh 0 0 (!Txt w)) } := Heap.get?_push_size _ rfl
      have hT : Shared.TypeIs { s with heap := s.heap.push { cls := .type "set", dict := none, data := .set #[] 0 (.fresh 0 0 (!Txt w)) } } (.ref s.heap.objs.size) "set" := ⟨_, hS, rfl⟩
      have hli := PySem.F.called_set.init.lookup
      have hbi := PySem.F.called_set.init.bind (.ref s.heap.objs.size)
      repeat (any_goals (first | assumption | wp_step))
      refine codeAny_mono (codeAny_call_builtin (R := wants (fun r s₂ => r = .none ∧ ∃ h' tk ep es, s₂ = { s with heap := h', toks := tk } ∧
          SetSt h' s.heap.objs.size (bitsOf val items.size) ep (!Txt w) es ∧
          (∀ b o, s.heap.get? b = some o → h'.get? b = some o)) E) PySem.F.called_set.init.plain PySem.F.entry_set_init (check_set_init_1 hT ?_)) fun r₂ s₂ hr₂ => ?_
      · obtain ⟨ol, hol, hcl, nl, hdl⟩ := hl
        obtain ⟨ocls, odict, odata, oslots⟩ := ol
        simp only at hcl hdl
        subst hcl; subst hdl
        have hol' : (s.heap.push { cls := .type "set", dict := none, data := .set #[] 0 (.fresh 0 0 (!Txt w)) }).get? l = some { cls := .type "list", dict := odict, data := .seq items nl, slots := oslots } := Heap.get?_push_of_some _ hol
        have hsls := PySem.F.sub_list_set
        have hslf := PySem.F.sub_list_frozenset
        have hne : (Value.type "list" == Value.type "dict") = false := by decide
        have hl1 : (s.heap.push { cls := .type "set", dict := none, data := .set #[] 0 (.fresh 0 0 (!Txt w)) }).IsList l items := ⟨_, hol', rfl, nl, rfl⟩
        unfold Builtin.«set.__init__» noKeywords Builtin.Frozenset.updateFrom
        generalize hPI : pyIter = PI
        wp_walk
        subst hPI
        refine wpAny_pyIter_list hl1 ?_
        refine wpAny_bind (wpAny_runValue ?_)
        have hlS : l < s.heap.objs.size := Heap.lt_size hol
        have hh3 : A.in1.in1.in1.handled = none := by simp [hh]
        have hneI : l ≠ (s.heap.push { cls := .type "set", dict := none, data := .set #[] 0 (.fresh 0 0 (!Txt w)) }).objs.size := by
          rw [Heap.size_push]; exact Nat.ne_of_lt (Nat.lt_succ_of_lt hlS)
        have hSf : s.heap.objs.size ∉ [(s.heap.push { cls := .type "set", dict := none, data := .set #[] 0 (.fresh 0 0 (!Txt w)) }).objs.size, l] := by
          rw [Heap.size_push]; simp only [List.mem_cons, List.not_mem_nil, or_false, not_or]
          exact ⟨Nat.ne_of_lt (Nat.lt_succ_self _), Nat.ne_of_gt hlS⟩
        refine set_loop ((Walks.list hh3 _ l hneI items).toS) s.heap.objs.size
          hSf val hval h6 (!Txt w) (items.size - 0) 0 _ 0 #[] (by omega) (Nat.zero_le _)
          ⟨⟨_, Heap.get?_push_size _ rfl, rfl, rfl⟩, (hl1.push _)⟩ ?hS0 ?hR
        case hS0 =>
          refine ⟨?_, show EsOf 0 [] from by unfold EsOf; decide +kernel⟩
          rw [show bitsOf val 0 = 0 from rfl, Tb_zero]
          exact Heap.get?_push_of_some _ hS
        case hR =>
          intro s' ep' es' hm hS'
          obtain ⟨h', g', d', tk', os'⟩ := s'
          have eg : g' = s.gens := hm.gens
          have ed : d' = s.drawn := hm.drawn
          have eo : os' = s.os := hm.os
          subst eg; subst ed; subst eo
          show wpAny _ _ _ _ _ _
          refine wpAny_pure ?_
          show wpAny _ _ (ret Value.none) _ _ _
          refine wpAny_pure ⟨rfl, h', tk', ep', es', rfl, hS', fun b o e => ?_⟩
          have hb := Heap.lt_size e
          have hb1 : b ≠ s.heap.objs.size := Nat.ne_of_lt hb
          have hb2 : b ≠ (s.heap.push { cls := .type "set", dict := none, data := .set #[] 0 (.fresh 0 0 (!Txt w)) }).objs.size := by
            rw [Heap.size_push]; exact Nat.ne_of_lt (Nat.lt_succ_of_lt hb)
          exact hm.heap b o (by simp only [List.mem_cons, List.not_mem_nil, or_false, not_or]; exact ⟨hb1, hb2⟩) (Heap.get?_push_of_some _ (Heap.get?_push_of_some _ e))
      · cases r₂ with
        | error e => exact hr₂
        | ok fl₂ =>
          cases fl₂ with
          | ret r =>
            obtain ⟨rfl, h', tk, ep, es, rfl, hS', hk'⟩ := hr₂
            repeat (any_goals (first | assumption | wp_step))
            exact h _ _ _ _ hS' hk'
          | _ => exact hr₂.elim
    | _ => exact hr.elim
end
end Mine
end
section
set_option maxRecDepth 100000
open PySem PySem.W PyProof.Rows
namespace Mine
-- S5
theorem er_perm {α : Type} : ∀ (l : List α) (i : Nat) (h : i < l.length), ([l[i]] ++ l.eraseIdx i).Perm l
  | [], i, h => by simp at h
  | a :: r, 0, h => by simp
  | a :: r, i + 1, h => by
    have ih := er_perm r i (by simpa using h)
    simp only [List.getElem_cons_succ, List.eraseIdx_cons_succ, List.cons_append, List.nil_append] at ih ⊢
    exact (List.Perm.swap _ _ _).trans (ih.cons a)
theorem pick_perm {α : Type} (next : Nat → Nat) : ∀ (fuel k : Nat) (left : List α) (out : Array α), left.length ≤ fuel → (pickOrder.go next fuel k left out).toList.Perm (out.toList ++ left)
  | 0, k, left, out, h => by
    have : left = [] := List.eq_nil_of_length_eq_zero (by omega)
    subst this; simp [pickOrder.go]
  | fuel + 1, k, left, out, h => by
    unfold pickOrder.go
    cases hl : left with
    | nil => simp
    | cons a r =>
      rw [← hl]
      have hpos : 0 < left.length := by rw [hl]; simp
      have hlt : next k % left.length < left.length := Nat.mod_lt _ hpos
      rw [List.getElem?_eq_getElem hlt]
      dsimp only
      refine (pick_perm next fuel (k + 1) _ _ (by rw [List.length_eraseIdx_of_lt hlt]; omega)).trans ?_
      rw [Array.toList_push, List.append_assoc]
      refine List.Perm.append_left _ ?_
      exact er_perm left _ hlt
theorem pick_all {α : Type} (next : Nat → Nat) (xs : Array α) : (pickOrder next xs).toList.Perm xs.toList := by
  have := pick_perm next xs.size 0 xs.toList #[] (by simp)
  unfold pickOrder
  simpa using this
noncomputable def walkOf (w : World) (a : Addr) (ep : Nat) (es : Array (Int × Value)) : Array (Int × Value) := if Txt w then pickOrder (w.params.setOrder a ep) es else es
theorem walkOf_perm (w : World) (a : Addr) (ep : Nat) (es : Array (Int × Value)) : (walkOf w a ep es).toList.Perm es.toList := by
  unfold walkOf; split
  · exact pick_all _ _
  · exact .refl _
noncomputable def SetIt (h : Heap) (I a : Addr) (slot i n ep : Nat) : Prop := ∃ o, h.get? I = some o ∧ o.cls = .type "set_iterator" ∧ o.data = .fields #[.int slot 0, .int i 0, .ref a, .int n 0, .int ep 0]
section
variable {prog : Program} {w : World} {A : Around} {E : Value → Shared → Prop} {s : Shared} {a I : Addr} {b ep : Nat} {es : Array (Int × Value)}
theorem SetSt.typeIs {led : Bool} (x : SetSt s.heap a b ep led es) : s.TypeIs (.ref a) "set" := ⟨_, x.1, rfl⟩
theorem SetSt.fits {h : Heap} {led : Bool} (hb : b < 64) (x : SetSt h a b ep led es) : (Tb b led).fits es.size = true := by rw [x.2.size]; exact st_fit b hb led
theorem hint_set (hT : s.TypeIs (.ref a) "set") {Q : Bool → Shared → Prop} (h : Q false s) : wpAny (model prog w) A (Builtin.List.listLengthHint (.ref a)) Q E s := by
  unfold Builtin.List.listLengthHint
  refine wpAny_bind (wpAny_specialOf hT PySem.F.slot_set_len.lookup ?_)
  generalize hid : ("set.__len__" : String) = id0
  wp_delta
  rw [show splitId id0 = some ("set", "__len__") from by subst hid; decide +kernel]
  subst hid
  refine wpAny_bind (wpAny_isInstance (T := "set") (b := true) hT sub_set_self ?_)
  refine wpAny_ite_split (fun hab => absurd hab (by decide)) (fun _ => ?_)
  refine wpAny_ite_split (fun _ => ?_) (fun hab => absurd (by decide +kernel) hab)
  refine wpAny_bind (wpAny_typeOf hT ?_)
  exact wpAny_pure h
theorem set_iter (hb : b < 64) (x : SetSt s.heap a b ep (!Txt w) es) {Q : Value → Shared → Prop}
    (hQ : Q (.ref s.heap.objs.size) { s with heap := s.heap.push { cls := .type "set_iterator", data := .fields #[.int (0 : Nat) 0, .int (0 : Nat) 0, .ref a, .int es.size 0, .int ep 0] } }) :
    wpAny (model prog w) A (pyIter (.ref a)) Q E s := by
  have hf := x.fits hb
  refine wpAny_pyIter_slot x.typeIs PySem.F.slot_set_iter (wpAny_call_entry PySem.F.slot_set_iter x.typeIs entry_set_iter ?_ (PySem.F.args_set_iter_1 _))
  unfold Builtin.«frozenset.__iter__» Builtin.Frozenset.slot0 slotArgs
  simp only [List.isEmpty_nil, Bool.not_true, Bool.false_eq_true, ↓reduceIte, bind_assoc, List.length_nil, bne_self_eq_false]
  unfold Builtin.Frozenset.addrOf Builtin.Frozenset.sizeOf
  refine wpAny_bind (wpAny_pure ?_)
  try dsimp only
  refine wpAny_bind (wpAny_pure ?_)
  try dsimp only
  refine wpAny_bind (wpAny_bind (wpAny_setEntries_of x.1 rfl hf (wpAny_pure ?_)))
  unfold setDrawn
  refine wpAny_bind (wpAny_bind (wpAny_setState_of x.1 rfl hf ?_))
  unfold setsByText
  refine wpAny_bind (wpAny_bind (wpAny_askSetting (wpAny_pure ?_)))
  refine wpAny_pure ?_
  refine wpAny_ite_split (fun hc => absurd (show ((!(Txt w)) && (!true && decide (es.size > 1))) = true from hc) (by simp)) (fun _ => ?_)
  refine wpAny_bind (wpAny_pure ?_)
  unfold setEpoch
  refine wpAny_bind (wpAny_bind (wpAny_setState_of x.1 rfl hf (wpAny_pure ?_)))
  refine wpAny_bind (wpAny_newObj_type (wpAny_pure ⟨_, rfl, "set_iterator", _, ⟨_, Heap.get?_push_size _ rfl, rfl⟩, slot_seti_next.lookup, ?_⟩))
  exact hQ
theorem SetIt.typeIs {slot i n : Nat} (x : SetIt s.heap I a slot i n ep) : s.TypeIs (.ref I) "set_iterator" := let ⟨o, ho, hc, _⟩ := x; ⟨o, ho, hc⟩
noncomputable def slb (b : Nat) : Nat → Nat
  | 0 => 0
  | j + 1 => (Lb b).toArray.getD j 0 + 1
theorem slb_below {b : Nat} (hb : b < 64) : ∀ i ≤ (Lb b).length, SetTable.below (Lb b).toArray (slb b i) = i
  | 0, h => st_below b hb 0 h
  | i + 1, h => st_below b hb (i + 1) h
noncomputable def slotAt (w : World) (b i : Nat) : Nat := if Txt w then 0 else slb b i
theorem setNext_at (hb : b < 64) (x : SetSt s.heap a b ep (!Txt w) es) {i : Nat} (hi : i ≤ es.size) {Q : Option (Value × Nat) → Shared → Prop}
    (hQ : Q (((walkOf w a ep es)[i]?).map fun e => (e.2, slotAt w b (i + 1))) s) : wpAny (model prog w) A (setNext a (slotAt w b i) i ep) Q E s := by
  have hf := x.fits hb
  have hsz := x.2.size
  unfold setNext
  refine wpAny_bind (wpAny_setState_of x.1 rfl hf ?_)
  dsimp only
  unfold setsByText
  refine wpAny_bind (wpAny_bind (wpAny_askSetting (wpAny_pure ?_)))
  refine wpAny_ite_split (fun hc => ?_) (fun hc => ?_)
  · have ht : Txt w = true := hc
    refine wpAny_ite_split (fun hc => absurd hc (by simp)) (fun _ => ?_)
    refine wpAny_bind ?_
    unfold setWalk
    refine wpAny_bind (wpAny_setState_of x.1 rfl hf ?_)
    dsimp only
    unfold setsByText
    refine wpAny_bind (wpAny_bind (wpAny_askSetting (wpAny_pure ?_)))
    refine wpAny_ite_split (fun _ => ?_) (fun hn => absurd ht hn)
    refine wpAny_bind (wpAny_askSetting (wpAny_pure (wpAny_pure ?_)))
    have e1 : slotAt w b i = slotAt w b (i + 1) := by unfold slotAt; rw [if_pos ht, if_pos ht]
    rw [e1]
    have e2 : walkOf w a ep es = pickOrder (w.params.setOrder a ep) es := if_pos ht
    rw [e2] at hQ
    exact hQ
  · have ht : Txt w = false := by cases q : Txt w with | false => rfl | true => exact absurd q hc
    refine wpAny_ite_split (fun hc => absurd (show (!true && decide (es.size > 1)) = true from hc) (by simp)) (fun _ => ?_)
    have hl : (!((Tb b (!Txt w)).led) && !es.isEmpty) = false := by rw [ht]; rfl
    refine wpAny_bind (m := (if (!((Tb b (!Txt w)).led) && !es.isEmpty) = true then unsupported "set:maker-not-led" else pure ())) ?_
    rw [hl]
    refine wpAny_ite_split (fun hc => absurd hc (by simp)) (fun _ => wpAny_pure ?_)
    refine wpAny_pure ?_
    have e2 : walkOf w a ep es = es := if_neg (by rw [ht]; simp)
    have e1 : slotAt w b i = slb b i := if_neg (by rw [ht]; simp)
    have e3 : slotAt w b (i + 1) = (Lb b).toArray.getD i 0 + 1 := if_neg (by rw [ht]; simp)
    have e4 : SetTable.below (Tb b (!Txt w)).place (slotAt w b i) = i := by rw [e1]; exact slb_below hb i (by omega)
    rw [e2, e3] at hQ
    rw [e4]
    have e5 : (Tb b (!Txt w)).place[i]? = (Lb b)[i]? := by show ((Lb b).toArray)[i]? = _; simp
    rw [e5]
    by_cases hi' : i < es.size
    · rw [Array.getElem?_eq_getElem hi', List.getElem?_eq_getElem (by omega)]
      rw [Array.getElem?_eq_getElem hi'] at hQ
      dsimp only
      rw [show ((Lb b).toArray.getD i 0) = (Lb b)[i]'(by omega) by simp [Array.getD, show i < (Lb b).length by omega]] at hQ
      exact hQ
    · rw [Array.getElem?_eq_none (by omega)]
      rw [Array.getElem?_eq_none (by omega)] at hQ
      exact hQ
theorem set_next (hb : b < 64) (x : SetSt s.heap a b ep (!Txt w) es) {i : Nat} (y : SetIt s.heap I a (slotAt w b i) i es.size ep) (hi : i < es.size) {Q : Option Value → Shared → Prop}
    (hQ : ∀ (h' : Heap) (v : Value), ((walkOf w a ep es)[i]?).map (·.2) = some v → SetIt h' I a (slotAt w b (i + 1)) (i + 1) es.size ep → Heap.SameBut I s.heap h' → Q (some v) { s with heap := h' }) :
    wpAny (model prog w) A (pyNext (.ref I)) Q E s := by
  have hf := x.fits hb
  have hT := y.typeIs
  obtain ⟨o, ho, hc, hd⟩ := y
  have hsz := x.2.size
  unfold pyNext
  refine wpAny_bind (wpAny_attempt (wpAny_callSpecial?_slot (name := Str.ofString "__next__") hT slot_seti_next
    (wpAny_call_entry slot_seti_next hT entry_seti_next ?_ (args_seti_next _))))
  unfold Builtin.«set_iterator.__next__» slotArgs
  simp only [List.isEmpty_nil, Bool.not_true, Bool.false_eq_true, ↓reduceIte, bind_assoc, List.length_nil, bne_self_eq_false]
  refine wpAny_bind (wpAny_pure ?_)
  try dsimp only
  refine wpAny_bind (wpAny_fieldsOf ho hd ?_)
  try dsimp only
  refine wpAny_bind (wpAny_setEntries_of x.1 rfl hf ?_)
  refine wpAny_ite_split (fun hc => absurd hc (by simp)) (fun _ => ?_)
  refine wpAny_bind ?_
  rw [show ((slotAt w b i : Nat) : Int).toNat = slotAt w b i from rfl, show ((i : Nat) : Int).toNat = i from rfl, show ((ep : Nat) : Int).toNat = ep from rfl]
  refine setNext_at hb x (Nat.le_of_lt hi) ?_
  have hws : (walkOf w a ep es).size = es.size := by rw [← Array.length_toList, (walkOf_perm w a ep es).length_eq, Array.length_toList]
  rw [Array.getElem?_eq_getElem (by rw [hws]; exact hi)]
  dsimp only [Option.map]
  refine wpAny_bind (wpAny_setField ho hd (by simp) ?_)
  have ho1 := Heap.get?_update_self (Obj.mapFields (·.setIfInBounds 0 (rawInt (slotAt w b (i + 1))))) ho (Obj.isFreed_of_fields (Obj.data_mapFields hd _))
  refine wpAny_bind (wpAny_setField (s := { s with heap := s.heap.update I (Obj.mapFields (·.setIfInBounds 0 (rawInt (slotAt w b (i + 1))))) }) ho1 (Obj.data_mapFields hd _) (by simp) ?_)
  refine wpAny_pure ⟨_, rfl, wpAny_pure (hQ _ _ ?_ ⟨_, Heap.get?_update_self _ ho1 (Obj.isFreed_of_fields (Obj.data_mapFields (Obj.data_mapFields hd _) _)), ?_, ?_⟩ ((Heap.SameBut.update ..).trans (Heap.SameBut.update ..)))⟩
  · rw [Array.getElem?_eq_getElem (by rw [hws]; exact hi)]; rfl
  · rw [Obj.cls_mapFields, Obj.cls_mapFields]; exact hc
  · rw [Obj.data_mapFields (Obj.data_mapFields hd _)]; simp [rawInt]
theorem set_end (hb : b < 64) (x : SetSt s.heap a b ep (!Txt w) es) (hh : A.handled = none) (y : SetIt s.heap I a (slotAt w b es.size) es.size es.size ep) {Q : Option Value → Shared → Prop}
    (hQ : ∀ h' : Heap, Heap.ExtBut I s.heap h' → Q none { s with heap := h' }) :
    wpAny (model prog w) A (pyNext (.ref I)) Q E s := by
  have hf := x.fits hb
  have hT := y.typeIs
  obtain ⟨o, ho, hc, hd⟩ := y
  have hsz := x.2.size
  unfold pyNext
  refine wpAny_bind (wpAny_attempt (wpAny_callSpecial?_slot (name := Str.ofString "__next__") hT slot_seti_next
    (wpAny_call_entry slot_seti_next hT entry_seti_next ?_ (args_seti_next _))))
  unfold Builtin.«set_iterator.__next__» slotArgs
  simp only [List.isEmpty_nil, Bool.not_true, Bool.false_eq_true, ↓reduceIte, List.length_nil, bne_self_eq_false]
  refine wpAny_bind (wpAny_pure ?_)
  try dsimp only
  refine wpAny_bind (wpAny_fieldsOf ho hd ?_)
  try dsimp only
  refine wpAny_bind (wpAny_setEntries_of x.1 rfl hf ?_)
  refine wpAny_ite_split (fun hc => absurd hc (by simp)) (fun _ => ?_)
  refine wpAny_bind ?_
  rw [show ((slotAt w b es.size : Nat) : Int).toNat = slotAt w b es.size from rfl, show ((es.size : Nat) : Int).toNat = es.size from rfl, show ((ep : Nat) : Int).toNat = ep from rfl]
  refine setNext_at hb x (Nat.le_refl _) ?_
  have hws : (walkOf w a ep es).size = es.size := by rw [← Array.length_toList, (walkOf_perm w a ep es).length_eq, Array.length_toList]
  rw [Array.getElem?_eq_none (by rw [hws]; exact Nat.le_refl _)]
  dsimp only [Option.map]
  refine wpAny_bind (wpAny_setField ho hd (by simp) ?_)
  refine wpAny_bind ?_
  simp only [newExc, newTuple]
  refine wpAny_bind (wpAny_newObj_type ?_ (by size_fits))
  refine wpAny_bind (m := firstArgMember _ _) (wpAny_of_eq (a := Value.none) (by first | rfl | (simp only [firstArgMember]; rfl)) ?_)
  refine wpAny_newObj_type ?_ (by size_fits)
  simp only [raiseNew]
  refine wpAny_bind (wpAny_handled ?_)
  rw [show A.in1.handled = none from hh]
  refine wpAny_bind (wpAny_pure (wpAny_throw ?_))
  refine wpAny_bind (wpAny_isInstance (T := "StopIteration") (b := true) ⟨_, Heap.get?_push_size _ rfl, rfl⟩ isSubtype_stop ?_)
  exact wpAny_pure (hQ _ (((Heap.SameBut.update ..).extBut.push _).push _))
theorem seti_self {slot i n : Nat} (y : SetIt s.heap I a slot i n ep) {Q : Value → Shared → Prop} (h : Q (.ref I) s) : wpAny (model prog w) A (pyIter (.ref I)) Q E s := by
  refine wpAny_pyIter_slot y.typeIs slot_seti_iter (wpAny_call_entry slot_seti_iter y.typeIs entry_seti_iter ?_ (args_seti_iter _))
  show wpAny _ _ (ret (.ref I)) _ _ s
  exact wpAny_pure ⟨_, rfl, "set_iterator", _, y.typeIs, slot_seti_next.lookup, h⟩
theorem SetIt.keep {h h' : Heap} {slot i n : Nat} (y : SetIt h I a slot i n ep) (hk : ∀ o, h.get? I = some o → h'.get? I = some o) : SetIt h' I a slot i n ep :=
  let ⟨o, ho, r⟩ := y; ⟨o, hk o ho, r⟩
theorem kdl_set (hb : b < 64) : KdlSrc prog w "set" a a es.size (fun i v => ((walkOf w a ep es)[i]?).map (·.2) = some v) (fun h => SetSt h a b ep (!Txt w) es) where
  type := fun _ x => x.typeIs
  there := fun _ x => ⟨Heap.lt_size x.1, Heap.lt_size x.1⟩
  keep := fun _ _ x hk => x.keep fun o e => hk a (.inl rfl) o e
  notList := by decide
  notTuple := by decide
  hint := fun _ _ _ _ x hq => hint_set x.typeIs hq
  iter := fun A s hh x => ⟨{ cls := .type "set_iterator", data := .fields #[.int (0 : Nat) 0, .int (0 : Nat) 0, .ref a, .int es.size 0, .int ep 0] },
    fun i h => SetIt h s.heap.objs.size a (slotAt w b i) i es.size ep ∧ SetSt h a b ep (!Txt w) es, fun _ _ hq => set_iter hb x hq,
    { sub := fun b hb => by simp at hb; simp [hb]
      frame := fun i h h' st hk => ⟨st.1.keep fun o e => hk _ (by simp) o e, st.2.keep fun o e => hk _ (by simp) o e⟩
      item := fun i s' Q E hi st hQ => set_next hb st.2 st.1 hi fun h' v hv hit hs => hQ v h' s'.toks hv ⟨hit, st.2.keep fun o e => (hs.2 _ (Nat.ne_of_lt (Heap.lt_size x.1))).trans e⟩ fun b o hb e => (hs.2 b (by simpa using hb)).trans e
      done := fun s' Q E st hQ => set_end hb st.2 hh st.1 fun h' hs => hQ h' s'.toks fun b o hb e => hs b o (by simpa using hb) e
      self := fun i s' Q E st hQ => seti_self st.1 hQ },
    ⟨⟨_, Heap.get?_push_size _ rfl, rfl, by unfold slotAt; simp [slb]⟩, x.keep fun o e => Heap.get?_push_of_some _ e⟩⟩
end
end Mine
end
section
set_option maxRecDepth 100000
open PySem PySem.W PyProof.Rows
namespace Mine
-- D1
theorem no_keys_name : (["__module__", "__name__", "__qualname__", "__doc__", "__annotations__"] : List Str).contains ("keys" : Str) = false := by decide +kernel
theorem list_no_keys : typeLookup (.type "list") ("keys" : Str) = pure none := by rw [typeLookup_type, builtinLookup_eq_fast]; kernel_rfl
section
variable {prog : Program} {w : World} {A : Around} {E : Value → Shared → Prop} {s : Shared}
theorem keys_miss {a : Addr} {xs : Array Value} {k : Nat} {Q : Option Value → Shared → Prop} (hx : s.heap.get? a = some { cls := .type "list", data := .seq xs k }) (hA : A.handled = none)
    (h : ∀ h' tk, (∀ b o, s.heap.get? b = some o → h'.get? b = some o) → Q none { s with heap := h', toks := tk }) : wpAny (model prog w) A (getAttr? (.ref a) "keys") Q E s := by
  obtain ⟨hp, g, d, tk, os⟩ := s
  have hT : ∀ tk', (⟨hp, g, d, tk', os⟩ : Shared).TypeIs (.ref a) "list" := fun _ => ⟨_, hx, rfl⟩
  have f1 := sub_AttributeError
  have f3 := PySem.F.slot_list_getattribute.lookup
  have f4 := PySem.F.slot_list_getattribute.bind (.ref a)
  have f5 := am_list_getattr_none
  unfold getAttr? getAttrBy? getAttrBy
  repeat (any_goals (first | assumption | exact hT _ | ((with_reducible show wpAny _ _ (PySem.call (Value.builtin "list.__getattribute__") _ _) _ _ _); refine call_meets PySem.F.slot_list_getattribute (hT _) am_entry_list_getattribute (PySem.F.args_list_getattribute_2 _ _) (meets_getattribute_miss_list a xs k #[] _ _ list_no_keys no_keys_name (by rw [sizeLine_eq]; decide +kernel)) ⟨hx, hA, fun h' tk' e hx' => ?_⟩) | wp_step))
  obtain ⟨t', u', he⟩ := hx'.there
  show wpAny _ _ (getattributeRaised _ _ _ _ _ _ _) _ _ _
  unfold getattributeRaised
  repeat (any_goals (first | assumption | wp_step))
  exact h _ _ hx'.of.keeps
theorem dictOf_at {h h' : Heap} {d : Addr} {kvs : List (Int × Value)} (x : h.DictOf (intKind prog w) d kvs) (hk : ∀ o, h.get? d = some o → h'.get? d = some o) : h'.DictOf (intKind prog w) d kvs :=
  let ⟨o, es, ep, ho, r⟩ := x; ⟨o, es, ep, hk o ho, r⟩
noncomputable def PairAt (h : Heap) (x : Value) (k : Int) (v : Value) : Prop := ∃ t a, x = .ref t ∧ IsTup h t #[.int k a, v]
theorem PairAt.keep {h h' : Heap} {x v : Value} {k : Int} (p : PairAt h x k v) (hk : ∀ t o, x = .ref t → h.get? t = some o → h'.get? t = some o) : PairAt h' x k v :=
  let ⟨t, a, e, o, ho, hc, n, hd⟩ := p; ⟨t, a, e, o, hk t o e ho, hc, n, hd⟩
theorem entry_dul : entryFor table "dict.update.loop" = some Builtin.«dict.update.loop» := entryFor_of_tree (by kernel_rfl)
theorem plain_dul : plainId "dict.update.loop" = true := by decide +kernel
theorem dict_loop {I l d : Addr} {items : Array Value} (hh : A.handled = none) (hIl : I ≠ l) (hId : I ≠ d) (hld : l ≠ d) {R : Result → Shared → Prop} :
    ∀ (k i : Nat) (s : Shared) (kvs : List (Int × Value)) (ps : List (Int × Value)), items.size - i = k → i ≤ items.size → kvs.length + k ≤ 2000 → s.heap.IsListIter I l i → s.heap.IsList l items → s.heap.DictOf (intKind prog w) d kvs →
      ps.length = k → (∀ (j : Nat) (p : Int × Value), ps[j]? = some p → ∃ x t, items[i + j]? = some x ∧ x = .ref t ∧ t ≠ d ∧ t ≠ I ∧ PairAt s.heap x p.1 p.2) →
      (∀ h' tk, h'.DictOf (intKind prog w) d (ps.foldl (fun es p => stored es p.1 p.2) kvs) → (∀ b o, b ≠ d → b ≠ I → s.heap.get? b = some o → h'.get? b = some o) → R (.ok (.ret .none)) { s with heap := h', toks := tk }) →
      codeAny (model prog w) A (.builtin "dict.update.loop" ⟨[.ref d, .ref I, rawInt i, .none], []⟩) R s := by
  intro k
  induction k with
  | zero =>
    intro i s kvs ps hk hi hn hit hl hd hps hall hR
    refine codeAny_builtin entry_dul ?_
    rw [Around.under_plainId plain_dul _]
    show wpAny _ A.in1 (pyNext (.ref I) >>= _) _ _ s
    refine wpAny_bind (wpAny_pyNext_list_end hh hit hl (Array.getElem?_eq_none (by omega)) fun h' hs => ?_)
    show wpAny _ A.in1 (ret Value.none) _ _ _
    have hp : ps = [] := List.eq_nil_of_length_eq_zero hps
    subst hp
    exact wpAny_pure (hR h' s.toks (dictOf_at hd fun o e => hs d o (Ne.symm hId) e) fun b o hb hb' e => hs b o hb' e)
  | succ k ih =>
    intro i s kvs ps hk hi hn hit hl hd hps hall hR
    refine codeAny_builtin entry_dul ?_
    rw [Around.under_plainId plain_dul _]
    show wpAny _ A.in1 (pyNext (.ref I) >>= _) _ _ s
    cases ps with
    | nil => simp at hps
    | cons p ps =>
      obtain ⟨x, t, hx, rfl, htd, htI, hp⟩ := hall 0 p rfl
      refine wpAny_bind (wpAny_pyNext_list_item hit hl hx fun h' hit' hs => ?_)
      have hp' : PairAt h' (.ref t) p.1 p.2 := hp.keep fun t' o e ho => by cases e; exact (hs.2 _ htI).trans ho
      obtain ⟨t', a, e, ht⟩ := hp'
      cases e
      dsimp only
      refine wpAny_bind (wpAny_holding ?_)
      refine wpAny_bind (wpAny_tryCatch ?_)
      unfold Builtin.Dict.pairItems
      refine wpAny_bind (wpAny_typeOf (s := { s with heap := h' }) (IsTup.typeIs (s := { s with heap := h' }) ht) ?_)
      rw [if_pos (by decide)]
      obtain ⟨o, ho, hc, n, hdt⟩ := id ht
      refine wpAny_bind (wpAny_seqItems (s := { s with heap := h' }) ho hdt (wpAny_pure ?_))
      dsimp only [Option.getD]
      refine wpAny_holding ?_
      unfold dictSet
      try with_reducible refine wpAny_holding ?_
      refine wpAny_bind ((intKind prog w).pyHash (k := p.1) (intKind_is _ _ _ _) ?_)
      have hd' : h'.DictOf (intKind prog w) d kvs := dictOf_at hd fun o e => (hs.2 _ (Ne.symm hId)).trans e
      refine wpAny_dictSetHashed_pairs (s := { s with heap := h', toks := s.toks + 1 }) (k := p.1) (intKind_is _ _ _ _) hd' (fun h'' hd'' hs'' => ?_) (by rw [sizeLine_eq]; omega)
      have all : ∀ b o, b ≠ d → b ≠ I → s.heap.get? b = some o → h''.get? b = some o := fun b o hb hb' e => (hs''.2 b hb).trans ((hs.2 b hb').trans e)
      refine wpAny_pure ⟨plainId_quiet plain_dul _, ?_⟩
      have hlen : (stored kvs p.1 p.2).length ≤ kvs.length + 1 := by unfold stored; split <;> simp
      show codeAny _ A (.builtin "dict.update.loop" ⟨[.ref d, .ref I, rawInt ((i : Int) + 1), .none], []⟩) R _
      rw [show ((i : Int) + 1) = ((i + 1 : Nat) : Int) by omega]
      refine ih (i + 1) { s with heap := h'', toks := s.toks + 1 } (stored kvs p.1 p.2) ps (by omega) (by omega) (by omega) (hit'.at fun o e => (hs''.2 _ hId).trans e) (hl.at fun o e => all _ o hld (Ne.symm hIl) e) hd'' (by simpa using hps) (fun j q hq => ?_) fun h₃ tk hd₃ hk₃ => ?_
      · obtain ⟨x, t₂, hx, rfl, h1, h2, h3⟩ := hall (j + 1) q (by simpa using hq)
        exact ⟨_, t₂, by rw [show i + 1 + j = i + (j + 1) by omega]; exact hx, rfl, h1, h2, h3.keep fun t₃ o e ho => by cases e; exact all _ o h1 h2 ho⟩
      · exact hR h₃ tk hd₃ fun b o hb hb' e => hk₃ b o hb hb' (all b o hb hb' e)
theorem call_dict_pairs {l : Addr} {items : Array Value} {n0 : Nat} {ps : List (Int × Value)} {Q : Value → Shared → Prop} (hh : A.handled = none) (hl : s.heap.get? l = some { cls := .type "list", data := .seq items n0 })
    (hn : items.size ≤ 2000) (hps : ps.length = items.size) (hall : ∀ (j : Nat) (p : Int × Value), ps[j]? = some p → ∃ x, items[j]? = some x ∧ PairAt s.heap x p.1 p.2)
    (h : ∀ h' tk, h'.DictOf (intKind prog w) s.heap.objs.size (ps.foldl (fun es p => stored es p.1 p.2) []) → (∀ b o, s.heap.get? b = some o → h'.get? b = some o) → Q (.ref s.heap.objs.size) { s with heap := h', toks := tk }) :
    wpAny (model prog w) A (PySem.call (.type "dict") [.ref l]) Q E s := by
  refine callType_codes (Q₁ := fun obj s₁ => obj = .ref s.heap.objs.size ∧ s₁ = { s with heap := s.heap.push { cls := .type "dict", data := .dict #[] } }) PySem.F.kt_called_dict (PySem.F.kt_typeCall_dict_1 _) PySem.F.entry_dict_init (PySem.kt_code_dict_new _ ⟨rfl, rfl⟩) ?_
  rintro obj s₁ ⟨rfl, rfl⟩
  have hnew : (s.heap.push { cls := .type "dict", data := .dict #[] }).DictOf (intKind prog w) s.heap.objs.size [] := Heap.DictOf.new s.heap
  have hl' : (s.heap.push { cls := .type "dict", data := .dict #[] }).get? l = some { cls := .type "list", data := .seq items n0 } := Heap.get?_push_of_some _ hl
  have hlt := Heap.lt_size hl
  refine ⟨hnew.typeIs, PySem.F.args_dict_init_2 _ _, ?_⟩
  unfold Builtin.«dict.__init__»
  refine wpAny_bind ?_
  unfold Builtin.Dict.selfAndRest
  refine wpAny_bind (wpAny_notOrdered_dict hnew.typeIs ?_)
  show wpAny _ _ (pure (s.heap.objs.size, [Value.ref l])) _ _ _
  refine wpAny_pure ?_
  show wpAny _ _ (Builtin.Dict.updateFrom "dict.__init__" s.heap.objs.size (.ref l) [] .none) _ _ _
  unfold Builtin.Dict.updateFrom
  refine wpAny_bind (wpAny_typeOf (T := "list") ⟨_, hl', rfl⟩ ?_)
  rw [if_pos (by decide)]
  refine wpAny_bind (keys_miss hl' hh fun h₁ tk hk₁ => ?_)
  rw [if_pos (by rfl)]
  refine wpAny_bind (wpAny_rule ?_)
  have hl₁ : h₁.IsList l items := ⟨_, hk₁ _ _ hl', rfl, n0, rfl⟩
  have hd₁ := dictOf_at (h' := h₁) hnew fun o e => hk₁ _ o e
  obtain ⟨od, _, _, hod, _⟩ := hd₁
  have hdlt : s.heap.objs.size < h₁.objs.size := Heap.lt_size hod
  have hllt : l < h₁.objs.size := Heap.lt_size (hk₁ _ _ hl')
  refine wpAny_bind (wpAny_pyIter_list (s := { s with heap := h₁, toks := tk }) hl₁ ?_)
  refine wpAny_pure ⟨plainId_quiet plain_dul _, ?_⟩
  refine dict_loop (A := A.in1) (I := h₁.objs.size) (l := l) (items := items) hh (Nat.ne_of_gt hllt) (Nat.ne_of_gt hdlt) (Nat.ne_of_lt hlt) items.size 0 _ [] ps (by omega) (Nat.zero_le _) (by simpa using hn) ⟨_, Heap.get?_push_size _ rfl, rfl, rfl⟩
    (hl₁.push _) (dictOf_at (dictOf_at hnew fun o e => hk₁ _ o e) fun o e => Heap.get?_push_of_some _ e) hps (fun j p hp => ?_) fun h₂ tk₂ hd₂ hk₂ => ⟨rfl, h h₂ tk₂ hd₂ fun b o e => ?_⟩
  · obtain ⟨x, hx, t, a, rfl, ht⟩ := hall j p hp
    have htlt : t < s.heap.objs.size := let ⟨_, ho, _⟩ := ht; Heap.lt_size ho
    refine ⟨_, t, by rw [Nat.zero_add]; exact hx, rfl, Nat.ne_of_lt htlt, Nat.ne_of_lt (Nat.lt_trans htlt hdlt), PairAt.keep ⟨t, a, rfl, ht⟩ fun t' o e ho => by cases e; exact Heap.get?_push_of_some _ (hk₁ _ _ (Heap.get?_push_of_some _ ho))⟩
  · have hb := Heap.lt_size e
    exact hk₂ b o (Nat.ne_of_lt hb) (Nat.ne_of_lt (Nat.lt_trans hb hdlt)) (Heap.get?_push_of_some _ (hk₁ _ _ (Heap.get?_push_of_some _ e)))
end
end Mine
end
section
open PySem
namespace Mine
-- R1
structure Cx where
  names : List (Str × NameKind)
  slots : List (Str × Nat)
  next : Nat
  glob : List (Str × V)
noncomputable def plainName (x : Str) : Bool := !(x == ("__debug__" : Str) || x == ("__classdict__" : Str))
noncomputable def Cx.loc (cx : Cx) (x : Str) : Option Nat := bif plainName x && (cx.names.lookup x == some .local || cx.names.lookup x == some .cell) then cx.slots.lookup x else none
noncomputable def Cx.gl (cx : Cx) (x : Str) : Option V := bif plainName x && cx.names.lookup x == some .globalImplicit then cx.glob.lookup x else none
noncomputable def okS (n : Str) : Option String := bif Str.ofString n.toString == n then some n.toString else none
noncomputable def litV : Const → Option V
  | .none => some .none
  | .bool b => some (.bool b)
  | .int i => some (.int i)
  | .str s => some (.str s)
  | _ => none
noncomputable def foldB (op : BoolOp) : List E → Option E
  | [] => none
  | [a] => some a
  | a :: r => (foldB op r).map fun b => BoolOp.rec (.and a b) (.or a b) op
noncomputable def litE : Expr → Option V
  | .Constant c _ _ => litV c
  | _ => none
noncomputable def litI (e : Expr) : Option Int := (litE e).bind fun v => match v with
  | .int i => some i
  | _ => none
noncomputable def litG (cx : Cx) : Expr → Option V
  | .Name x _ => cx.gl x
  | e => litE e
noncomputable def dictL (cx : Cx) : List (Option Expr) → List Expr → Option (List (Int × V))
  | [], [] => some []
  | some k :: ks, v :: vs => (litI k).bind fun i => (litG cx v).bind fun w => (dictL cx ks vs).map fun r => (i, w) :: r
  | _, _ => none
noncomputable def innerNames (cx : Cx) (sc : Scope) : List (Str × NameKind) := sc.names.map fun x => if x.2 == .free && cx.names.lookup x.1 == some .cell then (x.1, .cell) else x
noncomputable def innerOwn (sc : Scope) : List Str := (sc.names.filter fun x => x.2 == .local && x.1 != (".0" : Str)).map (·.1)
noncomputable def innerCx (cx : Cx) (sc : Scope) : Cx where
  names := innerNames cx sc
  slots := (innerOwn sc).zipIdx cx.next ++ (sc.names.filter fun x => x.2 == .free).filterMap fun x => (cx.slots.lookup x.1).map fun i => (x.1, i)
  next := cx.next + (innerOwn sc).length
  glob := cx.glob
noncomputable def innerOk (cx : Cx) (sc : Scope) : Bool :=
  sc.kind == .function && decide ((sc.names.map (·.1)).Nodup) && sc.names.all fun x => x.2 == .local || (x.2 == .free && (cx.names.lookup x.1 == some .cell && (cx.slots.lookup x.1).isSome)) || x.2 == .globalImplicit
noncomputable def innerLoc (cx : Cx) (sc : Scope) (x : Str) : Option Nat := bif innerOk cx sc && (innerNames cx sc).lookup x == some .local then (innerCx cx sc).slots.lookup x else none
inductive All2 {α β : Type} (P : α → β → Prop) : List α → List β → Prop
  | nil : All2 P [] []
  | cons {a b l r} : P a b → All2 P l r → All2 P (a :: l) (b :: r)
inductive All2o (P : Expr → E → Prop) : Option Expr → E → Prop
  | none : All2o P none (.lit .none)
  | some {e e'} : P e e' → All2o P (some e) e'
noncomputable def noCall0 : Expr → Bool
  | .Call _ [] _ _ => false
  | _ => true
noncomputable def isSl : Expr → Bool
  | .Slice .. => true
  | _ => false
inductive TrF (P : Cx → Expr → E → Prop) (cx : Cx) : Expr → E → Prop
  | cst {c k p v} (h : litV c = some v) : TrF P cx (.Constant c k p) (.lit v)
  | loc {x p i} (h : cx.loc x = some i) : TrF P cx (.Name x p) (.loc i)
  | glob {x p v} (h : cx.gl x = some v) : TrF P cx (.Name x p) (.lit v)
  | bool {op v w vs p es e'} (h : All2 (P cx) (v :: w :: vs) es) (k : foldB op es = some e') : TrF P cx (.BoolOp op (v :: w :: vs) p) e'
  | bin {l op r p a b} (h : P cx l a) (k : P cx r b) : TrF P cx (.BinOp l op r p) (.bin op a b)
  | not {x p a} (h : P cx x a) : TrF P cx (.UnaryOp .Not x p) (.not a)
  | neg {x p a} (h : P cx x a) : TrF P cx (.UnaryOp .USub x p) (.neg a)
  | ite {c x y p c' a b} (h : P cx c c') (k : P cx x a) (l : P cx y b) : TrF P cx (.IfExp c x y p) (.ite c' a b)
  | dict {ks vs p kvs} (h : dictL cx ks vs = some kvs) (l : Nat.blt ks.length 15 = true) (d : decide ((kvs.map (·.1)).Nodup) = true) : TrF P cx (.Dict ks vs p) (.dict kvs)
  | comp1 {elt x px it ifs sc p elt' i it' ifs'} (o : innerLoc cx sc x = some i) (h : P cx it it') (k : All2 (P (innerCx cx sc)) ifs ifs') (l : P (innerCx cx sc) elt elt') : TrF P cx (.ListComp elt [⟨.Name x px, it, ifs, 0⟩] sc p) (.comp1 elt' i it' ifs')
  | comp2 {elt x px it y py ity ifs sc p elt' i it' j ity' ifs'} (o : innerLoc cx sc x = some i) (o' : innerLoc cx sc y = some j) (n : (x != y) = true) (h : P cx it it') (h' : P (innerCx cx sc) ity ity') (k : All2 (P (innerCx cx sc)) ifs ifs') (l : P (innerCx cx sc) elt elt') :
      TrF P cx (.ListComp elt [⟨.Name x px, it, [], 0⟩, ⟨.Name y py, ity, ifs, 0⟩] sc p) (.comp2 elt' i it' j ity' ifs')
  | cmp {l op r p a b} (h : P cx l a) (k : P cx r b) : TrF P cx (.Compare l [op] [r] p) (.cmp op a b)
  | chain {l op op' r s p a b c} (h : P cx l a) (k : P cx r b) (m : P cx s c) : TrF P cx (.Compare l [op, op'] [r, s] p) (.chain op op' a b c)
  | meth {o nm ap args p o' s as} (n : noCall0 o = true) (l : Nat.blt args.length 20 = true) (e : (ap.endLine == p.line) = true) (t : okS nm = some s) (h : P cx o o') (k : All2 (P cx) args as) : TrF P cx (.Call (.Attribute o nm ap) args [] p) (.meth o' s as)
  | fcall {x px args p a as} (g : cx.gl x = some (.ref a)) (c : pg.cls.lookup a = none) (l : Nat.blt args.length 20 = true) (k : All2 (P cx) args as) : TrF P cx (.Call (.Name x px) args [] p) (.fcall a as)
  | ccall {x px args p a as cl} (g : cx.gl x = some (.ref a)) (c : pg.cls.lookup a = some cl) (l : Nat.blt args.length 20 = true) (k : All2 (P cx) args as) : TrF P cx (.Call (.Name x px) args [] p) (.ccall a cl.init as)
  | tcall {x px args p n as} (g : cx.gl x = some (.type n)) (l : Nat.blt args.length 20 = true) (k : All2 (P cx) args as) : TrF P cx (.Call (.Name x px) args [] p) (.tcall n as)
  | bcall {x px args p n as} (g : cx.gl x = some (.builtin n)) (l : Nat.blt args.length 20 = true) (k : All2 (P cx) args as) : TrF P cx (.Call (.Name x px) args [] p) (.bcall n as)
  | vcall {x px args p i as} (g : cx.loc x = some i) (l : Nat.blt args.length 20 = true) (k : All2 (P cx) args as) : TrF P cx (.Call (.Name x px) args [] p) (.vcall (.loc i) as)
  | attr {o nm p o' s} (n : noCall0 o = true) (t : okS nm = some s) (h : P cx o o') : TrF P cx (.Attribute o nm p) (.attr o' s)
  | slice {v lo hi q p v' l h} (g : P cx v v') (a : All2o (P cx) lo l) (b : All2o (P cx) hi h) : TrF P cx (.Subscript v (.Slice lo hi none q) p) (.slice v' l h)
  | sub {v i p v' i'} (n : isSl i = false) (h : P cx v v') (k : P cx i i') : TrF P cx (.Subscript v i p) (.sub v' i')
  | list {es p as} (l : Nat.blt es.length 100 = true) (k : All2 (P cx) es as) : TrF P cx (.List es p) (.list as)
  | tup {es c p as} (l : Nat.blt es.length 100 = true) (k : All2 (P cx) es as) : TrF P cx (.Tuple es c p) (.tup as)
noncomputable def TrN : Nat → Cx → Expr → E → Prop
  | 0 => fun _ _ _ => False
  | n + 1 => TrF (TrN n)
/-! the translation, with its proof -/
abbrev Sub (P : E → Prop) := Option (PSigma P)
noncomputable def gd {α : Type} (b : Bool) (f : b = true → Option α) : Option α := match b with
  | true => f rfl
  | false => none
noncomputable def of {α β : Type} (o : Option α) (f : ∀ a, o = some a → Option β) : Option β := match o with
  | some a => f a rfl
  | none => none
section
variable {P : Cx → Expr → E → Prop} (f : ∀ cx e, Option (PSigma (P cx e)))
noncomputable def trL (cx : Cx) : ∀ es, Option (PSigma (All2 (P cx) es))
  | [] => some ⟨[], .nil⟩
  | e :: r => (f cx e).bind fun a => (trL cx r).map fun as => ⟨a.1 :: as.1, .cons a.2 as.2⟩
noncomputable def trO (cx : Cx) : ∀ o, Option (PSigma (All2o (P cx) o))
  | none => some ⟨_, .none⟩
  | some e => (f cx e).map fun a => ⟨a.1, .some a.2⟩
noncomputable def trCmp (cx : Cx) (l : Expr) (p : Pos) : ∀ ops rs, Option (PSigma (TrF P cx (.Compare l ops rs p)))
  | [op], [r] => (f cx l).bind fun a => (f cx r).map fun b => ⟨_, .cmp (op := op) a.2 b.2⟩
  | [op, op'], [r, s] => (f cx l).bind fun a => (f cx r).bind fun b => (f cx s).map fun c => ⟨_, .chain (op := op) (op' := op') a.2 b.2 c.2⟩
  | _, _ => none
noncomputable def trBool (cx : Cx) (op : BoolOp) (p : Pos) : ∀ es, Option (PSigma (TrF P cx (.BoolOp op es p)))
  | v :: w :: vs => (trL f cx (v :: w :: vs)).bind fun as => of (foldB op as.1) fun e' h => some ⟨e', .bool as.2 h⟩
  | _ => none
noncomputable def trComp (cx : Cx) (elt : Expr) (sc : Scope) (p : Pos) : ∀ gs, Option (PSigma (TrF P cx (.ListComp elt gs sc p)))
  | [⟨.Name x _, it, ifs, 0⟩] => of (innerLoc cx sc x) fun i o => (f cx it).bind fun it' => (trL f (innerCx cx sc) ifs).bind fun ifs' => (f (innerCx cx sc) elt).map fun elt' => ⟨_, .comp1 o it'.2 ifs'.2 elt'.2⟩
  | [⟨.Name x _, it, [], 0⟩, ⟨.Name y _, ity, ifs, 0⟩] => of (innerLoc cx sc x) fun i o => of (innerLoc cx sc y) fun j o' => gd (x != y) fun n => (f cx it).bind fun it' => (f (innerCx cx sc) ity).bind fun ity' => (trL f (innerCx cx sc) ifs).bind fun ifs' => (f (innerCx cx sc) elt).map fun elt' => ⟨_, .comp2 o o' n it'.2 ity'.2 ifs'.2 elt'.2⟩
  | _ => none
noncomputable def trCall (cx : Cx) (args : List Expr) (p : Pos) : ∀ g, Option (PSigma (TrF P cx (.Call g args [] p)))
  | .Attribute o nm ap => gd _ fun n => gd _ fun l => gd _ fun e => of (okS nm) fun s t => (f cx o).bind fun o' => (trL f cx args).map fun as => ⟨_, .meth n l e t o'.2 as.2⟩
  | .Name x _ => gd (Nat.blt args.length 20) fun l => (trL f cx args).bind fun as => match hl : cx.loc x, hg : cx.gl x with
    | some _, _ => some ⟨_, .vcall hl l as.2⟩
    | none, some (.ref a) => match hc : pg.cls.lookup a with
      | some _ => some ⟨_, .ccall hg hc l as.2⟩
      | none => some ⟨_, .fcall hg hc l as.2⟩
    | none, some (.type _) => some ⟨_, .tcall hg l as.2⟩
    | none, some (.builtin _) => some ⟨_, .bcall hg l as.2⟩
    | _, _ => none
  | _ => none
noncomputable def trSub (cx : Cx) (v : Expr) (p : Pos) : ∀ i, Option (PSigma (TrF P cx (.Subscript v i p)))
  | .Slice lo hi none _ => (f cx v).bind fun v' => (trO f cx lo).bind fun l => (trO f cx hi).map fun h => ⟨_, .slice v'.2 l.2 h.2⟩
  | i => gd (isSl i == false) fun n => (f cx v).bind fun v' => (f cx i).map fun i' => ⟨_, .sub (eq_of_beq n) v'.2 i'.2⟩
noncomputable def trF (cx : Cx) : ∀ e, Option (PSigma (TrF P cx e))
  | .Constant c _ _ => of (litV c) fun v h => some ⟨.lit v, .cst h⟩
  | .Name x _ => match hl : cx.loc x with
    | some i => some ⟨.loc i, .loc hl⟩
    | none => of (cx.gl x) fun v h => some ⟨.lit v, .glob h⟩
  | .BoolOp op es p => trBool f cx op p es
  | .BinOp l op r _ => (f cx l).bind fun a => (f cx r).map fun b => ⟨.bin op a.1 b.1, .bin a.2 b.2⟩
  | .UnaryOp .Not x _ => (f cx x).map fun a => ⟨_, .not a.2⟩
  | .UnaryOp .USub x _ => (f cx x).map fun a => ⟨_, .neg a.2⟩
  | .IfExp c x y _ => (f cx c).bind fun c => (f cx x).bind fun a => (f cx y).map fun b => ⟨_, .ite c.2 a.2 b.2⟩
  | .Dict ks vs _ => gd (Nat.blt ks.length 15) fun l => of (dictL cx ks vs) fun r h => gd _ fun d => some ⟨_, .dict h l d⟩
  | .ListComp elt gs sc p => trComp f cx elt sc p gs
  | .Compare l ops rs p => trCmp f cx l p ops rs
  | .Call g args [] p => trCall f cx args p g
  | .Attribute o nm _ => gd _ fun n => of (okS nm) fun s t => (f cx o).map fun o' => ⟨_, .attr n t o'.2⟩
  | .Subscript v i p => trSub f cx v p i
  | .List es _ => gd _ fun l => (trL f cx es).map fun as => ⟨_, .list l as.2⟩
  | .Tuple es _ _ => gd _ fun l => (trL f cx es).map fun as => ⟨_, .tup l as.2⟩
  | _ => none
end
noncomputable def trN : ∀ n cx e, Option (PSigma (TrN n cx e))
  | 0, _, _ => none
  | n + 1, cx, e => trF (P := TrN n) (trN n) cx e
end Mine
end
section
open PySem
namespace Mine
-- R2
inductive TrT1 (P : Cx → Expr → E → Prop) (cx : Cx) : Expr → T1 → Prop
  | loc {x p i} (h : cx.loc x = some i) : TrT1 P cx (.Name x p) (.loc i)
  | attr {o nm p o' s} (t : okS nm = some s) (h : P cx o o') : TrT1 P cx (.Attribute o nm p) (.attr o' s)
  | sub {v i p v' i'} (n : isSl i = false) (h : P cx v v') (k : P cx i i') : TrT1 P cx (.Subscript v i p) (.sub v' i')
inductive TrT (P : Cx → Expr → E → Prop) (cx : Cx) : Expr → T → Prop
  | many {ts c p ts'} (h : All2 (TrT1 P cx) ts ts') : TrT P cx (.Tuple ts c p) (.many ts')
  | one {e t} (h : TrT1 P cx e t) : TrT P cx e (.one t)
noncomputable def okRhs : Expr → Bool
  | .Tuple vs _ _ => !vs.all (constantsAlone 8)
  | _ => true
noncomputable def isCall : Expr → Bool
  | .Call .. => true
  | _ => false
inductive TrSF (P : Cx → Expr → E → Prop) (cx : Cx) (T : Stmt → S → Prop) : Stmt → S → Prop
  | expr {e p e'} (c : isCall e = true) (h : P cx e e') : TrSF P cx T (.Expr e p) (.expr e')
  | ret {e p e'} (h : P cx e e') : TrSF P cx T (.Return (some e) p) (.ret e')
  | ret0 {p} : TrSF P cx T (.Return none p) (.ret (.lit .none))
  | assign {t v p t' v'} (o : okRhs v = true) (h : TrT P cx t t') (k : P cx v v') : TrSF P cx T (.Assign [t] v p) (.assign t' v')
  | ite {c a b p c' a' b'} (h : P cx c c') (k : All2 T a a') (l : All2 T b b') : TrSF P cx T (.If c a b p) (.ite c' a' b')
  | while {c b p c' b'} (h : P cx c c') (k : All2 T b b') : TrSF P cx T (.While c b [] p) (.while c' b')
  | for {t it b p t' it' b'} (h : TrT P cx t t') (k : P cx it it') (l : All2 T b b') : TrSF P cx T (.For t it b [] p) (.for t' it' b')
noncomputable def TrSN (P : Cx → Expr → E → Prop) (cx : Cx) : Nat → Stmt → S → Prop
  | 0 => fun _ _ => False
  | n + 1 => TrSF P cx (TrSN P cx n)
noncomputable def TrB (cx : Cx) (ss : List Stmt) (ss' : List S) : Prop := All2 (TrSN (TrN 60) cx 60) ss ss'
noncomputable def trA {α β : Type} {P : α → β → Prop} (f : ∀ a, Option (PSigma (P a))) : ∀ es, Option (PSigma (All2 P es))
  | [] => some ⟨[], .nil⟩
  | e :: r => (f e).bind fun a => (trA f r).map fun as => ⟨a.1 :: as.1, .cons a.2 as.2⟩
section
variable {P : Cx → Expr → E → Prop} (f : ∀ cx e, Option (PSigma (P cx e)))
noncomputable def trT1 (cx : Cx) : ∀ e, Option (PSigma (TrT1 P cx e))
  | .Name x _ => of (cx.loc x) fun i h => some ⟨.loc i, .loc h⟩
  | .Attribute o nm _ => of (okS nm) fun s t => (f cx o).map fun o' => ⟨.attr o'.1 s, .attr t o'.2⟩
  | .Subscript v i _ => gd (isSl i == false) fun n => (f cx v).bind fun v' => (f cx i).map fun i' => ⟨.sub v'.1 i'.1, .sub (eq_of_beq n) v'.2 i'.2⟩
  | _ => none
noncomputable def trT (cx : Cx) : ∀ e, Option (PSigma (TrT P cx e))
  | .Tuple ts _ _ => (trA (trT1 f cx) ts).map fun a => ⟨.many a.1, .many a.2⟩
  | e => (trT1 f cx e).map fun a => ⟨.one a.1, .one a.2⟩
noncomputable def trSF (cx : Cx) {T : Stmt → S → Prop} (g : ∀ s, Option (PSigma (T s))) : ∀ s, Option (PSigma (TrSF P cx T s))
  | .Expr e _ => gd (isCall e) fun c => (f cx e).map fun a => ⟨.expr a.1, .expr c a.2⟩
  | .Return (some e) _ => (f cx e).map fun a => ⟨.ret a.1, .ret a.2⟩
  | .Return none _ => some ⟨_, .ret0⟩
  | .Assign [t] v _ => gd (okRhs v) fun o => (trT f cx t).bind fun t' => (f cx v).map fun v' => ⟨.assign t'.1 v'.1, .assign o t'.2 v'.2⟩
  | .If c a b _ => (f cx c).bind fun c' => (trA g a).bind fun a' => (trA g b).map fun b' => ⟨.ite c'.1 a'.1 b'.1, .ite c'.2 a'.2 b'.2⟩
  | .While c b [] _ => (f cx c).bind fun c' => (trA g b).map fun b' => ⟨.while c'.1 b'.1, .while c'.2 b'.2⟩
  | .For t it b [] _ => (trT f cx t).bind fun t' => (f cx it).bind fun it' => (trA g b).map fun b' => ⟨.for t'.1 it'.1 b'.1, .for t'.2 it'.2 b'.2⟩
  | _ => none
noncomputable def trSN (cx : Cx) : ∀ n s, Option (PSigma (TrSN P cx n s))
  | 0, _ => none
  | n + 1, s => trSF f cx (T := TrSN P cx n) (trSN cx n) s
end
noncomputable def trB (cx : Cx) (ss : List Stmt) : Option (PSigma (TrB cx ss)) := trA (trSN (trN 60) cx 60) ss
noncomputable def trBody (cx : Cx) (ss : List Stmt) : Option (List S) := (trB cx ss).map PSigma.fst
theorem trBody_ok {cx : Cx} {ss : List Stmt} {ss' : List S} (h : trBody cx ss = some ss') : TrB cx ss ss' :=
  let ⟨x, _, e⟩ := Option.map_eq_some_iff.mp h; e ▸ x.2
noncomputable def fnCx (glob : List (Str × V)) (sc : Scope) : Cx where
  names := sc.names
  slots := ((sc.names.filter fun x => x.2 == .local || x.2 == .cell).map (·.1)).zipIdx
  next := (sc.names.filter fun x => x.2 == .local || x.2 == .cell).length
  glob := glob
noncomputable def fnOk (sc : Scope) (params : Arguments) : Bool :=
  sc.kind == .function && !sc.isGenerator && !sc.isCoroutine && decide ((sc.names.map (·.1)).Nodup) &&
  (sc.names.all fun x => x.2 == .local || x.2 == .cell || x.2 == .globalImplicit) &&
  params.posonlyargs.isEmpty && params.vararg.isNone && params.kwonlyargs.isEmpty && params.kwarg.isNone &&
  ((sc.names.filter fun x => x.2 == .local || x.2 == .cell).map (·.1)).take params.args.length == params.args.map (·.arg)
end Mine
end
section
open PySem PySem.W PyProof.Rows
namespace Mine
-- R3
noncomputable def erL (vs : Array Value) : List V := vs.toList.map er
noncomputable def keyOf? (v : Value) : Option Str := match v with
  | .str x _ => some x
  | _ => none
noncomputable def NsR (fs : List (String × V)) (es : List DictEntry) : Prop := es.map (fun e => (keyOf? e.key, er e.val)) = fs.map fun p => (some (Str.ofString p.1), p.2)
structure Zt where
  prog : Program
  w : World
  Kf : Frag
  glob : List (Str × V)
  base : Heap
  os : OsState
noncomputable abbrev Zt.M (Z : Zt) : Model := model Z.prog Z.w
noncomputable abbrev Zt.ik (Z : Zt) : KeyKind Z.prog Z.w Int := intKind Z.prog Z.w
noncomputable abbrev Zt.tk (Z : Zt) : HeapKind Z.prog Z.w (List Int) := tupleKind (intKind Z.prog Z.w)
noncomputable def CO (Z : Zt) (c : C) (o : Obj) : Prop := match c with
  | .list xs => ∃ vs n, o = { cls := .type "list", data := .seq vs n } ∧ erL vs = xs
  | .tup xs => ∃ vs n, o = { cls := .type "tuple", data := .seq vs n } ∧ erL vs = xs
  | .dict n es => o.ExactDict ∧ ∃ arr, o.data = .dict arr n ∧ ∃ kvs : List (Int × Value), KeysOf Z.ik arr ∧ Pairs Z.ik arr.toList kvs ∧ (kvs.map (·.1)).Nodup ∧ kvs.map (fun p => (p.1, er p.2)) = es
  | .tdict n es => o.ExactDict ∧ ∃ arr, o.data = .dict arr n ∧ ∃ xs : List (List Int × Addr × Value), arr.toList = xs.map (entryOfKey Z.tk) ∧ (xs.map (·.1)).Nodup ∧
      xs.map (fun x => (x.1, x.2.1, er x.2.2)) = es.map fun e => ([e.1.1, e.1.2], e.2.1, e.2.2)
  | .inst c d => o = instObj c d
  | .ns _ fs => ∃ es n, o = dictOf es n ∧ NsR fs es ∧ ∀ p ∈ fs, notB p.2 = true
  | .range lo hi => (-(2 ^ 62) < lo ∧ lo < 2 ^ 62 ∧ -(2 ^ 62) < hi ∧ hi < 2 ^ 62) ∧ ∃ t u v, o = { cls := .type "range", dict := none, data := .fields #[.int lo t, .int hi u, .int 1 v], slots := #[] }
  | .vals d => o.cls = .type "dict_values" ∧ o.data = .fields #[.ref d]
  | .scr xs => ∃ vs, (o.cls = .type "list" ∧ ∃ n, o.data = .seq vs n) ∧ erL vs = xs
  | .set xs => ∃ b ep es, b < 64 ∧ o = { cls := .type "set", dict := none, data := .set es ep (Tb b (!Txt Z.w)) } ∧ EsOf b es.toList ∧ xs = (Lb b).map Int.ofNat
noncomputable def C.ro : C → Bool
  | .tup _ => true
  | .scr _ => true
  | _ => false
structure ClsAt (Z : Zt) (c : Addr) (k : Cls) : Prop where
  makes : makesIn Z.Kf c = true
  init : findIn Z.Kf (.ref c) "__init__" = some (some (.ref k.init))
  initF : typeIn Z.Kf (.ref k.init) = some (.type "function")
  get : plainGet Z.Kf c "" = true
  dict : hasDictIn Z.Kf c = true
  set : findIn Z.Kf (.ref c) "__setattr__" = some (some (.builtin "object.__setattr__"))
  over : plainOver Z.Kf c = true
  meth : ∀ n f, k.meths.lookup n = some f → findIn Z.Kf (.ref c) (Str.ofString n) = some (some (.ref f)) ∧ typeIn Z.Kf (.ref f) = some (.type "function")
  none : ∀ n, n ∈ fieldNames → (k.meths.map (·.1)).contains n = false → findIn Z.Kf (.ref c) (Str.ofString n) = some none
  keep : keepIn Z.Kf (.ref c) = true
  getC : plainGet Z.Kf c "__class__" = true
  klass : findIn Z.Kf (.ref c) "__class__" = some (some (.builtin "object.__class__"))
  mro : mroIn Z.Kf c (.type "object") = some true
structure FnAt (Z : Zt) (a : Addr) (f : Fn) : Prop where
  obj : ∃ o fd body, Z.base.get? a = some o ∧ o.data = .func fd ∧ fd.body = .stmts body ∧ fd.globals = mainGlobals ∧ fd.closure = [] ∧ fd.builtins = builtinsNs ∧
    Z.base.CodeRec fd.code fd.qualname ∧ fnOk fd.scope fd.params = true ∧ TrB (fnCx Z.glob fd.scope) body f.body ∧ f.pars = fd.params.args.length ∧ (fnCx Z.glob fd.scope).next ≤ f.size ∧
    ((fd.defaults = .none ∧ f.dfl = []) ∨ ∃ t ot items n, fd.defaults = .ref t ∧ Z.base.get? t = some ot ∧ ot.data = .seq items n ∧ erL items = f.dfl) ∧ f.dfl.length ≤ f.pars
  keep : keepIn Z.Kf (.ref a) = true
structure Static (Z : Zt) : Prop where
  X : Z.Kf.In Z.base
  lim : Z.base.NoLimit
  g : ∃ mg mb, Z.base.Ns mainGlobals mg ∧ Z.base.Ns builtinsNs mb ∧ ∀ x v, Z.glob.lookup x = some v → ∃ val, er val = v ∧ (mg x = some val ∨ (mg x = none ∧ mb x = some val))
  fn : ∀ a f, pg.fns.lookup a = some f → FnAt Z a f
  cl : ∀ c k, pg.cls.lookup c = some k → ClsAt Z c k
  sys : sysModules < Z.base.objs.size
  sys2 : (Z.base.get? sysModules).isSome = true
  ocl : specialIn Z.Kf (.builtin "object.__class__") "__get__" = some (some (.builtin "getset_descriptor.__get__"))
  otk : takesIn Z.Kf (.builtin "object.__class__") = some true
  isi : ∀ c c' k k', pg.cls.lookup c = some k → pg.cls.lookup c' = some k' → kitOne Z.Kf (.ref c') (.ref c) = some (c' == c)
structure Rel (Z : Zt) (σ : Sg) (s : Shared) : Prop where
  cell : ∀ a c, σ a = some c → ∃ o, s.heap.get? a = some o ∧ CO Z c o
  keep : ∀ b o, Z.base.get? b = some o → s.heap.get? b = some o
  new : ∀ a c, σ a = some c → c.ro = false → Z.base.get? a = none
  wfI : ∀ a c d, σ a = some (.inst c d) → ∃ k fs, pg.cls.lookup c = some k ∧ σ d = some (.ns a fs) ∧ ∀ n ∈ fs.map (·.1), fieldNames.contains n = true ∧ (k.meths.map (·.1)).contains n = false
  wfT : ∀ a n es, σ a = some (.tdict n es) → ∀ e ∈ es, σ e.2.1 = some (.tup [.int e.1.1, .int e.1.2])
  gens : s.gens = #[]
  os : s.os = Z.os
structure GrowX (X : Addr → Prop) (σ : Sg) (s : Shared) (σ' : Sg) (s' : Shared) : Prop where
  keep : ∀ b o, ¬ X b → σ b = none → s.heap.get? b = some o → s'.heap.get? b = some o
  fresh : ∀ b, σ b = none → σ' b ≠ none → s.heap.get? b = none
abbrev Grow := GrowX fun _ => False
theorem GrowX.refl {X : Addr → Prop} {σ : Sg} {s : Shared} : GrowX X σ s σ s := ⟨fun _ _ _ _ e => e, fun _ h k => absurd h k⟩
theorem GrowX.toks {X : Addr → Prop} {σ σ' : Sg} {s s' : Shared} {t : Nat} (h : GrowX X σ s σ' s') : GrowX X σ s σ' { s' with toks := t } := ⟨h.keep, h.fresh⟩
theorem Rel.toks {Z : Zt} {σ : Sg} {s : Shared} {t : Nat} (h : Rel Z σ s) : Rel Z σ { s with toks := t } := ⟨h.cell, h.keep, h.new, h.wfI, h.wfT, h.gens, h.os⟩
theorem GrowX.mono {X Y : Addr → Prop} {σ σ' : Sg} {s s' : Shared} (h : GrowX X σ s σ' s') (k : ∀ b, X b → Y b) : GrowX Y σ s σ' s' := ⟨fun b o n => h.keep b o fun x => n (k b x), h.fresh⟩
theorem Grow.toX {X : Addr → Prop} {σ σ' : Sg} {s s' : Shared} (h : Grow σ s σ' s') : GrowX X σ s σ' s' := h.mono fun _ x => x.elim
noncomputable def Aside (X : Addr → Prop) (σ : Sg) (s : Shared) : Prop := ∀ b, X b → σ b = none ∧ (s.heap.get? b).isSome = true
theorem GrowX.trans {X : Addr → Prop} {σ σ' σ'' : Sg} {s s' s'' : Shared} (h : GrowX X σ s σ' s') (k : GrowX X σ' s' σ'' s'') (hX : ∀ b, X b → (s.heap.get? b).isSome = true → (s'.heap.get? b).isSome = true) : GrowX X σ s σ'' s'' := by
  have nn : ∀ b, σ b = none → (s.heap.get? b).isSome = true → σ' b = none := fun b h0 h1 => by
    cases e : σ' b with
    | none => rfl
    | some c => have := h.fresh b h0 (by rw [e]; simp); rw [this] at h1; cases h1
  refine ⟨fun b o n h0 e => ?_, fun b h0 h1 => ?_⟩
  · exact k.keep b o n (nn b h0 (by rw [e]; rfl)) (h.keep b o n h0 e)
  · cases e : s.heap.get? b with
    | none => rfl
    | some o =>
      have h2 := nn b h0 (by rw [e]; rfl)
      have h3 := k.fresh b h2 h1
      by_cases hx : X b
      · have := hX b hx (by rw [e]; rfl); rw [h3] at this; cases this
      · rw [h.keep b o hx h0 e] at h3; cases h3
theorem Grow.trans {σ σ' σ'' : Sg} {s s' s'' : Shared} (h : Grow σ s σ' s') (k : Grow σ' s' σ'' s'') : Grow σ s σ'' s'' := GrowX.trans h k fun _ x => x.elim
theorem GrowX.none_of {X : Addr → Prop} {σ σ' : Sg} {s s' : Shared} (h : GrowX X σ s σ' s') {b : Addr} (h0 : σ b = none) (h1 : (s.heap.get? b).isSome = true) : σ' b = none := by
  cases e : σ' b with
  | none => rfl
  | some c => have := h.fresh b h0 (by rw [e]; simp); rw [this] at h1; cases h1
theorem Rel.set {Z : Zt} {σ : Sg} {s : Shared} {a : Addr} {c c' : C} {h' : Heap} {tk : Nat} (R : Rel Z σ s) (ha : σ a = some c) (hro : c.ro = false) (hev : Ev c c') (hs : Heap.SameBut a s.heap h')
    (hc : ∃ o, h'.get? a = some o ∧ CO Z c' o)
    (hns : ∀ o fs', c' = .ns o fs' → ∀ fs, c = .ns o fs → ∀ C d k, σ o = some (.inst C d) → pg.cls.lookup C = some k → (∀ n ∈ fs.map (·.1), fieldNames.contains n = true ∧ (k.meths.map (·.1)).contains n = false) →
      ∀ n ∈ fs'.map (·.1), fieldNames.contains n = true ∧ (k.meths.map (·.1)).contains n = false)
    (htd : ∀ n es, c' = .tdict n es → ∀ e ∈ es, σ e.2.1 = some (.tup [.int e.1.1, .int e.1.2])) :
    Rel Z (up σ a c') { s with heap := h', toks := tk } ∧ Grow σ s (up σ a c') { s with heap := h', toks := tk } := by
  have hro' : c'.ro = false := by cases hev <;> first | rfl | exact hro
  refine ⟨⟨fun b cb hb => ?_, fun b o e => ?_, fun b cb hb hr => ?_, fun b C d hb => ?_, fun b n es hb e he => ?_, R.gens, R.os⟩, ⟨fun b o _ h0 e => ?_, fun b h0 h1 => ?_⟩⟩
  · by_cases hba : b = a
    · subst hba; rw [up_self] at hb; cases hb; exact hc
    · rw [up_ne hba] at hb
      obtain ⟨o, ho, hco⟩ := R.cell b cb hb
      exact ⟨o, (hs.2 b hba).trans ho, hco⟩
  · have : b ≠ a := by
      rintro rfl
      have := R.new b c ha hro
      rw [this] at e; cases e
    exact (hs.2 b this).trans (R.keep b o e)
  · by_cases hba : b = a
    · subst hba; exact R.new b c ha hro
    · rw [up_ne hba] at hb; exact R.new b cb hb hr
  · by_cases hba : b = a
    · subst hba
      rw [up_self] at hb; cases hb
      have hcc : c = .inst C d := by cases hev; rfl
      subst hcc
      obtain ⟨k, fs, h1, h2, h3⟩ := R.wfI b C d ha
      have hdb : d ≠ b := by rintro rfl; rw [ha] at h2; cases h2
      exact ⟨k, fs, h1, by rw [up_ne hdb]; exact h2, h3⟩
    · rw [up_ne hba] at hb
      obtain ⟨k, fs, h1, h2, h3⟩ := R.wfI b C d hb
      by_cases hda : d = a
      · subst hda
        rw [ha] at h2; cases h2
        obtain ⟨fs', rfl⟩ : ∃ fs', c' = .ns b fs' := by cases hev <;> exact ⟨_, rfl⟩
        exact ⟨k, fs', h1, up_self _ _ _, hns b fs' rfl fs rfl C d k hb h1 h3⟩
      · exact ⟨k, fs, h1, by rw [up_ne hda]; exact h2, h3⟩
  · have key : ∀ t p q, σ t = some (.tup [.int p, .int q]) → up σ a c' t = some (.tup [.int p, .int q]) := fun t p q ht => by
      have : t ≠ a := by rintro rfl; rw [ha] at ht; cases ht; cases hro
      rw [up_ne this]; exact ht
    by_cases hba : b = a
    · subst hba; rw [up_self] at hb; cases hb
      exact key _ _ _ (htd n es rfl e he)
    · rw [up_ne hba] at hb; exact key _ _ _ (R.wfT b n es hb e he)
  · have : b ≠ a := by rintro rfl; rw [ha] at h0; cases h0
    exact (hs.2 b this).trans e
  · have : b ≠ a := by rintro rfl; rw [ha] at h0; cases h0
    rw [up_ne this] at h1; exact absurd h0 h1
theorem Rel.add {Z : Zt} {σ : Sg} {s : Shared} {a : Addr} {c : C} {h' : Heap} {tk : Nat} (R : Rel Z σ s) (hk : ∀ b o, s.heap.get? b = some o → h'.get? b = some o) (hn : s.heap.get? a = none)
    (hc : ∃ o, h'.get? a = some o ∧ CO Z c o)
    (hi : ∀ C d, c = .inst C d → ∃ k fs, pg.cls.lookup C = some k ∧ σ d = some (.ns a fs) ∧ ∀ n ∈ fs.map (·.1), fieldNames.contains n = true ∧ (k.meths.map (·.1)).contains n = false)
    (htd : ∀ n es, c = .tdict n es → ∀ e ∈ es, σ e.2.1 = some (.tup [.int e.1.1, .int e.1.2])) :
    σ a = none ∧ Rel Z (up σ a c) { s with heap := h', toks := tk } ∧ Grow σ s (up σ a c) { s with heap := h', toks := tk } := by
  have h0 : σ a = none := by
    cases e : σ a with
    | none => rfl
    | some cc => obtain ⟨o, ho, _⟩ := R.cell a cc e; rw [hn] at ho; cases ho
  have ne : ∀ b cb, σ b = some cb → b ≠ a := fun b cb hb => by rintro rfl; rw [h0] at hb; cases hb
  refine ⟨h0, ⟨fun b cb hb => ?_, fun b o e => hk b o (R.keep b o e), fun b cb hb hr => ?_, fun b C d hb => ?_, fun b n es hb e he => ?_, R.gens, R.os⟩, ⟨fun b o _ _ e => hk b o e, fun b hb h1 => ?_⟩⟩
  · by_cases hba : b = a
    · subst hba; rw [up_self] at hb; cases hb; exact hc
    · rw [up_ne hba] at hb
      obtain ⟨o, ho, hco⟩ := R.cell b cb hb
      exact ⟨o, hk b o ho, hco⟩
  · by_cases hba : b = a
    · subst hba
      cases e : Z.base.get? b with
      | none => rfl
      | some o => have := R.keep b o e; rw [hn] at this; cases this
    · rw [up_ne hba] at hb; exact R.new b cb hb hr
  · by_cases hba : b = a
    · subst hba; rw [up_self] at hb; cases hb
      obtain ⟨k, fs, h1, h2, h3⟩ := hi C d rfl
      exact ⟨k, fs, h1, by rw [up_ne (ne d _ h2)]; exact h2, h3⟩
    · rw [up_ne hba] at hb
      obtain ⟨k, fs, h1, h2, h3⟩ := R.wfI b C d hb
      exact ⟨k, fs, h1, by rw [up_ne (ne d _ h2)]; exact h2, h3⟩
  · have key : ∀ t p q, σ t = some (.tup [.int p, .int q]) → up σ a c t = some (.tup [.int p, .int q]) := fun t p q ht => by rw [up_ne (ne t _ ht)]; exact ht
    by_cases hba : b = a
    · subst hba; rw [up_self] at hb; cases hb
      exact key _ _ _ (htd n es rfl e he)
    · rw [up_ne hba] at hb; exact key _ _ _ (R.wfT b n es hb e he)
  · by_cases hba : b = a
    · subst hba; exact hn
    · rw [up_ne hba] at h1; exact absurd hb h1
theorem Rel.aside {Z : Zt} {σ : Sg} {s : Shared} {h' : Heap} {tk : Nat} (R : Rel Z σ s) (hk : ∀ b o, s.heap.get? b = some o → (∃ c, σ b = some c) ∨ (∃ o, Z.base.get? b = some o) → h'.get? b = some o) :
    Rel Z σ { s with heap := h', toks := tk } :=
  ⟨fun a c ha => let ⟨o, ho, hc⟩ := R.cell a c ha; ⟨o, hk a o ho (.inl ⟨c, ha⟩), hc⟩, fun b o e => hk b o (R.keep b o e) (.inr ⟨o, e⟩), R.new, R.wfI, R.wfT, R.gens, R.os⟩
theorem Rel.more {Z : Zt} {σ : Sg} {s : Shared} {h' : Heap} {tk : Nat} (R : Rel Z σ s) (hk : ∀ b o, s.heap.get? b = some o → h'.get? b = some o) :
    Rel Z σ { s with heap := h', toks := tk } ∧ Grow σ s σ { s with heap := h', toks := tk } :=
  ⟨R.aside fun b o e _ => hk b o e, ⟨fun b o _ _ e => hk b o e, fun _ h k => absurd h k⟩⟩
theorem NsR.str {fs : List (String × V)} {es : List DictEntry} (h : NsR fs es) : ∀ e ∈ es, ∃ x t, e.key = .str x t := by
  intro e he
  have h1 : (keyOf? e.key, er e.val) ∈ fs.map fun p => (some (Str.ofString p.1), p.2) := by rw [← h]; exact List.mem_map.mpr ⟨e, he, rfl⟩
  obtain ⟨p, _, hp⟩ := List.mem_map.mp h1
  have h2 := congrArg Prod.fst hp
  simp only at h2
  cases hk : e.key <;> rw [hk] at h2 <;> simp [keyOf?] at h2
  exact ⟨_, _, rfl⟩
theorem ofString_inj {a b : String} (h : Str.ofString a = Str.ofString b) : a = b := by
  unfold Str.ofString at h
  rw [cpsOfBytes_string, cpsOfBytes_string] at h
  have h1 : a.toList.map Char.toNat = b.toList.map Char.toNat := by
    have := congrArg (fun s : Str => s.cps.toList) h
    simpa using this
  have h2 : a.toList = b.toList := by
    refine List.map_inj_right (f := Char.toNat) ?_ |>.mp h1
    intro x y e
    exact Char.ext (UInt32.toNat_inj.mp e)
  exact String.toList_inj.mp h2
theorem NsR.cons {p : String × V} {fs : List (String × V)} {es : List DictEntry} (h : NsR (p :: fs) es) : ∃ e es' t, es = e :: es' ∧ e.key = .str (Str.ofString p.1) t ∧ er e.val = p.2 ∧ NsR fs es' := by
  cases es with
  | nil => simp [NsR] at h
  | cons e es' =>
    simp only [NsR, List.map_cons, List.cons.injEq, Prod.mk.injEq] at h
    obtain ⟨⟨h1, h2⟩, h3⟩ := h
    cases hk : e.key <;> rw [hk] at h1 <;> simp [keyOf?] at h1
    rename_i x t
    subst h1
    exact ⟨e, es', t, rfl, hk, h2, h3⟩
theorem isStr_ofString (a b : String) (t : Tok) : (Value.str (Str.ofString a) t).isStr (Str.ofString b) = (a == b) := by
  show (Str.ofString a == Str.ofString b) = (a == b)
  by_cases h : a = b
  · subst h; simp
  · have : ¬ Str.ofString a = Str.ofString b := fun e => h (ofString_inj e)
    rw [show (a == b) = false by simpa using h]
    exact beq_false_of_ne this
theorem NsR.noRef {fs : List (String × V)} {es : List DictEntry} (h : NsR fs es) : es.any (·.refKey) = false := by
  rw [List.any_eq_false]
  intro e he
  obtain ⟨x, t, hx⟩ := h.str e he
  simp [DictEntry.refKey, hx]
theorem NsR.find {n : String} : ∀ {fs : List (String × V)} {es : List DictEntry}, NsR fs es → (es.find? (·.key.isStr (Str.ofString n))).map (fun e => er e.val) = fs.lookup n
  | [], es, h => by
    cases es with
    | nil => rfl
    | cons e es => simp [NsR] at h
  | p :: fs, es, h => by
    obtain ⟨e, es', t, rfl, hk, hv, h'⟩ := h.cons
    obtain ⟨a, b⟩ := p
    rw [List.find?_cons, hk, isStr_ofString, List.lookup_cons]
    by_cases hab : a = n
    · subst hab; simp at hv ⊢; exact hv
    · have h1 : (a == n) = false := by simpa using hab
      have h2 : (n == a) = false := by simpa using fun e => hab e.symm
      rw [h1, h2]; exact NsR.find h'
theorem NsR.get {n : String} {fs : List (String × V)} {es : List DictEntry} {v : V} (h : NsR fs es) (hl : fs.lookup n = some v) : ∃ val, getL (Str.ofString n) es = some (some val) ∧ er val = v := by
  have := h.find (n := n)
  rw [hl] at this
  obtain ⟨e, he, hv⟩ := Option.map_eq_some_iff.mp this
  exact ⟨e.val, by unfold getL; rw [he], hv⟩
theorem NsR.getNone {n : String} {fs : List (String × V)} {es : List DictEntry} (h : NsR fs es) (hl : fs.lookup n = none) : getL (Str.ofString n) es = some none := by
  have := h.find (n := n)
  rw [hl] at this
  have he := Option.map_eq_none_iff.mp this
  unfold getL; rw [he]; simp [h.noRef]
theorem NsR.isSome {n : String} {fs : List (String × V)} {es : List DictEntry} (h : NsR fs es) : (getL (Str.ofString n) es).isSome = true := by
  cases hl : fs.lookup n with
  | none => rw [h.getNone hl]; rfl
  | some v => obtain ⟨val, e, _⟩ := h.get hl; rw [e]; rfl
theorem NsR.put {n : String} {val : Value} {hs : Int} {t : Tok} : ∀ {fs : List (String × V)} {es : List DictEntry}, NsR fs es → NsR (fput fs n (er val)) (putL (Str.ofString n) hs (.str (Str.ofString n) t) val es)
  | [], es, h => by
    cases es with
    | nil => simp [NsR, fput, putL, keyOf?]
    | cons e es => simp [NsR] at h
  | p :: fs, es, h => by
    obtain ⟨e, es', t', rfl, hk, hv, h'⟩ := h.cons
    obtain ⟨a, b⟩ := p
    unfold putL fput
    rw [hk, isStr_ofString]
    by_cases hab : a = n
    · subst hab
      simp only [beq_self_eq_true, if_true]
      exact congrArg (List.cons (some (Str.ofString a), er val)) h'
    · have h1 : (a == n) = false := by simpa using hab
      rw [h1]
      simp only [Bool.false_eq_true, if_false, if_neg hab]
      have ih := NsR.put (n := n) (val := val) (hs := hs) (t := t) h'
      have e1 : (keyOf? e.key, er e.val) = (some (Str.ofString a), b) := by rw [hk]; exact congrArg _ hv
      show (keyOf? e.key, er e.val) :: _ = (some (Str.ofString a), b) :: _
      rw [e1]; exact congrArg _ ih
theorem NsR.length {fs : List (String × V)} {es : List DictEntry} (h : NsR fs es) : es.length = fs.length := by
  have := congrArg List.length h
  simpa using this
theorem fput_length (fs : List (String × V)) (n : String) (v : V) : (fput fs n v).length ≤ fs.length + 1 := by
  induction fs with
  | nil => simp [fput]
  | cons p fs ih =>
    obtain ⟨a, b⟩ := p
    unfold fput
    split <;> simp <;> lia
theorem fput_mem {fs : List (String × V)} {n x : String} {v : V} (h : x ∈ (fput fs n v).map (·.1)) : x = n ∨ x ∈ fs.map (·.1) := by
  induction fs with
  | nil => simp [fput] at h; exact .inl h
  | cons p fs ih =>
    obtain ⟨a, b⟩ := p
    unfold fput at h
    split at h
    · simp only [List.map_cons, List.mem_cons] at h ⊢; exact .inr h
    · simp only [List.map_cons, List.mem_cons] at h ⊢
      rcases h with h | h
      · exact .inr (.inl h)
      · rcases ih h with h | h
        · exact .inl h
        · exact .inr (.inr h)
end Mine
end
section
open PySem PySem.W PyProof.Rows
namespace Mine
-- R4
noncomputable def NE : Value → Shared → Prop := fun _ _ => False
noncomputable def Out (Z : Zt) (σ : Sg) (s : Shared) (Q : Po) : Value → Shared → Prop := fun v s' => ∃ σ', Rel Z σ' s' ∧ Grow σ s σ' s' ∧ Q (er v) σ'
noncomputable def OutB (Z : Zt) (σ : Sg) (s : Shared) (Q : Bool → Sg → Prop) : Bool → Shared → Prop := fun b s' => ∃ σ', Rel Z σ' s' ∧ Grow σ s σ' s' ∧ Q b σ'
structure Room (A : Around) (n : Nat) : Prop where
  h : A.handled = none
  d : A.depth + 2 * n + 4 ≤ 900
  u : A.units + 10 * n + 100 ≤ 9000
theorem Room.units {A : Around} {n : Nat} (r : Room A n) (k : Nat) (hk : k ≤ 90 := by decide) : A.units + k < cLine := by
  have := r.u
  show A.units + k < 9900
  lia
theorem er_int {v : Value} {i : Int} (h : er v = .int i) : ∃ t, v = .int i t := by cases v <;> cases h; exact ⟨_, rfl⟩
theorem er_ref {v : Value} {a : Addr} (h : er v = .ref a) : v = .ref a := by cases v <;> cases h; rfl
theorem er_bool {v : Value} {b : Bool} (h : er v = .bool b) : v = .bool b := by cases v <;> cases h; rfl
theorem er_none {v : Value} (h : er v = .none) : v = .none := by cases v <;> cases h; rfl
theorem er_str {v : Value} {x : Str} (h : er v = .str x) : ∃ t, v = .str x t := by cases v <;> cases h; exact ⟨_, rfl⟩
theorem er_type {v : Value} {n : String} (h : er v = .type n) : v = .type n := by cases v <;> cases h; rfl
theorem er_builtin {v : Value} {n : String} (h : er v = .builtin n) : v = .builtin n := by cases v <;> cases h; rfl
section
variable {Z : Zt} {σ : Sg} {s : Shared} {A : Around} {n : Nat} {Q : Po}
theorem out_now {v : Value} (R : Rel Z σ s) (h : Q (er v) σ) : Out Z σ s Q v s := ⟨σ, R, .refl, h⟩
theorem out_tok {v : Value} (R : Rel Z σ s) (h : Q (er v) σ) : Out Z σ s Q v { s with toks := s.toks + 1 } := ⟨σ, R.toks, GrowX.refl.toks, h⟩
theorem bits_le {k : Int} (h : k.natAbs < 2 ^ 60) : Builtin.Int.intBits k ≤ 64 := by
  unfold Builtin.Int.intBits
  split
  · exact Nat.zero_le _
  · rename_i h0
    have : k.natAbs.log2 < 60 := (Nat.log2_lt (by simpa using h0)).mpr h
    lia
theorem bits_le' {k : Int} (h : k.natAbs < 2 ^ 64) : Builtin.Int.intBits k ≤ 64 := by
  unfold Builtin.Int.intBits
  split
  · exact Nat.zero_le _
  · rename_i h0
    have : k.natAbs.log2 < 64 := (Nat.log2_lt (by simpa using h0)).mpr h
    lia
theorem pylong_no {i j : Int} (h0 : 0 < j) (h1 : j < 2 ^ 64) : ¬ Builtin.divisionGoesByPylong i j = true := by
  unfold Builtin.divisionGoesByPylong
  have : j.natAbs.log2 < 64 := (Nat.log2_lt (by lia)).mpr (by lia)
  simp only [Bool.and_eq_true, decide_eq_true_eq]
  rintro ⟨x, _⟩
  split at x
  · lia
  · have : j.natAbs.log2 / 30 < 3 := by lia
    lia
theorem neg1_pow {k : Nat} : (-1 : Int) ^ k = if ((k : Int) % 2 == 0) = true then 1 else -1 := by
  induction k with
  | zero => rfl
  | succ k ih =>
    rw [Int.pow_succ, ih]
    simp only [beq_iff_eq]
    split <;> split <;> lia
theorem op_pow {i j : Int} {t u : Tok} (R : Rel Z σ s) (h0 : i.natAbs < 2 ^ 64) (h1 : 0 ≤ j) (h2 : j ≤ 18) (q : Q (.int (i ^ j.toNat)) σ) : wpAny Z.M A (binaryOp .Pow (.int i t) (.int j u)) (Out Z σ s Q) NE s := by
  have fin : ∀ {w : Int} {t : Tok}, w = i ^ j.toNat → Out Z σ s Q (.int w t) { s with toks := s.toks + 1 } := fun e => e ▸ out_tok R q
  obtain ⟨k, rfl⟩ := Int.eq_ofNat_of_zero_le h1
  refine AutoIntOpsIf.pow ?_
  rw [if_pos h1]
  split
  · rename_i q
    have : k = 0 := by simpa using q
    subst this
    exact fin (Int.pow_zero i).symm
  · rename_i hk
    have hk : k ≠ 0 := by simpa using hk
    split
    · rename_i q
      refine fin ?_
      simp only [Bool.or_eq_true, beq_iff_eq] at q
      rcases q with rfl | rfl
      · exact (Int.zero_pow hk).symm
      · exact (Int.one_pow ..).symm
    · split
      · rename_i q
        have : i = -1 := by simpa using q
        subst this
        exact fin neg1_pow.symm
      · rw [if_neg]
        · exact fin rfl
        · unfold Builtin.Int.intTooBig
          have b2 : ((Builtin.Int.intBits i : Nat) : Int) * k ≤ 64 * 18 := Int.mul_le_mul (Int.ofNat_le.mpr (bits_le' h0)) h2 h1 (by decide)
          have b3 : (bitsLine : Int) = 134217728 := rfl
          simp only [decide_eq_true_eq]
          lia
theorem op_bin {op : Operator} {va vb : Value} (R : Rel Z σ s) (h : BinK op Q (er va) (er vb) σ)
    (hm : ∀ {l j t w}, σ l = some (.list [w]) → 0 ≤ j → j ≤ 100 → New σ (.list (List.replicate j.toNat w)) Q → wpAny Z.M A (binaryOp .Mult (.ref l) (.int j t)) (Out Z σ s Q) NE s) : wpAny Z.M A (binaryOp op va vb) (Out Z σ s Q) NE s := by
  cases h with
  | rep e f o h k k' q =>
    have := er_ref e; subst this
    obtain ⟨u, rfl⟩ := er_int f
    subst o
    exact hm h k k' q
  | add e f o q =>
    obtain ⟨t, rfl⟩ := er_int e; obtain ⟨u, rfl⟩ := er_int f; subst o
    exact AutoIntOps.add_0 (out_tok R q)
  | sub e f o q =>
    obtain ⟨t, rfl⟩ := er_int e; obtain ⟨u, rfl⟩ := er_int f; subst o
    exact AutoIntOps.sub_0 (out_tok R q)
  | mul e f o h q =>
    obtain ⟨t, rfl⟩ := er_int e; obtain ⟨u, rfl⟩ := er_int f; subst o
    exact AutoIntOps.mul_0 (out_tok R q) (h.elim (fun x => .of_left (bits_le x)) fun x => .of_right (bits_le x))
  | fdiv e f o h k q =>
    obtain ⟨t, rfl⟩ := er_int e; obtain ⟨u, rfl⟩ := er_int f; subst o
    exact AutoIntOps.floordiv_1 (by simp; lia) (pylong_no h k) (Int.fdiv_eq_ediv_of_nonneg _ (Int.le_of_lt h) ▸ out_tok R q)
  | mod e f o h q =>
    obtain ⟨t, rfl⟩ := er_int e; obtain ⟨u, rfl⟩ := er_int f; subst o
    exact AutoIntOps.mod_1 (by simp; lia) (Int.fmod_eq_emod_of_nonneg _ (Int.le_of_lt h) ▸ out_tok R q)
  | pow e f o h k k' q =>
    obtain ⟨t, rfl⟩ := er_int e; obtain ⟨u, rfl⟩ := er_int f; subst o
    exact op_pow R h k k' q
  | and e f o h k q =>
    obtain ⟨t, rfl⟩ := er_int e; obtain ⟨u, rfl⟩ := er_int f; subst o
    obtain ⟨x, rfl⟩ := Int.eq_ofNat_of_zero_le h
    obtain ⟨y, rfl⟩ := Int.eq_ofNat_of_zero_le k
    exact and_int (out_tok R q)
theorem op_truth {v : Value} {Q : Tst} {P' : Bool → Shared → Prop} (h : tQ Q (er v) σ) (hq : ∀ b, Q b σ → P' b s) : wpAny Z.M A (truthy v) P' NE s := by
  cases v <;> first | exact h.elim | skip
  · exact PyProof.Rows.truthy_none (hq _ h)
  · exact wpAny_truthy_bool (hq _ h)
  · exact P.truthy_int (hq _ h)
end
end Mine
end
section
open PySem PySem.W PyProof.Rows
namespace Mine
-- R5
section
variable {Z : Zt} {σ : Sg} {s : Shared} {A : Around} {n : Nat} {Q : Po} {a : Addr} {xs : List V} {vs : Array Value}
theorem Rel.list (R : Rel Z σ s) (h : σ a = some (.list xs)) : ∃ vs, s.heap.PlainList a vs ∧ erL vs = xs := by
  obtain ⟨o, ho, vs, k, rfl, e⟩ := R.cell a _ h
  exact ⟨vs, ⟨k, ho⟩, e⟩
theorem Rel.scr (R : Rel Z σ s) (h : σ a = some (.scr xs)) : ∃ vs, s.heap.IsList a vs ∧ erL vs = xs :=
  let ⟨o, ho, vs, k, e⟩ := R.cell a _ h; ⟨vs, ⟨o, ho, k⟩, e⟩
theorem Rel.tupX (R : Rel Z σ s) (h : σ a = some (.tup xs)) : ∃ vs k, s.heap.get? a = some { cls := .type "tuple", data := .seq vs k } ∧ erL vs = xs := by
  obtain ⟨o, ho, vs, k, rfl, e⟩ := R.cell a _ h
  exact ⟨vs, k, ho, e⟩
theorem Rel.tup (R : Rel Z σ s) (h : σ a = some (.tup xs)) : ∃ vs, IsTup s.heap a vs ∧ erL vs = xs :=
  let ⟨vs, k, ho, e⟩ := R.tupX h; ⟨vs, ⟨_, ho, rfl, k, rfl⟩, e⟩
theorem Rel.dict {k : Nat} {es : List (Int × V)} (R : Rel Z σ s) (h : σ a = some (.dict k es)) : ∃ kvs : List (Int × Value), s.heap.DictAt Z.ik a kvs k ∧ kvs.map (fun p => (p.1, er p.2)) = es := by
  obtain ⟨o, ho, hx, arr, hd, kvs, h1, h2, h3, h4⟩ := R.cell a _ h
  exact ⟨kvs, ⟨o, arr, ho, hx, hd, h1, h2, h3⟩, h4⟩
theorem erL_size (h : erL vs = xs) : vs.size = xs.length := by rw [← h, erL, List.length_map, Array.length_toList]
theorem erL_get (h : erL vs = xs) (i : Nat) : xs[i]? = (vs[i]?).map er := by rw [← h, erL, List.getElem?_map, Array.getElem?_toList]
theorem erL_get' (h : erL vs = xs) {i : Nat} {x : V} (hx : xs[i]? = some x) : ∃ v, vs[i]? = some v ∧ er v = x := Option.map_eq_some_iff.mp ((erL_get h i).symm.trans hx)
theorem valueAt_er {kvs : List (Int × Value)} {es : List (Int × V)} (h : kvs.map (fun p => (p.1, er p.2)) = es) (k : Int) : (valueAt kvs k).map er = es.lookup k := by
  subst h
  induction kvs with
  | nil => rfl
  | cons p kvs ih =>
    obtain ⟨a, b⟩ := p
    simp only [valueAt, List.find?_cons, List.map_cons, List.lookup_cons] at ih ⊢
    by_cases hk : a = k
    · subst hk; simp
    · rw [decide_eq_false hk, beq_false_of_ne fun e => hk e.symm]; exact ih
theorem Rel.notSys (S : Static Z) {c : C} (R : Rel Z σ s) (h : σ a = some c) (hr : c.ro = false) : (a == sysModules) = false := beq_false_of_ne fun e => by
  have := S.sys2
  rw [← e, R.new a c h hr] at this; cases this
inductive E3 (A : Around) (s : Shared) (x y : Value) (b : Bool) : Prop
  | mk (e : SeqAt.EqAt A s x y b) (r : SeqAt.RcAt A s x y b) (n : SeqAt.RcNeAt A s x y (!b))
theorem eqS_at {x y : Value} {b : Bool} (h : EqS (er x) (er y) b) : E3 A s x y b := by
  generalize ex : er x = u at h
  generalize ey : er y = v at h
  cases h with
  | none => rw [er_none ex, er_none ey]; exact ⟨SeqAt.EqAt.same _, SeqAt.RcAt.none_none, SeqAt.RcNeAt.none_none⟩
  | bool => rw [er_bool ex, er_bool ey]; exact ⟨SeqAt.EqAt.bool_bool _ _, SeqAt.RcAt.bool_bool _ _, SeqAt.RcNeAt.bool_bool _ _⟩
  | int => obtain ⟨t, rfl⟩ := er_int ex; obtain ⟨t', rfl⟩ := er_int ey; exact ⟨SeqAt.EqAt.int_int _ _ _ _, SeqAt.RcAt.int_int _ _ _ _, SeqAt.RcNeAt.int_int _ _ _ _⟩
  | str => obtain ⟨t, rfl⟩ := er_str ex; obtain ⟨t', rfl⟩ := er_str ey; exact ⟨SeqAt.EqAt.str_str _ _ _ _, SeqAt.RcAt.str_str _ _ _ _, SeqAt.RcNeAt.str_str _ _ _ _⟩
theorem eqA_at {P : V → V → Bool → Prop} {xs ys : List V} {b : Bool} (h : EqA P xs ys b) : ∃ e : Nat → Bool, (∀ j x y, xs[j]? = some x → ys[j]? = some y → P x y (e j)) ∧ (List.range xs.length).all e = b ∧ xs.length = ys.length := by
  induction h with
  | nil => exact ⟨fun _ => true, fun _ _ _ h => (nomatch h), rfl, rfl⟩
  | @cons x y xs ys p q h _ ih =>
    obtain ⟨e, he, ha, hl⟩ := ih
    refine ⟨fun j => Nat.casesOn j p e, fun j x' y' hx hy => ?_, ?_, congrArg (· + 1) hl⟩
    · cases j with
      | zero => cases hx; cases hy; exact h
      | succ j => exact he j x' y' hx hy
    · rw [List.length_cons, List.range_succ_eq_map, List.all_cons, List.all_map, ← ha]; rfl
theorem eqL_at {P : V → V → Bool → Prop} {k : Nat} (hP : ∀ {A : Around} {x y : Value} {b : Bool}, A.units + k < cLine → P (er x) (er y) b → E3 A s x y b) (R : Rel Z σ s) (hu : A.units + (k + 1) < cLine) {x y : Value} {b : Bool} (h : EqL P σ (er x) (er y) b) : E3 A s x y b := by
  have hu0 : A.units < cLine := Nat.lt_of_le_of_lt (Nat.le_add_right _ _) hu
  have hu1 : A.in1.units + k < cLine := by show A.units + 1 + k < cLine; lia
  have items : ∀ {vs ws : Array Value} {xs ys : List V} {e : Nat → Bool}, erL vs = xs → erL ws = ys → (∀ j x y, xs[j]? = some x → ys[j]? = some y → P x y (e j)) → ∀ j (h1 : j < vs.size) (h2 : j < ws.size), SeqAt.EqAt A.in1 s vs[j] ws[j] (e j) := fun {vs ws xs ys e} ev ew he j h1 h2 =>
    (hP hu1 (he j _ _ (by rw [erL_get ev, Array.getElem?_eq_getElem h1]; rfl) (by rw [erL_get ew, Array.getElem?_eq_getElem h2]; rfl))).1
  cases h with
  | one h => exact eqS_at h
  | @list a b xs ys e f hx hy n q =>
    rw [er_ref e, er_ref f]
    obtain ⟨vs, hv, ev⟩ := R.list hx
    obtain ⟨ws, hw, ew⟩ := R.list hy
    obtain ⟨g, hg, rfl, hl⟩ := eqA_at q
    have hsz : vs.size = ws.size := by rw [erL_size ev, erL_size ew, hl]
    have c1 := SeqAt.RcAt.lists hv.isList hw.isList hsz hu0 (items ev ew hg)
    have c2 := SeqAt.RcNeAt.lists hv.isList hw.isList hsz hu0 (items ev ew hg)
    rw [erL_size ev] at c1 c2
    exact ⟨SeqAt.EqAt.of_refs n c1, c1, c2⟩
  | @tup a b xs ys e f hx hy n q =>
    rw [er_ref e, er_ref f]
    obtain ⟨vs, hv, ev⟩ := R.tup hx
    obtain ⟨ws, hw, ew⟩ := R.tup hy
    obtain ⟨g, hg, rfl, hl⟩ := eqA_at q
    have c1 := SeqAt.RcAt.tuples (l := a) (b := b) hv hw hu0 (items ev ew hg)
    have c2 := SeqAt.RcNeAt.tuples (l := a) (b := b) hv hw hu0 (items ev ew hg)
    have e1 : ((List.range (min vs.size ws.size)).all g && vs.size == ws.size) = (List.range xs.length).all g := by
      rw [erL_size ev, erL_size ew, ← hl, Nat.min_self, BEq.rfl, Bool.and_true]
    rw [e1] at c1 c2
    exact ⟨SeqAt.EqAt.of_refs n c1, c1, c2⟩
  | len e f hx hy n q g =>
    rw [er_ref e, er_ref f, g]
    obtain ⟨vs, hv, ev⟩ := R.list hx
    obtain ⟨ws, hw, ew⟩ := R.list hy
    have hsz : (vs.size != ws.size) = true := by rw [erL_size ev, erL_size ew]; exact bne_iff_ne.mpr q
    have c1 := SeqAt.RcAt.lists_lengths hv.isList hw.isList hsz hu0
    exact ⟨SeqAt.EqAt.of_refs n c1, c1, SeqAt.RcNeAt.lists_lengths hv.isList hw.isList hsz hu0⟩
theorem eq_at (R : Rel Z σ s) (r : Room A n) {x y : Value} {b : Bool} (h : EqL (EqL EqS σ) σ (er x) (er y) b) : E3 A s x y b := eqL_at (k := 1) (fun hu => eqL_at (k := 0) (fun _ => eqS_at) R hu) R (r.units 2) h
theorem EqS.uniq {x y : V} {a b : Bool} (h : EqS x y a) (k : EqS x y b) : a = b := by cases h <;> cases k <;> rfl
theorem inA_at {x : Value} {b : Bool} (h : InA (er x) (erL vs) b) : ∃ g : Value → Bool, (∀ y ∈ vs, SeqAt.EqAt A s y x (g y)) ∧ vs.any g = b := by
  classical
  refine ⟨fun y => decide (EqS (er y) (er x) true), ?_, ?_⟩
  · intro y hy
    have hy := Array.mem_toList_iff.mpr hy
    unfold erL at h
    revert h hy
    generalize vs.toList = l
    intro h hy
    induction l generalizing b with
    | nil => cases hy
    | cons z l ih =>
      cases h with
      | @cons _ _ p q h1 h2 =>
        rcases List.mem_cons.mp hy with rfl | hm
        · have : decide (EqS (er y) (er x) true) = p := by
            cases p
            · exact decide_eq_false fun k => nomatch h1.uniq k
            · exact decide_eq_true h1
          show SeqAt.EqAt A s y x (decide _)
          rw [this]; exact (eqS_at h1).1
        · exact ih h2 hm
  · rw [← Array.any_toList]
    unfold erL at h
    revert h
    generalize vs.toList = l
    intro h
    induction l generalizing b with
    | nil => cases h; rfl
    | cons z l ih =>
      cases h with
      | @cons _ _ p q h1 h2 =>
        rw [List.any_cons, ih h2]
        congr 1
        cases p
        · exact decide_eq_false fun k => nomatch h1.uniq k
        · exact decide_eq_true h1
theorem op_cmp (S : Static Z) {op : CmpOp} {va vb : Value} {T : Tst} {W : Value → Shared → Prop} (R : Rel Z σ s) (r : Room A n) (h : CmpK op T (er va) (er vb) σ) (hq : ∀ b s', Rel Z σ s' → Grow σ s σ s' → T b σ → W (.bool b) s') :
    wpAny Z.M A (compareOp op va vb) W NE s := by
  have fin : ∀ {b}, T b σ → W (.bool b) s := fun q => hq _ s R .refl q
  have fin' : ∀ {b c}, T b σ → c = b → W (.bool c) s := fun q e => e ▸ fin q
  cases h with
  | lt e f o q => obtain ⟨t, rfl⟩ := er_int e; obtain ⟨u, rfl⟩ := er_int f; subst o; exact P.lt_int (fin q)
  | le e f o q => obtain ⟨t, rfl⟩ := er_int e; obtain ⟨u, rfl⟩ := er_int f; subst o; exact P.le_int (fin q)
  | gt e f o q => obtain ⟨t, rfl⟩ := er_int e; obtain ⟨u, rfl⟩ := er_int f; subst o; exact P.gt_int (fin q)
  | ge e f o q => obtain ⟨t, rfl⟩ := er_int e; obtain ⟨u, rfl⟩ := er_int f; subst o; exact P.ge_int (fin q)
  | isT e f o q => rw [er_none e, er_none f, o]; exact is_none_gen (fin q)
  | isF e f o q => rw [er_ref e, er_none f, o]; exact is_none_gen (fin q)
  | notT e f o q => rw [er_none e, er_none f, o]; exact isnot_none_gen (fin q)
  | notF e f o q => rw [er_ref e, er_none f, o]; exact isnot_none_gen (fin q)
  | eq h o q => subst o; exact EqBoolInt.of_rc (eq_at R r h).2 (fin q)
  | ne h o q => subst o; exact EqBoolInt.of_rcne (eq_at R r h).3 (fin q)
  | inL f h k o q =>
    rw [er_ref f, o]
    obtain ⟨vs, hv, rfl⟩ := R.list h
    obtain ⟨g, hg, hb⟩ := inA_at k
    exact SeqAt.in_listAt g hv.isList hg (fin' q hb)
  | inT f h k o q =>
    rw [er_ref f, o]
    obtain ⟨vs, hv, rfl⟩ := R.tup h
    obtain ⟨g, hg, hb⟩ := inA_at k
    exact SeqAt.in_tupleAt g hv hg (fin' q hb)
  | inD e f h o q =>
    obtain ⟨t, rfl⟩ := er_int e
    rw [er_ref f, o]
    obtain ⟨kvs, hd, he⟩ := R.dict h
    refine wpAny_in_of (intKind_is _ _ _ t) (R.notSys S h rfl) hd.dictOf.mapOf (hq _ _ R.toks GrowX.refl.toks ?_)
    rw [← valueAt_er he, Option.isSome_map] at q
    exact q
  | niL f h k o q =>
    rw [er_ref f, o]
    obtain ⟨vs, hv, rfl⟩ := R.list h
    obtain ⟨g, hg, hb⟩ := inA_at k
    exact SeqAt.notIn_listAt g hv.isList hg (fin' q (congrArg _ hb))
  | niT f h k o q =>
    rw [er_ref f, o]
    obtain ⟨vs, hv, rfl⟩ := R.tup h
    obtain ⟨g, hg, hb⟩ := inA_at k
    exact SeqAt.notIn_tupleAt g hv hg (fin' q (congrArg _ hb))
end
end Mine
end
section
open PySem PySem.W PyProof.Rows
namespace Mine
-- R6
noncomputable def plainC : C → Bool
  | .inst .. | .tdict .. => false
  | _ => true
section
variable {Z : Zt} {σ : Sg} {s : Shared} {A : Around} {n : Nat} {Q : Po}
theorem subscripted_plain {slice : Expr} {o i : Value} (h : isSl slice = false) : subscripted slice false o i = operate [o, i] (getItem o i) := by
  cases slice <;> first | rfl | cases h
theorem out_er {v : Value} {x : V} (R : Rel Z σ s) (e : er v = x) (h : Q x σ) : Out Z σ s Q v s := out_now R (e ▸ h)
theorem op_sub {value slice : Expr} {vo vk : Value} (R : Rel Z σ s) (hs : isSl slice = false) (h : SubK Q (er vo) (er vk) σ) :
    wpAny Z.M A (subscriptTail value slice vo vk) (Out Z σ s Q) NE s := by
  cases h with
  | list e f hx x q =>
    have := er_ref e; subst this
    obtain ⟨t, rfl⟩ := er_int f
    obtain ⟨vs, hv, ev⟩ := R.list hx
    refine tail_any hv.isList.typeIs slot_list_getitem.lookup ?_ (subscripted_plain hs)
    cases x with
    | pos h0 h1 h =>
      obtain ⟨val, hval, hev⟩ := erL_get' ev h
      exact wpAny_getItem_list hv.isList h0 (by lia) hval (out_er R hev q)
    | last h =>
      rw [List.getLast?_eq_getElem?] at h
      obtain ⟨val, hval, hev⟩ := erL_get' ev h
      have hsz := erL_size ev
      have := (Array.getElem?_eq_some_iff.mp hval).1
      exact wpAny_getItem_list_neg hv.isList (by decide) (by lia) (by decide) (by rw [show ((-1 : Int) + vs.size).toNat = vs.size - 1 by lia, hsz]; exact hval) (out_er R hev q)
  | tup e f hx x q =>
    have := er_ref e; subst this
    obtain ⟨t, rfl⟩ := er_int f
    obtain ⟨vs, hv, ev⟩ := R.tup hx
    have hsz := erL_size ev
    refine tail_any hv.typeIs slot_tuple_getitem.lookup ?_ (subscripted_plain hs)
    cases x with
    | pos h0 h1 h =>
      obtain ⟨val, hval, hev⟩ := erL_get' ev h
      have hlt := (Array.getElem?_eq_some_iff.mp hval).1
      refine getItem_tuple hv (by lia) (by lia) ?_ hval (out_er R hev q)
      unfold seqIndex?
      simp only
      rw [if_neg (Int.not_lt.mpr h0), if_pos (by simp; lia)]
    | last h =>
      rw [List.getLast?_eq_getElem?] at h
      obtain ⟨val, hval, hev⟩ := erL_get' ev h
      have := (Array.getElem?_eq_some_iff.mp hval).1
      exact getItem_tuple hv (by decide) (by decide) (seqIndex_neg (by decide) (by lia)) (by rw [show ((-1 : Int) + vs.size).toNat = vs.size - 1 by lia, hsz]; exact hval) (out_er R hev q)
  | dict e f hx x q =>
    have := er_ref e; subst this
    obtain ⟨t, rfl⟩ := er_int f
    obtain ⟨kvs, hd, he⟩ := R.dict hx
    obtain ⟨val, hval, hev⟩ := Option.map_eq_some_iff.mp ((valueAt_er he _).trans x)
    exact tail_any hd.dictOf.typeIs slot_dict_getitem.lookup (wpAny_getItem_of (intKind_is _ _ _ t) hd.dictOf.mapOf hval ⟨σ, R.toks, GrowX.refl.toks, hev ▸ q⟩) (subscripted_plain hs)
theorem new_addr (h : Heap) : h.get? h.objs.size = none := by
  cases e : h.get? h.objs.size with
  | none => rfl
  | some o => exact absurd (Heap.lt_size e) (Nat.lt_irrefl _)
theorem out_at {a : Addr} {c : C} {h' : Heap} {tk : Nat} (R : Rel Z σ s) (hn : s.heap.get? a = none) (hk : ∀ b o, s.heap.get? b = some o → h'.get? b = some o) (hc : ∃ o, h'.get? a = some o ∧ CO Z c o) (hp : plainC c = true) (h : New σ c Q) :
    Out Z σ s Q (.ref a) { s with heap := h', toks := tk } :=
  have ⟨h0, R', G⟩ := R.add (tk := tk) hk hn hc (fun C d e => by subst e; cases hp) fun n es e => by subst e; cases hp
  ⟨_, R', G, h.1 _ h0⟩
theorem out_push {o : Obj} {c : C} {tk : Nat} (R : Rel Z σ s) (ho : o.isFreed = false) (hc : CO Z c o) (hp : plainC c = true) (h : New σ c Q) : Out Z σ s Q (.ref s.heap.objs.size) { s with heap := s.heap.push o, toks := tk } :=
  out_at R (new_addr s.heap) (fun _ o' e => Heap.get?_push_of_some o e) ⟨o, Heap.get?_push_size _ ho, hc⟩ hp h
theorem op_list {vs : List Value} (R : Rel Z σ s) (hl : vs.length ≤ 100000) (h : New σ (.list (vs.map er)) Q) : wpAny Z.M A (newList vs) (Out Z σ s Q) NE s :=
  wpAny_newObj_type (out_push (c := .list (vs.map er)) R rfl ⟨vs.toArray, 0, rfl, rfl⟩ rfl h) (by show vs.toArray.size ≤ sizeLine; rw [List.size_toArray, sizeLine_eq]; lia)
theorem op_tuple {vs : List Value} (R : Rel Z σ s) (hl : vs.length ≤ 100000) (h : New σ (.tup (vs.map er)) Q) : wpAny Z.M A (newTuple vs) (Out Z σ s Q) NE s :=
  wpAny_newObj_type (out_push (c := .tup (vs.map er)) R rfl ⟨vs.toArray, 0, rfl, rfl⟩ rfl h) (by show vs.toArray.size ≤ sizeLine; rw [List.size_toArray, sizeLine_eq]; lia)
theorem slicePick_cut {vs : Array Value} {vl vu : Value} {xs ys : List V} (ev : erL vs = xs) (h : Cut xs (er vl) (er vu) ys) : ∃ lo hi, IsPart vl lo ∧ IsPart vu hi ∧ erL (slicePick vs lo hi none) = ys := by
  have hsz := erL_size ev
  generalize e1 : er vl = x at h
  generalize e2 : er vu = y at h
  cases h with
  | @to h h0 h1 =>
    obtain ⟨t, rfl⟩ := er_int e2
    obtain ⟨k, rfl⟩ := Int.eq_ofNat_of_zero_le h0
    refine ⟨none, some (k : Int), er_none e1 ▸ .none, .int _ _, ?_⟩
    have e : slicePick vs none (some (k : Int)) none = slicePick vs none (some ((min k vs.size : Nat) : Int)) none := by
      unfold slicePick
      have : sliceBounds none (some (k : Int)) none vs.size = sliceBounds none (some ((min k vs.size : Nat) : Int)) none vs.size := by
        simp only [sliceBounds, Option.getD_none]
        rw [if_neg (Int.not_lt.mpr (Int.natCast_nonneg k)), if_neg (Int.not_lt.mpr (Int.natCast_nonneg _))]
        simp only [show (1 : Int) > 0 by decide, if_true]
        congr 2; lia
      rw [this]
    rw [e, slicePick_upto vs _ (Nat.min_le_right ..), ← ev]
    show (List.take (min k vs.size) vs.toList).map er = _
    rw [List.map_take, Int.toNat_natCast, ← Array.length_toList, ← List.length_map (f := er), ← List.take_eq_take_min]; rfl
  | @«from» l h0 h1 =>
    obtain ⟨t, rfl⟩ := er_int e1
    obtain ⟨k, rfl⟩ := Int.eq_ofNat_of_zero_le h0
    refine ⟨some (k : Int), none, .int _ _, er_none e2 ▸ .none, ?_⟩
    rw [slicePick_from vs k (hsz ▸ h1), ← ev]
    exact List.map_drop
  | @both l h h0 h1 h2 =>
    obtain ⟨t, rfl⟩ := er_int e1
    obtain ⟨u, rfl⟩ := er_int e2
    obtain ⟨k, rfl⟩ := Int.eq_ofNat_of_zero_le h0
    obtain ⟨j, rfl⟩ := Int.eq_ofNat_of_zero_le (Int.le_trans h0 h1)
    refine ⟨some (k : Int), some (j : Int), .int _ _, .int _ _, ?_⟩
    rw [slicePick_run vs k j (hsz ▸ h2) (Int.ofNat_le.mp h1), ← ev, ← List.drop_take]
    show (List.drop k (List.take j vs.toList)).map er = _
    rw [List.map_drop, List.map_take]; rfl
theorem op_slice {value : Expr} {lo hi : Option Expr} {p : Pos} {vo vl vu : Value} (R : Rel Z σ s) (h : SliceK Q (er vo) (er vl) (er vu) σ) :
    wpAny Z.M A (subscriptTail value (.Slice lo hi none p) vo (.ref s.heap.objs.size)) (Out Z σ s Q) NE { s with heap := s.heap.push { cls := .type "slice", data := .fields #[vl, vu, .none] } } := by
  have e0 : ∀ {o i : Value}, subscripted (.Slice lo hi none p) false o i = operate [i, o] (getItem o i) := rfl
  obtain ⟨R1, G1⟩ := R.more (tk := s.toks) (h' := s.heap.push { cls := .type "slice", data := .fields #[vl, vu, .none] }) fun b o e => Heap.get?_push_of_some _ e
  have L : ∀ {a xs ys}, (∃ vs, s.heap.IsList a vs ∧ erL vs = xs) → xs.length ≤ 1000 → Cut xs (er vl) (er vu) ys → New σ (.list ys) Q →
      wpAny Z.M A (subscriptTail value (.Slice lo hi none p) (.ref a) (.ref s.heap.objs.size)) (Out Z σ s Q) NE { s with heap := s.heap.push { cls := .type "slice", data := .fields #[vl, vu, .none] } } := fun ⟨vs, hv, ev⟩ k c q => by
    obtain ⟨l, u, pl, pu, hys⟩ := slicePick_cut ev c
    have hl := (hv.push { cls := .type "slice", data := .fields #[vl, vu, .none] })
    have hsz := erL_size ev
    refine tail_any (Heap.IsList.typeIs hl) slot_list_getitem.lookup (wpAny_getItem_list_slice hl (Heap.IsSliceOf.new ..) pl pu .none (by simp) ?_ (by rw [sizeLine_eq]; lia)) e0
    obtain ⟨σ', R', G', q'⟩ := out_push (c := .list _) (tk := s.toks) (o := { cls := .type "list", data := .seq (slicePick vs l u none) }) R1 rfl ⟨_, _, rfl, hys⟩ rfl q
    exact ⟨σ', R', G1.trans G', q'⟩
  cases h with
  | list e hx k c q => have := er_ref e; subst this; exact L (let ⟨vs, hv, e⟩ := R.list hx; ⟨vs, hv.isList, e⟩) k c q
  | scr e hx k c q => have := er_ref e; subst this; exact L (R.scr hx) k c q
  | tup e f g hx b k1 k2 q =>
    have := er_ref e; subst this
    obtain ⟨t, rfl⟩ := er_int f
    have := er_none g; subst this
    obtain ⟨vs, hv, ev⟩ := R.tup hx
    have hsz := erL_size ev
    obtain ⟨j, rfl⟩ := Int.eq_ofNat_of_zero_le (Int.le_trans (by decide) k1)
    have ht := hv.push { cls := .type "slice", data := .fields #[.int (j : Int) t, .none, .none] }
    refine tail_any (IsTup.typeIs ht) slot_tuple_getitem.lookup (getItem_tuple_from ht (Heap.IsSliceOf.new ..) (Int.ofNat_le.mp k1) (hsz ▸ k2) ?_ (by rw [hsz, sizeLine_eq]; lia)) e0
    obtain ⟨σ', R', G', q'⟩ := out_push (c := .tup _) (tk := s.toks) (o := { cls := .type "tuple", data := .seq (vs.toList.drop j).toArray }) R1 rfl ⟨_, _, rfl, ev ▸ List.map_drop⟩ rfl q
    exact ⟨σ', R', G1.trans G', q'⟩
end
end Mine
end
section
open PySem PySem.W PyProof.Rows
namespace Mine
-- R7
section
variable {Z : Zt} {σ : Sg} {s : Shared} {A : Around} {n : Nat} {Q : Po}
noncomputable def OutS (Z : Zt) (σ : Sg) (s : Shared) (Q : Sg → Prop) : Unit → Shared → Prop := fun _ s' => ∃ σ', Rel Z σ' s' ∧ Grow σ s σ' s' ∧ Q σ'
theorem Rel.X (S : Static Z) (R : Rel Z σ s) : Z.Kf.In s.heap := fun a o e => R.keep a o (S.X a o e)
inductive InstR (σ : Sg) (s : Shared) (a c d : Addr) : Prop
  | mk (k : Cls) (fs : List (String × V)) (es : List DictEntry) (m : Nat) (h1 : pg.cls.lookup c = some k) (h2 : σ d = some (.ns a fs)) (h3 : s.heap.get? d = some (dictOf es m)) (h4 : NsR fs es) (h5 : ∀ p ∈ fs, notB p.2 = true) (h6 : InstAt s.heap a (instObj c d) c (some (dictOf es m)))
      (h7 : ∀ n ∈ fs.map (·.1), fieldNames.contains n = true ∧ (k.meths.map (·.1)).contains n = false)
theorem Rel.inst {a c d : Addr} (R : Rel Z σ s) (h : σ a = some (.inst c d)) : InstR σ s a c d := by
  obtain ⟨o, ho, hc⟩ := R.cell a _ h
  cases hc
  obtain ⟨k, fs, h1, h2, h3⟩ := R.wfI a c d h
  obtain ⟨o', ho', es, m, rfl, hn, hb⟩ := R.cell d _ h2
  exact ⟨k, fs, es, m, h1, h2, ho', hn, hb, ⟨ho, rfl, rfl, ho'⟩, h3⟩
theorem handed_of_notB {v : Value} (h : notB (er v) = true) : handedIn v = true := by
  cases v <;> first | rfl | cases h
theorem lookup_memR {α β : Type} [BEq α] [LawfulBEq α] {l : List (α × β)} {a : α} {b : β} (h : l.lookup a = some b) : (a, b) ∈ l := by
  induction l with
  | nil => cases h
  | cons p l ih =>
    obtain ⟨x, y⟩ := p
    rw [List.lookup_cons] at h
    split at h
    · rename_i e
      have := eq_of_beq e
      subst this; cases h; exact .head _
    · exact .tail _ (ih h)
theorem op_attr (S : Static Z) {vo : Value} {nm : String} {expr : Bool} (R : Rel Z σ s) (h : AttrK nm Q (er vo) σ) : wpAny Z.M A (getAttr vo (Str.ofString nm) expr) (Out Z σ s Q) NE s := by
  cases h with
  | mk e h x q =>
    have := er_ref e; subst this
    obtain ⟨d, hx, hn⟩ := h
    obtain ⟨k, fs, es, m, h1, h2, h3, h4, h5, h6, h7⟩ := R.inst hx
    cases hn.symm.trans h2
    have K := S.cl _ k h1
    have hmem := lookup_memR x
    obtain ⟨val, hv, ev⟩ := h4.get x
    obtain ⟨f1, f2⟩ := h7 nm (List.mem_map.mpr ⟨_, hmem, rfl⟩)
    exact get_value (R.X S) h6 (plainGet_of (name := "") K.get).1 (findObj_own (attr := none) K.dict (K.none nm (List.contains_iff_mem.mp f1) f2) rfl hv) (handed_of_notB (ev ▸ h5 _ hmem)) ⟨σ, R.toks, GrowX.refl.toks, ev ▸ q⟩
theorem fput_notB {fs : List (String × V)} {nm : String} {v : V} (h : ∀ p ∈ fs, notB p.2 = true) (hv : notB v = true) : ∀ p ∈ fput fs nm v, notB p.2 = true := by
  induction fs with
  | nil => exact fun p hp => List.mem_singleton.mp hp ▸ hv
  | cons q fs ih =>
    intro p hp
    unfold fput at hp
    split at hp
    · exact (List.mem_cons.mp hp).elim (fun e => e ▸ hv) fun hp => h p (.tail _ hp)
    · exact (List.mem_cons.mp hp).elim (fun e => e ▸ h _ (.head _)) fun hp => ih (fun p hp => h p (.tail _ hp)) p hp
theorem op_setA (S : Static Z) {vo vv : Value} {nm : String} {Q : Sg → Prop} (R : Rel Z σ s) (h : SetK nm Q (er vv) (er vo) σ) :
    wpAny Z.M A (setAttr vo (Str.ofString nm) vv) (OutS Z σ s Q) NE s := by
  cases h with
  | @mk a c d fs e hx hn f l b q =>
  have := er_ref e; subst this
  obtain ⟨k, fs0, es, m, h1, h2, h3, h4, h5, h6, h7⟩ := R.inst hx
  cases hn.symm.trans h2
  rw [fieldOk, h1] at f
  simp only [Option.any_some, Bool.and_eq_true, Bool.not_eq_true'] at f
  obtain ⟨g1, g1'⟩ := f
  have K := S.cl c k h1
  have hfind := K.none nm (List.contains_iff_mem.mp g1) g1'
  have XX := R.X S
  refine set_plain XX h6 K.set ?_
  refine osa_open (s := { s with toks := s.toks + 1 }) (r := none) XX h6 K.over (by unfold takerIn; rw [hfind]; rfl) fun _ => ?_
  obtain ⟨cd, hc, hd'⟩ := any_some K.dict
  obtain ⟨hx', -, -, -⟩ := h6
  refine wpAny_bind (wpAny_pure (wpAny_bind (wpAny_bind (wpAny_loadPart hx' (wpAny_bind (Looks.here (s := { s with toks := s.toks + 1 }) (looks_clsIn (h := s.heap) XX hc) ?_))))))
  rw [hd']
  refine wpAny_pure (a := some d) (wpAny_bind (wpAny_pure (wpAny_bind ?_)))
  unfold nsSet
  refine wpAny_bind (wpAny_bind (wpAny_askSetting (wpAny_pure (wpAny_bind (wpAny_mkText (wpAny_bind (wpAny_loadPart h3 ?_)))))))
  have cnd : (!es.toArray.any (·.key.isStr (Str.ofString nm)) && es.toArray.any (·.refKey)) = false := by
    have := h4.noRef
    simp [this]
  dsimp only
  rw [aRefKeyMayBeTheName_at, cnd]
  have hlen : es.length = fs.length := h4.length
  have put := putName_dict (Str.ofString nm) (PyData.keyHash Z.w.params (Str.ofString nm)) (.str (Str.ofString nm) (s.toks + 1)) vv es m
  have hput := h4.put (n := nm) (val := vv) (hs := PyData.keyHash Z.w.params (Str.ofString nm)) (t := s.toks + 1)
  have hD' : (s.heap.update d (Obj.putName (Str.ofString nm) (PyData.keyHash Z.w.params (Str.ofString nm)) (.str (Str.ofString nm) (s.toks + 1)) vv)).get? d = some (dictOf (putL (Str.ofString nm) (PyData.keyHash Z.w.params (Str.ofString nm)) (.str (Str.ofString nm) (s.toks + 1)) vv es) (putN (Str.ofString nm) es m)) := by
    rw [← put]
    exact Heap.get?_update_self _ h3 (by rw [put]; rfl)
  refine wpAny_updatePart h3 ?_
  refine wpAny_bind (wpAny_lookBehind hD' (pastItsLine_dict (by
    have e1 := hput.length
    have e2 := fput_length fs nm (er vv)
    rw [List.size_toArray, sizeLine_eq, e1]; lia)) ?_)
  refine wpAny_pure ?_
  obtain ⟨R', G'⟩ := R.set (c' := .ns a (fput fs nm (er vv))) (tk := s.toks + 2) h2 rfl .ns (Heap.SameBut.update ..) ⟨_, hD', _, _, rfl, hput, fput_notB h5 b⟩
    (fun o fs' e fs'' e' C' d' k' hC hk hall => by
      cases e; cases e'
      rw [hx] at hC; cases hC
      rw [h1] at hk; cases hk
      intro n hn
      rcases fput_mem hn with rfl | hn
      · exact ⟨g1, g1'⟩
      · exact hall n hn)
    (fun _ _ e => by cases e)
  exact ⟨_, R', G', q⟩
end
end Mine
end
section
open PySem PySem.W PyProof.Rows
namespace Mine
-- R8
section
variable {Z : Zt} {σ : Sg} {s : Shared} {A : Around} {n : Nat} {Q : Po}
theorem setList_plain {l : Addr} {items : Array Value} {k : Int} {t : Tok} {v : Value} {E : Value → Shared → Prop} {Q : Unit → Shared → Prop} (hl : s.heap.PlainList l items)
    (h0 : 0 ≤ k) (hfit : k < 2 ^ 63) (hn : k < items.size)
    (hQ : ∀ h', h'.PlainList l (items.setIfInBounds k.toNat v) → Heap.SameBut l s.heap h' → Q () { s with heap := h' }) :
    wpAny Z.M A (setItem (.ref l) (.int k t) v) Q E s := by
  obtain ⟨ne, ho⟩ := id hl
  have hL := hl.isList
  unfold setItem
  refine wpAny_holding (wpAny_bind (wpAny_sequenceKey hL.typeIs (by decide) ?_))
  refine wpAny_bind (wpAny_callSpecial?_slot (name := Str.ofString "__setitem__") hL.typeIs slot_list_setitem
    (wpAny_call_entry slot_list_setitem hL.typeIs entry_list_setitem ?_ (args_list_setitem _ _ _)))
  show wpAny _ _ (Builtin.List.listSubscript? (.int k t) >>= _) _ _ s
  refine wpAny_bind (wpAny_listSubscript_int (fitsIndex_of h0 hfit) ?_)
  obtain ⟨j, rfl⟩ := Int.eq_ofNat_of_zero_le h0
  have hj : j < items.size := by lia
  have hx' : items[j]? = some items[j] := Array.getElem?_eq_getElem hj
  show wpAny _ _ ((seqItemAt l j >>= fun r => pure (r.map (j, ·))) >>= _) _ _ s
  refine wpAny_bind (wpAny_bind (wpAny_seqItemAt ho rfl (wpAny_pure ?_)))
  rw [hx']
  show wpAny _ _ (setSeqItemAt l j v >>= _) _ _ s
  have hfin : (s.heap.update l (Obj.mapSeq (·.setIfInBounds j v))).PlainList l (items.setIfInBounds j v) :=
    ⟨_, Heap.get?_update_self _ ho rfl⟩
  refine wpAny_bind (wpAny_setSeqItemAt ho rfl ?_)
  exact wpAny_pure ⟨.none, rfl, wpAny_pure (hQ _ hfin (Heap.SameBut.update ..))⟩
theorem tupKey {t : Addr} {a b : Int} (R : Rel Z σ s) (h : σ t = some (.tup [.int a, .int b])) : Z.tk.is s.heap [a, b] t := by
  obtain ⟨vs, ⟨o, ho, hc, n, hd⟩, e⟩ := R.tup h
  obtain ⟨l⟩ := vs
  refine ⟨o, _, n, ho, hc, hd, ?_⟩
  have hl := congrArg List.length e
  simp only [erL, List.length_map, List.length_cons, List.length_nil] at hl
  rcases l with _ | ⟨x, _ | ⟨y, _ | ⟨z, l⟩⟩⟩
  · simp at hl
  · simp at hl
  · simp only [erL, List.map_cons, List.map_nil, List.cons.injEq, and_true] at e
    obtain ⟨u, rfl⟩ := er_int e.1
    obtain ⟨u', rfl⟩ := er_int e.2
    exact .cons (intKind_is _ _ _ _) (.cons (intKind_is _ _ _ _) .nil)
  · simp at hl
theorem dput_stored {kvs : List (Int × Value)} {k : Int} {v : Value} (hn : (kvs.map (·.1)).Nodup) : (stored kvs k v).map (fun p => (p.1, er p.2)) = dput (kvs.map fun p => (p.1, er p.2)) k (er v) := by
  unfold stored
  induction kvs with
  | nil => rfl
  | cons p kvs ih =>
    obtain ⟨a, b⟩ := p
    rw [List.map_cons, List.nodup_cons] at hn
    have ih := ih hn.2
    simp only [List.any_cons, List.map_cons, dput]
    by_cases hk : a = k
    · subst hk
      simp only [decide_true, Bool.true_or, if_true, List.map_cons]
      congr 1
      rw [List.map_map]
      refine List.map_congr_left fun q hq => ?_
      have : ¬ q.1 = a := fun e => hn.1 (e ▸ List.mem_map.mpr ⟨q, hq, rfl⟩)
      simp [this]
    · simp only [hk, decide_false, Bool.false_or, if_false]
      split
      · rename_i hc
        rw [if_pos hc] at ih
        simp only [List.map_cons]
        rw [ih]
      · rename_i hc
        rw [if_neg hc] at ih
        rw [List.cons_append, List.map_cons, ih]
noncomputable abbrev TK : List Int × Addr × Value → List Int × Addr × V := fun x => (x.1, x.2.1, er x.2.2)
abbrev TE : (Int × Int) × Addr × V → List Int × Addr × V := fun e => ([e.1.1, e.1.2], e.2.1, e.2.2)
theorem atKey_tget {p : Int × Int} : ∀ {xs : List (List Int × Addr × Value)} {es : List ((Int × Int) × Addr × V)}, xs.map TK = es.map TE → (atKey xs [p.1, p.2]).map (fun q => er q.2) = tget es p
  | [], [], _ => rfl
  | [], _ :: _, h => by cases h
  | _ :: _, [], h => by cases h
  | (k, a, v) :: xs, (q, a', v') :: es, h => by
    simp only [List.map_cons, List.cons.injEq, Prod.mk.injEq] at h
    obtain ⟨⟨h1, h2, h3⟩, h4⟩ := h
    subst h1; subst h2
    have ih := atKey_tget (p := p) h4
    unfold atKey at ih ⊢
    unfold tget
    rw [List.find?_cons]
    by_cases hq : q = p
    · subst hq; simp [h3]
    · have : ¬ (([q.1, q.2] : List Int) = [p.1, p.2]) := fun e => by
        simp only [List.cons.injEq, and_true] at e
        exact hq (Prod.ext e.1 e.2)
      rw [if_neg hq]
      simp only [this, decide_false]
      exact ih
theorem tput_storedH {p : Int × Int} {t : Addr} {v : Value} : ∀ {xs : List (List Int × Addr × Value)} {es : List ((Int × Int) × Addr × V)}, xs.map TK = es.map TE → (xs.map (·.1)).Nodup → (storedH xs [p.1, p.2] t v).map TK = (tput es p t (er v)).map TE
  | [], [], _, _ => rfl
  | [], _ :: _, h, _ => by cases h
  | _ :: _, [], h, _ => by cases h
  | (k, a, w) :: xs, (q, a', v') :: es, h, hn => by
    simp only [List.map_cons, List.cons.injEq, Prod.mk.injEq] at h
    obtain ⟨⟨h1, h2, h3⟩, h4⟩ := h
    subst h1; subst h2
    rw [List.map_cons, List.nodup_cons] at hn
    have ih := tput_storedH (p := p) (t := t) (v := v) h4 hn.2
    unfold storedH atKey at ih ⊢
    unfold tput
    rw [List.find?_cons]
    by_cases hq : q = p
    · subst hq
      simp only [decide_true, Option.map_some, Option.isSome_some, if_true, List.map_cons, putAt]
      have : xs.map (putAt [q.1, q.2] v) = xs := by
        refine (List.map_congr_left fun x hx => ?_).trans (List.map_id _)
        have : ¬ x.1 = [q.1, q.2] := fun e => hn.1 (e ▸ List.mem_map.mpr ⟨x, hx, rfl⟩)
        simp [putAt, this]
      rw [this, h4]
    · have hne : ¬ (([q.1, q.2] : List Int) = [p.1, p.2]) := fun e => by
        simp only [List.cons.injEq, and_true] at e
        exact hq (Prod.ext e.1 e.2)
      rw [if_neg hq]
      simp only [hne, decide_false, List.map_cons]
      split
      · rename_i hc
        rw [if_pos hc] at ih
        simp only [List.map_cons, putAt, hne, if_false]
        rw [← ih]
        exact congrArg (· :: _) (by simp [h3])
      · rename_i hc
        rw [if_neg hc] at ih
        rw [List.cons_append, List.map_cons, ih]
        exact congrArg (· :: _) (by simp [h3])
theorem tput_mem {es : List ((Int × Int) × Addr × V)} {p : Int × Int} {t : Addr} {v : V} {e : (Int × Int) × Addr × V} (h : e ∈ tput es p t v) : (∃ e' ∈ es, e'.1 = e.1 ∧ e'.2.1 = e.2.1) ∨ (e.1 = p ∧ e.2.1 = t) := by
  induction es with
  | nil => simp [tput] at h; subst h; exact .inr ⟨rfl, rfl⟩
  | cons q es ih =>
    obtain ⟨k, a, w⟩ := q
    unfold tput at h
    split at h
    · rcases List.mem_cons.mp h with rfl | h
      · exact .inl ⟨_, .head _, rfl, rfl⟩
      · exact .inl ⟨e, .tail _ h, rfl, rfl⟩
    · rcases List.mem_cons.mp h with rfl | h
      · exact .inl ⟨_, .head _, rfl, rfl⟩
      · rcases ih h with ⟨e', h1, h2⟩ | h
        · exact .inl ⟨e', .tail _ h1, h2⟩
        · exact .inr h
theorem Rel.tdict {a : Addr} {k : Nat} {es : List ((Int × Int) × Addr × V)} (R : Rel Z σ s) (h : σ a = some (.tdict k es)) :
    ∃ xs, s.heap.DictOfH Z.tk a xs ∧ xs.map TK = es.map TE := by
  obtain ⟨o, ho, hx, arr, hd, xs, h1, h2, h3⟩ := R.cell a _ h
  refine ⟨xs, ⟨o, arr, k, ho, hx, hd, h1, fun x hx => ?_, h2⟩, h3⟩
  have : TK x ∈ es.map TE := by rw [← h3]; exact List.mem_map.mpr ⟨x, hx, rfl⟩
  obtain ⟨e, he, hxe⟩ := List.mem_map.mp this
  have w := R.wfT a k es h e he
  simp only [TE, TK, Prod.mk.injEq] at hxe
  rw [← hxe.1, ← hxe.2.1]
  exact tupKey R w
theorem co_dict {a : Addr} {h' : Heap} {kvs : List (Int × Value)} (hm : h'.DictOf Z.ik a kvs) : ∃ n', ∃ o, h'.get? a = some o ∧ CO Z (.dict n' (kvs.map fun p => (p.1, er p.2))) o :=
  let ⟨o, es, ep, ho, hx, hd, h1, h2, h3⟩ := hm
  ⟨ep, o, ho, hx, es, hd, kvs, h1, h2, h3, rfl⟩
theorem co_tdict {a : Addr} {h' : Heap} {xs : List (List Int × Addr × Value)} {es : List ((Int × Int) × Addr × V)} (hm : h'.DictOfH Z.tk a xs) (he : xs.map TK = es.map TE) : ∃ n', ∃ o, h'.get? a = some o ∧ CO Z (.tdict n' es) o :=
  let ⟨o, es', ep, ho, hx, hd, h1, _, h3⟩ := hm
  ⟨ep, o, ho, hx, es', hd, xs, h1, h3, he⟩
theorem op_setItem {vo vk vv : Value} {Q : Sg → Prop} (R : Rel Z σ s) (r : Room A n) (h : SetItemK Q (er vv) (er vo) (er vk) σ) :
    wpAny Z.M A (setItem vo vk vv) (OutS Z σ s Q) NE s := by
  have hu : A.in1.units < cLine := r.units 1
  cases h with
  | @list a xs i e f hx i0 i1 i2 q =>
    have := er_ref e; subst this
    obtain ⟨t, rfl⟩ := er_int f
    obtain ⟨vs, hv, ev⟩ := R.list hx
    have hsz := erL_size ev
    refine setList_plain hv i0 (by lia) (by lia) fun h' ⟨m, ho⟩ hs => ?_
    obtain ⟨R', G'⟩ := R.set (c' := .list (xs.set i.toNat (er vv))) (tk := s.toks) hx rfl .list hs ⟨_, ho, _, m, rfl, by rw [← ev, erL, Array.toList_setIfInBounds, List.map_set]; rfl⟩ (fun _ _ e => by cases e) (fun _ _ e => by cases e)
    exact ⟨_, R', G', q⟩
  | @dict a n es i e f hx l q =>
    have := er_ref e; subst this
    obtain ⟨t, rfl⟩ := er_int f
    obtain ⟨kvs, hd, he⟩ := R.dict hx
    have hl : kvs.length = es.length := by rw [← he, List.length_map]
    refine wpAny_setItem_pairs (intKind_is _ _ i t) hd.dictOf (fun h' hm hs => ?_) (by rw [sizeLine_eq]; lia)
    have nod : (kvs.map (·.1)).Nodup := let ⟨_, _, _, _, _, _, _, h⟩ := hd; h
    have hst := dput_stored (k := i) (v := vv) nod
    rw [he] at hst
    obtain ⟨n', hc⟩ := co_dict hm
    rw [hst] at hc
    obtain ⟨R', G'⟩ := R.set (c' := .dict n' (dput es i (er vv))) (tk := s.toks + 1) hx rfl .dict hs hc (fun _ _ e => by cases e) (fun _ _ e => by cases e)
    exact ⟨_, R', G', q n'⟩
  | @first a n t i j e f hx ht q =>
    have := er_ref e; subst this
    have := er_ref f; subst this
    obtain ⟨kvs, hd, he⟩ := R.dict hx
    have hk : kvs = [] := List.map_eq_nil_iff.mp he
    subst hk
    have hD : s.heap.DictOfH Z.tk a [] := by
      obtain ⟨o, arr, ho, hx', hd', _, h2', _⟩ := hd
      exact ⟨o, arr, n, ho, hx', hd', List.eq_nil_of_length_eq_zero h2'.length, fun _ h => (nomatch h), List.nodup_nil⟩
    refine wpAny_setItem_heap hu (tupKey R ht) hD (fun h' hm hs => ?_) (by rw [sizeLine_eq]; decide)
    obtain ⟨n', hc⟩ := co_tdict (es := [((i, j), t, er vv)]) hm rfl
    obtain ⟨R', G'⟩ := R.set (c' := .tdict n' [((i, j), t, er vv)]) (tk := s.toks + Z.tk.draws [i, j]) hx rfl .dt hs hc (fun _ _ e => by cases e) (fun _ _ e => by
      cases e
      exact fun e he => List.mem_singleton.mp he ▸ ht)
    exact ⟨_, R', G', q n'⟩
  | @tdict a n es t i j e f hx l ht q =>
    have := er_ref e; subst this
    have := er_ref f; subst this
    obtain ⟨xs, hD, he⟩ := R.tdict hx
    have hl : xs.length = es.length := by have := congrArg List.length he; rwa [List.length_map, List.length_map] at this
    refine wpAny_setItem_heap hu (tupKey R ht) hD (fun h' hm hs => ?_) (by rw [sizeLine_eq]; lia)
    have nod : (xs.map (·.1)).Nodup := let ⟨_, _, _, _, _, _, _, _, h⟩ := hD; h
    obtain ⟨n', hc⟩ := co_tdict (es := tput es (i, j) t (er vv)) hm (tput_storedH (p := (i, j)) he nod)
    obtain ⟨R', G'⟩ := R.set (c' := .tdict n' (tput es (i, j) t (er vv))) (tk := s.toks + Z.tk.draws [i, j]) hx rfl .tdict hs hc (fun _ _ e => by cases e) (fun _ _ e => by
      cases e
      intro e he
      rcases tput_mem he with ⟨e', h1, h2, h3⟩ | ⟨h1, h2⟩
      · rw [← h2, ← h3]; exact R.wfT a n es hx e' h1
      · rw [h1, h2]; exact ht)
    exact ⟨_, R', G', q n'⟩
end
end Mine
end
section
open PySem PySem.W PyProof.Rows
namespace Mine
-- R9
noncomputable def RawD (h : Heap) (d : Addr) (es : Array DictEntry) (ep : Nat) : Prop := ∃ o, h.get? d = some o ∧ o.ExactDict ∧ o.data = .dict es ep
theorem RawD.typeIs {s : Shared} {d : Addr} {es : Array DictEntry} {ep : Nat} (x : RawD s.heap d es ep) : s.TypeIs (.ref d) "dict" := let ⟨o, ho, hx, _⟩ := x; ⟨o, ho, hx.1⟩
section
variable {prog : Program} {w : World} {A : Around} {E : Value → Shared → Prop} {s : Shared}
theorem raw_iter {d : Addr} {es : Array DictEntry} {ep : Nat} {Q : Value → Shared → Prop} (hd : (d == sysModules) = false) (hm : RawD s.heap d es ep)
    (hQ : Q (.ref s.heap.objs.size) { s with heap := s.heap.push { cls := .type "dict_keyiterator", data := .fields #[.ref d, .int 0 0, .int es.size 0, .int ep 0] } }) :
    wpAny (model prog w) A (pyIter (.ref d)) Q E s := by
  have hT := hm.typeIs
  obtain ⟨o, ho, -, hdat⟩ := hm
  refine wpAny_pyIter_slot hT F.slot_dict_iter (wpAny_call_entry F.slot_dict_iter hT F.entry_dict_iter ?_ (F.args_dict_iter_1 _))
  unfold Builtin.«dict.__iter__» Builtin.Dict.dictSlotNone
  refine wpAny_bind (wpAny_bind (wpAny_notOrdered_dict hT ?_))
  show wpAny _ _ (pure (Value.ref d)) _ _ s
  refine wpAny_pure ?_
  show wpAny _ _ (Builtin.Dict.showsAll d >>= _) _ _ s
  unfold Builtin.Dict.showsAll
  rw [if_neg (by rw [hd]; decide)]
  exact wpAny_bind (wpAny_pure (wpAny_bind (wpAny_dictEntries ho hdat (wpAny_bind (wpAny_dictEpoch ho hdat (wpAny_bind (wpAny_newObj_type (wpAny_pure ⟨_, rfl, "dict_keyiterator", _, ⟨_, Heap.get?_push_size _ rfl, rfl⟩, F.slot_dict_keyiterator_next.lookup, hQ⟩))))))))
theorem raw_next {it d : Addr} {i ep : Nat} {es : Array DictEntry} {Q : Option Value → Shared → Prop} (hit : s.heap.IsKeyIter it d i es.size ep) (hm : RawD s.heap d es ep) (hi : i < es.size)
    (hQ : ∀ h', h'.IsKeyIter it d (i + 1) es.size ep → Heap.SameBut it s.heap h' → Q (some es[i].key) { s with heap := h' }) :
    wpAny (model prog w) A (pyNext (.ref it)) Q E s := by
  have hT := hit.typeIs
  obtain ⟨o, ho, hc, hd⟩ := hit
  obtain ⟨od, hod, -, hdd⟩ := hm
  unfold pyNext
  refine wpAny_bind (wpAny_attempt (wpAny_callSpecial?_slot (name := Str.ofString "__next__") hT F.slot_dict_keyiterator_next
    (wpAny_call_entry F.slot_dict_keyiterator_next hT F.entry_dict_keyiterator_next ?_ (F.args_dict_keyiterator_next_1 _))))
  refine wpAny_bind (wpAny_pure (wpAny_bind (wpAny_bind ?_)))
  refine wpAny_bind (wpAny_typeNameOfWhole_keyiter hT (wpAny_pure (wpAny_bind (wpAny_fieldsOf ho hd ?_))))
  have hown : Builtin.Dict_items.ownsTuple "dict_keyiterator" = false := by decide
  simp only [hown, Bool.false_eq_true, if_false]
  show wpAny _ _ (if (Value.ref d == Value.none) = true then _ else _) _ _ s
  rw [if_neg (show ¬ ((Value.ref d == Value.none) = true) from Bool.false_ne_true)]
  refine wpAny_bind (wpAny_pure (wpAny_bind (wpAny_dictEntries hod hdd ?_)))
  rw [if_neg (by simp)]
  refine wpAny_bind (wpAny_pure (wpAny_bind (wpAny_dictEpoch hod hdd ?_)))
  rw [if_neg (by simp)]
  refine wpAny_pure ?_
  simp only [show ¬ ((i : Int) < 0) from by lia, if_false, Int.toNat_natCast, Array.getElem?_eq_getElem hi]
  refine wpAny_bind (wpAny_bind (wpAny_typeNameOfWhole_keyiter hT (wpAny_pure (wpAny_bind (wpAny_isOneOf_keyiter hT ?_)))))
  show wpAny _ _ (setField (.ref it) 1 (rawInt ((i : Int) + 1)) >>= _) _ _ s
  refine wpAny_bind (wpAny_setField ho hd (by simp) ?_)
  have hit' : (s.heap.update it (Obj.mapFields (·.setIfInBounds 1 (rawInt ((i : Int) + 1))))).IsKeyIter it d (i + 1) es.size ep :=
    ⟨_, Heap.get?_update_self _ ho (Obj.isFreed_of_fields (Obj.data_mapFields hd _)), (Obj.cls_mapFields ..).trans hc, by rw [Obj.data_mapFields hd]; simp [rawInt]⟩
  refine wpAny_bind (wpAny_holding (wpAny_bind (wpAny_isOneOf_keyiter (s := { s with heap := s.heap.update it (Obj.mapFields (·.setIfInBounds 1 (rawInt ((i : Int) + 1)))) }) hit'.typeIs ?_)))
  show wpAny _ _ (pure es[i].key) _ _ _
  exact wpAny_pure (wpAny_pure ⟨_, rfl, wpAny_pure (hQ _ hit' (Heap.SameBut.update ..))⟩)
theorem raw_end {it d : Addr} {ep : Nat} {es : Array DictEntry} {Q : Option Value → Shared → Prop} (hh : A.handled = none) (hit : s.heap.IsKeyIter it d es.size es.size ep) (hm : RawD s.heap d es ep)
    (hQ : ∀ h', Heap.ExtBut it s.heap h' → Q none { s with heap := h' }) : wpAny (model prog w) A (pyNext (.ref it)) Q E s := by
  have hT := hit.typeIs
  obtain ⟨o, ho, hc, hd⟩ := hit
  obtain ⟨od, hod, -, hdd⟩ := hm
  unfold pyNext
  refine wpAny_bind (wpAny_attempt (wpAny_callSpecial?_slot (name := Str.ofString "__next__") hT F.slot_dict_keyiterator_next
    (wpAny_call_entry F.slot_dict_keyiterator_next hT F.entry_dict_keyiterator_next ?_ (F.args_dict_keyiterator_next_1 _))))
  refine wpAny_bind (wpAny_pure (wpAny_bind (wpAny_bind ?_)))
  refine wpAny_bind (wpAny_typeNameOfWhole_keyiter hT (wpAny_pure (wpAny_bind (wpAny_fieldsOf ho hd ?_))))
  have hown : Builtin.Dict_items.ownsTuple "dict_keyiterator" = false := by decide
  simp only [hown, Bool.false_eq_true, if_false]
  show wpAny _ _ (if (Value.ref d == Value.none) = true then _ else _) _ _ s
  rw [if_neg (show ¬ ((Value.ref d == Value.none) = true) from Bool.false_ne_true)]
  refine wpAny_bind (wpAny_pure (wpAny_bind (wpAny_dictEntries hod hdd ?_)))
  rw [if_neg (by simp)]
  refine wpAny_bind (wpAny_pure (wpAny_bind (wpAny_dictEpoch hod hdd ?_)))
  rw [if_neg (by simp)]
  refine wpAny_pure ?_
  simp only [show ¬ ((es.size : Int) < 0) from by lia, if_false, Int.toNat_natCast, Array.getElem?_eq_none (Nat.le_refl es.size)]
  refine wpAny_bind (wpAny_bind (wpAny_typeNameOfWhole_keyiter hT (wpAny_pure ?_)))
  show wpAny _ _ (setField (.ref it) 0 .none >>= _) _ _ s
  refine wpAny_bind (wpAny_setField ho hd (by simp) ?_)
  show wpAny _ _ (newExc (.type "StopIteration") [] >>= _) _ _ _
  refine wpAny_bind ?_
  simp only [newExc, newTuple]
  refine wpAny_bind (wpAny_newObj_type ?_ (by size_fits))
  refine wpAny_bind (m := firstArgMember _ _) (wpAny_of_eq (a := Value.none) (by first | rfl | (simp only [firstArgMember]; rfl)) ?_)
  refine wpAny_newObj_type ?_ (by size_fits)
  simp only [raiseNew]
  refine wpAny_bind (wpAny_handled ?_)
  rw [show A.in1.handled = none from hh]
  refine wpAny_bind (wpAny_pure (wpAny_throw ?_))
  refine wpAny_bind (wpAny_isInstance (T := "StopIteration") (b := true) ⟨_, Heap.get?_push_size _ rfl, rfl⟩ isSubtype_stop ?_)
  exact wpAny_pure (hQ _ (((Heap.SameBut.update ..).extBut.push _).push _))
theorem rawv_iter {v d : Addr} {es : Array DictEntry} {ep : Nat} {Q : Value → Shared → Prop} (hv : s.heap.IsValuesView v d) (hm : RawD s.heap d es ep)
    (hQ : Q (.ref s.heap.objs.size) { s with heap := s.heap.push { cls := .type "dict_valueiterator", data := .fields #[.ref d, .int 0 0, .int es.size 0, .int ep 0] } }) :
    wpAny (model prog w) A (pyIter (.ref v)) Q E s := by
  have hT := hv.typeIs
  obtain ⟨ov, hov, -, hdv⟩ := hv
  obtain ⟨o, ho, -, hdat⟩ := hm
  refine wpAny_pyIter_slot hT F.slot_dict_values_iter (wpAny_call_entry F.slot_dict_values_iter hT F.entry_dict_values_iter ?_ (F.args_dict_values_iter_1 _))
  unfold Builtin.«dict_values.__iter__»
  refine wpAny_bind (wpAny_pure (wpAny_bind ?_))
  unfold Builtin.Dict_items.dictOf
  refine wpAny_bind (wpAny_field hov hdv (x := .ref d) rfl (wpAny_pure (wpAny_bind ?_)))
  unfold Builtin.Dict_items.newIterator
  refine wpAny_bind (wpAny_dictEntries ho hdat (wpAny_bind (wpAny_dictEpoch ho hdat ?_)))
  have hown : Builtin.Dict_items.ownsTuple "dict_valueiterator" = false := by decide
  simp only [hown, Bool.false_eq_true, if_false]
  exact wpAny_newObj_type (wpAny_pure ⟨_, rfl, "dict_valueiterator", _, ⟨_, Heap.get?_push_size _ rfl, rfl⟩, F.slot_dict_valueiterator_next.lookup, hQ⟩)
theorem rawv_next {it d : Addr} {i ep : Nat} {es : Array DictEntry} {Q : Option Value → Shared → Prop} (hit : s.heap.IsValIter it d i es.size ep) (hm : RawD s.heap d es ep) (hi : i < es.size)
    (hQ : ∀ h', h'.IsValIter it d (i + 1) es.size ep → Heap.SameBut it s.heap h' → Q (some es[i].val) { s with heap := h' }) :
    wpAny (model prog w) A (pyNext (.ref it)) Q E s := by
  have hT := hit.typeIs
  obtain ⟨o, ho, hc, hd⟩ := hit
  obtain ⟨od, hod, -, hdd⟩ := hm
  unfold pyNext
  refine wpAny_bind (wpAny_attempt (wpAny_callSpecial?_slot (name := Str.ofString "__next__") hT F.slot_dict_valueiterator_next
    (wpAny_call_entry F.slot_dict_valueiterator_next hT F.entry_dict_valueiterator_next ?_ (F.args_dict_valueiterator_next_1 _))))
  refine wpAny_bind (wpAny_pure (wpAny_bind (wpAny_bind ?_)))
  refine wpAny_bind (wpAny_typeNameOfWhole_valiter hT (wpAny_pure (wpAny_bind (wpAny_fieldsOf ho hd ?_))))
  have hown : Builtin.Dict_items.ownsTuple "dict_valueiterator" = false := by decide
  simp only [hown, Bool.false_eq_true, if_false]
  show wpAny _ _ (if (Value.ref d == Value.none) = true then _ else _) _ _ s
  rw [if_neg (show ¬ ((Value.ref d == Value.none) = true) from Bool.false_ne_true)]
  refine wpAny_bind (wpAny_pure (wpAny_bind (wpAny_dictEntries hod hdd ?_)))
  rw [if_neg (by simp)]
  refine wpAny_bind (wpAny_pure (wpAny_bind (wpAny_dictEpoch hod hdd ?_)))
  rw [if_neg (by simp)]
  refine wpAny_pure ?_
  simp only [show ¬ ((i : Int) < 0) from by lia, if_false, Int.toNat_natCast, Array.getElem?_eq_getElem hi]
  refine wpAny_bind (wpAny_bind (wpAny_typeNameOfWhole_valiter hT (wpAny_pure (wpAny_bind (wpAny_isOneOf_valiter hT ?_)))))
  show wpAny _ _ (setField (.ref it) 1 (rawInt ((i : Int) + 1)) >>= _) _ _ s
  refine wpAny_bind (wpAny_setField ho hd (by simp) ?_)
  have hit' : (s.heap.update it (Obj.mapFields (·.setIfInBounds 1 (rawInt ((i : Int) + 1))))).IsValIter it d (i + 1) es.size ep :=
    ⟨_, Heap.get?_update_self _ ho (Obj.isFreed_of_fields (Obj.data_mapFields hd _)), (Obj.cls_mapFields ..).trans hc, by rw [Obj.data_mapFields hd]; simp [rawInt]⟩
  refine wpAny_bind (wpAny_holding (wpAny_bind (wpAny_isOneOf_valiter (s := { s with heap := s.heap.update it (Obj.mapFields (·.setIfInBounds 1 (rawInt ((i : Int) + 1)))) }) hit'.typeIs ?_)))
  refine wpAny_bind (wpAny_isOneOf_valiter (s := { s with heap := s.heap.update it (Obj.mapFields (·.setIfInBounds 1 (rawInt ((i : Int) + 1)))) }) hit'.typeIs ?_)
  show wpAny _ _ (pure es[i].val) _ _ _
  exact wpAny_pure (wpAny_pure ⟨_, rfl, wpAny_pure (hQ _ hit' (Heap.SameBut.update ..))⟩)
theorem rawv_end {it d : Addr} {ep : Nat} {es : Array DictEntry} {Q : Option Value → Shared → Prop} (hh : A.handled = none) (hit : s.heap.IsValIter it d es.size es.size ep) (hm : RawD s.heap d es ep)
    (hQ : ∀ h', Heap.ExtBut it s.heap h' → Q none { s with heap := h' }) : wpAny (model prog w) A (pyNext (.ref it)) Q E s := by
  have hT := hit.typeIs
  obtain ⟨o, ho, hc, hd⟩ := hit
  obtain ⟨od, hod, -, hdd⟩ := hm
  unfold pyNext
  refine wpAny_bind (wpAny_attempt (wpAny_callSpecial?_slot (name := Str.ofString "__next__") hT F.slot_dict_valueiterator_next
    (wpAny_call_entry F.slot_dict_valueiterator_next hT F.entry_dict_valueiterator_next ?_ (F.args_dict_valueiterator_next_1 _))))
  refine wpAny_bind (wpAny_pure (wpAny_bind (wpAny_bind ?_)))
  refine wpAny_bind (wpAny_typeNameOfWhole_valiter hT (wpAny_pure (wpAny_bind (wpAny_fieldsOf ho hd ?_))))
  have hown : Builtin.Dict_items.ownsTuple "dict_valueiterator" = false := by decide
  simp only [hown, Bool.false_eq_true, if_false]
  show wpAny _ _ (if (Value.ref d == Value.none) = true then _ else _) _ _ s
  rw [if_neg (show ¬ ((Value.ref d == Value.none) = true) from Bool.false_ne_true)]
  refine wpAny_bind (wpAny_pure (wpAny_bind (wpAny_dictEntries hod hdd ?_)))
  rw [if_neg (by simp)]
  refine wpAny_bind (wpAny_pure (wpAny_bind (wpAny_dictEpoch hod hdd ?_)))
  rw [if_neg (by simp)]
  refine wpAny_pure ?_
  simp only [show ¬ ((es.size : Int) < 0) from by lia, if_false, Int.toNat_natCast, Array.getElem?_eq_none (Nat.le_refl es.size)]
  refine wpAny_bind (wpAny_bind (wpAny_typeNameOfWhole_valiter hT (wpAny_pure ?_)))
  show wpAny _ _ (setField (.ref it) 0 .none >>= _) _ _ s
  refine wpAny_bind (wpAny_setField ho hd (by simp) ?_)
  show wpAny _ _ (newExc (.type "StopIteration") [] >>= _) _ _ _
  refine wpAny_bind ?_
  simp only [newExc, newTuple]
  refine wpAny_bind (wpAny_newObj_type ?_ (by size_fits))
  refine wpAny_bind (m := firstArgMember _ _) (wpAny_of_eq (a := Value.none) (by first | rfl | (simp only [firstArgMember]; rfl)) ?_)
  refine wpAny_newObj_type ?_ (by size_fits)
  simp only [raiseNew]
  refine wpAny_bind (wpAny_handled ?_)
  rw [show A.in1.handled = none from hh]
  refine wpAny_bind (wpAny_pure (wpAny_throw ?_))
  refine wpAny_bind (wpAny_isInstance (T := "StopIteration") (b := true) ⟨_, Heap.get?_push_size _ rfl, rfl⟩ isSubtype_stop ?_)
  exact wpAny_pure (hQ _ (((Heap.SameBut.update ..).extBut.push _).push _))
end
end Mine
end
section
open PySem PySem.W PyProof.Rows
namespace Mine
-- R10
section
variable {Z : Zt} {σ σ' : Sg} {s : Shared} {A : Around} {n : Nat} {Q : Po} {E : Value → Shared → Prop}
inductive ItAt (σ : Sg) (h : Heap) (I : Addr) (src : V) (i : Nat) : List V → Prop
  | list {a xs} (e : src = .ref a) (k : σ a = some (.list xs)) (x : h.IsListIter I a i) : ItAt σ h I src i xs
  | tup {a xs} (e : src = .ref a) (k : σ a = some (.tup xs)) (x : IsTupIter h I a i) : ItAt σ h I src i xs
  | range {a lo hi} (e : src = .ref a) (k : σ a = some (.range lo hi)) (x : IsRangeIter h I (lo + i) (Builtin.Range.rangeSize lo hi 1 - i) 1) : ItAt σ h I src i (rangeL lo hi)
  | dict {a n es} (e : src = .ref a) (k : σ a = some (.dict n es)) (x : h.IsKeyIter I a i es.length n) : ItAt σ h I src i (es.map fun e => V.int e.1)
  | tdict {a n es} (e : src = .ref a) (k : σ a = some (.tdict n es)) (x : h.IsKeyIter I a i es.length n) : ItAt σ h I src i (es.map fun e => V.ref e.2.1)
  | vals {a d n es} (e : src = .ref a) (k : σ a = some (.vals d)) (k' : σ d = some (.dict n es)) (x : h.IsValIter I d i es.length n) : ItAt σ h I src i (es.map fun e => e.2)
  | tvals {a d n es} (e : src = .ref a) (k : σ a = some (.vals d)) (k' : σ d = some (.tdict n es)) (x : h.IsValIter I d i es.length n) : ItAt σ h I src i (es.map fun e => e.2.2)
theorem Same.refl (src : V) (σ : Sg) : Same src σ σ := fun _ _ => ⟨rfl, fun _ _ => rfl⟩
theorem Same.trans {src : V} {σ σ' σ'' : Sg} (h : Same src σ σ') (k : Same src σ' σ'') : Same src σ σ'' := fun a e => ⟨(k a e).1.trans (h a e).1, fun d q => ((k a e).2 d ((h a e).1.trans q)).trans ((h a e).2 d q)⟩
theorem Same.symm {src : V} (h : Same src σ σ') : Same src σ' σ := fun a e => ⟨(h a e).1.symm, fun d q => ((h a e).2 d ((h a e).1.symm.trans q)).symm⟩
theorem ItAt.to {src : V} {h h' : Heap} {I : Addr} {i : Nat} {xs : List V} (x : ItAt σ h I src i xs) (hk : ∀ o, h.get? I = some o → h'.get? I = some o) (S : Same src σ σ') : ItAt σ' h' I src i xs := by
  cases x with
  | list e k x => obtain ⟨o, ho, r⟩ := x; exact .list e ((S _ e).1.trans k) ⟨o, hk o ho, r⟩
  | tup e k x => obtain ⟨o, ho, r⟩ := x; exact .tup e ((S _ e).1.trans k) ⟨o, hk o ho, r⟩
  | range e k x => exact .range e ((S _ e).1.trans k) (hk _ x)
  | dict e k x => obtain ⟨o, ho, r⟩ := x; exact .dict e ((S _ e).1.trans k) ⟨o, hk o ho, r⟩
  | tdict e k x => obtain ⟨o, ho, r⟩ := x; exact .tdict e ((S _ e).1.trans k) ⟨o, hk o ho, r⟩
  | vals e k k' x => obtain ⟨o, ho, r⟩ := x; exact .vals e ((S _ e).1.trans k) (((S _ e).2 _ k).trans k') ⟨o, hk o ho, r⟩
  | tvals e k k' x => obtain ⟨o, ho, r⟩ := x; exact .tvals e ((S _ e).1.trans k) (((S _ e).2 _ k).trans k') ⟨o, hk o ho, r⟩
theorem ItAt.keep {src : V} {h h' : Heap} {I : Addr} {i : Nat} {xs : List V} (x : ItAt σ h I src i xs) (hk : ∀ o, h.get? I = some o → h'.get? I = some o) : ItAt σ h' I src i xs := x.to hk (Same.refl _ _)
theorem ItAt.some {src : V} {h : Heap} {I : Addr} {i : Nat} {xs : List V} (x : ItAt σ h I src i xs) : (h.get? I).isSome = true := by
  cases x with
  | range e k x => rw [x]; rfl
  | list e k x => obtain ⟨o, ho, _⟩ := x; rw [ho]; rfl
  | tup e k x => obtain ⟨o, ho, _⟩ := x; rw [ho]; rfl
  | dict e k x => obtain ⟨o, ho, _⟩ := x; rw [ho]; rfl
  | tdict e k x => obtain ⟨o, ho, _⟩ := x; rw [ho]; rfl
  | vals e k k' x => obtain ⟨o, ho, _⟩ := x; rw [ho]; rfl
  | tvals e k k' x => obtain ⟨o, ho, _⟩ := x; rw [ho]; rfl
theorem it_self {src : V} {I : Addr} {i : Nat} {xs : List V} {Q' : Value → Shared → Prop} (x : ItAt σ s.heap I src i xs) (h : Q' (.ref I) s) : wpAny Z.M A (pyIter (.ref I)) Q' E s := by
  cases x with
  | list e k x => exact wpAny_pyIter_listiter x h
  | tup e k x => exact wpAny_pyIter_tupleiter x h
  | range e k x => exact wpAny_pyIter_rangeiter x h
  | dict e k x => exact wpAny_pyIter_keyiter x h
  | tdict e k x => exact wpAny_pyIter_keyiter x h
  | vals e k k' x => exact wpAny_pyIter_valiter x h
  | tvals e k k' x => exact wpAny_pyIter_valiter x h
theorem Rel.rawDict {a : Addr} {k : Nat} {es : List (Int × V)} (R : Rel Z σ s) (h : σ a = some (.dict k es)) :
    ∃ arr : Array DictEntry, RawD s.heap a arr k ∧ arr.size = es.length ∧ ∀ (i : Nat) e, es[i]? = some e → ∃ x, arr[i]? = some x ∧ er x.key = .int e.1 ∧ er x.val = e.2 := by
  obtain ⟨o, ho, hx, arr, hd, kvs, h1, h2, h3, h4⟩ := R.cell a _ h
  have hl : arr.size = kvs.length := by have := h2.length; simpa using this
  refine ⟨arr, ⟨o, ho, hx, hd⟩, by rw [hl, ← h4]; simp, fun i e he => ?_⟩
  rw [← h4, List.getElem?_map] at he
  obtain ⟨⟨k', v⟩, hkv, rfl⟩ := Option.map_eq_some_iff.mp he
  have hi : i < arr.size := by rw [hl]; exact (List.getElem?_eq_some_iff.mp hkv).1
  have := h2.get? (e := arr[i]) (by simp [hi]) hkv
  refine ⟨arr[i], Array.getElem?_eq_getElem hi, ?_, by rw [this.2]⟩
  have hk := this.1
  unfold KeyKind.is at hk
  cases q : arr[i].key <;> rw [q] at hk <;> simp [Zt.ik, intKind, Value.isInt] at hk
  subst hk; rfl
theorem Rel.rawT {a : Addr} {k : Nat} {es : List ((Int × Int) × Addr × V)} (R : Rel Z σ s) (h : σ a = some (.tdict k es)) :
    ∃ arr : Array DictEntry, RawD s.heap a arr k ∧ arr.size = es.length ∧ ∀ (i : Nat) e, es[i]? = some e → ∃ x, arr[i]? = some x ∧ er x.key = .ref e.2.1 ∧ er x.val = e.2.2 := by
  obtain ⟨o, ho, hx, arr, hd, xs, h1, h2, h3⟩ := R.cell a _ h
  have hl : arr.size = xs.length := by have := congrArg List.length h1; simpa using this
  have hl2 : xs.length = es.length := by have := congrArg List.length h3; simpa using this
  refine ⟨arr, ⟨o, ho, hx, hd⟩, hl.trans hl2, fun i e he => ?_⟩
  have hi : i < es.length := (List.getElem?_eq_some_iff.mp he).1
  have hx : xs[i]? = some (xs[i]'(by lia)) := List.getElem?_eq_getElem (by lia)
  have e1 : arr[i]? = some (entryOfKey Z.tk (xs[i]'(by lia))) := by
    rw [← Array.getElem?_toList, h1, List.getElem?_map, hx]; rfl
  have e2 := congrArg (fun l => l[i]?) h3
  simp only [List.getElem?_map, hx, he, Option.map_some, Option.some.injEq, Prod.mk.injEq] at e2
  exact ⟨_, e1, by show er (Value.ref _) = _; rw [e2.2.1]; rfl, e2.2.2⟩
theorem size_none (R : Rel Z σ s) : σ s.heap.objs.size = none := by
  cases e : σ s.heap.objs.size with
  | none => rfl
  | some c => obtain ⟨o, ho, _⟩ := R.cell _ c e; exact absurd (Heap.lt_size ho) (Nat.lt_irrefl _)
inductive ItStart (Z : Zt) (σ : Sg) (s : Shared) (src : V) (xs : List V) (it : Value) (s' : Shared) : Prop
  | mk (o : Obj) (h1 : it = .ref s.heap.objs.size) (h2 : s' = { s with heap := s.heap.push o }) (h3 : o.isFreed = false) (R : Rel Z σ s') (G : Grow σ s σ s') (x : ItAt σ s'.heap s.heap.objs.size src 0 xs)
theorem range_small {lo hi : Int} (h : -(2 ^ 62) < lo ∧ lo < 2 ^ 62 ∧ -(2 ^ 62) < hi ∧ hi < 2 ^ 62) : Builtin.Range.small lo hi 1 = true := by
  unfold Builtin.Range.small Builtin.Range.rangeFitsLong Builtin.Range.rangeSize
  simp only [gt_iff_lt, show (0 : Int) < 1 by decide, if_true, Int.ediv_one]
  split <;> simp <;> lia
theorem it_start (S : Static Z) {v : Value} {xs : List V} (R : Rel Z σ s) (h : Items σ (er v) xs) {Q' : Value → Shared → Prop} (hq : ∀ it s', ItStart Z σ s (er v) xs it s' → Q' it s') : wpAny Z.M A (pyIter v) Q' E s := by
  have go : ∀ o : Obj, o.isFreed = false → ItAt σ (s.heap.push o) s.heap.objs.size (er v) 0 xs → Q' (.ref s.heap.objs.size) { s with heap := s.heap.push o } := fun o ho hi =>
    have ⟨R', G'⟩ := R.more (tk := s.toks) fun b o' e => Heap.get?_push_of_some o e
    hq _ _ ⟨o, rfl, rfl, ho, R', G', hi⟩
  cases h with
  | list e hx =>
    have := er_ref e; subst this
    obtain ⟨vs, hv, ev⟩ := R.list hx
    exact wpAny_pyIter_list hv.isList (go _ rfl (.list rfl hx ⟨_, Heap.get?_push_size _ rfl, rfl, rfl⟩))
  | tup e hx =>
    have := er_ref e; subst this
    obtain ⟨vs, hv, ev⟩ := R.tup hx
    exact iter_tuple hv (go _ rfl (.tup rfl hx ⟨_, Heap.get?_push_size _ rfl, rfl, rfl⟩))
  | @range a lo hi e hx =>
    have := er_ref e; subst this
    obtain ⟨o, ho, hb, t, u, w, rfl⟩ := R.cell _ _ hx
    refine wpAny_pyIter_range (t := t) (u := u) (v := w) ho (range_small hb) (go _ rfl (.range rfl hx ?_))
    rw [show lo + ((0 : Nat) : Int) = lo from Int.add_zero _, show ∀ x : Int, x - ((0 : Nat) : Int) = x from Int.sub_zero]
    exact Heap.get?_push_size _ rfl
  | dict e hx =>
    have := er_ref e; subst this
    obtain ⟨arr, hr, hsz, -⟩ := R.rawDict hx
    exact raw_iter (R.notSys S hx rfl) hr (go _ rfl (.dict rfl hx ⟨_, Heap.get?_push_size _ rfl, rfl, by rw [hsz]; rfl⟩))
  | tdict e hx =>
    have := er_ref e; subst this
    obtain ⟨arr, hr, hsz, -⟩ := R.rawT hx
    exact raw_iter (R.notSys S hx rfl) hr (go _ rfl (.tdict rfl hx ⟨_, Heap.get?_push_size _ rfl, rfl, by rw [hsz]; rfl⟩))
  | vals e hx hy =>
    have := er_ref e; subst this
    obtain ⟨o, ho, hc, hd⟩ := R.cell _ _ hx
    obtain ⟨arr, hr, hsz, -⟩ := R.rawDict hy
    exact rawv_iter ⟨o, ho, hc, hd⟩ hr (go _ rfl (.vals rfl hx hy ⟨_, Heap.get?_push_size _ rfl, rfl, by rw [hsz]; rfl⟩))
  | tvals e hx hy =>
    have := er_ref e; subst this
    obtain ⟨o, ho, hc, hd⟩ := R.cell _ _ hx
    obtain ⟨arr, hr, hsz, -⟩ := R.rawT hy
    exact rawv_iter ⟨o, ho, hc, hd⟩ hr (go _ rfl (.tvals rfl hx hy ⟨_, Heap.get?_push_size _ rfl, rfl, by rw [hsz]; rfl⟩))
noncomputable def Stepped (I : Addr) (s s' : Shared) : Prop := ∃ h' tk, s' = { s with heap := h', toks := tk } ∧ ∀ b o, b ≠ I → s.heap.get? b = some o → h'.get? b = some o
theorem Stepped.rel {I : Addr} {s s' : Shared} (x : Stepped I s s') (R : Rel Z σ s) (h0 : σ I = none) (hb : Z.base.get? I = none) : Rel Z σ s' := by
  obtain ⟨h', tk, rfl, hk⟩ := x
  refine R.aside fun b o e hor => hk b o ?_ e
  rintro rfl
  rcases hor with ⟨c, hc⟩ | ⟨o, ho⟩
  · rw [h0] at hc; cases hc
  · rw [hb] at ho; cases ho
theorem Stepped.grow {I : Addr} {X : Addr → Prop} {s s' : Shared} (x : Stepped I s s') (hI : X I) : GrowX X σ s σ s' := by
  obtain ⟨h', tk, rfl, hk⟩ := x
  exact ⟨fun b o hx _ e => hk b o (fun q => hx (q ▸ hI)) e, fun _ h k => absurd h k⟩
theorem range_size {lo hi : Int} : Builtin.Range.rangeSize lo hi 1 = ((hi - lo).toNat : Int) := by
  unfold Builtin.Range.rangeSize
  simp only [gt_iff_lt, show (0 : Int) < 1 by decide, if_true, Int.ediv_one]
  split <;> lia
theorem it_next {src : V} {xs : List V} {x : V} {I : Addr} {i : Nat} {Q' : Option Value → Shared → Prop} (R : Rel Z σ s) (hi : ItAt σ s.heap I src i xs) (hx : xs[i]? = some x)
    (hq : ∀ v s', er v = x → Stepped I s s' → ItAt σ s'.heap I src (i + 1) xs → Q' (some v) s') : wpAny Z.M A (pyNext (.ref I)) Q' E s := by
  have st : ∀ {h' : Heap} {tk : Nat}, Heap.SameBut I s.heap h' → Stepped I s { s with heap := h', toks := tk } := fun hs => ⟨_, _, rfl, fun b o hb e => hs.extBut b o hb e⟩
  cases hi with
  | list e hc hi =>
    obtain ⟨vs, hv, ev⟩ := R.list hc
    obtain ⟨val, hval, hev⟩ := erL_get' ev hx
    exact wpAny_pyNext_list_item hi hv.isList hval fun h' hit' hs => hq val _ hev (st (tk := s.toks) hs) (.list e hc hit')
  | tup e hc hi =>
    obtain ⟨vs, hv, ev⟩ := R.tup hc
    obtain ⟨val, hval, hev⟩ := erL_get' ev hx
    exact next_tuple_item hi hv hval fun h' hit' hs => hq val _ hev (st (tk := s.toks) hs) (.tup e hc hit')
  | @range a lo hi' e hc hi =>
    rw [rangeL, List.getElem?_map] at hx
    obtain ⟨k, hk, rfl⟩ := Option.map_eq_some_iff.mp hx
    have hlt := (List.getElem?_eq_some_iff.mp hk).1
    rw [List.length_range] at hlt
    rw [List.getElem?_range hlt] at hk
    cases hk
    refine wpAny_pyNext_range_item hi (by rw [range_size]; lia) fun h' hit' hs => hq _ _ rfl (st hs) (.range e hc ?_)
    rw [show lo + ((i + 1 : Nat) : Int) = lo + i + 1 by lia, show Builtin.Range.rangeSize lo hi' 1 - ((i + 1 : Nat) : Int) = Builtin.Range.rangeSize lo hi' 1 - i - 1 by lia]
    exact hit'
  | dict e hc hi =>
    obtain ⟨arr, hr, hsz, hall⟩ := R.rawDict hc
    rw [List.getElem?_map] at hx
    obtain ⟨y, he, rfl⟩ := Option.map_eq_some_iff.mp hx
    obtain ⟨z, hz, hk, -⟩ := hall i y he
    obtain ⟨hlt, rfl⟩ := Array.getElem?_eq_some_iff.mp hz
    rw [← hsz] at hi
    exact raw_next hi hr hlt fun h' hit' hs => hq _ _ hk (st (tk := s.toks) hs) (.dict e hc (hsz ▸ hit'))
  | tdict e hc hi =>
    obtain ⟨arr, hr, hsz, hall⟩ := R.rawT hc
    rw [List.getElem?_map] at hx
    obtain ⟨y, he, rfl⟩ := Option.map_eq_some_iff.mp hx
    obtain ⟨z, hz, hk, -⟩ := hall i y he
    obtain ⟨hlt, rfl⟩ := Array.getElem?_eq_some_iff.mp hz
    rw [← hsz] at hi
    exact raw_next hi hr hlt fun h' hit' hs => hq _ _ hk (st (tk := s.toks) hs) (.tdict e hc (hsz ▸ hit'))
  | vals e hc hd hi =>
    obtain ⟨arr, hr, hsz, hall⟩ := R.rawDict hd
    rw [List.getElem?_map] at hx
    obtain ⟨y, he, rfl⟩ := Option.map_eq_some_iff.mp hx
    obtain ⟨z, hz, -, hk⟩ := hall i y he
    obtain ⟨hlt, rfl⟩ := Array.getElem?_eq_some_iff.mp hz
    rw [← hsz] at hi
    exact rawv_next hi hr hlt fun h' hit' hs => hq _ _ hk (st (tk := s.toks) hs) (.vals e hc hd (hsz ▸ hit'))
  | tvals e hc hd hi =>
    obtain ⟨arr, hr, hsz, hall⟩ := R.rawT hd
    rw [List.getElem?_map] at hx
    obtain ⟨y, he, rfl⟩ := Option.map_eq_some_iff.mp hx
    obtain ⟨z, hz, -, hk⟩ := hall i y he
    obtain ⟨hlt, rfl⟩ := Array.getElem?_eq_some_iff.mp hz
    rw [← hsz] at hi
    exact rawv_next hi hr hlt fun h' hit' hs => hq _ _ hk (st (tk := s.toks) hs) (.tvals e hc hd (hsz ▸ hit'))
theorem it_end {src : V} {xs : List V} {I : Addr} {Q' : Option Value → Shared → Prop} (hh : A.handled = none) (R : Rel Z σ s) (hi : ItAt σ s.heap I src xs.length xs)
    (hq : ∀ s', Stepped I s s' → Q' none s') : wpAny Z.M A (pyNext (.ref I)) Q' E s := by
  have st : ∀ {h' : Heap}, Heap.ExtBut I s.heap h' → Stepped I s { s with heap := h' } := fun hs => ⟨_, s.toks, rfl, fun b o hb e => hs b o hb e⟩
  generalize hn : xs.length = n at hi
  cases hi with
  | list e hc hi =>
    obtain ⟨vs, hv, ev⟩ := R.list hc
    exact wpAny_pyNext_list_end hh hi hv.isList (Array.getElem?_eq_none (Nat.le_of_eq ((erL_size ev).trans hn))) fun h' hs => hq _ (st hs)
  | tup e hc hi =>
    obtain ⟨vs, hv, ev⟩ := R.tup hc
    exact next_tuple_end hh hi hv (Array.getElem?_eq_none (Nat.le_of_eq ((erL_size ev).trans hn))) fun h' hs => hq _ (st hs)
  | range e hc hi =>
    rw [rangeL, List.length_map, List.length_range] at hn
    exact wpAny_pyNext_range_end hh hi (by rw [range_size]; lia) fun h' hs => hq _ (st hs)
  | dict e hc hi =>
    obtain ⟨arr, hr, hsz, hall⟩ := R.rawDict hc
    rw [List.length_map] at hn
    subst hn
    rw [← hsz] at hi
    exact raw_end hh hi hr fun h' hs => hq _ (st hs)
  | tdict e hc hi =>
    obtain ⟨arr, hr, hsz, hall⟩ := R.rawT hc
    rw [List.length_map] at hn
    subst hn
    rw [← hsz] at hi
    exact raw_end hh hi hr fun h' hs => hq _ (st hs)
  | vals e hc hd hi =>
    obtain ⟨arr, hr, hsz, hall⟩ := R.rawDict hd
    rw [List.length_map] at hn
    subst hn
    rw [← hsz] at hi
    exact rawv_end hh hi hr fun h' hs => hq _ (st hs)
  | tvals e hc hd hi =>
    obtain ⟨arr, hr, hsz, hall⟩ := R.rawT hd
    rw [List.length_map] at hn
    subst hn
    rw [← hsz] at hi
    exact rawv_end hh hi hr fun h' hs => hq _ (st hs)
end
end Mine
end
section
open PySem PySem.W PyProof.Rows
namespace Mine
-- R11
section
variable {Z : Zt} {σ : Sg} {s : Shared} {A : Around} {n : Nat} {Q : Po}
theorem map1 {l : List Value} {x : V} (h : l.map er = [x]) : ∃ v, l = [v] ∧ er v = x := by
  obtain ⟨v, l', rfl, e, h⟩ := List.map_eq_cons_iff.mp h
  exact ⟨v, by rw [List.map_eq_nil_iff.mp h], e⟩
theorem map2 {l : List Value} {x y : V} (h : l.map er = [x, y]) : ∃ v w, l = [v, w] ∧ er v = x ∧ er w = y := by
  obtain ⟨v, l', rfl, e, h⟩ := List.map_eq_cons_iff.mp h
  obtain ⟨w, rfl, e'⟩ := map1 h
  exact ⟨v, w, rfl, e, e'⟩
theorem ints_are {vs : List Value} : ∀ {is : List Int}, vs.map er = is.map V.int → IntsAre vs is := by
  induction vs with
  | nil => intro is h; rw [List.map_eq_nil_iff.mp h.symm]; exact .nil
  | cons v vs ih =>
    intro is h
    obtain ⟨i, is', rfl, e, h'⟩ := List.map_eq_cons_iff.mp h.symm
    obtain ⟨t, rfl⟩ := er_int e.symm
    exact .cons _ _ (ih h'.symm)
theorem IntsAre.er {vs : List Value} {is : List Int} (h : IntsAre vs is) : vs.map er = is.map V.int := by
  induction h with
  | nil => rfl
  | cons n t h ih => rw [List.map_cons, ih]; rfl
theorem out_more {h' : Heap} {tk : Nat} {v : Value} (R : Rel Z σ s) (hk : ∀ b o, s.heap.get? b = some o → h'.get? b = some o) (h : Q (er v) σ) : Out Z σ s Q v { s with heap := h', toks := tk } :=
  ⟨σ, (R.more hk).1, (R.more hk).2, h⟩
theorem itemsOf_er {P : Nat → Value → Prop} {acc : Array Value} {n : Nat} (h : ItemsOf P acc n) {xs : List V} (hl : xs.length = n) (hp : ∀ i v, P i v → i < n → ∃ x, xs[i]? = some x ∧ er v = x) : erL acc = xs := by
  refine List.ext_getElem? fun i => ?_
  rw [erL_get (rfl : erL acc = erL acc)]
  by_cases hi : i < n
  · have hi' : i < acc.size := by rw [h.1]; exact hi
    rw [Array.getElem?_eq_getElem hi']
    obtain ⟨x, hx, e⟩ := hp i acc[i] (h.2 i _ (Array.getElem?_eq_getElem hi')) hi
    rw [hx]; exact congrArg some e
  · rw [Array.getElem?_eq_none (by rw [h.1]; exact Nat.not_lt.mp hi), List.getElem?_eq_none (by rw [hl]; exact Nat.not_lt.mp hi)]; rfl
theorem key_int {v : Value} {h : Heap} {k : Int} (hv : Z.ik.is k v) : er v = .int k := by
  unfold KeyKind.is at hv
  cases q : v <;> rw [q] at hv <;> simp [Zt.ik, intKind, Value.isInt] at hv
  subst hv; rfl
theorem op_list_of (S : Static Z) {v : Value} {xs : List V} (R : Rel Z σ s) (r : Room A n) (h : Lst σ (er v) xs) (hl : xs.length ≤ 1000) (hq : New σ (.list xs) Q) :
    wpAny Z.M A (PySem.call (.type "list") [v]) (Out Z σ s Q) NE s := by
  cases h with
  | list e hx =>
    have := er_ref e; subst this
    obtain ⟨vs, hv, ev⟩ := R.list hx
    obtain ⟨o, ho, hc, k, hd⟩ := hv.isList
    exact call_list_seq (hsz := by rw [erL_size ev, sizeLine_eq]; lia) _ (.inl rfl) ho hc hd fun h' c' hk hD => out_at (c := .list _) (tk := s.toks) R (new_addr _) hk ⟨_, hD, _, _, rfl, ev⟩ rfl hq
  | tup e hx =>
    have := er_ref e; subst this
    obtain ⟨vs, hv, ev⟩ := R.tup hx
    obtain ⟨o, ho, hc, k, hd⟩ := hv
    exact call_list_seq (hsz := by rw [erL_size ev, sizeLine_eq]; lia) _ (.inr rfl) ho hc hd fun h' c' hk hD => out_at (c := .list _) (tk := s.toks) R (new_addr _) hk ⟨_, hD, _, _, rfl, ev⟩ rfl hq
  | @range a lo hi e hx =>
    have := er_ref e; subst this
    obtain ⟨o, ho, hb, t, u, w, rfl⟩ := R.cell _ _ hx
    rw [rangeL, List.length_map, List.length_range] at hl
    refine call_list_range (n := (hi - lo).toNat) r.h (t := t) (u := u) (v := w) (show IsRange s.heap a lo hi 1 t u w from ho) (range_small hb) range_size (by lia) fun h' tk acc' c' hk hS' hacc => ?_
    refine out_at (c := .list _) R (new_addr _) hk ⟨_, hS', _, _, rfl, itemsOf_er hacc (by rw [rangeL, List.length_map, List.length_range]) fun i v hv hi' => ?_⟩ rfl hq
    obtain ⟨t, rfl⟩ := hv
    exact ⟨_, by rw [rangeL, List.getElem?_map, List.getElem?_range hi']; rfl, congrArg V.int (by rw [Int.mul_one])⟩
  | @dict a k es e hx =>
    have := er_ref e; subst this
    obtain ⟨kvs, hd, he⟩ := R.dict hx
    have hlen : kvs.length = es.length := by rw [← he, List.length_map]
    rw [List.length_map] at hl
    refine kdl_call (kdl_dict (knd := Z.ik) (kvs := kvs) (ep := k) (R.notSys S hx rfl)) r.h hd (by rw [hlen, sizeLine_eq]; lia) fun h' tk acc' c' hk hS' hacc => ?_
    refine out_at (c := .list _) R (new_addr _) hk ⟨_, hS', _, _, rfl, itemsOf_er hacc (by rw [List.length_map, hlen]) fun i v hv hi' => ?_⟩ rfl hq
    obtain ⟨k', x, hkx, hv⟩ := hv
    rw [← he, List.getElem?_map, List.getElem?_map, hkx]
    exact ⟨_, rfl, key_int (h := s.heap) hv⟩
theorem pairsOf_at (R : Rel Z σ s) : ∀ {vs : List Value} {kvs : List (Int × V)}, PairsOf σ (vs.map er) kvs → ∃ ps : List (Int × Value), ps.map (fun p => (p.1, er p.2)) = kvs ∧ ps.length = vs.length ∧ ∀ (j : Nat) (p : Int × Value), ps[j]? = some p → ∃ x, vs[j]? = some x ∧ PairAt s.heap x p.1 p.2
  | [], kvs, h => by cases h; exact ⟨[], rfl, rfl, fun j p hp => nomatch hp⟩
  | v :: vs, kvs, h => by
    rw [List.map_cons] at h
    generalize hv : er v = x at h
    generalize hw : vs.map er = y at h
    cases h with
    | @cons t k w _ l ht hl =>
    rw [er_ref hv]
    obtain ⟨ps, h1, h2, h3⟩ := pairsOf_at R (hw ▸ hl)
    obtain ⟨ws, ⟨o, ho, hc, n, hd⟩, ew⟩ := R.tup ht
    obtain ⟨wl⟩ := ws
    obtain ⟨a, b, rfl, e1, e2⟩ := map2 ew
    obtain ⟨t', rfl⟩ := er_int e1
    refine ⟨(k, b) :: ps, by rw [List.map_cons, h1, e2], congrArg (· + 1) h2, fun j p hp => ?_⟩
    cases j with
    | zero => cases hp; exact ⟨_, rfl, t, t', rfl, o, ho, hc, n, hd⟩
    | succ j => exact h3 j p hp
theorem stored_nd {kvs : List (Int × Value)} {k : Int} {v : Value} (h : (kvs.map (·.1)).Nodup) : ((stored kvs k v).map (·.1)).Nodup := by
  unfold stored
  split
  · have : ∀ l : List (Int × Value), (l.map fun p => if p.1 = k then (p.1, v) else p).map (·.1) = l.map (·.1) := fun l => by
      induction l with
      | nil => rfl
      | cons p l ih => simp only [List.map_cons, ih]; split <;> rfl
    have e := this kvs
    first
      | (rw [e]; exact h)
      | (have e2 : (kvs.map fun p => if p.1 = k then (p.1, v) else p) = _ := rfl; simpa using h)
  · rename_i hc
    rw [List.map_append, List.nodup_append]
    refine ⟨h, by simp, ?_⟩
    intro a ha b hb hab
    subst hab
    simp at hb
    subst hb
    obtain ⟨p, hp, rfl⟩ := List.mem_map.mp ha
    apply hc
    exact List.any_eq_true.mpr ⟨p, hp, by simp⟩
theorem stored_fold : ∀ (ps : List (Int × Value)) (kvs : List (Int × Value)), (kvs.map (·.1)).Nodup →
    (ps.foldl (fun es p => stored es p.1 p.2) kvs).map (fun p => (p.1, er p.2)) = (ps.map fun p => (p.1, er p.2)).foldl (fun es kv => dput es kv.1 kv.2) (kvs.map fun p => (p.1, er p.2))
  | [], _, _ => rfl
  | p :: ps, kvs, h => by
    rw [List.foldl_cons, List.map_cons, List.foldl_cons, stored_fold ps _ (stored_nd h), dput_stored h]
theorem op_set {a : Addr} {is : List Int} (R : Rel Z σ s) (r : Room A n) (hx : σ a = some (.list (is.map V.int))) (h2 : ∀ i ∈ is, 0 ≤ i ∧ i < 6) (q : ∀ js : List Int, (∀ v, v ∈ js ↔ v ∈ is) → js.length ≤ 6 → New σ (.set js) Q) : wpAny Z.M A (PySem.call (.type "set") [.ref a]) (Out Z σ s Q) NE s := by
  obtain ⟨⟨l⟩, hv, ev⟩ := R.list hx
  have ev : l.map er = is.map V.int := ev
  have at_ : ∀ {i : Nat}, i < is.length → is.getD i 0 ∈ is ∧ (0 ≤ is.getD i 0 ∧ is.getD i 0 < 6) := fun {i} hi => by
    have : is.getD i 0 ∈ is := by rw [List.getD_eq_getElem?_getD, List.getElem?_eq_getElem hi]; exact List.getElem_mem hi
    exact ⟨this, h2 _ this⟩
  have hlen : l.length = is.length := by have := congrArg List.length ev; rwa [List.length_map, List.length_map] at this
  have hval : ∀ (i : Nat) (v : Value), (⟨l⟩ : Array Value)[i]? = some v → ∃ t, v = Value.int (Int.ofNat ((is.getD i 0).toNat)) t := fun i v hv => by
    have hv' : l[i]? = some v := (List.getElem?_toArray ..).symm.trans hv
    have e1 := congrArg (fun l => l[i]?) ev
    simp only [List.getElem?_map, hv', Option.map_some] at e1
    obtain ⟨k, hk, e2⟩ := Option.map_eq_some_iff.mp e1.symm
    obtain ⟨t, rfl⟩ := er_int e2.symm
    have e3 : is.getD i 0 = k := by rw [List.getD_eq_getElem?_getD, hk]; rfl
    have := h2 k (List.mem_of_getElem? hk)
    exact ⟨t, by rw [e3]; congr 1; exact (Int.toNat_of_nonneg this.1).symm⟩
  have h6 : ∀ i, i < (⟨l⟩ : Array Value).size → (is.getD i 0).toNat < 6 := fun i hi => by
    have := (at_ (hlen ▸ hi : i < is.length)).2
    lia
  refine call_set (val := fun i => (is.getD i 0).toNat) r.h hv.isList hval h6 fun h' tk ep es hst hk => ?_
  have hb := bitsOf_lt (val := fun i => (is.getD i 0).toNat) (n := (⟨l⟩ : Array Value).size) h6
  refine out_at (c := .set _) R (new_addr _) hk ⟨_, hst.1, _, _, _, hb, rfl, hst.2, rfl⟩ rfl (q _ (fun v => ?_) (by rw [List.length_map]; exact (st_lt _ hb).2))
  rw [List.mem_map]
  have mem : ∀ {j}, j < 6 → (j ∈ Lb (bitsOf (fun i => (is.getD i 0).toNat) (⟨l⟩ : Array Value).size) ↔ ∃ i, i < is.length ∧ (is.getD i 0).toNat = j) := fun {j} hj => by
    rw [← List.contains_iff_mem, st_mem _ hb _ hj, bitsOf_test hj h6]
    exact ⟨fun ⟨i, hi, e⟩ => ⟨i, hlen ▸ hi, e⟩, fun ⟨i, hi, e⟩ => ⟨i, (hlen.symm ▸ hi : i < l.length), e⟩⟩
  constructor
  · rintro ⟨j, hj, rfl⟩
    obtain ⟨i, hi, e⟩ := (mem (lb_lt hb hj)).mp hj
    obtain ⟨m1, m2⟩ := at_ hi
    rw [show Int.ofNat j = is.getD i 0 by rw [← e]; exact Int.toNat_of_nonneg m2.1]
    exact m1
  · intro hv
    obtain ⟨i, hi, rfl⟩ := List.mem_iff_getElem.mp hv
    have hm := h2 _ hv
    refine ⟨is[i].toNat, (mem (by lia)).mpr ⟨i, hi, by rw [List.getD_eq_getElem?_getD, List.getElem?_eq_getElem hi]; rfl⟩, Int.toNat_of_nonneg hm.1⟩
theorem op_ty (S : Static Z) {f : String} {vals : List Value} (R : Rel Z σ s) (r : Room A n) (h : TyK f Q (vals.map er) σ) : wpAny Z.M A (PySem.call (.type f) vals) (Out Z σ s Q) NE s := by
  cases h with
  | int e f q =>
    subst e
    obtain ⟨v, rfl, e⟩ := map1 f
    obtain ⟨t, rfl⟩ := er_int e
    exact call_int_int (out_now R q)
  | intB e f q =>
    subst e
    obtain ⟨v, rfl, e⟩ := map1 f
    rw [er_bool e]
    exact call_int_bool (out_tok R q)
  | range e f h h' q =>
    subst e
    obtain ⟨v, rfl, e⟩ := map1 f
    obtain ⟨t, rfl⟩ := er_int e
    exact call_range_1 (out_at (c := .range _ _) R (new_addr _) (fun b o e => Heap.get?_push_of_some _ e) ⟨_, Heap.get?_push_size _ rfl, ⟨by decide, by decide, h', h⟩, _, _, _, rfl⟩ rfl q)
  | range2 e f g g' h h' q =>
    subst e
    obtain ⟨v, v', rfl, e, e'⟩ := map2 f
    obtain ⟨t, rfl⟩ := er_int e
    obtain ⟨u, rfl⟩ := er_int e'
    exact call_range_2 (out_at (c := .range _ _) R (new_addr _) (fun b o e => Heap.get?_push_of_some _ e) ⟨_, Heap.get?_push_size _ rfl, ⟨g', g, h', h⟩, _, _, _, rfl⟩ rfl q)
  | list e f h l q =>
    subst e
    obtain ⟨v, rfl, e⟩ := map1 f
    exact op_list_of S R r (e ▸ h) l q
  | tuple e f h l q =>
    subst e
    obtain ⟨v, rfl, e⟩ := map1 f
    rw [er_ref e]
    obtain ⟨vs', hv, ev⟩ := R.list h
    refine call_tuple_list hv.isList (fun h' hk => out_at (c := .tup _) (tk := s.toks) R ?_ (fun b o e => Heap.get?_push_of_some _ (hk b o e)) ⟨_, Heap.get?_push_size _ rfl, _, _, rfl, ev⟩ rfl q) (by rw [erL_size ev, sizeLine_eq]; lia)
    cases e : s.heap.get? h'.objs.size with
    | none => rfl
    | some o => exact absurd (Heap.lt_size (hk _ _ e)) (Nat.lt_irrefl _)
  | dict e f h p l q =>
    subst e
    obtain ⟨v, rfl, e⟩ := map1 f
    rw [er_ref e]
    obtain ⟨⟨l⟩, ⟨k0, ho⟩, rfl⟩ := R.list h
    obtain ⟨ps, h1, h2, h3⟩ := pairsOf_at R p
    have hlen := congrArg List.length h1
    rw [List.length_map] at hlen
    refine call_dict_pairs (ps := ps) r.h ho (by show l.length ≤ 2000; lia) h2 (fun j p hp => ?_) fun h' tk hd hk' => ?_
    · obtain ⟨x, hx, y⟩ := h3 j p hp
      exact ⟨x, (List.getElem?_toArray ..).trans hx, y⟩
    · have hf := stored_fold ps [] List.nodup_nil
      rw [h1] at hf
      obtain ⟨n', hc⟩ := co_dict (Z := Z) hd
      rw [hf] at hc
      exact out_at (c := .dict _ _) R (new_addr _) hk' hc rfl (q.1 n')
  | set e f h l b q =>
    subst e
    obtain ⟨v, rfl, e⟩ := map1 f
    rw [er_ref e]
    exact op_set R r h b q
end
end Mine
end
section
open PySem PySem.W PyProof.Rows
namespace Mine
-- R12
section
variable {Z : Zt} {σ : Sg} {s : Shared} {A : Around} {n : Nat} {Q : Po}
theorem foldl_min_le : ∀ (is : List Int) (i : Int), is.foldl min i ≤ i ∧ ∀ a ∈ is, is.foldl min i ≤ a
  | [], i => ⟨Int.le_refl _, fun _ h => (nomatch h)⟩
  | b :: is, i => by
    obtain ⟨h1, h2⟩ := foldl_min_le is (min i b)
    refine ⟨Int.le_trans h1 (Int.min_le_left ..), fun a ha => ?_⟩
    rcases List.mem_cons.mp ha with rfl | ha
    · exact Int.le_trans h1 (Int.min_le_right ..)
    · exact h2 a ha
theorem foldl_min_mem : ∀ (is : List Int) (i : Int), is.foldl min i ∈ i :: is
  | [], i => .head _
  | b :: is, i => by
    have h := foldl_min_mem is (min i b)
    rw [List.foldl_cons]
    rcases List.mem_cons.mp h with h | h
    · rw [h]
      by_cases c : i ≤ b
      · rw [Int.min_eq_left c]; exact .head _
      · rw [Int.min_eq_right (by lia)]; exact .tail _ (.head _)
    · exact .tail _ (.tail _ h)
theorem ints_of {vs : List Value} {is : List Int} (h : vs.map er = is.map V.int) : ∃ xs : Array (Int × Tok), vs.toArray = intItems xs ∧ is = xs.toList.map (·.1) := by
  have hi := ints_are h
  obtain ⟨xs, e⟩ := hi.allInts.items
  exact ⟨xs, e, by rw [← hi.numsOf, ← nums_intItems, ← e]⟩
theorem op_mulList {l : Addr} {vs : Array Value} {x : Value} {j : Int} {u : Tok} (R : Rel Z σ s) (hv : s.heap.PlainList l vs) (he : vs.toList = [x]) (h0 : 0 ≤ j) (h1 : j ≤ 100)
    (hq : New σ (.list (List.replicate j.toNat (er x))) Q) : wpAny Z.M A (binaryOp .Mult (.ref l) (.int j u)) (Out Z σ s Q) NE s := by
  obtain ⟨k, hl⟩ := hv
  obtain ⟨items⟩ := vs
  simp only at he
  subst he
  have hsz : (⟨[x]⟩ : Array Value).size * j.toNat ≤ 2 ^ 24 := by simp; lia
  refine wpAny_binaryOp_repeat_ref (T := "list") (U := "int") (by decide) ⟨_, hl, rfl⟩ (fun s' => typeIs_int s' j u) noFill_list_mul F.fills_int_mul F.slot_int_rmul repeat_list F.slot_int_index.lookup
    (call_meets F.slot_int_rmul (typeIs_int s j u) F.entry_int_rmul (F.args_int_rmul_2 _ _) (int___rmul___int_list j u l _ k)
      ⟨hl, rfl, ⟨_, hl, rfl⟩, call_meets F.slot_list_mul ⟨_, hl, rfl⟩ F.entry_list_mul (F.args_list_mul_2 _ _)
        (AutoListH.list___mul___list_int_3 l _ k j u (by simp [Builtin.List.listFitsIndex]; lia) (by lia) (by simp [Builtin.List.listTooLong, sizeLine]; lia))
        ⟨hl, ?_⟩⟩)
  refine out_at (c := .list _) (tk := s.toks) R (new_addr _) (fun b o e => Heap.get?_push_of_some _ e) ⟨_, Heap.get?_push_size _ rfl, _, _, rfl, ?_⟩ rfl hq
  rw [if_neg (by simp), listMul_foldl]
  have : (List.replicate j.toNat [x]).flatten = List.replicate j.toNat x := by
    generalize j.toNat = m
    induction m with
    | zero => rfl
    | succ m ih => rw [List.replicate_succ, List.flatten_cons, ih, List.replicate_succ]; rfl
  simp [erL, this]
theorem bin_all {op : Operator} {va vb : Value} (R : Rel Z σ s) (h : BinK op Q (er va) (er vb) σ) : wpAny Z.M A (binaryOp op va vb) (Out Z σ s Q) NE s :=
  op_bin R h fun hx h0 h1 q => by
    obtain ⟨vs, hv, ev⟩ := R.list hx
    obtain ⟨v, e, rfl⟩ := map1 (l := vs.toList) ev
    exact op_mulList R hv e h0 h1 q
theorem op_sorted {P : Nat → Value → Prop} {OK : Heap → Prop} {T : String} {a d : Addr} {m : Nat} {is : List Int} (K : KdlSrc Z.prog Z.w T a d m P OK) (hh : A.handled = none) (R : Rel Z σ s) (hok : OK s.heap) (hm : m < 60)
    (hP : ∀ acc : Array Value, ItemsOf P acc m → ∃ is' : List Int, erL acc = is'.map V.int ∧ is'.Perm is)
    (hq : ∀ js : List Int, js.Perm is → js.Pairwise (· ≤ ·) → New σ (.list (js.map V.int)) Q) :
    wpAny Z.M A (PySem.call (.builtin "sorted") [.ref a]) (Out Z σ s Q) NE s := by
  refine Calls.call_function_entry kind_sorted plain_sorted entry_sorted (args_sorted1 _) ?_
  unfold Builtin.«sorted»
  refine wpAny_bind (m := checkCount "sorted" 1 1 _) (wpAny_pure ?_)
  refine wpAny_bind (kdu_collect (A := A.in1) K hh hok (by rw [sizeLine_eq]; lia) fun h' tk acc hk hacc => ?_)
  have hl : acc.toList.length = m := by rw [Array.length_toList]; exact hacc.1
  refine wpAny_bind (wpAny_newList ?_ (by rw [hl, sizeLine_eq]; lia))
  obtain ⟨is', hi, hp⟩ := hP acc hacc
  have ho : (h'.push { cls := .type "list", data := .seq acc.toList.toArray }).get? h'.objs.size = some (seqObj "list" acc.toList.toArray 0) := Heap.get?_push_size _ rfl
  refine wpAny_bind (wpAny_holding (wpAny_call_entry PyProof.Rows.slot_list_sort ⟨_, ho, rfl⟩ PyProof.Rows.entry_list_sort (list_sort_tree (n := 0) (vs := acc.toList) ho (ints_are hi) (by lia) fun out ns' hI hp' hs => ⟨.none, rfl, ?_⟩) (PyProof.Rows.args_list_sort _)))
  refine wpAny_pure ⟨_, rfl, ?_⟩
  obtain ⟨e, he⟩ := sortedHeap_at (out := out) ho
  refine out_at (c := .list (ns'.map V.int)) (tk := tk) R (by
      cases e : s.heap.get? h'.objs.size with
      | none => rfl
      | some o => exact absurd (Heap.lt_size (hk _ _ e)) (Nat.lt_irrefl _)) (fun b o e => ?_) ⟨_, he, _, _, rfl, ?_⟩ rfl (hq ns' (hp'.trans hp) hs)
  · have hlt := Heap.lt_size (hk _ _ e)
    rw [sortedHeap_old (Nat.ne_of_lt hlt) (by rw [Heap.size_push]; exact Nat.lt_succ_of_lt hlt)]
    exact Heap.get?_push_of_some _ (hk _ _ e)
  · exact IntsAre.er hI
theorem argBest_min {xs : Array (Int × Tok)} {i : Int} {is : List Int} (e2 : i :: is = xs.toList.map (·.1)) : is.foldl min i = numAt xs (argBest (fun i j => decide (numAt xs i < numAt xs j)) (xs.size - 1)) := by
  obtain ⟨h1, h2⟩ := argBest_lt (numAt xs) (xs.size - 1)
  have hsz : 0 < xs.size := by
    have := congrArg List.length e2
    simp at this; lia
  obtain ⟨g1, g2⟩ := foldl_min_le is i
  have g3 := foldl_min_mem is i
  rw [e2] at g3
  obtain ⟨j, hj, e3⟩ := mem_getD g3
  rw [List.length_map, Array.length_toList] at hj
  have a1 := h2 j (by lia)
  rw [numAt_eq xs j, e3] at a1
  have a2 : numAt xs (argBest (fun i j => decide (numAt xs i < numAt xs j)) (xs.size - 1)) ∈ i :: is := by
    rw [numAt_eq, e2]; exact getD_mem (by rw [List.length_map, Array.length_toList]; lia)
  rcases List.mem_cons.mp a2 with a2 | a2
  · lia
  · have := g2 _ a2; lia
theorem its_set {xs : List Int} {a : Addr} (R : Rel Z σ s) (r : Room A n) (hx : σ a = some (.set xs)) (hl : xs.length < 60) (q : ∀ js : List Int, js.Perm xs → js.Pairwise (· ≤ ·) → New σ (.list (js.map V.int)) Q) : wpAny Z.M A (PySem.call (.builtin "sorted") [.ref a]) (Out Z σ s Q) NE s := by
  obtain ⟨o, ho, b, ep, es, hb, rfl, hes, rfl⟩ := R.cell a _ hx
  have hst : SetSt s.heap a b ep (!Txt Z.w) es := ⟨ho, hes⟩
  have hsz := hes.size
  have hle := (st_lt b hb).2
  refine op_sorted (kdl_set (prog := Z.prog) (w := Z.w) (a := a) (ep := ep) (es := es) hb) r.h R hst (by lia) (fun acc hacc => ?_) q
  have hperm := walkOf_perm Z.w a ep es
  have h1 : erL acc = (walkOf Z.w a ep es).toList.map fun e => er e.2 := by
    refine itemsOf_er hacc ?_ fun i v hv hi' => ?_
    · rw [List.length_map, hperm.length_eq, Array.length_toList]
    · obtain ⟨e, he, rfl⟩ := Option.map_eq_some_iff.mp hv
      exact ⟨_, by rw [List.getElem?_map, Array.getElem?_toList, he]; rfl, rfl⟩
  have hall : ∀ l : List (Int × Value), (∀ e ∈ l, e ∈ es.toList) → (l.map fun e => er e.2) = (l.map (·.1)).map V.int := fun l hl => by
    rw [List.map_map]
    refine List.map_congr_left fun e he => ?_
    obtain ⟨k, t, hk, rfl⟩ := hes.get (hl e he)
    rfl
  refine ⟨_, h1.trans (hall _ fun e he => (hperm.mem_iff).mp he), (hperm.map _).trans ?_⟩
  have e3 := congrArg (List.map Prod.fst) hes
  rw [List.map_map, List.map_map] at e3
  rw [show (es.toList.map fun x => x.1) = es.toList.map (Prod.fst ∘ fun e => (e.1, num? e.2)) from rfl, e3]
  exact .refl _
theorem its_dict {k : Nat} {es : List (Int × V)} {a : Addr} (S : Static Z) (R : Rel Z σ s) (r : Room A n) (hx : σ a = some (.dict k es)) (hl : es.length < 60) (q : ∀ js : List Int, js.Perm (es.map (·.1)) → js.Pairwise (· ≤ ·) → New σ (.list (js.map V.int)) Q) : wpAny Z.M A (PySem.call (.builtin "sorted") [.ref a]) (Out Z σ s Q) NE s := by
  obtain ⟨kvs, hd, he⟩ := R.dict hx
  have hlen : kvs.length = es.length := by rw [← he, List.length_map]
  refine op_sorted (kdl_dict (knd := Z.ik) (kvs := kvs) (ep := k) (R.notSys S hx rfl)) r.h R hd (by lia) (fun acc hacc => ⟨es.map (·.1), itemsOf_er hacc (by rw [List.length_map, List.length_map, hlen]) fun i v hv hi' => ?_, .refl _⟩) q
  obtain ⟨k', x, hkx, hv⟩ := hv
  rw [← he, List.getElem?_map, List.getElem?_map, List.getElem?_map, hkx]
  exact ⟨_, rfl, key_int (h := s.heap) hv⟩
theorem op_bi (S : Static Z) {f : String} {vals : List Value} (R : Rel Z σ s) (r : Room A n) (h : BiK f Q (vals.map er) σ) : wpAny Z.M A (PySem.call (.builtin f) vals) (Out Z σ s Q) NE s := by
  cases h with
  | @abs i e f q =>
    subst e
    obtain ⟨v, rfl, e⟩ := map1 f
    obtain ⟨t, rfl⟩ := er_int e
    refine call_abs_int fun u tk => ⟨σ, R.toks, GrowX.refl.toks, ?_⟩
    rw [show (if i < 0 then -i else i) = (i.natAbs : Int) by split <;> lia]; exact q
  | lenL e f h l q =>
    subst e
    obtain ⟨v, rfl, e⟩ := map1 f
    rw [er_ref e]
    obtain ⟨vs', hv, ev⟩ := R.list h
    have hs := erL_size ev
    refine Calls.call_len_list hv.isList (by rw [hs]; lia) ⟨σ, R.toks, GrowX.refl.toks, ?_⟩
    rw [hs]; exact q
  | lenT e f h l q =>
    subst e
    obtain ⟨v, rfl, e⟩ := map1 f
    rw [er_ref e]
    obtain ⟨vs', hv, ev⟩ := R.tup h
    have hs := erL_size ev
    refine PyProof.Rows.len_tuple hv (by rw [hs]; lia) ⟨σ, R.toks, GrowX.refl.toks, ?_⟩
    rw [hs]; exact q
  | sum e f h q =>
    subst e
    obtain ⟨v, rfl, e⟩ := map1 f
    rw [er_ref e]
    obtain ⟨⟨l⟩, hv, ev⟩ := R.list h
    obtain ⟨xs, e1, e2⟩ := ints_of ev
    have e1 : (⟨l⟩ : Array Value) = intItems xs := e1
    refine sum_intListG r.h (e1 ▸ hv.isList) fun h' tk t' hk => out_more R hk ?_
    rw [preSum_eq, List.take_of_length_le (by rw [List.length_map, Array.length_toList]; exact Nat.le_refl _), ← e2]; exact q
  | @min a i is e f h q =>
    subst e
    obtain ⟨v, rfl, e⟩ := map1 f
    rw [er_ref e]
    obtain ⟨⟨l⟩, hv, ev⟩ := R.list h
    obtain ⟨xs, e1, e2⟩ := ints_of (is := i :: is) ev
    have e1 : (⟨l⟩ : Array Value) = intItems xs := e1
    have hsz : 0 < xs.size := by
      have := congrArg List.length e2
      simp at this; lia
    refine min_intList r.h (e1 ▸ hv.isList) hsz fun v h' tk hv hk => ?_
    obtain ⟨t, rfl⟩ := intItems_at hv
    refine out_more R hk ?_
    show Q (.int _) σ
    rw [← argBest_min e2]; exact q
  | max e f q =>
    subst e
    obtain ⟨v, w, rfl, e, e'⟩ := map2 f
    obtain ⟨t, rfl⟩ := er_int e
    obtain ⟨u, rfl⟩ := er_int e'
    refine max_two_ints r.h fun h' tk hk => out_more R hk ?_
    split
    · rename_i c; rw [Int.max_eq_right (by lia)] at q; exact q
    · rename_i c; rw [Int.max_eq_left (by lia)] at q; exact q
  | sorted e f h l q =>
    subst e
    obtain ⟨v, rfl, e⟩ := map1 f
    subst e
    cases h with
    | set e hx => rw [er_ref e]; exact its_set R r hx l q
    | dict e hx => rw [er_ref e]; exact its_dict S R r hx (by rwa [List.length_map] at l) q
  | isi e f h k q =>
    subst e
    obtain ⟨v, w, rfl, e, e'⟩ := map2 f
    rw [er_ref e, er_ref e']
    obtain ⟨k1, fs, es, m, h1, h2, h3, h4, h5, h6, h7⟩ := R.inst h
    have KK := S.cl _ k1 h1
    obtain ⟨k', hk'⟩ := Option.isSome_iff_exists.mp k
    exact kia_one (kitx_own KK.getC KK.dict KK.klass S.ocl S.otk KK.mro) (R.X S) h6 (S.isi _ _ k' k1 hk' h1) (by intro e; cases e) fun tk => ⟨σ, R.toks, GrowX.refl.toks, q⟩
end
end Mine
end
section
open PySem PySem.W PyProof.Rows PySem.Calls
namespace Mine
-- R13
section
variable {Z : Zt} {σ : Sg} {s : Shared} {A : Around} {n : Nat} {Q : Po} {env : Env}
noncomputable abbrev plainEs (args : List Expr) (env : Env) : List (Bool × Sem Value) := args.map fun e => (false, eval e env)
theorem backTo_plain {pos : Pos} {args : List Expr} (h : starEach args env = plainEs args env) : backTo pos (starEach args env) = plainEs args env := by
  rw [h]; unfold backTo plainEs
  rw [List.map_map]
  rfl
theorem plain_any {args : List Expr} : (plainEs args env).any (·.1) = false := by
  induction args with
  | nil => rfl
  | cons e r ih => simpa [plainEs] using ih
theorem evalArgs_of {M : Model} {A : Around} {E : Value → Shared → Prop} {f : Value} {args : List Expr} {Q : List Value → Shared → Prop} (h : wpAny M A (spliced (plainEs args env)) Q E s) :
    wpAny M A (evalArgs f true (plainEs args env) []) (fun a s' => a.kw = [] ∧ Q a.pos s') E s := by
  cases args with
  | nil =>
    unfold evalArgs
    show wpAny M A (spliced [] >>= _) _ E s
    refine wpAny_bind (wpAny_mono h (fun vs s' h' => ?_) fun _ _ e => e)
    refine wpAny_bind (wpAny_pure (wpAny_holding ?_))
    exact wpAny_bind (wpAny_pure (wpAny_bind (wpAny_pure (wpAny_pure ⟨rfl, h'⟩))))
  | cons e r => exact evalArgs_plain (wpAny_mono h (fun vs s' h' => ⟨rfl, h'⟩) fun _ _ e => e)
noncomputable def Callee (Z : Zt) (f : Value) (h : Heap) : Prop := (∃ i, f = .builtin i) ∨ (∃ t, f = .type t) ∨ (Z.Kf.In h ∧ keepIn Z.Kf f = true)
theorem callWith_any {pos : Pos} {f : Value} {first : List Value} {args : List Expr} {E : Value → Shared → Prop} {Q : Value → Shared → Prop}
    (h : wpAny Z.M A (spliced (plainEs args env)) (fun vs s₁ => Callee Z f s₁.heap ∧ wpAny Z.M A (PySem.call f (first ++ vs)) Q E s₁) E s) :
    wpAny Z.M A (callWith pos f first (plainEs args env) []) Q E s := by
  by_cases hb : ∃ a, f = .ref a
  · refine callWith_of (P := fun h => Callee Z f h) (by rw [plain_any]; rfl) (fun h hc => ?_) (wpAny_mono (evalArgs_of h) (fun a s' h' => ?_) fun _ _ e => e)
    · obtain ⟨a, rfl⟩ := hb
      rcases hc with ⟨i, e⟩ | ⟨t, e⟩ | ⟨x, k⟩
      · cases e
      · cases e
      · exact keeps_K k _ x
    · obtain ⟨e, h1, h2⟩ := h'
      rw [e]; exact ⟨h1, h2⟩
  · unfold callWith
    refine wpAny_bind (wpAny_holding (wpAny_mono (evalArgs_of h) (fun a s₁ h₁ => wpAny_bind (wpAny_standAt ?_)) fun _ _ x => x))
    obtain ⟨e, h1, h2⟩ := h₁
    have hk : keeperOf f = pure .machine := by
      cases f with
      | ref a => exact absurd ⟨a, rfl⟩ hb
      | _ => rfl
    simp only [plain_any, List.any_nil, Bool.or_false, hk]
    rw [e]
    refine wpAny_bind (wpAny_pure ?_)
    exact wpAny_bind (wpAny_mono h2 (fun r s₂ hr => wpAny_bind (wpAny_holding (wpAny_point (wpAny_pure hr)))) fun _ _ x => x)
theorem meets_values {prog : Program} {w : World} (d : Addr) (hd : (d == sysModules) = false) :
    MeetsIn prog w (Builtin.«dict.values» ⟨[.ref d], []⟩) (fun _ R s => s.TypeIs (.ref d) "dict" ∧
      R (.ok (.ret (.ref s.heap.objs.size))) { s with heap := s.heap.push { cls := .type "dict_values", data := .fields #[.ref d] } }) :=
  .of_wp fun A R s ⟨hm, h⟩ => by
    refine wpAny_bind ?_
    unfold Builtin.Dict.noArgs
    refine wpAny_bind (wpAny_notOrdered_dict hm ?_)
    show wpAny _ _ (pure d) _ _ s
    refine wpAny_pure ?_
    show wpAny _ _ (Builtin.Dict.showsAll d >>= _) _ _ s
    unfold Builtin.Dict.showsAll
    rw [if_neg (by rw [hd]; exact Bool.false_ne_true)]
    refine wpAny_bind (wpAny_pure ?_)
    exact wpAny_bind (wpAny_newObj_type (wpAny_pure ⟨_, rfl, h⟩))
noncomputable def KOk (Z : Zt) (n : Nat) (K : Kall) : Prop := ∀ (A : Around) (σ : Sg) (s : Shared) (Q : Po) (f : Addr) (vals : List Value), Rel Z σ s → Room A n → K f (vals.map er) σ Q →
  keepIn Z.Kf (.ref f) = true ∧ codeAny Z.M A (.call (.ref f) ⟨vals, []⟩) (fun r s' => match r with | .ok (.ret v) => Out Z σ s Q v s' | .ok _ => False | .error e => NE e s') s
noncomputable def bf (n : String) : String := (([("append", "list.append"), ("extend", "list.extend"), ("get", "dict.get"), ("setdefault", "dict.setdefault"), ("values", "dict.values")] : List (String × String)).lookup n).getD ""
theorem op_recvI (S : Static Z) {a c d f : Addr} {nm : String} {pl : Sem Bool} {Q : Value × List Value → Shared → Prop} (R : Rel Z σ s) (h : σ a = some (.inst c d)) (k : methOf c nm = some f) (hq : Q (.ref f, [.ref a]) s) : wpAny Z.M A (getMethod (.ref a) (Str.ofString nm) pl) Q NE s := by
  obtain ⟨k0, fs, es, m, h1, h2, h3, h4, h5, h6, h7⟩ := R.inst h
  rw [methOf, h1] at k
  have hg : k0.meths.lookup nm = some f := k
  have K := S.cl c k0 h1
  obtain ⟨m1, m2⟩ := K.meth nm f hg
  have hnone : fs.lookup nm = none := by
    cases e : fs.lookup nm with
    | none => rfl
    | some v =>
      have := (h7 nm (List.mem_map.mpr ⟨_, lookup_memR e, rfl⟩)).2
      rw [List.contains_iff_mem.mpr (List.mem_map.mpr ⟨_, lookup_memR hg, rfl⟩)] at this; cases this
  refine method_fn (R.X S) h6 (plainGet_of (name := "") K.get).1 (plainGet_of (name := "") K.get).2 m1 m2 ?_ hq
  show (lookIn (Str.ofString nm) (dictOf es m)).map _ = _
  rw [lookIn_dict, h4.getNone hnone]; rfl
noncomputable def IsD (s : Shared) (a : Addr) : Prop := s.TypeIs (.ref a) "dict" ∧ ∀ b, Value.ref a = .ref b → ∃ o, s.heap.get? b = some o ∧ o.dict = none
theorem Rel.isDict {a : Addr} {c : C} (R : Rel Z σ s) (h : σ a = some c) (hc : ∀ o, CO Z c o → o.ExactDict) : IsD s a := by
  obtain ⟨o, ho, hco⟩ := R.cell a _ h
  have hx := hc o hco
  exact ⟨⟨_, ho, hx.1⟩, fun b e => by cases e; exact ⟨_, ho, hx.2.1⟩⟩
theorem Rel.dictT {a : Addr} {k : Nat} {es : List (Int × V)} (R : Rel Z σ s) (h : σ a = some (.dict k es)) : IsD s a := R.isDict h fun _ hc => hc.1
theorem Rel.tdictT {a : Addr} {k : Nat} {es : List ((Int × Int) × Addr × V)} (R : Rel Z σ s) (h : σ a = some (.tdict k es)) : IsD s a := R.isDict h fun _ hc => hc.1
theorem op_recvB {a : Addr} {c : C} {nm : String} {pl : Sem Bool} {Q : Value × List Value → Shared → Prop} (R : Rel Z σ s) (h : σ a = some c) (k : RecvC nm c) (hq : Q (.builtin (bf nm), [.ref a]) s) : wpAny Z.M A (getMethod (.ref a) (Str.ofString nm) pl) Q NE s := by
  have lst : ∀ {xs}, σ a = some (.list xs) → s.TypeIs (.ref a) "list" ∧ ∀ b, Value.ref a = .ref b → ∃ o, s.heap.get? b = some o ∧ o.dict = none := fun h => by
    obtain ⟨vs, ⟨k, hv⟩, _⟩ := R.list h
    exact ⟨⟨_, hv, rfl⟩, fun b e => by cases e; exact ⟨_, hv, rfl⟩⟩
  cases k with
  | app e => subst e; exact getMethod_builtin (lst h).1 PySem.F.plainAttrs_list slot_list_append type_list_append (lst h).2 hq
  | ext e => subst e; exact getMethod_builtin (lst h).1 PySem.F.plainAttrs_list PySem.F.slot_list_extend PySem.F.type_list_extend (lst h).2 hq
  | get e => subst e; exact getMethod_builtin (R.dictT h).1 PySem.F.plainAttrs_dict PySem.F.slot_dict_get PySem.F.type_dict_get (R.dictT h).2 hq
  | sdf e => subst e; exact getMethod_builtin (R.dictT h).1 PySem.F.plainAttrs_dict PySem.F.slot_dict_setdefault PySem.F.type_dict_setdefault (R.dictT h).2 hq
  | vals e => subst e; exact getMethod_builtin (R.dictT h).1 PySem.F.plainAttrs_dict PySem.F.slot_dict_values PySem.F.type_dict_values (R.dictT h).2 hq
  | tget e => subst e; exact getMethod_builtin (R.tdictT h).1 PySem.F.plainAttrs_dict PySem.F.slot_dict_get PySem.F.type_dict_get (R.tdictT h).2 hq
  | tvals e => subst e; exact getMethod_builtin (R.tdictT h).1 PySem.F.plainAttrs_dict PySem.F.slot_dict_values PySem.F.type_dict_values (R.tdictT h).2 hq
theorem get_dict {a : Addr} {m : Nat} {es : List (Int × V)} {vals : List Value} {i : Int} {t : Tok} {d : V} (S : Static Z) (R : Rel Z σ s) (hc : σ a = some (.dict m es)) (hv : vals = [.int i t] ∧ d = .none ∨ ∃ w, vals = [.int i t, w] ∧ er w = d) (h : Q ((es.lookup i).getD d) σ) :
    wpAny Z.M A (PySem.call (.builtin "dict.get") (.ref a :: vals)) (Out Z σ s Q) NE s := by
  obtain ⟨kvs, hd, he⟩ := R.dict hc
  have hD := hd.dictOf
  have lo := R.notSys S hc rfl
  have fin : ∀ w, er w = d → Out Z σ s Q ((valueAt kvs i).getD w) { s with toks := s.toks + 1 } := fun w hw => out_tok R (by
    rw [← valueAt_er he] at h
    cases e : valueAt kvs i <;> rw [e] at h
    · exact hw ▸ h
    · exact h)
  rcases hv with ⟨rfl, rfl⟩ | ⟨w, rfl, hw⟩
  · exact call_meetsIn PySem.F.slot_dict_get hD.typeIs PySem.F.entry_dict_get (PySem.F.args_dict_get_2 _ _) (meets_dict_get Z.ik a (intKind_is _ _ i t) lo) ⟨_, hD.mapOf, fin _ rfl⟩
  · exact call_meetsIn PySem.F.slot_dict_get hD.typeIs PySem.F.entry_dict_get (PySem.F.args_dict_get_3 _ _ _) (meets_dict_get_default Z.ik a (intKind_is _ _ i t) lo w) ⟨_, hD.mapOf, fin _ hw⟩
theorem get_tdict {a : Addr} {p : Int × Int} {t : Addr} {xs : List (List Int × Addr × Value)} {es : List ((Int × Int) × Addr × V)} (R : Rel Z σ s) (r : Room A n) (lo : (a == sysModules) = false) (hD : s.heap.DictOfH Z.tk a xs) (he : xs.map TK = es.map TE) (ht : σ t = some (.tup [.int p.1, .int p.2])) (h : Q ((tget es p).getD .none) σ) :
    wpAny Z.M A (PySem.call (.builtin "dict.get") [.ref a, .ref t]) (Out Z σ s Q) NE s := by
  refine call_meetsIn PySem.F.slot_dict_get hD.typeIs PySem.F.entry_dict_get (PySem.F.args_dict_get_2 _ _) (meetsH_dict_get Z.tk a t lo) ⟨r.units 1, _, xs, tupKey R ht, hD, σ, R.toks, GrowX.refl.toks, ?_⟩
  rw [← atKey_tget (p := p) he] at h
  cases e : atKey xs [p.1, p.2] <;> rw [e] at h <;> exact h
theorem dput_none {i : Int} {v : V} : ∀ {es : List (Int × V)}, es.lookup i = none → dput es i v = es ++ [(i, v)]
  | [], _ => rfl
  | (k, x) :: r, h => by
    rw [List.lookup_cons] at h
    split at h
    · cases h
    · rename_i q
      have hk : ¬ k = i := fun e => by rw [e, BEq.rfl] at q; cases q
      rw [dput, if_neg hk, dput_none h]; rfl
theorem setdefault_dict {a : Addr} {m : Nat} {es : List (Int × V)} {i : Int} {t : Tok} {w : Value} (S : Static Z) (R : Rel Z σ s) (hc : σ a = some (.dict m es)) (hl : es.length ≤ 100)
    (h1 : ∀ v, es.lookup i = some v → Q v σ) (h2 : es.lookup i = none → ∀ n', Q (er w) (up σ a (.dict n' (es ++ [(i, er w)])))) :
    wpAny Z.M A (PySem.call (.builtin "dict.setdefault") [.ref a, .int i t, w]) (Out Z σ s Q) NE s := by
  obtain ⟨kvs, hd, he⟩ := R.dict hc
  have hD := hd.dictOf
  have key := valueAt_er he i
  have hlen : kvs.length = es.length := by rw [← he, List.length_map]
  refine call_meetsIn PySem.F.slot_dict_setdefault hD.typeIs PySem.F.entry_dict_setdefault (PySem.F.args_dict_setdefault_3 _ _ _) (kt_meets_setdefault Z.ik a (intKind_is _ _ i t) (R.notSys S hc rfl) w) ⟨kvs, hD, by rw [sizeLine_eq]; lia, fun v hv => ?_, fun hn h' hm hs => ?_⟩
  · exact out_tok R (h1 _ (by rw [← key, hv]; rfl))
  · have hn' : es.lookup i = none := by rw [← key, hn]; rfl
    have hst : (stored kvs i w).map (fun p => (p.1, er p.2)) = es ++ [(i, er w)] := by
      have nod : (kvs.map (·.1)).Nodup := let ⟨_, _, _, _, _, _, _, h⟩ := hd; h
      rw [dput_stored nod, he]
      exact dput_none hn'
    obtain ⟨n', hco⟩ := co_dict (Z := Z) hm
    rw [hst] at hco
    obtain ⟨R', G'⟩ := R.set (c' := .dict n' (es ++ [(i, er w)])) (tk := s.toks + 1) hc rfl .dict hs hco (fun _ _ e => by cases e) (fun _ _ e => by cases e)
    exact ⟨_, R', G', h2 hn' n'⟩
theorem op_bm (S : Static Z) {a : Addr} {nm : String} {vals : List Value} (R : Rel Z σ s) (r : Room A n) (h : BmK nm Q a (vals.map er) σ) : wpAny Z.M A (PySem.call (.builtin (bf nm)) (.ref a :: vals)) (Out Z σ s Q) NE s := by
  have vals_ : ∀ {c}, σ a = some c → c.ro = false → s.TypeIs (.ref a) "dict" → New σ (.vals a) Q → wpAny Z.M A (PySem.call (.builtin "dict.values") [.ref a]) (Out Z σ s Q) NE s := fun hc hr hT q =>
    call_meetsIn PySem.F.slot_dict_values hT PySem.F.entry_dict_values (PySem.F.args_dict_values_1 _) (meets_values a (R.notSys S hc hr)) ⟨hT, out_push (c := .vals a) (tk := s.toks) R rfl ⟨rfl, rfl⟩ rfl q⟩
  cases h with
  | @app xs v e f hc l q =>
    subst e
    obtain ⟨v, rfl, rfl⟩ := map1 f
    obtain ⟨ws, hv, ev⟩ := R.list hc
    have hsz := erL_size ev
    refine wpAny_list_append_plain hv (fun h' ⟨k', hp⟩ hs => ?_) (by rw [sizeLine_eq]; lia)
    obtain ⟨R', G'⟩ := R.set (c' := .list (xs ++ [er v])) (tk := s.toks) hc rfl .list hs ⟨_, hp, _, _, rfl, by rw [← ev, erL, Array.toList_push, List.map_append]; rfl⟩ (fun _ _ e => by cases e) (fun _ _ e => by cases e)
    exact ⟨_, R', G', q⟩
  | @extT xs b ys e f hc hy l q =>
    subst e
    obtain ⟨v, rfl, e⟩ := map1 f
    rw [er_ref e]
    obtain ⟨ws, ⟨k, hv⟩, ev⟩ := R.list hc
    obtain ⟨us, k', hu, eu⟩ := R.tupX hy
    have hsz := erL_size ev
    have hsz' := erL_size eu
    have hle : ws.size + us.size ≤ sizeLine := by rw [sizeLine_eq]; lia
    refine call_meets PySem.F.slot_list_extend ⟨_, hv, rfl⟩ PySem.F.entry_list_extend (PySem.F.args_list_extend_2 _ _) (PySem.AutoSeq1.list_extend_list_tuple_0 a ws k b us k' (extend_door hle) (by lia) (by lia)) ⟨hv, hu, ?_⟩
    obtain ⟨k', e⟩ : ∃ k', Obj.mapSeq (fun x => x ++ us) { cls := .type "list", data := .seq ws k } = { cls := .type "list", data := .seq (ws ++ us) k' } := ⟨_, rfl⟩
    obtain ⟨R', G'⟩ := R.set (c' := .list (xs ++ ys)) (tk := s.toks) hc rfl .list (Heap.SameBut.update (f := Obj.mapSeq fun x => x ++ us) ..) ⟨_, Heap.get?_update_self _ hv (by rw [e]; rfl), by rw [e]; exact ⟨_, _, rfl, by rw [← ev, ← eu, erL, Array.toList_append, List.map_append]; rfl⟩⟩ (fun _ _ e => by cases e) (fun _ _ e => by cases e)
    exact ⟨_, R', G', q⟩
  | get e f hc q =>
    subst e
    obtain ⟨v, rfl, e⟩ := map1 f
    obtain ⟨t, rfl⟩ := er_int e
    exact get_dict S R hc (.inl ⟨rfl, rfl⟩) q
  | getD e f hc q =>
    subst e
    obtain ⟨v, w, rfl, e, e'⟩ := map2 f
    obtain ⟨t, rfl⟩ := er_int e
    exact get_dict S R hc (.inr ⟨w, rfl, e'⟩) q
  | sdfS e f hc l x q =>
    subst e
    obtain ⟨v, w, rfl, e, e'⟩ := map2 f
    obtain ⟨t, rfl⟩ := er_int e
    exact setdefault_dict S R hc l (fun v h => Option.some.inj (x.symm.trans h) ▸ q) fun h => nomatch x.symm.trans h
  | sdfN e f hc l x q =>
    subst e
    obtain ⟨v, w, rfl, e, rfl⟩ := map2 f
    obtain ⟨t, rfl⟩ := er_int e
    exact setdefault_dict S R hc l (fun v h => nomatch x.symm.trans h) fun _ => q
  | vals e f hc q =>
    subst e
    rw [List.map_eq_nil_iff.mp f]
    exact vals_ hc rfl (R.dictT hc).1 q
  | tvals e f hc q =>
    subst e
    rw [List.map_eq_nil_iff.mp f]
    exact vals_ hc rfl (R.tdictT hc).1 q
  | @none k t i j e f hc g q =>
    subst e
    obtain ⟨v, rfl, e⟩ := map1 f
    rw [er_ref e]
    obtain ⟨kvs, ⟨o, arr, ho, hx', hd', _, h2', _⟩, he⟩ := R.dict hc
    have hk : kvs = [] := List.map_eq_nil_iff.mp he
    subst hk
    exact get_tdict (xs := []) (es := []) (p := (i, j)) R r (R.notSys S hc rfl) ⟨o, arr, k, ho, hx', hd', List.eq_nil_of_length_eq_zero h2'.length, fun _ h => (nomatch h), List.nodup_nil⟩ rfl g q
  | @tget k es t i j e f hc g q =>
    subst e
    obtain ⟨v, rfl, e⟩ := map1 f
    rw [er_ref e]
    obtain ⟨xs, hD, he⟩ := R.tdict hc
    exact get_tdict (p := (i, j)) R r (R.notSys S hc rfl) hD he g q
end
end Mine
end
section
open PySem PySem.W PyProof.Rows PySem.Calls
namespace Mine
-- R14
noncomputable def frA (env : Env) (b : Addr) : Prop := b = env.locals ∨ ∃ n, (n, b) ∈ env.cells
structure FrR (Z : Zt) (cx : Cx) (env : Env) (m : Mp) (σ : Sg) (h : Heap) : Prop where
  kind : env.scope.kind = .function
  names : ∀ n, env.kindOf n = cx.names.lookup n
  glob : env.globals = mainGlobals
  blt : env.builtins = builtinsNs
  gl : cx.glob = Z.glob
  own : ∀ a, frA env a → σ a = none ∧ Z.base.get? a = none ∧ (h.get? a).isSome = true
  loc : ∃ lm, h.Ns env.locals lm ∧ ∀ n i v, cx.names.lookup n = some .local → cx.slots.lookup n = some i → sl m i = some v → ∃ w, lm n = some w ∧ er w = v
  cell : ∀ n i, cx.names.lookup n = some .cell → cx.slots.lookup n = some i → ∃ c w, env.cells.lookup n = some c ∧ h.IsCell c w ∧ ∀ v, sl m i = some v → ∃ x, w = some x ∧ er x = v
  apart : env.cells.Pairwise fun x y => x.2 ≠ y.2
  apartL : ∀ n c, (n, c) ∈ env.cells → c ≠ env.locals
  inj : ∀ n n' i, cx.slots.lookup n = some i → cx.slots.lookup n' = some i → n = n'
  lt : ∀ n i, cx.slots.lookup n = some i → i < cx.next
  fresh : ∀ i, cx.next ≤ i → sl m i = none
section
variable {Z : Zt} {cx : Cx} {env : Env} {m : Mp} {σ σ' : Sg} {s s' : Shared} {A : Around} {E : Value → Shared → Prop} {Q : Po} {X : Addr → Prop}
theorem sl_st_ne {m : Mp} {i j : Nat} {v : V} (h : j ≠ i) : sl (st m i v) j = sl m j := by
  induction m generalizing i j with
  | nil => cases j <;> rfl
  | cons x r ih =>
    cases i with
    | zero => cases j with
      | zero => exact absurd rfl h
      | succ j => rfl
    | succ i => cases j with
      | zero => rfl
      | succ j => exact ih (by lia)
theorem sl_st_self {m : Mp} {i : Nat} {v w : V} (h : sl (st m i v) i = some w) : w = v := by
  induction m generalizing i with
  | nil => cases i <;> cases h
  | cons x r ih =>
    cases i with
    | zero => cases h; rfl
    | succ i => exact ih h
theorem FrR.at {h h' : Heap} (F : FrR Z cx env m σ h) (hk : ∀ a o, frA env a → h.get? a = some o → h'.get? a = some o) (hσ : ∀ a, frA env a → σ' a = none) : FrR Z cx env m σ' h' := by
  refine ⟨F.kind, F.names, F.glob, F.blt, F.gl, fun a ha => ⟨hσ a ha, (F.own a ha).2.1, ?_⟩, ?_, fun n i h1 h2 => ?_, F.apart, F.apartL, F.inj, F.lt, F.fresh⟩
  · obtain ⟨o, ho⟩ := Option.isSome_iff_exists.mp (F.own a ha).2.2
    rw [hk a o ha ho]; rfl
  · obtain ⟨lm, hn, hl⟩ := F.loc
    exact ⟨lm, hn.at' fun o e => hk _ o (.inl rfl) e, hl⟩
  · obtain ⟨c, w, hc, ⟨o, ho, hd⟩, hw⟩ := F.cell n i h1 h2
    exact ⟨c, w, hc, ⟨o, hk c o (.inr ⟨n, mem_of_lookup hc⟩) ho, hd⟩, hw⟩
theorem FrR.grow {X : Addr → Prop} (F : FrR Z cx env m σ s.heap) (G : GrowX X σ s σ' s') (hX : ∀ a, frA env a → ¬ X a) : FrR Z cx env m σ' s'.heap :=
  F.at (fun a o ha e => G.keep a o (hX a ha) (F.own a ha).1 e) fun a ha => G.none_of (F.own a ha).1 (F.own a ha).2.2
theorem FrR.keep (F : FrR Z cx env m σ s.heap) (G : Grow σ s σ' s') : FrR Z cx env m σ' s'.heap := F.grow G fun _ _ x => x
theorem FrR.globalName (S : Static Z) (R : Rel Z σ s) (F : FrR Z cx env m σ s.heap) {x : Str} {v : V} {pos : Pos} (hk : cx.names.lookup x = some .globalImplicit) (hg : cx.glob.lookup x = some v) (hd : (x == ("__debug__" : Str)) = false)
    (hq : Q v σ) : wpAny Z.M A (eval (.Name x pos) env) (Out Z σ s Q) E s := by
  obtain ⟨mg, mb, h1, h2, h3⟩ := S.g
  rw [F.gl] at hg
  obtain ⟨val, ev, hv⟩ := h3 x v hg
  have g1 : s.heap.Ns env.globals mg := by rw [F.glob]; exact h1.keeps R.keep
  have g2 : s.heap.Ns env.builtins mb := by rw [F.blt]; exact h2.keeps R.keep
  have fin : Out Z σ s Q val s := out_now R (by rw [ev]; exact hq)
  refine Name_function_global F.kind ((F.names x).trans hk) ?_ hd
  rcases hv with hv | ⟨hv, hb⟩
  · exact loadGlobal_global g1 hv fin
  · exact loadGlobal_builtin g1 hv g2 hb fin
theorem FrR.localName (R : Rel Z σ s) (F : FrR Z cx env m σ s.heap) {x : Str} {i : Nat} {v : V} {pos : Pos} (hk : cx.names.lookup x = some .local ∨ cx.names.lookup x = some .cell) (hs : cx.slots.lookup x = some i) (hv : sl m i = some v) (hd : (x == ("__debug__" : Str)) = false)
    (hq : Q v σ) : wpAny Z.M A (eval (.Name x pos) env) (Out Z σ s Q) E s := by
  rcases hk with hk | hk
  · obtain ⟨lm, hn, hl⟩ := F.loc
    obtain ⟨w, hw, ew⟩ := hl x i v hk hs hv
    exact wpAny_Name (wpAny_loadName_local F.kind ((F.names x).trans hk) hn hw (out_now R (by rw [ew]; exact hq))) hd
  · obtain ⟨c, w, hc, hcell, hw⟩ := F.cell x i hk hs
    obtain ⟨y, rfl, ey⟩ := hw v hv
    exact wpAny_Name (wpAny_loadName_cell F.kind ((F.names x).trans hk) hc hcell (out_now R (by rw [ey]; exact hq))) hd
theorem FrR.weak {m' : Mp} {h : Heap} (F : FrR Z cx env m σ h) (hw : ∀ i v, sl m' i = some v → sl m i = some v) : FrR Z cx env m' σ h := by
  obtain ⟨lm, hn, hl⟩ := F.loc
  refine ⟨F.kind, F.names, F.glob, F.blt, F.gl, F.own, ⟨lm, hn, fun n i v h1 h2 h3 => hl n i v h1 h2 (hw i v h3)⟩, fun n i h1 h2 => ?_, F.apart, F.apartL, F.inj, F.lt, fun i hi => ?_⟩
  · obtain ⟨c, w, hc, hcell, hv⟩ := F.cell n i h1 h2
    exact ⟨c, w, hc, hcell, fun v h3 => hv v (hw i v h3)⟩
  · cases e : sl m' i with
    | none => rfl
    | some v => have := hw i v e; rw [F.fresh i hi] at this; cases this
theorem FrR.back {i : Nat} {v : V} {h : Heap} (F : FrR Z cx env (st m i v) σ h) (hi : sl m i = none) : FrR Z cx env m σ h := F.weak fun j w hj => by
  rw [sl_st_ne (fun e => by rw [e, hi] at hj; cases hj)]; exact hj
theorem FrR.storeL (R : Rel Z σ s) (F : FrR Z cx env m σ s.heap) {x : Str} {i : Nat} {v : Value} (hk : cx.names.lookup x = some .local) (hs : cx.slots.lookup x = some i) {Q : Unit → Shared → Prop}
    (hq : ∀ s', Rel Z σ s' → GrowX (fun b => b = env.locals) σ s σ s' → FrR Z cx env (st m i (er v)) σ s'.heap → Q () s') : wpAny Z.M A (storeName env x v) Q E s := by
  have fresh : ∀ j, cx.next ≤ j → sl (st m i (er v)) j = none := fun j hj => by
    have := F.lt x i hs
    rw [sl_st_ne (by lia)]; exact F.fresh j hj
  obtain ⟨lm, hn, hl⟩ := F.loc
  refine wpAny_storeName_local ((F.names x).trans hk) hn (fun h' hn' hs' => ?_) (by rw [F.kind]; rfl)
  obtain ⟨o1, o2, o3⟩ := F.own env.locals (.inl rfl)
  refine hq _ (R.aside fun b o e hor => (hs'.2 b ?_).trans e) ⟨fun b o hX _ e => (hs'.2 b hX).trans e, fun _ h k => absurd h k⟩
    ⟨F.kind, F.names, F.glob, F.blt, F.gl, fun b hb => ?_, ⟨_, hn', fun n j v' h1 h2 h3 => ?_⟩, fun n j h1 h2 => ?_, F.apart, F.apartL, F.inj, F.lt, fresh⟩
  · rintro rfl
    rcases hor with ⟨c, hc⟩ | ⟨o, ho⟩
    · rw [o1] at hc; cases hc
    · rw [o2] at ho; cases ho
  · obtain ⟨p1, p2, p3⟩ := F.own b hb
    refine ⟨p1, p2, ?_⟩
    by_cases e : b = env.locals
    · subst e; obtain ⟨o, _, _, ho, _⟩ := hn'; rw [ho]; rfl
    · show (h'.get? b).isSome = true
      rw [hs'.2 b e]; exact p3
  · by_cases e : n = x
    · subst e
      rw [hs] at h2; cases h2
      exact ⟨v, if_pos rfl, (sl_st_self h3).symm⟩
    · rw [sl_st_ne (fun q : j = i => e (F.inj n x i (q ▸ h2) hs))] at h3
      obtain ⟨w, hw, ew⟩ := hl n j v' h1 h2 h3
      exact ⟨w, by rw [if_neg e]; exact hw, ew⟩
  · obtain ⟨c, w, hc, hcell, hw⟩ := F.cell n j h1 h2
    have hne : n ≠ x := by rintro rfl; rw [hk] at h1; cases h1
    refine ⟨c, w, hc, hcell.sameBut hs' (F.apartL n c (mem_of_lookup hc)), fun v' h3 => ?_⟩
    rw [sl_st_ne (fun q : j = i => hne (F.inj n x i (q ▸ h2) hs))] at h3
    exact hw v' h3
theorem FrR.store (R : Rel Z σ s) (F : FrR Z cx env m σ s.heap) {x : Str} {i : Nat} {v : Value} (hk : cx.names.lookup x = some .local ∨ cx.names.lookup x = some .cell) (hs : cx.slots.lookup x = some i) {Q : Unit → Shared → Prop}
    (hq : ∀ s', Rel Z σ s' → GrowX (frA env) σ s σ s' → FrR Z cx env (st m i (er v)) σ s'.heap → Q () s') : wpAny Z.M A (storeName env x v) Q E s := by
  have fresh : ∀ j, cx.next ≤ j → sl (st m i (er v)) j = none := fun j hj => by
    have := F.lt x i hs
    rw [sl_st_ne (by lia)]; exact F.fresh j hj
  have step : ∀ {a : Addr} {h' : Heap} {tk : Nat}, frA env a → Heap.SameBut a s.heap h' → Rel Z σ { s with heap := h', toks := tk } ∧ GrowX (frA env) σ s σ { s with heap := h', toks := tk } := fun {a h' tk} ha hs' => by
    obtain ⟨o1, o2, o3⟩ := F.own a ha
    refine ⟨R.aside fun b o e hor => (hs'.2 b ?_).trans e, ⟨fun b o hX _ e => (hs'.2 b ?_).trans e, fun _ h k => absurd h k⟩⟩
    · rintro rfl
      rcases hor with ⟨c, hc⟩ | ⟨o, ho⟩
      · rw [o1] at hc; cases hc
      · rw [o2] at ho; cases ho
    · rintro rfl; exact hX ha
  have own : ∀ {a : Addr} {h' : Heap}, frA env a → Heap.SameBut a s.heap h' → (h'.get? a).isSome = true → ∀ b, frA env b → σ b = none ∧ Z.base.get? b = none ∧ (h'.get? b).isSome = true := fun {a h'} ha hs' hi b hb => by
    obtain ⟨o1, o2, o3⟩ := F.own b hb
    refine ⟨o1, o2, ?_⟩
    by_cases e : b = a
    · subst e; exact hi
    · rw [hs'.2 b e]; exact o3
  rcases hk with hk | hk
  · exact F.storeL R hk hs fun s' R' G' F' => hq s' R' (G'.mono fun b e => .inl e) F'
  · obtain ⟨c, w, hc, hcell, hw⟩ := F.cell x i hk hs
    refine wpAny_storeName_cell F.kind ((F.names x).trans hk) hc hcell fun h' hc' hs' => ?_
    have hfc : frA env c := .inr ⟨x, mem_of_lookup hc⟩
    obtain ⟨R', G'⟩ := step (tk := s.toks) hfc hs'
    refine hq _ R' G' ⟨F.kind, F.names, F.glob, F.blt, F.gl, own hfc hs' (by obtain ⟨o, ho, _⟩ := hc'; rw [ho]; rfl), ?_, fun n j h1 h2 => ?_, F.apart, F.apartL, F.inj, F.lt, fresh⟩
    · obtain ⟨lm, hn, hl⟩ := F.loc
      refine ⟨lm, hn.sameBut hs' (fun e => F.apartL x c (mem_of_lookup hc) e.symm), fun n j v' h1 h2 h3 => ?_⟩
      have hne : n ≠ x := by rintro rfl; rw [hk] at h1; cases h1
      rw [sl_st_ne (fun q : j = i => hne (F.inj n x i (q ▸ h2) hs))] at h3
      exact hl n j v' h1 h2 h3
    · by_cases e : n = x
      · subst e
        rw [hs] at h2; cases h2
        exact ⟨c, some v, hc, hc', fun v' h3 => ⟨v, rfl, (sl_st_self h3).symm⟩⟩
      · obtain ⟨c', w', hc2, hcell', hw'⟩ := F.cell n j h1 h2
        refine ⟨c', w', hc2, hcell'.sameBut hs' (fun q => e (name_of_addr F.apart (mem_of_lookup hc2) (q ▸ mem_of_lookup hc))), fun v' h3 => ?_⟩
        rw [sl_st_ne (fun q : j = i => e (F.inj n x i (q ▸ h2) hs))] at h3
        exact hw' v' h3
end
end Mine
end
section
open PySem PySem.W PyProof.Rows PySem.Calls
namespace Mine
-- R15
section
variable {Z : Zt} {cx : Cx} {env : Env} {m : Mp} {σ σ' σ₀ : Sg} {s s' s₀ : Shared} {A : Around} {n : Nat} {E : Value → Shared → Prop} {Q : Po} {X : Addr → Prop} {b : Addr}
noncomputable def Asd (Z : Zt) (σ : Sg) (h : Heap) (b : Addr) : Prop := σ b = none ∧ Z.base.get? b = none ∧ (h.get? b).isSome = true
theorem Asd.grow (a : Asd Z σ s.heap b) (G : GrowX X σ s σ' s') (hX : ¬ X b) : Asd Z σ' s'.heap b := by
  obtain ⟨a1, a2, a3⟩ := a
  obtain ⟨o, ho⟩ := Option.isSome_iff_exists.mp a3
  exact ⟨G.none_of a1 a3, a2, by rw [G.keep b o hX a1 ho]; rfl⟩
theorem Asd.get {o : Obj} (a : Asd Z σ s.heap b) (G : GrowX X σ s σ' s') (hX : ¬ X b) (e : s.heap.get? b = some o) : s'.heap.get? b = some o := G.keep b o hX a.1 e
theorem Asd.of (R : Rel Z σ s) (h : s.heap.get? b = none) : σ b = none ∧ Z.base.get? b = none := by
  refine ⟨?_, ?_⟩
  · cases e : σ b with
    | none => rfl
    | some c => obtain ⟨o, ho, _⟩ := R.cell b c e; rw [h] at ho; cases ho
  · cases e : Z.base.get? b with
    | none => rfl
    | some o => have := R.keep b o e; rw [h] at this; cases this
theorem GrowX.afterX {X₀ : Addr → Prop} (G : GrowX X₀ σ₀ s₀ σ s) (k : GrowX X σ s σ' s') (hX : ∀ b, X b → X₀ b ∨ s₀.heap.get? b = none) (hs : ∀ b, X₀ b → (s.heap.get? b).isSome = true) : GrowX X₀ σ₀ s₀ σ' s' := by
  have here : ∀ b, σ₀ b = none → (s₀.heap.get? b).isSome = true → σ b = none ∧ (s.heap.get? b).isSome = true := fun b h0 h1 => by
    refine ⟨G.none_of h0 h1, ?_⟩
    by_cases q : X₀ b
    · exact hs b q
    · obtain ⟨o, ho⟩ := Option.isSome_iff_exists.mp h1
      rw [G.keep b o q h0 ho]; rfl
  refine ⟨fun b o hn h0 e => ?_, fun b h0 h1 => ?_⟩
  · refine k.keep b o (fun x => ?_) (here b h0 (by rw [e]; rfl)).1 (G.keep b o hn h0 e)
    rcases hX b x with h | h
    · exact hn h
    · rw [h] at e; cases e
  · cases e : s₀.heap.get? b with
    | none => rfl
    | some o =>
      obtain ⟨h2, h3⟩ := here b h0 (by rw [e]; rfl)
      have := k.fresh b h2 h1
      rw [this] at h3; cases h3
theorem GrowX.after (G : Grow σ₀ s₀ σ s) (k : GrowX X σ s σ' s') (hX : ∀ b, X b → s₀.heap.get? b = none) : Grow σ₀ s₀ σ' s' := G.afterX k (fun b x => .inr (hX b x)) fun _ x => x.elim
noncomputable def OkE (Z : Zt) (A : Around) (cx : Cx) (env : Env) (f : Mp → Po → Sg → Prop) (g : Sem Value) : Prop :=
  ∀ m σ s Q, FrR Z cx env m σ s.heap → Rel Z σ s → f m Q σ → wpAny Z.M A g (Out Z σ s Q) NE s
noncomputable def OkC (Z : Zt) (A : Around) (cx : Cx) (env : Env) (f : Mp → Tst → Sg → Prop) (g : Sem Bool) : Prop :=
  ∀ m σ s Q, FrR Z cx env m σ s.heap → Rel Z σ s → f m Q σ → wpAny Z.M A g (OutB Z σ s Q) NE s
noncomputable def testsT (ifs : List Expr) (env : Env) : Sem Bool := forIn ifs true fun c r => if r = true then do let ok ← isTrue c env (eval c env); pure (ForInStep.yield ok) else pure (ForInStep.yield r)
noncomputable def compTurnT (e : Expr) (d : Nat) (it acc : Value) (env : Env) (ip : Pos) (target : Expr) (ifs : List Expr) (elt : Expr) : Sem Fin := do
  standAt ip
  match ← pyNext it with
  | none => pure (.done .next)
  | some v =>
    letOwnedTupleGo target it v
    assign target env v
    let mut ok := true
    for c in ifs do
      if ok then ok ← isTrue c env (eval c env)
    if ok then
      (do let _ ← PySem.call (.builtin "list.append") [acc, ← eval elt env])
    again (.compLoop e d it acc env)
theorem compTurn_one (elt target iter : Expr) (ifs : List Expr) (scope : Scope) (pos : Pos) (it acc : Value) (env : Env) :
    compTurn (.ListComp elt [⟨target, iter, ifs, 0⟩] scope pos) 0 it acc env = compTurnT (.ListComp elt [⟨target, iter, ifs, 0⟩] scope pos) 0 it acc env iter.pos target ifs elt := by rfl
theorem compTurn_two (elt target iter : Expr) (ifs : List Expr) (g : Comprehension) (scope : Scope) (pos : Pos) (it acc : Value) (env : Env) :
    compTurn (.ListComp elt [g, ⟨target, iter, ifs, 0⟩] scope pos) 1 it acc env = compTurnT (.ListComp elt [g, ⟨target, iter, ifs, 0⟩] scope pos) 1 it acc env iter.pos target ifs elt := by rfl
noncomputable def compTurnO (e : Expr) (it acc : Value) (env : Env) (ip : Pos) (target : Expr) (iter' : Expr) : Sem Fin := do
  standAt ip
  match ← pyNext it with
  | none => pure (.done .next)
  | some v =>
    letOwnedTupleGo target it v
    assign target env v
    let x ← eval iter' env
    standAt iter'.pos
    let x ← foldedSetIterable iter' env x
    let _ ← runOwn (.compStart e 1 (← holding [x] (pyIter x)) acc env) env
    again (.compLoop e 0 it acc env)
theorem compTurn_out (elt target iter target' iter' : Expr) (ifs' : List Expr) (scope : Scope) (pos : Pos) (it acc : Value) (env : Env) :
    compTurn (.ListComp elt [⟨target, iter, [], 0⟩, ⟨target', iter', ifs', 0⟩] scope pos) 0 it acc env = compTurnO (.ListComp elt [⟨target, iter, [], 0⟩, ⟨target', iter', ifs', 0⟩] scope pos) it acc env iter.pos target iter' := by
  rfl
structure CInv (Z : Zt) (ci : Cx) (cenv : Env) (m : Mp) (X₀ : Addr → Prop) (σ₀ : Sg) (s₀ : Shared) (D I : Addr) (src : V) (xs : List V) (i : Nat) (acc : List V) (σ : Sg) (s : Shared) : Prop where
  R : Rel Z σ s
  G : GrowX X₀ σ₀ s₀ σ s
  F : FrR Z ci cenv m σ s.heap
  aD : Asd Z σ s.heap D
  aI : Asd Z σ s.heap I
  it : ItAt σ s.heap I src i xs
  acc : ∃ items, s.heap.PlainList D items ∧ erL items = acc
noncomputable abbrev stepC (fT : Mp → Tst → Sg → Prop) (fE : Mp → Po → Sg → Prop) (m : Mp) (ix : Nat) : V → Lo → Lo := fun v R acc => fT (st m ix v) (kIf (fE (st m ix v) (kAcc R acc)) (R acc))
theorem kIf.pos {P R : Sg → Prop} (h : kIf P R true σ) : P σ := by cases h with | t _ p => exact p | f e _ => cases e
theorem kIf.neg {P R : Sg → Prop} (h : kIf P R false σ) : R σ := by cases h with | t e _ => cases e | f _ p => exact p
theorem loop_same {J : Sg → Prop} {f : V → (List V → Sg → Prop) → List V → Sg → Prop} {Q : List V → Sg → Prop} {l acc : List V} {σ : Sg} (h : loopL J f l Q acc σ) : J σ := by cases l <;> exact h.1
theorem xsome {X₀ : Addr → Prop} {D : Addr} {ci : Cx} {cenv : Env} {h : Heap} (hX₀ : ∀ b, X₀ b → b = D ∨ frA cenv b) (a : Asd Z σ h D) (F : FrR Z ci cenv m σ h) (b : Addr) (q : X₀ b) : (h.get? b).isSome = true :=
  (hX₀ b q).elim (fun e => e ▸ a.2.2) fun q => (F.own b q).2.2
theorem comp_loop {ci : Cx} {cenv : Env} {elt : Expr} {gens : List Comprehension} {sc : Scope} {pos ip px : Pos} {d ix : Nat} {x : Str} {ifs : List Expr} {X₀ : Addr → Prop} {D I : Addr} {src : V} {xs : List V} {σ₁ : Sg}
    {fT : Mp → Tst → Sg → Prop} {fE : Mp → Po → Sg → Prop} {Qe : List V → Sg → Prop} {R : Result → Shared → Prop} (hh : A.handled = none) {B : Nat} (hB : B ≤ 10000000)
    (hturn : ∀ it acc, compTurn (.ListComp elt gens sc pos) d it acc cenv = compTurnT (.ListComp elt gens sc pos) d it acc cenv ip (.Name x px) ifs elt)
    (hx : ci.names.lookup x = some .local) (hs : ci.slots.lookup x = some ix) (hf : sl m ix = none)
    (okT : OkC Z A ci cenv fT (testsT ifs cenv)) (okE : OkE Z A ci cenv fE (eval elt cenv))
    (hD : X₀ D ∨ s₀.heap.get? D = none) (hI : X₀ I ∨ s₀.heap.get? I = none) (hC : X₀ cenv.locals ∨ s₀.heap.get? cenv.locals = none) (hDI : D ≠ I) (hDC : ¬ frA cenv D) (hIC : ¬ frA cenv I) (hX₀ : ∀ b, X₀ b → b = D ∨ frA cenv b)
    (hR : ∀ acc σ s, Rel Z σ s → GrowX X₀ σ₀ s₀ σ s → FrR Z ci cenv m σ s.heap → Asd Z σ s.heap D → (∃ items, s.heap.PlainList D items ∧ erL items = acc) → acc.length ≤ B → Qe acc σ → R (.ok .next) s)
    {i : Nat} {acc : List V} (hacc : acc.length + (xs.length - i) ≤ B) (hi : i ≤ xs.length) (inv : CInv Z ci cenv m X₀ σ₀ s₀ D I src xs i acc σ s) (hsm : Same src σ₁ σ) (h : loopL (Same src σ₁) (stepC fT fE m ix) (xs.drop i) Qe acc σ) :
    codeAny Z.M A (.compLoop (.ListComp elt gens sc pos) d (.ref I) (.ref D) cenv) R s := by
  refine codeAny_loop rfl (fun k s => ∃ i acc σ, k = xs.length - i ∧ acc.length + (xs.length - i) ≤ B ∧ i ≤ xs.length ∧ CInv Z ci cenv m X₀ σ₀ s₀ D I src xs i acc σ s ∧ Same src σ₁ σ ∧ loopL (Same src σ₁) (stepC fT fE m ix) (xs.drop i) Qe acc σ) ?_ _ ⟨i, acc, σ, rfl, hacc, hi, inv, hsm, h⟩
  rintro k s ⟨i, acc, σ, rfl, hacc, hi, inv, hsm, h⟩
  show wpAny _ A ((compTurn (.ListComp elt gens sc pos) d (.ref I) (.ref D) cenv).onRaise (fun x => do noteFrame x cenv; theTreesLotGoes x)) _ _ s
  refine wpAny_noted ?_
  rw [hturn]
  unfold compTurnT
  have hXs := xsome hX₀ inv.aD inv.F
  refine wpAny_bind (wpAny_standAt (wpAny_bind ?_))
  by_cases hlt : i < xs.length
  · obtain ⟨v, hv⟩ : ∃ v, xs[i]? = some v := ⟨_, List.getElem?_eq_getElem hlt⟩
    rw [List.drop_eq_getElem_cons hlt] at h
    have hv' : xs[i] = v := by rw [List.getElem?_eq_getElem hlt] at hv; simpa using hv
    rw [hv'] at h
    obtain ⟨_, h⟩ := h
    refine it_next inv.R inv.it hv fun w s1 ew st1 it1 => ?_
    subst ew
    have R1 := st1.rel inv.R inv.aI.1 inv.aI.2.1
    have G1 : GrowX (fun b => b = I) σ s σ s1 := st1.grow rfl
    have F1 := inv.F.grow G1 fun a ha e => hIC (e ▸ ha)
    have D1 := inv.aD.grow G1 (by exact hDI)
    have I1 : Asd Z σ s1.heap I := ⟨inv.aI.1, inv.aI.2.1, it1.some⟩
    refine wpAny_bind (wpAny_of_eq (a := ()) rfl (wpAny_bind (wpAny_assign_Name (F1.storeL R1 hx hs fun s2 R2 G2 F2 => ?_))))
    have hIC' : I ≠ cenv.locals := fun e => hIC (.inl e)
    have hDC' : D ≠ cenv.locals := fun e => hDC (.inl e)
    have D2 := D1.grow G2 hDC'
    have I2 := I1.grow G2 hIC'
    have it2 := it1.keep fun o e => I1.get G2 hIC' e
    refine wpAny_bind (wpAny_mono (okT _ σ s2 _ F2 R2 h) (fun b s3 h3 => ?_) fun _ _ e => e.elim)
    obtain ⟨σ3, R3, G3, h3⟩ := h3
    have F3 := F2.keep G3
    have D3 := D2.grow G3 id
    have I3 := I2.grow G3 id
    have G03 : GrowX X₀ σ₀ s₀ σ3 s3 := by
      have g1 := inv.G.afterX (X₀ := X₀) G1 (fun b e => e ▸ hI) hXs
      have hXs1 := xsome hX₀ D1 F1
      have hXs2 := xsome hX₀ D2 F2
      exact (g1.afterX G2 (fun b e => e ▸ hC) hXs1).afterX G3 (fun _ x => x.elim) hXs2
    obtain ⟨items, hpl, hacc'⟩ := inv.acc
    have pl3 : s3.heap.PlainList D items := hpl.at fun o e => D2.get G3 id (D1.get G2 hDC' (inv.aD.get G1 (by exact hDI) e))
    have hstep : ∀ {σ' : Sg} {h : Heap}, Same src σ₁ σ' → ItAt σ h I src (i + 1) xs → ItAt σ' h I src (i + 1) xs := fun {σ' h} q k => k.to (fun _ e => e) (hsm.symm.trans q)
    cases b with
    | false =>
      replace h3 := h3.neg
      have hs' := loop_same h3
      simp only [Bool.false_eq_true, if_false]
      refine wpAny_bind (wpAny_pure (wpAny_pure ⟨rfl, xs.length - (i + 1), by lia, i + 1, acc, σ3, rfl, by lia, hlt, ?_, hs', h3⟩))
      exact ⟨R3, G03, F3.back hf, D3, I3, hstep hs' (it2.keep fun o e => I2.get G3 id e), items, pl3, hacc'⟩
    | true =>
      replace h3 := h3.pos
      simp only [if_true]
      refine wpAny_bind (wpAny_bind (wpAny_mono (okE _ σ3 s3 _ F3 R3 h3) (fun y s4 h4 => ?_) fun _ _ e => e.elim))
      obtain ⟨σ4, R4, G4, h4⟩ := h4
      have hs' := loop_same h4
      have D4 := D3.grow G4 id
      have F4 := F3.keep G4
      have pl4 : s4.heap.PlainList D items := pl3.at fun o e => D3.get G4 id e
      have hsz : items.size = acc.length := by rw [← hacc']; simp [erL]
      refine wpAny_bind (wpAny_list_append_plain pl4 (fun h' hp hs5 => ?_) (by rw [sizeLine_eq]; lia))
      have G5 : GrowX (fun b => b = D) σ4 s4 σ4 { s4 with heap := h' } := ⟨fun b o hX _ e => (hs5.2 b hX).trans e, fun _ h k => absurd h k⟩
      have R5 : Rel Z σ4 { s4 with heap := h' } := R4.aside (tk := s4.toks) fun b o e hor => (hs5.2 b (by
        rintro rfl
        rcases hor with ⟨c, hc⟩ | ⟨o, ho⟩
        · rw [D4.1] at hc; cases hc
        · rw [D4.2.1] at ho; cases ho)).trans e
      have hXs3 := xsome hX₀ D3 F3
      have hXs4 := xsome hX₀ D4 F4
      have I4 := I3.grow G4 id
      have F5 : FrR Z ci cenv (st m ix (er w)) σ4 h' := F4.grow (s' := { s4 with heap := h' }) G5 fun a ha e => hDC (e ▸ ha)
      refine wpAny_pure (wpAny_pure ⟨rfl, xs.length - (i + 1), by lia, i + 1, acc ++ [er y], σ4, rfl, by simp; lia, hlt, ?_, hs', h4⟩)
      refine ⟨R5, (G03.afterX G4 (fun _ x => x.elim) hXs3).afterX G5 (fun b e => e ▸ hD) hXs4, F5.back hf, ⟨D4.1, D4.2.1, ?_⟩, I4.grow G5 (fun e => hDI e.symm), ?_, _, hp, by rw [← hacc']; simp [erL]⟩
      · obtain ⟨k', e⟩ := hp; rw [show ({ s4 with heap := h' } : Shared).heap = h' from rfl, e]; rfl
      · exact hstep hs' (((it2.keep fun o e => I2.get G3 id e).keep fun o e => I3.get G4 id e).keep fun o e => I4.get G5 (fun e => hDI e.symm) e)
  · have hi' : i = xs.length := by lia
    subst hi'
    rw [List.drop_length] at h
    refine it_end hh inv.R inv.it fun s1 st1 => ?_
    have G1 : GrowX (fun b => b = I) σ s σ s1 := st1.grow rfl
    obtain ⟨items, hpl, hacc'⟩ := inv.acc
    refine wpAny_pure (hR acc σ s1 (st1.rel inv.R inv.aI.1 inv.aI.2.1) (inv.G.afterX G1 (fun b e => e ▸ hI) hXs) (inv.F.grow G1 fun a ha e => hIC (e ▸ ha)) (inv.aD.grow G1 hDI) ⟨items, hpl.at fun o e => inv.aD.get G1 hDI e, hacc'⟩ (by lia) h.2)
theorem compStart_any {elt : Expr} {gens : List Comprehension} {sc : Scope} {pos : Pos} {d : Nat} {g : Comprehension} {it acc : Value} {R : Result → Shared → Prop} (hg : gens[d]? = some g) (ha : g.is_async = 0)
    (h0 : codeAny Z.M A (.compLoop (.ListComp elt gens sc pos) d it acc env) R s)
    (h : wpAny Z.M A (pyIter it) (fun it' s' => codeAny Z.M A (.compLoop (.ListComp elt gens sc pos) d it' acc env) R s') NE s) :
    codeAny Z.M A (.compStart (.ListComp elt gens sc pos) d it acc env) R s := by
  refine codeAny_of_tree ?_
  show wpAny _ _ ((compStart (.ListComp elt gens sc pos) d it acc env).onRaise (fun x => do noteFrame x env; standAt theWindowsPlace)) _ _ s
  refine wpAny_notedAt ?_
  unfold compStart
  have hcl : (clausesOf (.ListComp elt gens sc pos))[d]? = some g := hg
  rw [hcl]
  simp only [Option.elim_some, ha, bne_self_eq_false, Bool.false_eq_true, if_false]
  refine wpAny_bind (wpAny_askSetting (wpAny_ite ?_))
  split
  · exact wpAny_bind (wpAny_pure (wpAny_pure (And.intro rfl h0)))
  · exact wpAny_bind (wpAny_rule (wpAny_bind (wpAny_standAt (wpAny_bind (wpAny_mono h (fun it' s' h' => wpAny_pure (And.intro rfl h')) fun _ _ x => x.elim)))))
noncomputable abbrev stepO (fI : Mp → Po → Sg → Prop) (fT : Mp → Tst → Sg → Prop) (fE : Mp → Po → Sg → Prop) (m : Mp) (ix ix' : Nat) : V → Lo → Lo := fun v R acc => fI (st m ix v) (CompK (stepC fT fE (st m ix v) ix') R acc)
theorem comp_loop2 (S : Static Z) {ci : Cx} {cenv : Env} {elt iter iter' : Expr} {sc : Scope} {pos px px' : Pos} {ix ix' : Nat} {x x' : Str} {ifs : List Expr} {D I : Addr} {src : V} {xs : List V} {σ₁ : Sg}
    {fI : Mp → Po → Sg → Prop} {fT : Mp → Tst → Sg → Prop} {fE : Mp → Po → Sg → Prop} {Qe : List V → Sg → Prop} {R : Result → Shared → Prop} (hh : A.handled = none)
    (hfold : ∀ x, foldedSetIterable iter' cenv x = pure x)
    (hx : ci.names.lookup x = some .local) (hs : ci.slots.lookup x = some ix) (hf : sl m ix = none) (hx' : ci.names.lookup x' = some .local) (hs' : ci.slots.lookup x' = some ix') (hf' : sl m ix' = none) (hxx : ix' ≠ ix)
    (okI : OkE Z A ci cenv fI (eval iter' cenv)) (okT : OkC Z A ci cenv fT (testsT ifs cenv)) (okE : OkE Z A ci cenv fE (eval elt cenv))
    (hD : s₀.heap.get? D = none) (hI : s₀.heap.get? I = none) (hC : s₀.heap.get? cenv.locals = none) (hDI : D ≠ I) (hDC : ¬ frA cenv D) (hIC : ¬ frA cenv I)
    (hlen : xs.length ≤ 1000)
    (hR : ∀ acc σ s, Rel Z σ s → Grow σ₀ s₀ σ s → FrR Z ci cenv m σ s.heap → Asd Z σ s.heap D → (∃ items, s.heap.PlainList D items ∧ erL items = acc) → Qe acc σ → R (.ok .next) s)
    (inv : CInv Z ci cenv m (fun _ => False) σ₀ s₀ D I src xs 0 [] σ s) (hsm : Same src σ₁ σ) (h : loopL (Same src σ₁) (stepO fI fT fE m ix ix') xs Qe [] σ) :
    codeAny Z.M A (.compLoop (.ListComp elt [⟨.Name x px, iter, [], 0⟩, ⟨.Name x' px', iter', ifs, 0⟩] sc pos) 0 (.ref I) (.ref D) cenv) R s := by
  have nX : ∀ {s : Shared} (b : Addr), False → (s.heap.get? b).isSome = true := fun _ q => q.elim
  refine codeAny_loop rfl (fun k s => ∃ i acc σ, k = xs.length - i ∧ acc.length ≤ 1000 * i ∧ i ≤ xs.length ∧ CInv Z ci cenv m (fun _ => False) σ₀ s₀ D I src xs i acc σ s ∧ Same src σ₁ σ ∧ loopL (Same src σ₁) (stepO fI fT fE m ix ix') (xs.drop i) Qe acc σ) ?_ _
    ⟨0, [], σ, rfl, Nat.le_refl _, Nat.zero_le _, inv, hsm, h⟩
  rintro k s ⟨i, acc, σ, rfl, hacc, hi, inv, hsm, h⟩
  show wpAny _ A ((compTurn (.ListComp elt [⟨.Name x px, iter, [], 0⟩, ⟨.Name x' px', iter', ifs, 0⟩] sc pos) 0 (.ref I) (.ref D) cenv).onRaise (fun x => do noteFrame x cenv; theTreesLotGoes x)) _ _ s
  refine wpAny_noted ?_
  rw [compTurn_out]
  unfold compTurnO
  refine wpAny_bind (wpAny_standAt (wpAny_bind ?_))
  by_cases hlt : i < xs.length
  · obtain ⟨v, hv⟩ : ∃ v, xs[i]? = some v := ⟨_, List.getElem?_eq_getElem hlt⟩
    rw [List.drop_eq_getElem_cons hlt] at h
    have hv' : xs[i] = v := by rw [List.getElem?_eq_getElem hlt] at hv; simpa using hv
    rw [hv'] at h
    obtain ⟨_, h⟩ := h
    refine it_next inv.R inv.it hv fun w s1 ew st1 it1 => ?_
    subst ew
    have R1 := st1.rel inv.R inv.aI.1 inv.aI.2.1
    have G1 : GrowX (fun b => b = I) σ s σ s1 := st1.grow rfl
    have F1 := inv.F.grow G1 fun a ha e => hIC (e ▸ ha)
    have D1 := inv.aD.grow G1 (by exact hDI)
    have I1 : Asd Z σ s1.heap I := ⟨inv.aI.1, inv.aI.2.1, it1.some⟩
    refine wpAny_bind (wpAny_of_eq (a := ()) rfl (wpAny_bind (wpAny_assign_Name (F1.storeL R1 hx hs fun s2 R2 G2 F2 => ?_))))
    have hIC' : I ≠ cenv.locals := fun e => hIC (.inl e)
    have hDC' : D ≠ cenv.locals := fun e => hDC (.inl e)
    have D2 := D1.grow G2 hDC'
    have I2 := I1.grow G2 hIC'
    have it2 := it1.keep fun o e => I1.get G2 hIC' e
    refine wpAny_bind (wpAny_mono (okI _ σ s2 _ F2 R2 h) (fun y s3 h3 => ?_) fun _ _ e => e.elim)
    obtain ⟨σ3, R3, G3, h3⟩ := h3
    have F3 := F2.keep G3
    have D3 := D2.grow G3 id
    have I3 := I2.grow G3 id
    have G03 : Grow σ₀ s₀ σ3 s3 := ((inv.G.afterX G1 (fun b e => .inr (e ▸ hI)) nX).afterX G2 (fun b e => .inr (e ▸ hC)) nX).afterX G3 (fun _ x => x.elim) nX
    obtain ⟨items, hpl, hacc'⟩ := inv.acc
    have pl3 : s3.heap.PlainList D items := hpl.at fun o e => D2.get G3 id (D1.get G2 hDC' (inv.aD.get G1 (by exact hDI) e))
    · obtain @⟨ys, hys, hyl, h3⟩ := h3
      refine wpAny_bind (wpAny_standAt (wpAny_bind (wpAny_of_eq (hfold y) (wpAny_bind (wpAny_holding (it_start S R3 hys fun it' s4 hst => ?_))))))
      obtain ⟨o', rfl, rfl, hof, R4, G4, hit4⟩ := hst
      have hI'n : s3.heap.get? s3.heap.objs.size = none := new_addr _
      have F4 := F3.keep G4
      have D4 := D3.grow G4 id
      have I4 := I3.grow G4 id
      have old : ∀ b o, s3.heap.get? b = some o → b ≠ s3.heap.objs.size := fun b o e q => by rw [q, hI'n] at e; cases e
      have hII' : I ≠ s3.heap.objs.size := fun q => by have := I3.2.2; rw [q, hI'n] at this; cases this
      have hDI' : D ≠ s3.heap.objs.size := fun q => by have := D3.2.2; rw [q, hI'n] at this; cases this
      have hI'C : ¬ frA cenv s3.heap.objs.size := fun q => by have := (F3.own _ q).2.2; rw [hI'n] at this; cases this
      have aI' : Asd Z σ3 (s3.heap.push o') s3.heap.objs.size := ⟨(Asd.of R3 hI'n).1, (Asd.of R3 hI'n).2, by rw [Heap.get?_push_size _ hof]; rfl⟩
      have f' : sl (st m ix (er w)) ix' = none := by rw [sl_st_ne hxx]; exact hf'
      have hstep : ∀ {σ' : Sg} {h : Heap}, Same src σ₁ σ' → ItAt σ h I src (i + 1) xs → ItAt σ' h I src (i + 1) xs := fun {σ' h} q k => k.to (fun _ e => e) (hsm.symm.trans q)
      refine wpAny_bind (wpAny_runOwn (h := none) ?_)
      refine codeAny_mono (R := fun r s' => ∃ acc' σ', r = .ok .next ∧ Rel Z σ' s' ∧ GrowX (fun b => b = D ∨ b = cenv.locals) σ3 s3 σ' s' ∧ FrR Z ci cenv (st m ix (er w)) σ' s'.heap ∧ Asd Z σ' s'.heap D ∧ (∃ items, s'.heap.PlainList D items ∧ erL items = acc') ∧ acc'.length ≤ 1000 * (i + 1) ∧
          loopL (Same src σ₁) (stepO fI fT fE m ix ix') (xs.drop (i + 1)) Qe acc' σ') ?_ ?_
      · have main : codeAny Z.M A (.compLoop (.ListComp elt [⟨.Name x px, iter, [], 0⟩, ⟨.Name x' px', iter', ifs, 0⟩] sc pos) 1 (.ref s3.heap.objs.size) (.ref D) cenv) (fun r s' => ∃ acc' σ', r = .ok .next ∧ Rel Z σ' s' ∧ GrowX (fun b => b = D ∨ b = cenv.locals) σ3 s3 σ' s' ∧ FrR Z ci cenv (st m ix (er w)) σ' s'.heap ∧ Asd Z σ' s'.heap D ∧ (∃ items, s'.heap.PlainList D items ∧ erL items = acc') ∧ acc'.length ≤ 1000 * (i + 1) ∧
          loopL (Same src σ₁) (stepO fI fT fE m ix ix') (xs.drop (i + 1)) Qe acc' σ') { s3 with heap := s3.heap.push o' } := by
          refine comp_loop (X₀ := fun b => b = D ∨ b = cenv.locals) (σ₀ := σ3) (s₀ := s3) (D := D) (I := s3.heap.objs.size) (src := er y) (xs := ys) (σ₁ := σ3) (Qe := loopL (Same src σ₁) (stepO fI fT fE m ix ix') (xs.drop (i + 1)) Qe) hh (B := 1000 * (i + 1)) (by lia)
            (fun it acc => compTurn_two ..) hx' hs' f' okT okE (.inl (.inl rfl)) (.inr hI'n) (.inl (.inr rfl)) hDI' hDC hI'C (fun b q => q.imp id .inl)
            (fun acc' σ' s' R' G' F' D' pl' hl' q' => ⟨acc', σ', rfl, R', G', F', D', pl', hl', q'⟩) (i := 0) (acc := acc) (by lia) (Nat.zero_le _)
            ⟨R4, G4.toX, F4, D4, aI', hit4, items, pl3.at fun o e => D3.get G4 id e, hacc'⟩ (Same.refl _ _) ?_
          rw [List.drop_zero]
          exact h3
        refine compStart_any (d := 1) rfl rfl main (it_self hit4 main)
      · rintro r s' ⟨acc', σ', rfl, R', G', F', D', pl', hl', q'⟩
        have hs'' := loop_same q'
        have I' := I3.grow G' (fun e => e.elim (fun e => hDI e.symm) (fun e => hIC' e))
        refine wpAny_pure ⟨rfl, xs.length - (i + 1), by lia, i + 1, acc', σ', rfl, hl', hlt, ⟨R', G03.afterX G' (fun b e => .inr (e.elim (fun e => e ▸ hD) (fun e => e ▸ hC))) nX, F'.back hf, D', I', ?_, pl'⟩, hs'', q'⟩
        exact hstep hs'' ((it2.keep fun o e => I2.get G3 id e).keep fun o e => I3.get G' (fun e => e.elim (fun e => hDI e.symm) (fun e => hIC' e)) e)
  · have hi' : i = xs.length := by lia
    subst hi'
    rw [List.drop_length] at h
    refine it_end hh inv.R inv.it fun s1 st1 => ?_
    have G1 : GrowX (fun b => b = I) σ s σ s1 := st1.grow rfl
    obtain ⟨items, hpl, hacc'⟩ := inv.acc
    refine wpAny_pure (hR acc σ s1 (st1.rel inv.R inv.aI.1 inv.aI.2.1) (inv.G.afterX G1 (fun b e => .inr (e ▸ hI)) nX) (inv.F.grow G1 fun a ha e => hIC (e ▸ ha)) (inv.aD.grow G1 hDI) ⟨items, hpl.at fun o e => inv.aD.get G1 hDI e, hacc'⟩ h.2)
end
end Mine
end
section
open PySem PySem.W PyProof.Rows PySem.Calls
namespace Mine
-- R16
section
variable {Z : Zt} {cx : Cx} {env : Env} {m : Mp} {σ σ' σ₀ σ₁ : Sg} {s s' s₀ s₁ : Shared} {A : Around} {n : Nat} {Q : Po} {X : Addr → Prop} {b : Addr} {sc : Scope}
theorem lookup_nd {α : Type} : ∀ {l : List (Str × α)} {k : Str} {c : α}, (l.map (·.1)).Nodup → (k, c) ∈ l → l.lookup k = some c
  | (k', c') :: r, k, c, hn, hm => by
    rw [List.map_cons, List.nodup_cons] at hn
    rw [List.lookup_cons]
    rcases List.mem_cons.mp hm with e | hm
    · cases e; simp
    · have : k ≠ k' := fun e => hn.1 (List.mem_map.mpr ⟨_, hm, e⟩)
      have hb : (k == k') = false := beq_false_of_ne this
      rw [hb]; exact lookup_nd hn.2 hm
theorem lookup_zipIdx {l : List Str} {k : Nat} {x : Str} {i : Nat} (h : (l.zipIdx k).lookup x = some i) : k ≤ i ∧ l[i - k]? = some x ∧ i < k + l.length := by
  have := mem_of_lookup h
  have h1 := List.mem_zipIdx this
  exact ⟨h1.1, by rw [List.getElem?_eq_getElem (by lia)]; exact congrArg some h1.2.2.symm, h1.2.1⟩
noncomputable def clOf (names : List (Str × NameKind)) (cells : List (Str × Addr)) : List (Str × Addr) := ((names.filter (·.2 == .free)).map fun x => (x.1, (cells.lookup x.1).getD 0)).reverse
theorem closure_pure (hc : ∀ x ∈ sc.names, x.2 = .free → (env.cells.lookup x.1).isSome = true) : closureFor sc env = pure (clOf sc.names env.cells) := by
  unfold closureFor clOf
  have go : ∀ (l : List (Str × NameKind)) (acc : List (Str × Addr)), (∀ x ∈ l, x.2 = .free → (env.cells.lookup x.1).isSome = true) →
      (forIn l acc fun x r => if x.2 == NameKind.free then (do let a ← cellOf env x.1; pure (ForInStep.yield ((x.1, a) :: r))) else pure (ForInStep.yield r) : Sem _) =
        pure (((l.filter (·.2 == .free)).map fun x => (x.1, (env.cells.lookup x.1).getD 0)).reverse ++ acc) := by
    intro l
    induction l with
    | nil => intro acc _; rfl
    | cons x l ih =>
      intro acc hc
      rw [List.forIn_cons]
      have ih' := fun acc => ih acc fun y hy => hc y (.tail _ hy)
      cases hk : x.2 == NameKind.free with
      | true =>
        obtain ⟨c, hcc⟩ := Option.isSome_iff_exists.mp (hc x (.head _) (by simpa using hk))
        have e : cellOf env x.1 = pure c := by unfold cellOf; rw [hcc]
        rw [if_pos rfl, e, pure_bind, pure_bind, List.filter_cons, if_pos hk]
        refine (ih' _).trans ?_
        simp [hcc]
      | false =>
        rw [if_neg (by simp), pure_bind, List.filter_cons, if_neg (by simp [hk])]
        exact ih' _
  have := go sc.names [] hc
  rw [List.append_nil] at this
  rw [← this]
  show (forIn sc.names [] _ >>= fun r => pure r : Sem _) = _
  rw [bind_pure]
theorem innerOk_of (h : innerOk cx sc = true) : sc.kind = .function ∧ (sc.names.map (·.1)).Nodup ∧ ∀ x ∈ sc.names, x.2 = .local ∨ (x.2 = .free ∧ cx.names.lookup x.1 = some .cell ∧ (cx.slots.lookup x.1).isSome = true) ∨ x.2 = .globalImplicit := by
  unfold innerOk at h
  simp only [Bool.and_eq_true, Bool.or_eq_true, List.all_eq_true, decide_eq_true_eq, beq_iff_eq] at h
  obtain ⟨⟨h1, h2⟩, h3⟩ := h
  refine ⟨h1, h2, fun x hx => ?_⟩
  rcases h3 x hx with (h | h) | h
  · exact .inl h
  · exact .inr (.inl h)
  · exact .inr (.inr h)
theorem names_relabel (F : FrR Z cx env m σ s.heap) : (relabel sc env).names = innerNames cx sc := by
  unfold relabel innerNames
  show sc.names.map _ = sc.names.map _
  refine List.map_congr_left fun x _ => ?_
  obtain ⟨a, k⟩ := x
  show (if _ then _ else _) = (if _ then _ else _)
  rw [F.kind, F.names a]
  simp
theorem inner_lookup (h : innerOk cx sc = true) {x : Str} {k : NameKind} (hl : (innerNames cx sc).lookup x = some k) : ∃ k', (x, k') ∈ sc.names ∧ (k' = .local ∧ k = .local ∨ k' = .free ∧ k = .cell ∧ cx.names.lookup x = some .cell ∨ k' = .globalImplicit ∧ k = .globalImplicit) := by
  obtain ⟨_, _, h3⟩ := innerOk_of h
  have hm := mem_of_lookup hl
  unfold innerNames at hm
  obtain ⟨⟨a, k'⟩, ha, e⟩ := List.mem_map.mp hm
  rcases h3 _ ha with h4 | ⟨h4, h5, h6⟩ | h4
  · dsimp only at h4; subst h4
    rw [if_neg (by simp)] at e
    cases e; exact ⟨_, ha, .inl ⟨rfl, rfl⟩⟩
  · dsimp only at h4 h5; subst h4
    rw [if_pos (by simp [h5])] at e
    cases e; exact ⟨_, ha, .inr (.inl ⟨rfl, rfl, h5⟩)⟩
  · dsimp only at h4; subst h4
    rw [if_neg (by simp)] at e
    cases e; exact ⟨_, ha, .inr (.inr ⟨rfl, rfl⟩)⟩
theorem own_mem {x : Str} (h : x ∈ innerOwn sc) : (x, NameKind.local) ∈ sc.names := by
  unfold innerOwn at h
  obtain ⟨⟨a, k⟩, ha, e⟩ := List.mem_map.mp h
  obtain ⟨h1, h2⟩ := List.mem_filter.mp ha
  simp only [Bool.and_eq_true, beq_iff_eq] at h2
  dsimp only at e h2
  rw [← e, ← h2.1]; exact h1
theorem own_nodup (h : (sc.names.map (·.1)).Nodup) : (innerOwn sc).Nodup := by
  unfold innerOwn
  exact h.sublist (List.Sublist.map _ (List.filter_sublist ..))
theorem inner_slots (hd : (sc.names.map (·.1)).Nodup) {x : Str} {i : Nat} (h : (innerCx cx sc).slots.lookup x = some i) :
    ((x, NameKind.local) ∈ sc.names ∧ cx.next ≤ i ∧ i < cx.next + (innerOwn sc).length ∧ (innerOwn sc)[i - cx.next]? = some x) ∨ ((x, NameKind.free) ∈ sc.names ∧ cx.slots.lookup x = some i) := by
  have h' : ((innerOwn sc).zipIdx cx.next ++ (sc.names.filter fun x => x.2 == .free).filterMap fun x => (cx.slots.lookup x.1).map fun i => (x.1, i)).lookup x = some i := h
  rw [List.lookup_append] at h'
  cases e : ((innerOwn sc).zipIdx cx.next).lookup x with
  | some j =>
    rw [e] at h'
    have : j = i := by simpa using h'
    subst this
    obtain ⟨h1, h2, h3⟩ := lookup_zipIdx e
    exact .inl ⟨own_mem (List.mem_of_getElem? h2), h1, h3, h2⟩
  | none =>
    rw [e] at h'
    have hm := mem_of_lookup (show _ = some i by simpa using h')
    obtain ⟨⟨a, k⟩, ha, e'⟩ := List.mem_filterMap.mp hm
    obtain ⟨j, hj, e''⟩ := Option.map_eq_some_iff.mp e'
    cases e''
    obtain ⟨h1, h2⟩ := List.mem_filter.mp ha
    have : k = .free := by simpa using h2
    subst this
    exact .inr ⟨h1, hj⟩
theorem kind_uniq (hd : (sc.names.map (·.1)).Nodup) {x : Str} {k k' : NameKind} (h : (x, k) ∈ sc.names) (h' : (x, k') ∈ sc.names) : k = k' := by
  have := lookup_nd hd h
  rw [lookup_nd hd h'] at this
  exact (Option.some.inj this).symm
theorem inner_frame (F : FrR Z cx env m σ s.heap) (hok : innerOk cx sc = true) {L : Addr} {h' : Heap} (hk : ∀ b o, s.heap.get? b = some o → h'.get? b = some o) (hC : s.heap.get? L = none) (R : Rel Z σ s) (hn : h'.Ns L fun _ => none) :
    FrR Z (innerCx cx sc) (compEnvC sc (clOf sc.names env.cells) L env) m σ h' := by
  obtain ⟨h1, h2, h3⟩ := innerOk_of hok
  have clm : ∀ a c, (a, c) ∈ clOf sc.names env.cells → (a, NameKind.free) ∈ sc.names ∧ env.cells.lookup a = some c := fun a c hm => by
    unfold clOf at hm
    obtain ⟨⟨x, k⟩, hx, e⟩ := List.mem_map.mp (List.mem_reverse.mp hm)
    obtain ⟨g1, g2⟩ := List.mem_filter.mp hx
    have : k = .free := by simpa using g2
    subst this
    cases e
    refine ⟨g1, ?_⟩
    rcases h3 _ g1 with h | ⟨_, h4, h5⟩ | h
    · cases h
    · obtain ⟨i, hi⟩ := Option.isSome_iff_exists.mp h5
      obtain ⟨c, w, hc, _⟩ := F.cell x i h4 hi
      dsimp only
      rw [hc]; rfl
    · cases h
  have clk : ((clOf sc.names env.cells).map (·.1)).Nodup := by
    unfold clOf
    rw [List.map_reverse, List.map_map]
    refine List.pairwise_reverse.mpr ?_
    have : (((sc.names.filter (·.2 == .free)).map (·.1))).Nodup := h2.sublist (List.Sublist.map _ (List.filter_sublist ..))
    exact this.imp fun h => h.symm
  have cln : ∀ a, (a, NameKind.free) ∈ sc.names → ∀ c, env.cells.lookup a = some c → (clOf sc.names env.cells).lookup a = some c := fun a ha c hc => by
    refine lookup_nd clk ?_
    unfold clOf
    refine List.mem_reverse.mpr (List.mem_map.mpr ⟨(a, .free), List.mem_filter.mpr ⟨ha, rfl⟩, ?_⟩)
    dsimp only
    rw [hc]; rfl
  have old : ∀ b, frA env b → b ≠ L := fun b hb e => by have := (F.own b hb).2.2; rw [e, hC] at this; cases this
  refine ⟨?_, fun x => ?_, F.glob, F.blt, F.gl, fun a ha => ?_, ⟨_, hn, fun x i v e1 e2 e3 => ?_⟩, fun x i e1 e2 => ?_, ?_, fun x c hm => ?_, fun x y i e1 e2 => ?_, fun x i e => ?_, fun i hi => ?_⟩
  · show sc.kind = .function; exact h1
  · show (relabel sc env).names.lookup x = _
    rw [names_relabel F]; rfl
  · rcases ha with ha | ⟨x, hx⟩
    · have ha' : a = L := ha
      subst ha'
      show σ a = none ∧ Z.base.get? a = none ∧ (h'.get? a).isSome = true
      have := Asd.of R hC
      obtain ⟨o, _, _, ho, _⟩ := hn
      exact ⟨this.1, this.2, by rw [ho]; rfl⟩
    · have hx' : (x, a) ∈ env.cells := mem_of_lookup (clm x a hx).2
      obtain ⟨g1, g2, g3⟩ := F.own a (.inr ⟨x, hx'⟩)
      obtain ⟨o, ho⟩ := Option.isSome_iff_exists.mp g3
      exact ⟨g1, g2, by rw [hk a o ho]; rfl⟩
  · exfalso
    obtain ⟨k', hk', hkk⟩ := inner_lookup hok e1
    have hkl : k' = .local := by rcases hkk with h | h | h <;> simp_all
    subst hkl
    rcases inner_slots h2 e2 with ⟨_, g1, _, _⟩ | ⟨g1, _⟩
    · rw [F.fresh i g1] at e3; cases e3
    · have := kind_uniq h2 hk' g1; cases this
  · obtain ⟨k', hk', hkk⟩ := inner_lookup hok e1
    have hkl : k' = .free ∧ cx.names.lookup x = some .cell := by rcases hkk with h | h | h <;> simp_all
    obtain ⟨rfl, hcx⟩ := hkl
    rcases inner_slots h2 e2 with ⟨g1, _⟩ | ⟨_, g2⟩
    · have := kind_uniq h2 hk' g1; cases this
    · obtain ⟨c, w, hc, hcell, hw⟩ := F.cell x i hcx g2
      exact ⟨c, w, cln x hk' c hc, hcell.keeps hk, hw⟩
  · show (clOf sc.names env.cells).Pairwise _
    have hp : (clOf sc.names env.cells).Pairwise fun x y => x.1 ≠ y.1 := List.pairwise_map.mp clk
    refine hp.imp_of_mem fun {x y} hx hy hne e => hne ?_
    exact name_of_addr F.apart (mem_of_lookup (clm x.1 x.2 hx).2) (e ▸ mem_of_lookup (clm y.1 y.2 hy).2)
  · exact old c (.inr ⟨x, mem_of_lookup (clm x c hm).2⟩)
  · rcases inner_slots h2 e1 with ⟨g1, g2, g3, g4⟩ | ⟨g1, g2⟩ <;> rcases inner_slots h2 e2 with ⟨k1, k2, k3, k4⟩ | ⟨k1, k2⟩
    · rw [g4] at k4; exact Option.some.inj k4
    · have := F.lt y i k2; lia
    · have := F.lt x i g2; lia
    · exact F.inj x y i g2 k2
  · show i < cx.next + (innerOwn sc).length
    rcases inner_slots h2 e with ⟨g1, g2, g3, g4⟩ | ⟨g1, g2⟩
    · exact g3
    · have := F.lt x i g2; lia
  · exact F.fresh i (by
      have : cx.next + (innerOwn sc).length ≤ i := hi
      lia)
structure CStart (Z : Zt) (cx : Cx) (env : Env) (sc : Scope) (m : Mp) (σ₁ : Sg) (s₁ : Shared) (src : V) (xs : List V) (D I L : Addr) (s₄ : Shared) : Prop where
  inv : CInv Z (innerCx cx sc) (compEnvC sc (clOf sc.names env.cells) L env) m (fun _ => False) σ₁ s₁ D I src xs 0 [] σ₁ s₄
  hD : s₁.heap.get? D = none
  hI : s₁.heap.get? I = none
  hL : s₁.heap.get? L = none
  hDI : D ≠ I
  hDL : ¬ frA (compEnvC sc (clOf sc.names env.cells) L env) D
  hIL : ¬ frA (compEnvC sc (clOf sc.names env.cells) L env) I
theorem comp_block (S : Static Z) (F : FrR Z cx env m σ₁ s₁.heap) (R₁ : Rel Z σ₁ s₁) (hok : innerOk cx sc = true) {v : Value} {xs : List V} (hsrc : Items σ₁ (er v) xs) {elt : Expr} {gens : List Comprehension} {pos : Pos} {g : Comprehension}
    (hg : gens[0]? = some g) (ha : g.is_async = 0) {RR : Value → Addr → Result → Shared → Prop}
    (hloop : ∀ D I L s₄, CStart Z cx env sc m σ₁ s₁ (er v) xs D I L s₄ → codeAny Z.M A (.compLoop (.ListComp elt gens sc pos) 0 (.ref I) (.ref D) (compEnvC sc (clOf sc.names env.cells) L env)) (RR (.ref D) L) s₄) :
    wpAny Z.M A (pyIter v) (fun it s₂ => wpAny Z.M A (newList []) (fun acc s₃ => wpAny Z.M A (newFunctionEnv sc env.globals (clOf sc.names env.cells) [] env.qual none .none (some env)) (fun cenv s₄ =>
      codeAny Z.M A (.compStart (.ListComp elt gens sc pos) 0 it acc { cenv with scope := relabel sc env }) (RR acc cenv.locals) s₄) NE s₃) NE s₂) NE s₁ := by
  obtain ⟨h1, h2, h3⟩ := innerOk_of hok
  refine it_start S R₁ hsrc fun it s₂ hst => ?_
  obtain ⟨o, rfl, rfl, hof, R2, G2, hit⟩ := hst
  refine wpAny_newObj_type (wpAny_newFunctionEnv (fun x hx => ?_) (by intro y hy; simp at hy) (fun h₁ hns₁ hsb₁ => ?_) h1)
  · rcases h3 x hx with h | ⟨h, _⟩ | h <;> rw [h] <;> decide
  dsimp only at hns₁ hsb₁ ⊢
  have nI : s₁.heap.get? s₁.heap.objs.size = none := new_addr _
  generalize hH2 : s₁.heap.push o = H2 at hns₁ hsb₁ hit R2 G2 ⊢
  have sz2 : H2.objs.size = s₁.heap.objs.size + 1 := by rw [← hH2, Heap.size_push]
  generalize hH3 : H2.push { cls := .type "list", dict := none, data := .seq ([] : List Value).toArray } = H3 at hns₁ hsb₁ ⊢
  have sz3 : H3.objs.size = s₁.heap.objs.size + 2 := by rw [← hH3, Heap.size_push, sz2]
  have k2 : ∀ b o', s₁.heap.get? b = some o' → H2.get? b = some o' := fun b o' e => hH2 ▸ Heap.get?_push_of_some _ e
  have k3 : ∀ b o', H2.get? b = some o' → H3.get? b = some o' := fun b o' e => hH3 ▸ Heap.get?_push_of_some _ e
  have k4 : ∀ b o', b ≠ H3.objs.size → H3.get? b = some o' → h₁.get? b = some o' := fun b o' hb e => hsb₁.extBut b o' hb (Heap.get?_push_of_some _ e)
  have n1 : s₁.heap.objs.size ≠ H3.objs.size := Nat.ne_of_lt (by lia)
  have n2 : H2.objs.size ≠ H3.objs.size := Nat.ne_of_lt (by lia)
  have n3 : H2.objs.size ≠ s₁.heap.objs.size := Nat.ne_of_gt (by lia)
  have lt1 : ∀ b o', s₁.heap.get? b = some o' → b < s₁.heap.objs.size := fun b o' e => Heap.lt_size e
  have old : ∀ b o', s₁.heap.get? b = some o' → h₁.get? b = some o' := fun b o' e => k4 b o' (Nat.ne_of_lt (Nat.lt_of_lt_of_le (lt1 b o' e) (by lia))) (k3 b o' (k2 b o' e))
  have nD : s₁.heap.get? H2.objs.size = none := by
    cases e : s₁.heap.get? H2.objs.size with
    | none => rfl
    | some o' => have := lt1 _ _ e; rw [sz2] at this; exact absurd this (Nat.not_lt.mpr (Nat.le_add_right _ _))
  have nL : s₁.heap.get? H3.objs.size = none := by
    cases e : s₁.heap.get? H3.objs.size with
    | none => rfl
    | some o' => have := lt1 _ _ e; rw [sz3] at this; exact absurd this (Nat.not_lt.mpr (Nat.le_add_right _ _))
  have ho : H2.get? s₁.heap.objs.size = some o := hH2 ▸ Heap.get?_push_size _ hof
  have hdl : H3.get? H2.objs.size = some { cls := .type "list", dict := none, data := .seq ([] : List Value).toArray } := hH3 ▸ Heap.get?_push_size _ rfl
  have hI1 : h₁.get? s₁.heap.objs.size = some o := k4 _ _ n1 (k3 _ _ ho)
  have hD1 : h₁.get? H2.objs.size = some { cls := .type "list", dict := none, data := .seq ([] : List Value).toArray } := k4 _ _ n2 hdl
  have FI := inner_frame (L := H3.objs.size) F hok old nL R₁ (by simpa using hns₁)
  have notin : ∀ b, s₁.heap.get? b = none → b ≠ H3.objs.size → ¬ frA (compEnvC sc (clOf sc.names env.cells) H3.objs.size env) b := fun b hb hne hf => by
    rcases hf with e | ⟨x, hx⟩
    · exact hne e
    · have hx' : (x, b) ∈ clOf sc.names env.cells := hx
      unfold clOf at hx'
      obtain ⟨⟨y, k⟩, hy, e⟩ := List.mem_map.mp (List.mem_reverse.mp hx')
      obtain ⟨g1, g2⟩ := List.mem_filter.mp hy
      have hk : k = .free := by simpa using g2
      subst hk
      rcases h3 _ g1 with h | ⟨_, h4, h5⟩ | h
      · cases h
      · obtain ⟨i, hi⟩ := Option.isSome_iff_exists.mp h5
        obtain ⟨c, w, hc, ⟨oc, hoc, _⟩, _⟩ := F.cell y i h4 hi
        dsimp only at e hc
        rw [hc] at e
        cases e
        rw [show (some c : Option Addr).getD 0 = c from rfl] at hb
        rw [hoc] at hb; cases hb
      · cases h
  have start : ∀ s₄ : Shared, s₄ = { s₁ with heap := h₁, toks := s₁.toks + ([] : List (Str × Value)).length } → CStart Z cx env sc m σ₁ s₁ (er v) xs H2.objs.size s₁.heap.objs.size H3.objs.size s₄ := by
    rintro s₄ rfl
    refine ⟨⟨(R₁.more (tk := _) old).1, (R₁.more (tk := _) old).2, FI, ⟨(Asd.of R₁ nD).1, (Asd.of R₁ nD).2, by show (h₁.get? _).isSome = true; rw [hD1]; rfl⟩, ⟨(Asd.of R₁ nI).1, (Asd.of R₁ nI).2, by show (h₁.get? _).isSome = true; rw [hI1]; rfl⟩, hit.keep fun o' e => k4 _ _ n1 (k3 _ _ e), #[], ⟨_, hD1⟩, rfl⟩,
      nD, nI, nL, n3, notin _ nD n2, notin _ nI n1⟩
  have st := start _ rfl
  exact compStart_any (d := 0) hg ha (hloop _ _ _ _ st) (it_self st.inv.it (hloop _ _ _ _ st))
end
end Mine
end
section
open PySem PySem.W PyProof.Rows PySem.Calls
namespace Mine
-- R17
structure Slack (A : Around) (n : Nat) : Prop where
  r : Room A n
  d : A.depth + 2 * n + 5 ≤ 900
  u : A.units + 10 * n + 107 ≤ 9000
section
variable {Z : Zt} {cx : Cx} {env : Env} {m : Mp} {σ σ₁ : Sg} {s s₁ s₂ : Shared} {A : Around} {n : Nat} {Q : Po} {K : Kall} {T : Tst}
theorem Out.grow {v : Value} (h : Out Z σ₁ s₁ Q v s₂) (G : Grow σ s σ₁ s₁) : Out Z σ s Q v s₂ := let ⟨σ', R, G', q⟩ := h; ⟨σ', R, G.trans G', q⟩
theorem OutB.grow {b : Bool} (h : OutB Z σ₁ s₁ T b s₂) (G : Grow σ s σ₁ s₁) : OutB Z σ s T b s₂ := let ⟨σ', R, G', q⟩ := h; ⟨σ', R, G.trans G', q⟩
theorem wp_out {g : Sem Value} (h : wpAny Z.M A g (Out Z σ₁ s₁ Q) NE s₂) (G : Grow σ s σ₁ s₁) : wpAny Z.M A g (Out Z σ s Q) NE s₂ := wpAny_mono h (fun _ _ x => x.grow G) fun _ _ e => e
theorem wp_outB {g : Sem Bool} (h : wpAny Z.M A g (OutB Z σ₁ s₁ T) NE s₂) (G : Grow σ s σ₁ s₁) : wpAny Z.M A g (OutB Z σ s T) NE s₂ := wpAny_mono h (fun _ _ x => x.grow G) fun _ _ e => e
theorem OkE.run {f : Mp → Po → Sg → Prop} {g : Sem Value} (ok : OkE Z A cx env f g) (F : FrR Z cx env m σ s.heap) (R : Rel Z σ s) (h : f m Q σ) {P : Value → Shared → Prop}
    (k : ∀ v σ₁ s₁, Rel Z σ₁ s₁ → Grow σ s σ₁ s₁ → FrR Z cx env m σ₁ s₁.heap → Q (er v) σ₁ → P v s₁) : wpAny Z.M A g P NE s :=
  wpAny_mono (ok m σ s Q F R h) (fun v s₁ ⟨σ₁, R₁, G₁, q⟩ => k v σ₁ s₁ R₁ G₁ (F.keep G₁) q) fun _ _ e => e
theorem OkC.run {f : Mp → Tst → Sg → Prop} {g : Sem Bool} (ok : OkC Z A cx env f g) (F : FrR Z cx env m σ s.heap) (R : Rel Z σ s) (h : f m T σ) {P : Bool → Shared → Prop}
    (k : ∀ b σ₁ s₁, Rel Z σ₁ s₁ → Grow σ s σ₁ s₁ → FrR Z cx env m σ₁ s₁.heap → T b σ₁ → P b s₁) : wpAny Z.M A g P NE s :=
  wpAny_mono (ok m σ s T F R h) (fun v s₁ ⟨σ₁, R₁, G₁, q⟩ => k v σ₁ s₁ R₁ G₁ (F.keep G₁) q) fun _ _ e => e
noncomputable def OkEs (Z : Zt) (A : Around) (cx : Cx) (env : Env) (k : Nat) (f : Mp → Lo → Sg → Prop) (g : Sem (List Value)) : Prop :=
  ∀ m σ s (Q : Lo), FrR Z cx env m σ s.heap → Rel Z σ s → f m Q σ → wpAny Z.M A g (fun vs s' => vs.length = k ∧ ∃ σ', Rel Z σ' s' ∧ Grow σ s σ' s' ∧ Q (vs.map er) σ') NE s
theorem OkEs.run {f : Mp → Lo → Sg → Prop} {g : Sem (List Value)} {l : Nat} (ok : OkEs Z A cx env l f g) (F : FrR Z cx env m σ s.heap) (R : Rel Z σ s) {Q : Lo} (h : f m Q σ) {P : List Value → Shared → Prop}
    (k : ∀ vs σ₁ s₁, vs.length = l → Rel Z σ₁ s₁ → Grow σ s σ₁ s₁ → FrR Z cx env m σ₁ s₁.heap → Q (vs.map er) σ₁ → P vs s₁) : wpAny Z.M A g P NE s :=
  wpAny_mono (ok m σ s Q F R h) (fun v s₁ ⟨e, σ₁, R₁, G₁, q⟩ => k v σ₁ s₁ e R₁ G₁ (F.keep G₁) q) fun _ _ e => e
structure Ok (Z : Zt) (A : Around) (K : Kall) (cx : Cx) (env : Env) (e : Expr) (e' : E) : Prop where
  ok : OkE Z A cx env (awpE K e') (eval e env)
  c : OkC Z A cx env (awpC K e') (PySem.isTrue e env (eval e env))
  star : starEach [e] env = [(false, eval e env)]
  mkd : ∀ op, behindInMarks op e = false
  fold : ∀ x, foldedSetIterable e env x = pure x
theorem star_cons {e : Expr} {r : List Expr} (h : starEach [e] env = [(false, eval e env)]) : starEach (e :: r) env = (false, eval e env) :: starEach r env := by
  cases e <;> first | rfl | (exfalso; revert h; simp [starEach])
theorem okEs : ∀ {es : List Expr} {es' : List E}, All2 (Ok Z A K cx env) es es' → OkEs Z A cx env es.length (awpEs K es') (spliced (plainEs es env)) ∧ starEach es env = plainEs es env
  | [], [], .nil => ⟨fun m σ s Q F R h => wpAny_pure ⟨rfl, σ, R, .refl, h⟩, rfl⟩
  | e :: r, e' :: r', .cons h t =>
    have ⟨t1, t2⟩ := okEs t
    ⟨fun m σ s Q F R hq => spliced_cons (h.ok.run F R hq fun v σ₁ s₁ R₁ G₁ F₁ q => t1.run F₁ R₁ q fun vs σ₂ s₂ e R₂ G₂ F₂ q => ⟨congrArg (· + 1) e, σ₂, R₂, G₁.trans G₂, q⟩), by rw [star_cons h.star, t2]; rfl⟩
theorem okC_of {e : Expr} {e' : E} (h : OkE Z A cx env (awpE K e') (eval e env)) (ht : PySem.isTrue e env (eval e env) = (do let v ← eval e env; standAt e.pos; holding [v] (truthy v)))
    (hc : ∀ m T σ, awpC K e' m T σ → awpE K e' m (tQ T) σ) : OkC Z A cx env (awpC K e') (PySem.isTrue e env (eval e env)) := by
  intro m σ s T F R hq
  rw [ht]
  exact wpAny_bind (h.run F R (hc _ _ _ hq) fun v σ₁ s₁ R₁ G₁ F₁ q => wpAny_bind (wpAny_standAt (wpAny_holding (op_truth q fun b q => ⟨σ₁, R₁, G₁, q⟩))))
theorem okC_no {e : Expr} {e' : E} (hc : ∀ m T σ, ¬ awpC K e' m T σ) : OkC Z A cx env (awpC K e') (PySem.isTrue e env (eval e env)) := fun m σ _ _ _ _ h => (hc m _ σ h).elim
theorem ok_const {c : Const} {k : Nat} {pos : Pos} {v : V} (hc : litV c = some v) : Ok Z A K cx env (.Constant c k pos) (.lit v) := by
  refine ⟨fun m σ s Q F R h => ?_, okC_no fun _ _ _ h => h, rfl, fun _ => rfl, fun _ => rfl⟩
  cases c <;> cases hc
  · rw [arm_eval_Constant]; exact wpAny_pure (out_now R h)
  · rw [arm_eval_Constant]; exact wpAny_pure (out_now R h)
  · exact wpAny_Constant_int (out_tok R h)
  · exact Constant_str (out_tok R h)
theorem plain_of {x : Str} (h : plainName x = true) : (x == ("__debug__" : Str)) = false := by
  unfold plainName at h
  cases e : x == ("__debug__" : Str)
  · rfl
  · rw [e] at h; cases h
theorem gl_of {x : Str} {v : V} (h : cx.gl x = some v) : cx.names.lookup x = some .globalImplicit ∧ cx.glob.lookup x = some v ∧ (x == ("__debug__" : Str)) = false := by
  unfold Cx.gl at h
  cases c : plainName x && cx.names.lookup x == some .globalImplicit <;> rw [c] at h
  · cases h
  · rw [Bool.and_eq_true, beq_iff_eq] at c
    exact ⟨c.2, h, plain_of c.1⟩
theorem loc_of {x : Str} {i : Nat} (h : cx.loc x = some i) : (cx.names.lookup x = some .local ∨ cx.names.lookup x = some .cell) ∧ cx.slots.lookup x = some i ∧ (x == ("__debug__" : Str)) = false := by
  unfold Cx.loc at h
  cases c : plainName x && (cx.names.lookup x == some .local || cx.names.lookup x == some .cell) <;> rw [c] at h
  · cases h
  · rw [Bool.and_eq_true, Bool.or_eq_true, beq_iff_eq, beq_iff_eq] at c
    exact ⟨c.2, h, plain_of c.1⟩
theorem ok_glob (S : Static Z) {x : Str} {v : V} {pos : Pos} (h : cx.gl x = some v) : Ok Z A K cx env (.Name x pos) (.lit v) :=
  have ⟨hk, hg, hd⟩ := gl_of h
  ⟨fun m σ s Q F R h => F.globalName S R hk hg hd h, okC_no fun _ _ _ h => h, rfl, fun _ => rfl, fun _ => rfl⟩
theorem onO_some {o : Option V} (h : onO o Q σ) : ∃ v, o = some v ∧ Q v σ := by
  cases o with
  | none => exact h.elim
  | some v => exact ⟨v, rfl, h⟩
theorem ok_loc {x : Str} {i : Nat} {pos : Pos} (h : cx.loc x = some i) : Ok Z A K cx env (.Name x pos) (.loc i) := by
  obtain ⟨hk, hs, hd⟩ := loc_of h
  have e : OkE Z A cx env (awpE K (.loc i)) (eval (.Name x pos) env) := fun m σ s Q F R h => let ⟨v, hv, q⟩ := onO_some h; F.localName R hk hs hv hd q
  exact ⟨e, okC_of e rfl fun _ _ _ h => h, rfl, fun _ => rfl, fun _ => rfl⟩
theorem ok_bin {a b : Expr} {a' b' : E} {op : Operator} {pos : Pos} (ha : Ok Z A K cx env a a') (hb : Ok Z A K cx env b b') : Ok Z A K cx env (.BinOp a op b pos) (.bin op a' b') := by
  have e : OkE Z A cx env (awpE K (.bin op a' b')) (eval (.BinOp a op b pos) env) := fun m σ s Q F R h =>
    wpAny_BinOp (ha.ok.run F R h fun va σ₁ s₁ R₁ G₁ F₁ q => hb.ok.run F₁ R₁ q fun vb σ₂ s₂ R₂ G₂ F₂ q => wp_out (bin_all R₂ q) (G₁.trans G₂))
  exact ⟨e, okC_of e rfl fun _ _ _ h => h, rfl, fun _ => rfl, fun _ => rfl⟩
theorem base_plain {o : Expr} {nm : Str} {whole : Sem Value} (h : noCall0 o = true) : attributeBase o nm env whole = whole := by
  unfold attributeBase
  split
  · cases h
  · rfl
theorem okS_of {nm : Str} {t : String} (h : okS nm = some t) : nm = Str.ofString t := by
  unfold okS at h
  cases e : Str.ofString nm.toString == nm <;> rw [e] at h <;> cases h
  exact (eq_of_beq e).symm
theorem ok_attr (S : Static Z) {o : Expr} {o' : E} {nm : Str} {t : String} {pos : Pos} (hb : noCall0 o = true) (ht : okS nm = some t) (ho : Ok Z A K cx env o o') : Ok Z A K cx env (.Attribute o nm pos) (.attr o' t) := by
  rw [okS_of ht]
  have e : OkE Z A cx env (awpE K (.attr o' t)) (eval (.Attribute o (Str.ofString t) pos) env) := fun m σ s Q F R h => by
    rw [arm_eval_Attribute, base_plain hb]
    exact wpAny_bind (ho.ok.run F R h fun vo σ₁ s₁ R₁ G₁ F₁ q => wpAny_bind (wpAny_standAt (wpAny_bind (wpAny_holding (wpAny_mono (op_attr S R₁ q) (fun v' s₂ h₂ => wpAny_bind (wpAny_letTemporaryGo (wpAny_pure (h₂.grow G₁)))) fun _ _ e => e)))))
  exact ⟨e, okC_of e rfl fun _ _ _ h => h, rfl, fun _ => rfl, fun _ => rfl⟩
theorem ok_sub {v i : Expr} {v' i' : E} {pos : Pos} (hs : isSl i = false) (hv : Ok Z A K cx env v v') (hi : Ok Z A K cx env i i') : Ok Z A K cx env (.Subscript v i pos) (.sub v' i') :=
  ⟨fun m σ s Q F R h => Subscript_ (hv.ok.run F R h fun vo σ₁ s₁ R₁ G₁ F₁ q => hi.ok.run F₁ R₁ q fun vk σ₂ s₂ R₂ G₂ F₂ q => wp_out (op_sub R₂ hs q) (G₁.trans G₂)), okC_no fun _ _ _ h => h, rfl, fun _ => rfl, fun _ => rfl⟩
theorem okO {o : Option Expr} {o' : E} (h : All2o (Ok Z A K cx env) o o') : OkE Z A cx env (awpE K o') (valueOrNone (evalOpt o env)) := by
  cases h with
  | none => exact fun m σ s Q F R h => wpAny_pure ⟨σ, R, .refl, h⟩
  | some h => exact h.ok
theorem ok_slice {v : Expr} {lo hi : Option Expr} {v' lo' hi' : E} {p pos : Pos} (hv : Ok Z A K cx env v v') (hl : All2o (Ok Z A K cx env) lo lo') (hh : All2o (Ok Z A K cx env) hi hi') :
    Ok Z A K cx env (.Subscript v (.Slice lo hi none p) pos) (.slice v' lo' hi') := by
  refine ⟨fun m σ s Q F R h => Subscript_ (hv.ok.run F R h fun vo σ₁ s₁ R₁ G₁ F₁ q => ?_), okC_no fun _ _ _ h => h, rfl, fun _ => rfl, fun _ => rfl⟩
  rw [arm_eval_Slice]
  exact wpAny_bind ((okO hl).run F₁ R₁ q fun vl σ₂ s₂ R₂ G₂ F₂ q => wpAny_bind (wpAny_holding ((okO hh).run F₂ R₂ q fun vu σ₃ s₃ R₃ G₃ F₃ q => wpAny_bind (wpAny_holding (wpAny_pure (wpAny_newObj_type (wp_out (op_slice (A := A) R₃ q) ((G₁.trans G₂).trans G₃))))))))
theorem ok_not {a : Expr} {a' : E} {pos : Pos} (ha : Ok Z A K cx env a a') : Ok Z A K cx env (.UnaryOp .Not a pos) (.not a') := by
  refine ⟨fun m σ s Q F R h => wpAny_UnaryOp (ha.ok.run F R h fun va σ₁ s₁ R₁ G₁ F₁ q => not_value (op_truth q fun b q => ⟨σ₁, R₁, G₁, q⟩)), fun m σ s T F R h => ?_, rfl, fun _ => rfl, fun _ => rfl⟩
  rw [arm_isTrue_UnaryOp]
  exact wpAny_bind (ha.c.run F R h fun b σ₁ s₁ R₁ G₁ F₁ q => wpAny_pure ⟨σ₁, R₁, G₁, q⟩)
theorem ok_neg {a : Expr} {a' : E} {pos : Pos} (ha : Ok Z A K cx env a a') : Ok Z A K cx env (.UnaryOp .USub a pos) (.neg a') := by
  refine ⟨fun m σ s Q F R h => wpAny_UnaryOp (ha.ok.run F R h fun va σ₁ s₁ R₁ G₁ F₁ q => ?_), okC_no fun _ _ _ h => h, rfl, fun _ => rfl, fun _ => rfl⟩
  cases va <;> first | exact q.elim | exact neg_int ⟨σ₁, R₁.toks, G₁.toks, q⟩
theorem kIf.el {P R : Sg → Prop} {b : Bool} {X : Prop} (h : kIf P R b σ) (h1 : b = true → P σ → X) (h2 : b = false → R σ → X) : X := by cases h with | t e p => exact h1 e p | f e p => exact h2 e p
theorem okB {op : BoolOp} {pos : Pos} : ∀ {es : List Expr} {es' : List E} {e' : E}, All2 (Ok Z A K cx env) es es' → foldB op es' = some e' →
    OkE Z A cx env (awpE K e') (boolOp pos op (evalEach es env)) ∧ OkC Z A cx env (awpC K e') (allTrue op es env)
  | [], _, _, .nil, h => by cases h
  | [a], _, _, .cons ha .nil, h => by
    have e : _ = _ := Option.some.inj h
    subst e
    refine ⟨ha.ok, fun m σ s T F R h => ?_⟩
    rw [arm_allTrue_cons]
    refine wpAny_bind (ha.c.run F R h fun b σ₁ s₁ R₁ G₁ F₁ q => ?_)
    cases op <;> cases b <;> exact wpAny_pure ⟨σ₁, R₁, G₁, q⟩
  | a :: b :: r, _, _, .cons ha (.cons hb hr), h => by
    have h' : (foldB op (_ :: _)).map _ = some _ := h
    obtain ⟨b', e1, e2⟩ := Option.map_eq_some_iff.mp h'
    obtain ⟨i1, i2⟩ := okB (pos := pos) (.cons hb hr) e1
    subst e2
    refine ⟨fun m σ s Q F R h => ?_, fun m σ s T F R h => ?_⟩
    · show wpAny Z.M A (do let v ← eval a env; standAt pos; let t ← holding [v] (truthy v); match op, t with | .And, false | .Or, true => pure v | _, _ => boolOp pos op (evalEach (b :: r) env)) _ _ _
      cases op with
      | And =>
        refine wpAny_bind (ha.ok.run F R h fun va σ₁ s₁ R₁ G₁ F₁ q => wpAny_bind (wpAny_standAt (wpAny_bind (wpAny_holding (op_truth q fun t q => ?_)))))
        cases t
        · exact wpAny_pure ⟨σ₁, R₁, G₁, q.neg⟩
        · exact wp_out (i1 m σ₁ s₁ Q F₁ R₁ q.pos) G₁
      | Or =>
        refine wpAny_bind (ha.ok.run F R h fun va σ₁ s₁ R₁ G₁ F₁ q => wpAny_bind (wpAny_standAt (wpAny_bind (wpAny_holding (op_truth q fun t q => ?_)))))
        cases t
        · exact wp_out (i1 m σ₁ s₁ Q F₁ R₁ q.neg) G₁
        · exact wpAny_pure ⟨σ₁, R₁, G₁, q.pos⟩
    · rw [arm_allTrue_cons]
      cases op with
      | And =>
        refine wpAny_bind (ha.c.run F R h fun t σ₁ s₁ R₁ G₁ F₁ q => ?_)
        cases t
        · exact wpAny_pure ⟨σ₁, R₁, G₁, q.neg⟩
        · exact wp_outB (i2 m σ₁ s₁ T F₁ R₁ q.pos) G₁
      | Or =>
        refine wpAny_bind (ha.c.run F R h fun t σ₁ s₁ R₁ G₁ F₁ q => ?_)
        cases t
        · exact wp_outB (i2 m σ₁ s₁ T F₁ R₁ q.neg) G₁
        · exact wpAny_pure ⟨σ₁, R₁, G₁, q.pos⟩
theorem ok_bool {op : BoolOp} {pos : Pos} {es : List Expr} {es' : List E} {e' : E} (h : All2 (Ok Z A K cx env) es es') (hf : foldB op es' = some e') : Ok Z A K cx env (.BoolOp op es pos) e' :=
  ⟨(okB h hf).1, (okB (pos := pos) h hf).2, rfl, fun _ => rfl, fun _ => rfl⟩
theorem ok_cmp (S : Static Z) {a b : Expr} {a' b' : E} {op : CmpOp} {pos : Pos} (r : Slack A n) (ha : Ok Z A K cx env a a') (hb : Ok Z A K cx env b b') : Ok Z A K cx env (.Compare a [op] [b] pos) (.cmp op a' b') :=
  ⟨fun m σ s Q F R h => wpAny_Compare1 (ha.ok.run F R h fun va σ₁ s₁ R₁ G₁ F₁ q => hb.ok.run F₁ R₁ q fun vb σ₂ s₂ R₂ G₂ F₂ q => op_cmp S R₂ r.r q fun b s₃ R₃ G₃ q => ⟨σ₂, R₃, (G₁.trans G₂).trans G₃, q⟩) (hb.mkd op),
    fun m σ s T F R h => wpAny_isTrue_Compare1 (ha.ok.run F R h fun va σ₁ s₁ R₁ G₁ F₁ q => hb.ok.run F₁ R₁ q fun vb σ₂ s₂ R₂ G₂ F₂ q => op_cmp S R₂ r.r q fun b s₃ R₃ G₃ q => wpAny_truthy_bool ⟨σ₂, R₃, (G₁.trans G₂).trans G₃, q⟩) (hb.mkd op), rfl, fun _ => rfl, fun _ => rfl⟩
theorem ok_chain (S : Static Z) {a b c : Expr} {a' b' c' : E} {op op' : CmpOp} {pos : Pos} (r : Slack A n) (ha : Ok Z A K cx env a a') (hb : Ok Z A K cx env b b') (hc : Ok Z A K cx env c c') :
    Ok Z A K cx env (.Compare a [op, op'] [b, c] pos) (.chain op op' a' b' c') := by
  have hm : markedEach [op, op'] [b, c] (evalEach [b, c] env) = [eval b env, eval c env] := by
    show [eval b env, markedBehindIn op' c (eval c env)] = _
    rw [markedBehindIn_of_false (hc.mkd op')]
  refine ⟨fun m σ s Q F R h => ?_, fun m σ s T F R h => ?_, rfl, fun _ => rfl, fun _ => rfl⟩
  · rw [arm_eval_Compare, hm]
    refine wpAny_bind (ha.ok.run F R h fun va σ₁ s₁ R₁ G₁ F₁ q => ?_)
    show wpAny Z.M A (do let rv ← holding [va] (eval b env); standAt pos; let c' ← holding [va, rv] (compareOp op va rv); release [va, rv] [c']; if ← holding [c', rv] (truthy c') then compareChain pos rv [op'] [eval c env] else pure c') _ _ _
    refine wpAny_bind (wpAny_holding (hb.ok.run F₁ R₁ q fun vb σ₂ s₂ R₂ G₂ F₂ q => wpAny_bind (wpAny_standAt (wpAny_bind (wpAny_holding (op_cmp S R₂ r.r q fun t s₃ R₃ G₃ q => wpAny_bind (wpAny_release (wpAny_bind (wpAny_holding (wpAny_truthy_bool ?_))))))))))
    cases t with
    | true =>
      simp only [if_true]
      show wpAny Z.M A (do let rv ← holding [vb] (eval c env); standAt pos; operate [vb, rv] (compareOp op' vb rv)) _ _ _
      exact wpAny_bind (wpAny_holding (hc.ok.run (F₂.keep G₃) R₃ q.pos fun vc σ₄ s₄ R₄ G₄ F₄ q => wpAny_bind (wpAny_standAt (wpAny_operateT (op_cmp S R₄ r.r q fun b s₅ R₅ G₅ q => ⟨σ₄, R₅, (((G₁.trans G₂).trans G₃).trans G₄).trans G₅, q⟩)))))
    | false =>
      simp only [Bool.false_eq_true, if_false]
      exact wpAny_pure ⟨_, R₃, (G₁.trans G₂).trans G₃, q.neg⟩
  · rw [arm_isTrue_Compare, hm]
    refine wpAny_bind (ha.ok.run F R h fun va σ₁ s₁ R₁ G₁ F₁ q => ?_)
    show wpAny Z.M A (do let rv ← holding [va] (eval b env); standAt pos; let c' ← holding [va, rv] (compareOp op va rv); release [va, rv] [c']; if ← holding [c', rv] (truthy c') then testChain pos rv [op'] [eval c env] else pure false) _ _ _
    refine wpAny_bind (wpAny_holding (hb.ok.run F₁ R₁ q fun vb σ₂ s₂ R₂ G₂ F₂ q => wpAny_bind (wpAny_standAt (wpAny_bind (wpAny_holding (op_cmp S R₂ r.r q fun t s₃ R₃ G₃ q => wpAny_bind (wpAny_release (wpAny_bind (wpAny_holding (wpAny_truthy_bool ?_))))))))))
    cases t with
    | true =>
      simp only [if_true]
      show wpAny Z.M A (do let rv ← holding [vb] (eval c env); standAt pos; let d ← operate [vb, rv] (compareOp op' vb rv); holding [d] (truthy d)) _ _ _
      exact wpAny_bind (wpAny_holding (hc.ok.run (F₂.keep G₃) R₃ q.pos fun vc σ₄ s₄ R₄ G₄ F₄ q => wpAny_bind (wpAny_standAt (wpAny_bind (wpAny_operateT (op_cmp S R₄ r.r q fun b s₅ R₅ G₅ q => wpAny_holding (wpAny_truthy_bool ⟨σ₄, R₅, (((G₁.trans G₂).trans G₃).trans G₄).trans G₅, q⟩)))))))
    | false =>
      simp only [Bool.false_eq_true, if_false]
      exact wpAny_pure ⟨_, R₃, (G₁.trans G₂).trans G₃, q.neg⟩
theorem ok_ite {c a b : Expr} {c' a' b' : E} {pos : Pos} (hc : Ok Z A K cx env c c') (ha : Ok Z A K cx env a a') (hb : Ok Z A K cx env b b') : Ok Z A K cx env (.IfExp c a b pos) (.ite c' a' b') := by
  refine ⟨fun m σ s Q F R h => ?_, okC_no fun _ _ _ h => h, rfl, fun _ => rfl, fun _ => rfl⟩
  rw [arm_eval_IfExp]
  refine wpAny_bind (hc.c.run F R h fun t σ₁ s₁ R₁ G₁ F₁ q => ?_)
  cases t
  · exact wp_out (hb.ok m σ₁ s₁ Q F₁ R₁ q.neg) G₁
  · exact wp_out (ha.ok m σ₁ s₁ Q F₁ R₁ q.pos) G₁
theorem blt_le {a b c : Nat} (h : Nat.blt a b = true) (k : b ≤ c) : a ≤ c := Nat.le_trans (Nat.le_of_lt (Nat.le_of_ble_eq_true h)) k
theorem ok_list {es : List Expr} {es' : List E} {pos : Pos} (hl : Nat.blt es.length 100 = true) (h : All2 (Ok Z A K cx env) es es') : Ok Z A K cx env (.List es pos) (.list es') := by
  refine ⟨fun m σ s Q F R hq => ?_, okC_no fun _ _ _ h => h, rfl, fun _ => rfl, fun _ => rfl⟩
  obtain ⟨h1, h2⟩ := okEs h
  rw [arm_eval_List, backTo_plain h2]
  exact wpAny_bind (wpAny_standAt (wpAny_bind (h1.run F R hq fun vs σ₁ s₁ e R₁ G₁ F₁ q => wp_out (op_list R₁ (by rw [e]; exact blt_le hl (by decide)) q) G₁)))
theorem ok_tup {es : List Expr} {es' : List E} {c : Nat} {pos : Pos} (hl : Nat.blt es.length 100 = true) (h : All2 (Ok Z A K cx env) es es') : Ok Z A K cx env (.Tuple es c pos) (.tup es') := by
  refine ⟨fun m σ s Q F R hq => ?_, okC_no fun _ _ _ h => h, rfl, fun _ => rfl, fun _ => rfl⟩
  obtain ⟨h1, h2⟩ := okEs h
  rw [arm_eval_Tuple, backTo_plain h2]
  exact wpAny_bind (wpAny_standAt (wpAny_bind (h1.run F R hq fun vs σ₁ s₁ e R₁ G₁ F₁ q => wp_out (op_tuple R₁ (by rw [e]; exact blt_le hl (by decide)) q) G₁)))
end
end Mine
end
section
open PySem PySem.W PyProof.Rows PySem.Calls
namespace Mine
-- R18
section
variable {Z : Zt} {cx : Cx} {env : Env} {m : Mp} {σ σ₁ : Sg} {s s₁ s₂ : Shared} {A : Around} {n : Nat} {Q : Po} {K : Kall}
theorem Rel.track {a : Addr} {c : C} {h' : Heap} {tk : Nat} (R : Rel Z σ₁ s₁) (aD : Asd Z σ₁ s₁.heap a) (hs : ∀ b o, b ≠ a → s₁.heap.get? b = some o → h'.get? b = some o)
    (hc : ∃ o, h'.get? a = some o ∧ CO Z c o) (hp : plainC c = true) : Rel Z (up σ₁ a c) { s₁ with heap := h', toks := tk } := by
  obtain ⟨a1, a2, a3⟩ := aD
  have ne : ∀ b cb, σ₁ b = some cb → b ≠ a := fun b cb hb => by rintro rfl; rw [a1] at hb; cases hb
  refine ⟨fun b cb hb => ?_, fun b o e => ?_, fun b cb hb hr => ?_, fun b C d hb => ?_, fun b n es hb e he => ?_, R.gens, R.os⟩
  · by_cases hba : b = a
    · subst hba; rw [up_self] at hb; cases hb; exact hc
    · rw [up_ne hba] at hb
      obtain ⟨o, ho, hco⟩ := R.cell b cb hb
      exact ⟨o, hs b o hba ho, hco⟩
  · exact hs b o (by rintro rfl; rw [a2] at e; cases e) (R.keep b o e)
  · by_cases hba : b = a
    · subst hba; exact a2
    · rw [up_ne hba] at hb; exact R.new b cb hb hr
  · by_cases hba : b = a
    · subst hba; rw [up_self] at hb; cases hb; cases hp
    · rw [up_ne hba] at hb
      obtain ⟨k, fs, h1, h2, h3⟩ := R.wfI b C d hb
      exact ⟨k, fs, h1, by rw [up_ne (ne d _ h2)]; exact h2, h3⟩
  · by_cases hba : b = a
    · subst hba; rw [up_self] at hb; cases hb; cases hp
    · rw [up_ne hba] at hb
      have := R.wfT b n es hb e he
      rw [up_ne (ne _ _ this)]; exact this
theorem Grow.track {a : Addr} {c : C} {h' : Heap} {tk : Nat} (G : Grow σ s σ₁ s₁) (a0 : s.heap.get? a = none) (hs : ∀ b o, b ≠ a → s₁.heap.get? b = some o → h'.get? b = some o) :
    Grow σ s (up σ₁ a c) { s₁ with heap := h', toks := tk } := by
  refine ⟨fun b o hx h0 e => hs b o (by rintro rfl; rw [a0] at e; cases e) (G.keep b o hx h0 e), fun b h0 h1 => ?_⟩
  by_cases hba : b = a
  · subst hba; exact a0
  · rw [up_ne hba] at h1; exact G.fresh b h0 h1
theorem under_make {c : Addr} {vals : List Value} (sl : Slack A n) : Room (A.under (.builtin "type.__call__" ⟨.ref c :: vals, []⟩)) n := by
  have w : (Code.builtin "type.__call__" ⟨.ref c :: vals, []⟩).weight = 1 := by
    unfold Code.weight
    have h1 : (Code.builtin "type.__call__" ⟨.ref c :: vals, []⟩).frames = 0 := by kernel_rfl
    have h2 : (Code.builtin "type.__call__" ⟨.ref c :: vals, []⟩).isCreation = true := rfl
    have h3 : (Code.builtin "type.__call__" ⟨.ref c :: vals, []⟩).isGuard = false := by kernel_rfl
    have h4 : (Code.builtin "type.__call__" ⟨.ref c :: vals, []⟩).isCaller = false := by unfold Code.isCaller; split <;> simp_all
    rw [h1, h2, h3, h4]; rfl
  have u : (Code.builtin "type.__call__" ⟨.ref c :: vals, []⟩).cUnits = 1 := by kernel_rfl
  obtain ⟨r, d, uu⟩ := sl
  refine ⟨r.h, ?_, ?_⟩
  · show A.depth + _ + _ + 4 ≤ 900
    rw [w]; lia
  · show A.units + _ + _ + 100 ≤ 9000
    rw [u]; lia
theorem op_make (S : Static Z) (hK : KOk Z n K) {c : Addr} {cl : Cls} {vals : List Value} (R : Rel Z σ s) (sl : Slack A n) (hc : pg.cls.lookup c = some cl) (h : ClsK K c cl.init Q (vals.map er) σ) : wpAny Z.M A (PySem.call (.ref c) vals) (Out Z σ s Q) NE s := by
  have k := S.cl c cl hc
  obtain ⟨hh, g, dr, t, os⟩ := s
  have hn1 : hh.get? hh.objs.size = none := new_addr _
  obtain ⟨d0, R1, G1⟩ := R.add (a := hh.objs.size) (c := .ns (hh.objs.size + 1) []) (h' := hh.push emptyDict) (tk := t) (fun b o e => Heap.get?_push_of_some _ e) hn1
    ⟨emptyDict, Heap.get?_push_size _ rfl, #[].toList, 0, rfl, rfl, fun _ h => (nomatch h)⟩ (fun _ _ e => by cases e) (fun _ _ e => by cases e)
  have sz : (hh.push emptyDict).objs.size = hh.objs.size + 1 := Heap.size_push ..
  have hn2 : (hh.push emptyDict).get? (hh.objs.size + 1) = none := by rw [← sz]; exact new_addr _
  obtain ⟨x0, R2, G2⟩ := R1.add (a := hh.objs.size + 1) (c := .inst c hh.objs.size) (h' := (hh.push emptyDict).push (instObj c hh.objs.size)) (tk := t) (fun b o e => Heap.get?_push_of_some _ e) hn2
    ⟨instObj c hh.objs.size, by rw [← sz]; exact Heap.get?_push_size _ rfl, rfl⟩ (fun C d e => by cases e; exact ⟨cl, [], hc, up_self _ _ _, fun _ h => (nomatch h)⟩) (fun _ _ e => by cases e)
  have xd : hh.objs.size + 1 ≠ hh.objs.size := Nat.succ_ne_self _
  rw [up_ne xd] at x0
  refine wpAny_call (make_core (makes_of (R.X S) k.makes) (looks_findIn (R.X S) k.init) (fun self => bind_fn (R.X S) self k.initF) (.inl rfl) ?_)
  have q := hK (A.under (.builtin "type.__call__" ⟨.ref c :: vals, []⟩)) _ _ _ cl.init (.ref (hh.objs.size + 1) :: vals) R2 (under_make sl) (h.1 _ _ x0 d0 xd)
  refine codeAny_mono q.2 fun r s' z => ?_
  rcases r with e | (v | _ | _ | _) <;> first | exact z | exact z.elim | skip
  obtain ⟨σ', R', G', e, q⟩ := z
  exact ⟨er_none e, σ', R', (G1.trans G2).trans G', q⟩
theorem arm_call {x : Str} {px : Pos} {args : List Expr} {pos : Pos} : eval (.Call (.Name x px) args [] pos) env = (do callWith pos (← eval (.Name x px) env) [] (backTo pos (starEach args env)) (backToKw pos (keywordEach [] env))) := rfl
theorem noKw {pos : Pos} : backToKw pos (keywordEach [] env) = [] := rfl
theorem ok_callG (S : Static Z) {x : Str} {px pos : Pos} {e' : E} {args : List Expr} {as : List E} {fv : V} {C : Po → Lo} (hg : cx.gl x = some fv) (ha : All2 (Ok Z A K cx env) args as) (hE : ∀ m Q σ, awpE K e' m Q σ → awpEs K as m (C Q) σ) (hC : ∀ m T σ, awpC K e' m T σ → awpE K e' m (tQ T) σ)
    (hop : ∀ {Q σ s v vals}, er v = fv → Rel Z σ s → C Q (vals.map er) σ → Callee Z v s.heap ∧ wpAny Z.M A (PySem.call v vals) (Out Z σ s Q) NE s) : Ok Z A K cx env (.Call (.Name x px) args [] pos) e' := by
  obtain ⟨h1, h2⟩ := okEs ha
  have e : OkE Z A cx env (awpE K e') (eval (.Call (.Name x px) args [] pos) env) := fun m σ s Q F R h => by
    rw [arm_call, noKw, backTo_plain h2]
    exact wpAny_bind ((ok_glob (pos := px) (A := A) (K := K) (env := env) S hg).ok.run F R (Q := fun v σ' => v = fv ∧ awpEs K as m (C Q) σ') ⟨rfl, hE m Q σ h⟩ fun vf σ₁ s₁ R₁ G₁ F₁ ⟨e, q⟩ => callWith_any (h1.run F₁ R₁ q fun vs σ₂ s₂ _ R₂ G₂ F₂ q => let ⟨c1, c2⟩ := hop e R₂ q; ⟨c1, wp_out c2 (G₁.trans G₂)⟩))
  exact ⟨e, okC_of e rfl hC, rfl, fun _ => rfl, fun _ => rfl⟩
section
variable {x : Str} {px pos : Pos} {args : List Expr} {as : List E} {a : Addr} {nm : String}
theorem op_ref (S : Static Z) (hK : KOk Z n K) (sl : Slack A n) {vals : List Value} (R : Rel Z σ s) (h : K a (vals.map er) σ Q) : Callee Z (.ref a) s.heap ∧ wpAny Z.M A (PySem.call (.ref a) vals) (Out Z σ s Q) NE s :=
  have ⟨h1, h2⟩ := hK A σ s Q a vals R sl.r h
  ⟨.inr (.inr ⟨R.X S, h1⟩), wpAny_call h2⟩
theorem ok_fcall (S : Static Z) (hK : KOk Z n K) (sl : Slack A n) (hg : cx.gl x = some (.ref a)) (ha : All2 (Ok Z A K cx env) args as) : Ok Z A K cx env (.Call (.Name x px) args [] pos) (.fcall a as) :=
  ok_callG (C := kFn K a) S hg ha (fun _ _ _ h => h) (fun _ _ _ h => h) fun e R h => er_ref e ▸ op_ref S hK sl R h
theorem ok_ccall (S : Static Z) (hK : KOk Z n K) (sl : Slack A n) {cl : Cls} (hc : pg.cls.lookup a = some cl) (hg : cx.gl x = some (.ref a)) (ha : All2 (Ok Z A K cx env) args as) : Ok Z A K cx env (.Call (.Name x px) args [] pos) (.ccall a cl.init as) :=
  ok_callG (C := ClsK K a cl.init) S hg ha (fun _ _ _ h => h) (fun _ _ _ h => h.elim) fun e R h => er_ref e ▸ ⟨.inr (.inr ⟨R.X S, (S.cl a cl hc).keep⟩), op_make S hK R sl hc h⟩
theorem ok_tcall (S : Static Z) (sl : Slack A n) (hg : cx.gl x = some (.type nm)) (ha : All2 (Ok Z A K cx env) args as) : Ok Z A K cx env (.Call (.Name x px) args [] pos) (.tcall nm as) :=
  ok_callG (C := TyK nm) S hg ha (fun _ _ _ h => h) (fun _ _ _ h => h.elim) fun e R h => er_type e ▸ ⟨.inr (.inl ⟨_, rfl⟩), op_ty S R sl.r h⟩
theorem ok_bcall (S : Static Z) (sl : Slack A n) (hg : cx.gl x = some (.builtin nm)) (ha : All2 (Ok Z A K cx env) args as) : Ok Z A K cx env (.Call (.Name x px) args [] pos) (.bcall nm as) :=
  ok_callG (C := BiK nm) S hg ha (fun _ _ _ h => h) (fun _ _ _ h => h) fun e R h => er_builtin e ▸ ⟨.inl ⟨_, rfl⟩, op_bi S R sl.r h⟩
theorem ok_vcall (S : Static Z) (hK : KOk Z n K) (sl : Slack A n) {i : Nat} (hl : cx.loc x = some i) (ha : All2 (Ok Z A K cx env) args as) : Ok Z A K cx env (.Call (.Name x px) args [] pos) (.vcall (.loc i) as) := by
  obtain ⟨h1, h2⟩ := okEs ha
  have e : OkE Z A cx env (awpE K (.vcall (.loc i) as)) (eval (.Call (.Name x px) args [] pos) env) := fun m σ s Q F R h => by
    rw [arm_call, noKw, backTo_plain h2]
    refine wpAny_bind ((ok_loc (pos := px) (A := A) (K := K) (env := env) hl).ok.run F R h fun vf σ₁ s₁ R₁ G₁ F₁ q => callWith_any (h1.run F₁ R₁ q fun vs σ₂ s₂ _ R₂ G₂ F₂ q => ?_))
    cases q with
    | mk e hn q =>
      have ⟨c1, c2⟩ := op_ref S hK sl R₂ q
      exact er_ref e ▸ ⟨c1, wp_out c2 (G₁.trans G₂)⟩
  exact ⟨e, okC_of e rfl fun _ _ _ h => h, rfl, fun _ => rfl, fun _ => rfl⟩
theorem mpos {o : Expr} {apos pos : Pos} (h : (apos.endLine == pos.line) = true) : methodCallPos true o env apos pos = pure pos := by
  unfold methodCallPos
  rw [h]; rfl
theorem ok_meth (S : Static Z) (hK : KOk Z n K) (sl : Slack A n) {o : Expr} {o' : E} {nms : Str} {apos : Pos} (hb : noCall0 o = true) (hl : Nat.blt args.length 20 = true) (hp : (apos.endLine == pos.line) = true) (ht : okS nms = some nm) (ho : Ok Z A K cx env o o') (ha : All2 (Ok Z A K cx env) args as) :
    Ok Z A K cx env (.Call (.Attribute o nms apos) args [] pos) (.meth o' nm as) := by
  rw [okS_of ht]
  obtain ⟨h1, h2⟩ := okEs ha
  have e : OkE Z A cx env (awpE K (.meth o' nm as)) (eval (.Call (.Attribute o (Str.ofString nm) apos) args [] pos) env) := fun m σ s Q F R h => by
    rw [arm_eval_Call, base_plain hb, noKw, backTo_plain h2]
    refine wpAny_bind (ho.ok.run F R h fun vo σ₁ s₁ R₁ G₁ F₁ q => wpAny_bind (wpAny_standAt ?_))
    unfold methodCall
    have few : methodCallForm (args.length + ([] : List Keyword).length) (plainEs args env) [] = true := by
      unfold methodCallForm
      have : (plainEs args env).all (fun x => !x.1) = true := by
        unfold plainEs; rw [List.all_map]; simp
      rw [this]
      have := Nat.le_of_ble_eq_true hl
      simp; lia
    rw [few]
    simp only [calleeOf, if_true]
    cases q with
    | inst e hx hk q =>
      have := er_ref e; subst this
      refine wpAny_bind (wpAny_holding (op_recvI S R₁ hx hk ?_))
      rw [mpos hp]
      refine wpAny_bind (wpAny_pure (callWith_any (h1.run F₁ R₁ q fun vs σ₂ s₂ _ R₂ G₂ F₂ q => ?_)))
      have ⟨c1, c2⟩ := op_ref (vals := .ref _ :: vs) S hK sl R₂ q
      exact ⟨c1, wp_out c2 (G₁.trans G₂)⟩
    | bi e hx hk q =>
      have := er_ref e; subst this
      refine wpAny_bind (wpAny_holding (op_recvB R₁ hx hk ?_))
      rw [mpos hp]
      exact wpAny_bind (wpAny_pure (callWith_any (h1.run F₁ R₁ q fun vs σ₂ s₂ _ R₂ G₂ F₂ q => ⟨.inl ⟨_, rfl⟩, wp_out (op_bm S R₂ sl.r q) (G₁.trans G₂)⟩)))
  exact ⟨e, okC_of e rfl fun _ _ _ h => h, rfl, fun _ => rfl, fun _ => rfl⟩
end
end
end Mine
end
section
open PySem PySem.W PyProof.Rows PySem.Calls
namespace Mine
-- R19
section
variable {Z : Zt} {cx : Cx} {env : Env} {m : Mp} {σ σ₁ σ₂ : Sg} {s s₁ s₂ : Shared} {A : Around} {n : Nat} {Q : Po} {K : Kall} {sc : Scope}
noncomputable def kvPairs (env : Env) (pos : Pos) : List (Option Expr) → List Expr → List (Sem Value × Sem Value)
  | some k :: ks, v :: vs => (eval k env, do let x ← eval v env; standAt pos; pure x) :: kvPairs env pos ks vs
  | _, _ => []
theorem lit_of {e : Expr} {v : V} (h : litE e = some v) : ∃ c k p, e = .Constant c k p ∧ litV c = some v := by
  cases e <;> first | cases h | exact ⟨_, _, _, rfl, h⟩
theorem lit_run {e : Expr} {v : V} (h : litE e = some v) (R : Rel Z σ s) (F : FrR Z cx env m σ s.heap) {P : Value → Shared → Prop} (k : ∀ x s', Rel Z σ s' → Grow σ s σ s' → FrR Z cx env m σ s'.heap → er x = v → P x s') : wpAny Z.M A (eval e env) P NE s := by
  obtain ⟨c, l, p, rfl, hc⟩ := lit_of h
  exact (ok_const (Z := Z) (A := A) (K := fun _ _ _ _ => False) (cx := cx) (env := env) (k := l) (pos := p) hc).ok.run F R (Q := fun x σ' => x = v ∧ σ' = σ) ⟨rfl, rfl⟩ fun x σ₁ s₁ R₁ G₁ F₁ q => by
    obtain ⟨e, rfl⟩ := q
    exact k x s₁ R₁ G₁ F₁ e
theorem litG_of {e : Expr} {v : V} (h : litG cx e = some v) : litE e = some v ∨ ∃ x p, e = .Name x p ∧ cx.gl x = some v := by
  cases e <;> first | exact .inr ⟨_, _, rfl, h⟩ | exact .inl h
theorem litG_run (S : Static Z) {e : Expr} {v : V} (h : litG cx e = some v) (R : Rel Z σ s) (F : FrR Z cx env m σ s.heap) {P : Value → Shared → Prop} (k : ∀ x s', Rel Z σ s' → Grow σ s σ s' → FrR Z cx env m σ s'.heap → er x = v → P x s') : wpAny Z.M A (eval e env) P NE s := by
  rcases litG_of h with h | ⟨x, p, rfl, h⟩
  · exact lit_run h R F k
  · exact (ok_glob (A := A) (K := fun _ _ _ _ => False) (env := env) (pos := p) S h).ok.run F R (Q := fun x σ' => x = v ∧ σ' = σ) ⟨rfl, rfl⟩ fun x σ₁ s₁ R₁ G₁ F₁ ⟨e, q⟩ => k x s₁ (q ▸ R₁) (q ▸ G₁) (q ▸ F₁) e
theorem kv_run (S : Static Z) {pos : Pos} : ∀ {ks : List (Option Expr)} {vs : List Expr} {r : List (Int × V)}, dictL cx ks vs = some r →
    ((evalEachOpt ks env).zip ((evalEach vs env).map fun v => do let x ← v; standAt pos; pure x) = (kvPairs env pos ks vs).map fun p => (some p.1, p.2)) ∧ (kvPairs env pos ks vs).length = r.length ∧
    ∀ {s}, Rel Z σ s → FrR Z cx env m σ s.heap → wpAny Z.M A (evalPairs (kvPairs env pos ks vs)) (fun xs s' => ∃ kvs : List (Int × Value), Carries Z.ik xs kvs ∧ kvs.map (fun p => (p.1, er p.2)) = r ∧ Rel Z σ s' ∧ Grow σ s σ s') NE s
  | [], [], _, h => by cases h; exact ⟨rfl, rfl, fun R F => evalPairs_nil ⟨[], trivial, rfl, R, .refl⟩⟩
  | some k :: ks, v :: vs, _, h => by
    have h' : (litI k).bind _ = some _ := h
    obtain ⟨i, hi, h'⟩ := Option.bind_eq_some_iff.mp h'
    obtain ⟨w, hw, h'⟩ := Option.bind_eq_some_iff.mp h'
    obtain ⟨r', hr, rfl⟩ := Option.map_eq_some_iff.mp h'
    obtain ⟨t1, t2, t3⟩ := kv_run S (pos := pos) hr
    have hk : litE k = some (.int i) := by
      unfold litI at hi
      obtain ⟨x, hx, hi⟩ := Option.bind_eq_some_iff.mp hi
      cases x <;> cases hi
      exact hx
    refine ⟨congrArg (List.cons (some (eval k env), _)) t1, congrArg (· + 1) t2, fun R F => evalPairs_cons (lit_run hk R F fun x s₁ R₁ G₁ F₁ ex => ?_)⟩
    obtain ⟨t, rfl⟩ := er_int ex
    refine wpAny_bind (litG_run S hw R₁ F₁ fun y s₂ R₂ G₂ F₂ ey => wpAny_bind (wpAny_standAt (wpAny_pure (wpAny_mono (t3 R₂ F₂) (fun xs s₃ h₃ => ?_) fun _ _ e => e))))
    obtain ⟨kvs, hc, e, R₃, G₃⟩ := h₃
    exact ⟨(i, y) :: kvs, ⟨intKind_is _ _ i t, rfl, hc⟩, by rw [List.map_cons, e, ey], R₃, (G₁.trans G₂).trans G₃⟩
  | none :: _, _ :: _, _, h => nomatch h
  | none :: _, [], _, h => nomatch h
  | some _ :: _, [], _, h => nomatch h
  | [], _ :: _, _, h => nomatch h
theorem dput_fold {kvs : List (Int × V)} : ∀ {es : List (Int × V)}, ((es ++ kvs).map (·.1)).Nodup → kvs.foldl (fun es kv => dput es kv.1 kv.2) es = es ++ kvs := by
  induction kvs with
  | nil => exact fun _ => (List.append_nil _).symm
  | cons a r ih =>
    intro es h
    have hno : es.lookup a.1 = none := by
      cases e : es.lookup a.1 with
      | none => rfl
      | some w =>
        rw [List.map_append, List.nodup_append] at h
        exact absurd rfl (h.2.2 _ (List.mem_map.mpr ⟨_, lookup_memR e, rfl⟩) _ (.head _))
    rw [List.foldl_cons, dput_none hno]
    rw [show es ++ a :: r = (es ++ [a]) ++ r by rw [List.append_assoc]; rfl] at h ⊢
    exact ih h
theorem ok_dict (S : Static Z) {ks : List (Option Expr)} {vs : List Expr} {r : List (Int × V)} {pos : Pos} (h : dictL cx ks vs = some r) (hl : Nat.blt ks.length 15 = true) (hd : decide ((r.map (·.1)).Nodup) = true) : Ok Z A K cx env (.Dict ks vs pos) (.dict r) := by
  refine ⟨fun m σ s Q F R hq => ?_, okC_no fun _ _ _ h => h, rfl, fun op => by cases op <;> rfl, fun _ => rfl⟩
  obtain ⟨k1, k2, k3⟩ := kv_run (Z := Z) S (A := A) (cx := cx) (m := m) (σ := σ) (env := env) (pos := pos) h
  have len : ∀ {ks vs r}, dictL cx ks vs = some r → ks.length = r.length := fun {ks} => by
    induction ks with
    | nil => intro vs r h; cases vs <;> cases h; rfl
    | cons k ks ih =>
      intro vs r h
      cases k with
      | none => cases vs <;> cases h
      | some k =>
        cases vs with
        | nil => cases h
        | cons v vs =>
          have h' : (litI k).bind _ = some _ := h
          obtain ⟨i, hi, h'⟩ := Option.bind_eq_some_iff.mp h'
          obtain ⟨w, hw, h'⟩ := Option.bind_eq_some_iff.mp h'
          obtain ⟨r', hr, rfl⟩ := Option.map_eq_some_iff.mp h'
          exact congrArg (· + 1) (ih hr)
  have len := len h
  have l15 := Nat.le_of_ble_eq_true hl
  cases ks with
  | nil =>
    cases vs with
    | cons v vs => exact nomatch h
    | nil =>
    cases h
    rw [eval_Dict_empty]
    refine wpAny_bind (wpAny_standAt ?_)
    exact wpAny_newObj_type (out_push (c := .dict 0 []) R rfl ⟨⟨rfl, rfl, rfl⟩, #[], rfl, [], (by intro e he; simp at he), .nil, List.nodup_nil, rfl⟩ rfl (hq.1 0))
  | cons k ks =>
    cases vs with
    | nil => cases k <;> cases h
    | cons v vs =>
    cases k with
    | none => exact nomatch h
    | some k =>
    obtain ⟨R0, G0⟩ := R.more (h' := s.heap.push { cls := .type "dict", data := .dict #[] }) (tk := s.toks) fun b o e => Heap.get?_push_of_some _ e
    have nD : s.heap.get? s.heap.objs.size = none := new_addr _
    refine wpAny_Dict_pairs (knd := Z.ik) k1 (by simp [kvPairs]) (by rw [k2, ← len]; simp only [List.length_cons] at l15 ⊢; lia) (wpAny_mono (k3 R0 (F.keep G0)) (fun xs s₁ h₁ => ?_) fun _ _ e => e)
    obtain ⟨kvs, hc, hkv, R₁, G₁⟩ := h₁
    have d0 := Asd.of R nD
    have hD : s₁.heap.get? s.heap.objs.size = some { cls := .type "dict", data := .dict #[] } := G₁.keep _ _ id d0.1 (Heap.get?_push_size _ rfl)
    refine ⟨kvs, hc, ⟨_, #[], 0, hD, ⟨rfl, rfl, rfl⟩, rfl, (by intro e he; simp at he), .nil, List.nodup_nil⟩, fun h' hm hs => ?_⟩
    obtain ⟨n', hco⟩ := co_dict (Z := Z) hm
    have hmg : (merged [] kvs).map (fun p => (p.1, er p.2)) = r := by
      have := stored_fold kvs [] List.nodup_nil
      rw [hkv, List.map_nil, dput_fold (by rw [List.nil_append]; exact of_decide_eq_true hd)] at this
      exact this
    rw [hmg] at hco
    have keep : ∀ b o, b ≠ s.heap.objs.size → s₁.heap.get? b = some o → h'.get? b = some o := fun b o hb e => (hs.2 b hb).trans e
    exact ⟨_, R₁.track ⟨d0.1, d0.2, by rw [hD]; rfl⟩ keep hco rfl, (G0.trans G₁).track nD keep, (hq.1 n').1 _ d0.1⟩
theorem okIfs : ∀ {cs : List Expr} {cs' : List E}, All2 (Ok Z A K cx env) cs cs' → OkC Z A cx env (awpIfs K cs') (testsT cs env)
  | [], [], .nil => fun m σ s Q F R h => by
    exact wpAny_pure ⟨σ, R, .refl, h⟩
  | c :: r, c' :: r', .cons hc ht => fun m σ s Q F R h => by
    have ih := okIfs ht
    unfold testsT
    rw [List.forIn_cons, if_pos rfl]
    refine wpAny_bind (wpAny_bind (hc.c.run F R h fun b σ₁ s₁ R₁ G₁ F₁ q => wpAny_pure ?_))
    cases b with
    | true => exact wp_outB (ih m σ₁ s₁ Q F₁ R₁ q.pos) G₁
    | false =>
      have go : ∀ l : List Expr, (forIn l false fun c r => if r = true then (do let ok ← PySem.isTrue c env (eval c env); pure (ForInStep.yield ok)) else pure (ForInStep.yield r) : Sem Bool) = pure false := fun l => by
        induction l with
        | nil => rfl
        | cons c l ih => rw [List.forIn_cons, if_neg (by simp), pure_bind]; exact ih
      show wpAny Z.M A (forIn r false _) _ _ _
      rw [go]
      exact wpAny_pure ⟨σ₁, R₁, G₁, q.neg⟩
structure CEnd (Z : Zt) (σ₁ : Sg) (s₁ : Shared) (D L : Addr) (acc : List V) (σ₂ : Sg) (s₂ : Shared) : Prop where
  R : Rel Z σ₂ s₂
  G : Grow σ₁ s₁ σ₂ s₂
  aD : Asd Z σ₂ s₂.heap D
  aL : Asd Z σ₂ s₂.heap L
  ns : ∃ lm, s₂.heap.Ns L lm
  acc : ∃ items, s₂.heap.PlainList D items ∧ erL items = acc
  hD : s₁.heap.get? D = none
  hL : s₁.heap.get? L = none
  DL : L ≠ D
theorem CEnd.track {D L : Addr} {acc : List V} (e : CEnd Z σ₁ s₁ D L acc σ₂ s₂) : Rel Z (up σ₂ D (.list acc)) s₂ ∧ Grow σ₁ s₁ (up σ₂ D (.list acc)) s₂ ∧ Asd Z (up σ₂ D (.list acc)) s₂.heap L := by
  obtain ⟨items, ⟨k, hp⟩, ha⟩ := e.acc
  have R' := e.R.track (h' := s₂.heap) (tk := s₂.toks) (c := .list acc) e.aD (fun _ _ _ e => e) ⟨_, hp, items, k, rfl, ha⟩ rfl
  have G' := e.G.track (h' := s₂.heap) (tk := s₂.toks) (c := .list acc) e.hD (fun _ _ _ e => e)
  exact ⟨R', G', by rw [up_ne e.DL]; exact e.aL.1, e.aL.2⟩
theorem letGo {L : Addr} {h' : Heap} (R : Rel Z σ s) (aL : Asd Z σ s.heap L) (hs : Heap.SameBut L s.heap h') : Rel Z σ { s with heap := h' } ∧ GrowX (fun b => b = L) σ s σ { s with heap := h' } :=
  ⟨R.aside (tk := s.toks) fun b o e hor => (hs.2 b (by
    rintro rfl
    rcases hor with ⟨c, hc⟩ | ⟨o, ho⟩
    · rw [aL.1] at hc; cases hc
    · rw [aL.2.1] at ho; cases ho)).trans e, ⟨fun b o hX _ e => (hs.2 b hX).trans e, fun _ h k => absurd h k⟩⟩
theorem comp_closure (F : FrR Z cx env m σ s.heap) (hok : innerOk cx sc = true) : closureFor sc env = pure (clOf sc.names env.cells) := closure_pure fun x hx hk => by
  obtain ⟨_, _, h3⟩ := innerOk_of hok
  rcases h3 _ hx with h | ⟨_, h4, h5⟩ | h
  · rw [hk] at h; cases h
  · obtain ⟨i, hi⟩ := Option.isSome_iff_exists.mp h5
    obtain ⟨c, w, hc, _⟩ := F.cell _ i h4 hi
    rw [hc]; rfl
  · rw [hk] at h; cases h
theorem inner_free (F : FrR Z cx env m σ s.heap) (hok : innerOk cx sc = true) {x : Str} {ix : Nat} (hx : (innerNames cx sc).lookup x = some .local) (hs : (innerCx cx sc).slots.lookup x = some ix) : sl m ix = none := by
  obtain ⟨k', hk', hkk⟩ := inner_lookup hok hx
  have hkl : k' = .local := by rcases hkk with h | h | h <;> simp_all
  subst hkl
  have h2 := (innerOk_of hok).2.1
  rcases inner_slots h2 hs with ⟨_, g1, _, _⟩ | ⟨g1, _⟩
  · exact F.fresh ix g1
  · have := kind_uniq h2 hk' g1; cases this
theorem cend_of {v : Value} {xs : List V} {D I L : Addr} {s₄ : Shared} (st : CStart Z cx env sc m σ₁ s₁ (er v) xs D I L s₄) {acc : List V} (R : Rel Z σ₂ s₂) (G : Grow σ₁ s₁ σ₂ s₂) (F : FrR Z (innerCx cx sc) (compEnvC sc (clOf sc.names env.cells) L env) m σ₂ s₂.heap) (aD : Asd Z σ₂ s₂.heap D)
    (ha : ∃ items, s₂.heap.PlainList D items ∧ erL items = acc) : CEnd Z σ₁ s₁ D L acc σ₂ s₂ := by
  have fL : frA (compEnvC sc (clOf sc.names env.cells) L env) L := .inl rfl
  obtain ⟨lm, hn, _⟩ := F.loc
  exact ⟨R, G, aD, F.own L fL, ⟨lm, hn⟩, ha, st.hD, st.hL, fun e => st.hDL (e ▸ fL)⟩
theorem comp1_run (S : Static Z) (hh : A.handled = none) (F : FrR Z cx env m σ s.heap) (R : Rel Z σ s) (hok : innerOk cx sc = true) {elt iter : Expr} {ifs : List Expr} {elt' iter' : E} {ifs' : List E} {x : Str} {ix : Nat} {px pos ip : Pos} {use : Option (Value → Sem Unit)}
    {P : Value → Shared → Prop} (hx : (innerNames cx sc).lookup x = some .local) (hs : (innerCx cx sc).slots.lookup x = some ix)
    (okI : Ok Z A K cx env iter iter') (okT : ∀ e2, All2 (Ok Z A K (innerCx cx sc) e2) ifs ifs') (okE : ∀ e2, Ok Z A K (innerCx cx sc) e2 elt elt') {Qe : List V → Sg → Prop}
    (h : awpE K iter' m (CompK (stepC (awpIfs K ifs') (awpE K elt') m ix) Qe []) σ)
    (fin : ∀ σ₁ s₁ D L acc σ₂ s₂, Grow σ s σ₁ s₁ → FrR Z cx env m σ₁ s₁.heap → CEnd Z σ₁ s₁ D L acc σ₂ s₂ → Qe acc σ₂ → compPost Z.M A NE use P (.ref D) L (.ok .next) s₂) :
    wpAny Z.M A (comprehension (.ListComp elt [⟨.Name x px, iter, ifs, 0⟩] sc pos) sc env ip (newList []) false (eval iter env) use) P NE s := by
  obtain ⟨h1, h2, h3⟩ := innerOk_of hok
  refine wpAny_comprehension_free (g := ⟨.Name x px, iter, ifs, 0⟩) (gs := []) rfl okI.fold (comp_closure F hok) h1 (fun y hy hl => lookup_nd h2 (by rw [← hl]; exact hy)) ?_
  refine okI.ok.run F R h fun v σ₁ s₁ R₁ G₁ F₁ q => ?_
  · obtain @⟨xs, hxs, hlen, q⟩ := q
    refine comp_block S F₁ R₁ hok hxs (gens := [⟨.Name x px, iter, ifs, 0⟩]) rfl rfl (RR := fun acc L => compPost Z.M A NE use P acc L) fun D I L s₄ st => ?_
    have fL : frA (compEnvC sc (clOf sc.names env.cells) L env) L := .inl rfl
    refine comp_loop (X₀ := fun _ => False) (σ₀ := σ₁) (s₀ := s₁) (src := er v) (xs := xs) (σ₁ := σ₁) (Qe := Qe) hh (B := 1000) (by lia) (fun it acc => compTurn_one ..) hx hs (inner_free F₁ hok hx hs) (okIfs (okT _)) (okE _).ok (.inr st.hD) (.inr st.hI) (.inr st.hL) st.hDI st.hDL st.hIL
      (fun b x => x.elim) (fun acc σ₂ s₂ R₂ G₂ F₂ D₂ pl₂ hl₂ q₂ => fin σ₁ s₁ D L acc σ₂ s₂ G₁ F₁ (cend_of st R₂ G₂ F₂ D₂ pl₂) q₂) (i := 0) (acc := []) (by simpa using hlen) (Nat.zero_le _) st.inv (Same.refl _ _) ?_
    rw [List.drop_zero]; exact q
theorem comp2_run (S : Static Z) (hh : A.handled = none) (F : FrR Z cx env m σ s.heap) (R : Rel Z σ s) (hok : innerOk cx sc = true) {elt iter iter₂ : Expr} {ifs : List Expr} {elt' iter' iter₂' : E} {ifs' : List E} {x x' : Str} {ix ix' : Nat} {px px' pos ip : Pos} {use : Option (Value → Sem Unit)}
    {P : Value → Shared → Prop} (hx : (innerNames cx sc).lookup x = some .local) (hs : (innerCx cx sc).slots.lookup x = some ix) (hx' : (innerNames cx sc).lookup x' = some .local) (hs' : (innerCx cx sc).slots.lookup x' = some ix') (hne : x ≠ x')
    (okI : Ok Z A K cx env iter iter') (okI₂ : ∀ e2, Ok Z A K (innerCx cx sc) e2 iter₂ iter₂') (okT : ∀ e2, All2 (Ok Z A K (innerCx cx sc) e2) ifs ifs') (okE : ∀ e2, Ok Z A K (innerCx cx sc) e2 elt elt') {Qe : List V → Sg → Prop}
    (h : awpE K iter' m (CompK (stepO (awpE K iter₂') (awpIfs K ifs') (awpE K elt') m ix ix') Qe []) σ)
    (fin : ∀ σ₁ s₁ D L acc σ₂ s₂, Grow σ s σ₁ s₁ → FrR Z cx env m σ₁ s₁.heap → CEnd Z σ₁ s₁ D L acc σ₂ s₂ → Qe acc σ₂ → compPost Z.M A NE use P (.ref D) L (.ok .next) s₂) :
    wpAny Z.M A (comprehension (.ListComp elt [⟨.Name x px, iter, [], 0⟩, ⟨.Name x' px', iter₂, ifs, 0⟩] sc pos) sc env ip (newList []) false (eval iter env) use) P NE s := by
  obtain ⟨h1, h2, h3⟩ := innerOk_of hok
  refine wpAny_comprehension_free (g := ⟨.Name x px, iter, [], 0⟩) (gs := [⟨.Name x' px', iter₂, ifs, 0⟩]) rfl okI.fold (comp_closure F hok) h1 (fun y hy hl => lookup_nd h2 (by rw [← hl]; exact hy)) ?_
  refine okI.ok.run F R h fun v σ₁ s₁ R₁ G₁ F₁ q => ?_
  · obtain @⟨xs, hxs, hlen, q⟩ := q
    refine comp_block S F₁ R₁ hok hxs (gens := [⟨.Name x px, iter, [], 0⟩, ⟨.Name x' px', iter₂, ifs, 0⟩]) rfl rfl (RR := fun acc L => compPost Z.M A NE use P acc L) fun D I L s₄ st => ?_
    have ixx : ix' ≠ ix := by
      rintro rfl
      have FI := st.inv.F
      exact hne (FI.inj x x' _ hs hs')
    exact comp_loop2 S hh (src := er v) (xs := xs) (σ₁ := σ₁) (Qe := Qe) (fun y => (okI₂ _).fold y) hx hs (inner_free F₁ hok hx hs) hx' hs' (inner_free F₁ hok hx' hs') ixx (okI₂ _).ok (okIfs (okT _)) (okE _).ok st.hD st.hI st.hL st.hDI st.hDL st.hIL hlen
      (fun acc σ₂ s₂ R₂ G₂ F₂ D₂ pl₂ q₂ => fin σ₁ s₁ D L acc σ₂ s₂ G₁ F₁ (cend_of st R₂ G₂ F₂ D₂ pl₂) q₂) st.inv (Same.refl _ _) q
theorem comp_none {D L : Addr} {acc : List V} (G₁ : Grow σ s σ₁ s₁) (ce : CEnd Z σ₁ s₁ D L acc σ₂ s₂) (q : New σ₂ (.list acc) Q) : compPost Z.M A NE none (Out Z σ s Q) (.ref D) L (.ok .next) s₂ := by
  obtain ⟨lm, hn⟩ := ce.ns
  obtain ⟨R', G', aL⟩ := ce.track
  refine ⟨lm, hn, fun h' hs => ?_⟩
  obtain ⟨R'', G''⟩ := letGo R' aL hs
  exact ⟨_, R'', G₁.trans (G'.after G'' fun b e => e ▸ ce.hL), q.1 _ ce.aD.1⟩
theorem ok_comp1 (S : Static Z) (hh : A.handled = none) (hok : innerOk cx sc = true) {elt iter : Expr} {ifs : List Expr} {elt' iter' : E} {ifs' : List E} {x : Str} {ix : Nat} {px pos : Pos} (hx : (innerNames cx sc).lookup x = some .local) (hs : (innerCx cx sc).slots.lookup x = some ix)
    (okI : Ok Z A K cx env iter iter') (okT : ∀ e2, All2 (Ok Z A K (innerCx cx sc) e2) ifs ifs') (okE : ∀ e2, Ok Z A K (innerCx cx sc) e2 elt elt') :
    Ok Z A K cx env (.ListComp elt [⟨.Name x px, iter, ifs, 0⟩] sc pos) (.comp1 elt' ix iter' ifs') := by
  refine ⟨fun m σ s Q F R h => ?_, okC_no fun _ _ _ h => h, rfl, fun op => by cases op <;> rfl, fun _ => rfl⟩
  rw [arm_eval_ListComp]
  exact comp1_run S hh F R hok hx hs okI okT okE (use := none) h fun σ₁ s₁ D L acc σ₂ s₂ G₁ F₁ ce q => comp_none G₁ ce q
theorem ok_comp2 (S : Static Z) (hh : A.handled = none) (hok : innerOk cx sc = true) {elt iter iter₂ : Expr} {ifs : List Expr} {elt' iter' iter₂' : E} {ifs' : List E} {x x' : Str} {ix ix' : Nat} {px px' pos : Pos} (hx : (innerNames cx sc).lookup x = some .local) (hs : (innerCx cx sc).slots.lookup x = some ix)
    (hx' : (innerNames cx sc).lookup x' = some .local) (hs' : (innerCx cx sc).slots.lookup x' = some ix') (hne : x ≠ x')
    (okI : Ok Z A K cx env iter iter') (okI₂ : ∀ e2, Ok Z A K (innerCx cx sc) e2 iter₂ iter₂') (okT : ∀ e2, All2 (Ok Z A K (innerCx cx sc) e2) ifs ifs') (okE : ∀ e2, Ok Z A K (innerCx cx sc) e2 elt elt') :
    Ok Z A K cx env (.ListComp elt [⟨.Name x px, iter, [], 0⟩, ⟨.Name x' px', iter₂, ifs, 0⟩] sc pos) (.comp2 elt' ix iter' ix' iter₂' ifs') := by
  refine ⟨fun m σ s Q F R h => ?_, okC_no fun _ _ _ h => h, rfl, fun op => by cases op <;> rfl, fun _ => rfl⟩
  rw [arm_eval_ListComp]
  exact comp2_run S hh F R hok hx hs hx' hs' hne okI okI₂ okT okE (use := none) h fun σ₁ s₁ D L acc σ₂ s₂ G₁ F₁ ce q => comp_none G₁ ce q
end
end Mine
end
section
open PySem PySem.W PyProof.Rows PySem.Calls
namespace Mine
-- R20
theorem All2.imp {α β : Type} {P R : α → β → Prop} (k : ∀ a b, P a b → R a b) : ∀ {l : List α} {r : List β}, All2 P l r → All2 R l r
  | _, _, .nil => .nil
  | _, _, .cons h t => .cons (k _ _ h) (t.imp k)
theorem All2o.imp {P R : Expr → E → Prop} (k : ∀ a b, P a b → R a b) {o : Option Expr} {e : E} (h : All2o P o e) : All2o R o e := by
  cases h with
  | none => exact .none
  | some h => exact .some (k _ _ h)
theorem innerLoc_of {cx : Cx} {sc : Scope} {x : Str} {i : Nat} (h : innerLoc cx sc x = some i) : innerOk cx sc = true ∧ (innerNames cx sc).lookup x = some .local ∧ (innerCx cx sc).slots.lookup x = some i := by
  unfold innerLoc at h
  cases c : innerOk cx sc && (innerNames cx sc).lookup x == some .local <;> rw [c] at h
  · cases h
  · rw [Bool.and_eq_true, beq_iff_eq] at c
    exact ⟨c.1, c.2, h⟩
theorem tr_ok {Z : Zt} {A : Around} {n : Nat} {K : Kall} (S : Static Z) (hK : KOk Z n K) (sl : Slack A n) : ∀ (k : Nat) (cx : Cx) (e : Expr) (e' : E), TrN k cx e e' → ∀ env, Ok Z A K cx env e e'
  | 0, _, _, _, h, _ => h.elim
  | k + 1, cx, e, e', h, env => by
    have ih := tr_ok S hK sl k
    replace h : TrF (TrN k) cx e e' := h
    have es : ∀ {cx env l r}, All2 (TrN k cx) l r → All2 (Ok Z A K cx env) l r := fun h => h.imp fun a b h => ih _ a b h _
    cases h with
    | cst h => exact ok_const h
    | loc h => exact ok_loc h
    | glob h => exact ok_glob S h
    | bool h k => exact ok_bool (es h) k
    | bin h k => exact ok_bin (ih _ _ _ h _) (ih _ _ _ k _)
    | not h => exact ok_not (ih _ _ _ h _)
    | neg h => exact ok_neg (ih _ _ _ h _)
    | ite h k l => exact ok_ite (ih _ _ _ h _) (ih _ _ _ k _) (ih _ _ _ l _)
    | dict h l d => exact ok_dict S h l d
    | comp1 o h k l =>
      obtain ⟨o1, o2, o3⟩ := innerLoc_of o
      exact ok_comp1 S sl.r.h o1 o2 o3 (ih _ _ _ h _) (fun _ => es k) fun _ => ih _ _ _ l _
    | comp2 o o' n h h' k l =>
      obtain ⟨o1, o2, o3⟩ := innerLoc_of o
      obtain ⟨p1, p2, p3⟩ := innerLoc_of o'
      exact ok_comp2 S sl.r.h o1 o2 o3 p2 p3 (bne_iff_ne.mp n) (ih _ _ _ h _) (fun _ => ih _ _ _ h' _) (fun _ => es k) fun _ => ih _ _ _ l _
    | cmp h k => exact ok_cmp S sl (ih _ _ _ h _) (ih _ _ _ k _)
    | chain h k m => exact ok_chain S sl (ih _ _ _ h _) (ih _ _ _ k _) (ih _ _ _ m _)
    | meth n l e t h k => exact ok_meth S hK sl n l e t (ih _ _ _ h _) (es k)
    | fcall g c l k => exact ok_fcall S hK sl g (es k)
    | ccall g c l k => exact ok_ccall S hK sl c g (es k)
    | tcall g l k => exact ok_tcall S sl g (es k)
    | bcall g l k => exact ok_bcall S sl g (es k)
    | vcall g l k => exact ok_vcall S hK sl g (es k)
    | attr n t h => exact ok_attr S n t (ih _ _ _ h _)
    | slice g a b => exact ok_slice (ih _ _ _ g _) (a.imp fun x y h => ih _ x y h _) (b.imp fun x y h => ih _ x y h _)
    | sub n h k => exact ok_sub n (ih _ _ _ h _) (ih _ _ _ k _)
    | list l k => exact ok_list l (es k)
    | tup l k => exact ok_tup l (es k)
end Mine
end
section
open PySem PySem.W PyProof.Rows PySem.Calls
namespace Mine
-- R21
section
variable {Z : Zt} {cx : Cx} {env : Env} {m : Mp} {σ σ₁ σ₂ : Sg} {s s₁ s₂ : Shared} {A : Around} {n : Nat} {K : Kall} {P : Cx → Expr → E → Prop}
noncomputable def OutM (Z : Zt) (cx : Cx) (env : Env) (σ : Sg) (s : Shared) (Q : Mp → Sg → Prop) : Shared → Prop := fun s' => ∃ m' σ', Rel Z σ' s' ∧ GrowX (frA env) σ s σ' s' ∧ FrR Z cx env m' σ' s'.heap ∧ Q m' σ'
theorem GrowX.step (G : GrowX (frA env) σ s σ₁ s₁) (F₁ : FrR Z cx env m σ₁ s₁.heap) (G' : GrowX (frA env) σ₁ s₁ σ₂ s₂) : GrowX (frA env) σ s σ₂ s₂ := G.trans G' fun b hb _ => (F₁.own b hb).2.2
theorem OutM.grow {Q : Mp → Sg → Prop} (h : OutM Z cx env σ₁ s₁ Q s₂) (G : GrowX (frA env) σ s σ₁ s₁) (F₁ : FrR Z cx env m σ₁ s₁.heap) : OutM Z cx env σ s Q s₂ :=
  let ⟨m', σ', R, G', F, q⟩ := h; ⟨m', σ', R, G.step F₁ G', F, q⟩
theorem st1_ok (S : Static Z) (sl : Slack A n) (tr : ∀ e e', P cx e e' → Ok Z A K cx env e e') {t : Expr} {t' : T1} (ht : TrT1 P cx t t') {v : Value} {Q : Mp → Sg → Prop} (F : FrR Z cx env m σ s.heap) (R : Rel Z σ s) (h : asg1 K t' Q m (er v) σ) :
    wpAny Z.M A (assign t env v) (fun _ => OutM Z cx env σ s Q) NE s := by
  cases ht with
  | loc hl =>
    obtain ⟨hk, hs, -⟩ := loc_of hl
    exact wpAny_assign_Name (F.store R hk hs fun s' R' G' F' => ⟨_, _, R', G', F', h⟩)
  | attr ht ho =>
    rw [okS_of ht, arm_assign_Attribute]
    refine wpAny_bind (wpAny_holding ((tr _ _ ho).ok.run F R h fun vo σ₁ s₁ R₁ G₁ F₁ q => wpAny_bind (wpAny_standAt (wpAny_bind (wpAny_holding (wpAny_mono (op_setA S R₁ q) (fun _ s₂ h₂ => ?_) fun _ _ e => e))))))
    obtain ⟨σ₂, R₂, G₂, q⟩ := h₂
    exact wpAny_release ⟨m, σ₂, R₂, (G₁.trans G₂).toX, F₁.keep G₂, q⟩
  | sub hn hv hi =>
    rw [arm_assign_Subscript]
    refine wpAny_bind (wpAny_holding ((tr _ _ hv).ok.run F R h fun vo σ₁ s₁ R₁ G₁ F₁ q => wpAny_bind (wpAny_holding ((tr _ _ hi).ok.run F₁ R₁ q fun vk σ₂ s₂ R₂ G₂ F₂ q => wpAny_bind (wpAny_standAt (wpAny_bind (wpAny_holding (wpAny_mono (op_setItem R₂ sl.r q) (fun _ s₃ h₃ => ?_) fun _ _ e => e))))))))
    obtain ⟨σ₃, R₃, G₃, q⟩ := h₃
    exact wpAny_release ⟨m, σ₃, R₃, ((G₁.trans G₂).trans G₃).toX, F₂.keep G₃, q⟩
theorem stN_ok (S : Static Z) (sl : Slack A n) (tr : ∀ e e', P cx e e' → Ok Z A K cx env e e') : ∀ {ts : List Expr} {ts' : List T1}, All2 (TrT1 P cx) ts ts' → ∀ {vs : List Value} {m : Mp} {σ : Sg} {s : Shared} {Q : Mp → Sg → Prop}, FrR Z cx env m σ s.heap → Rel Z σ s → asgN K ts' Q (vs.map er) m σ →
    wpAny Z.M A (assignInOrder (ts.map fun t => assign t env) vs) (fun _ => OutM Z cx env σ s Q) NE s
  | _, _, .nil, [], m, σ, s, Q, F, R, h => assignInOrder_nil ⟨m, σ, R, .refl, F, h⟩
  | _, _, .nil, v :: vs, m, σ, s, Q, F, R, h => h.elim
  | _, _, .cons ht hr, [], m, σ, s, Q, F, R, h => h.elim
  | _, _, .cons ht hr, v :: vs, m, σ, s, Q, F, R, h => assignInOrder_cons (wpAny_mono (st1_ok S sl tr ht F R h) (fun _ s₁ h₁ => by
      obtain ⟨m₁, σ₁, R₁, G₁, F₁, q⟩ := h₁
      exact wpAny_mono (stN_ok S sl tr hr F₁ R₁ q) (fun _ _ x => x.grow G₁ F₁) fun _ _ e => e) fun _ _ e => e)
theorem each_of : ∀ {ts : List Expr} {ts' : List T1}, All2 (TrT1 P cx) ts ts' → assignEach ts env = ts.map (fun t => (false, assign t env)) ∧ ts'.length = ts.length
  | _, _, .nil => ⟨rfl, rfl⟩
  | t :: ts, _, .cons h r => by
    obtain ⟨i1, i2⟩ := each_of r
    refine ⟨?_, congrArg (· + 1) i2⟩
    rw [List.map_cons, ← i1]
    cases h <;> rfl
theorem ext_more {h' : Heap} (R : Rel Z σ s) (he : Heap.ExtBut s.heap.objs.size s.heap h') : Rel Z σ { s with heap := h' } ∧ Grow σ s σ { s with heap := h' } :=
  R.more (tk := s.toks) fun b o e => he b o (fun q => by rw [q, new_addr] at e; cases e) e
theorem asg_ok (S : Static Z) (sl : Slack A n) (tr : ∀ e e', P cx e e' → Ok Z A K cx env e e') {t : Expr} {t' : T} (ht : TrT P cx t t') {v : Value} {Q : Mp → Sg → Prop} (F : FrR Z cx env m σ s.heap) (R : Rel Z σ s) (h : asg K t' Q m (er v) σ) :
    wpAny Z.M A (assign t env v) (fun _ => OutM Z cx env σ s Q) NE s := by
  cases ht with
  | one ht => exact st1_ok S sl tr ht F R h
  | @many ts c p ts' ht =>
    obtain ⟨e, hx, hl, h⟩ := h
    rw [er_ref e]
    obtain ⟨vs, htup, rfl⟩ := R.tup hx
    obtain ⟨e1, e2⟩ := each_of (env := env) ht
    have hlen : (assignEach ts env).length = vs.size := by rw [e1, List.length_map, ← e2, hl, erL, List.length_map, Array.length_toList]
    refine assign_Tuple_tuple sl.r.h htup hlen (by rw [e1, List.findIdx?_eq_none_iff]; simp) fun h' he => ?_
    rw [e1, List.map_map]
    obtain ⟨R', G'⟩ := ext_more R he
    have F' := F.keep G'
    exact wpAny_mono (stN_ok S sl tr ht (vs := vs.toList) F' R' h) (fun _ _ x => x.grow G'.toX F') fun _ _ e => e
theorem st_comm : ∀ {m : Mp} {i j : Nat} {a b : V}, i ≠ j → st (st m i a) j b = st (st m j b) i a
  | [], _, _, _, _, _ => rfl
  | x :: r, 0, 0, _, _, h => absurd rfl h
  | x :: r, 0, j + 1, _, _, _ => rfl
  | x :: r, i + 1, 0, _, _, _ => rfl
  | x :: r, i + 1, j + 1, a, b, h => by
    show x :: st (st r i a) j b = x :: st (st r j b) i a
    rw [st_comm (by lia)]
theorem names_ok {ns : List Str} : ∀ {is : List Nat} {vs : List Value} {m : Mp} {s : Shared} {P : Unit → Shared → Prop}, ns.length = is.length → ns.length = vs.length → (∀ (k : Nat) (x : Str) (i : Nat), ns[k]? = some x → is[k]? = some i → cx.names.lookup x = some .local ∧ cx.slots.lookup x = some i) →
    FrR Z cx env m σ s.heap → Rel Z σ s → (∀ s', Rel Z σ s' → GrowX (frA env) σ s σ s' → FrR Z cx env ((is.zip vs).foldl (fun m p => st m p.1 (er p.2)) m) σ s'.heap → P () s') →
    wpAny Z.M A (assignInOrder (ns.map fun x => bindName env x) vs) P NE s := by
  induction ns with
  | nil =>
    intro is vs m s P h1 h2 hk F R h
    cases is with
    | nil => cases vs with
      | nil => exact assignInOrder_nil (h s R .refl F)
      | cons v vs => cases h2
    | cons i is => cases h1
  | cons x ns ih =>
    intro is vs m s P h1 h2 hk F R h
    cases is with
    | nil => cases h1
    | cons i is =>
      cases vs with
      | nil => cases h2
      | cons v vs =>
        obtain ⟨k1, k2⟩ := hk 0 x i rfl rfl
        refine assignInOrder_cons (wpAny_bindName (F.store R (.inl k1) k2 fun s₁ R₁ G₁ F₁ => ?_))
        exact ih (by simpa using h1) (by simpa using h2) (fun k x i a b => hk (k + 1) x i (by simpa using a) (by simpa using b)) F₁ R₁ fun s' R' G' F' => h s' R' (G₁.step F₁ G') F'
noncomputable def swName (env : Env) (line : Nat) : Expr → Option Str
  | .Name id pos => if env.kindOf id == some .local && pos.line == line then some id else none
  | _ => none
theorem sw_of {t v : Expr} (h : okRhs v = true) (hl : ∀ ts p, t ≠ .List ts p) : swappedStores [t] v env = pure none ∨ ∃ ts c p names line, t = .Tuple ts c p ∧ swappedStores [t] v env = pure (some names) ∧ (ts.length = 2 ∨ ts.length = 3) ∧
    names = ts.filterMap (swName env line) ∧ names.length = ts.length ∧ names.eraseDups.length = names.length := by
  cases t <;> first | exact .inl rfl | exact absurd rfl (hl _ _) | skip
  rename_i ts c p
  cases v <;> first | exact .inl rfl | skip
  rename_i vs c' p'
  unfold swappedStores
  dsimp only
  split
  · exact .inl rfl
  rename_i h1
  split
  · exact .inl rfl
  split
  · exact .inl rfl
  rename_i h3
  split
  · exact .inl rfl
  split
  · rename_i h5
    have : (!vs.all (constantsAlone 8)) = true := h
    rw [h5] at this; cases this
  refine .inr ⟨ts, c, p, _, (ts.head?.map (·.pos.line)).getD 0, rfl, rfl, ?_, ?_, ?_, ?_⟩
  · simp only [Bool.or_eq_true, Bool.not_eq_true', not_or] at h1
    have := h1.1.1
    simp only [Bool.not_eq_false, Bool.or_eq_true, beq_iff_eq] at this
    exact this
  · rfl
  · simp only [Bool.or_eq_true, not_or, bne_iff_ne, ne_eq, Decidable.not_not] at h3
    exact h3.1
  · simp only [Bool.or_eq_true, not_or, bne_iff_ne, ne_eq, Decidable.not_not] at h3
    exact h3.2
theorem sw_loc {a : Expr} {a' : T1} {x : Str} {line : Nat} (F : FrR Z cx env m σ s.heap) (h : TrT1 P cx a a') (hx : swName env line a = some x) : ∃ i, a' = .loc i ∧ cx.names.lookup x = some .local ∧ cx.slots.lookup x = some i := by
  cases h with
  | attr => cases hx
  | sub => cases hx
  | loc h =>
    unfold swName at hx
    dsimp only at hx
    split at hx
    · rename_i hc
      cases hx
      simp only [Bool.and_eq_true, beq_iff_eq] at hc
      exact ⟨_, rfl, (F.names _).symm.trans hc.1, (loc_of h).2.1⟩
    · cases hx
theorem sw_all {line : Nat} (F : FrR Z cx env m σ s.heap) : ∀ {ts : List Expr} {ts' : List T1}, All2 (TrT1 P cx) ts ts' → (ts.filterMap (swName env line)).length = ts.length → ∃ is : List Nat, ts' = is.map .loc ∧ All2 (fun x i => cx.names.lookup x = some .local ∧ cx.slots.lookup x = some i) (ts.filterMap (swName env line)) is
  | _, _, .nil, _ => ⟨[], rfl, .nil⟩
  | t :: ts, _, .cons h r, hl => by
    cases e : swName env line t with
    | none =>
      rw [List.filterMap_cons, e] at hl
      have := List.length_filterMap_le (swName env line) ts
      exact absurd (show _ = ts.length + 1 from hl) (by lia)
    | some x =>
      rw [List.filterMap_cons, e] at hl ⊢
      obtain ⟨i, rfl, h1, h2⟩ := sw_loc F h e
      obtain ⟨is, rfl, k⟩ := sw_all F r (Nat.succ.inj hl)
      exact ⟨i :: is, rfl, .cons ⟨h1, h2⟩ k⟩
theorem dups_le : ∀ (n : Nat) (l : List Str), l.length ≤ n → l.eraseDups.length ≤ l.length
  | _, [], _ => by simp
  | n + 1, a :: l, h => by
    rw [List.eraseDups_cons]
    have l1 := List.length_filter_le (fun b => !b == a) l
    have := dups_le n (l.filter fun b => !b == a) (by simp only [List.length_cons] at h; lia)
    simp only [List.length_cons]; lia
theorem dups_cons {x : Str} {r : List Str} (h : (x :: r).eraseDups.length = (x :: r).length) : x ∉ r ∧ r.eraseDups.length = r.length := by
  rw [List.eraseDups_cons] at h
  have l0 := dups_le _ (r.filter fun b => !b == x) (Nat.le_refl _)
  have l1 := List.length_filter_le (fun b => !b == x) r
  simp only [List.length_cons] at h
  have e : (r.filter fun b => !b == x).length = r.length := by lia
  have e' := List.length_filter_eq_length_iff.mp e
  refine ⟨fun hx => ?_, ?_⟩
  · have := e' x hx; simp at this
  · have : r.filter (fun b => !b == x) = r := List.filter_eq_self.mpr e'
    rw [this] at h; lia
theorem dups_nodup : ∀ {l : List Str}, l.eraseDups.length = l.length → l.Nodup
  | [], _ => List.nodup_nil
  | x :: r, h => let ⟨h1, h2⟩ := dups_cons h; List.nodup_cons.mpr ⟨h1, dups_nodup h2⟩
theorem asgN_locs {Q : Mp → Sg → Prop} : ∀ {is : List Nat} {vs : List Value} {m : Mp}, asgN K (is.map .loc) Q (vs.map er) m σ → Q ((is.zip vs).foldl (fun m p => st m p.1 (er p.2)) m) σ
  | [], [], _, h => h
  | [], _ :: _, _, h => h.elim
  | _ :: _, [], _, h => h.elim
  | i :: is, v :: vs, _, h => asgN_locs (is := is) (vs := vs) h
theorem All2.at {α β : Type} {P : α → β → Prop} : ∀ {l : List α} {r : List β}, All2 P l r → l.length = r.length ∧ ∀ (k : Nat) a b, l[k]? = some a → r[k]? = some b → P a b
  | _, _, .nil => ⟨rfl, fun _ _ _ h => nomatch h⟩
  | _, _, .cons h t => ⟨congrArg (· + 1) t.at.1, fun k a b ha hb => by
    cases k with
    | zero => cases ha; cases hb; exact h
    | succ k => exact t.at.2 k a b ha hb⟩
theorem zip_rev {α β : Type} : ∀ {l : List α} {r : List β}, l.length = r.length → (l.zip r).reverse = l.reverse.zip r.reverse
  | [], [], _ => rfl
  | a :: l, b :: r, h => by
    have h := Nat.succ.inj h
    rw [List.zip_cons_cons, List.reverse_cons, List.reverse_cons, List.reverse_cons, zip_rev h, List.zip_append (by rw [List.length_reverse, List.length_reverse]; exact h)]; rfl
theorem swap_ok (sl : Slack A n) {ts : List Expr} {c : Nat} {p : Pos} {t' : T} (ht : TrT P cx (.Tuple ts c p) t') {names : List Str} {line : Nat} (hn : names = ts.filterMap (swName env line))
    (hl : names.length = ts.length) (hd : names.eraseDups.length = names.length) {stores : List (Value → Sem Unit)} {v : Value} {Q : Mp → Sg → Prop} (F : FrR Z cx env m σ s.heap) (R : Rel Z σ s) (h : asg K t' Q m (er v) σ) :
    wpAny Z.M A (assignStores env v (some names) stores) (fun f s' => f = .next ∧ OutM Z cx env σ s Q s') NE s := by
  cases ht with
  | one ht => cases ht
  | many ht =>
  obtain ⟨e, hx, hl', h⟩ := h
  rw [er_ref e]
  obtain ⟨vs, htup, rfl⟩ := R.tup hx
  obtain ⟨e1, e2⟩ := each_of (env := env) ht
  have hsz : names.length = vs.size := by rw [hl, ← e2, hl', erL, List.length_map, Array.length_toList]
  subst hn
  obtain ⟨is, rfl, al⟩ := sw_all F ht hl
  obtain ⟨al1, al2⟩ := al.at
  unfold assignStores
  refine wpAny_bind (wpAny_rule (wpAny_bind ?_))
  rw [hsz]
  refine unpackItems_tuple sl.r.h htup fun h' he => ?_
  obtain ⟨R', G'⟩ := ext_more R he
  have F' := F.keep G'
  have h := asgN_locs (vs := vs.toList) h
  have hvl : is.length = vs.toList.length := by rw [← al1, hsz, Array.length_toList]
  have inj : ∀ (j k : Nat) (i : Nat), is[j]? = some i → is[k]? = some i → j = k := fun j k i hj hk => by
    have jl := (List.getElem?_eq_some_iff.mp hj).1
    have kl := (List.getElem?_eq_some_iff.mp hk).1
    have a1 := al2 j _ i (List.getElem?_eq_getElem (al1 ▸ jl)) hj
    have a2 := al2 k _ i (List.getElem?_eq_getElem (al1 ▸ kl)) hk
    have nn := F.inj _ _ i a1.2 a2.2
    rcases Nat.lt_trichotomy j k with q | q | q
    · exact absurd nn (List.pairwise_iff_getElem.mp (dups_nodup hd) j k _ _ q)
    · exact q
    · exact absurd nn.symm (List.pairwise_iff_getElem.mp (dups_nodup hd) k j _ _ q)
  have comm : ∀ x ∈ is.zip vs.toList, ∀ y ∈ is.zip vs.toList, ∀ z : Mp, st (st z x.1 (er x.2)) y.1 (er y.2) = st (st z y.1 (er y.2)) x.1 (er x.2) := fun x hx y hy z => by
    by_cases q : x.1 = y.1
    · obtain ⟨j, hj⟩ := List.getElem?_of_mem hx
      obtain ⟨k, hk⟩ := List.getElem?_of_mem hy
      have := inj j k x.1 (List.getElem?_zip_eq_some.mp hj).1 (q ▸ (List.getElem?_zip_eq_some.mp hk).1)
      subst this
      rw [Option.some.inj (hj.symm.trans hk)]
    · exact st_comm q
  rw [← List.Perm.foldl_eq' (List.reverse_perm _) (fun x hx y hy z => comm x (List.mem_reverse.mp hx) y (List.mem_reverse.mp hy) z), zip_rev hvl] at h
  refine wpAny_bind (names_ok (is := is.reverse) (by rw [List.length_reverse, List.length_reverse, al1]) (by rw [List.length_reverse, List.length_reverse, hsz, Array.length_toList]) (fun k x i a b => ?_) F' R' fun s' R'' G'' F'' => wpAny_pure ⟨rfl, _, _, R'', GrowX.step G'.toX F' G'', F'', h⟩)
  have kl := (List.getElem?_eq_some_iff.mp a).1
  rw [List.length_reverse] at kl
  rw [List.getElem?_reverse kl] at a
  rw [List.getElem?_reverse (al1 ▸ kl), ← al1] at b
  exact al2 _ x i a b
end
end Mine
end
section
open PySem PySem.W PyProof.Rows PySem.Calls
namespace Mine
-- R22
noncomputable def flOf : Flow → Option Fl
  | .next => some .next
  | .ret v => some (.ret (er v))
  | _ => none
section
variable {Z : Zt} {cx : Cx} {env : Env} {m m₁ : Mp} {σ σ₁ σ₂ : Sg} {s s₁ s₂ : Shared} {A : Around} {n : Nat} {K : Kall} {Q : Ps}
noncomputable def OutF (Z : Zt) (cx : Cx) (env : Env) (σ : Sg) (s : Shared) (Q : Ps) : Flow → Shared → Prop := fun f s' => ∃ fl m' σ', flOf f = some fl ∧ Rel Z σ' s' ∧ GrowX (frA env) σ s σ' s' ∧ FrR Z cx env m' σ' s'.heap ∧ Q fl m' σ'
theorem OutF.grow {f : Flow} (h : OutF Z cx env σ₁ s₁ Q f s₂) (G : GrowX (frA env) σ s σ₁ s₁) (F₁ : FrR Z cx env m σ₁ s₁.heap) : OutF Z cx env σ s Q f s₂ :=
  let ⟨fl, m', σ', e, R, G', F, q⟩ := h; ⟨fl, m', σ', e, R, G.step F₁ G', F, q⟩
theorem wp_outF {g : Sem Flow} (h : wpAny Z.M A g (OutF Z cx env σ₁ s₁ Q) NE s₂) (G : GrowX (frA env) σ s σ₁ s₁) (F₁ : FrR Z cx env m σ₁ s₁.heap) : wpAny Z.M A g (OutF Z cx env σ s Q) NE s₂ := wpAny_mono h (fun _ _ x => x.grow G F₁) fun _ _ e => e.elim
noncomputable def OkS (Z : Zt) (A : Around) (cx : Cx) (env : Env) (f : Ps → Mp → Sg → Prop) (g : Sem Flow) : Prop :=
  ∀ m σ s Q, FrR Z cx env m σ s.heap → Rel Z σ s → f Q m σ → wpAny Z.M A g (OutF Z cx env σ s Q) NE s
theorem sw1 {v t : Expr} {line : Nat} : (∃ elt gens sc p y py, v = .ListComp elt gens sc p ∧ t = .Name y py ∧ env.kindOf y = some .local ∧ swapsWith v (some t) line env = pure true) ∨ swapsWith v (some t) line env = pure false ∨ (∃ elt gens sc p, v = .SetComp elt gens sc p) ∨ ∃ k elt gens sc p, v = .DictComp k elt gens sc p := by
  cases v <;> first | exact .inr (.inl rfl) | exact .inr (.inr (.inl ⟨_, _, _, _, rfl⟩)) | exact .inr (.inr (.inr ⟨_, _, _, _, _, rfl⟩)) | skip
  rename_i elt gens sc p
  cases t <;> first | exact .inr (.inl rfl) | skip
  rename_i y py
  cases hb : (env.blockKind == .function && env.kindOf y == some .local && py.line == (Expr.ListComp elt gens sc p).pos.line && !(sc.names.any fun (n, k) => n == y && (k == .local || k == .cell))) with
  | false => exact .inr (.inl (by show (pure (env.blockKind == .function && env.kindOf y == some .local && py.line == (Expr.ListComp elt gens sc p).pos.line && !(sc.names.any fun (n, k) => n == y && (k == .local || k == .cell))) : Sem Bool) = _; rw [hb]))
  | true =>
    refine .inl ⟨elt, gens, sc, p, y, py, rfl, rfl, ?_, ?_⟩
    · simp only [Bool.and_eq_true, beq_iff_eq] at hb
      exact hb.1.1.2
    · show (pure (env.blockKind == .function && env.kindOf y == some .local && py.line == (Expr.ListComp elt gens sc p).pos.line && !(sc.names.any fun (n, k) => n == y && (k == .local || k == .cell))) : Sem Bool) = _
      rw [hb]
theorem arm_asg' (t v : Expr) (pos : Pos) (env : Env) : exec (.Assign [t] v pos) env = (do
    standAt pos
    if ← swapsWith v (some t) pos.line env then do
      evalThenUse v env fun v => assignAll v ((assignEach [t] env).map (·.2))
      pure .next
    else do
      let x ← eval v env
      assignStores env x (← swappedStores [t] v env) ((assignEach [t] env).map (·.2))) := rfl
theorem notStar {P : Cx → Expr → E → Prop} {t : Expr} {t' : T} (ht : TrT P cx t t') : (assignEach [t] env).map (·.2) = [assign t env] ∧ ∀ ts p, t ≠ .List ts p := by
  cases ht with
  | many => exact ⟨rfl, by simp⟩
  | one h => cases h <;> exact ⟨rfl, by simp⟩
theorem useOk (S : Static Z) (sl : Slack A n) {P : Cx → Expr → E → Prop} (tr : ∀ e e', P cx e e' → Ok Z A K cx env e e') {y : Str} {py : Pos} {t' : T} (ht : TrT P cx (.Name y py) t') {D L : Addr} {acc : List V} {Q : Ps} (G₁ : Grow σ s σ₁ s₁) (F₁ : FrR Z cx env m σ₁ s₁.heap) (ce : CEnd Z σ₁ s₁ D L acc σ₂ s₂)
    (q : New σ₂ (.list acc) (asg K t' (Q .next) m)) :
    compPost Z.M A NE (some fun v => assignAll v ((assignEach [.Name y py] env).map (·.2))) (fun _ => OutF Z cx env σ s Q .next) (.ref D) L (.ok .next) s₂ := by
  obtain ⟨R₂, G₂, aL⟩ := ce.track
  have F₂ := F₁.keep G₂
  have q' := q.1 D ce.aD.1
  show wpAny Z.M A (assign (.Name y py) env (.ref D)) _ NE s₂
  refine wpAny_mono (asg_ok S sl tr ht (v := .ref D) F₂ R₂ q') (fun _ s₃ h₃ => ?_) fun _ _ e => e
  obtain ⟨m₃, σ₃, R₃, G₃, F₃, q₃⟩ := h₃
  have hLf : ¬ frA env L := fun hf => by have := (F₁.own L hf).2.2; rw [ce.hL] at this; cases this
  obtain ⟨lm, hn⟩ := ce.ns
  have aL₃ := aL.grow G₃ hLf
  refine ⟨lm, hn.at' fun o e => aL.get G₃ hLf e, fun h' hs => ?_⟩
  obtain ⟨R₄, G₄⟩ := letGo R₃ aL₃ hs
  have F₄ : FrR Z cx env m₃ σ₃ h' := F₃.grow (s' := { s₃ with heap := h' }) G₄ fun a ha e => hLf (e ▸ ha)
  have G₁₃ : GrowX (frA env) σ₁ s₁ σ₃ s₃ := GrowX.step G₂.toX F₂ G₃
  have G₁₄ : GrowX (frA env) σ₁ s₁ σ₃ { s₃ with heap := h' } := G₁₃.afterX G₄ (fun b e => .inr (e ▸ ce.hL)) fun b hb => (F₃.own b hb).2.2
  exact ⟨.next, m₃, σ₃, rfl, R₄, G₁.toX.step F₁ G₁₄, F₄, q₃⟩
theorem ok_assignC (S : Static Z) (hK : KOk Z n K) (sl : Slack A n) {k : Nat} {elt : Expr} {gens : List Comprehension} {sc : Scope} {p py : Pos} {y : Str} {t' : T} {v' : E} (ht : TrT (TrN k) cx (.Name y py) t') (hv : TrN k cx (.ListComp elt gens sc p) v') {m : Mp} {σ : Sg} {s : Shared} {Q : Ps} (F : FrR Z cx env m σ s.heap) (R : Rel Z σ s)
    (h : awpE K v' m (asg K t' (Q .next) m) σ) :
    wpAny Z.M A (comprehension (.ListComp elt gens sc p) sc env (firstIterPos gens p) (newList []) (firstAsync gens) (firstIter gens env) (some fun v => assignAll v ((assignEach [.Name y py] env).map (·.2)))) (fun _ => OutF Z cx env σ s Q .next) NE s := by
  have tr := tr_ok (A := A) S hK sl k
  cases k with
  | zero => exact hv.elim
  | succ k =>
  have ih := tr_ok (A := A) S hK sl k
  have es : ∀ {cx env l r}, All2 (TrN k cx) l r → All2 (Ok Z A K cx env) l r := fun h => h.imp fun a b h => ih _ a b h _
  replace hv : TrF (TrN k) cx _ _ := hv
  cases hv with
  | comp1 o c4 c5 c6 =>
    obtain ⟨o1, o2, o3⟩ := innerLoc_of o
    exact comp1_run S sl.r.h F R o1 o2 o3 (ih _ _ _ c4 env) (fun _ => es c5) (fun _ => ih _ _ _ c6 _) h fun σ₁ s₁ D L acc σ₂ s₂ G₁ F₁ ce q => useOk S sl (fun e e' h => tr _ e e' h env) ht G₁ F₁ ce q
  | comp2 o o' n h0 h' c5 c6 =>
    obtain ⟨o1, o2, o3⟩ := innerLoc_of o
    obtain ⟨p1, p2, p3⟩ := innerLoc_of o'
    exact comp2_run S sl.r.h F R o1 o2 o3 p2 p3 (bne_iff_ne.mp n) (ih _ _ _ h0 env) (fun _ => ih _ _ _ h' _) (fun _ => es c5) (fun _ => ih _ _ _ c6 _) h fun σ₁ s₁ D L acc σ₂ s₂ G₁ F₁ ce q => useOk S sl (fun e e' h => tr _ e e' h env) ht G₁ F₁ ce q
theorem no_setComp {k : Nat} {elt : Expr} {gens : List Comprehension} {sc : Scope} {p : Pos} {v' : E} (h : TrN k cx (.SetComp elt gens sc p) v') : False := by
  cases k with
  | zero => exact h
  | succ k =>
    replace h : TrF (TrN k) cx _ _ := h
    cases h
theorem no_dictComp {k : Nat} {k0 elt : Expr} {gens : List Comprehension} {sc : Scope} {p : Pos} {v' : E} (h : TrN k cx (.DictComp k0 elt gens sc p) v') : False := by
  cases k with
  | zero => exact h
  | succ k =>
    replace h : TrF (TrN k) cx _ _ := h
    cases h
theorem ok_assign (S : Static Z) (hK : KOk Z n K) (sl : Slack A n) {k : Nat} {t v : Expr} {t' : T} {v' : E} {pos : Pos} (hr : okRhs v = true) (ht : TrT (TrN k) cx t t') (hv : TrN k cx v v') : OkS Z A cx env (awpS K (.assign t' v')) (exec (.Assign [t] v pos) env) := by
  intro m σ s Q F R h
  have tr := fun e e' h => tr_ok (A := A) S hK sl k cx e e' h env
  rw [arm_asg']
  refine wpAny_bind (wpAny_standAt ?_)
  obtain ⟨n1, n2⟩ := notStar (env := env) ht
  rcases sw1 (v := v) (t := t) (line := pos.line) (env := env) with ⟨elt, gens, sc, p, y, py, rfl, rfl, hk, hsw⟩ | hsw | ⟨elt, gens, sc, p, rfl⟩ | ⟨k0, elt, gens, sc, p, rfl⟩
  · rw [hsw]
    refine wpAny_bind (wpAny_pure ?_)
    simp only [if_true]
    exact wpAny_bind (wpAny_bind (wpAny_mono (ok_assignC S hK sl ht hv F R h) (fun _ _ x => wpAny_pure (wpAny_pure x)) fun _ _ e => e))
  · rw [hsw]
    refine wpAny_bind (wpAny_pure ?_)
    simp only [Bool.false_eq_true, if_false]
    refine wpAny_bind ((tr _ _ hv).ok.run F R h fun x σ₁ s₁ R₁ G₁ F₁ q => ?_)
    rcases sw_of (env := env) hr n2 with e | ⟨ts, c, p, names, line, rfl, e, e1, e2, e3, e4⟩
    · rw [e]
      refine wpAny_bind (wpAny_pure ?_)
      rw [n1]
      show wpAny Z.M A (do assign t env x; pure Flow.next) _ _ _
      refine wpAny_bind (wpAny_mono (asg_ok S sl tr ht F₁ R₁ q) (fun _ s₂ h₂ => wpAny_pure ?_) fun _ _ e => e)
      obtain ⟨m₂, σ₂, R₂, G₂, F₂, q⟩ := h₂
      exact ⟨.next, m₂, σ₂, rfl, R₂, G₁.toX.step F₁ G₂, F₂, q⟩
    · rw [e]
      refine wpAny_bind (wpAny_pure ?_)
      refine wpAny_mono (swap_ok sl ht e2 e3 e4 F₁ R₁ q) (fun f s₂ h₂ => ?_) fun _ _ e => e
      obtain ⟨rfl, m₂, σ₂, R₂, G₂, F₂, q⟩ := h₂
      exact ⟨.next, m₂, σ₂, rfl, R₂, G₁.toX.step F₁ G₂, F₂, q⟩
  · exact (no_setComp hv).elim
  · exact (no_dictComp hv).elim
end
end Mine
end
section
open PySem PySem.W PyProof.Rows PySem.Calls
namespace Mine
-- R23
section
variable {Z : Zt} {cx : Cx} {env : Env} {m m₁ : Mp} {σ σ₁ σ₂ : Sg} {s s₁ s₂ : Shared} {A : Around} {n : Nat} {K : Kall} {Q : Ps} {P : Cx → Expr → E → Prop} {pos : Pos}
theorem toOutF {W : Flow → Shared → Prop} {g : Sem Flow} (h : wpAny Z.M A g (OutF Z cx env σ s Q) NE s₁) (k : ∀ f s', OutF Z cx env σ s Q f s' → W f s') {E : Value → Shared → Prop} : wpAny Z.M A g W E s₁ := wpAny_mono h k fun _ _ e => e.elim
theorem OkC.run' {f : Mp → Tst → Sg → Prop} {g : Sem Bool} (ok : OkC Z A cx env f g) (F : FrR Z cx env m σ s.heap) (R : Rel Z σ s) {T : Tst} (h : f m T σ) {W : Bool → Shared → Prop} {E : Value → Shared → Prop}
    (k : ∀ b σ₁ s₁, Rel Z σ₁ s₁ → Grow σ s σ₁ s₁ → FrR Z cx env m σ₁ s₁.heap → T b σ₁ → W b s₁) : wpAny Z.M A g W E s :=
  wpAny_mono (ok.run F R h k) (fun _ _ x => x) fun _ _ e => e.elim
theorem ok_expr {e : Expr} {e' : E} (hc : isCall e = true) (he : Ok Z A K cx env e e') : OkS Z A cx env (awpS K (.expr e')) (exec (.Expr e pos) env) := by
  intro m σ s Q F R h
  have hi : interactive env = false := by unfold interactive; rw [F.kind]; rfl
  have hs : swapsWith e none pos.line env = pure false := by cases e <;> first | rfl | cases hc
  rw [exec_Expr env e pos hi hs]
  refine wpAny_bind (wpAny_standAt (wpAny_bind (he.ok.run F R h fun v σ₁ s₁ R₁ G₁ F₁ q => ?_)))
  have hv : ∀ a, v ≠ .ref a := fun a e => by subst e; exact q
  have q : Q .next m σ₁ := by cases v <;> first | exact q | exact absurd rfl (hv _)
  rw [dropValue_plain hv]
  exact wpAny_pure ⟨.next, m, σ₁, rfl, R₁, G₁.toX, F₁, q⟩
theorem ok_ret {e : Expr} {e' : E} (he : Ok Z A K cx env e e') : OkS Z A cx env (awpS K (.ret e')) (exec (.Return (some e) pos) env) := fun m σ s Q F R h =>
  wpAny_Return_some (he.ok.run F R h fun v σ₁ s₁ R₁ G₁ F₁ q => ⟨.ret (er v), m, σ₁, rfl, R₁, G₁.toX, F₁, q⟩)
theorem ok_ret0 : OkS Z A cx env (awpS K (.ret (.lit .none))) (exec (.Return none pos) env) := fun m σ s Q F R h => wpAny_Return_none ⟨.ret .none, m, σ, rfl, R, .refl, F, h⟩
theorem ok_if {c : Expr} {c' : E} {a b : List Stmt} {a' b' : List Mine.S} (hc : Ok Z A K cx env c c') (ha : OkS Z A cx env (awpSs K a') (execs a env)) (hb : OkS Z A cx env (awpSs K b') (execs b env)) :
    OkS Z A cx env (awpS K (.ite c' a' b')) (exec (.If c a b pos) env) := by
  refine fun m σ s Q F R h => wpAny_If (hc.c.run F R h fun t σ₁ s₁ R₁ G₁ F₁ q => ?_)
  cases t with
  | true => exact wp_outF (ha m σ₁ s₁ Q F₁ R₁ q.pos) G₁.toX F₁
  | false => exact wp_outF (hb m σ₁ s₁ Q F₁ R₁ q.neg) G₁.toX F₁
theorem ok_while {c : Expr} {c' : E} {b : List Stmt} {b' : List Mine.S} (hc : Ok Z A K cx env c c') (hb : OkS Z A cx env (awpSs K b') (execs b env)) : OkS Z A cx env (awpS K (.while c' b')) (exec (.While c b [] pos) env) := by
  intro m₀ σ₀ s₀ Q F₀ R₀ h
  obtain ⟨j, h⟩ := h
  refine wpAny_While (codeAny_whileLoop (fun j s => ∃ m σ, FrR Z cx env m σ s.heap ∧ Rel Z σ s ∧ GrowX (frA env) σ₀ s₀ σ s ∧ whileN (awpC K c') (awpSs K b') j Q m σ) ?_ j ⟨m₀, σ₀, F₀, R₀, .refl, h⟩)
  rintro j s ⟨m, σ, F, R, G, h⟩
  cases j with
  | zero => exact h.elim
  | succ j =>
    refine hc.c.run' F R (T := kIf (awpSs K b' (seqR (whileN (awpC K c') (awpSs K b') j Q) Q) m) (Q .next m)) h fun t σ₁ s₁ R₁ G₁ F₁ q => ?_
    cases t with
    | true =>
      simp only [if_true]
      refine toOutF (hb m σ₁ s₁ _ F₁ R₁ q.pos) fun f s₂ h₂ => ?_
      obtain ⟨fl, m₂, σ₂, e, R₂, G₂, F₂, q⟩ := h₂
      have G' := (G.step F G₁.toX).step F₁ G₂
      cases f
      · cases e; exact ⟨j, Nat.lt_succ_self _, m₂, σ₂, F₂, R₂, G', q⟩
      · cases e
      · cases e
      · cases e; exact ⟨_, m₂, σ₂, rfl, R₂, G', F₂, q⟩
    | false =>
      simp only [Bool.false_eq_true, if_false]
      exact wpAny_execs_nil ⟨.next, m, σ₁, rfl, R₁, G.step F G₁.toX, F₁, q.neg⟩
theorem letTup {t : Expr} {src : V} {i : Nat} {I : Addr} {xs : List V} {v : Value} {P : Unit → Shared → Prop} {E : Value → Shared → Prop} (hi : ItAt σ s.heap I src i xs) (h : P () s) : wpAny Z.M A (letOwnedTupleGo t (.ref I) v) P E s := by
  have key : ∃ o nm, s.heap.get? I = some o ∧ o.cls = .type nm ∧ ["enumerate", "zip", "dict_itemiterator", "dict_reverseitemiterator", "odict_iterator", "itertools.zip_longest", "itertools.pairwise"].contains nm = false := by
    cases hi with
    | range e k x => exact ⟨_, _, x, rfl, by decide⟩
    | list e k x => obtain ⟨o, ho, hc, _⟩ := x; exact ⟨o, _, ho, hc, by decide⟩
    | tup e k x => obtain ⟨o, ho, hc, _⟩ := x; exact ⟨o, _, ho, hc, by decide⟩
    | dict e k x => obtain ⟨o, ho, hc, _⟩ := x; exact ⟨o, _, ho, hc, by decide⟩
    | tdict e k x => obtain ⟨o, ho, hc, _⟩ := x; exact ⟨o, _, ho, hc, by decide⟩
    | vals e k k' x => obtain ⟨o, ho, hc, _⟩ := x; exact ⟨o, _, ho, hc, by decide⟩
    | tvals e k k' x => obtain ⟨o, ho, hc, _⟩ := x; exact ⟨o, _, ho, hc, by decide⟩
  obtain ⟨o, nm, ho, hc, hn⟩ := key
  have go : wpAny Z.M A (do
      let (.ref r, .ref a) := (Value.ref I, v) | return
      let o ← load r
      match o.cls, o.data with
      | .type n, .fields vs =>
        if ["enumerate", "zip", "dict_itemiterator", "dict_reverseitemiterator", "odict_iterator", "itertools.zip_longest", "itertools.pairwise"].contains n && vs[0]? == some (rawInt a) then
          rule "for.unpacks-the-owned-tuple"
          updateField r 0 .none
      | _, _ => pure () : Sem Unit) P E s := by
    cases v <;> first | exact wpAny_pure h | skip
    refine wpAny_bind (wpAny_load ho ?_)
    rw [hc]
    cases o.data <;> first | exact wpAny_pure h | skip
    dsimp only
    rw [hn]
    exact wpAny_pure h
  unfold letOwnedTupleGo
  split
  · exact go
  · exact go
  · exact wpAny_pure h
theorem ok_for (S : Static Z) (sl : Slack A n) (tr : ∀ e e', P cx e e' → Ok Z A K cx env e e') {t it : Expr} {t' : T} {it' : E} {b : List Stmt} {b' : List Mine.S} (ht : TrT P cx t t') (oki : Ok Z A K cx env it it') (hb : OkS Z A cx env (awpSs K b') (execs b env)) :
    OkS Z A cx env (awpS K (.for t' it' b')) (exec (.For t it b [] pos) env) := by
  intro m₀ σ₀ s₀ Q F₀ R₀ h
  refine wpAny_For (oki.ok.run F₀ R₀ h fun v σ₁ s₁ R₁ G₁ F₁ q => ?_) oki.fold
  obtain @⟨xs, hxs, q⟩ := q
  refine it_start S R₁ hxs fun itv s₂ hst => ?_
  obtain ⟨o, rfl, rfl, hof, R₂, G₂, hit⟩ := hst
  have nI : s₁.heap.get? s₁.heap.objs.size = none := new_addr _
  have IF : ¬ frA env s₁.heap.objs.size := fun hf => by have := (F₁.own _ hf).2.2; rw [nI] at this; cases this
  have aI : Asd Z σ₁ (s₁.heap.push o) s₁.heap.objs.size := ⟨(Asd.of R₁ nI).1, (Asd.of R₁ nI).2, by rw [Heap.get?_push_size _ hof]; rfl⟩
  refine codeAny_forLoop_any (fun j s => ∃ i m σ, j = xs.length - i ∧ i ≤ xs.length ∧ FrR Z cx env m σ s.heap ∧ Rel Z σ s ∧ GrowX (frA env) σ₁ s₁ σ s ∧ Asd Z σ s.heap s₁.heap.objs.size ∧ ItAt σ s.heap s₁.heap.objs.size (er v) i xs ∧ Same (er v) σ₁ σ ∧
      forL (Same (er v) σ₁) (fun v R m => asg K t' (awpSs K b' R) m v) (xs.drop i) Q m σ) ?_ xs.length
    ⟨0, m₀, σ₁, rfl, Nat.zero_le _, F₁.keep G₂, R₂, G₂.toX, aI, hit, Same.refl _ _, by rw [List.drop_zero]; exact q⟩
  rintro j s ⟨i, m, σ, rfl, hi, F, R, G, aI, hit, hsm, h⟩
  by_cases hlt : i < xs.length
  · have hx : xs[i]? = some xs[i] := List.getElem?_eq_getElem hlt
    rw [List.drop_eq_getElem_cons hlt] at h
    generalize xs[i] = x at h hx
    obtain ⟨_, h⟩ := h
    refine it_next R hit hx fun w s2 ew st2 it2 => ?_
    subst ew
    have R2 := st2.rel R aI.1 aI.2.1
    have G2 : GrowX (fun b => b = s₁.heap.objs.size) σ s σ s2 := st2.grow rfl
    have F2 := F.grow G2 fun a ha e => IF (e ▸ ha)
    have I2 : Asd Z σ s2.heap s₁.heap.objs.size := ⟨aI.1, aI.2.1, it2.some⟩
    have G02 : GrowX (frA env) σ₁ s₁ σ s2 := G.afterX G2 (fun b e => .inr (e ▸ nI)) fun b hb => (F.own b hb).2.2
    refine letTup it2 (wpAny_mono (asg_ok S sl tr ht F2 R2 h) (fun _ s3 h3 => ?_) fun _ _ e => e.elim)
    obtain ⟨m3, σ3, R3, G3, F3, h3⟩ := h3
    have I3 := I2.grow G3 IF
    refine toOutF (hb m3 σ3 s3 _ F3 R3 h3) fun f s4 h4 => ?_
    obtain ⟨fl, m4, σ4, e, R4, G4, F4, h4⟩ := h4
    have G04 := (G02.step F2 G3).step F3 G4
    cases f
    · cases e
      replace h4 : forL (Same (er v) σ₁) (fun v R m => asg K t' (awpSs K b' R) m v) (xs.drop (i + 1)) Q m4 σ4 := h4
      have hs' : Same (er v) σ₁ σ4 := by
        revert h4
        cases xs.drop (i + 1) with
        | nil => exact fun q => q.1
        | cons x r => exact fun q => q.1
      exact ⟨xs.length - (i + 1), by lia, i + 1, m4, σ4, rfl, hlt, F4, R4, G04, I3.grow G4 IF, it2.to (fun o e => I3.get G4 IF (I2.get G3 IF e)) (hsm.symm.trans hs'), hs', h4⟩
    · cases e
    · cases e
    · cases e; exact ⟨_, m4, σ4, rfl, R4, G₁.toX.step F₁ G04, F4, h4⟩
  · have hi' : i = xs.length := by lia
    subst hi'
    rw [List.drop_length] at h
    refine it_end sl.r.h R hit fun s2 st2 => ?_
    have G2 : GrowX (fun b => b = s₁.heap.objs.size) σ s σ s2 := st2.grow rfl
    have G02 : GrowX (frA env) σ₁ s₁ σ s2 := G.afterX G2 (fun b e => .inr (e ▸ nI)) fun b hb => (F.own b hb).2.2
    exact wpAny_execs_nil ⟨.next, m, σ, rfl, st2.rel R aI.1 aI.2.1, G₁.toX.step F₁ G02, F.grow G2 (fun a ha e => IF (e ▸ ha)), h.2⟩
theorem ok_seq {T : Stmt → Mine.S → Prop} (ih : ∀ s s', T s s' → OkS Z A cx env (awpS K s') (exec s env)) : ∀ {ss : List Stmt} {ss' : List Mine.S}, All2 T ss ss' → OkS Z A cx env (awpSs K ss') (execs ss env)
  | _, _, .nil => fun m σ s Q F R h => wpAny_execs_nil ⟨.next, m, σ, rfl, R, .refl, F, h⟩
  | _, _, .cons h1 h2 => fun m σ s Q F R h => by
    refine wpAny_execs_cons (wpAny_mono (ih _ _ h1 m σ s _ F R h) (fun f s₁ h₁ => ?_) fun _ _ e => e)
    obtain ⟨fl, m₁, σ₁, e, R₁, G₁, F₁, q⟩ := h₁
    cases f
    · cases e; exact wp_outF (ok_seq ih h2 m₁ σ₁ s₁ Q F₁ R₁ q) G₁ F₁
    · cases e
    · cases e
    · cases e; exact ⟨_, m₁, σ₁, rfl, R₁, G₁, F₁, q⟩
theorem trS_ok (S : Static Z) (hK : KOk Z n K) (sl : Slack A n) {k : Nat} : ∀ (j : Nat) (s : Stmt) (s' : Mine.S), TrSN (TrN k) cx j s s' → OkS Z A cx env (awpS K s') (exec s env)
  | 0, _, _, h => h.elim
  | j + 1, s, s', h => by
    have ih : ∀ s s', TrSN (TrN k) cx j s s' → OkS Z A cx env (awpS K s') (exec s env) := trS_ok S hK sl j
    have tr := fun e e' h => tr_ok (A := A) S hK sl k cx e e' h env
    replace h : TrSF (TrN k) cx (TrSN (TrN k) cx j) s s' := h
    cases h with
    | expr c h => exact ok_expr c (tr _ _ h)
    | ret h => exact ok_ret (tr _ _ h)
    | ret0 => exact ok_ret0
    | assign o h k => exact ok_assign S hK sl o h k
    | ite h k l => exact ok_if (tr _ _ h) (ok_seq ih k) (ok_seq ih l)
    | «while» h k => exact ok_while (tr _ _ h) (ok_seq ih k)
    | «for» h k l => exact ok_for S sl tr h (tr _ _ k) (ok_seq ih l)
end
end Mine
end
section
open PySem PySem.W PyProof.Rows PySem.Calls
namespace Mine
-- R24
section
variable {Z : Zt} {σ : Sg} {s s₁ : Shared} {A : Around} {n : Nat}
theorem bindL_get {kindOf : Str → Option NameKind} {x : Str} (hx : kindOf x = some .local) : ∀ {bs : List (Str × Value)} {m : Str → Option Value}, (bs.map (·.1)).Nodup → bindL kindOf bs m x = (bs.lookup x).or (m x)
  | [], m, _ => by simp [bindL]
  | (y, v) :: r, m, hn => by
    rw [List.map_cons, List.nodup_cons] at hn
    unfold bindL
    rw [bindL_get hx hn.2, List.lookup_cons]
    by_cases hy : x = y
    · subst hy
      have : r.lookup x = none := by
        cases e : r.lookup x with
        | none => rfl
        | some w => exact absurd (List.mem_map.mpr ⟨_, mem_of_lookup e, rfl⟩) hn.1
      rw [this]; simp [hx]
    · have hb : (x == y) = false := beq_false_of_ne hy
      rw [hb]
      split <;> simp [hy]
theorem bindC_get {kindOf : Str → Option NameKind} {x : Str} (hx : kindOf x ≠ some .local) : ∀ {bs : List (Str × Value)} {m : Str → Option Value}, (bs.map (·.1)).Nodup → bindC kindOf bs m x = (bs.lookup x).or (m x)
  | [], m, _ => by simp [bindC]
  | (y, v) :: r, m, hn => by
    rw [List.map_cons, List.nodup_cons] at hn
    unfold bindC
    rw [bindC_get hx hn.2, List.lookup_cons]
    by_cases hy : x = y
    · subst hy
      have : r.lookup x = none := by
        cases e : r.lookup x with
        | none => rfl
        | some w => exact absurd (List.mem_map.mpr ⟨_, mem_of_lookup e, rfl⟩) hn.1
      rw [this]; simp [hx]
    · have hb : (x == y) = false := beq_false_of_ne hy
      rw [hb]
      split <;> simp [hy]
theorem cellsFrom_keys : ∀ {names : List (Str × NameKind)} {k : Nat} {acc : List (Str × Addr)}, (cellsFrom k names acc).map (·.1) = ((names.filter (·.2 == .cell)).map (·.1)).reverse ++ acc.map (·.1)
  | [], _, _ => rfl
  | (x, kd) :: r, k, acc => by
    unfold cellsFrom
    by_cases h : (kd == NameKind.cell) = true
    · rw [if_pos h, cellsFrom_keys, List.filter_cons, if_pos h]; simp
    · rw [if_neg h, cellsFrom_keys, List.filter_cons, if_neg h]
theorem sl_append {a b : Mp} {i : Nat} : sl (a ++ b) i = if i < a.length then sl a i else sl b (i - a.length) := by
  induction a generalizing i with
  | nil => simp
  | cons x r ih =>
    cases i with
    | zero => simp [sl]
    | succ i => simp only [List.cons_append, sl, List.length_cons]; rw [ih]; simp
theorem sl_map_some {l : List V} {i : Nat} : sl (l.map some) i = l[i]? := by
  induction l generalizing i with
  | nil => simp [sl]
  | cons x r ih => cases i with
    | zero => simp [sl]
    | succ i => simp [sl, ih]
theorem sl_none {k i : Nat} : sl (List.replicate k none) i = none := by
  induction k generalizing i with
  | zero => simp [sl]
  | succ k ih => cases i with
    | zero => simp [sl, List.replicate_succ]
    | succ i => simp [sl, List.replicate_succ, ih]
theorem sl_frame {fn : Fn} {vs : List V} {i : Nat} {v : V} (h : sl (fnFrame fn vs) i = some v) : (vs ++ fn.dfl.drop (vs.length + fn.dfl.length - fn.pars))[i]? = some v := by
  unfold fnFrame at h
  rw [sl_append] at h
  split at h
  · rw [sl_map_some] at h; exact h
  · rw [sl_none] at h; cases h
structure FnFacts (sc : Scope) (ps : Arguments) : Prop where
  kind : sc.kind = .function
  gen : sc.isGenerator = false
  co : sc.isCoroutine = false
  nd : (sc.names.map (·.1)).Nodup
  kinds : ∀ x ∈ sc.names, x.2 = .local ∨ x.2 = .cell ∨ x.2 = .globalImplicit
  po : ps.posonlyargs = []
  va : ps.vararg = none
  ko : ps.kwonlyargs = []
  kw : ps.kwarg = none
  take : ((sc.names.filter fun x => x.2 == .local || x.2 == .cell).map (·.1)).take ps.args.length = ps.args.map (·.arg)
theorem fnOk_of {sc : Scope} {ps : Arguments} (h : fnOk sc ps = true) : FnFacts sc ps := by
  unfold fnOk at h
  simp only [Bool.and_eq_true, Bool.not_eq_true', decide_eq_true_eq, List.all_eq_true, beq_iff_eq, List.isEmpty_iff, Option.isNone_iff_eq_none] at h
  obtain ⟨⟨⟨⟨⟨⟨⟨⟨⟨h1, h2⟩, h3⟩, h4⟩, h5⟩, h6⟩, h7⟩, h8⟩, h9⟩, h10⟩ := h
  refine ⟨h1, h2, h3, h4, fun x hx => ?_, h6, h7, h8, h9, h10⟩
  have := h5 x hx
  simp only [Bool.or_eq_true, beq_iff_eq] at this
  rcases this with (h | h) | h
  · exact .inl h
  · exact .inr (.inl h)
  · exact .inr (.inr h)
abbrev owned (sc : Scope) : List Str := (sc.names.filter fun x => x.2 == .local || x.2 == .cell).map (·.1)
theorem fn_frame {fd : FuncData} {a : Addr} {fn : Fn} {vals ds : List Value} (R : Rel Z σ s) (W : FnFacts fd.scope fd.params) (hg : fd.globals = mainGlobals) (hb : fd.builtins = builtinsNs) (hp : fn.pars = fd.params.args.length) (hd : ds.map er = fn.dfl)
    (h1 : fn.pars ≤ vals.length + fn.dfl.length) (h2 : vals.length ≤ fn.pars) (h3 : fn.dfl.length ≤ fn.pars) {env : Env}
    (he : env = newEnv fd.scope s.heap.objs.size fd.globals (cellsFrom (s.heap.objs.size + 1) fd.scope.names []) (fd.qualname ++ ".<locals>.") (some a) fd.code none fd.builtins)
    {binds : List (Str × Value)} (hbs : binds = (fd.params.args.map (·.arg)).zip (vals ++ ds.drop (vals.length + ds.length - fd.params.args.length)))
    (x : InCallC s env.locals (bindL env.kindOf binds fun _ => none) env.cells (bindC env.kindOf binds fun _ => none) s₁) :
    FrR Z (fnCx Z.glob fd.scope) env (fnFrame fn (vals.map er)) σ s₁.heap := by
  have kindOf : ∀ y, env.kindOf y = fd.scope.names.lookup y := fun y => by rw [he]; rfl
  have hL : env.locals = s.heap.objs.size := by rw [he]; rfl
  have hC : env.cells = cellsFrom (s.heap.objs.size + 1) fd.scope.names [] := by rw [he]; rfl
  have hdl : ds.length = fn.dfl.length := by rw [← hd]; simp
  have ownd : (owned fd.scope).Nodup := W.nd.sublist (List.Sublist.map _ (List.filter_sublist ..))
  have argnd : (fd.params.args.map (·.arg)).Nodup := by rw [← W.take]; exact ownd.sublist (List.take_sublist ..)
  have plen : fd.params.args.length ≤ (owned fd.scope).length := by
    have := congrArg List.length W.take
    simp only [List.length_take, List.length_map] at this
    show _ ≤ ((fd.scope.names.filter fun x => x.2 == .local || x.2 == .cell).map (·.1)).length
    rw [List.length_map]
    lia
  have bnd : (binds.map (·.1)).Nodup := by
    rw [hbs, List.map_fst_zip (by rw [List.length_map, List.length_append, List.length_drop]; lia)]
    exact argnd
  have cellnd : (env.cells.map (·.1)).Nodup := by
    rw [hC, cellsFrom_keys, List.map_nil, List.append_nil]
    refine List.pairwise_reverse.mpr ?_
    have : ((fd.scope.names.filter (·.2 == .cell)).map (·.1)).Nodup := W.nd.sublist (List.Sublist.map _ (List.filter_sublist ..))
    exact this.imp fun h => h.symm
  have fresh : ∀ b, frA env b → s.heap.get? b = none := fun b hb => by
    have hge : s.heap.objs.size ≤ b := by
      rcases hb with rfl | ⟨y, hy⟩
      · rw [hL]; exact Nat.le_refl _
      · have := x.above y b hy; rw [hL] at this; exact Nat.le_of_lt this
    cases e : s.heap.get? b with
    | none => rfl
    | some o => exact absurd (Heap.lt_size e) (Nat.not_lt.mpr hge)
  -- a value of the frame
  have val : ∀ y i v, (fnCx Z.glob fd.scope).slots.lookup y = some i → sl (fnFrame fn (vals.map er)) i = some v → ∃ w, binds.lookup y = some w ∧ er w = v := fun y i v hs hv => by
    obtain ⟨-, g2, -⟩ := lookup_zipIdx (k := 0) hs
    have hv' := sl_frame hv
    rw [List.length_map, ← hd, ← List.map_drop, ← List.map_append, List.length_map] at hv'
    rw [List.getElem?_map] at hv'
    obtain ⟨w, hw, ew⟩ := Option.map_eq_some_iff.mp hv'
    rw [hp] at hw
    have hi : i < fd.params.args.length := by
      have := (List.getElem?_eq_some_iff.mp hw).1
      rw [List.length_append, List.length_drop] at this
      lia
    refine ⟨w, ?_, ew⟩
    rw [hbs]
    refine (lookup_zip argnd (i := i) ?_).trans hw
    rw [← W.take, List.getElem?_take, if_pos hi]
    exact g2
  refine ⟨by rw [he]; exact W.kind, kindOf, by rw [he]; exact hg, by rw [he]; exact hb, rfl, fun b hb => ?_, ⟨_, x.toInCall.ns, fun y i v e1 e2 e3 => ?_⟩, fun y i e1 e2 => ?_, x.apart, fun y c hm => ?_, fun y y' i e1 e2 => ?_, fun y i e => ?_, fun i hi => ?_⟩
  · obtain ⟨a1, a2⟩ := Asd.of R (fresh b hb)
    refine ⟨a1, a2, ?_⟩
    rcases hb with rfl | ⟨y, hy⟩
    · obtain ⟨o, _, _, ho, _⟩ := x.toInCall.ns; rw [ho]; rfl
    · obtain ⟨o, ho, _⟩ := x.cell y b (lookup_nd cellnd hy); rw [ho]; rfl
  · obtain ⟨w, hw, ew⟩ := val y i v e2 e3
    have hk : env.kindOf y = some .local := (kindOf y).trans e1
    exact ⟨w, by rw [bindL_get hk bnd, hw]; rfl, ew⟩
  · have hk : env.kindOf y = some .cell := (kindOf y).trans e1
    have hcs : ((cellsFrom (s.heap.objs.size + 1) fd.scope.names []).lookup y).isSome = true := cellsFrom_some _ _ _ (.inl e1)
    rw [← hC] at hcs
    obtain ⟨c, hc⟩ := Option.isSome_iff_exists.mp hcs
    refine ⟨c, _, hc, x.cell y c hc, fun v hv => ?_⟩
    obtain ⟨w, hw, ew⟩ := val y i v e2 hv
    exact ⟨w, by rw [bindC_get (by rw [hk]; decide) bnd, hw]; rfl, ew⟩
  · exact Nat.ne_of_gt (x.above y c hm)
  · obtain ⟨-, g2, -⟩ := lookup_zipIdx (k := 0) e1
    obtain ⟨-, g3, -⟩ := lookup_zipIdx (k := 0) e2
    rw [g2] at g3; exact Option.some.inj g3
  · obtain ⟨-, -, g3⟩ := lookup_zipIdx (k := 0) e
    have : i < (owned fd.scope).length := by rw [Nat.zero_add] at g3; exact g3
    show i < (fd.scope.names.filter fun x => x.2 == .local || x.2 == .cell).length
    rwa [List.length_map] at this
  · cases e : sl (fnFrame fn (vals.map er)) i with
    | none => rfl
    | some v =>
      have := (List.getElem?_eq_some_iff.mp (sl_frame e)).1
      rw [List.length_append, List.length_drop, List.length_map] at this
      have h4 : (owned fd.scope).length ≤ i := by
        have : (fd.scope.names.filter fun x => x.2 == .local || x.2 == .cell).length ≤ i := hi
        rwa [List.length_map]
      lia
theorem callSem0 {f : Addr} {vs : List V} {σ : Sg} {Q : Po} (h : callSem 0 f vs σ Q) : False := by with_unfolding_all exact h
theorem callSemS {n : Nat} {f : Addr} {vs : List V} {σ : Sg} {Q : Po} (h : callSem (n + 1) f vs σ Q) : DefK (callSem n) f vs σ Q := by with_unfolding_all exact h
theorem call_ok (S : Static Z) : ∀ n, KOk Z n (callSem n)
  | 0 => fun A σ s Q f vals R r h => (callSem0 h).elim
  | n + 1 => fun A σ s Q f vals R r h => by
    have ih := call_ok S n
    have h := callSemS h
    · obtain @⟨fn, hf, p1, p2, h⟩ := h
      rw [List.length_map] at p1 p2
      obtain ⟨⟨o, fd, body, ho, hd, hbody, hg, hcl, hblt, hcr, hok, htr, hpars, hsz, hdf, hdl⟩, hkeep⟩ := S.fn f fn hf
      refine ⟨hkeep, ?_⟩
      have W := fnOk_of hok
      have ho' := R.keep f o ho
      have hcr' : s.heap.CodeRec fd.code fd.qualname := hcr.keeps R.keep
      obtain ⟨ds, hds, hseq⟩ : ∃ ds : List Value, ds.map er = fn.dfl ∧ ∀ {A : Around} {Ee : Value → Shared → Prop} (Q' : Option (Array Value) → Shared → Prop), (∀ o : Option (Array Value), (o.getD #[]).toList = ds → Q' o s) → wpAny Z.M A (seqItems? fd.defaults) Q' Ee s := by
        rcases hdf with ⟨e1, e2⟩ | ⟨t, ot, items, k, e1, e2, e3, e4⟩
        · exact ⟨[], by rw [e2]; rfl, fun Q' hq => by rw [e1]; exact wpAny_pure (hq none rfl)⟩
        · exact ⟨items.toList, e4, fun Q' hq => by rw [e1]; exact wpAny_seqItems (R.keep _ _ e2) e3 (hq (some items) rfl)⟩
      have hdsl : ds.length = fn.dfl.length := by rw [← hds]; simp
      have ownd : (owned fd.scope).Nodup := W.nd.sublist (List.Sublist.map _ (List.filter_sublist ..))
      have argnd : (fd.params.args.map (·.arg)).Nodup := by rw [← W.take]; exact ownd.sublist (List.take_sublist ..)
      have hdep : A.depth < recursionLimit := by
        have := r.d
        show A.depth < 1000
        lia
      refine codeAny_call_function hdep ho' hd W.co W.gen hbody hcr' ?_
      refine wp_bindArgs (ds := ds) W.po W.va W.ko W.kw argnd hseq (by rw [← hpars]; exact p2) (by rw [← hpars, hdsl]; exact p1) (by rw [← hpars, hdsl]; exact hdl) ?_
      rw [hcl]
      refine wpAny_newFunctionEnv_cells W.kind (fun y hy => ?_) fun env he s₁ x => ?_
      · have hm : y.1 ∈ fd.params.args.map (·.arg) := by
          have : y.1 ∈ ((fd.params.args.map (·.arg)).zip (vals ++ ds.drop (vals.length + ds.length - fd.params.args.length))).map (·.1) := List.mem_map.mpr ⟨y, hy, rfl⟩
          rw [List.map_fst_zip (by rw [List.length_map, List.length_append, List.length_drop]; lia)] at this
          exact this
        rw [← W.take] at hm
        obtain ⟨⟨y', kd⟩, hz, e⟩ := List.mem_map.mp (List.mem_of_mem_take hm)
        dsimp only at e
        subst e
        obtain ⟨hz1, hz2⟩ := List.mem_filter.mp hz
        have hl := lookup_nd W.nd hz1
        simp only [Bool.or_eq_true, beq_iff_eq] at hz2
        rcases hz2 with rfl | rfl
        · exact .inl hl
        · exact .inr ⟨hl, cellsFrom_some _ _ _ (.inl hl)⟩
      · have F := fn_frame R W hg hblt hpars hds p1 p2 hdl he rfl x
        obtain ⟨h', tk, rfl, hk⟩ := x.done
        obtain ⟨R₁, G₁⟩ := R.more (tk := tk) hk
        refine ⟨(S.lim.keeps R.keep).keeps hk, codeAny_func ?_⟩
        have sl : Slack (A.deeper env) n := by
          have h1 := r.d
          have h2 := r.u
          refine ⟨⟨r.h, ?_, ?_⟩, ?_, ?_⟩
          · show A.depth + 1 + 2 * n + 4 ≤ 900; lia
          · show A.units + 3 + 10 * n + 100 ≤ 9000; lia
          · show A.depth + 1 + 2 * n + 5 ≤ 900; lia
          · show A.units + 3 + 10 * n + 107 ≤ 9000; lia
        refine toOutF (ok_seq (fun s s' t => trS_ok S ih sl 60 s s' t) htr _ σ _ _ F R₁ h) fun f s₂ h₂ => ?_
        obtain ⟨fl, m', σ', e, R₂, G₂, F₂, q⟩ := h₂
        have hfr : ∀ b, frA env b → s.heap.get? b = none := fun b hb => by
          have hge : s.heap.objs.size ≤ b := by
            have hL : env.locals = s.heap.objs.size := by rw [he]; rfl
            rcases hb with rfl | ⟨y, hy⟩
            · rw [hL]; exact Nat.le_refl _
            · have := x.above y b hy; rw [hL] at this; exact Nat.le_of_lt this
          cases e : s.heap.get? b with
          | none => rfl
          | some o => exact absurd (Heap.lt_size e) (Nat.not_lt.mpr hge)
        have G : Grow σ s σ' s₂ := G₁.after G₂ hfr
        cases f
        · cases e; exact ⟨σ', R₂, G, q⟩
        · cases e
        · cases e
        · cases e; exact ⟨σ', R₂, G, q⟩
end
end Mine
end
section
set_option maxHeartbeats 0
open PySem PySem.W PyProof.Rows
namespace Mine
-- Ht
theorem al {a b : Bool} (h : (a && b) = true) : a = true := (Bool.and_eq_true_iff.mp h).1
theorem ar {a b : Bool} (h : (a && b) = true) : b = true := (Bool.and_eq_true_iff.mp h).2
noncomputable def objAt (P : Params) (a : Addr) : Option Obj := bif Nat.blt a 1030 then ((TT P).get a).bind alive else none
theorem objAt_get {P : Params} {a : Addr} {o : Obj} (h : objAt P a = some o) : (hp P).get? a = some o := by
  cases e : Nat.blt a 1030 <;> rw [objAt, e] at h
  · cases h
  · obtain ⟨o', g, h⟩ := Option.bind_eq_some_iff.mp h
    exact (abs_get (Nat.le_of_ble_eq_true e) g).trans h
noncomputable def KA : List Nat := [21, 35, 40, 42, 43, 62, 64, 65, 76, 83, 90, 97, 104, 118, 125, 132, 134, 135, 154, 159, 164, 169, 176, 178, 179, 188, 197, 204, 211, 218, 225, 232, 239, 246, 253, 260, 267, 274, 281, 288, 295, 302, 309, 316, 323, 330, 337, 344, 351, 358, 365, 372, 379, 386, 400, 407, 414, 421, 423, 424, 435, 449, 456, 463, 465, 466, 485, 490, 497, 504, 506, 507, 516, 521, 528, 533, 547, 549, 550, 561, 568, 573, 578, 585, 592, 599, 606, 620, 627, 634, 636, 637, 648, 662, 667, 669, 670, 681, 688, 693, 708, 715, 720, 722, 723, 740, 747, 752, 754, 755, 766, 773, 780, 787, 794, 799, 806, 813, 827, 834, 841, 848, 853, 855, 856, 875, 882, 889, 896, 901, 903, 904, 913, 920, 927, 934, 939, 944, 949, 956, 963, 970, 977, 984, 991, 998, 1005, 1012, 1019, 1024, 1029]
noncomputable def KfP (P : Params) : Frag := KA.filterMap fun a => (objAt P a).map (Prod.mk a)
noncomputable def ownL (P : Params) : List (Str × Value) := (topAt P 124).es.map fun e => ((keyOf? e.key).getD Str.empty, e.val)
noncomputable def biL : List (Str × Value) := (["len", "sum", "abs", "min", "max", "sorted", "isinstance"].map fun n => (Str.ofString n, Value.builtin n)) ++ ["int", "range", "list", "tuple", "dict", "set"].map fun n => (Str.ofString n, .type n)
noncomputable def globP (P : Params) : List (Str × V) := (ownL P ++ biL).map fun x => (x.1, er x.2)
noncomputable def Zw (w : World) (h : Heap) (os : OsState) : Zt := ⟨PySem.Challenge.pw_nu0205_01, w, KfP w.params, globP w.params, h, os⟩
noncomputable def chkC (K : Frag) (c : Addr) (k : Cls) : Bool :=
  makesIn K c && (decide (findIn K (.ref c) "__init__" = some (some (.ref k.init))) && (decide (typeIn K (.ref k.init) = some (.type "function")) && (plainGet K c "" && (hasDictIn K c &&
  (decide (findIn K (.ref c) "__setattr__" = some (some (.builtin "object.__setattr__"))) && (plainOver K c &&
  ((k.meths.all fun m => decide (findIn K (.ref c) (Str.ofString m.1) = some (some (.ref m.2)) ∧ typeIn K (.ref m.2) = some (.type "function"))) &&
  ((fieldNames.all fun n => (k.meths.map (·.1)).contains n || decide (findIn K (.ref c) (Str.ofString n) = some none)) &&
  (keepIn K (.ref c) && (plainGet K c "__class__" && (decide (findIn K (.ref c) "__class__" = some (some (.builtin "object.__class__"))) && (decide (mroIn K c (.type "object") = some true) &&
  pg.cls.all fun x => decide (kitOne K (.ref x.1) (.ref c) = some (x.1 == c))))))))))))))
noncomputable def dFn : ∀ d : Data, Option (PSigma fun fd => d = .func fd)
  | .func fd => some ⟨fd, rfl⟩
  | _ => none
noncomputable def dSeq : ∀ d : Data, Option (PSigma fun x : Array Value × Nat => d = .seq x.1 x.2)
  | .seq vs n => some ⟨(vs, n), rfl⟩
  | _ => none
noncomputable def dFld : ∀ d : Data, Option (PSigma fun vs => d = .fields vs)
  | .fields vs => some ⟨vs, rfl⟩
  | _ => none
noncomputable def vRef : ∀ v : Value, Option (PSigma fun a => v = .ref a)
  | .ref a => some ⟨a, rfl⟩
  | _ => none
noncomputable def vStr : ∀ v : Value, Option (PSigma fun x : Str × Tok => v = .str x.1 x.2)
  | .str s t => some ⟨(s, t), rfl⟩
  | _ => none
noncomputable def bSts : ∀ b : FuncBody, Option (PSigma fun ss => b = .stmts ss)
  | .stmts ss => some ⟨ss, rfl⟩
  | .expr _ => none
section
variable (P : Params) (G : Addr → Obj → Prop) (hG : ∀ a o, objAt P a = some o → G a o)
noncomputable def codeR (v : Value) (q : Str) : Option (PLift (∃ c o vs t, v = .ref c ∧ G c o ∧ o.data = .fields vs ∧ vs[1]? = some (.str q t))) :=
  (vRef v).bind fun c => of (objAt P c.1) fun o h => (dFld o.data).bind fun vs => of (vs.1[1]?) fun z hz => (vStr z).bind fun x => gd (x.1.1 == q) fun e => some ⟨c.1, o, vs.1, x.1.2, c.2, hG _ _ h, vs.2, hz.trans (congrArg some (x.2.trans (congrArg (fun q => Value.str q x.1.2) (eq_of_beq e))))⟩
noncomputable def dflR (v : Value) : Option (PSigma fun ds : List V => (v = .none ∧ ds = []) ∨ ∃ t ot items n, v = .ref t ∧ G t ot ∧ ot.data = .seq items n ∧ erL items = ds) :=
  if h : v = .none then some ⟨[], .inl ⟨h, rfl⟩⟩ else (vRef v).bind fun t => of (objAt P t.1) fun o h => (dSeq o.data).map fun x => ⟨erL x.1.1, .inr ⟨t.1, o, x.1.1, x.1.2, t.2, hG _ _ h, x.2, rfl⟩⟩
noncomputable def chkF (a : Addr) (f : Fn) (fd : FuncData) : Bool := fd.globals == mainGlobals && (fd.closure.isEmpty && (fd.builtins == builtinsNs && (fnOk fd.scope fd.params && (f.pars == fd.params.args.length &&
    (Nat.ble (fnCx [] fd.scope).next f.size && (Nat.ble f.dfl.length f.pars && keepIn (KfP P) (.ref a)))))))
noncomputable def fnE (a : Addr) (f : Fn) : Option (List S × List V × Bool) := of (objAt P a) fun o _ => (dFn o.data).bind fun fd => (bSts fd.1.body).bind fun ss => (trBody (fnCx (globP P) fd.1.scope) ss.1).bind fun b => (dflR P G hG fd.1.defaults).bind fun d => (codeR P G hG fd.1.code fd.1.qualname).map fun _ => (b, d.1, chkF P a f fd.1)
end
theorem of_some {α β : Type} {o : Option α} {f : ∀ a, o = some a → Option β} {b : β} (h : of o f = some b) : ∃ a h', f a h' = some b := by
  cases o with
  | none => cases h
  | some a => exact ⟨a, rfl, h⟩
theorem zkC (P : Params) : pg.cls.all (fun x => chkC (KfP P) x.1 x.2) = true := by kernel_rfl!
theorem zkF (P : Params) (G : Addr → Obj → Prop) (hG : ∀ a o, objAt P a = some o → G a o) : pg.fns.map (fun x => fnE P G hG x.1 x.2) = pg.fns.map (fun x => some (x.2.body, x.2.dfl, true)) := by kernel_rfl!
theorem zkG (P : Params) : (ownL P).all (fun p => decide ((hp P).nsMap mainGlobals p.1 = some p.2)) = true := by kernel_rfl!
theorem zkB (P : Params) : biL.all (fun p => decide ((hp P).nsMap mainGlobals p.1 = none ∧ (hp P).nsMap builtinsNs p.1 = some p.2)) = true := by kernel_rfl!
theorem zkN (P : Params) : ((hp P).isNs mainGlobals && ((hp P).isNs builtinsNs && ((hp P).noLimitOk && (((hp P).get? sysModules).isSome && (decide (specialIn (KfP P) (.builtin "object.__class__") "__get__" = some (some (.builtin "getset_descriptor.__get__"))) &&
    decide (takesIn (KfP P) (.builtin "object.__class__") = some true)))))) = true := by kernel_rfl!
theorem mem_map {α β : Type} {F G : α → β} {l : List α} (e : l.map F = l.map G) {x : α} (h : x ∈ l) : F x = G x := List.map_inj_left.mp e x h
theorem zkX (P : Params) : (KfP P).In (hp P) := fun a o h => by
  obtain ⟨b, _, e⟩ := List.mem_filterMap.mp (lookup_memR h)
  obtain ⟨o', h, e⟩ := Option.map_eq_some_iff.mp e
  cases e
  exact objAt_get h
section
variable {w : World} {h : Heap} {os : OsState} (K : ∀ b o, (hp w.params).get? b = some o → h.get? b = some o)
include K
theorem st_fn {a : Addr} {f : Fn} (m : (a, f) ∈ pg.fns) : FnAt (Zw w h os) a f := by
  have e := mem_map (zkF w.params (fun a o => h.get? a = some o) fun a o e => K _ _ (objAt_get e)) m
  obtain ⟨o, ho, e⟩ := of_some e
  obtain ⟨fd, _, e⟩ := Option.bind_eq_some_iff.mp e
  obtain ⟨ss, _, e⟩ := Option.bind_eq_some_iff.mp e
  obtain ⟨b, hb, e⟩ := Option.bind_eq_some_iff.mp e
  obtain ⟨d, _, e⟩ := Option.bind_eq_some_iff.mp e
  obtain ⟨c, _, e⟩ := Option.map_eq_some_iff.mp e
  have e1 := congrArg Prod.fst e
  have e2 := congrArg (fun x => x.2.1) e
  have e3 : chkF w.params a f fd.1 = true := congrArg (fun x => x.2.2) e
  dsimp only at e1 e2
  subst e1
  have d2 := d.2
  rw [e2] at d2
  exact ⟨⟨o, fd.1, ss.1, K _ _ (objAt_get ho), fd.2, ss.2, eq_of_beq (al e3), List.isEmpty_iff.mp (al (ar e3)), eq_of_beq (al (ar (ar e3))), c.down, al (ar (ar (ar e3))), trBody_ok hb, eq_of_beq (al (ar (ar (ar (ar e3))))), Nat.le_of_ble_eq_true (al (ar (ar (ar (ar (ar e3)))))), d2, Nat.le_of_ble_eq_true (al (ar (ar (ar (ar (ar (ar e3))))))) ⟩, ar (ar (ar (ar (ar (ar (ar e3))))))⟩
omit K in
theorem st_cl {c : Addr} {k : Cls} (m : (c, k) ∈ pg.cls) : ClsAt (Zw w h os) c k ∧ ∀ x ∈ pg.cls, kitOne (KfP w.params) (.ref x.1) (.ref c) = some (x.1 == c) :=
  have e : chkC (KfP w.params) c k = true := List.all_eq_true.mp (zkC w.params) _ m
  have e2 := ar e
  have e3 := ar e2
  have e4 := ar e3
  have e5 := ar e4
  have e6 := ar e5
  have e7 := ar e6
  have e8 := ar e7
  have e9 := ar e8
  have e10 := ar e9
  have e11 := ar e10
  have e12 := ar e11
  have e13 := ar e12
  ⟨⟨al e, of_decide_eq_true (al e2), of_decide_eq_true (al e3), al e4, al e5, of_decide_eq_true (al e6), al e7, fun _ _ q => of_decide_eq_true (List.all_eq_true.mp (al e8) _ (lookup_memR q)),
    fun n q q' => of_decide_eq_true ((Bool.or_eq_true_iff.mp (List.all_eq_true.mp (al e9) n q)).resolve_left fun z => Bool.noConfusion (z.symm.trans q')), al e10, al e11, of_decide_eq_true (al e12), of_decide_eq_true (al e13)⟩,
    fun x hx => of_decide_eq_true (List.all_eq_true.mp (ar e13) x hx)⟩
theorem static_ : Static (Zw w h os) := by
  have e := zkN w.params
  obtain ⟨o4, n4⟩ := Option.isSome_iff_exists.mp (al (ar (ar (ar e))))
  refine ⟨fun a o e => K _ _ (zkX _ a o e), (Heap.NoLimit.of_ok (al (ar (ar e)))).keeps K, ⟨_, _, (Heap.Ns.of_isNs (al e)).keeps K, (Heap.Ns.of_isNs (al (ar e))).keeps K, fun x v h => ?_⟩, fun a f h => st_fn K (lookup_memR h), fun c k h => (st_cl (lookup_memR h)).1,
    Heap.lt_size (K _ _ n4), Option.isSome_iff_exists.mpr ⟨_, K _ _ n4⟩, of_decide_eq_true (al (ar (ar (ar (ar e))))), of_decide_eq_true (ar (ar (ar (ar (ar e))))), fun c c' k k' h h' => (st_cl (w := w) (h := default) (os := os) (lookup_memR h)).2 _ (lookup_memR h')⟩
  obtain ⟨y, hy, e⟩ := List.mem_map.mp (lookup_memR h)
  cases e
  exact ⟨y.2, rfl, (List.mem_append.mp hy).imp (fun hy => of_decide_eq_true (List.all_eq_true.mp (zkG w.params) _ hy)) fun hy => of_decide_eq_true (List.all_eq_true.mp (zkB w.params) _ hy)⟩
end
end Mine
end
section
set_option maxHeartbeats 0
open PySem PySem.W PyProof.Rows
namespace Mine
-- Hn
theorem lawAt (P : Params) : ((hp P).isNs mainGlobals && decide ((hp P).nsMap mainGlobals lawD.name = some (.ref 1029))) = true := by kernel_rfl!
theorem k190 (P : Params) : objAt P 190 = some (ob "tuple" (.seq ⟨[.str (Str.ofString "zwj") 457, .str (Str.ofString "zwnj") 458, .str (Str.ofString "hidden") 459]⟩)) := by kernel_rfl!
theorem k189 (P : Params) : objAt P 189 = some (ob "tuple" (.seq ⟨[.str (Str.ofString "zwj") 454, .str (Str.ofString "hidden") 455]⟩)) := by kernel_rfl!
theorem erL_ints {vs : List Value} {ns : List Int} (h : IntsAre vs ns) : vs.map er = ns.map .int := by
  induction h with
  | nil => rfl
  | cons n t h ih => exact congrArg (.int n :: ·) ih
theorem ns_one {h : Heap} {a : Addr} {m m' : Str → Option Value} (x : h.Ns a m) (y : h.Ns a m') (n : Str) : m n = m' n := by
  obtain ⟨o, es, ep, e, d, _, f⟩ := x
  obtain ⟨o', es', ep', e', d', _, f'⟩ := y
  rw [e] at e'; cases e'
  rw [d] at d'; cases d'
  rw [← f, ← f']
noncomputable def sig (sc : Addr) (ns : List Int) : Sg := fun b => if b = sc then some (.scr (ns.map .int)) else if b = 190 then some (.tup [.str (Str.ofString "zwj"), .str (Str.ofString "zwnj"), .str (Str.ofString "hidden")]) else if b = 189 then some (.tup [.str (Str.ofString "zwj"), .str (Str.ofString "hidden")]) else none
theorem sig_of {sc b : Addr} {ns : List Int} {c : C} (h : sig sc ns b = some c) : c.ro = true ∧ (b = sc ∧ c = .scr (ns.map .int) ∨ b = 190 ∧ c = .tup [.str (Str.ofString "zwj"), .str (Str.ofString "zwnj"), .str (Str.ofString "hidden")] ∨ b = 189 ∧ c = .tup [.str (Str.ofString "zwj"), .str (Str.ofString "hidden")]) := by
  unfold sig at h
  split at h
  · cases h; exact ⟨rfl, .inl ⟨by assumption, rfl⟩⟩
  split at h
  · cases h; exact ⟨rfl, .inr (.inl ⟨by assumption, rfl⟩)⟩
  split at h
  · cases h; exact ⟨rfl, .inr (.inr ⟨by assumption, rfl⟩)⟩
  · cases h
theorem law_call (hc : ∀ {σ : Sg} {Q : Po} {n : Nat} {sc : Addr} {is : List Int}, σ sc = some (.scr (is.map .int)) → is.length ≤ 1000 → σ 190 = some (.tup [.str (Str.ofString "zwj"), .str (Str.ofString "zwnj"), .str (Str.ofString "hidden")]) → σ 189 = some (.tup [.str (Str.ofString "zwj"), .str (Str.ofString "hidden")]) →
    (∀ σ', Q (.bool true) σ') → callSem (n + 17) 1029 [.ref sc] σ Q) {w : World} {s₁ : Shared} {sc : Addr} {vs : List Value} {ns : List Int} (Y : ∀ b o, (hp w.params).get? b = some o → s₁.heap.get? b = some o) (hg : s₁.gens = #[])
    (hL : s₁.heap.IsList sc vs.toArray) (hI : IntsAre vs ns) (hl : ns.length ≤ 1000) :
    wpAny (model PySem.Challenge.pw_nu0205_01 w) callerA (PySem.call (.ref 1029) [.ref sc]) (fun v s' => v = .bool true ∧ (∀ b o, s₁.heap.get? b = some o → s'.heap.get? b = some o) ∧ s'.os = s₁.os ∧ s'.gens = #[]) NE s₁ := by
  have o190 := Y _ _ (objAt_get (k190 w.params))
  have o189 := Y _ _ (objAt_get (k189 w.params))
  obtain ⟨o, ho, hcls, n, hd⟩ := hL
  have n1 : ¬ (190 : Nat) = sc := by rintro rfl; rw [o190] at ho; cases ho; exact absurd (Value.type.inj hcls) (by decide)
  have n2 : ¬ (189 : Nat) = sc := by rintro rfl; rw [o189] at ho; cases ho; exact absurd (Value.type.inj hcls) (by decide)
  have R : Rel (Zw w s₁.heap s₁.os) (sig sc ns) s₁ := by
    refine ⟨fun a c h => ?_, fun _ _ e => e, fun a c h k => (by rw [(sig_of h).1] at k; cases k), fun a c d h => ?_, fun a n es h => ?_, hg, rfl⟩
    · rcases (sig_of h).2 with ⟨rfl, rfl⟩ | ⟨rfl, rfl⟩ | ⟨rfl, rfl⟩
      · exact ⟨o, ho, vs.toArray, ⟨hcls, n, hd⟩, erL_ints hI⟩
      · exact ⟨_, o190, _, _, rfl, rfl⟩
      · exact ⟨_, o189, _, _, rfl, rfl⟩
    · rcases (sig_of h).2 with ⟨_, e⟩ | ⟨_, e⟩ | ⟨_, e⟩ <;> cases e
    · rcases (sig_of h).2 with ⟨_, e⟩ | ⟨_, e⟩ | ⟨_, e⟩ <;> cases e
  refine wpAny_mono (wpAny_call (call_ok (static_ Y) 17 callerA (sig sc ns) s₁ (fun v _ => v = .bool true) 1029 [.ref sc] R ⟨rfl, by decide, by decide⟩ (hc (n := 0) (if_pos rfl) hl ((if_neg n1).trans (if_pos rfl)) ((if_neg n2).trans ((if_neg (by decide)).trans (if_pos rfl))) fun _ => rfl)).2) (fun v s' ⟨σ', R', _, q⟩ => ⟨?_, R'.keep, R'.os, R'.gens⟩) fun _ _ e => e
  cases v <;> cases q
  rfl
theorem final (hc : ∀ {σ : Sg} {Q : Po} {n : Nat} {sc : Addr} {is : List Int}, σ sc = some (.scr (is.map .int)) → is.length ≤ 1000 → σ 190 = some (.tup [.str (Str.ofString "zwj"), .str (Str.ofString "zwnj"), .str (Str.ofString "hidden")]) → σ 189 = some (.tup [.str (Str.ofString "zwj"), .str (Str.ofString "hidden")]) →
    (∀ σ', Q (.bool true) σ') → callSem (n + 17) 1029 [.ref sc] σ Q) : PySem.Challenge.rw_nu0205_01.Holds := by
  refine holds_law ws fun said => ?_
  refine holds_open (q := qv) (loose := looseL) (Xt := fun _ => true) (XP := fun _ _ => True) (Yf := fun s => s.heap) (Ya := fun w => hp w.params) (YP := fun w h => ∀ b o, (hp w.params).get? b = some o → h.get? b = some o) (d := lawD) (kwd := []) (N := 20000)
    leftL (fun w s e b o h => by rw [e]; exact h) (fun w h h' y k b o e => k _ _ (y _ _ e)) (fun _ _ => trivial) (fun _ _ _ _ _ => trivial) hdefL theL rfl (fun s _ => recFacts_nil rfl) rfl said okL ⟨rfl, rfl, rfl, rfl, rfl, by decide +kernel⟩ ⟨[.list []], by decide +kernel, by decide +kernel⟩ ?_
  intro w s₀ s₁ mg mb G Y a o pm cd doc dV kV ho hd hcd hD hmg hg args vals as hpre hlay hrd hwl hlo
  wrow_args hpre hlay hrd hwl hlo
  rename_i ns hs h1 h2 h3 h4 a4 a3 sc vs a1 hL ra w1 r0 hI hr hcond hT
  have hN := lawAt w.params
  rw [Bool.and_eq_true, decide_eq_true_eq] at hN
  have e := ns_one G.T.g ((Heap.Ns.of_isNs hN.1).keeps Y) lawD.name
  rw [hmg, hN.2] at e
  cases e
  have hl : ns.length ≤ 1000 := by omega
  refine wpAny_mono (law_call hc Y hg hL hI hl) (fun v s' ⟨e, k, o, g⟩ => ?_) fun _ _ e => e.elim
  subst e
  exact ⟨.inl ⟨_, .bool true, [], rfl, fun _ => rfl, .bool _, (by kernel_rfl!), fun _ => ⟨.nil, fun _ h => nomatch h⟩⟩, .of_keep k, o, .of_eq g⟩
end Mine
end
theorem PySem.Challenge.cw_nu0205_01_holds : PySem.Challenge.rw_nu0205_01.Holds :=
  Mine.final Mine.c_law
