import PyProof.Rows.All
import Wide.All
import OpenK.AllK
import Wide.FinOn
import PySem.Challenge.RW_pb0250_01
open PySem PySem.W PyProof.Rows
set_option Elab.async false
namespace Mine
section
set_option maxRecDepth 100000



theorem any_list (x : Str) (p : Nat → Bool) : x.cps.any p = x.cps.toList.any p := by
  rw [Array.any_toList]
theorem nrl_all (lk : Look) : ∀ l : List Stmt, noRoadLSs lk l = l.all (noRoadLS lk)
  | [] => by rw [noRoadLSs]; rfl
  | s :: r => by rw [noRoadLSs, nrl_all lk r, List.all_cons]
theorem nrl_cut (lk : Look) (n : Nat) (l : List Stmt) (h1 : noRoadLSs lk (l.take n) = true) (h2 : noRoadLSs lk ((l.drop n).take 1) = true) (h3 : noRoadLSs lk (l.drop (n + 1)) = true) : noRoadLSs lk l = true := by
  rw [nrl_all] at h1 h2 h3 ⊢
  have e : l = l.take n ++ ((l.drop n).take 1 ++ l.drop (n + 1)) := by
    have := List.take_append_drop n l
    have h4 := List.take_append_drop 1 (l.drop n)
    rw [List.drop_drop] at h4
    rw [h4, this]
  rw [e, List.all_append, List.all_append, h1, h2, h3]; rfl
def theLook : Look := { strict := !(importedModules PySem.Challenge.pw_pb0250_01.main.body).all cThrough.contains, foot := none, bare := (["vars", "dir", "locals"] : List Str).filter (readsOut PySem.Challenge.pw_pb0250_01 PySem.Challenge.pw_pb0250_01.main.body) }
def resv : Str := match PySem.Challenge.pw_pb0250_01.main.body.drop 8 with
  | .Assign _ (.Constant (.str x) _ _) _ :: _ => x
  | _ => Str.empty
theorem str_ok (lk : Look) (x : Str) (hw : lk.word x = true) (h1 : x.cps.toList.any (fun c => c == 123 || c == 125) = false) (h2 : x.cps.toList.any (· == 46) = false) : lk.str x = true := by
  unfold Look.str
  have hr : roadStr x = false := by
    unfold roadStr
    rw [any_list, any_list, h1, h2]; rfl
  rw [hw, hr]; simp
set_option maxHeartbeats 4000000 in
theorem res1 : resv.cps.toList.any (fun c => c == 123 || c == 125) = false := by
  have h : (!resv.cps.toList.any (fun c => c == 123 || c == 125)) = true := by k_qdec
  simpa using h
set_option maxHeartbeats 4000000 in
theorem res2 : resv.cps.toList.any (· == 46) = false := by
  have h : (!resv.cps.toList.any (· == 46)) = true := by k_qdec
  simpa using h
set_option maxHeartbeats 4000000 in
theorem res3 : (theLook).word resv = true := by k_qdec



set_option maxHeartbeats 4000000
theorem a1 : noRoadLSs theLook (PySem.Challenge.pw_pb0250_01.main.body.take 8) = true := by k_qdec
theorem a2 : noRoadLSs theLook (PySem.Challenge.pw_pb0250_01.main.body.drop 9) = true := by k_qdec
theorem a3 : noRoadLSs theLook [] = true := by k_qdec


set_option maxHeartbeats 4000000
theorem one_stmt (lk : Look) (l : List Stmt) (t : Expr) (x : Str) (k p q) (h : l.take 1 = [Stmt.Assign [t] (Expr.Constant (Const.str x) k p) q])
   (h1 : lk.stores [t] = true) (h2 : noRoadL lk t = true) (h3 : lk.str x = true) : noRoadLSs lk (l.take 1) = true := by
  rw [h, nrl_all, List.all_cons, List.all_nil, Bool.and_true, noRoadLS, noRoadLs, noRoadLs, noRoadL, h1, h2, h3]; rfl
theorem a4 : ((PySem.Challenge.pw_pb0250_01.main.body.drop 8).take 1) = [Stmt.Assign [Expr.Name "RESERVED" ⟨37, 0, 37, 8⟩] (Expr.Constant (Const.str resv) 0 ⟨37, 11, 37, 1873⟩) ⟨37, 0, 37, 1873⟩] := by
  kernel_rfl
theorem a5 : theLook.stores [Expr.Name "RESERVED" ⟨37, 0, 37, 8⟩] = true := by k_qdec
theorem a6 : noRoadL theLook (Expr.Name "RESERVED" ⟨37, 0, 37, 8⟩) = true := by k_qdec
theorem said_nrl : noRoadLSs theLook PySem.Challenge.pw_pb0250_01.main.body = true :=
  nrl_cut _ 8 _ a1 (one_stmt _ _ _ _ _ _ _ a4 a5 a6 (str_ok _ _ res3 res1 res2)) a2


set_option maxHeartbeats 8000000
theorem said_open : looksOpen PySem.Challenge.pw_pb0250_01 = true := by
  unfold looksOpen
  refine look_both (look_both (look_both (look_both (look_both ?_ ?_) ?_) ?_) ?_) ?_
  · k_qdec
  · k_qdec
  · k_qdec
  · k_qdec
  · exact said_nrl
  · k_qdec


set_option maxHeartbeats 8000000
theorem said_row : PySem.Challenge.rw_pb0250_01.row.wellSaid = true := by
  unfold OpenRow.wellSaid
  refine look_both (look_both ?_ ?_) ?_
  · unfold OpenRow.partSaid
    repeat' (with_reducible refine look_both ?_ ?_)
    all_goals first | ((with_reducible show looksOpen _ = true); exact said_open) | k_qdec | decide +kernel
  · k_qdec
  · k_qdec
theorem said : PySem.Challenge.rw_pb0250_01.wellSaid = true := by
  unfold OpenLaw.wellSaid
  repeat' (with_reducible refine look_both ?_ ?_)
  all_goals first | ((with_reducible show OpenRow.wellSaid _ = true); exact said_row) | k_qdec | decide +kernel
end
end Mine
open PySem PySem.W PySem.W.X PyProof.Rows PySem.Calls
namespace Mine
section
set_option maxRecDepth 100000

noncomputable def hd.stAt (l : List Stmt) (i : Nat) : Stmt := match l.drop i with
  | s :: _ => s
  | [] => .Pass ⟨0, 0, 0, 0⟩
noncomputable def hd.inCls (s : Stmt) : List Stmt := match s with
  | .ClassDef _ _ _ b _ _ _ _ _ _ _ => b
  | _ => []
noncomputable def hd.fPar (s : Stmt) : Arguments := match s with
  | .FunctionDef _ a _ _ _ _ _ _ _ _ => a
  | _ => default
noncomputable def hd.fBod (s : Stmt) : List Stmt := match s with
  | .FunctionDef _ _ b _ _ _ _ _ _ _ => b
  | _ => []
noncomputable def hd.fSco (s : Stmt) : Scope := match s with
  | .FunctionDef _ _ _ _ _ _ c _ _ _ => c
  | _ => default
noncomputable def hd.cStr (s : Stmt) : Str := match s with
  | .Assign _ (.Constant (.str x) _ _) _ => x
  | _ => default
noncomputable def hd.twB : List Stmt := PySem.W.Fast.tw15991733385749931625.main.body
noncomputable def hd.viewOf (p : Program) : Program := { p with main := { p.main with body := [hd.stAt p.main.body 0, hd.stAt p.main.body 2, hd.stAt p.main.body 3, hd.stAt p.main.body 5, hd.stAt p.main.body 6, hd.stAt p.main.body 8, hd.stAt p.main.body 9, hd.stAt p.main.body 10, hd.stAt p.main.body 12, hd.stAt p.main.body 14, hd.stAt p.main.body 15, hd.stAt p.main.body 16] } }
noncomputable def hd.view : Program := hd.viewOf PySem.Challenge.pw_pb0250_01
noncomputable def hd.envOf (p : Program) : Env := { scope := p.main.scope, locals := mainNs, globals := mainNs, cells := [], code := .ref 13, frame := some 14 }
noncomputable def hd.bodyOf (p : Program) : Code := .body (behindTheImports p) (hd.envOf p)
noncomputable def hd.p0 : Pos := ⟨0, 0, 0, 0⟩
noncomputable def hd.p1 : Pos := ⟨152, 0, 168, 75⟩
noncomputable def hd.z0 : Params → Obj := fun P => ⟨.type PySem.W.SZ.s14018661285674007319x4, (none : Option Nat), .dict (List.toArray (⟨PySem.PyData.keyHash P ⟨⟨[nat_lit 95, nat_lit 95, nat_lit 110, nat_lit 97, nat_lit 109, nat_lit 101, nat_lit 95, nat_lit 95]⟩⟩, .str ⟨⟨[nat_lit 95, nat_lit 95, nat_lit 110, nat_lit 97, nat_lit 109, nat_lit 101, nat_lit 95, nat_lit 95]⟩⟩ (1 : Nat), .str ⟨⟨[nat_lit 98, nat_lit 117, nat_lit 105, nat_lit 108, nat_lit 116, nat_lit 105, nat_lit 110, nat_lit 115]⟩⟩ (160 : Nat)⟩ :: ⟨PySem.PyData.keyHash P ⟨⟨[nat_lit 95, nat_lit 95, nat_lit 100, nat_lit 111, nat_lit 99, nat_lit 95, nat_lit 95]⟩⟩, .str ⟨⟨[nat_lit 95, nat_lit 95, nat_lit 100, nat_lit 111, nat_lit 99, nat_lit 95, nat_lit 95]⟩⟩ (2 : Nat), .builtin "builtins.__doc__:str#opaque"⟩ :: ⟨PySem.PyData.keyHash P ⟨⟨[nat_lit 95, nat_lit 95, nat_lit 112, nat_lit 97, nat_lit 99, nat_lit 107, nat_lit 97, nat_lit 103, nat_lit 101, nat_lit 95, nat_lit 95]⟩⟩, .str ⟨⟨[nat_lit 95, nat_lit 95, nat_lit 112, nat_lit 97, nat_lit 99, nat_lit 107, nat_lit 97, nat_lit 103, nat_lit 101, nat_lit 95, nat_lit 95]⟩⟩ (3 : Nat), .builtin "builtins.__package__:str#opaque"⟩ :: ⟨PySem.PyData.keyHash P ⟨⟨[nat_lit 95, nat_lit 95, nat_lit 108, nat_lit 111, nat_lit 97, nat_lit 100, nat_lit 101, nat_lit 114, nat_lit 95, nat_lit 95]⟩⟩, .str ⟨⟨[nat_lit 95, nat_lit 95, nat_lit 108, nat_lit 111, nat_lit 97, nat_lit 100, nat_lit 101, nat_lit 114, nat_lit 95, nat_lit 95]⟩⟩ (4 : Nat), .builtin "builtins.__loader__:shared#opaque"⟩ :: ⟨PySem.PyData.keyHash P ⟨⟨[nat_lit 95, nat_lit 95, nat_lit 115, nat_lit 112, nat_lit 101, nat_lit 99, nat_lit 95, nat_lit 95]⟩⟩, .str ⟨⟨[nat_lit 95, nat_lit 95, nat_lit 115, nat_lit 112, nat_lit 101, nat_lit 99, nat_lit 95, nat_lit 95]⟩⟩ (5 : Nat), .builtin PySem.W.SZ.s11665532747177232413x24⟩ :: ⟨PySem.PyData.keyHash P ⟨⟨[nat_lit 95, nat_lit 95, nat_lit 98, nat_lit 117, nat_lit 105, nat_lit 108, nat_lit 100, nat_lit 95, nat_lit 99, nat_lit 108, nat_lit 97, nat_lit 115, nat_lit 115, nat_lit 95, nat_lit 95]⟩⟩, .str ⟨⟨[nat_lit 95, nat_lit 95, nat_lit 98, nat_lit 117, nat_lit 105, nat_lit 108, nat_lit 100, nat_lit 95, nat_lit 99, nat_lit 108, nat_lit 97, nat_lit 115, nat_lit 115, nat_lit 95, nat_lit 95]⟩⟩ (6 : Nat), .builtin PySem.W.SZ.s15183661809925369436x15⟩ :: ⟨PySem.PyData.keyHash P ⟨⟨[nat_lit 95, nat_lit 95, nat_lit 105, nat_lit 109, nat_lit 112, nat_lit 111, nat_lit 114, nat_lit 116, nat_lit 95, nat_lit 95]⟩⟩, .str ⟨⟨[nat_lit 95, nat_lit 95, nat_lit 105, nat_lit 109, nat_lit 112, nat_lit 111, nat_lit 114, nat_lit 116, nat_lit 95, nat_lit 95]⟩⟩ (7 : Nat), .builtin PySem.W.SZ.s13915890719876406383x10⟩ :: ⟨PySem.PyData.keyHash P ⟨⟨[nat_lit 97, nat_lit 98, nat_lit 115]⟩⟩, .str ⟨⟨[nat_lit 97, nat_lit 98, nat_lit 115]⟩⟩ (8 : Nat), .builtin PySem.W.SZ.s13459172003223722735x3⟩ :: ⟨PySem.PyData.keyHash P ⟨⟨[nat_lit 97, nat_lit 108, nat_lit 108]⟩⟩, .str ⟨⟨[nat_lit 97, nat_lit 108, nat_lit 108]⟩⟩ (9 : Nat), .builtin PySem.W.SZ.s10557405761357834076x3⟩ :: ⟨PySem.PyData.keyHash P ⟨⟨[nat_lit 97, nat_lit 110, nat_lit 121]⟩⟩, .str ⟨⟨[nat_lit 97, nat_lit 110, nat_lit 121]⟩⟩ (10 : Nat), .builtin PySem.W.SZ.s4233737765568776869x3⟩ :: ⟨PySem.PyData.keyHash P ⟨⟨[nat_lit 97, nat_lit 115, nat_lit 99, nat_lit 105, nat_lit 105]⟩⟩, .str ⟨⟨[nat_lit 97, nat_lit 115, nat_lit 99, nat_lit 105, nat_lit 105]⟩⟩ (11 : Nat), .builtin PySem.W.SZ.s2508922471967985374x5⟩ :: ⟨PySem.PyData.keyHash P ⟨⟨[nat_lit 98, nat_lit 105, nat_lit 110]⟩⟩, .str ⟨⟨[nat_lit 98, nat_lit 105, nat_lit 110]⟩⟩ (12 : Nat), .builtin PySem.W.SZ.s15574269061696679450x3⟩ :: ⟨PySem.PyData.keyHash P ⟨⟨[nat_lit 98, nat_lit 114, nat_lit 101, nat_lit 97, nat_lit 107, nat_lit 112, nat_lit 111, nat_lit 105, nat_lit 110, nat_lit 116]⟩⟩, .str ⟨⟨[nat_lit 98, nat_lit 114, nat_lit 101, nat_lit 97, nat_lit 107, nat_lit 112, nat_lit 111, nat_lit 105, nat_lit 110, nat_lit 116]⟩⟩ (13 : Nat), .builtin PySem.W.SZ.s6016482663378992977x10⟩ :: ⟨PySem.PyData.keyHash P ⟨⟨[nat_lit 99, nat_lit 97, nat_lit 108, nat_lit 108, nat_lit 97, nat_lit 98, nat_lit 108, nat_lit 101]⟩⟩, .str ⟨⟨[nat_lit 99, nat_lit 97, nat_lit 108, nat_lit 108, nat_lit 97, nat_lit 98, nat_lit 108, nat_lit 101]⟩⟩ (14 : Nat), .builtin PySem.W.SZ.s5596568736180474577x8⟩ :: ⟨PySem.PyData.keyHash P ⟨⟨[nat_lit 99, nat_lit 104, nat_lit 114]⟩⟩, .str ⟨⟨[nat_lit 99, nat_lit 104, nat_lit 114]⟩⟩ (15 : Nat), .builtin PySem.W.SZ.s2839554839881490554x3⟩ :: ⟨PySem.PyData.keyHash P ⟨⟨[nat_lit 99, nat_lit 111, nat_lit 109, nat_lit 112, nat_lit 105, nat_lit 108, nat_lit 101]⟩⟩, .str ⟨⟨[nat_lit 99, nat_lit 111, nat_lit 109, nat_lit 112, nat_lit 105, nat_lit 108, nat_lit 101]⟩⟩ (16 : Nat), .builtin PySem.W.SZ.s725004073602090463x7⟩ :: ⟨PySem.PyData.keyHash P ⟨⟨[nat_lit 100, nat_lit 101, nat_lit 108, nat_lit 97, nat_lit 116, nat_lit 116, nat_lit 114]⟩⟩, .str ⟨⟨[nat_lit 100, nat_lit 101, nat_lit 108, nat_lit 97, nat_lit 116, nat_lit 116, nat_lit 114]⟩⟩ (17 : Nat), .builtin PySem.W.SZ.s9436932552931045734x7⟩ :: ⟨PySem.PyData.keyHash P ⟨⟨[nat_lit 100, nat_lit 105, nat_lit 114]⟩⟩, .str ⟨⟨[nat_lit 100, nat_lit 105, nat_lit 114]⟩⟩ (18 : Nat), .builtin PySem.W.SZ.s2754603736356183583x3⟩ :: ⟨PySem.PyData.keyHash P ⟨⟨[nat_lit 100, nat_lit 105, nat_lit 118, nat_lit 109, nat_lit 111, nat_lit 100]⟩⟩, .str ⟨⟨[nat_lit 100, nat_lit 105, nat_lit 118, nat_lit 109, nat_lit 111, nat_lit 100]⟩⟩ (19 : Nat), .builtin PySem.W.SZ.s15185746759980889043x6⟩ :: ⟨PySem.PyData.keyHash P ⟨⟨[nat_lit 101, nat_lit 118, nat_lit 97, nat_lit 108]⟩⟩, .str ⟨⟨[nat_lit 101, nat_lit 118, nat_lit 97, nat_lit 108]⟩⟩ (20 : Nat), .builtin PySem.W.SZ.s8192189862530294059x4⟩ :: ⟨PySem.PyData.keyHash P ⟨⟨[nat_lit 101, nat_lit 120, nat_lit 101, nat_lit 99]⟩⟩, .str ⟨⟨[nat_lit 101, nat_lit 120, nat_lit 101, nat_lit 99]⟩⟩ (21 : Nat), .builtin PySem.W.SZ.s7038307821325472102x4⟩ :: ⟨PySem.PyData.keyHash P ⟨⟨[nat_lit 102, nat_lit 111, nat_lit 114, nat_lit 109, nat_lit 97, nat_lit 116]⟩⟩, .str ⟨⟨[nat_lit 102, nat_lit 111, nat_lit 114, nat_lit 109, nat_lit 97, nat_lit 116]⟩⟩ (22 : Nat), .builtin PySem.W.SZ.s5662562618415449548x6⟩ :: ⟨PySem.PyData.keyHash P ⟨⟨[nat_lit 103, nat_lit 101, nat_lit 116, nat_lit 97, nat_lit 116, nat_lit 116, nat_lit 114]⟩⟩, .str ⟨⟨[nat_lit 103, nat_lit 101, nat_lit 116, nat_lit 97, nat_lit 116, nat_lit 116, nat_lit 114]⟩⟩ (23 : Nat), .builtin PySem.W.SZ.s15281542589158584767x7⟩ :: ⟨PySem.PyData.keyHash P ⟨⟨[nat_lit 103, nat_lit 108, nat_lit 111, nat_lit 98, nat_lit 97, nat_lit 108, nat_lit 115]⟩⟩, .str ⟨⟨[nat_lit 103, nat_lit 108, nat_lit 111, nat_lit 98, nat_lit 97, nat_lit 108, nat_lit 115]⟩⟩ (24 : Nat), .builtin PySem.W.SZ.s17651547275483570877x7⟩ :: ⟨PySem.PyData.keyHash P ⟨⟨[nat_lit 104, nat_lit 97, nat_lit 115, nat_lit 97, nat_lit 116, nat_lit 116, nat_lit 114]⟩⟩, .str ⟨⟨[nat_lit 104, nat_lit 97, nat_lit 115, nat_lit 97, nat_lit 116, nat_lit 116, nat_lit 114]⟩⟩ (25 : Nat), .builtin PySem.W.SZ.s4036449017235975746x7⟩ :: ⟨PySem.PyData.keyHash P ⟨⟨[nat_lit 104, nat_lit 97, nat_lit 115, nat_lit 104]⟩⟩, .str ⟨⟨[nat_lit 104, nat_lit 97, nat_lit 115, nat_lit 104]⟩⟩ (26 : Nat), .builtin PySem.W.SZ.s8879979712987360175x4⟩ :: ⟨PySem.PyData.keyHash P ⟨⟨[nat_lit 104, nat_lit 101, nat_lit 120]⟩⟩, .str ⟨⟨[nat_lit 104, nat_lit 101, nat_lit 120]⟩⟩ (27 : Nat), .builtin PySem.W.SZ.s1801250619170735830x3⟩ :: ⟨PySem.PyData.keyHash P ⟨⟨[nat_lit 105, nat_lit 100]⟩⟩, .str ⟨⟨[nat_lit 105, nat_lit 100]⟩⟩ (28 : Nat), .builtin PySem.W.SZ.s17659931425627118568x2⟩ :: ⟨PySem.PyData.keyHash P ⟨⟨[nat_lit 105, nat_lit 110, nat_lit 112, nat_lit 117, nat_lit 116]⟩⟩, .str ⟨⟨[nat_lit 105, nat_lit 110, nat_lit 112, nat_lit 117, nat_lit 116]⟩⟩ (29 : Nat), .builtin PySem.W.SZ.s6063217899685152688x5⟩ :: ⟨PySem.PyData.keyHash P ⟨⟨[nat_lit 105, nat_lit 115, nat_lit 105, nat_lit 110, nat_lit 115, nat_lit 116, nat_lit 97, nat_lit 110, nat_lit 99, nat_lit 101]⟩⟩, .str ⟨⟨[nat_lit 105, nat_lit 115, nat_lit 105, nat_lit 110, nat_lit 115, nat_lit 116, nat_lit 97, nat_lit 110, nat_lit 99, nat_lit 101]⟩⟩ (30 : Nat), .builtin PySem.W.SZ.s8008927332132565319x10⟩ :: ⟨PySem.PyData.keyHash P ⟨⟨[nat_lit 105, nat_lit 115, nat_lit 115, nat_lit 117, nat_lit 98, nat_lit 99, nat_lit 108, nat_lit 97, nat_lit 115, nat_lit 115]⟩⟩, .str ⟨⟨[nat_lit 105, nat_lit 115, nat_lit 115, nat_lit 117, nat_lit 98, nat_lit 99, nat_lit 108, nat_lit 97, nat_lit 115, nat_lit 115]⟩⟩ (31 : Nat), .builtin PySem.W.SZ.s3544116645089599534x10⟩ :: ⟨PySem.PyData.keyHash P ⟨⟨[nat_lit 105, nat_lit 116, nat_lit 101, nat_lit 114]⟩⟩, .str ⟨⟨[nat_lit 105, nat_lit 116, nat_lit 101, nat_lit 114]⟩⟩ (32 : Nat), .builtin PySem.W.SZ.s13761710972054866084x4⟩ :: ⟨PySem.PyData.keyHash P ⟨⟨[nat_lit 97, nat_lit 105, nat_lit 116, nat_lit 101, nat_lit 114]⟩⟩, .str ⟨⟨[nat_lit 97, nat_lit 105, nat_lit 116, nat_lit 101, nat_lit 114]⟩⟩ (33 : Nat), .builtin PySem.W.SZ.s12896375587409280029x5⟩ :: ⟨PySem.PyData.keyHash P ⟨⟨[nat_lit 108, nat_lit 101, nat_lit 110]⟩⟩, .str ⟨⟨[nat_lit 108, nat_lit 101, nat_lit 110]⟩⟩ (34 : Nat), .builtin PySem.W.SZ.s13014049009108672802x3⟩ :: ⟨PySem.PyData.keyHash P ⟨⟨[nat_lit 108, nat_lit 111, nat_lit 99, nat_lit 97, nat_lit 108, nat_lit 115]⟩⟩, .str ⟨⟨[nat_lit 108, nat_lit 111, nat_lit 99, nat_lit 97, nat_lit 108, nat_lit 115]⟩⟩ (35 : Nat), .builtin PySem.W.SZ.s13935586738268321596x6⟩ :: ⟨PySem.PyData.keyHash P ⟨⟨[nat_lit 109, nat_lit 97, nat_lit 120]⟩⟩, .str ⟨⟨[nat_lit 109, nat_lit 97, nat_lit 120]⟩⟩ (36 : Nat), .builtin PySem.W.SZ.s8200498257699607233x3⟩ :: ⟨PySem.PyData.keyHash P ⟨⟨[nat_lit 109, nat_lit 105, nat_lit 110]⟩⟩, .str ⟨⟨[nat_lit 109, nat_lit 105, nat_lit 110]⟩⟩ (37 : Nat), .builtin PySem.W.SZ.s14114244577727609259x3⟩ :: ⟨PySem.PyData.keyHash P ⟨⟨[nat_lit 110, nat_lit 101, nat_lit 120, nat_lit 116]⟩⟩, .str ⟨⟨[nat_lit 110, nat_lit 101, nat_lit 120, nat_lit 116]⟩⟩ (38 : Nat), .builtin PySem.W.SZ.s1499430450269397089x4⟩ :: ⟨PySem.PyData.keyHash P ⟨⟨[nat_lit 97, nat_lit 110, nat_lit 101, nat_lit 120, nat_lit 116]⟩⟩, .str ⟨⟨[nat_lit 97, nat_lit 110, nat_lit 101, nat_lit 120, nat_lit 116]⟩⟩ (39 : Nat), .builtin PySem.W.SZ.s8755793994789770505x5⟩ :: ⟨PySem.PyData.keyHash P ⟨⟨[nat_lit 111, nat_lit 99, nat_lit 116]⟩⟩, .str ⟨⟨[nat_lit 111, nat_lit 99, nat_lit 116]⟩⟩ (40 : Nat), .builtin PySem.W.SZ.s15725212667919936108x3⟩ :: ⟨PySem.PyData.keyHash P ⟨⟨[nat_lit 111, nat_lit 114, nat_lit 100]⟩⟩, .str ⟨⟨[nat_lit 111, nat_lit 114, nat_lit 100]⟩⟩ (41 : Nat), .builtin PySem.W.SZ.s15791221867095933363x3⟩ :: ⟨PySem.PyData.keyHash P ⟨⟨[nat_lit 112, nat_lit 111, nat_lit 119]⟩⟩, .str ⟨⟨[nat_lit 112, nat_lit 111, nat_lit 119]⟩⟩ (42 : Nat), .builtin PySem.W.SZ.s81309575031448614x3⟩ :: ⟨PySem.PyData.keyHash P ⟨⟨[nat_lit 112, nat_lit 114, nat_lit 105, nat_lit 110, nat_lit 116]⟩⟩, .str ⟨⟨[nat_lit 112, nat_lit 114, nat_lit 105, nat_lit 110, nat_lit 116]⟩⟩ (43 : Nat), .builtin PySem.W.SZ.s8069831620301644142x5⟩ :: ⟨PySem.PyData.keyHash P ⟨⟨[nat_lit 114, nat_lit 101, nat_lit 112, nat_lit 114]⟩⟩, .str ⟨⟨[nat_lit 114, nat_lit 101, nat_lit 112, nat_lit 114]⟩⟩ (44 : Nat), .builtin PySem.W.SZ.s10061844253413749634x4⟩ :: ⟨PySem.PyData.keyHash P ⟨⟨[nat_lit 114, nat_lit 111, nat_lit 117, nat_lit 110, nat_lit 100]⟩⟩, .str ⟨⟨[nat_lit 114, nat_lit 111, nat_lit 117, nat_lit 110, nat_lit 100]⟩⟩ (45 : Nat), .builtin PySem.W.SZ.s9496514870978017513x5⟩ :: ⟨PySem.PyData.keyHash P ⟨⟨[nat_lit 115, nat_lit 101, nat_lit 116, nat_lit 97, nat_lit 116, nat_lit 116, nat_lit 114]⟩⟩, .str ⟨⟨[nat_lit 115, nat_lit 101, nat_lit 116, nat_lit 97, nat_lit 116, nat_lit 116, nat_lit 114]⟩⟩ (46 : Nat), .builtin PySem.W.SZ.s8899691144933366716x7⟩ :: ⟨PySem.PyData.keyHash P ⟨⟨[nat_lit 115, nat_lit 111, nat_lit 114, nat_lit 116, nat_lit 101, nat_lit 100]⟩⟩, .str ⟨⟨[nat_lit 115, nat_lit 111, nat_lit 114, nat_lit 116, nat_lit 101, nat_lit 100]⟩⟩ (47 : Nat), .builtin PySem.W.SZ.s15201008993051130160x6⟩ :: ⟨PySem.PyData.keyHash P ⟨⟨[nat_lit 115, nat_lit 117, nat_lit 109]⟩⟩, .str ⟨⟨[nat_lit 115, nat_lit 117, nat_lit 109]⟩⟩ (48 : Nat), .builtin PySem.W.SZ.s741896355592496720x3⟩ :: ⟨PySem.PyData.keyHash P ⟨⟨[nat_lit 118, nat_lit 97, nat_lit 114, nat_lit 115]⟩⟩, .str ⟨⟨[nat_lit 118, nat_lit 97, nat_lit 114, nat_lit 115]⟩⟩ (49 : Nat), .builtin PySem.W.SZ.s17925004256654032244x4⟩ :: ⟨PySem.PyData.keyHash P ⟨⟨[nat_lit 78, nat_lit 111, nat_lit 110, nat_lit 101]⟩⟩, .str ⟨⟨[nat_lit 78, nat_lit 111, nat_lit 110, nat_lit 101]⟩⟩ (50 : Nat), .none⟩ :: ⟨PySem.PyData.keyHash P ⟨⟨[nat_lit 69, nat_lit 108, nat_lit 108, nat_lit 105, nat_lit 112, nat_lit 115, nat_lit 105, nat_lit 115]⟩⟩, .str ⟨⟨[nat_lit 69, nat_lit 108, nat_lit 108, nat_lit 105, nat_lit 112, nat_lit 115, nat_lit 105, nat_lit 115]⟩⟩ (51 : Nat), .ellipsis⟩ :: ⟨PySem.PyData.keyHash P ⟨⟨[nat_lit 78, nat_lit 111, nat_lit 116, nat_lit 73, nat_lit 109, nat_lit 112, nat_lit 108, nat_lit 101, nat_lit 109, nat_lit 101, nat_lit 110, nat_lit 116, nat_lit 101, nat_lit 100]⟩⟩, .str ⟨⟨[nat_lit 78, nat_lit 111, nat_lit 116, nat_lit 73, nat_lit 109, nat_lit 112, nat_lit 108, nat_lit 101, nat_lit 109, nat_lit 101, nat_lit 110, nat_lit 116, nat_lit 101, nat_lit 100]⟩⟩ (52 : Nat), .notImplemented⟩ :: ⟨PySem.PyData.keyHash P ⟨⟨[nat_lit 70, nat_lit 97, nat_lit 108, nat_lit 115, nat_lit 101]⟩⟩, .str ⟨⟨[nat_lit 70, nat_lit 97, nat_lit 108, nat_lit 115, nat_lit 101]⟩⟩ (53 : Nat), .bool false⟩ :: ⟨PySem.PyData.keyHash P ⟨⟨[nat_lit 84, nat_lit 114, nat_lit 117, nat_lit 101]⟩⟩, .str ⟨⟨[nat_lit 84, nat_lit 114, nat_lit 117, nat_lit 101]⟩⟩ (54 : Nat), .bool true⟩ :: ⟨PySem.PyData.keyHash P ⟨⟨[nat_lit 98, nat_lit 111, nat_lit 111, nat_lit 108]⟩⟩, .str ⟨⟨[nat_lit 98, nat_lit 111, nat_lit 111, nat_lit 108]⟩⟩ (55 : Nat), .type PySem.W.SZ.s11695548795398191787x4⟩ :: ⟨PySem.PyData.keyHash P ⟨⟨[nat_lit 109, nat_lit 101, nat_lit 109, nat_lit 111, nat_lit 114, nat_lit 121, nat_lit 118, nat_lit 105, nat_lit 101, nat_lit 119]⟩⟩, .str ⟨⟨[nat_lit 109, nat_lit 101, nat_lit 109, nat_lit 111, nat_lit 114, nat_lit 121, nat_lit 118, nat_lit 105, nat_lit 101, nat_lit 119]⟩⟩ (56 : Nat), .type PySem.W.SZ.s4156966113859768872x10⟩ :: ⟨PySem.PyData.keyHash P ⟨⟨[nat_lit 98, nat_lit 121, nat_lit 116, nat_lit 101, nat_lit 97, nat_lit 114, nat_lit 114, nat_lit 97, nat_lit 121]⟩⟩, .str ⟨⟨[nat_lit 98, nat_lit 121, nat_lit 116, nat_lit 101, nat_lit 97, nat_lit 114, nat_lit 114, nat_lit 97, nat_lit 121]⟩⟩ (57 : Nat), .type PySem.W.SZ.s9501651726347032510x9⟩ :: ⟨PySem.PyData.keyHash P ⟨⟨[nat_lit 98, nat_lit 121, nat_lit 116, nat_lit 101, nat_lit 115]⟩⟩, .str ⟨⟨[nat_lit 98, nat_lit 121, nat_lit 116, nat_lit 101, nat_lit 115]⟩⟩ (58 : Nat), .type PySem.W.SZ.s15722918466584999320x5⟩ :: ⟨PySem.PyData.keyHash P ⟨⟨[nat_lit 99, nat_lit 108, nat_lit 97, nat_lit 115, nat_lit 115, nat_lit 109, nat_lit 101, nat_lit 116, nat_lit 104, nat_lit 111, nat_lit 100]⟩⟩, .str ⟨⟨[nat_lit 99, nat_lit 108, nat_lit 97, nat_lit 115, nat_lit 115, nat_lit 109, nat_lit 101, nat_lit 116, nat_lit 104, nat_lit 111, nat_lit 100]⟩⟩ (59 : Nat), .type PySem.W.SZ.s591115383303110208x11⟩ :: ⟨PySem.PyData.keyHash P ⟨⟨[nat_lit 99, nat_lit 111, nat_lit 109, nat_lit 112, nat_lit 108, nat_lit 101, nat_lit 120]⟩⟩, .str ⟨⟨[nat_lit 99, nat_lit 111, nat_lit 109, nat_lit 112, nat_lit 108, nat_lit 101, nat_lit 120]⟩⟩ (60 : Nat), .type PySem.W.SZ.s15721156781594690315x7⟩ :: ⟨PySem.PyData.keyHash P ⟨⟨[nat_lit 100, nat_lit 105, nat_lit 99, nat_lit 116]⟩⟩, .str ⟨⟨[nat_lit 100, nat_lit 105, nat_lit 99, nat_lit 116]⟩⟩ (61 : Nat), .type PySem.W.SZ.s14018661285674007319x4⟩ :: ⟨PySem.PyData.keyHash P ⟨⟨[nat_lit 101, nat_lit 110, nat_lit 117, nat_lit 109, nat_lit 101, nat_lit 114, nat_lit 97, nat_lit 116, nat_lit 101]⟩⟩, .str ⟨⟨[nat_lit 101, nat_lit 110, nat_lit 117, nat_lit 109, nat_lit 101, nat_lit 114, nat_lit 97, nat_lit 116, nat_lit 101]⟩⟩ (62 : Nat), .type PySem.W.SZ.s14340494229221121180x9⟩ :: ⟨PySem.PyData.keyHash P ⟨⟨[nat_lit 102, nat_lit 105, nat_lit 108, nat_lit 116, nat_lit 101, nat_lit 114]⟩⟩, .str ⟨⟨[nat_lit 102, nat_lit 105, nat_lit 108, nat_lit 116, nat_lit 101, nat_lit 114]⟩⟩ (63 : Nat), .type PySem.W.SZ.s13429844117177748173x6⟩ :: ⟨PySem.PyData.keyHash P ⟨⟨[nat_lit 102, nat_lit 108, nat_lit 111, nat_lit 97, nat_lit 116]⟩⟩, .str ⟨⟨[nat_lit 102, nat_lit 108, nat_lit 111, nat_lit 97, nat_lit 116]⟩⟩ (64 : Nat), .type PySem.W.SZ.s16463266125957815391x5⟩ :: ⟨PySem.PyData.keyHash P ⟨⟨[nat_lit 102, nat_lit 114, nat_lit 111, nat_lit 122, nat_lit 101, nat_lit 110, nat_lit 115, nat_lit 101, nat_lit 116]⟩⟩, .str ⟨⟨[nat_lit 102, nat_lit 114, nat_lit 111, nat_lit 122, nat_lit 101, nat_lit 110, nat_lit 115, nat_lit 101, nat_lit 116]⟩⟩ (65 : Nat), .type PySem.W.SZ.s4922535414793169389x9⟩ :: ⟨PySem.PyData.keyHash P ⟨⟨[nat_lit 112, nat_lit 114, nat_lit 111, nat_lit 112, nat_lit 101, nat_lit 114, nat_lit 116, nat_lit 121]⟩⟩, .str ⟨⟨[nat_lit 112, nat_lit 114, nat_lit 111, nat_lit 112, nat_lit 101, nat_lit 114, nat_lit 116, nat_lit 121]⟩⟩ (66 : Nat), .type PySem.W.SZ.s8101838861749082086x8⟩ :: ⟨PySem.PyData.keyHash P ⟨⟨[nat_lit 105, nat_lit 110, nat_lit 116]⟩⟩, .str ⟨⟨[nat_lit 105, nat_lit 110, nat_lit 116]⟩⟩ (67 : Nat), .type PySem.W.SZ.s7066276694103001551x3⟩ :: ⟨PySem.PyData.keyHash P ⟨⟨[nat_lit 108, nat_lit 105, nat_lit 115, nat_lit 116]⟩⟩, .str ⟨⟨[nat_lit 108, nat_lit 105, nat_lit 115, nat_lit 116]⟩⟩ (68 : Nat), .type PySem.W.SZ.s9222952809800978799x4⟩ :: ⟨PySem.PyData.keyHash P ⟨⟨[nat_lit 109, nat_lit 97, nat_lit 112]⟩⟩, .str ⟨⟨[nat_lit 109, nat_lit 97, nat_lit 112]⟩⟩ (69 : Nat), .type PySem.W.SZ.s462964344163437139x3⟩ :: ⟨PySem.PyData.keyHash P ⟨⟨[nat_lit 111, nat_lit 98, nat_lit 106, nat_lit 101, nat_lit 99, nat_lit 116]⟩⟩, .str ⟨⟨[nat_lit 111, nat_lit 98, nat_lit 106, nat_lit 101, nat_lit 99, nat_lit 116]⟩⟩ (70 : Nat), .type PySem.W.SZ.s2742458400755230247x6⟩ :: ⟨PySem.PyData.keyHash P ⟨⟨[nat_lit 114, nat_lit 97, nat_lit 110, nat_lit 103, nat_lit 101]⟩⟩, .str ⟨⟨[nat_lit 114, nat_lit 97, nat_lit 110, nat_lit 103, nat_lit 101]⟩⟩ (71 : Nat), .type PySem.W.SZ.s1438033511350832697x5⟩ :: ⟨PySem.PyData.keyHash P ⟨⟨[nat_lit 114, nat_lit 101, nat_lit 118, nat_lit 101, nat_lit 114, nat_lit 115, nat_lit 101, nat_lit 100]⟩⟩, .str ⟨⟨[nat_lit 114, nat_lit 101, nat_lit 118, nat_lit 101, nat_lit 114, nat_lit 115, nat_lit 101, nat_lit 100]⟩⟩ (72 : Nat), .type PySem.W.SZ.s14365286008749172514x8⟩ :: ⟨PySem.PyData.keyHash P ⟨⟨[nat_lit 115, nat_lit 101, nat_lit 116]⟩⟩, .str ⟨⟨[nat_lit 115, nat_lit 101, nat_lit 116]⟩⟩ (73 : Nat), .type PySem.W.SZ.s3642769012341782148x3⟩ :: ⟨PySem.PyData.keyHash P ⟨⟨[nat_lit 115, nat_lit 108, nat_lit 105, nat_lit 99, nat_lit 101]⟩⟩, .str ⟨⟨[nat_lit 115, nat_lit 108, nat_lit 105, nat_lit 99, nat_lit 101]⟩⟩ (74 : Nat), .type PySem.W.SZ.s4674234679698826739x5⟩ :: ⟨PySem.PyData.keyHash P ⟨⟨[nat_lit 115, nat_lit 116, nat_lit 97, nat_lit 116, nat_lit 105, nat_lit 99, nat_lit 109, nat_lit 101, nat_lit 116, nat_lit 104, nat_lit 111, nat_lit 100]⟩⟩, .str ⟨⟨[nat_lit 115, nat_lit 116, nat_lit 97, nat_lit 116, nat_lit 105, nat_lit 99, nat_lit 109, nat_lit 101, nat_lit 116, nat_lit 104, nat_lit 111, nat_lit 100]⟩⟩ (75 : Nat), .type PySem.W.SZ.s16656946322747308186x12⟩ :: ⟨PySem.PyData.keyHash P ⟨⟨[nat_lit 115, nat_lit 116, nat_lit 114]⟩⟩, .str ⟨⟨[nat_lit 115, nat_lit 116, nat_lit 114]⟩⟩ (76 : Nat), .type PySem.W.SZ.s10796804682411823810x3⟩ :: ⟨PySem.PyData.keyHash P ⟨⟨[nat_lit 115, nat_lit 117, nat_lit 112, nat_lit 101, nat_lit 114]⟩⟩, .str ⟨⟨[nat_lit 115, nat_lit 117, nat_lit 112, nat_lit 101, nat_lit 114]⟩⟩ (77 : Nat), .type PySem.W.SZ.s4290257624100764138x5⟩ :: ⟨PySem.PyData.keyHash P ⟨⟨[nat_lit 116, nat_lit 117, nat_lit 112, nat_lit 108, nat_lit 101]⟩⟩, .str ⟨⟨[nat_lit 116, nat_lit 117, nat_lit 112, nat_lit 108, nat_lit 101]⟩⟩ (78 : Nat), .type PySem.W.SZ.s2766695959194262286x5⟩ :: ⟨PySem.PyData.keyHash P ⟨⟨[nat_lit 116, nat_lit 121, nat_lit 112, nat_lit 101]⟩⟩, .str ⟨⟨[nat_lit 116, nat_lit 121, nat_lit 112, nat_lit 101]⟩⟩ (79 : Nat), .type PySem.W.SZ.s17162191345867700912x4⟩ :: ⟨PySem.PyData.keyHash P ⟨⟨[nat_lit 122, nat_lit 105, nat_lit 112]⟩⟩, .str ⟨⟨[nat_lit 122, nat_lit 105, nat_lit 112]⟩⟩ (80 : Nat), .type PySem.W.SZ.s14339709457334898076x3⟩ :: ⟨PySem.PyData.keyHash P ⟨⟨[nat_lit 95, nat_lit 95, nat_lit 100, nat_lit 101, nat_lit 98, nat_lit 117, nat_lit 103, nat_lit 95, nat_lit 95]⟩⟩, .str ⟨⟨[nat_lit 95, nat_lit 95, nat_lit 100, nat_lit 101, nat_lit 98, nat_lit 117, nat_lit 103, nat_lit 95, nat_lit 95]⟩⟩ (81 : Nat), .bool true⟩ :: ⟨PySem.PyData.keyHash P ⟨⟨[nat_lit 66, nat_lit 97, nat_lit 115, nat_lit 101, nat_lit 69, nat_lit 120, nat_lit 99, nat_lit 101, nat_lit 112, nat_lit 116, nat_lit 105, nat_lit 111, nat_lit 110]⟩⟩, .str ⟨⟨[nat_lit 66, nat_lit 97, nat_lit 115, nat_lit 101, nat_lit 69, nat_lit 120, nat_lit 99, nat_lit 101, nat_lit 112, nat_lit 116, nat_lit 105, nat_lit 111, nat_lit 110]⟩⟩ (82 : Nat), .type PySem.W.SZ.s4278001404047624695x13⟩ :: ⟨PySem.PyData.keyHash P ⟨⟨[nat_lit 66, nat_lit 97, nat_lit 115, nat_lit 101, nat_lit 69, nat_lit 120, nat_lit 99, nat_lit 101, nat_lit 112, nat_lit 116, nat_lit 105, nat_lit 111, nat_lit 110, nat_lit 71, nat_lit 114, nat_lit 111, nat_lit 117, nat_lit 112]⟩⟩, .str ⟨⟨[nat_lit 66, nat_lit 97, nat_lit 115, nat_lit 101, nat_lit 69, nat_lit 120, nat_lit 99, nat_lit 101, nat_lit 112, nat_lit 116, nat_lit 105, nat_lit 111, nat_lit 110, nat_lit 71, nat_lit 114, nat_lit 111, nat_lit 117, nat_lit 112]⟩⟩ (83 : Nat), .type PySem.W.SZ.s6585700554429387442x18⟩ :: ⟨PySem.PyData.keyHash P ⟨⟨[nat_lit 69, nat_lit 120, nat_lit 99, nat_lit 101, nat_lit 112, nat_lit 116, nat_lit 105, nat_lit 111, nat_lit 110]⟩⟩, .str ⟨⟨[nat_lit 69, nat_lit 120, nat_lit 99, nat_lit 101, nat_lit 112, nat_lit 116, nat_lit 105, nat_lit 111, nat_lit 110]⟩⟩ (84 : Nat), .type PySem.W.SZ.s5946037652744460706x9⟩ :: ⟨PySem.PyData.keyHash P ⟨⟨[nat_lit 71, nat_lit 101, nat_lit 110, nat_lit 101, nat_lit 114, nat_lit 97, nat_lit 116, nat_lit 111, nat_lit 114, nat_lit 69, nat_lit 120, nat_lit 105, nat_lit 116]⟩⟩, .str ⟨⟨[nat_lit 71, nat_lit 101, nat_lit 110, nat_lit 101, nat_lit 114, nat_lit 97, nat_lit 116, nat_lit 111, nat_lit 114, nat_lit 69, nat_lit 120, nat_lit 105, nat_lit 116]⟩⟩ (85 : Nat), .type PySem.W.SZ.s7410770068591931388x13⟩ :: ⟨PySem.PyData.keyHash P ⟨⟨[nat_lit 75, nat_lit 101, nat_lit 121, nat_lit 98, nat_lit 111, nat_lit 97, nat_lit 114, nat_lit 100, nat_lit 73, nat_lit 110, nat_lit 116, nat_lit 101, nat_lit 114, nat_lit 114, nat_lit 117, nat_lit 112, nat_lit 116]⟩⟩, .str ⟨⟨[nat_lit 75, nat_lit 101, nat_lit 121, nat_lit 98, nat_lit 111, nat_lit 97, nat_lit 114, nat_lit 100, nat_lit 73, nat_lit 110, nat_lit 116, nat_lit 101, nat_lit 114, nat_lit 114, nat_lit 117, nat_lit 112, nat_lit 116]⟩⟩ (86 : Nat), .type PySem.W.SZ.s11817881795495490833x17⟩ :: ⟨PySem.PyData.keyHash P ⟨⟨[nat_lit 83, nat_lit 121, nat_lit 115, nat_lit 116, nat_lit 101, nat_lit 109, nat_lit 69, nat_lit 120, nat_lit 105, nat_lit 116]⟩⟩, .str ⟨⟨[nat_lit 83, nat_lit 121, nat_lit 115, nat_lit 116, nat_lit 101, nat_lit 109, nat_lit 69, nat_lit 120, nat_lit 105, nat_lit 116]⟩⟩ (87 : Nat), .type PySem.W.SZ.s15679963881808890155x10⟩ :: ⟨PySem.PyData.keyHash P ⟨⟨[nat_lit 65, nat_lit 114, nat_lit 105, nat_lit 116, nat_lit 104, nat_lit 109, nat_lit 101, nat_lit 116, nat_lit 105, nat_lit 99, nat_lit 69, nat_lit 114, nat_lit 114, nat_lit 111, nat_lit 114]⟩⟩, .str ⟨⟨[nat_lit 65, nat_lit 114, nat_lit 105, nat_lit 116, nat_lit 104, nat_lit 109, nat_lit 101, nat_lit 116, nat_lit 105, nat_lit 99, nat_lit 69, nat_lit 114, nat_lit 114, nat_lit 111, nat_lit 114]⟩⟩ (88 : Nat), .type PySem.W.SZ.s3871700062485845797x15⟩ :: ⟨PySem.PyData.keyHash P ⟨⟨[nat_lit 65, nat_lit 115, nat_lit 115, nat_lit 101, nat_lit 114, nat_lit 116, nat_lit 105, nat_lit 111, nat_lit 110, nat_lit 69, nat_lit 114, nat_lit 114, nat_lit 111, nat_lit 114]⟩⟩, .str ⟨⟨[nat_lit 65, nat_lit 115, nat_lit 115, nat_lit 101, nat_lit 114, nat_lit 116, nat_lit 105, nat_lit 111, nat_lit 110, nat_lit 69, nat_lit 114, nat_lit 114, nat_lit 111, nat_lit 114]⟩⟩ (89 : Nat), .type PySem.W.SZ.s7689518266570723881x14⟩ :: ⟨PySem.PyData.keyHash P ⟨⟨[nat_lit 65, nat_lit 116, nat_lit 116, nat_lit 114, nat_lit 105, nat_lit 98, nat_lit 117, nat_lit 116, nat_lit 101, nat_lit 69, nat_lit 114, nat_lit 114, nat_lit 111, nat_lit 114]⟩⟩, .str ⟨⟨[nat_lit 65, nat_lit 116, nat_lit 116, nat_lit 114, nat_lit 105, nat_lit 98, nat_lit 117, nat_lit 116, nat_lit 101, nat_lit 69, nat_lit 114, nat_lit 114, nat_lit 111, nat_lit 114]⟩⟩ (90 : Nat), .type PySem.W.SZ.s9001593270443806431x14⟩ :: ⟨PySem.PyData.keyHash P ⟨⟨[nat_lit 66, nat_lit 117, nat_lit 102, nat_lit 102, nat_lit 101, nat_lit 114, nat_lit 69, nat_lit 114, nat_lit 114, nat_lit 111, nat_lit 114]⟩⟩, .str ⟨⟨[nat_lit 66, nat_lit 117, nat_lit 102, nat_lit 102, nat_lit 101, nat_lit 114, nat_lit 69, nat_lit 114, nat_lit 114, nat_lit 111, nat_lit 114]⟩⟩ (91 : Nat), .type PySem.W.SZ.s6882542574934516792x11⟩ :: ⟨PySem.PyData.keyHash P ⟨⟨[nat_lit 69, nat_lit 79, nat_lit 70, nat_lit 69, nat_lit 114, nat_lit 114, nat_lit 111, nat_lit 114]⟩⟩, .str ⟨⟨[nat_lit 69, nat_lit 79, nat_lit 70, nat_lit 69, nat_lit 114, nat_lit 114, nat_lit 111, nat_lit 114]⟩⟩ (92 : Nat), .type PySem.W.SZ.s14403400214490484960x8⟩ :: ⟨PySem.PyData.keyHash P ⟨⟨[nat_lit 73, nat_lit 109, nat_lit 112, nat_lit 111, nat_lit 114, nat_lit 116, nat_lit 69, nat_lit 114, nat_lit 114, nat_lit 111, nat_lit 114]⟩⟩, .str ⟨⟨[nat_lit 73, nat_lit 109, nat_lit 112, nat_lit 111, nat_lit 114, nat_lit 116, nat_lit 69, nat_lit 114, nat_lit 114, nat_lit 111, nat_lit 114]⟩⟩ (93 : Nat), .type PySem.W.SZ.s14457978657717015782x11⟩ :: ⟨PySem.PyData.keyHash P ⟨⟨[nat_lit 76, nat_lit 111, nat_lit 111, nat_lit 107, nat_lit 117, nat_lit 112, nat_lit 69, nat_lit 114, nat_lit 114, nat_lit 111, nat_lit 114]⟩⟩, .str ⟨⟨[nat_lit 76, nat_lit 111, nat_lit 111, nat_lit 107, nat_lit 117, nat_lit 112, nat_lit 69, nat_lit 114, nat_lit 114, nat_lit 111, nat_lit 114]⟩⟩ (94 : Nat), .type PySem.W.SZ.s1753610191782819921x11⟩ :: ⟨PySem.PyData.keyHash P ⟨⟨[nat_lit 77, nat_lit 101, nat_lit 109, nat_lit 111, nat_lit 114, nat_lit 121, nat_lit 69, nat_lit 114, nat_lit 114, nat_lit 111, nat_lit 114]⟩⟩, .str ⟨⟨[nat_lit 77, nat_lit 101, nat_lit 109, nat_lit 111, nat_lit 114, nat_lit 121, nat_lit 69, nat_lit 114, nat_lit 114, nat_lit 111, nat_lit 114]⟩⟩ (95 : Nat), .type PySem.W.SZ.s14119380538032626715x11⟩ :: ⟨PySem.PyData.keyHash P ⟨⟨[nat_lit 78, nat_lit 97, nat_lit 109, nat_lit 101, nat_lit 69, nat_lit 114, nat_lit 114, nat_lit 111, nat_lit 114]⟩⟩, .str ⟨⟨[nat_lit 78, nat_lit 97, nat_lit 109, nat_lit 101, nat_lit 69, nat_lit 114, nat_lit 114, nat_lit 111, nat_lit 114]⟩⟩ (96 : Nat), .type PySem.W.SZ.s11437920000406562045x9⟩ :: ⟨PySem.PyData.keyHash P ⟨⟨[nat_lit 79, nat_lit 83, nat_lit 69, nat_lit 114, nat_lit 114, nat_lit 111, nat_lit 114]⟩⟩, .str ⟨⟨[nat_lit 79, nat_lit 83, nat_lit 69, nat_lit 114, nat_lit 114, nat_lit 111, nat_lit 114]⟩⟩ (97 : Nat), .type PySem.W.SZ.s10852414792293593619x7⟩ :: ⟨PySem.PyData.keyHash P ⟨⟨[nat_lit 82, nat_lit 101, nat_lit 102, nat_lit 101, nat_lit 114, nat_lit 101, nat_lit 110, nat_lit 99, nat_lit 101, nat_lit 69, nat_lit 114, nat_lit 114, nat_lit 111, nat_lit 114]⟩⟩, .str ⟨⟨[nat_lit 82, nat_lit 101, nat_lit 102, nat_lit 101, nat_lit 114, nat_lit 101, nat_lit 110, nat_lit 99, nat_lit 101, nat_lit 69, nat_lit 114, nat_lit 114, nat_lit 111, nat_lit 114]⟩⟩ (98 : Nat), .type PySem.W.SZ.s14816307405966870543x14⟩ :: ⟨PySem.PyData.keyHash P ⟨⟨[nat_lit 82, nat_lit 117, nat_lit 110, nat_lit 116, nat_lit 105, nat_lit 109, nat_lit 101, nat_lit 69, nat_lit 114, nat_lit 114, nat_lit 111, nat_lit 114]⟩⟩, .str ⟨⟨[nat_lit 82, nat_lit 117, nat_lit 110, nat_lit 116, nat_lit 105, nat_lit 109, nat_lit 101, nat_lit 69, nat_lit 114, nat_lit 114, nat_lit 111, nat_lit 114]⟩⟩ (99 : Nat), .type PySem.W.SZ.s8682627914449686677x12⟩ :: ⟨PySem.PyData.keyHash P ⟨⟨[nat_lit 83, nat_lit 116, nat_lit 111, nat_lit 112, nat_lit 65, nat_lit 115, nat_lit 121, nat_lit 110, nat_lit 99, nat_lit 73, nat_lit 116, nat_lit 101, nat_lit 114, nat_lit 97, nat_lit 116, nat_lit 105, nat_lit 111, nat_lit 110]⟩⟩, .str ⟨⟨[nat_lit 83, nat_lit 116, nat_lit 111, nat_lit 112, nat_lit 65, nat_lit 115, nat_lit 121, nat_lit 110, nat_lit 99, nat_lit 73, nat_lit 116, nat_lit 101, nat_lit 114, nat_lit 97, nat_lit 116, nat_lit 105, nat_lit 111, nat_lit 110]⟩⟩ (100 : Nat), .type PySem.W.SZ.s4428170145600203450x18⟩ :: ⟨PySem.PyData.keyHash P ⟨⟨[nat_lit 83, nat_lit 116, nat_lit 111, nat_lit 112, nat_lit 73, nat_lit 116, nat_lit 101, nat_lit 114, nat_lit 97, nat_lit 116, nat_lit 105, nat_lit 111, nat_lit 110]⟩⟩, .str ⟨⟨[nat_lit 83, nat_lit 116, nat_lit 111, nat_lit 112, nat_lit 73, nat_lit 116, nat_lit 101, nat_lit 114, nat_lit 97, nat_lit 116, nat_lit 105, nat_lit 111, nat_lit 110]⟩⟩ (101 : Nat), .type PySem.W.SZ.s5991306692159431302x13⟩ :: ⟨PySem.PyData.keyHash P ⟨⟨[nat_lit 83, nat_lit 121, nat_lit 110, nat_lit 116, nat_lit 97, nat_lit 120, nat_lit 69, nat_lit 114, nat_lit 114, nat_lit 111, nat_lit 114]⟩⟩, .str ⟨⟨[nat_lit 83, nat_lit 121, nat_lit 110, nat_lit 116, nat_lit 97, nat_lit 120, nat_lit 69, nat_lit 114, nat_lit 114, nat_lit 111, nat_lit 114]⟩⟩ (102 : Nat), .type PySem.W.SZ.s16067994140765818257x11⟩ :: ⟨PySem.PyData.keyHash P ⟨⟨[nat_lit 83, nat_lit 121, nat_lit 115, nat_lit 116, nat_lit 101, nat_lit 109, nat_lit 69, nat_lit 114, nat_lit 114, nat_lit 111, nat_lit 114]⟩⟩, .str ⟨⟨[nat_lit 83, nat_lit 121, nat_lit 115, nat_lit 116, nat_lit 101, nat_lit 109, nat_lit 69, nat_lit 114, nat_lit 114, nat_lit 111, nat_lit 114]⟩⟩ (103 : Nat), .type PySem.W.SZ.s2327743974964600596x11⟩ :: ⟨PySem.PyData.keyHash P ⟨⟨[nat_lit 84, nat_lit 121, nat_lit 112, nat_lit 101, nat_lit 69, nat_lit 114, nat_lit 114, nat_lit 111, nat_lit 114]⟩⟩, .str ⟨⟨[nat_lit 84, nat_lit 121, nat_lit 112, nat_lit 101, nat_lit 69, nat_lit 114, nat_lit 114, nat_lit 111, nat_lit 114]⟩⟩ (104 : Nat), .type PySem.W.SZ.s2804747833354056582x9⟩ :: ⟨PySem.PyData.keyHash P ⟨⟨[nat_lit 86, nat_lit 97, nat_lit 108, nat_lit 117, nat_lit 101, nat_lit 69, nat_lit 114, nat_lit 114, nat_lit 111, nat_lit 114]⟩⟩, .str ⟨⟨[nat_lit 86, nat_lit 97, nat_lit 108, nat_lit 117, nat_lit 101, nat_lit 69, nat_lit 114, nat_lit 114, nat_lit 111, nat_lit 114]⟩⟩ (105 : Nat), .type PySem.W.SZ.s6070975301684473832x10⟩ :: ⟨PySem.PyData.keyHash P ⟨⟨[nat_lit 87, nat_lit 97, nat_lit 114, nat_lit 110, nat_lit 105, nat_lit 110, nat_lit 103]⟩⟩, .str ⟨⟨[nat_lit 87, nat_lit 97, nat_lit 114, nat_lit 110, nat_lit 105, nat_lit 110, nat_lit 103]⟩⟩ (106 : Nat), .type PySem.W.SZ.s14270485950484850486x7⟩ :: ⟨PySem.PyData.keyHash P ⟨⟨[nat_lit 70, nat_lit 108, nat_lit 111, nat_lit 97, nat_lit 116, nat_lit 105, nat_lit 110, nat_lit 103, nat_lit 80, nat_lit 111, nat_lit 105, nat_lit 110, nat_lit 116, nat_lit 69, nat_lit 114, nat_lit 114, nat_lit 111, nat_lit 114]⟩⟩, .str ⟨⟨[nat_lit 70, nat_lit 108, nat_lit 111, nat_lit 97, nat_lit 116, nat_lit 105, nat_lit 110, nat_lit 103, nat_lit 80, nat_lit 111, nat_lit 105, nat_lit 110, nat_lit 116, nat_lit 69, nat_lit 114, nat_lit 114, nat_lit 111, nat_lit 114]⟩⟩ (107 : Nat), .type PySem.W.SZ.s12041534306414923332x18⟩ :: ⟨PySem.PyData.keyHash P ⟨⟨[nat_lit 79, nat_lit 118, nat_lit 101, nat_lit 114, nat_lit 102, nat_lit 108, nat_lit 111, nat_lit 119, nat_lit 69, nat_lit 114, nat_lit 114, nat_lit 111, nat_lit 114]⟩⟩, .str ⟨⟨[nat_lit 79, nat_lit 118, nat_lit 101, nat_lit 114, nat_lit 102, nat_lit 108, nat_lit 111, nat_lit 119, nat_lit 69, nat_lit 114, nat_lit 114, nat_lit 111, nat_lit 114]⟩⟩ (108 : Nat), .type PySem.W.SZ.s2531307568338490285x13⟩ :: ⟨PySem.PyData.keyHash P ⟨⟨[nat_lit 90, nat_lit 101, nat_lit 114, nat_lit 111, nat_lit 68, nat_lit 105, nat_lit 118, nat_lit 105, nat_lit 115, nat_lit 105, nat_lit 111, nat_lit 110, nat_lit 69, nat_lit 114, nat_lit 114, nat_lit 111, nat_lit 114]⟩⟩, .str ⟨⟨[nat_lit 90, nat_lit 101, nat_lit 114, nat_lit 111, nat_lit 68, nat_lit 105, nat_lit 118, nat_lit 105, nat_lit 115, nat_lit 105, nat_lit 111, nat_lit 110, nat_lit 69, nat_lit 114, nat_lit 114, nat_lit 111, nat_lit 114]⟩⟩ (109 : Nat), .type PySem.W.SZ.s631175304937289666x17⟩ :: ⟨PySem.PyData.keyHash P ⟨⟨[nat_lit 66, nat_lit 121, nat_lit 116, nat_lit 101, nat_lit 115, nat_lit 87, nat_lit 97, nat_lit 114, nat_lit 110, nat_lit 105, nat_lit 110, nat_lit 103]⟩⟩, .str ⟨⟨[nat_lit 66, nat_lit 121, nat_lit 116, nat_lit 101, nat_lit 115, nat_lit 87, nat_lit 97, nat_lit 114, nat_lit 110, nat_lit 105, nat_lit 110, nat_lit 103]⟩⟩ (110 : Nat), .type PySem.W.SZ.s5144983644357021410x12⟩ :: ⟨PySem.PyData.keyHash P ⟨⟨[nat_lit 68, nat_lit 101, nat_lit 112, nat_lit 114, nat_lit 101, nat_lit 99, nat_lit 97, nat_lit 116, nat_lit 105, nat_lit 111, nat_lit 110, nat_lit 87, nat_lit 97, nat_lit 114, nat_lit 110, nat_lit 105, nat_lit 110, nat_lit 103]⟩⟩, .str ⟨⟨[nat_lit 68, nat_lit 101, nat_lit 112, nat_lit 114, nat_lit 101, nat_lit 99, nat_lit 97, nat_lit 116, nat_lit 105, nat_lit 111, nat_lit 110, nat_lit 87, nat_lit 97, nat_lit 114, nat_lit 110, nat_lit 105, nat_lit 110, nat_lit 103]⟩⟩ (111 : Nat), .type PySem.W.SZ.s18039099521571816885x18⟩ :: ⟨PySem.PyData.keyHash P ⟨⟨[nat_lit 69, nat_lit 110, nat_lit 99, nat_lit 111, nat_lit 100, nat_lit 105, nat_lit 110, nat_lit 103, nat_lit 87, nat_lit 97, nat_lit 114, nat_lit 110, nat_lit 105, nat_lit 110, nat_lit 103]⟩⟩, .str ⟨⟨[nat_lit 69, nat_lit 110, nat_lit 99, nat_lit 111, nat_lit 100, nat_lit 105, nat_lit 110, nat_lit 103, nat_lit 87, nat_lit 97, nat_lit 114, nat_lit 110, nat_lit 105, nat_lit 110, nat_lit 103]⟩⟩ (112 : Nat), .type PySem.W.SZ.s6011586214260557989x15⟩ :: ⟨PySem.PyData.keyHash P ⟨⟨[nat_lit 70, nat_lit 117, nat_lit 116, nat_lit 117, nat_lit 114, nat_lit 101, nat_lit 87, nat_lit 97, nat_lit 114, nat_lit 110, nat_lit 105, nat_lit 110, nat_lit 103]⟩⟩, .str ⟨⟨[nat_lit 70, nat_lit 117, nat_lit 116, nat_lit 117, nat_lit 114, nat_lit 101, nat_lit 87, nat_lit 97, nat_lit 114, nat_lit 110, nat_lit 105, nat_lit 110, nat_lit 103]⟩⟩ (113 : Nat), .type PySem.W.SZ.s5430567037509283100x13⟩ :: ⟨PySem.PyData.keyHash P ⟨⟨[nat_lit 73, nat_lit 109, nat_lit 112, nat_lit 111, nat_lit 114, nat_lit 116, nat_lit 87, nat_lit 97, nat_lit 114, nat_lit 110, nat_lit 105, nat_lit 110, nat_lit 103]⟩⟩, .str ⟨⟨[nat_lit 73, nat_lit 109, nat_lit 112, nat_lit 111, nat_lit 114, nat_lit 116, nat_lit 87, nat_lit 97, nat_lit 114, nat_lit 110, nat_lit 105, nat_lit 110, nat_lit 103]⟩⟩ (114 : Nat), .type PySem.W.SZ.s8117915138073963741x13⟩ :: ⟨PySem.PyData.keyHash P ⟨⟨[nat_lit 80, nat_lit 101, nat_lit 110, nat_lit 100, nat_lit 105, nat_lit 110, nat_lit 103, nat_lit 68, nat_lit 101, nat_lit 112, nat_lit 114, nat_lit 101, nat_lit 99, nat_lit 97, nat_lit 116, nat_lit 105, nat_lit 111, nat_lit 110, nat_lit 87, nat_lit 97, nat_lit 114, nat_lit 110, nat_lit 105, nat_lit 110, nat_lit 103]⟩⟩, .str ⟨⟨[nat_lit 80, nat_lit 101, nat_lit 110, nat_lit 100, nat_lit 105, nat_lit 110, nat_lit 103, nat_lit 68, nat_lit 101, nat_lit 112, nat_lit 114, nat_lit 101, nat_lit 99, nat_lit 97, nat_lit 116, nat_lit 105, nat_lit 111, nat_lit 110, nat_lit 87, nat_lit 97, nat_lit 114, nat_lit 110, nat_lit 105, nat_lit 110, nat_lit 103]⟩⟩ (115 : Nat), .type PySem.W.SZ.s3423317712779056401x25⟩ :: ⟨PySem.PyData.keyHash P ⟨⟨[nat_lit 82, nat_lit 101, nat_lit 115, nat_lit 111, nat_lit 117, nat_lit 114, nat_lit 99, nat_lit 101, nat_lit 87, nat_lit 97, nat_lit 114, nat_lit 110, nat_lit 105, nat_lit 110, nat_lit 103]⟩⟩, .str ⟨⟨[nat_lit 82, nat_lit 101, nat_lit 115, nat_lit 111, nat_lit 117, nat_lit 114, nat_lit 99, nat_lit 101, nat_lit 87, nat_lit 97, nat_lit 114, nat_lit 110, nat_lit 105, nat_lit 110, nat_lit 103]⟩⟩ (116 : Nat), .type PySem.W.SZ.s2007317383269046180x15⟩ :: ⟨PySem.PyData.keyHash P ⟨⟨[nat_lit 82, nat_lit 117, nat_lit 110, nat_lit 116, nat_lit 105, nat_lit 109, nat_lit 101, nat_lit 87, nat_lit 97, nat_lit 114, nat_lit 110, nat_lit 105, nat_lit 110, nat_lit 103]⟩⟩, .str ⟨⟨[nat_lit 82, nat_lit 117, nat_lit 110, nat_lit 116, nat_lit 105, nat_lit 109, nat_lit 101, nat_lit 87, nat_lit 97, nat_lit 114, nat_lit 110, nat_lit 105, nat_lit 110, nat_lit 103]⟩⟩ (117 : Nat), .type PySem.W.SZ.s17481586968713580700x14⟩ :: ⟨PySem.PyData.keyHash P ⟨⟨[nat_lit 83, nat_lit 121, nat_lit 110, nat_lit 116, nat_lit 97, nat_lit 120, nat_lit 87, nat_lit 97, nat_lit 114, nat_lit 110, nat_lit 105, nat_lit 110, nat_lit 103]⟩⟩, .str ⟨⟨[nat_lit 83, nat_lit 121, nat_lit 110, nat_lit 116, nat_lit 97, nat_lit 120, nat_lit 87, nat_lit 97, nat_lit 114, nat_lit 110, nat_lit 105, nat_lit 110, nat_lit 103]⟩⟩ (118 : Nat), .type PySem.W.SZ.s2450899226349176912x13⟩ :: ⟨PySem.PyData.keyHash P ⟨⟨[nat_lit 85, nat_lit 110, nat_lit 105, nat_lit 99, nat_lit 111, nat_lit 100, nat_lit 101, nat_lit 87, nat_lit 97, nat_lit 114, nat_lit 110, nat_lit 105, nat_lit 110, nat_lit 103]⟩⟩, .str ⟨⟨[nat_lit 85, nat_lit 110, nat_lit 105, nat_lit 99, nat_lit 111, nat_lit 100, nat_lit 101, nat_lit 87, nat_lit 97, nat_lit 114, nat_lit 110, nat_lit 105, nat_lit 110, nat_lit 103]⟩⟩ (119 : Nat), .type PySem.W.SZ.s16626165730633575011x14⟩ :: ⟨PySem.PyData.keyHash P ⟨⟨[nat_lit 85, nat_lit 115, nat_lit 101, nat_lit 114, nat_lit 87, nat_lit 97, nat_lit 114, nat_lit 110, nat_lit 105, nat_lit 110, nat_lit 103]⟩⟩, .str ⟨⟨[nat_lit 85, nat_lit 115, nat_lit 101, nat_lit 114, nat_lit 87, nat_lit 97, nat_lit 114, nat_lit 110, nat_lit 105, nat_lit 110, nat_lit 103]⟩⟩ (120 : Nat), .type PySem.W.SZ.s14288496050688921416x11⟩ :: ⟨PySem.PyData.keyHash P ⟨⟨[nat_lit 66, nat_lit 108, nat_lit 111, nat_lit 99, nat_lit 107, nat_lit 105, nat_lit 110, nat_lit 103, nat_lit 73, nat_lit 79, nat_lit 69, nat_lit 114, nat_lit 114, nat_lit 111, nat_lit 114]⟩⟩, .str ⟨⟨[nat_lit 66, nat_lit 108, nat_lit 111, nat_lit 99, nat_lit 107, nat_lit 105, nat_lit 110, nat_lit 103, nat_lit 73, nat_lit 79, nat_lit 69, nat_lit 114, nat_lit 114, nat_lit 111, nat_lit 114]⟩⟩ (121 : Nat), .type PySem.W.SZ.s5735081916595925998x15⟩ :: ⟨PySem.PyData.keyHash P ⟨⟨[nat_lit 67, nat_lit 104, nat_lit 105, nat_lit 108, nat_lit 100, nat_lit 80, nat_lit 114, nat_lit 111, nat_lit 99, nat_lit 101, nat_lit 115, nat_lit 115, nat_lit 69, nat_lit 114, nat_lit 114, nat_lit 111, nat_lit 114]⟩⟩, .str ⟨⟨[nat_lit 67, nat_lit 104, nat_lit 105, nat_lit 108, nat_lit 100, nat_lit 80, nat_lit 114, nat_lit 111, nat_lit 99, nat_lit 101, nat_lit 115, nat_lit 115, nat_lit 69, nat_lit 114, nat_lit 114, nat_lit 111, nat_lit 114]⟩⟩ (122 : Nat), .type PySem.W.SZ.s3865607918536308442x17⟩ :: ⟨PySem.PyData.keyHash P ⟨⟨[nat_lit 67, nat_lit 111, nat_lit 110, nat_lit 110, nat_lit 101, nat_lit 99, nat_lit 116, nat_lit 105, nat_lit 111, nat_lit 110, nat_lit 69, nat_lit 114, nat_lit 114, nat_lit 111, nat_lit 114]⟩⟩, .str ⟨⟨[nat_lit 67, nat_lit 111, nat_lit 110, nat_lit 110, nat_lit 101, nat_lit 99, nat_lit 116, nat_lit 105, nat_lit 111, nat_lit 110, nat_lit 69, nat_lit 114, nat_lit 114, nat_lit 111, nat_lit 114]⟩⟩ (123 : Nat), .type PySem.W.SZ.s13337502604062700212x15⟩ :: ⟨PySem.PyData.keyHash P ⟨⟨[nat_lit 70, nat_lit 105, nat_lit 108, nat_lit 101, nat_lit 69, nat_lit 120, nat_lit 105, nat_lit 115, nat_lit 116, nat_lit 115, nat_lit 69, nat_lit 114, nat_lit 114, nat_lit 111, nat_lit 114]⟩⟩, .str ⟨⟨[nat_lit 70, nat_lit 105, nat_lit 108, nat_lit 101, nat_lit 69, nat_lit 120, nat_lit 105, nat_lit 115, nat_lit 116, nat_lit 115, nat_lit 69, nat_lit 114, nat_lit 114, nat_lit 111, nat_lit 114]⟩⟩ (124 : Nat), .type PySem.W.SZ.s13114017843053701147x15⟩ :: ⟨PySem.PyData.keyHash P ⟨⟨[nat_lit 70, nat_lit 105, nat_lit 108, nat_lit 101, nat_lit 78, nat_lit 111, nat_lit 116, nat_lit 70, nat_lit 111, nat_lit 117, nat_lit 110, nat_lit 100, nat_lit 69, nat_lit 114, nat_lit 114, nat_lit 111, nat_lit 114]⟩⟩, .str ⟨⟨[nat_lit 70, nat_lit 105, nat_lit 108, nat_lit 101, nat_lit 78, nat_lit 111, nat_lit 116, nat_lit 70, nat_lit 111, nat_lit 117, nat_lit 110, nat_lit 100, nat_lit 69, nat_lit 114, nat_lit 114, nat_lit 111, nat_lit 114]⟩⟩ (125 : Nat), .type PySem.W.SZ.s17467278006356818441x17⟩ :: ⟨PySem.PyData.keyHash P ⟨⟨[nat_lit 73, nat_lit 110, nat_lit 116, nat_lit 101, nat_lit 114, nat_lit 114, nat_lit 117, nat_lit 112, nat_lit 116, nat_lit 101, nat_lit 100, nat_lit 69, nat_lit 114, nat_lit 114, nat_lit 111, nat_lit 114]⟩⟩, .str ⟨⟨[nat_lit 73, nat_lit 110, nat_lit 116, nat_lit 101, nat_lit 114, nat_lit 114, nat_lit 117, nat_lit 112, nat_lit 116, nat_lit 101, nat_lit 100, nat_lit 69, nat_lit 114, nat_lit 114, nat_lit 111, nat_lit 114]⟩⟩ (126 : Nat), .type PySem.W.SZ.s17722149559621369488x16⟩ :: ⟨PySem.PyData.keyHash P ⟨⟨[nat_lit 73, nat_lit 115, nat_lit 65, nat_lit 68, nat_lit 105, nat_lit 114, nat_lit 101, nat_lit 99, nat_lit 116, nat_lit 111, nat_lit 114, nat_lit 121, nat_lit 69, nat_lit 114, nat_lit 114, nat_lit 111, nat_lit 114]⟩⟩, .str ⟨⟨[nat_lit 73, nat_lit 115, nat_lit 65, nat_lit 68, nat_lit 105, nat_lit 114, nat_lit 101, nat_lit 99, nat_lit 116, nat_lit 111, nat_lit 114, nat_lit 121, nat_lit 69, nat_lit 114, nat_lit 114, nat_lit 111, nat_lit 114]⟩⟩ (127 : Nat), .type PySem.W.SZ.s7855274175708717672x17⟩ :: ⟨PySem.PyData.keyHash P ⟨⟨[nat_lit 78, nat_lit 111, nat_lit 116, nat_lit 65, nat_lit 68, nat_lit 105, nat_lit 114, nat_lit 101, nat_lit 99, nat_lit 116, nat_lit 111, nat_lit 114, nat_lit 121, nat_lit 69, nat_lit 114, nat_lit 114, nat_lit 111, nat_lit 114]⟩⟩, .str ⟨⟨[nat_lit 78, nat_lit 111, nat_lit 116, nat_lit 65, nat_lit 68, nat_lit 105, nat_lit 114, nat_lit 101, nat_lit 99, nat_lit 116, nat_lit 111, nat_lit 114, nat_lit 121, nat_lit 69, nat_lit 114, nat_lit 114, nat_lit 111, nat_lit 114]⟩⟩ (128 : Nat), .type PySem.W.SZ.s13351283678309829046x18⟩ :: ⟨PySem.PyData.keyHash P ⟨⟨[nat_lit 80, nat_lit 101, nat_lit 114, nat_lit 109, nat_lit 105, nat_lit 115, nat_lit 115, nat_lit 105, nat_lit 111, nat_lit 110, nat_lit 69, nat_lit 114, nat_lit 114, nat_lit 111, nat_lit 114]⟩⟩, .str ⟨⟨[nat_lit 80, nat_lit 101, nat_lit 114, nat_lit 109, nat_lit 105, nat_lit 115, nat_lit 115, nat_lit 105, nat_lit 111, nat_lit 110, nat_lit 69, nat_lit 114, nat_lit 114, nat_lit 111, nat_lit 114]⟩⟩ (129 : Nat), .type PySem.W.SZ.s6668348653404991179x15⟩ :: ⟨PySem.PyData.keyHash P ⟨⟨[nat_lit 80, nat_lit 114, nat_lit 111, nat_lit 99, nat_lit 101, nat_lit 115, nat_lit 115, nat_lit 76, nat_lit 111, nat_lit 111, nat_lit 107, nat_lit 117, nat_lit 112, nat_lit 69, nat_lit 114, nat_lit 114, nat_lit 111, nat_lit 114]⟩⟩, .str ⟨⟨[nat_lit 80, nat_lit 114, nat_lit 111, nat_lit 99, nat_lit 101, nat_lit 115, nat_lit 115, nat_lit 76, nat_lit 111, nat_lit 111, nat_lit 107, nat_lit 117, nat_lit 112, nat_lit 69, nat_lit 114, nat_lit 114, nat_lit 111, nat_lit 114]⟩⟩ (130 : Nat), .type PySem.W.SZ.s12913350958174193794x18⟩ :: ⟨PySem.PyData.keyHash P ⟨⟨[nat_lit 84, nat_lit 105, nat_lit 109, nat_lit 101, nat_lit 111, nat_lit 117, nat_lit 116, nat_lit 69, nat_lit 114, nat_lit 114, nat_lit 111, nat_lit 114]⟩⟩, .str ⟨⟨[nat_lit 84, nat_lit 105, nat_lit 109, nat_lit 101, nat_lit 111, nat_lit 117, nat_lit 116, nat_lit 69, nat_lit 114, nat_lit 114, nat_lit 111, nat_lit 114]⟩⟩ (131 : Nat), .type PySem.W.SZ.s16115879512475548326x12⟩ :: ⟨PySem.PyData.keyHash P ⟨⟨[nat_lit 73, nat_lit 110, nat_lit 100, nat_lit 101, nat_lit 110, nat_lit 116, nat_lit 97, nat_lit 116, nat_lit 105, nat_lit 111, nat_lit 110, nat_lit 69, nat_lit 114, nat_lit 114, nat_lit 111, nat_lit 114]⟩⟩, .str ⟨⟨[nat_lit 73, nat_lit 110, nat_lit 100, nat_lit 101, nat_lit 110, nat_lit 116, nat_lit 97, nat_lit 116, nat_lit 105, nat_lit 111, nat_lit 110, nat_lit 69, nat_lit 114, nat_lit 114, nat_lit 111, nat_lit 114]⟩⟩ (132 : Nat), .type PySem.W.SZ.s15920661018069861047x16⟩ :: ⟨PySem.PyData.keyHash P ⟨⟨[nat_lit 95, nat_lit 73, nat_lit 110, nat_lit 99, nat_lit 111, nat_lit 109, nat_lit 112, nat_lit 108, nat_lit 101, nat_lit 116, nat_lit 101, nat_lit 73, nat_lit 110, nat_lit 112, nat_lit 117, nat_lit 116, nat_lit 69, nat_lit 114, nat_lit 114, nat_lit 111, nat_lit 114]⟩⟩, .str ⟨⟨[nat_lit 95, nat_lit 73, nat_lit 110, nat_lit 99, nat_lit 111, nat_lit 109, nat_lit 112, nat_lit 108, nat_lit 101, nat_lit 116, nat_lit 101, nat_lit 73, nat_lit 110, nat_lit 112, nat_lit 117, nat_lit 116, nat_lit 69, nat_lit 114, nat_lit 114, nat_lit 111, nat_lit 114]⟩⟩ (133 : Nat), .type PySem.W.SZ.s10779130036587390575x21⟩ :: ⟨PySem.PyData.keyHash P ⟨⟨[nat_lit 73, nat_lit 110, nat_lit 100, nat_lit 101, nat_lit 120, nat_lit 69, nat_lit 114, nat_lit 114, nat_lit 111, nat_lit 114]⟩⟩, .str ⟨⟨[nat_lit 73, nat_lit 110, nat_lit 100, nat_lit 101, nat_lit 120, nat_lit 69, nat_lit 114, nat_lit 114, nat_lit 111, nat_lit 114]⟩⟩ (134 : Nat), .type PySem.W.SZ.s7801419657504700863x10⟩ :: ⟨PySem.PyData.keyHash P ⟨⟨[nat_lit 75, nat_lit 101, nat_lit 121, nat_lit 69, nat_lit 114, nat_lit 114, nat_lit 111, nat_lit 114]⟩⟩, .str ⟨⟨[nat_lit 75, nat_lit 101, nat_lit 121, nat_lit 69, nat_lit 114, nat_lit 114, nat_lit 111, nat_lit 114]⟩⟩ (135 : Nat), .type PySem.W.SZ.s1688129525768580628x8⟩ :: ⟨PySem.PyData.keyHash P ⟨⟨[nat_lit 77, nat_lit 111, nat_lit 100, nat_lit 117, nat_lit 108, nat_lit 101, nat_lit 78, nat_lit 111, nat_lit 116, nat_lit 70, nat_lit 111, nat_lit 117, nat_lit 110, nat_lit 100, nat_lit 69, nat_lit 114, nat_lit 114, nat_lit 111, nat_lit 114]⟩⟩, .str ⟨⟨[nat_lit 77, nat_lit 111, nat_lit 100, nat_lit 117, nat_lit 108, nat_lit 101, nat_lit 78, nat_lit 111, nat_lit 116, nat_lit 70, nat_lit 111, nat_lit 117, nat_lit 110, nat_lit 100, nat_lit 69, nat_lit 114, nat_lit 114, nat_lit 111, nat_lit 114]⟩⟩ (136 : Nat), .type PySem.W.SZ.s1031832959479892071x19⟩ :: ⟨PySem.PyData.keyHash P ⟨⟨[nat_lit 78, nat_lit 111, nat_lit 116, nat_lit 73, nat_lit 109, nat_lit 112, nat_lit 108, nat_lit 101, nat_lit 109, nat_lit 101, nat_lit 110, nat_lit 116, nat_lit 101, nat_lit 100, nat_lit 69, nat_lit 114, nat_lit 114, nat_lit 111, nat_lit 114]⟩⟩, .str ⟨⟨[nat_lit 78, nat_lit 111, nat_lit 116, nat_lit 73, nat_lit 109, nat_lit 112, nat_lit 108, nat_lit 101, nat_lit 109, nat_lit 101, nat_lit 110, nat_lit 116, nat_lit 101, nat_lit 100, nat_lit 69, nat_lit 114, nat_lit 114, nat_lit 111, nat_lit 114]⟩⟩ (137 : Nat), .type PySem.W.SZ.s8991790508128307865x19⟩ :: ⟨PySem.PyData.keyHash P ⟨⟨[nat_lit 80, nat_lit 121, nat_lit 116, nat_lit 104, nat_lit 111, nat_lit 110, nat_lit 70, nat_lit 105, nat_lit 110, nat_lit 97, nat_lit 108, nat_lit 105, nat_lit 122, nat_lit 97, nat_lit 116, nat_lit 105, nat_lit 111, nat_lit 110, nat_lit 69, nat_lit 114, nat_lit 114, nat_lit 111, nat_lit 114]⟩⟩, .str ⟨⟨[nat_lit 80, nat_lit 121, nat_lit 116, nat_lit 104, nat_lit 111, nat_lit 110, nat_lit 70, nat_lit 105, nat_lit 110, nat_lit 97, nat_lit 108, nat_lit 105, nat_lit 122, nat_lit 97, nat_lit 116, nat_lit 105, nat_lit 111, nat_lit 110, nat_lit 69, nat_lit 114, nat_lit 114, nat_lit 111, nat_lit 114]⟩⟩ (138 : Nat), .type PySem.W.SZ.s14539662485746970245x23⟩ :: ⟨PySem.PyData.keyHash P ⟨⟨[nat_lit 82, nat_lit 101, nat_lit 99, nat_lit 117, nat_lit 114, nat_lit 115, nat_lit 105, nat_lit 111, nat_lit 110, nat_lit 69, nat_lit 114, nat_lit 114, nat_lit 111, nat_lit 114]⟩⟩, .str ⟨⟨[nat_lit 82, nat_lit 101, nat_lit 99, nat_lit 117, nat_lit 114, nat_lit 115, nat_lit 105, nat_lit 111, nat_lit 110, nat_lit 69, nat_lit 114, nat_lit 114, nat_lit 111, nat_lit 114]⟩⟩ (139 : Nat), .type PySem.W.SZ.s11643622729373238714x14⟩ :: ⟨PySem.PyData.keyHash P ⟨⟨[nat_lit 85, nat_lit 110, nat_lit 98, nat_lit 111, nat_lit 117, nat_lit 110, nat_lit 100, nat_lit 76, nat_lit 111, nat_lit 99, nat_lit 97, nat_lit 108, nat_lit 69, nat_lit 114, nat_lit 114, nat_lit 111, nat_lit 114]⟩⟩, .str ⟨⟨[nat_lit 85, nat_lit 110, nat_lit 98, nat_lit 111, nat_lit 117, nat_lit 110, nat_lit 100, nat_lit 76, nat_lit 111, nat_lit 99, nat_lit 97, nat_lit 108, nat_lit 69, nat_lit 114, nat_lit 114, nat_lit 111, nat_lit 114]⟩⟩ (140 : Nat), .type PySem.W.SZ.s3386828779285465597x17⟩ :: ⟨PySem.PyData.keyHash P ⟨⟨[nat_lit 85, nat_lit 110, nat_lit 105, nat_lit 99, nat_lit 111, nat_lit 100, nat_lit 101, nat_lit 69, nat_lit 114, nat_lit 114, nat_lit 111, nat_lit 114]⟩⟩, .str ⟨⟨[nat_lit 85, nat_lit 110, nat_lit 105, nat_lit 99, nat_lit 111, nat_lit 100, nat_lit 101, nat_lit 69, nat_lit 114, nat_lit 114, nat_lit 111, nat_lit 114]⟩⟩ (141 : Nat), .type PySem.W.SZ.s13042696260734638735x12⟩ :: ⟨PySem.PyData.keyHash P ⟨⟨[nat_lit 66, nat_lit 114, nat_lit 111, nat_lit 107, nat_lit 101, nat_lit 110, nat_lit 80, nat_lit 105, nat_lit 112, nat_lit 101, nat_lit 69, nat_lit 114, nat_lit 114, nat_lit 111, nat_lit 114]⟩⟩, .str ⟨⟨[nat_lit 66, nat_lit 114, nat_lit 111, nat_lit 107, nat_lit 101, nat_lit 110, nat_lit 80, nat_lit 105, nat_lit 112, nat_lit 101, nat_lit 69, nat_lit 114, nat_lit 114, nat_lit 111, nat_lit 114]⟩⟩ (142 : Nat), .type PySem.W.SZ.s18239426817015966623x15⟩ :: ⟨PySem.PyData.keyHash P ⟨⟨[nat_lit 67, nat_lit 111, nat_lit 110, nat_lit 110, nat_lit 101, nat_lit 99, nat_lit 116, nat_lit 105, nat_lit 111, nat_lit 110, nat_lit 65, nat_lit 98, nat_lit 111, nat_lit 114, nat_lit 116, nat_lit 101, nat_lit 100, nat_lit 69, nat_lit 114, nat_lit 114, nat_lit 111, nat_lit 114]⟩⟩, .str ⟨⟨[nat_lit 67, nat_lit 111, nat_lit 110, nat_lit 110, nat_lit 101, nat_lit 99, nat_lit 116, nat_lit 105, nat_lit 111, nat_lit 110, nat_lit 65, nat_lit 98, nat_lit 111, nat_lit 114, nat_lit 116, nat_lit 101, nat_lit 100, nat_lit 69, nat_lit 114, nat_lit 114, nat_lit 111, nat_lit 114]⟩⟩ (143 : Nat), .type PySem.W.SZ.s1270395311379034370x22⟩ :: ⟨PySem.PyData.keyHash P ⟨⟨[nat_lit 67, nat_lit 111, nat_lit 110, nat_lit 110, nat_lit 101, nat_lit 99, nat_lit 116, nat_lit 105, nat_lit 111, nat_lit 110, nat_lit 82, nat_lit 101, nat_lit 102, nat_lit 117, nat_lit 115, nat_lit 101, nat_lit 100, nat_lit 69, nat_lit 114, nat_lit 114, nat_lit 111, nat_lit 114]⟩⟩, .str ⟨⟨[nat_lit 67, nat_lit 111, nat_lit 110, nat_lit 110, nat_lit 101, nat_lit 99, nat_lit 116, nat_lit 105, nat_lit 111, nat_lit 110, nat_lit 82, nat_lit 101, nat_lit 102, nat_lit 117, nat_lit 115, nat_lit 101, nat_lit 100, nat_lit 69, nat_lit 114, nat_lit 114, nat_lit 111, nat_lit 114]⟩⟩ (144 : Nat), .type PySem.W.SZ.s10696252587037064777x22⟩ :: ⟨PySem.PyData.keyHash P ⟨⟨[nat_lit 67, nat_lit 111, nat_lit 110, nat_lit 110, nat_lit 101, nat_lit 99, nat_lit 116, nat_lit 105, nat_lit 111, nat_lit 110, nat_lit 82, nat_lit 101, nat_lit 115, nat_lit 101, nat_lit 116, nat_lit 69, nat_lit 114, nat_lit 114, nat_lit 111, nat_lit 114]⟩⟩, .str ⟨⟨[nat_lit 67, nat_lit 111, nat_lit 110, nat_lit 110, nat_lit 101, nat_lit 99, nat_lit 116, nat_lit 105, nat_lit 111, nat_lit 110, nat_lit 82, nat_lit 101, nat_lit 115, nat_lit 101, nat_lit 116, nat_lit 69, nat_lit 114, nat_lit 114, nat_lit 111, nat_lit 114]⟩⟩ (145 : Nat), .type PySem.W.SZ.s7852717498200857586x20⟩ :: ⟨PySem.PyData.keyHash P ⟨⟨[nat_lit 84, nat_lit 97, nat_lit 98, nat_lit 69, nat_lit 114, nat_lit 114, nat_lit 111, nat_lit 114]⟩⟩, .str ⟨⟨[nat_lit 84, nat_lit 97, nat_lit 98, nat_lit 69, nat_lit 114, nat_lit 114, nat_lit 111, nat_lit 114]⟩⟩ (146 : Nat), .type PySem.W.SZ.s6377248116197321094x8⟩ :: ⟨PySem.PyData.keyHash P ⟨⟨[nat_lit 85, nat_lit 110, nat_lit 105, nat_lit 99, nat_lit 111, nat_lit 100, nat_lit 101, nat_lit 68, nat_lit 101, nat_lit 99, nat_lit 111, nat_lit 100, nat_lit 101, nat_lit 69, nat_lit 114, nat_lit 114, nat_lit 111, nat_lit 114]⟩⟩, .str ⟨⟨[nat_lit 85, nat_lit 110, nat_lit 105, nat_lit 99, nat_lit 111, nat_lit 100, nat_lit 101, nat_lit 68, nat_lit 101, nat_lit 99, nat_lit 111, nat_lit 100, nat_lit 101, nat_lit 69, nat_lit 114, nat_lit 114, nat_lit 111, nat_lit 114]⟩⟩ (147 : Nat), .type PySem.W.SZ.s3834378056692298002x18⟩ :: ⟨PySem.PyData.keyHash P ⟨⟨[nat_lit 85, nat_lit 110, nat_lit 105, nat_lit 99, nat_lit 111, nat_lit 100, nat_lit 101, nat_lit 69, nat_lit 110, nat_lit 99, nat_lit 111, nat_lit 100, nat_lit 101, nat_lit 69, nat_lit 114, nat_lit 114, nat_lit 111, nat_lit 114]⟩⟩, .str ⟨⟨[nat_lit 85, nat_lit 110, nat_lit 105, nat_lit 99, nat_lit 111, nat_lit 100, nat_lit 101, nat_lit 69, nat_lit 110, nat_lit 99, nat_lit 111, nat_lit 100, nat_lit 101, nat_lit 69, nat_lit 114, nat_lit 114, nat_lit 111, nat_lit 114]⟩⟩ (148 : Nat), .type PySem.W.SZ.s17586630440231065808x18⟩ :: ⟨PySem.PyData.keyHash P ⟨⟨[nat_lit 85, nat_lit 110, nat_lit 105, nat_lit 99, nat_lit 111, nat_lit 100, nat_lit 101, nat_lit 84, nat_lit 114, nat_lit 97, nat_lit 110, nat_lit 115, nat_lit 108, nat_lit 97, nat_lit 116, nat_lit 101, nat_lit 69, nat_lit 114, nat_lit 114, nat_lit 111, nat_lit 114]⟩⟩, .str ⟨⟨[nat_lit 85, nat_lit 110, nat_lit 105, nat_lit 99, nat_lit 111, nat_lit 100, nat_lit 101, nat_lit 84, nat_lit 114, nat_lit 97, nat_lit 110, nat_lit 115, nat_lit 108, nat_lit 97, nat_lit 116, nat_lit 101, nat_lit 69, nat_lit 114, nat_lit 114, nat_lit 111, nat_lit 114]⟩⟩ (149 : Nat), .type PySem.W.SZ.s15234114252648025395x21⟩ :: ⟨PySem.PyData.keyHash P ⟨⟨[nat_lit 69, nat_lit 120, nat_lit 99, nat_lit 101, nat_lit 112, nat_lit 116, nat_lit 105, nat_lit 111, nat_lit 110, nat_lit 71, nat_lit 114, nat_lit 111, nat_lit 117, nat_lit 112]⟩⟩, .str ⟨⟨[nat_lit 69, nat_lit 120, nat_lit 99, nat_lit 101, nat_lit 112, nat_lit 116, nat_lit 105, nat_lit 111, nat_lit 110, nat_lit 71, nat_lit 114, nat_lit 111, nat_lit 117, nat_lit 112]⟩⟩ (150 : Nat), .type PySem.W.SZ.s8496462677383758984x14⟩ :: ⟨PySem.PyData.keyHash P ⟨⟨[nat_lit 69, nat_lit 110, nat_lit 118, nat_lit 105, nat_lit 114, nat_lit 111, nat_lit 110, nat_lit 109, nat_lit 101, nat_lit 110, nat_lit 116, nat_lit 69, nat_lit 114, nat_lit 114, nat_lit 111, nat_lit 114]⟩⟩, .str ⟨⟨[nat_lit 69, nat_lit 110, nat_lit 118, nat_lit 105, nat_lit 114, nat_lit 111, nat_lit 110, nat_lit 109, nat_lit 101, nat_lit 110, nat_lit 116, nat_lit 69, nat_lit 114, nat_lit 114, nat_lit 111, nat_lit 114]⟩⟩ (151 : Nat), .type PySem.W.SZ.s10852414792293593619x7⟩ :: ⟨PySem.PyData.keyHash P ⟨⟨[nat_lit 73, nat_lit 79, nat_lit 69, nat_lit 114, nat_lit 114, nat_lit 111, nat_lit 114]⟩⟩, .str ⟨⟨[nat_lit 73, nat_lit 79, nat_lit 69, nat_lit 114, nat_lit 114, nat_lit 111, nat_lit 114]⟩⟩ (152 : Nat), .type PySem.W.SZ.s10852414792293593619x7⟩ :: ⟨PySem.PyData.keyHash P ⟨⟨[nat_lit 111, nat_lit 112, nat_lit 101, nat_lit 110]⟩⟩, .str ⟨⟨[nat_lit 111, nat_lit 112, nat_lit 101, nat_lit 110]⟩⟩ (153 : Nat), .builtin PySem.W.SZ.s16789243406116112673x4⟩ :: ⟨PySem.PyData.keyHash P ⟨⟨[nat_lit 113, nat_lit 117, nat_lit 105, nat_lit 116]⟩⟩, .str ⟨⟨[nat_lit 113, nat_lit 117, nat_lit 105, nat_lit 116]⟩⟩ (154 : Nat), .builtin PySem.W.SZ.s14400166428656793546x20⟩ :: ⟨PySem.PyData.keyHash P ⟨⟨[nat_lit 101, nat_lit 120, nat_lit 105, nat_lit 116]⟩⟩, .str ⟨⟨[nat_lit 101, nat_lit 120, nat_lit 105, nat_lit 116]⟩⟩ (155 : Nat), .builtin PySem.W.SZ.s5857708277339239366x20⟩ :: ⟨PySem.PyData.keyHash P ⟨⟨[nat_lit 99, nat_lit 111, nat_lit 112, nat_lit 121, nat_lit 114, nat_lit 105, nat_lit 103, nat_lit 104, nat_lit 116]⟩⟩, .str ⟨⟨[nat_lit 99, nat_lit 111, nat_lit 112, nat_lit 121, nat_lit 114, nat_lit 105, nat_lit 103, nat_lit 104, nat_lit 116]⟩⟩ (156 : Nat), .builtin "builtins.copyright#opaque"⟩ :: ⟨PySem.PyData.keyHash P ⟨⟨[nat_lit 99, nat_lit 114, nat_lit 101, nat_lit 100, nat_lit 105, nat_lit 116, nat_lit 115]⟩⟩, .str ⟨⟨[nat_lit 99, nat_lit 114, nat_lit 101, nat_lit 100, nat_lit 105, nat_lit 116, nat_lit 115]⟩⟩ (157 : Nat), .builtin "builtins.credits#opaque"⟩ :: ⟨PySem.PyData.keyHash P ⟨⟨[nat_lit 108, nat_lit 105, nat_lit 99, nat_lit 101, nat_lit 110, nat_lit 115, nat_lit 101]⟩⟩, .str ⟨⟨[nat_lit 108, nat_lit 105, nat_lit 99, nat_lit 101, nat_lit 110, nat_lit 115, nat_lit 101]⟩⟩ (158 : Nat), .builtin "builtins.license#opaque"⟩ :: ⟨PySem.PyData.keyHash P ⟨⟨[nat_lit 104, nat_lit 101, nat_lit 108, nat_lit 112]⟩⟩, .str ⟨⟨[nat_lit 104, nat_lit 101, nat_lit 108, nat_lit 112]⟩⟩ (159 : Nat), .builtin PySem.W.SZ.s7804999707787243718x20⟩ :: [])) (159 : Nat), #[]⟩
noncomputable def hd.z1 : Params → Obj := fun P => ⟨.type PySem.W.SZ.s14018661285674007319x4, (none : Option Nat), .dict #[⟨PySem.PyData.keyHash P ⟨⟨[nat_lit 98, nat_lit 117, nat_lit 105, nat_lit 108, nat_lit 116, nat_lit 105, nat_lit 110, nat_lit 115]⟩⟩, .str ⟨⟨[nat_lit 98, nat_lit 117, nat_lit 105, nat_lit 108, nat_lit 116, nat_lit 105, nat_lit 110, nat_lit 115]⟩⟩ (162 : Nat), .ref (4 : Nat)⟩, ⟨PySem.PyData.keyHash P ⟨⟨[nat_lit 95, nat_lit 95, nat_lit 109, nat_lit 97, nat_lit 105, nat_lit 110, nat_lit 95, nat_lit 95]⟩⟩, .str ⟨⟨[nat_lit 95, nat_lit 95, nat_lit 109, nat_lit 97, nat_lit 105, nat_lit 110, nat_lit 95, nat_lit 95]⟩⟩ (163 : Nat), .ref (5 : Nat)⟩] (2 : Nat), #[]⟩
noncomputable def hd.z2 : Params → Obj := fun P => ⟨.none, (none : Option Nat), .dict #[⟨PySem.PyData.keyHash P ⟨⟨[nat_lit 116, nat_lit 121, nat_lit 112, nat_lit 101, nat_lit 46, nat_lit 95, nat_lit 95, nat_lit 115, nat_lit 117, nat_lit 98, nat_lit 99, nat_lit 108, nat_lit 97, nat_lit 115, nat_lit 115, nat_lit 101, nat_lit 115, nat_lit 95, nat_lit 95, nat_lit 46, nat_lit 69, nat_lit 120, nat_lit 99, nat_lit 101, nat_lit 112, nat_lit 116, nat_lit 105, nat_lit 111, nat_lit 110, nat_lit 46, nat_lit 48]⟩⟩, .str ⟨⟨[nat_lit 116, nat_lit 121, nat_lit 112, nat_lit 101, nat_lit 46, nat_lit 95, nat_lit 95, nat_lit 115, nat_lit 117, nat_lit 98, nat_lit 99, nat_lit 108, nat_lit 97, nat_lit 115, nat_lit 115, nat_lit 101, nat_lit 115, nat_lit 95, nat_lit 95, nat_lit 46, nat_lit 69, nat_lit 120, nat_lit 99, nat_lit 101, nat_lit 112, nat_lit 116, nat_lit 105, nat_lit 111, nat_lit 110, nat_lit 46, nat_lit 48]⟩⟩ (253 : Nat), .int 61 (0 : Nat)⟩, ⟨PySem.PyData.keyHash P ⟨⟨[nat_lit 116, nat_lit 121, nat_lit 112, nat_lit 101, nat_lit 46, nat_lit 95, nat_lit 95, nat_lit 115, nat_lit 117, nat_lit 98, nat_lit 99, nat_lit 108, nat_lit 97, nat_lit 115, nat_lit 115, nat_lit 101, nat_lit 115, nat_lit 95, nat_lit 95, nat_lit 46, nat_lit 69, nat_lit 120, nat_lit 99, nat_lit 101, nat_lit 112, nat_lit 116, nat_lit 105, nat_lit 111, nat_lit 110, nat_lit 46, nat_lit 110]⟩⟩, .str ⟨⟨[nat_lit 116, nat_lit 121, nat_lit 112, nat_lit 101, nat_lit 46, nat_lit 95, nat_lit 95, nat_lit 115, nat_lit 117, nat_lit 98, nat_lit 99, nat_lit 108, nat_lit 97, nat_lit 115, nat_lit 115, nat_lit 101, nat_lit 115, nat_lit 95, nat_lit 95, nat_lit 46, nat_lit 69, nat_lit 120, nat_lit 99, nat_lit 101, nat_lit 112, nat_lit 116, nat_lit 105, nat_lit 111, nat_lit 110, nat_lit 46, nat_lit 110]⟩⟩ (254 : Nat), .int 1 (0 : Nat)⟩] (2 : Nat), #[]⟩
noncomputable def hd.z3 : Params → Obj := by
  refine' (?F : ∀ (s0 : Str), (hd.cStr (hd.stAt hd.twB 8)) = s0 → Params → Obj) _ ?h0
  case h0 => (conv => lhs; whnf) <;> rfl
  case F => exact fun s0 _ => fun P => ⟨.type PySem.W.SZ.s14018661285674007319x4, (none : Option Nat), .dict (List.toArray (⟨PySem.PyData.keyHash P ⟨⟨[nat_lit 95, nat_lit 95, nat_lit 110, nat_lit 97, nat_lit 109, nat_lit 101, nat_lit 95, nat_lit 95]⟩⟩, .str ⟨⟨[nat_lit 95, nat_lit 95, nat_lit 110, nat_lit 97, nat_lit 109, nat_lit 101, nat_lit 95, nat_lit 95]⟩⟩ (165 : Nat), .str ⟨⟨[nat_lit 108, nat_lit 97, nat_lit 119, nat_lit 95, nat_lit 112, nat_lit 98, nat_lit 48, nat_lit 50, nat_lit 53, nat_lit 48, nat_lit 95, nat_lit 48, nat_lit 49]⟩⟩ (532 : Nat)⟩ :: ⟨PySem.PyData.keyHash P ⟨⟨[nat_lit 95, nat_lit 95, nat_lit 100, nat_lit 111, nat_lit 99, nat_lit 95, nat_lit 95]⟩⟩, .str ⟨⟨[nat_lit 95, nat_lit 95, nat_lit 100, nat_lit 111, nat_lit 99, nat_lit 95, nat_lit 95]⟩⟩ (166 : Nat), .none⟩ :: ⟨PySem.PyData.keyHash P ⟨⟨[nat_lit 95, nat_lit 95, nat_lit 112, nat_lit 97, nat_lit 99, nat_lit 107, nat_lit 97, nat_lit 103, nat_lit 101, nat_lit 95, nat_lit 95]⟩⟩, .str ⟨⟨[nat_lit 95, nat_lit 95, nat_lit 112, nat_lit 97, nat_lit 99, nat_lit 107, nat_lit 97, nat_lit 103, nat_lit 101, nat_lit 95, nat_lit 95]⟩⟩ (167 : Nat), .none⟩ :: ⟨PySem.PyData.keyHash P ⟨⟨[nat_lit 95, nat_lit 95, nat_lit 108, nat_lit 111, nat_lit 97, nat_lit 100, nat_lit 101, nat_lit 114, nat_lit 95, nat_lit 95]⟩⟩, .str ⟨⟨[nat_lit 95, nat_lit 95, nat_lit 108, nat_lit 111, nat_lit 97, nat_lit 100, nat_lit 101, nat_lit 114, nat_lit 95, nat_lit 95]⟩⟩ (168 : Nat), .builtin PySem.W.SZ.s7097527257260152453x26⟩ :: ⟨PySem.PyData.keyHash P ⟨⟨[nat_lit 95, nat_lit 95, nat_lit 115, nat_lit 112, nat_lit 101, nat_lit 99, nat_lit 95, nat_lit 95]⟩⟩, .str ⟨⟨[nat_lit 95, nat_lit 95, nat_lit 115, nat_lit 112, nat_lit 101, nat_lit 99, nat_lit 95, nat_lit 95]⟩⟩ (169 : Nat), .none⟩ :: ⟨PySem.PyData.keyHash P ⟨⟨[nat_lit 95, nat_lit 95, nat_lit 97, nat_lit 110, nat_lit 110, nat_lit 111, nat_lit 116, nat_lit 97, nat_lit 116, nat_lit 105, nat_lit 111, nat_lit 110, nat_lit 115, nat_lit 95, nat_lit 95]⟩⟩, .str ⟨⟨[nat_lit 95, nat_lit 95, nat_lit 97, nat_lit 110, nat_lit 110, nat_lit 111, nat_lit 116, nat_lit 97, nat_lit 116, nat_lit 105, nat_lit 111, nat_lit 110, nat_lit 115, nat_lit 95, nat_lit 95]⟩⟩ (170 : Nat), .ref (6 : Nat)⟩ :: ⟨PySem.PyData.keyHash P ⟨⟨[nat_lit 95, nat_lit 95, nat_lit 98, nat_lit 117, nat_lit 105, nat_lit 108, nat_lit 116, nat_lit 105, nat_lit 110, nat_lit 115, nat_lit 95, nat_lit 95]⟩⟩, .str ⟨⟨[nat_lit 95, nat_lit 95, nat_lit 98, nat_lit 117, nat_lit 105, nat_lit 108, nat_lit 116, nat_lit 105, nat_lit 110, nat_lit 115, nat_lit 95, nat_lit 95]⟩⟩ (171 : Nat), .ref (4 : Nat)⟩ :: ⟨PySem.PyData.keyHash P ⟨⟨[nat_lit 95, nat_lit 95, nat_lit 102, nat_lit 105, nat_lit 108, nat_lit 101, nat_lit 95, nat_lit 95]⟩⟩, .str ⟨⟨[nat_lit 95, nat_lit 95, nat_lit 102, nat_lit 105, nat_lit 108, nat_lit 101, nat_lit 95, nat_lit 95]⟩⟩ (173 : Nat), .str ⟨⟨[nat_lit 47, nat_lit 99, nat_lit 108, nat_lit 97, nat_lit 105, nat_lit 109, nat_lit 47, nat_lit 99, nat_lit 117, nat_lit 116, nat_lit 46, nat_lit 112, nat_lit 121]⟩⟩ (172 : Nat)⟩ :: ⟨PySem.PyData.keyHash P ⟨⟨[nat_lit 95, nat_lit 95, nat_lit 99, nat_lit 97, nat_lit 99, nat_lit 104, nat_lit 101, nat_lit 100, nat_lit 95, nat_lit 95]⟩⟩, .str ⟨⟨[nat_lit 95, nat_lit 95, nat_lit 99, nat_lit 97, nat_lit 99, nat_lit 104, nat_lit 101, nat_lit 100, nat_lit 95, nat_lit 95]⟩⟩ (174 : Nat), .none⟩ :: ⟨PySem.PyData.keyHash P ⟨⟨[nat_lit 95, nat_lit 119, nat_lit 97, nat_lit 108, nat_lit 108]⟩⟩, .str ⟨⟨[nat_lit 95, nat_lit 119, nat_lit 97, nat_lit 108, nat_lit 108]⟩⟩ (193 : Nat), .ref (21 : Nat)⟩ :: ⟨PySem.PyData.keyHash P ⟨⟨[nat_lit 100, nat_lit 105, nat_lit 114, nat_lit 101, nat_lit 99, nat_lit 116, nat_lit 105, nat_lit 111, nat_lit 110, nat_lit 95, nat_lit 104, nat_lit 101, nat_lit 114, nat_lit 101]⟩⟩, .str ⟨⟨[nat_lit 100, nat_lit 105, nat_lit 114, nat_lit 101, nat_lit 99, nat_lit 116, nat_lit 105, nat_lit 111, nat_lit 110, nat_lit 95, nat_lit 104, nat_lit 101, nat_lit 114, nat_lit 101]⟩⟩ (204 : Nat), .ref (28 : Nat)⟩ :: ⟨PySem.PyData.keyHash P ⟨⟨[nat_lit 114, nat_lit 101, nat_lit 97, nat_lit 100, nat_lit 95, nat_lit 107, nat_lit 101, nat_lit 121, nat_lit 115]⟩⟩, .str ⟨⟨[nat_lit 114, nat_lit 101, nat_lit 97, nat_lit 100, nat_lit 95, nat_lit 107, nat_lit 101, nat_lit 121, nat_lit 115]⟩⟩ (214 : Nat), .ref (35 : Nat)⟩ :: ⟨PySem.PyData.keyHash P ⟨⟨[nat_lit 76, nat_lit 101, nat_lit 100, nat_lit 103, nat_lit 101, nat_lit 114, nat_lit 69, nat_lit 114, nat_lit 114, nat_lit 111, nat_lit 114]⟩⟩, .str ⟨⟨[nat_lit 76, nat_lit 101, nat_lit 100, nat_lit 103, nat_lit 101, nat_lit 114, nat_lit 69, nat_lit 114, nat_lit 114, nat_lit 111, nat_lit 114]⟩⟩ (256 : Nat), .ref (61 : Nat)⟩ :: ⟨PySem.PyData.keyHash P ⟨⟨[nat_lit 71, nat_lit 114, nat_lit 97, nat_lit 109, nat_lit 109, nat_lit 97, nat_lit 114, nat_lit 70, nat_lit 97, nat_lit 117, nat_lit 108, nat_lit 116]⟩⟩, .str ⟨⟨[nat_lit 71, nat_lit 114, nat_lit 97, nat_lit 109, nat_lit 109, nat_lit 97, nat_lit 114, nat_lit 70, nat_lit 97, nat_lit 117, nat_lit 108, nat_lit 116]⟩⟩ (272 : Nat), .ref (74 : Nat)⟩ :: ⟨PySem.PyData.keyHash P ⟨⟨[nat_lit 82, nat_lit 69, nat_lit 83, nat_lit 69, nat_lit 82, nat_lit 86, nat_lit 69, nat_lit 68]⟩⟩, .str ⟨⟨[nat_lit 82, nat_lit 69, nat_lit 83, nat_lit 69, nat_lit 82, nat_lit 86, nat_lit 69, nat_lit 68]⟩⟩ (276 : Nat), .str s0 (275 : Nat)⟩ :: ⟨PySem.PyData.keyHash P ⟨⟨[nat_lit 105, nat_lit 115, nat_lit 95, nat_lit 114, nat_lit 101, nat_lit 115, nat_lit 101, nat_lit 114, nat_lit 118, nat_lit 101, nat_lit 100]⟩⟩, .str ⟨⟨[nat_lit 105, nat_lit 115, nat_lit 95, nat_lit 114, nat_lit 101, nat_lit 115, nat_lit 101, nat_lit 114, nat_lit 118, nat_lit 101, nat_lit 100]⟩⟩ (283 : Nat), .ref (83 : Nat)⟩ :: ⟨PySem.PyData.keyHash P ⟨⟨[nat_lit 82, nat_lit 101, nat_lit 97, nat_lit 100, nat_lit 101, nat_lit 114]⟩⟩, .str ⟨⟨[nat_lit 82, nat_lit 101, nat_lit 97, nat_lit 100, nat_lit 101, nat_lit 114]⟩⟩ (485 : Nat), .ref (252 : Nat)⟩ :: ⟨PySem.PyData.keyHash P ⟨⟨[nat_lit 84, nat_lit 111, nat_lit 107, nat_lit 101, nat_lit 110]⟩⟩, .str ⟨⟨[nat_lit 84, nat_lit 111, nat_lit 107, nat_lit 101, nat_lit 110]⟩⟩ (531 : Nat), .ref (282 : Nat)⟩ :: ⟨PySem.PyData.keyHash P ⟨⟨[nat_lit 95, nat_lit 108, nat_lit 97, nat_lit 119, nat_lit 95, nat_lit 112, nat_lit 104, nat_lit 114, nat_lit 97, nat_lit 115, nat_lit 101]⟩⟩, .str ⟨⟨[nat_lit 95, nat_lit 108, nat_lit 97, nat_lit 119, nat_lit 95, nat_lit 112, nat_lit 104, nat_lit 114, nat_lit 97, nat_lit 115, nat_lit 101]⟩⟩ (542 : Nat), .ref (293 : Nat)⟩ :: ⟨PySem.PyData.keyHash P ⟨⟨[nat_lit 95, nat_lit 108, nat_lit 97, nat_lit 119, nat_lit 95, nat_lit 114, nat_lit 101, nat_lit 97, nat_lit 100]⟩⟩, .str ⟨⟨[nat_lit 95, nat_lit 108, nat_lit 97, nat_lit 119, nat_lit 95, nat_lit 114, nat_lit 101, nat_lit 97, nat_lit 100]⟩⟩ (548 : Nat), .ref (298 : Nat)⟩ :: ⟨PySem.PyData.keyHash P ⟨⟨[nat_lit 108, nat_lit 97, nat_lit 119]⟩⟩, .str ⟨⟨[nat_lit 108, nat_lit 97, nat_lit 119]⟩⟩ (554 : Nat), .ref (303 : Nat)⟩ :: [])) (21 : Nat), #[]⟩
noncomputable def hd.z4 : Params → Obj := fun P => ⟨.type PySem.W.SZ.s6658869562736209489x6, (Option.some (0 : Nat) : Option Nat), .plain, #[]⟩
noncomputable def hd.z5 : Params → Obj := fun P => ⟨.type PySem.W.SZ.s6658869562736209489x6, (Option.some (3 : Nat) : Option Nat), .plain, #[]⟩
noncomputable def hd.z6 : Params → Obj := fun P => ⟨.type PySem.W.SZ.s14018661285674007319x4, (none : Option Nat), .dict #[] (0 : Nat), #[]⟩
noncomputable def hd.z7 : Params → Obj := fun P => ⟨.type PySem.W.SZ.s2766695959194262286x5, (none : Option Nat), .seq #[] (0 : Nat), #[]⟩
noncomputable def hd.z8 : Params → Obj := fun P => ⟨.none, (none : Option Nat), .fields #[], #[]⟩
noncomputable def hd.z9 : Params → Obj := fun P => ⟨.type PySem.W.SZ.s5856160107412720595x4, (none : Option Nat), .fields #[.str ⟨⟨[nat_lit 60, nat_lit 109, nat_lit 111, nat_lit 100, nat_lit 117, nat_lit 108, nat_lit 101, nat_lit 62]⟩⟩ (176 : Nat), .str ⟨⟨[nat_lit 60, nat_lit 109, nat_lit 111, nat_lit 100, nat_lit 117, nat_lit 108, nat_lit 101, nat_lit 62]⟩⟩ (177 : Nat), .str ⟨⟨[nat_lit 47, nat_lit 99, nat_lit 108, nat_lit 97, nat_lit 105, nat_lit 109, nat_lit 47, nat_lit 99, nat_lit 117, nat_lit 116, nat_lit 46, nat_lit 112, nat_lit 121]⟩⟩ (178 : Nat), .int 1 (0 : Nat), .int 0 (0 : Nat), .int 0 (0 : Nat), .int 0 (0 : Nat), .int 0 (0 : Nat), .ref (7 : Nat), .bool false, .int 175 (0 : Nat), .ref (8 : Nat), .none, .none, .none, .none, .int 179 (0 : Nat), .int 1 (0 : Nat), .str ⟨⟨[nat_lit 47, nat_lit 99, nat_lit 108, nat_lit 97, nat_lit 105, nat_lit 109, nat_lit 47, nat_lit 99, nat_lit 117, nat_lit 116, nat_lit 46, nat_lit 112, nat_lit 121]⟩⟩ (180 : Nat)], #[]⟩
noncomputable def hd.z10 : Params → Obj := fun P => ⟨.type PySem.W.SZ.s658472552662922059x5, (none : Option Nat), .plain, #[Option.some (.ref (9 : Nat)), Option.some (.ref (3 : Nat)), Option.some (.ref (3 : Nat)), none, Option.some (.str ⟨⟨[nat_lit 95, nat_lit 95, nat_lit 109, nat_lit 97, nat_lit 105, nat_lit 110, nat_lit 95, nat_lit 95]⟩⟩ (164 : Nat)), none, Option.some (.ref (0 : Nat))]⟩
noncomputable def hd.z11 : Params → Obj := fun P => ⟨.type PySem.W.SZ.s2766695959194262286x5, (none : Option Nat), .seq #[] (0 : Nat), #[]⟩
noncomputable def hd.z12 : Params → Obj := fun P => ⟨.none, (none : Option Nat), .fields (List.toArray ((.int 1 (0 : Nat)) :: (.int 0 (0 : Nat)) :: (.ref (20 : Nat)) :: (.int 5 (0 : Nat)) :: (.int 0 (0 : Nat)) :: (.ref (27 : Nat)) :: (.int 14 (0 : Nat)) :: (.int 0 (0 : Nat)) :: (.ref (34 : Nat)) :: (.int 25 (0 : Nat)) :: (.int 0 (0 : Nat)) :: (.ref (41 : Nat)) :: (.int 34 (0 : Nat)) :: (.int 0 (0 : Nat)) :: (.ref (70 : Nat)) :: (.int 38 (0 : Nat)) :: (.int 0 (0 : Nat)) :: (.ref (82 : Nat)) :: (.int 40 (0 : Nat)) :: (.int 0 (0 : Nat)) :: (.ref (89 : Nat)) :: (.int 134 (0 : Nat)) :: (.int 0 (0 : Nat)) :: (.ref (262 : Nat)) :: (.int 145 (0 : Nat)) :: (.int 0 (0 : Nat)) :: (.ref (292 : Nat)) :: (.int 149 (0 : Nat)) :: (.int 0 (0 : Nat)) :: (.ref (297 : Nat)) :: (.int 152 (0 : Nat)) :: (.int 0 (0 : Nat)) :: (.ref (302 : Nat)) :: [])), #[]⟩
noncomputable def hd.z13 : Params → Obj := fun P => ⟨.type PySem.W.SZ.s5856160107412720595x4, (none : Option Nat), .fields #[.str ⟨⟨[nat_lit 60, nat_lit 109, nat_lit 111, nat_lit 100, nat_lit 117, nat_lit 108, nat_lit 101, nat_lit 62]⟩⟩ (182 : Nat), .str ⟨⟨[nat_lit 60, nat_lit 109, nat_lit 111, nat_lit 100, nat_lit 117, nat_lit 108, nat_lit 101, nat_lit 62]⟩⟩ (183 : Nat), .str ⟨⟨[nat_lit 47, nat_lit 99, nat_lit 108, nat_lit 97, nat_lit 105, nat_lit 109, nat_lit 47, nat_lit 99, nat_lit 117, nat_lit 116, nat_lit 46, nat_lit 112, nat_lit 121]⟩⟩ (184 : Nat), .int 1 (0 : Nat), .int 0 (0 : Nat), .int 0 (0 : Nat), .int 0 (0 : Nat), .int 0 (0 : Nat), .ref (11 : Nat), .bool false, .int 181 (0 : Nat), .ref (12 : Nat), .none, .none, .none, .none, .int 185 (0 : Nat), .int 1 (0 : Nat), .str ⟨⟨[nat_lit 47, nat_lit 99, nat_lit 108, nat_lit 97, nat_lit 105, nat_lit 109, nat_lit 47, nat_lit 99, nat_lit 117, nat_lit 116, nat_lit 46, nat_lit 112, nat_lit 121]⟩⟩ (186 : Nat)], #[]⟩
noncomputable def hd.z14 : Params → Obj := fun P => ⟨.type PySem.W.SZ.s658472552662922059x5, (none : Option Nat), .plain, #[Option.some (.ref (13 : Nat)), Option.some (.ref (3 : Nat)), Option.some (.ref (3 : Nat)), none, Option.some (.str ⟨⟨[nat_lit 95, nat_lit 95, nat_lit 109, nat_lit 97, nat_lit 105, nat_lit 110, nat_lit 95, nat_lit 95]⟩⟩ (164 : Nat)), none, Option.some (.ref (0 : Nat))]⟩
noncomputable def hd.z15 : Params → Obj := fun P => ⟨.type PySem.W.SZ.s2766695959194262286x5, (none : Option Nat), .seq #[] (0 : Nat), #[]⟩
noncomputable def hd.z16 : Params → Obj := fun P => ⟨.none, (none : Option Nat), .fields #[], #[]⟩
noncomputable def hd.z17 : Params → Obj := fun P => ⟨.type PySem.W.SZ.s2766695959194262286x5, (none : Option Nat), .seq #[.str ⟨⟨[nat_lit 107]⟩⟩ (190 : Nat)] (0 : Nat), #[]⟩
noncomputable def hd.z18 : Params → Obj := fun P => ⟨.type PySem.W.SZ.s2766695959194262286x5, (none : Option Nat), .seq #[] (0 : Nat), #[]⟩
noncomputable def hd.z19 : Params → Obj := by
  refine' (?F : ∀ (a : Arguments) (b : List Stmt) (c : Scope), hd.fPar (hd.stAt hd.twB 0) = a → hd.fBod (hd.stAt hd.twB 0) = b → hd.fSco (hd.stAt hd.twB 0) = c → Params → Obj) _ _ _ ?h0 ?h1 ?h2
  case h0 => (conv => lhs; whnf) <;> rfl
  case h1 => (conv => lhs; whnf) <;> rfl
  case h2 => (conv => lhs; whnf) <;> rfl
  case F => exact fun a b c _ _ _ => fun P => ⟨.none, (none : Option Nat), .func ⟨⟨⟨[nat_lit 95, nat_lit 119, nat_lit 97, nat_lit 108, nat_lit 108]⟩⟩, ⟨⟨[nat_lit 95, nat_lit 119, nat_lit 97, nat_lit 108, nat_lit 108]⟩⟩, a, .stmts b, c, (0 : Nat), ([] : List (Str × Nat)), .none, .none, .none, .none, (none : Option Nat), .none, .none, (0 : Nat)⟩, #[]⟩
noncomputable def hd.z20 : Params → Obj := fun P => ⟨.type PySem.W.SZ.s5856160107412720595x4, (none : Option Nat), .fields #[.str ⟨⟨[nat_lit 95, nat_lit 119, nat_lit 97, nat_lit 108, nat_lit 108]⟩⟩ (187 : Nat), .str ⟨⟨[nat_lit 95, nat_lit 119, nat_lit 97, nat_lit 108, nat_lit 108]⟩⟩ (188 : Nat), .str ⟨⟨[nat_lit 47, nat_lit 99, nat_lit 108, nat_lit 97, nat_lit 105, nat_lit 109, nat_lit 47, nat_lit 99, nat_lit 117, nat_lit 116, nat_lit 46, nat_lit 112, nat_lit 121]⟩⟩ (189 : Nat), .int 1 (0 : Nat), .int 1 (0 : Nat), .int 0 (0 : Nat), .int 0 (0 : Nat), .int 3 (0 : Nat), .ref (15 : Nat), .bool true, .int 181 (0 : Nat), .ref (16 : Nat), .none, .ref (17 : Nat), .ref (18 : Nat), .ref (19 : Nat), .int 191 (0 : Nat), .int 1 (0 : Nat), .str ⟨⟨[nat_lit 47, nat_lit 99, nat_lit 108, nat_lit 97, nat_lit 105, nat_lit 109, nat_lit 47, nat_lit 99, nat_lit 117, nat_lit 116, nat_lit 46, nat_lit 112, nat_lit 121]⟩⟩ (192 : Nat)], #[]⟩
noncomputable def hd.z21 : Params → Obj := by
  refine' (?F : ∀ (a : Arguments) (b : List Stmt) (c : Scope), hd.fPar (hd.stAt hd.twB 0) = a → hd.fBod (hd.stAt hd.twB 0) = b → hd.fSco (hd.stAt hd.twB 0) = c → Params → Obj) _ _ _ ?h0 ?h1 ?h2
  case h0 => (conv => lhs; whnf) <;> rfl
  case h1 => (conv => lhs; whnf) <;> rfl
  case h2 => (conv => lhs; whnf) <;> rfl
  case F => exact fun a b c _ _ _ => fun P => ⟨.type PySem.W.SZ.s7174869446012820540x8, (none : Option Nat), .func ⟨⟨⟨[nat_lit 95, nat_lit 119, nat_lit 97, nat_lit 108, nat_lit 108]⟩⟩, ⟨⟨[nat_lit 95, nat_lit 119, nat_lit 97, nat_lit 108, nat_lit 108]⟩⟩, a, .stmts b, c, (3 : Nat), ([] : List (Str × Nat)), .none, .none, .none, .str ⟨⟨[nat_lit 95, nat_lit 95, nat_lit 109, nat_lit 97, nat_lit 105, nat_lit 110, nat_lit 95, nat_lit 95]⟩⟩ (164 : Nat), (none : Option Nat), .ref (20 : Nat), .none, (0 : Nat)⟩, #[]⟩
noncomputable def hd.z22 : Params → Obj := fun P => ⟨.type PySem.W.SZ.s2766695959194262286x5, (none : Option Nat), .seq #[] (0 : Nat), #[]⟩
noncomputable def hd.z23 : Params → Obj := fun P => ⟨.none, (none : Option Nat), .fields #[], #[]⟩
noncomputable def hd.z24 : Params → Obj := fun P => ⟨.type PySem.W.SZ.s2766695959194262286x5, (none : Option Nat), .seq #[.str ⟨⟨[nat_lit 114, nat_lit 101, nat_lit 97, nat_lit 100, nat_lit 101, nat_lit 114]⟩⟩ (199 : Nat), .str ⟨⟨[nat_lit 109, nat_lit 97, nat_lit 114, nat_lit 107]⟩⟩ (200 : Nat), .str ⟨⟨[nat_lit 105, nat_lit 115, nat_lit 95, nat_lit 97, nat_lit 115, nat_lit 99, nat_lit 101, nat_lit 110, nat_lit 100, nat_lit 105, nat_lit 110, nat_lit 103]⟩⟩ (201 : Nat)] (0 : Nat), #[]⟩
noncomputable def hd.z25 : Params → Obj := fun P => ⟨.type PySem.W.SZ.s2766695959194262286x5, (none : Option Nat), .seq #[] (0 : Nat), #[]⟩
noncomputable def hd.z26 : Params → Obj := by
  refine' (?F : ∀ (a : Arguments) (b : List Stmt) (c : Scope), hd.fPar (hd.stAt hd.twB 2) = a → hd.fBod (hd.stAt hd.twB 2) = b → hd.fSco (hd.stAt hd.twB 2) = c → Params → Obj) _ _ _ ?h0 ?h1 ?h2
  case h0 => (conv => lhs; whnf) <;> rfl
  case h1 => (conv => lhs; whnf) <;> rfl
  case h2 => (conv => lhs; whnf) <;> rfl
  case F => exact fun a b c _ _ _ => fun P => ⟨.none, (none : Option Nat), .func ⟨⟨⟨[nat_lit 100, nat_lit 105, nat_lit 114, nat_lit 101, nat_lit 99, nat_lit 116, nat_lit 105, nat_lit 111, nat_lit 110, nat_lit 95, nat_lit 104, nat_lit 101, nat_lit 114, nat_lit 101]⟩⟩, ⟨⟨[nat_lit 100, nat_lit 105, nat_lit 114, nat_lit 101, nat_lit 99, nat_lit 116, nat_lit 105, nat_lit 111, nat_lit 110, nat_lit 95, nat_lit 104, nat_lit 101, nat_lit 114, nat_lit 101]⟩⟩, a, .stmts b, c, (0 : Nat), ([] : List (Str × Nat)), .none, .none, .none, .none, (none : Option Nat), .none, .none, (0 : Nat)⟩, #[]⟩
noncomputable def hd.z27 : Params → Obj := fun P => ⟨.type PySem.W.SZ.s5856160107412720595x4, (none : Option Nat), .fields #[.str ⟨⟨[nat_lit 100, nat_lit 105, nat_lit 114, nat_lit 101, nat_lit 99, nat_lit 116, nat_lit 105, nat_lit 111, nat_lit 110, nat_lit 95, nat_lit 104, nat_lit 101, nat_lit 114, nat_lit 101]⟩⟩ (196 : Nat), .str ⟨⟨[nat_lit 100, nat_lit 105, nat_lit 114, nat_lit 101, nat_lit 99, nat_lit 116, nat_lit 105, nat_lit 111, nat_lit 110, nat_lit 95, nat_lit 104, nat_lit 101, nat_lit 114, nat_lit 101]⟩⟩ (197 : Nat), .str ⟨⟨[nat_lit 47, nat_lit 99, nat_lit 108, nat_lit 97, nat_lit 105, nat_lit 109, nat_lit 47, nat_lit 99, nat_lit 117, nat_lit 116, nat_lit 46, nat_lit 112, nat_lit 121]⟩⟩ (198 : Nat), .int 5 (0 : Nat), .int 1 (0 : Nat), .int 0 (0 : Nat), .int 0 (0 : Nat), .int 3 (0 : Nat), .ref (22 : Nat), .bool true, .int 181 (0 : Nat), .ref (23 : Nat), .none, .ref (24 : Nat), .ref (25 : Nat), .ref (26 : Nat), .int 202 (0 : Nat), .int 5 (0 : Nat), .str ⟨⟨[nat_lit 47, nat_lit 99, nat_lit 108, nat_lit 97, nat_lit 105, nat_lit 109, nat_lit 47, nat_lit 99, nat_lit 117, nat_lit 116, nat_lit 46, nat_lit 112, nat_lit 121]⟩⟩ (203 : Nat)], #[]⟩
noncomputable def hd.z28 : Params → Obj := by
  refine' (?F : ∀ (a : Arguments) (b : List Stmt) (c : Scope), hd.fPar (hd.stAt hd.twB 2) = a → hd.fBod (hd.stAt hd.twB 2) = b → hd.fSco (hd.stAt hd.twB 2) = c → Params → Obj) _ _ _ ?h0 ?h1 ?h2
  case h0 => (conv => lhs; whnf) <;> rfl
  case h1 => (conv => lhs; whnf) <;> rfl
  case h2 => (conv => lhs; whnf) <;> rfl
  case F => exact fun a b c _ _ _ => fun P => ⟨.type PySem.W.SZ.s7174869446012820540x8, (none : Option Nat), .func ⟨⟨⟨[nat_lit 100, nat_lit 105, nat_lit 114, nat_lit 101, nat_lit 99, nat_lit 116, nat_lit 105, nat_lit 111, nat_lit 110, nat_lit 95, nat_lit 104, nat_lit 101, nat_lit 114, nat_lit 101]⟩⟩, ⟨⟨[nat_lit 100, nat_lit 105, nat_lit 114, nat_lit 101, nat_lit 99, nat_lit 116, nat_lit 105, nat_lit 111, nat_lit 110, nat_lit 95, nat_lit 104, nat_lit 101, nat_lit 114, nat_lit 101]⟩⟩, a, .stmts b, c, (3 : Nat), ([] : List (Str × Nat)), .none, .none, .none, .str ⟨⟨[nat_lit 108, nat_lit 101, nat_lit 100, nat_lit 103, nat_lit 101, nat_lit 114, nat_lit 115, nat_lit 112, nat_lit 101, nat_lit 97, nat_lit 107, nat_lit 46, nat_lit 114, nat_lit 101, nat_lit 97, nat_lit 100, nat_lit 102, nat_lit 105, nat_lit 108, nat_lit 101, nat_lit 115]⟩⟩ (194 : Nat), (none : Option Nat), .ref (27 : Nat), .none, (0 : Nat)⟩, #[]⟩
noncomputable def hd.z29 : Params → Obj := fun P => ⟨.type PySem.W.SZ.s2766695959194262286x5, (none : Option Nat), .seq #[] (0 : Nat), #[]⟩
noncomputable def hd.z30 : Params → Obj := fun P => ⟨.none, (none : Option Nat), .fields #[], #[]⟩
noncomputable def hd.z31 : Params → Obj := fun P => ⟨.type PySem.W.SZ.s2766695959194262286x5, (none : Option Nat), .seq #[.str ⟨⟨[nat_lit 114, nat_lit 101, nat_lit 97, nat_lit 100, nat_lit 101, nat_lit 114]⟩⟩ (208 : Nat), .str ⟨⟨[nat_lit 107, nat_lit 101, nat_lit 121, nat_lit 115]⟩⟩ (209 : Nat), .str ⟨⟨[nat_lit 105, nat_lit 115, nat_lit 95, nat_lit 97, nat_lit 115, nat_lit 99, nat_lit 101, nat_lit 110, nat_lit 100, nat_lit 105, nat_lit 110, nat_lit 103]⟩⟩ (210 : Nat), .str ⟨⟨[nat_lit 110, nat_lit 97, nat_lit 109, nat_lit 101]⟩⟩ (211 : Nat)] (0 : Nat), #[]⟩
noncomputable def hd.z32 : Params → Obj := fun P => ⟨.type PySem.W.SZ.s2766695959194262286x5, (none : Option Nat), .seq #[] (0 : Nat), #[]⟩
noncomputable def hd.z33 : Params → Obj := by
  refine' (?F : ∀ (a : Arguments) (b : List Stmt) (c : Scope), hd.fPar (hd.stAt hd.twB 3) = a → hd.fBod (hd.stAt hd.twB 3) = b → hd.fSco (hd.stAt hd.twB 3) = c → Params → Obj) _ _ _ ?h0 ?h1 ?h2
  case h0 => (conv => lhs; whnf) <;> rfl
  case h1 => (conv => lhs; whnf) <;> rfl
  case h2 => (conv => lhs; whnf) <;> rfl
  case F => exact fun a b c _ _ _ => fun P => ⟨.none, (none : Option Nat), .func ⟨⟨⟨[nat_lit 114, nat_lit 101, nat_lit 97, nat_lit 100, nat_lit 95, nat_lit 107, nat_lit 101, nat_lit 121, nat_lit 115]⟩⟩, ⟨⟨[nat_lit 114, nat_lit 101, nat_lit 97, nat_lit 100, nat_lit 95, nat_lit 107, nat_lit 101, nat_lit 121, nat_lit 115]⟩⟩, a, .stmts b, c, (0 : Nat), ([] : List (Str × Nat)), .none, .none, .none, .none, (none : Option Nat), .none, .none, (0 : Nat)⟩, #[]⟩
noncomputable def hd.z34 : Params → Obj := fun P => ⟨.type PySem.W.SZ.s5856160107412720595x4, (none : Option Nat), .fields #[.str ⟨⟨[nat_lit 114, nat_lit 101, nat_lit 97, nat_lit 100, nat_lit 95, nat_lit 107, nat_lit 101, nat_lit 121, nat_lit 115]⟩⟩ (205 : Nat), .str ⟨⟨[nat_lit 114, nat_lit 101, nat_lit 97, nat_lit 100, nat_lit 95, nat_lit 107, nat_lit 101, nat_lit 121, nat_lit 115]⟩⟩ (206 : Nat), .str ⟨⟨[nat_lit 47, nat_lit 99, nat_lit 108, nat_lit 97, nat_lit 105, nat_lit 109, nat_lit 47, nat_lit 99, nat_lit 117, nat_lit 116, nat_lit 46, nat_lit 112, nat_lit 121]⟩⟩ (207 : Nat), .int 14 (0 : Nat), .int 1 (0 : Nat), .int 0 (0 : Nat), .int 0 (0 : Nat), .int 3 (0 : Nat), .ref (29 : Nat), .bool true, .int 181 (0 : Nat), .ref (30 : Nat), .none, .ref (31 : Nat), .ref (32 : Nat), .ref (33 : Nat), .int 212 (0 : Nat), .int 14 (0 : Nat), .str ⟨⟨[nat_lit 47, nat_lit 99, nat_lit 108, nat_lit 97, nat_lit 105, nat_lit 109, nat_lit 47, nat_lit 99, nat_lit 117, nat_lit 116, nat_lit 46, nat_lit 112, nat_lit 121]⟩⟩ (213 : Nat)], #[]⟩
noncomputable def hd.z35 : Params → Obj := by
  refine' (?F : ∀ (a : Arguments) (b : List Stmt) (c : Scope), hd.fPar (hd.stAt hd.twB 3) = a → hd.fBod (hd.stAt hd.twB 3) = b → hd.fSco (hd.stAt hd.twB 3) = c → Params → Obj) _ _ _ ?h0 ?h1 ?h2
  case h0 => (conv => lhs; whnf) <;> rfl
  case h1 => (conv => lhs; whnf) <;> rfl
  case h2 => (conv => lhs; whnf) <;> rfl
  case F => exact fun a b c _ _ _ => fun P => ⟨.type PySem.W.SZ.s7174869446012820540x8, (none : Option Nat), .func ⟨⟨⟨[nat_lit 114, nat_lit 101, nat_lit 97, nat_lit 100, nat_lit 95, nat_lit 107, nat_lit 101, nat_lit 121, nat_lit 115]⟩⟩, ⟨⟨[nat_lit 114, nat_lit 101, nat_lit 97, nat_lit 100, nat_lit 95, nat_lit 107, nat_lit 101, nat_lit 121, nat_lit 115]⟩⟩, a, .stmts b, c, (3 : Nat), ([] : List (Str × Nat)), .none, .none, .none, .str ⟨⟨[nat_lit 108, nat_lit 101, nat_lit 100, nat_lit 103, nat_lit 101, nat_lit 114, nat_lit 115, nat_lit 112, nat_lit 101, nat_lit 97, nat_lit 107, nat_lit 46, nat_lit 114, nat_lit 101, nat_lit 97, nat_lit 100, nat_lit 102, nat_lit 105, nat_lit 108, nat_lit 101, nat_lit 115]⟩⟩ (194 : Nat), (none : Option Nat), .ref (34 : Nat), .none, (0 : Nat)⟩, #[]⟩
noncomputable def hd.z36 : Params → Obj := fun P => ⟨.type PySem.W.SZ.s2766695959194262286x5, (none : Option Nat), .seq #[.type PySem.W.SZ.s5946037652744460706x9] (0 : Nat), #[]⟩
noncomputable def hd.x37 : Params → Obj := fun P => ⟨.type PySem.W.SL.s11030030927630378310x26, (none : Option Nat), .fields #[.builtin PySem.W.SL.s10062305145149207511x16, .type PySem.W.SL.s17162191345867700912x4], #[]⟩
noncomputable def hd.x38 : Params → Obj := fun P => ⟨.type PySem.W.SL.s14018661285674007319x4, (none : Option Nat), .dict #[⟨PySem.PyData.keyHash P ⟨⟨[nat_lit 95, nat_lit 95, nat_lit 109, nat_lit 111, nat_lit 100, nat_lit 117, nat_lit 108, nat_lit 101, nat_lit 95, nat_lit 95]⟩⟩, .str ⟨⟨[nat_lit 95, nat_lit 95, nat_lit 109, nat_lit 111, nat_lit 100, nat_lit 117, nat_lit 108, nat_lit 101, nat_lit 95, nat_lit 95]⟩⟩ (224 : Nat), .str ⟨⟨[nat_lit 108, nat_lit 101, nat_lit 100, nat_lit 103, nat_lit 101, nat_lit 114, nat_lit 115, nat_lit 112, nat_lit 101, nat_lit 97, nat_lit 107, nat_lit 46, nat_lit 101, nat_lit 114, nat_lit 114, nat_lit 111, nat_lit 114, nat_lit 115]⟩⟩ (215 : Nat)⟩, ⟨PySem.PyData.keyHash P ⟨⟨[nat_lit 95, nat_lit 95, nat_lit 113, nat_lit 117, nat_lit 97, nat_lit 108, nat_lit 110, nat_lit 97, nat_lit 109, nat_lit 101, nat_lit 95, nat_lit 95]⟩⟩, .str ⟨⟨[nat_lit 95, nat_lit 95, nat_lit 113, nat_lit 117, nat_lit 97, nat_lit 108, nat_lit 110, nat_lit 97, nat_lit 109, nat_lit 101, nat_lit 95, nat_lit 95]⟩⟩ (226 : Nat), .str ⟨⟨[nat_lit 76, nat_lit 101, nat_lit 100, nat_lit 103, nat_lit 101, nat_lit 114, nat_lit 69, nat_lit 114, nat_lit 114, nat_lit 111, nat_lit 114]⟩⟩ (225 : Nat)⟩, ⟨PySem.PyData.keyHash P ⟨⟨[nat_lit 95, nat_lit 95, nat_lit 102, nat_lit 105, nat_lit 114, nat_lit 115, nat_lit 116, nat_lit 108, nat_lit 105, nat_lit 110, nat_lit 101, nat_lit 110, nat_lit 111, nat_lit 95, nat_lit 95]⟩⟩, .str ⟨⟨[nat_lit 95, nat_lit 95, nat_lit 102, nat_lit 105, nat_lit 114, nat_lit 115, nat_lit 116, nat_lit 108, nat_lit 105, nat_lit 110, nat_lit 101, nat_lit 110, nat_lit 111, nat_lit 95, nat_lit 95]⟩⟩ (228 : Nat), .int 25 (227 : Nat)⟩, ⟨PySem.PyData.keyHash P ⟨⟨[nat_lit 95, nat_lit 95, nat_lit 105, nat_lit 110, nat_lit 105, nat_lit 116, nat_lit 95, nat_lit 95]⟩⟩, .str ⟨⟨[nat_lit 95, nat_lit 95, nat_lit 105, nat_lit 110, nat_lit 105, nat_lit 116, nat_lit 95, nat_lit 95]⟩⟩ (239 : Nat), .ref (51 : Nat)⟩, ⟨PySem.PyData.keyHash P ⟨⟨[nat_lit 116, nat_lit 111, nat_lit 108, nat_lit 100]⟩⟩, .str ⟨⟨[nat_lit 116, nat_lit 111, nat_lit 108, nat_lit 100]⟩⟩ (246 : Nat), .ref (58 : Nat)⟩, ⟨PySem.PyData.keyHash P ⟨⟨[nat_lit 95, nat_lit 95, nat_lit 115, nat_lit 116, nat_lit 97, nat_lit 116, nat_lit 105, nat_lit 99, nat_lit 95, nat_lit 97, nat_lit 116, nat_lit 116, nat_lit 114, nat_lit 105, nat_lit 98, nat_lit 117, nat_lit 116, nat_lit 101, nat_lit 115, nat_lit 95, nat_lit 95]⟩⟩, .str ⟨⟨[nat_lit 95, nat_lit 95, nat_lit 115, nat_lit 116, nat_lit 97, nat_lit 116, nat_lit 105, nat_lit 99, nat_lit 95, nat_lit 97, nat_lit 116, nat_lit 116, nat_lit 114, nat_lit 105, nat_lit 98, nat_lit 117, nat_lit 116, nat_lit 101, nat_lit 115, nat_lit 95, nat_lit 95]⟩⟩ (249 : Nat), .ref (59 : Nat)⟩] (6 : Nat), #[]⟩
noncomputable def hd.x39 : Params → Obj := fun P => ⟨.type PySem.W.SL.s2766695959194262286x5, (none : Option Nat), .seq #[] (0 : Nat), #[]⟩
noncomputable def hd.x40 : Params → Obj := fun P => ⟨.none, (none : Option Nat), .fields #[.int 27 (0 : Nat), .int 4 (0 : Nat), .ref (50 : Nat), .int 32 (0 : Nat), .int 4 (0 : Nat), .ref (57 : Nat)], #[]⟩
noncomputable def hd.x41 : Params → Obj := fun P => ⟨.type PySem.W.SL.s5856160107412720595x4, (none : Option Nat), .fields #[.str ⟨⟨[nat_lit 76, nat_lit 101, nat_lit 100, nat_lit 103, nat_lit 101, nat_lit 114, nat_lit 69, nat_lit 114, nat_lit 114, nat_lit 111, nat_lit 114]⟩⟩ (219 : Nat), .str ⟨⟨[nat_lit 76, nat_lit 101, nat_lit 100, nat_lit 103, nat_lit 101, nat_lit 114, nat_lit 69, nat_lit 114, nat_lit 114, nat_lit 111, nat_lit 114]⟩⟩ (220 : Nat), .str ⟨⟨[nat_lit 47, nat_lit 99, nat_lit 108, nat_lit 97, nat_lit 105, nat_lit 109, nat_lit 47, nat_lit 99, nat_lit 117, nat_lit 116, nat_lit 46, nat_lit 112, nat_lit 121]⟩⟩ (221 : Nat), .int 25 (0 : Nat), .int 0 (0 : Nat), .int 0 (0 : Nat), .int 0 (0 : Nat), .int 0 (0 : Nat), .ref (39 : Nat), .bool false, .int 181 (0 : Nat), .ref (40 : Nat), .none, .none, .none, .none, .int 222 (0 : Nat), .int 25 (0 : Nat), .str ⟨⟨[nat_lit 47, nat_lit 99, nat_lit 108, nat_lit 97, nat_lit 105, nat_lit 109, nat_lit 47, nat_lit 99, nat_lit 117, nat_lit 116, nat_lit 46, nat_lit 112, nat_lit 121]⟩⟩ (223 : Nat)], #[]⟩
noncomputable def hd.x42 : Params → Obj := fun P => ⟨.type PySem.W.SL.s658472552662922059x5, (none : Option Nat), .plain, #[Option.some (.ref (41 : Nat)), Option.some (.ref (3 : Nat)), Option.some (.ref (38 : Nat)), none, Option.some (.str ⟨⟨[nat_lit 108, nat_lit 101, nat_lit 100, nat_lit 103, nat_lit 101, nat_lit 114, nat_lit 115, nat_lit 112, nat_lit 101, nat_lit 97, nat_lit 107, nat_lit 46, nat_lit 101, nat_lit 114, nat_lit 114, nat_lit 111, nat_lit 114, nat_lit 115]⟩⟩ (215 : Nat)), none, Option.some (.ref (0 : Nat))]⟩
noncomputable def hd.z43 : Params → Obj := fun P => ⟨.type PySem.W.SZ.s2766695959194262286x5, (none : Option Nat), .seq #[.int 0 (229 : Nat), .int 0 (230 : Nat)] (0 : Nat), #[]⟩
noncomputable def hd.z44 : Params → Obj := fun P => ⟨.type PySem.W.SZ.s2766695959194262286x5, (none : Option Nat), .seq #[.ref (43 : Nat)] (0 : Nat), #[]⟩
noncomputable def hd.z45 : Params → Obj := fun P => ⟨.type PySem.W.SZ.s2766695959194262286x5, (none : Option Nat), .seq #[] (0 : Nat), #[]⟩
noncomputable def hd.z46 : Params → Obj := fun P => ⟨.none, (none : Option Nat), .fields #[], #[]⟩
noncomputable def hd.z47 : Params → Obj := fun P => ⟨.type PySem.W.SZ.s2766695959194262286x5, (none : Option Nat), .seq #[.str ⟨⟨[nat_lit 115, nat_lit 101, nat_lit 108, nat_lit 102]⟩⟩ (234 : Nat), .str ⟨⟨[nat_lit 119, nat_lit 104, nat_lit 97, nat_lit 116]⟩⟩ (235 : Nat), .str ⟨⟨[nat_lit 97, nat_lit 116]⟩⟩ (236 : Nat)] (0 : Nat), #[]⟩
noncomputable def hd.z48 : Params → Obj := fun P => ⟨.type PySem.W.SZ.s2766695959194262286x5, (none : Option Nat), .seq #[] (0 : Nat), #[]⟩
noncomputable def hd.z49 : Params → Obj := by
  refine' (?F : ∀ (a : Arguments) (b : List Stmt) (c : Scope), hd.fPar (hd.stAt (hd.inCls (hd.stAt hd.twB 5)) 0) = a → hd.fBod (hd.stAt (hd.inCls (hd.stAt hd.twB 5)) 0) = b → hd.fSco (hd.stAt (hd.inCls (hd.stAt hd.twB 5)) 0) = c → Params → Obj) _ _ _ ?h0 ?h1 ?h2
  case h0 => (conv => lhs; whnf) <;> rfl
  case h1 => (conv => lhs; whnf) <;> rfl
  case h2 => (conv => lhs; whnf) <;> rfl
  case F => exact fun a b c _ _ _ => fun P => ⟨.none, (none : Option Nat), .func ⟨⟨⟨[nat_lit 95, nat_lit 95, nat_lit 105, nat_lit 110, nat_lit 105, nat_lit 116, nat_lit 95, nat_lit 95]⟩⟩, ⟨⟨[nat_lit 76, nat_lit 101, nat_lit 100, nat_lit 103, nat_lit 101, nat_lit 114, nat_lit 69, nat_lit 114, nat_lit 114, nat_lit 111, nat_lit 114, nat_lit 46, nat_lit 95, nat_lit 95, nat_lit 105, nat_lit 110, nat_lit 105, nat_lit 116, nat_lit 95, nat_lit 95]⟩⟩, a, .stmts b, c, (0 : Nat), ([] : List (Str × Nat)), .none, .none, .none, .none, (none : Option Nat), .none, .none, (0 : Nat)⟩, #[]⟩
noncomputable def hd.z50 : Params → Obj := fun P => ⟨.type PySem.W.SZ.s5856160107412720595x4, (none : Option Nat), .fields #[.str ⟨⟨[nat_lit 95, nat_lit 95, nat_lit 105, nat_lit 110, nat_lit 105, nat_lit 116, nat_lit 95, nat_lit 95]⟩⟩ (231 : Nat), .str ⟨⟨[nat_lit 76, nat_lit 101, nat_lit 100, nat_lit 103, nat_lit 101, nat_lit 114, nat_lit 69, nat_lit 114, nat_lit 114, nat_lit 111, nat_lit 114, nat_lit 46, nat_lit 95, nat_lit 95, nat_lit 105, nat_lit 110, nat_lit 105, nat_lit 116, nat_lit 95, nat_lit 95]⟩⟩ (232 : Nat), .str ⟨⟨[nat_lit 47, nat_lit 99, nat_lit 108, nat_lit 97, nat_lit 105, nat_lit 109, nat_lit 47, nat_lit 99, nat_lit 117, nat_lit 116, nat_lit 46, nat_lit 112, nat_lit 121]⟩⟩ (233 : Nat), .int 27 (0 : Nat), .int 3 (0 : Nat), .int 0 (0 : Nat), .int 0 (0 : Nat), .int 3 (0 : Nat), .ref (45 : Nat), .bool true, .int 181 (0 : Nat), .ref (46 : Nat), .none, .ref (47 : Nat), .ref (48 : Nat), .ref (49 : Nat), .int 237 (0 : Nat), .int 27 (0 : Nat), .str ⟨⟨[nat_lit 47, nat_lit 99, nat_lit 108, nat_lit 97, nat_lit 105, nat_lit 109, nat_lit 47, nat_lit 99, nat_lit 117, nat_lit 116, nat_lit 46, nat_lit 112, nat_lit 121]⟩⟩ (238 : Nat)], #[]⟩
noncomputable def hd.z51 : Params → Obj := by
  refine' (?F : ∀ (a : Arguments) (b : List Stmt) (c : Scope), hd.fPar (hd.stAt (hd.inCls (hd.stAt hd.twB 5)) 0) = a → hd.fBod (hd.stAt (hd.inCls (hd.stAt hd.twB 5)) 0) = b → hd.fSco (hd.stAt (hd.inCls (hd.stAt hd.twB 5)) 0) = c → Params → Obj) _ _ _ ?h0 ?h1 ?h2
  case h0 => (conv => lhs; whnf) <;> rfl
  case h1 => (conv => lhs; whnf) <;> rfl
  case h2 => (conv => lhs; whnf) <;> rfl
  case F => exact fun a b c _ _ _ => fun P => ⟨.type PySem.W.SZ.s7174869446012820540x8, (none : Option Nat), .func ⟨⟨⟨[nat_lit 95, nat_lit 95, nat_lit 105, nat_lit 110, nat_lit 105, nat_lit 116, nat_lit 95, nat_lit 95]⟩⟩, ⟨⟨[nat_lit 76, nat_lit 101, nat_lit 100, nat_lit 103, nat_lit 101, nat_lit 114, nat_lit 69, nat_lit 114, nat_lit 114, nat_lit 111, nat_lit 114, nat_lit 46, nat_lit 95, nat_lit 95, nat_lit 105, nat_lit 110, nat_lit 105, nat_lit 116, nat_lit 95, nat_lit 95]⟩⟩, a, .stmts b, c, (3 : Nat), ([] : List (Str × Nat)), .ref (44 : Nat), .none, .none, .str ⟨⟨[nat_lit 108, nat_lit 101, nat_lit 100, nat_lit 103, nat_lit 101, nat_lit 114, nat_lit 115, nat_lit 112, nat_lit 101, nat_lit 97, nat_lit 107, nat_lit 46, nat_lit 101, nat_lit 114, nat_lit 114, nat_lit 111, nat_lit 114, nat_lit 115]⟩⟩ (215 : Nat), (none : Option Nat), .ref (50 : Nat), .none, (0 : Nat)⟩, #[]⟩
noncomputable def hd.z52 : Params → Obj := fun P => ⟨.type PySem.W.SZ.s2766695959194262286x5, (none : Option Nat), .seq #[] (0 : Nat), #[]⟩
noncomputable def hd.z53 : Params → Obj := fun P => ⟨.none, (none : Option Nat), .fields #[], #[]⟩
noncomputable def hd.z54 : Params → Obj := fun P => ⟨.type PySem.W.SZ.s2766695959194262286x5, (none : Option Nat), .seq #[.str ⟨⟨[nat_lit 115, nat_lit 101, nat_lit 108, nat_lit 102]⟩⟩ (243 : Nat)] (0 : Nat), #[]⟩
noncomputable def hd.z55 : Params → Obj := fun P => ⟨.type PySem.W.SZ.s2766695959194262286x5, (none : Option Nat), .seq #[] (0 : Nat), #[]⟩
noncomputable def hd.z56 : Params → Obj := by
  refine' (?F : ∀ (a : Arguments) (b : List Stmt) (c : Scope), hd.fPar (hd.stAt (hd.inCls (hd.stAt hd.twB 5)) 1) = a → hd.fBod (hd.stAt (hd.inCls (hd.stAt hd.twB 5)) 1) = b → hd.fSco (hd.stAt (hd.inCls (hd.stAt hd.twB 5)) 1) = c → Params → Obj) _ _ _ ?h0 ?h1 ?h2
  case h0 => (conv => lhs; whnf) <;> rfl
  case h1 => (conv => lhs; whnf) <;> rfl
  case h2 => (conv => lhs; whnf) <;> rfl
  case F => exact fun a b c _ _ _ => fun P => ⟨.none, (none : Option Nat), .func ⟨⟨⟨[nat_lit 116, nat_lit 111, nat_lit 108, nat_lit 100]⟩⟩, ⟨⟨[nat_lit 76, nat_lit 101, nat_lit 100, nat_lit 103, nat_lit 101, nat_lit 114, nat_lit 69, nat_lit 114, nat_lit 114, nat_lit 111, nat_lit 114, nat_lit 46, nat_lit 116, nat_lit 111, nat_lit 108, nat_lit 100]⟩⟩, a, .stmts b, c, (0 : Nat), ([] : List (Str × Nat)), .none, .none, .none, .none, (none : Option Nat), .none, .none, (0 : Nat)⟩, #[]⟩
noncomputable def hd.z57 : Params → Obj := fun P => ⟨.type PySem.W.SZ.s5856160107412720595x4, (none : Option Nat), .fields #[.str ⟨⟨[nat_lit 116, nat_lit 111, nat_lit 108, nat_lit 100]⟩⟩ (240 : Nat), .str ⟨⟨[nat_lit 76, nat_lit 101, nat_lit 100, nat_lit 103, nat_lit 101, nat_lit 114, nat_lit 69, nat_lit 114, nat_lit 114, nat_lit 111, nat_lit 114, nat_lit 46, nat_lit 116, nat_lit 111, nat_lit 108, nat_lit 100]⟩⟩ (241 : Nat), .str ⟨⟨[nat_lit 47, nat_lit 99, nat_lit 108, nat_lit 97, nat_lit 105, nat_lit 109, nat_lit 47, nat_lit 99, nat_lit 117, nat_lit 116, nat_lit 46, nat_lit 112, nat_lit 121]⟩⟩ (242 : Nat), .int 32 (0 : Nat), .int 1 (0 : Nat), .int 0 (0 : Nat), .int 0 (0 : Nat), .int 3 (0 : Nat), .ref (52 : Nat), .bool true, .int 181 (0 : Nat), .ref (53 : Nat), .none, .ref (54 : Nat), .ref (55 : Nat), .ref (56 : Nat), .int 244 (0 : Nat), .int 32 (0 : Nat), .str ⟨⟨[nat_lit 47, nat_lit 99, nat_lit 108, nat_lit 97, nat_lit 105, nat_lit 109, nat_lit 47, nat_lit 99, nat_lit 117, nat_lit 116, nat_lit 46, nat_lit 112, nat_lit 121]⟩⟩ (245 : Nat)], #[]⟩
noncomputable def hd.z58 : Params → Obj := by
  refine' (?F : ∀ (a : Arguments) (b : List Stmt) (c : Scope), hd.fPar (hd.stAt (hd.inCls (hd.stAt hd.twB 5)) 1) = a → hd.fBod (hd.stAt (hd.inCls (hd.stAt hd.twB 5)) 1) = b → hd.fSco (hd.stAt (hd.inCls (hd.stAt hd.twB 5)) 1) = c → Params → Obj) _ _ _ ?h0 ?h1 ?h2
  case h0 => (conv => lhs; whnf) <;> rfl
  case h1 => (conv => lhs; whnf) <;> rfl
  case h2 => (conv => lhs; whnf) <;> rfl
  case F => exact fun a b c _ _ _ => fun P => ⟨.type PySem.W.SZ.s7174869446012820540x8, (none : Option Nat), .func ⟨⟨⟨[nat_lit 116, nat_lit 111, nat_lit 108, nat_lit 100]⟩⟩, ⟨⟨[nat_lit 76, nat_lit 101, nat_lit 100, nat_lit 103, nat_lit 101, nat_lit 114, nat_lit 69, nat_lit 114, nat_lit 114, nat_lit 111, nat_lit 114, nat_lit 46, nat_lit 116, nat_lit 111, nat_lit 108, nat_lit 100]⟩⟩, a, .stmts b, c, (3 : Nat), ([] : List (Str × Nat)), .none, .none, .none, .str ⟨⟨[nat_lit 108, nat_lit 101, nat_lit 100, nat_lit 103, nat_lit 101, nat_lit 114, nat_lit 115, nat_lit 112, nat_lit 101, nat_lit 97, nat_lit 107, nat_lit 46, nat_lit 101, nat_lit 114, nat_lit 114, nat_lit 111, nat_lit 114, nat_lit 115]⟩⟩ (215 : Nat), (none : Option Nat), .ref (57 : Nat), .none, (0 : Nat)⟩, #[]⟩
noncomputable def hd.z59 : Params → Obj := fun P => ⟨.type PySem.W.SZ.s2766695959194262286x5, (none : Option Nat), .seq #[.str ⟨⟨[nat_lit 97, nat_lit 116]⟩⟩ (247 : Nat), .str ⟨⟨[nat_lit 119, nat_lit 104, nat_lit 97, nat_lit 116]⟩⟩ (248 : Nat)] (0 : Nat), #[]⟩
noncomputable def hd.z60 : Params → Obj := fun P => ⟨.type PySem.W.SZ.s14018661285674007319x4, (none : Option Nat), .dict #[⟨PySem.PyData.keyHash P ⟨⟨[nat_lit 95, nat_lit 95, nat_lit 109, nat_lit 111, nat_lit 100, nat_lit 117, nat_lit 108, nat_lit 101, nat_lit 95, nat_lit 95]⟩⟩, .str ⟨⟨[nat_lit 95, nat_lit 95, nat_lit 109, nat_lit 111, nat_lit 100, nat_lit 117, nat_lit 108, nat_lit 101, nat_lit 95, nat_lit 95]⟩⟩ (224 : Nat), .str ⟨⟨[nat_lit 108, nat_lit 101, nat_lit 100, nat_lit 103, nat_lit 101, nat_lit 114, nat_lit 115, nat_lit 112, nat_lit 101, nat_lit 97, nat_lit 107, nat_lit 46, nat_lit 101, nat_lit 114, nat_lit 114, nat_lit 111, nat_lit 114, nat_lit 115]⟩⟩ (215 : Nat)⟩, ⟨PySem.PyData.keyHash P ⟨⟨[nat_lit 95, nat_lit 95, nat_lit 102, nat_lit 105, nat_lit 114, nat_lit 115, nat_lit 116, nat_lit 108, nat_lit 105, nat_lit 110, nat_lit 101, nat_lit 110, nat_lit 111, nat_lit 95, nat_lit 95]⟩⟩, .str ⟨⟨[nat_lit 95, nat_lit 95, nat_lit 102, nat_lit 105, nat_lit 114, nat_lit 115, nat_lit 116, nat_lit 108, nat_lit 105, nat_lit 110, nat_lit 101, nat_lit 110, nat_lit 111, nat_lit 95, nat_lit 95]⟩⟩ (228 : Nat), .int 25 (227 : Nat)⟩, ⟨PySem.PyData.keyHash P ⟨⟨[nat_lit 95, nat_lit 95, nat_lit 105, nat_lit 110, nat_lit 105, nat_lit 116, nat_lit 95, nat_lit 95]⟩⟩, .str ⟨⟨[nat_lit 95, nat_lit 95, nat_lit 105, nat_lit 110, nat_lit 105, nat_lit 116, nat_lit 95, nat_lit 95]⟩⟩ (239 : Nat), .ref (51 : Nat)⟩, ⟨PySem.PyData.keyHash P ⟨⟨[nat_lit 116, nat_lit 111, nat_lit 108, nat_lit 100]⟩⟩, .str ⟨⟨[nat_lit 116, nat_lit 111, nat_lit 108, nat_lit 100]⟩⟩ (246 : Nat), .ref (58 : Nat)⟩, ⟨PySem.PyData.keyHash P ⟨⟨[nat_lit 95, nat_lit 95, nat_lit 115, nat_lit 116, nat_lit 97, nat_lit 116, nat_lit 105, nat_lit 99, nat_lit 95, nat_lit 97, nat_lit 116, nat_lit 116, nat_lit 114, nat_lit 105, nat_lit 98, nat_lit 117, nat_lit 116, nat_lit 101, nat_lit 115, nat_lit 95, nat_lit 95]⟩⟩, .str ⟨⟨[nat_lit 95, nat_lit 95, nat_lit 115, nat_lit 116, nat_lit 97, nat_lit 116, nat_lit 105, nat_lit 99, nat_lit 95, nat_lit 97, nat_lit 116, nat_lit 116, nat_lit 114, nat_lit 105, nat_lit 98, nat_lit 117, nat_lit 116, nat_lit 101, nat_lit 115, nat_lit 95, nat_lit 95]⟩⟩ (249 : Nat), .ref (59 : Nat)⟩, ⟨PySem.PyData.keyHash P ⟨⟨[nat_lit 95, nat_lit 95, nat_lit 119, nat_lit 101, nat_lit 97, nat_lit 107, nat_lit 114, nat_lit 101, nat_lit 102, nat_lit 95, nat_lit 95]⟩⟩, .str ⟨⟨[nat_lit 95, nat_lit 95, nat_lit 119, nat_lit 101, nat_lit 97, nat_lit 107, nat_lit 114, nat_lit 101, nat_lit 102, nat_lit 95, nat_lit 95]⟩⟩ (251 : Nat), .ref (62 : Nat)⟩, ⟨PySem.PyData.keyHash P ⟨⟨[nat_lit 95, nat_lit 95, nat_lit 100, nat_lit 111, nat_lit 99, nat_lit 95, nat_lit 95]⟩⟩, .str ⟨⟨[nat_lit 95, nat_lit 95, nat_lit 100, nat_lit 111, nat_lit 99, nat_lit 95, nat_lit 95]⟩⟩ (252 : Nat), .none⟩] (3 : Nat), #[]⟩
noncomputable def hd.z61 : Params → Obj := fun P => ⟨.type PySem.W.SZ.s17162191345867700912x4, (none : Option Nat), .cls ⟨⟨⟨[nat_lit 76, nat_lit 101, nat_lit 100, nat_lit 103, nat_lit 101, nat_lit 114, nat_lit 69, nat_lit 114, nat_lit 114, nat_lit 111, nat_lit 114]⟩⟩, [.type PySem.W.SZ.s5946037652744460706x9], [.ref (61 : Nat), .type PySem.W.SZ.s5946037652744460706x9, .type PySem.W.SZ.s4278001404047624695x13, .type PySem.W.SZ.s2742458400755230247x6], (60 : Nat), ⟨⟨[nat_lit 76, nat_lit 101, nat_lit 100, nat_lit 103, nat_lit 101, nat_lit 114, nat_lit 69, nat_lit 114, nat_lit 114, nat_lit 111, nat_lit 114]⟩⟩, true, [], [.ref (74 : Nat)], false, none, false⟩, #[Option.some (.ref (36 : Nat)), none, Option.some (.str ⟨⟨[nat_lit 76, nat_lit 101, nat_lit 100, nat_lit 103, nat_lit 101, nat_lit 114, nat_lit 69, nat_lit 114, nat_lit 114, nat_lit 111, nat_lit 114]⟩⟩ (217 : Nat)), Option.some (.str ⟨⟨[nat_lit 76, nat_lit 101, nat_lit 100, nat_lit 103, nat_lit 101, nat_lit 114, nat_lit 69, nat_lit 114, nat_lit 114, nat_lit 111, nat_lit 114]⟩⟩ (225 : Nat)), Option.some (.builtin PySem.W.SZ.s5160863994218179198x17), Option.some (.bool true)]⟩
noncomputable def hd.z62 : Params → Obj := fun P => ⟨.type PySem.W.SZ.s14755015743595814543x17, (none : Option Nat), .fields #[.str ⟨⟨[nat_lit 95, nat_lit 95, nat_lit 119, nat_lit 101, nat_lit 97, nat_lit 107, nat_lit 114, nat_lit 101, nat_lit 102, nat_lit 95, nat_lit 95]⟩⟩ (250 : Nat), .ref (61 : Nat), .builtin PySem.W.SZ.s10220274742760427390x26, .none], #[]⟩
noncomputable def hd.x63 : Params → Obj := fun P => ⟨.type PySem.W.SL.s4290257624100764138x5, (none : Option Nat), .fields #[.ref (61 : Nat), .ref (61 : Nat), .ref (61 : Nat)], #[]⟩
noncomputable def hd.x64 : Params → Obj := fun P => ⟨.type PySem.W.SL.s11030030927630378310x26, (none : Option Nat), .fields #[.builtin PySem.W.SL.s4860613602091757760x24, .ref (61 : Nat)], #[]⟩
noncomputable def hd.z65 : Params → Obj := fun P => ⟨.type PySem.W.SZ.s2766695959194262286x5, (none : Option Nat), .seq #[.ref (61 : Nat)] (0 : Nat), #[]⟩
noncomputable def hd.x66 : Params → Obj := fun P => ⟨.type PySem.W.SL.s11030030927630378310x26, (none : Option Nat), .fields #[.builtin PySem.W.SL.s10062305145149207511x16, .type PySem.W.SL.s17162191345867700912x4], #[]⟩
noncomputable def hd.x67 : Params → Obj := fun P => ⟨.type PySem.W.SL.s14018661285674007319x4, (none : Option Nat), .dict #[⟨PySem.PyData.keyHash P ⟨⟨[nat_lit 95, nat_lit 95, nat_lit 109, nat_lit 111, nat_lit 100, nat_lit 117, nat_lit 108, nat_lit 101, nat_lit 95, nat_lit 95]⟩⟩, .str ⟨⟨[nat_lit 95, nat_lit 95, nat_lit 109, nat_lit 111, nat_lit 100, nat_lit 117, nat_lit 108, nat_lit 101, nat_lit 95, nat_lit 95]⟩⟩ (264 : Nat), .str ⟨⟨[nat_lit 108, nat_lit 101, nat_lit 100, nat_lit 103, nat_lit 101, nat_lit 114, nat_lit 115, nat_lit 112, nat_lit 101, nat_lit 97, nat_lit 107, nat_lit 46, nat_lit 101, nat_lit 114, nat_lit 114, nat_lit 111, nat_lit 114, nat_lit 115]⟩⟩ (215 : Nat)⟩, ⟨PySem.PyData.keyHash P ⟨⟨[nat_lit 95, nat_lit 95, nat_lit 113, nat_lit 117, nat_lit 97, nat_lit 108, nat_lit 110, nat_lit 97, nat_lit 109, nat_lit 101, nat_lit 95, nat_lit 95]⟩⟩, .str ⟨⟨[nat_lit 95, nat_lit 95, nat_lit 113, nat_lit 117, nat_lit 97, nat_lit 108, nat_lit 110, nat_lit 97, nat_lit 109, nat_lit 101, nat_lit 95, nat_lit 95]⟩⟩ (266 : Nat), .str ⟨⟨[nat_lit 71, nat_lit 114, nat_lit 97, nat_lit 109, nat_lit 109, nat_lit 97, nat_lit 114, nat_lit 70, nat_lit 97, nat_lit 117, nat_lit 108, nat_lit 116]⟩⟩ (265 : Nat)⟩, ⟨PySem.PyData.keyHash P ⟨⟨[nat_lit 95, nat_lit 95, nat_lit 102, nat_lit 105, nat_lit 114, nat_lit 115, nat_lit 116, nat_lit 108, nat_lit 105, nat_lit 110, nat_lit 101, nat_lit 110, nat_lit 111, nat_lit 95, nat_lit 95]⟩⟩, .str ⟨⟨[nat_lit 95, nat_lit 95, nat_lit 102, nat_lit 105, nat_lit 114, nat_lit 115, nat_lit 116, nat_lit 108, nat_lit 105, nat_lit 110, nat_lit 101, nat_lit 110, nat_lit 111, nat_lit 95, nat_lit 95]⟩⟩ (268 : Nat), .int 34 (267 : Nat)⟩, ⟨PySem.PyData.keyHash P ⟨⟨[nat_lit 95, nat_lit 95, nat_lit 115, nat_lit 116, nat_lit 97, nat_lit 116, nat_lit 105, nat_lit 99, nat_lit 95, nat_lit 97, nat_lit 116, nat_lit 116, nat_lit 114, nat_lit 105, nat_lit 98, nat_lit 117, nat_lit 116, nat_lit 101, nat_lit 115, nat_lit 95, nat_lit 95]⟩⟩, .str ⟨⟨[nat_lit 95, nat_lit 95, nat_lit 115, nat_lit 116, nat_lit 97, nat_lit 116, nat_lit 105, nat_lit 99, nat_lit 95, nat_lit 97, nat_lit 116, nat_lit 116, nat_lit 114, nat_lit 105, nat_lit 98, nat_lit 117, nat_lit 116, nat_lit 101, nat_lit 115, nat_lit 95, nat_lit 95]⟩⟩ (269 : Nat), .ref (72 : Nat)⟩] (4 : Nat), #[]⟩
noncomputable def hd.x68 : Params → Obj := fun P => ⟨.type PySem.W.SL.s2766695959194262286x5, (none : Option Nat), .seq #[] (0 : Nat), #[]⟩
noncomputable def hd.x69 : Params → Obj := fun P => ⟨.none, (none : Option Nat), .fields #[], #[]⟩
noncomputable def hd.x70 : Params → Obj := fun P => ⟨.type PySem.W.SL.s5856160107412720595x4, (none : Option Nat), .fields #[.str ⟨⟨[nat_lit 71, nat_lit 114, nat_lit 97, nat_lit 109, nat_lit 109, nat_lit 97, nat_lit 114, nat_lit 70, nat_lit 97, nat_lit 117, nat_lit 108, nat_lit 116]⟩⟩ (259 : Nat), .str ⟨⟨[nat_lit 71, nat_lit 114, nat_lit 97, nat_lit 109, nat_lit 109, nat_lit 97, nat_lit 114, nat_lit 70, nat_lit 97, nat_lit 117, nat_lit 108, nat_lit 116]⟩⟩ (260 : Nat), .str ⟨⟨[nat_lit 47, nat_lit 99, nat_lit 108, nat_lit 97, nat_lit 105, nat_lit 109, nat_lit 47, nat_lit 99, nat_lit 117, nat_lit 116, nat_lit 46, nat_lit 112, nat_lit 121]⟩⟩ (261 : Nat), .int 34 (0 : Nat), .int 0 (0 : Nat), .int 0 (0 : Nat), .int 0 (0 : Nat), .int 0 (0 : Nat), .ref (68 : Nat), .bool false, .int 181 (0 : Nat), .ref (69 : Nat), .none, .none, .none, .none, .int 262 (0 : Nat), .int 34 (0 : Nat), .str ⟨⟨[nat_lit 47, nat_lit 99, nat_lit 108, nat_lit 97, nat_lit 105, nat_lit 109, nat_lit 47, nat_lit 99, nat_lit 117, nat_lit 116, nat_lit 46, nat_lit 112, nat_lit 121]⟩⟩ (263 : Nat)], #[]⟩
noncomputable def hd.x71 : Params → Obj := fun P => ⟨.type PySem.W.SL.s658472552662922059x5, (none : Option Nat), .plain, #[Option.some (.ref (70 : Nat)), Option.some (.ref (3 : Nat)), Option.some (.ref (67 : Nat)), none, Option.some (.str ⟨⟨[nat_lit 108, nat_lit 101, nat_lit 100, nat_lit 103, nat_lit 101, nat_lit 114, nat_lit 115, nat_lit 112, nat_lit 101, nat_lit 97, nat_lit 107, nat_lit 46, nat_lit 101, nat_lit 114, nat_lit 114, nat_lit 111, nat_lit 114, nat_lit 115]⟩⟩ (215 : Nat)), none, Option.some (.ref (0 : Nat))]⟩
noncomputable def hd.z72 : Params → Obj := fun P => ⟨.type PySem.W.SZ.s2766695959194262286x5, (none : Option Nat), .seq #[] (0 : Nat), #[]⟩
noncomputable def hd.z73 : Params → Obj := fun P => ⟨.type PySem.W.SZ.s14018661285674007319x4, (none : Option Nat), .dict #[⟨PySem.PyData.keyHash P ⟨⟨[nat_lit 95, nat_lit 95, nat_lit 109, nat_lit 111, nat_lit 100, nat_lit 117, nat_lit 108, nat_lit 101, nat_lit 95, nat_lit 95]⟩⟩, .str ⟨⟨[nat_lit 95, nat_lit 95, nat_lit 109, nat_lit 111, nat_lit 100, nat_lit 117, nat_lit 108, nat_lit 101, nat_lit 95, nat_lit 95]⟩⟩ (264 : Nat), .str ⟨⟨[nat_lit 108, nat_lit 101, nat_lit 100, nat_lit 103, nat_lit 101, nat_lit 114, nat_lit 115, nat_lit 112, nat_lit 101, nat_lit 97, nat_lit 107, nat_lit 46, nat_lit 101, nat_lit 114, nat_lit 114, nat_lit 111, nat_lit 114, nat_lit 115]⟩⟩ (215 : Nat)⟩, ⟨PySem.PyData.keyHash P ⟨⟨[nat_lit 95, nat_lit 95, nat_lit 102, nat_lit 105, nat_lit 114, nat_lit 115, nat_lit 116, nat_lit 108, nat_lit 105, nat_lit 110, nat_lit 101, nat_lit 110, nat_lit 111, nat_lit 95, nat_lit 95]⟩⟩, .str ⟨⟨[nat_lit 95, nat_lit 95, nat_lit 102, nat_lit 105, nat_lit 114, nat_lit 115, nat_lit 116, nat_lit 108, nat_lit 105, nat_lit 110, nat_lit 101, nat_lit 110, nat_lit 111, nat_lit 95, nat_lit 95]⟩⟩ (268 : Nat), .int 34 (267 : Nat)⟩, ⟨PySem.PyData.keyHash P ⟨⟨[nat_lit 95, nat_lit 95, nat_lit 115, nat_lit 116, nat_lit 97, nat_lit 116, nat_lit 105, nat_lit 99, nat_lit 95, nat_lit 97, nat_lit 116, nat_lit 116, nat_lit 114, nat_lit 105, nat_lit 98, nat_lit 117, nat_lit 116, nat_lit 101, nat_lit 115, nat_lit 95, nat_lit 95]⟩⟩, .str ⟨⟨[nat_lit 95, nat_lit 95, nat_lit 115, nat_lit 116, nat_lit 97, nat_lit 116, nat_lit 105, nat_lit 99, nat_lit 95, nat_lit 97, nat_lit 116, nat_lit 116, nat_lit 114, nat_lit 105, nat_lit 98, nat_lit 117, nat_lit 116, nat_lit 101, nat_lit 115, nat_lit 95, nat_lit 95]⟩⟩ (269 : Nat), .ref (72 : Nat)⟩, ⟨PySem.PyData.keyHash P ⟨⟨[nat_lit 95, nat_lit 95, nat_lit 100, nat_lit 111, nat_lit 99, nat_lit 95, nat_lit 95]⟩⟩, .str ⟨⟨[nat_lit 95, nat_lit 95, nat_lit 100, nat_lit 111, nat_lit 99, nat_lit 95, nat_lit 95]⟩⟩ (270 : Nat), .none⟩] (2 : Nat), #[]⟩
noncomputable def hd.z74 : Params → Obj := fun P => ⟨.type PySem.W.SZ.s17162191345867700912x4, (none : Option Nat), .cls ⟨⟨⟨[nat_lit 71, nat_lit 114, nat_lit 97, nat_lit 109, nat_lit 109, nat_lit 97, nat_lit 114, nat_lit 70, nat_lit 97, nat_lit 117, nat_lit 108, nat_lit 116]⟩⟩, [.ref (61 : Nat)], [.ref (74 : Nat), .ref (61 : Nat), .type PySem.W.SZ.s5946037652744460706x9, .type PySem.W.SZ.s4278001404047624695x13, .type PySem.W.SZ.s2742458400755230247x6], (73 : Nat), ⟨⟨[nat_lit 71, nat_lit 114, nat_lit 97, nat_lit 109, nat_lit 109, nat_lit 97, nat_lit 114, nat_lit 70, nat_lit 97, nat_lit 117, nat_lit 108, nat_lit 116]⟩⟩, true, [], [], false, none, false⟩, #[Option.some (.ref (65 : Nat)), none, Option.some (.str ⟨⟨[nat_lit 71, nat_lit 114, nat_lit 97, nat_lit 109, nat_lit 109, nat_lit 97, nat_lit 114, nat_lit 70, nat_lit 97, nat_lit 117, nat_lit 108, nat_lit 116]⟩⟩ (257 : Nat)), Option.some (.str ⟨⟨[nat_lit 71, nat_lit 114, nat_lit 97, nat_lit 109, nat_lit 109, nat_lit 97, nat_lit 114, nat_lit 70, nat_lit 97, nat_lit 117, nat_lit 108, nat_lit 116]⟩⟩ (265 : Nat)), Option.some (.builtin PySem.W.SZ.s5160863994218179198x17), Option.some (.bool true)]⟩
noncomputable def hd.x75 : Params → Obj := fun P => ⟨.type PySem.W.SL.s4290257624100764138x5, (none : Option Nat), .fields #[.ref (74 : Nat), .ref (74 : Nat), .ref (74 : Nat)], #[]⟩
noncomputable def hd.x76 : Params → Obj := fun P => ⟨.type PySem.W.SL.s11030030927630378310x26, (none : Option Nat), .fields #[.builtin PySem.W.SL.s4860613602091757760x24, .ref (74 : Nat)], #[]⟩
noncomputable def hd.z77 : Params → Obj := fun P => ⟨.type PySem.W.SZ.s2766695959194262286x5, (none : Option Nat), .seq #[] (0 : Nat), #[]⟩
noncomputable def hd.z78 : Params → Obj := fun P => ⟨.none, (none : Option Nat), .fields #[], #[]⟩
noncomputable def hd.z79 : Params → Obj := fun P => ⟨.type PySem.W.SZ.s2766695959194262286x5, (none : Option Nat), .seq #[.str ⟨⟨[nat_lit 119, nat_lit 111, nat_lit 114, nat_lit 100]⟩⟩ (280 : Nat)] (0 : Nat), #[]⟩
noncomputable def hd.z80 : Params → Obj := fun P => ⟨.type PySem.W.SZ.s2766695959194262286x5, (none : Option Nat), .seq #[] (0 : Nat), #[]⟩
noncomputable def hd.z81 : Params → Obj := by
  refine' (?F : ∀ (a : Arguments) (b : List Stmt) (c : Scope), hd.fPar (hd.stAt hd.twB 9) = a → hd.fBod (hd.stAt hd.twB 9) = b → hd.fSco (hd.stAt hd.twB 9) = c → Params → Obj) _ _ _ ?h0 ?h1 ?h2
  case h0 => (conv => lhs; whnf) <;> rfl
  case h1 => (conv => lhs; whnf) <;> rfl
  case h2 => (conv => lhs; whnf) <;> rfl
  case F => exact fun a b c _ _ _ => fun P => ⟨.none, (none : Option Nat), .func ⟨⟨⟨[nat_lit 105, nat_lit 115, nat_lit 95, nat_lit 114, nat_lit 101, nat_lit 115, nat_lit 101, nat_lit 114, nat_lit 118, nat_lit 101, nat_lit 100]⟩⟩, ⟨⟨[nat_lit 105, nat_lit 115, nat_lit 95, nat_lit 114, nat_lit 101, nat_lit 115, nat_lit 101, nat_lit 114, nat_lit 118, nat_lit 101, nat_lit 100]⟩⟩, a, .stmts b, c, (0 : Nat), ([] : List (Str × Nat)), .none, .none, .none, .none, (none : Option Nat), .none, .none, (0 : Nat)⟩, #[]⟩
noncomputable def hd.z82 : Params → Obj := fun P => ⟨.type PySem.W.SZ.s5856160107412720595x4, (none : Option Nat), .fields #[.str ⟨⟨[nat_lit 105, nat_lit 115, nat_lit 95, nat_lit 114, nat_lit 101, nat_lit 115, nat_lit 101, nat_lit 114, nat_lit 118, nat_lit 101, nat_lit 100]⟩⟩ (277 : Nat), .str ⟨⟨[nat_lit 105, nat_lit 115, nat_lit 95, nat_lit 114, nat_lit 101, nat_lit 115, nat_lit 101, nat_lit 114, nat_lit 118, nat_lit 101, nat_lit 100]⟩⟩ (278 : Nat), .str ⟨⟨[nat_lit 47, nat_lit 99, nat_lit 108, nat_lit 97, nat_lit 105, nat_lit 109, nat_lit 47, nat_lit 99, nat_lit 117, nat_lit 116, nat_lit 46, nat_lit 112, nat_lit 121]⟩⟩ (279 : Nat), .int 38 (0 : Nat), .int 1 (0 : Nat), .int 0 (0 : Nat), .int 0 (0 : Nat), .int 3 (0 : Nat), .ref (77 : Nat), .bool true, .int 181 (0 : Nat), .ref (78 : Nat), .none, .ref (79 : Nat), .ref (80 : Nat), .ref (81 : Nat), .int 281 (0 : Nat), .int 38 (0 : Nat), .str ⟨⟨[nat_lit 47, nat_lit 99, nat_lit 108, nat_lit 97, nat_lit 105, nat_lit 109, nat_lit 47, nat_lit 99, nat_lit 117, nat_lit 116, nat_lit 46, nat_lit 112, nat_lit 121]⟩⟩ (282 : Nat)], #[]⟩
noncomputable def hd.z83 : Params → Obj := by
  refine' (?F : ∀ (a : Arguments) (b : List Stmt) (c : Scope), hd.fPar (hd.stAt hd.twB 9) = a → hd.fBod (hd.stAt hd.twB 9) = b → hd.fSco (hd.stAt hd.twB 9) = c → Params → Obj) _ _ _ ?h0 ?h1 ?h2
  case h0 => (conv => lhs; whnf) <;> rfl
  case h1 => (conv => lhs; whnf) <;> rfl
  case h2 => (conv => lhs; whnf) <;> rfl
  case F => exact fun a b c _ _ _ => fun P => ⟨.type PySem.W.SZ.s7174869446012820540x8, (none : Option Nat), .func ⟨⟨⟨[nat_lit 105, nat_lit 115, nat_lit 95, nat_lit 114, nat_lit 101, nat_lit 115, nat_lit 101, nat_lit 114, nat_lit 118, nat_lit 101, nat_lit 100]⟩⟩, ⟨⟨[nat_lit 105, nat_lit 115, nat_lit 95, nat_lit 114, nat_lit 101, nat_lit 115, nat_lit 101, nat_lit 114, nat_lit 118, nat_lit 101, nat_lit 100]⟩⟩, a, .stmts b, c, (3 : Nat), ([] : List (Str × Nat)), .none, .none, .none, .str ⟨⟨[nat_lit 108, nat_lit 101, nat_lit 100, nat_lit 103, nat_lit 101, nat_lit 114, nat_lit 115, nat_lit 112, nat_lit 101, nat_lit 97, nat_lit 107, nat_lit 46, nat_lit 114, nat_lit 101, nat_lit 97, nat_lit 100, nat_lit 101, nat_lit 114]⟩⟩ (273 : Nat), (none : Option Nat), .ref (82 : Nat), .none, (0 : Nat)⟩, #[]⟩
noncomputable def hd.x84 : Params → Obj := fun P => ⟨.type PySem.W.SL.s2766695959194262286x5, (none : Option Nat), .seq #[] (0 : Nat), #[]⟩
noncomputable def hd.x85 : Params → Obj := fun P => ⟨.type PySem.W.SL.s11030030927630378310x26, (none : Option Nat), .fields #[.builtin PySem.W.SL.s10062305145149207511x16, .type PySem.W.SL.s17162191345867700912x4], #[]⟩
noncomputable def hd.x86 : Params → Obj := fun P => ⟨.type PySem.W.SL.s14018661285674007319x4, (none : Option Nat), .dict (List.toArray (⟨PySem.PyData.keyHash P ⟨⟨[nat_lit 95, nat_lit 95, nat_lit 109, nat_lit 111, nat_lit 100, nat_lit 117, nat_lit 108, nat_lit 101, nat_lit 95, nat_lit 95]⟩⟩, .str ⟨⟨[nat_lit 95, nat_lit 95, nat_lit 109, nat_lit 111, nat_lit 100, nat_lit 117, nat_lit 108, nat_lit 101, nat_lit 95, nat_lit 95]⟩⟩ (291 : Nat), .str ⟨⟨[nat_lit 108, nat_lit 101, nat_lit 100, nat_lit 103, nat_lit 101, nat_lit 114, nat_lit 115, nat_lit 112, nat_lit 101, nat_lit 97, nat_lit 107, nat_lit 46, nat_lit 114, nat_lit 101, nat_lit 97, nat_lit 100, nat_lit 101, nat_lit 114]⟩⟩ (273 : Nat)⟩ :: ⟨PySem.PyData.keyHash P ⟨⟨[nat_lit 95, nat_lit 95, nat_lit 113, nat_lit 117, nat_lit 97, nat_lit 108, nat_lit 110, nat_lit 97, nat_lit 109, nat_lit 101, nat_lit 95, nat_lit 95]⟩⟩, .str ⟨⟨[nat_lit 95, nat_lit 95, nat_lit 113, nat_lit 117, nat_lit 97, nat_lit 108, nat_lit 110, nat_lit 97, nat_lit 109, nat_lit 101, nat_lit 95, nat_lit 95]⟩⟩ (293 : Nat), .str ⟨⟨[nat_lit 82, nat_lit 101, nat_lit 97, nat_lit 100, nat_lit 101, nat_lit 114]⟩⟩ (292 : Nat)⟩ :: ⟨PySem.PyData.keyHash P ⟨⟨[nat_lit 95, nat_lit 95, nat_lit 102, nat_lit 105, nat_lit 114, nat_lit 115, nat_lit 116, nat_lit 108, nat_lit 105, nat_lit 110, nat_lit 101, nat_lit 110, nat_lit 111, nat_lit 95, nat_lit 95]⟩⟩, .str ⟨⟨[nat_lit 95, nat_lit 95, nat_lit 102, nat_lit 105, nat_lit 114, nat_lit 115, nat_lit 116, nat_lit 108, nat_lit 105, nat_lit 110, nat_lit 101, nat_lit 110, nat_lit 111, nat_lit 95, nat_lit 95]⟩⟩ (295 : Nat), .int 40 (294 : Nat)⟩ :: ⟨PySem.PyData.keyHash P ⟨⟨[nat_lit 95, nat_lit 95, nat_lit 105, nat_lit 110, nat_lit 105, nat_lit 116, nat_lit 95, nat_lit 95]⟩⟩, .str ⟨⟨[nat_lit 95, nat_lit 95, nat_lit 105, nat_lit 110, nat_lit 105, nat_lit 116, nat_lit 95, nat_lit 95]⟩⟩ (305 : Nat), .ref (98 : Nat)⟩ :: ⟨PySem.PyData.keyHash P ⟨⟨[nat_lit 112, nat_lit 101, nat_lit 101, nat_lit 107]⟩⟩, .str ⟨⟨[nat_lit 112, nat_lit 101, nat_lit 101, nat_lit 107]⟩⟩ (314 : Nat), .ref (106 : Nat)⟩ :: ⟨PySem.PyData.keyHash P ⟨⟨[nat_lit 105, nat_lit 115, nat_lit 95, nat_lit 100, nat_lit 111, nat_lit 110, nat_lit 101]⟩⟩, .str ⟨⟨[nat_lit 105, nat_lit 115, nat_lit 95, nat_lit 100, nat_lit 111, nat_lit 110, nat_lit 101]⟩⟩ (321 : Nat), .ref (113 : Nat)⟩ :: ⟨PySem.PyData.keyHash P ⟨⟨[nat_lit 102, nat_lit 97, nat_lit 117, nat_lit 108, nat_lit 116]⟩⟩, .str ⟨⟨[nat_lit 102, nat_lit 97, nat_lit 117, nat_lit 108, nat_lit 116]⟩⟩ (329 : Nat), .ref (120 : Nat)⟩ :: ⟨PySem.PyData.keyHash P ⟨⟨[nat_lit 116, nat_lit 97, nat_lit 107, nat_lit 101]⟩⟩, .str ⟨⟨[nat_lit 116, nat_lit 97, nat_lit 107, nat_lit 101]⟩⟩ (337 : Nat), .ref (127 : Nat)⟩ :: ⟨PySem.PyData.keyHash P ⟨⟨[nat_lit 105, nat_lit 115, nat_lit 95, nat_lit 107, nat_lit 105, nat_lit 110, nat_lit 100]⟩⟩, .str ⟨⟨[nat_lit 105, nat_lit 115, nat_lit 95, nat_lit 107, nat_lit 105, nat_lit 110, nat_lit 100]⟩⟩ (348 : Nat), .ref (135 : Nat)⟩ :: ⟨PySem.PyData.keyHash P ⟨⟨[nat_lit 105, nat_lit 115, nat_lit 95, nat_lit 119, nat_lit 111, nat_lit 114, nat_lit 100]⟩⟩, .str ⟨⟨[nat_lit 105, nat_lit 115, nat_lit 95, nat_lit 119, nat_lit 111, nat_lit 114, nat_lit 100]⟩⟩ (358 : Nat), .ref (142 : Nat)⟩ :: ⟨PySem.PyData.keyHash P ⟨⟨[nat_lit 115, nat_lit 107, nat_lit 105, nat_lit 112]⟩⟩, .str ⟨⟨[nat_lit 115, nat_lit 107, nat_lit 105, nat_lit 112]⟩⟩ (366 : Nat), .ref (149 : Nat)⟩ :: ⟨PySem.PyData.keyHash P ⟨⟨[nat_lit 110, nat_lit 101, nat_lit 101, nat_lit 100]⟩⟩, .str ⟨⟨[nat_lit 110, nat_lit 101, nat_lit 101, nat_lit 100]⟩⟩ (374 : Nat), .ref (156 : Nat)⟩ :: ⟨PySem.PyData.keyHash P ⟨⟨[nat_lit 111, nat_lit 110, nat_lit 101, nat_lit 95, nat_lit 111, nat_lit 102]⟩⟩, .str ⟨⟨[nat_lit 111, nat_lit 110, nat_lit 101, nat_lit 95, nat_lit 111, nat_lit 102]⟩⟩ (382 : Nat), .ref (163 : Nat)⟩ :: ⟨PySem.PyData.keyHash P ⟨⟨[nat_lit 119, nat_lit 111, nat_lit 114, nat_lit 100]⟩⟩, .str ⟨⟨[nat_lit 119, nat_lit 111, nat_lit 114, nat_lit 100]⟩⟩ (389 : Nat), .ref (170 : Nat)⟩ :: ⟨PySem.PyData.keyHash P ⟨⟨[nat_lit 105, nat_lit 115, nat_lit 95, nat_lit 110, nat_lit 97, nat_lit 109, nat_lit 101]⟩⟩, .str ⟨⟨[nat_lit 105, nat_lit 115, nat_lit 95, nat_lit 110, nat_lit 97, nat_lit 109, nat_lit 101]⟩⟩ (398 : Nat), .ref (178 : Nat)⟩ :: ⟨PySem.PyData.keyHash P ⟨⟨[nat_lit 110, nat_lit 97, nat_lit 109, nat_lit 101]⟩⟩, .str ⟨⟨[nat_lit 110, nat_lit 97, nat_lit 109, nat_lit 101]⟩⟩ (405 : Nat), .ref (185 : Nat)⟩ :: ⟨PySem.PyData.keyHash P ⟨⟨[nat_lit 110, nat_lit 97, nat_lit 109, nat_lit 101, nat_lit 115]⟩⟩, .str ⟨⟨[nat_lit 110, nat_lit 97, nat_lit 109, nat_lit 101, nat_lit 115]⟩⟩ (413 : Nat), .ref (192 : Nat)⟩ :: ⟨PySem.PyData.keyHash P ⟨⟨[nat_lit 105, nat_lit 115, nat_lit 95, nat_lit 115, nat_lit 105, nat_lit 103, nat_lit 110]⟩⟩, .str ⟨⟨[nat_lit 105, nat_lit 115, nat_lit 95, nat_lit 115, nat_lit 105, nat_lit 103, nat_lit 110]⟩⟩ (423 : Nat), .ref (200 : Nat)⟩ :: ⟨PySem.PyData.keyHash P ⟨⟨[nat_lit 115, nat_lit 107, nat_lit 105, nat_lit 112, nat_lit 95, nat_lit 115, nat_lit 105, nat_lit 103, nat_lit 110]⟩⟩, .str ⟨⟨[nat_lit 115, nat_lit 107, nat_lit 105, nat_lit 112, nat_lit 95, nat_lit 115, nat_lit 105, nat_lit 103, nat_lit 110]⟩⟩ (431 : Nat), .ref (207 : Nat)⟩ :: ⟨PySem.PyData.keyHash P ⟨⟨[nat_lit 110, nat_lit 101, nat_lit 101, nat_lit 100, nat_lit 95, nat_lit 115, nat_lit 105, nat_lit 103, nat_lit 110]⟩⟩, .str ⟨⟨[nat_lit 110, nat_lit 101, nat_lit 101, nat_lit 100, nat_lit 95, nat_lit 115, nat_lit 105, nat_lit 103, nat_lit 110]⟩⟩ (439 : Nat), .ref (214 : Nat)⟩ :: ⟨PySem.PyData.keyHash P ⟨⟨[nat_lit 105, nat_lit 115, nat_lit 95, nat_lit 110, nat_lit 117, nat_lit 109, nat_lit 98, nat_lit 101, nat_lit 114]⟩⟩, .str ⟨⟨[nat_lit 105, nat_lit 115, nat_lit 95, nat_lit 110, nat_lit 117, nat_lit 109, nat_lit 98, nat_lit 101, nat_lit 114]⟩⟩ (446 : Nat), .ref (221 : Nat)⟩ :: ⟨PySem.PyData.keyHash P ⟨⟨[nat_lit 115, nat_lit 105, nat_lit 103, nat_lit 110, nat_lit 101, nat_lit 100]⟩⟩, .str ⟨⟨[nat_lit 115, nat_lit 105, nat_lit 103, nat_lit 110, nat_lit 101, nat_lit 100]⟩⟩ (453 : Nat), .ref (228 : Nat)⟩ :: ⟨PySem.PyData.keyHash P ⟨⟨[nat_lit 119, nat_lit 104, nat_lit 111, nat_lit 108, nat_lit 101]⟩⟩, .str ⟨⟨[nat_lit 119, nat_lit 104, nat_lit 111, nat_lit 108, nat_lit 101]⟩⟩ (460 : Nat), .ref (235 : Nat)⟩ :: ⟨PySem.PyData.keyHash P ⟨⟨[nat_lit 108, nat_lit 105, nat_lit 116, nat_lit 101, nat_lit 114, nat_lit 97, nat_lit 108]⟩⟩, .str ⟨⟨[nat_lit 108, nat_lit 105, nat_lit 116, nat_lit 101, nat_lit 114, nat_lit 97, nat_lit 108]⟩⟩ (467 : Nat), .ref (242 : Nat)⟩ :: ⟨PySem.PyData.keyHash P ⟨⟨[nat_lit 111, nat_lit 99, nat_lit 116, nat_lit 101, nat_lit 116, nat_lit 115]⟩⟩, .str ⟨⟨[nat_lit 111, nat_lit 99, nat_lit 116, nat_lit 101, nat_lit 116, nat_lit 115]⟩⟩ (474 : Nat), .ref (249 : Nat)⟩ :: ⟨PySem.PyData.keyHash P ⟨⟨[nat_lit 95, nat_lit 95, nat_lit 115, nat_lit 116, nat_lit 97, nat_lit 116, nat_lit 105, nat_lit 99, nat_lit 95, nat_lit 97, nat_lit 116, nat_lit 116, nat_lit 114, nat_lit 105, nat_lit 98, nat_lit 117, nat_lit 116, nat_lit 101, nat_lit 115, nat_lit 95, nat_lit 95]⟩⟩, .str ⟨⟨[nat_lit 95, nat_lit 95, nat_lit 115, nat_lit 116, nat_lit 97, nat_lit 116, nat_lit 105, nat_lit 99, nat_lit 95, nat_lit 97, nat_lit 116, nat_lit 116, nat_lit 114, nat_lit 105, nat_lit 98, nat_lit 117, nat_lit 116, nat_lit 101, nat_lit 115, nat_lit 95, nat_lit 95]⟩⟩ (478 : Nat), .ref (250 : Nat)⟩ :: [])) (26 : Nat), #[]⟩
noncomputable def hd.x87 : Params → Obj := fun P => ⟨.type PySem.W.SL.s2766695959194262286x5, (none : Option Nat), .seq #[] (0 : Nat), #[]⟩
noncomputable def hd.x88 : Params → Obj := fun P => ⟨.none, (none : Option Nat), .fields (List.toArray ((.int 42 (0 : Nat)) :: (.int 4 (0 : Nat)) :: (.ref (97 : Nat)) :: (.int 47 (0 : Nat)) :: (.int 4 (0 : Nat)) :: (.ref (105 : Nat)) :: (.int 52 (0 : Nat)) :: (.int 4 (0 : Nat)) :: (.ref (112 : Nat)) :: (.int 55 (0 : Nat)) :: (.int 4 (0 : Nat)) :: (.ref (119 : Nat)) :: (.int 60 (0 : Nat)) :: (.int 4 (0 : Nat)) :: (.ref (126 : Nat)) :: (.int 67 (0 : Nat)) :: (.int 4 (0 : Nat)) :: (.ref (134 : Nat)) :: (.int 71 (0 : Nat)) :: (.int 4 (0 : Nat)) :: (.ref (141 : Nat)) :: (.int 79 (0 : Nat)) :: (.int 4 (0 : Nat)) :: (.ref (148 : Nat)) :: (.int 85 (0 : Nat)) :: (.int 4 (0 : Nat)) :: (.ref (155 : Nat)) :: (.int 88 (0 : Nat)) :: (.int 4 (0 : Nat)) :: (.ref (162 : Nat)) :: (.int 91 (0 : Nat)) :: (.int 4 (0 : Nat)) :: (.ref (169 : Nat)) :: (.int 96 (0 : Nat)) :: (.int 4 (0 : Nat)) :: (.ref (177 : Nat)) :: (.int 99 (0 : Nat)) :: (.int 4 (0 : Nat)) :: (.ref (184 : Nat)) :: (.int 104 (0 : Nat)) :: (.int 4 (0 : Nat)) :: (.ref (191 : Nat)) :: (.int 110 (0 : Nat)) :: (.int 4 (0 : Nat)) :: (.ref (199 : Nat)) :: (.int 113 (0 : Nat)) :: (.int 4 (0 : Nat)) :: (.ref (206 : Nat)) :: (.int 116 (0 : Nat)) :: (.int 4 (0 : Nat)) :: (.ref (213 : Nat)) :: (.int 119 (0 : Nat)) :: (.int 4 (0 : Nat)) :: (.ref (220 : Nat)) :: (.int 122 (0 : Nat)) :: (.int 4 (0 : Nat)) :: (.ref (227 : Nat)) :: (.int 125 (0 : Nat)) :: (.int 4 (0 : Nat)) :: (.ref (234 : Nat)) :: (.int 128 (0 : Nat)) :: (.int 4 (0 : Nat)) :: (.ref (241 : Nat)) :: (.int 131 (0 : Nat)) :: (.int 4 (0 : Nat)) :: (.ref (248 : Nat)) :: [])), #[]⟩
noncomputable def hd.x89 : Params → Obj := fun P => ⟨.type PySem.W.SL.s5856160107412720595x4, (none : Option Nat), .fields #[.str ⟨⟨[nat_lit 82, nat_lit 101, nat_lit 97, nat_lit 100, nat_lit 101, nat_lit 114]⟩⟩ (286 : Nat), .str ⟨⟨[nat_lit 82, nat_lit 101, nat_lit 97, nat_lit 100, nat_lit 101, nat_lit 114]⟩⟩ (287 : Nat), .str ⟨⟨[nat_lit 47, nat_lit 99, nat_lit 108, nat_lit 97, nat_lit 105, nat_lit 109, nat_lit 47, nat_lit 99, nat_lit 117, nat_lit 116, nat_lit 46, nat_lit 112, nat_lit 121]⟩⟩ (288 : Nat), .int 40 (0 : Nat), .int 0 (0 : Nat), .int 0 (0 : Nat), .int 0 (0 : Nat), .int 0 (0 : Nat), .ref (87 : Nat), .bool false, .int 181 (0 : Nat), .ref (88 : Nat), .none, .none, .none, .none, .int 289 (0 : Nat), .int 40 (0 : Nat), .str ⟨⟨[nat_lit 47, nat_lit 99, nat_lit 108, nat_lit 97, nat_lit 105, nat_lit 109, nat_lit 47, nat_lit 99, nat_lit 117, nat_lit 116, nat_lit 46, nat_lit 112, nat_lit 121]⟩⟩ (290 : Nat)], #[]⟩
noncomputable def hd.x90 : Params → Obj := fun P => ⟨.type PySem.W.SL.s658472552662922059x5, (none : Option Nat), .plain, #[Option.some (.ref (89 : Nat)), Option.some (.ref (3 : Nat)), Option.some (.ref (86 : Nat)), none, Option.some (.str ⟨⟨[nat_lit 108, nat_lit 101, nat_lit 100, nat_lit 103, nat_lit 101, nat_lit 114, nat_lit 115, nat_lit 112, nat_lit 101, nat_lit 97, nat_lit 107, nat_lit 46, nat_lit 114, nat_lit 101, nat_lit 97, nat_lit 100, nat_lit 101, nat_lit 114]⟩⟩ (273 : Nat)), none, Option.some (.ref (0 : Nat))]⟩
noncomputable def hd.z91 : Params → Obj := fun P => ⟨.type PySem.W.SZ.s2766695959194262286x5, (none : Option Nat), .seq #[.int 0 (296 : Nat)] (0 : Nat), #[]⟩
noncomputable def hd.z92 : Params → Obj := fun P => ⟨.type PySem.W.SZ.s2766695959194262286x5, (none : Option Nat), .seq #[] (0 : Nat), #[]⟩
noncomputable def hd.z93 : Params → Obj := fun P => ⟨.none, (none : Option Nat), .fields #[], #[]⟩
noncomputable def hd.z94 : Params → Obj := fun P => ⟨.type PySem.W.SZ.s2766695959194262286x5, (none : Option Nat), .seq #[.str ⟨⟨[nat_lit 115, nat_lit 101, nat_lit 108, nat_lit 102]⟩⟩ (300 : Nat), .str ⟨⟨[nat_lit 116, nat_lit 111, nat_lit 107, nat_lit 101, nat_lit 110, nat_lit 115]⟩⟩ (301 : Nat), .str ⟨⟨[nat_lit 97, nat_lit 116]⟩⟩ (302 : Nat)] (0 : Nat), #[]⟩
noncomputable def hd.z95 : Params → Obj := fun P => ⟨.type PySem.W.SZ.s2766695959194262286x5, (none : Option Nat), .seq #[] (0 : Nat), #[]⟩
noncomputable def hd.z96 : Params → Obj := by
  refine' (?F : ∀ (a : Arguments) (b : List Stmt) (c : Scope), hd.fPar (hd.stAt (hd.inCls (hd.stAt hd.twB 10)) 0) = a → hd.fBod (hd.stAt (hd.inCls (hd.stAt hd.twB 10)) 0) = b → hd.fSco (hd.stAt (hd.inCls (hd.stAt hd.twB 10)) 0) = c → Params → Obj) _ _ _ ?h0 ?h1 ?h2
  case h0 => (conv => lhs; whnf) <;> rfl
  case h1 => (conv => lhs; whnf) <;> rfl
  case h2 => (conv => lhs; whnf) <;> rfl
  case F => exact fun a b c _ _ _ => fun P => ⟨.none, (none : Option Nat), .func ⟨⟨⟨[nat_lit 95, nat_lit 95, nat_lit 105, nat_lit 110, nat_lit 105, nat_lit 116, nat_lit 95, nat_lit 95]⟩⟩, ⟨⟨[nat_lit 82, nat_lit 101, nat_lit 97, nat_lit 100, nat_lit 101, nat_lit 114, nat_lit 46, nat_lit 95, nat_lit 95, nat_lit 105, nat_lit 110, nat_lit 105, nat_lit 116, nat_lit 95, nat_lit 95]⟩⟩, a, .stmts b, c, (0 : Nat), ([] : List (Str × Nat)), .none, .none, .none, .none, (none : Option Nat), .none, .none, (0 : Nat)⟩, #[]⟩
noncomputable def hd.z97 : Params → Obj := fun P => ⟨.type PySem.W.SZ.s5856160107412720595x4, (none : Option Nat), .fields #[.str ⟨⟨[nat_lit 95, nat_lit 95, nat_lit 105, nat_lit 110, nat_lit 105, nat_lit 116, nat_lit 95, nat_lit 95]⟩⟩ (297 : Nat), .str ⟨⟨[nat_lit 82, nat_lit 101, nat_lit 97, nat_lit 100, nat_lit 101, nat_lit 114, nat_lit 46, nat_lit 95, nat_lit 95, nat_lit 105, nat_lit 110, nat_lit 105, nat_lit 116, nat_lit 95, nat_lit 95]⟩⟩ (298 : Nat), .str ⟨⟨[nat_lit 47, nat_lit 99, nat_lit 108, nat_lit 97, nat_lit 105, nat_lit 109, nat_lit 47, nat_lit 99, nat_lit 117, nat_lit 116, nat_lit 46, nat_lit 112, nat_lit 121]⟩⟩ (299 : Nat), .int 42 (0 : Nat), .int 3 (0 : Nat), .int 0 (0 : Nat), .int 0 (0 : Nat), .int 3 (0 : Nat), .ref (92 : Nat), .bool true, .int 181 (0 : Nat), .ref (93 : Nat), .none, .ref (94 : Nat), .ref (95 : Nat), .ref (96 : Nat), .int 303 (0 : Nat), .int 42 (0 : Nat), .str ⟨⟨[nat_lit 47, nat_lit 99, nat_lit 108, nat_lit 97, nat_lit 105, nat_lit 109, nat_lit 47, nat_lit 99, nat_lit 117, nat_lit 116, nat_lit 46, nat_lit 112, nat_lit 121]⟩⟩ (304 : Nat)], #[]⟩
noncomputable def hd.z98 : Params → Obj := by
  refine' (?F : ∀ (a : Arguments) (b : List Stmt) (c : Scope), hd.fPar (hd.stAt (hd.inCls (hd.stAt hd.twB 10)) 0) = a → hd.fBod (hd.stAt (hd.inCls (hd.stAt hd.twB 10)) 0) = b → hd.fSco (hd.stAt (hd.inCls (hd.stAt hd.twB 10)) 0) = c → Params → Obj) _ _ _ ?h0 ?h1 ?h2
  case h0 => (conv => lhs; whnf) <;> rfl
  case h1 => (conv => lhs; whnf) <;> rfl
  case h2 => (conv => lhs; whnf) <;> rfl
  case F => exact fun a b c _ _ _ => fun P => ⟨.type PySem.W.SZ.s7174869446012820540x8, (none : Option Nat), .func ⟨⟨⟨[nat_lit 95, nat_lit 95, nat_lit 105, nat_lit 110, nat_lit 105, nat_lit 116, nat_lit 95, nat_lit 95]⟩⟩, ⟨⟨[nat_lit 82, nat_lit 101, nat_lit 97, nat_lit 100, nat_lit 101, nat_lit 114, nat_lit 46, nat_lit 95, nat_lit 95, nat_lit 105, nat_lit 110, nat_lit 105, nat_lit 116, nat_lit 95, nat_lit 95]⟩⟩, a, .stmts b, c, (3 : Nat), ([] : List (Str × Nat)), .ref (91 : Nat), .none, .none, .str ⟨⟨[nat_lit 108, nat_lit 101, nat_lit 100, nat_lit 103, nat_lit 101, nat_lit 114, nat_lit 115, nat_lit 112, nat_lit 101, nat_lit 97, nat_lit 107, nat_lit 46, nat_lit 114, nat_lit 101, nat_lit 97, nat_lit 100, nat_lit 101, nat_lit 114]⟩⟩ (273 : Nat), (none : Option Nat), .ref (97 : Nat), .none, (0 : Nat)⟩, #[]⟩
noncomputable def hd.z99 : Params → Obj := fun P => ⟨.type PySem.W.SZ.s2766695959194262286x5, (none : Option Nat), .seq #[.int 0 (306 : Nat)] (0 : Nat), #[]⟩
noncomputable def hd.z100 : Params → Obj := fun P => ⟨.type PySem.W.SZ.s2766695959194262286x5, (none : Option Nat), .seq #[] (0 : Nat), #[]⟩
noncomputable def hd.z101 : Params → Obj := fun P => ⟨.none, (none : Option Nat), .fields #[], #[]⟩
noncomputable def hd.z102 : Params → Obj := fun P => ⟨.type PySem.W.SZ.s2766695959194262286x5, (none : Option Nat), .seq #[.str ⟨⟨[nat_lit 115, nat_lit 101, nat_lit 108, nat_lit 102]⟩⟩ (310 : Nat), .str ⟨⟨[nat_lit 97, nat_lit 104, nat_lit 101, nat_lit 97, nat_lit 100]⟩⟩ (311 : Nat)] (0 : Nat), #[]⟩
noncomputable def hd.z103 : Params → Obj := fun P => ⟨.type PySem.W.SZ.s2766695959194262286x5, (none : Option Nat), .seq #[] (0 : Nat), #[]⟩
noncomputable def hd.z104 : Params → Obj := by
  refine' (?F : ∀ (a : Arguments) (b : List Stmt) (c : Scope), hd.fPar (hd.stAt (hd.inCls (hd.stAt hd.twB 10)) 1) = a → hd.fBod (hd.stAt (hd.inCls (hd.stAt hd.twB 10)) 1) = b → hd.fSco (hd.stAt (hd.inCls (hd.stAt hd.twB 10)) 1) = c → Params → Obj) _ _ _ ?h0 ?h1 ?h2
  case h0 => (conv => lhs; whnf) <;> rfl
  case h1 => (conv => lhs; whnf) <;> rfl
  case h2 => (conv => lhs; whnf) <;> rfl
  case F => exact fun a b c _ _ _ => fun P => ⟨.none, (none : Option Nat), .func ⟨⟨⟨[nat_lit 112, nat_lit 101, nat_lit 101, nat_lit 107]⟩⟩, ⟨⟨[nat_lit 82, nat_lit 101, nat_lit 97, nat_lit 100, nat_lit 101, nat_lit 114, nat_lit 46, nat_lit 112, nat_lit 101, nat_lit 101, nat_lit 107]⟩⟩, a, .stmts b, c, (0 : Nat), ([] : List (Str × Nat)), .none, .none, .none, .none, (none : Option Nat), .none, .none, (0 : Nat)⟩, #[]⟩
noncomputable def hd.z105 : Params → Obj := fun P => ⟨.type PySem.W.SZ.s5856160107412720595x4, (none : Option Nat), .fields #[.str ⟨⟨[nat_lit 112, nat_lit 101, nat_lit 101, nat_lit 107]⟩⟩ (307 : Nat), .str ⟨⟨[nat_lit 82, nat_lit 101, nat_lit 97, nat_lit 100, nat_lit 101, nat_lit 114, nat_lit 46, nat_lit 112, nat_lit 101, nat_lit 101, nat_lit 107]⟩⟩ (308 : Nat), .str ⟨⟨[nat_lit 47, nat_lit 99, nat_lit 108, nat_lit 97, nat_lit 105, nat_lit 109, nat_lit 47, nat_lit 99, nat_lit 117, nat_lit 116, nat_lit 46, nat_lit 112, nat_lit 121]⟩⟩ (309 : Nat), .int 47 (0 : Nat), .int 2 (0 : Nat), .int 0 (0 : Nat), .int 0 (0 : Nat), .int 3 (0 : Nat), .ref (100 : Nat), .bool true, .int 181 (0 : Nat), .ref (101 : Nat), .none, .ref (102 : Nat), .ref (103 : Nat), .ref (104 : Nat), .int 312 (0 : Nat), .int 47 (0 : Nat), .str ⟨⟨[nat_lit 47, nat_lit 99, nat_lit 108, nat_lit 97, nat_lit 105, nat_lit 109, nat_lit 47, nat_lit 99, nat_lit 117, nat_lit 116, nat_lit 46, nat_lit 112, nat_lit 121]⟩⟩ (313 : Nat)], #[]⟩
noncomputable def hd.z106 : Params → Obj := by
  refine' (?F : ∀ (a : Arguments) (b : List Stmt) (c : Scope), hd.fPar (hd.stAt (hd.inCls (hd.stAt hd.twB 10)) 1) = a → hd.fBod (hd.stAt (hd.inCls (hd.stAt hd.twB 10)) 1) = b → hd.fSco (hd.stAt (hd.inCls (hd.stAt hd.twB 10)) 1) = c → Params → Obj) _ _ _ ?h0 ?h1 ?h2
  case h0 => (conv => lhs; whnf) <;> rfl
  case h1 => (conv => lhs; whnf) <;> rfl
  case h2 => (conv => lhs; whnf) <;> rfl
  case F => exact fun a b c _ _ _ => fun P => ⟨.type PySem.W.SZ.s7174869446012820540x8, (none : Option Nat), .func ⟨⟨⟨[nat_lit 112, nat_lit 101, nat_lit 101, nat_lit 107]⟩⟩, ⟨⟨[nat_lit 82, nat_lit 101, nat_lit 97, nat_lit 100, nat_lit 101, nat_lit 114, nat_lit 46, nat_lit 112, nat_lit 101, nat_lit 101, nat_lit 107]⟩⟩, a, .stmts b, c, (3 : Nat), ([] : List (Str × Nat)), .ref (99 : Nat), .none, .none, .str ⟨⟨[nat_lit 108, nat_lit 101, nat_lit 100, nat_lit 103, nat_lit 101, nat_lit 114, nat_lit 115, nat_lit 112, nat_lit 101, nat_lit 97, nat_lit 107, nat_lit 46, nat_lit 114, nat_lit 101, nat_lit 97, nat_lit 100, nat_lit 101, nat_lit 114]⟩⟩ (273 : Nat), (none : Option Nat), .ref (105 : Nat), .none, (0 : Nat)⟩, #[]⟩
noncomputable def hd.z107 : Params → Obj := fun P => ⟨.type PySem.W.SZ.s2766695959194262286x5, (none : Option Nat), .seq #[] (0 : Nat), #[]⟩
noncomputable def hd.z108 : Params → Obj := fun P => ⟨.none, (none : Option Nat), .fields #[], #[]⟩
noncomputable def hd.z109 : Params → Obj := fun P => ⟨.type PySem.W.SZ.s2766695959194262286x5, (none : Option Nat), .seq #[.str ⟨⟨[nat_lit 115, nat_lit 101, nat_lit 108, nat_lit 102]⟩⟩ (318 : Nat)] (0 : Nat), #[]⟩
noncomputable def hd.z110 : Params → Obj := fun P => ⟨.type PySem.W.SZ.s2766695959194262286x5, (none : Option Nat), .seq #[] (0 : Nat), #[]⟩
noncomputable def hd.z111 : Params → Obj := by
  refine' (?F : ∀ (a : Arguments) (b : List Stmt) (c : Scope), hd.fPar (hd.stAt (hd.inCls (hd.stAt hd.twB 10)) 2) = a → hd.fBod (hd.stAt (hd.inCls (hd.stAt hd.twB 10)) 2) = b → hd.fSco (hd.stAt (hd.inCls (hd.stAt hd.twB 10)) 2) = c → Params → Obj) _ _ _ ?h0 ?h1 ?h2
  case h0 => (conv => lhs; whnf) <;> rfl
  case h1 => (conv => lhs; whnf) <;> rfl
  case h2 => (conv => lhs; whnf) <;> rfl
  case F => exact fun a b c _ _ _ => fun P => ⟨.none, (none : Option Nat), .func ⟨⟨⟨[nat_lit 105, nat_lit 115, nat_lit 95, nat_lit 100, nat_lit 111, nat_lit 110, nat_lit 101]⟩⟩, ⟨⟨[nat_lit 82, nat_lit 101, nat_lit 97, nat_lit 100, nat_lit 101, nat_lit 114, nat_lit 46, nat_lit 105, nat_lit 115, nat_lit 95, nat_lit 100, nat_lit 111, nat_lit 110, nat_lit 101]⟩⟩, a, .stmts b, c, (0 : Nat), ([] : List (Str × Nat)), .none, .none, .none, .none, (none : Option Nat), .none, .none, (0 : Nat)⟩, #[]⟩
noncomputable def hd.z112 : Params → Obj := fun P => ⟨.type PySem.W.SZ.s5856160107412720595x4, (none : Option Nat), .fields #[.str ⟨⟨[nat_lit 105, nat_lit 115, nat_lit 95, nat_lit 100, nat_lit 111, nat_lit 110, nat_lit 101]⟩⟩ (315 : Nat), .str ⟨⟨[nat_lit 82, nat_lit 101, nat_lit 97, nat_lit 100, nat_lit 101, nat_lit 114, nat_lit 46, nat_lit 105, nat_lit 115, nat_lit 95, nat_lit 100, nat_lit 111, nat_lit 110, nat_lit 101]⟩⟩ (316 : Nat), .str ⟨⟨[nat_lit 47, nat_lit 99, nat_lit 108, nat_lit 97, nat_lit 105, nat_lit 109, nat_lit 47, nat_lit 99, nat_lit 117, nat_lit 116, nat_lit 46, nat_lit 112, nat_lit 121]⟩⟩ (317 : Nat), .int 52 (0 : Nat), .int 1 (0 : Nat), .int 0 (0 : Nat), .int 0 (0 : Nat), .int 3 (0 : Nat), .ref (107 : Nat), .bool true, .int 181 (0 : Nat), .ref (108 : Nat), .none, .ref (109 : Nat), .ref (110 : Nat), .ref (111 : Nat), .int 319 (0 : Nat), .int 52 (0 : Nat), .str ⟨⟨[nat_lit 47, nat_lit 99, nat_lit 108, nat_lit 97, nat_lit 105, nat_lit 109, nat_lit 47, nat_lit 99, nat_lit 117, nat_lit 116, nat_lit 46, nat_lit 112, nat_lit 121]⟩⟩ (320 : Nat)], #[]⟩
noncomputable def hd.z113 : Params → Obj := by
  refine' (?F : ∀ (a : Arguments) (b : List Stmt) (c : Scope), hd.fPar (hd.stAt (hd.inCls (hd.stAt hd.twB 10)) 2) = a → hd.fBod (hd.stAt (hd.inCls (hd.stAt hd.twB 10)) 2) = b → hd.fSco (hd.stAt (hd.inCls (hd.stAt hd.twB 10)) 2) = c → Params → Obj) _ _ _ ?h0 ?h1 ?h2
  case h0 => (conv => lhs; whnf) <;> rfl
  case h1 => (conv => lhs; whnf) <;> rfl
  case h2 => (conv => lhs; whnf) <;> rfl
  case F => exact fun a b c _ _ _ => fun P => ⟨.type PySem.W.SZ.s7174869446012820540x8, (none : Option Nat), .func ⟨⟨⟨[nat_lit 105, nat_lit 115, nat_lit 95, nat_lit 100, nat_lit 111, nat_lit 110, nat_lit 101]⟩⟩, ⟨⟨[nat_lit 82, nat_lit 101, nat_lit 97, nat_lit 100, nat_lit 101, nat_lit 114, nat_lit 46, nat_lit 105, nat_lit 115, nat_lit 95, nat_lit 100, nat_lit 111, nat_lit 110, nat_lit 101]⟩⟩, a, .stmts b, c, (3 : Nat), ([] : List (Str × Nat)), .none, .none, .none, .str ⟨⟨[nat_lit 108, nat_lit 101, nat_lit 100, nat_lit 103, nat_lit 101, nat_lit 114, nat_lit 115, nat_lit 112, nat_lit 101, nat_lit 97, nat_lit 107, nat_lit 46, nat_lit 114, nat_lit 101, nat_lit 97, nat_lit 100, nat_lit 101, nat_lit 114]⟩⟩ (273 : Nat), (none : Option Nat), .ref (112 : Nat), .none, (0 : Nat)⟩, #[]⟩
noncomputable def hd.z114 : Params → Obj := fun P => ⟨.type PySem.W.SZ.s2766695959194262286x5, (none : Option Nat), .seq #[] (0 : Nat), #[]⟩
noncomputable def hd.z115 : Params → Obj := fun P => ⟨.none, (none : Option Nat), .fields #[], #[]⟩
noncomputable def hd.z116 : Params → Obj := fun P => ⟨.type PySem.W.SZ.s2766695959194262286x5, (none : Option Nat), .seq #[.str ⟨⟨[nat_lit 115, nat_lit 101, nat_lit 108, nat_lit 102]⟩⟩ (325 : Nat), .str ⟨⟨[nat_lit 119, nat_lit 104, nat_lit 97, nat_lit 116]⟩⟩ (326 : Nat)] (0 : Nat), #[]⟩
noncomputable def hd.z117 : Params → Obj := fun P => ⟨.type PySem.W.SZ.s2766695959194262286x5, (none : Option Nat), .seq #[] (0 : Nat), #[]⟩
noncomputable def hd.z118 : Params → Obj := by
  refine' (?F : ∀ (a : Arguments) (b : List Stmt) (c : Scope), hd.fPar (hd.stAt (hd.inCls (hd.stAt hd.twB 10)) 3) = a → hd.fBod (hd.stAt (hd.inCls (hd.stAt hd.twB 10)) 3) = b → hd.fSco (hd.stAt (hd.inCls (hd.stAt hd.twB 10)) 3) = c → Params → Obj) _ _ _ ?h0 ?h1 ?h2
  case h0 => (conv => lhs; whnf) <;> rfl
  case h1 => (conv => lhs; whnf) <;> rfl
  case h2 => (conv => lhs; whnf) <;> rfl
  case F => exact fun a b c _ _ _ => fun P => ⟨.none, (none : Option Nat), .func ⟨⟨⟨[nat_lit 102, nat_lit 97, nat_lit 117, nat_lit 108, nat_lit 116]⟩⟩, ⟨⟨[nat_lit 82, nat_lit 101, nat_lit 97, nat_lit 100, nat_lit 101, nat_lit 114, nat_lit 46, nat_lit 102, nat_lit 97, nat_lit 117, nat_lit 108, nat_lit 116]⟩⟩, a, .stmts b, c, (0 : Nat), ([] : List (Str × Nat)), .none, .none, .none, .none, (none : Option Nat), .none, .none, (0 : Nat)⟩, #[]⟩
noncomputable def hd.z119 : Params → Obj := fun P => ⟨.type PySem.W.SZ.s5856160107412720595x4, (none : Option Nat), .fields #[.str ⟨⟨[nat_lit 102, nat_lit 97, nat_lit 117, nat_lit 108, nat_lit 116]⟩⟩ (322 : Nat), .str ⟨⟨[nat_lit 82, nat_lit 101, nat_lit 97, nat_lit 100, nat_lit 101, nat_lit 114, nat_lit 46, nat_lit 102, nat_lit 97, nat_lit 117, nat_lit 108, nat_lit 116]⟩⟩ (323 : Nat), .str ⟨⟨[nat_lit 47, nat_lit 99, nat_lit 108, nat_lit 97, nat_lit 105, nat_lit 109, nat_lit 47, nat_lit 99, nat_lit 117, nat_lit 116, nat_lit 46, nat_lit 112, nat_lit 121]⟩⟩ (324 : Nat), .int 55 (0 : Nat), .int 2 (0 : Nat), .int 0 (0 : Nat), .int 0 (0 : Nat), .int 3 (0 : Nat), .ref (114 : Nat), .bool true, .int 181 (0 : Nat), .ref (115 : Nat), .none, .ref (116 : Nat), .ref (117 : Nat), .ref (118 : Nat), .int 327 (0 : Nat), .int 55 (0 : Nat), .str ⟨⟨[nat_lit 47, nat_lit 99, nat_lit 108, nat_lit 97, nat_lit 105, nat_lit 109, nat_lit 47, nat_lit 99, nat_lit 117, nat_lit 116, nat_lit 46, nat_lit 112, nat_lit 121]⟩⟩ (328 : Nat)], #[]⟩
noncomputable def hd.z120 : Params → Obj := by
  refine' (?F : ∀ (a : Arguments) (b : List Stmt) (c : Scope), hd.fPar (hd.stAt (hd.inCls (hd.stAt hd.twB 10)) 3) = a → hd.fBod (hd.stAt (hd.inCls (hd.stAt hd.twB 10)) 3) = b → hd.fSco (hd.stAt (hd.inCls (hd.stAt hd.twB 10)) 3) = c → Params → Obj) _ _ _ ?h0 ?h1 ?h2
  case h0 => (conv => lhs; whnf) <;> rfl
  case h1 => (conv => lhs; whnf) <;> rfl
  case h2 => (conv => lhs; whnf) <;> rfl
  case F => exact fun a b c _ _ _ => fun P => ⟨.type PySem.W.SZ.s7174869446012820540x8, (none : Option Nat), .func ⟨⟨⟨[nat_lit 102, nat_lit 97, nat_lit 117, nat_lit 108, nat_lit 116]⟩⟩, ⟨⟨[nat_lit 82, nat_lit 101, nat_lit 97, nat_lit 100, nat_lit 101, nat_lit 114, nat_lit 46, nat_lit 102, nat_lit 97, nat_lit 117, nat_lit 108, nat_lit 116]⟩⟩, a, .stmts b, c, (3 : Nat), ([] : List (Str × Nat)), .none, .none, .none, .str ⟨⟨[nat_lit 108, nat_lit 101, nat_lit 100, nat_lit 103, nat_lit 101, nat_lit 114, nat_lit 115, nat_lit 112, nat_lit 101, nat_lit 97, nat_lit 107, nat_lit 46, nat_lit 114, nat_lit 101, nat_lit 97, nat_lit 100, nat_lit 101, nat_lit 114]⟩⟩ (273 : Nat), (none : Option Nat), .ref (119 : Nat), .none, (0 : Nat)⟩, #[]⟩
noncomputable def hd.z121 : Params → Obj := fun P => ⟨.type PySem.W.SZ.s2766695959194262286x5, (none : Option Nat), .seq #[] (0 : Nat), #[]⟩
noncomputable def hd.z122 : Params → Obj := fun P => ⟨.none, (none : Option Nat), .fields #[], #[]⟩
noncomputable def hd.z123 : Params → Obj := fun P => ⟨.type PySem.W.SZ.s2766695959194262286x5, (none : Option Nat), .seq #[.str ⟨⟨[nat_lit 115, nat_lit 101, nat_lit 108, nat_lit 102]⟩⟩ (333 : Nat), .str ⟨⟨[nat_lit 116, nat_lit 111, nat_lit 107, nat_lit 101, nat_lit 110]⟩⟩ (334 : Nat)] (0 : Nat), #[]⟩
noncomputable def hd.z124 : Params → Obj := fun P => ⟨.type PySem.W.SZ.s2766695959194262286x5, (none : Option Nat), .seq #[] (0 : Nat), #[]⟩
noncomputable def hd.z125 : Params → Obj := by
  refine' (?F : ∀ (a : Arguments) (b : List Stmt) (c : Scope), hd.fPar (hd.stAt (hd.inCls (hd.stAt hd.twB 10)) 4) = a → hd.fBod (hd.stAt (hd.inCls (hd.stAt hd.twB 10)) 4) = b → hd.fSco (hd.stAt (hd.inCls (hd.stAt hd.twB 10)) 4) = c → Params → Obj) _ _ _ ?h0 ?h1 ?h2
  case h0 => (conv => lhs; whnf) <;> rfl
  case h1 => (conv => lhs; whnf) <;> rfl
  case h2 => (conv => lhs; whnf) <;> rfl
  case F => exact fun a b c _ _ _ => fun P => ⟨.none, (none : Option Nat), .func ⟨⟨⟨[nat_lit 116, nat_lit 97, nat_lit 107, nat_lit 101]⟩⟩, ⟨⟨[nat_lit 82, nat_lit 101, nat_lit 97, nat_lit 100, nat_lit 101, nat_lit 114, nat_lit 46, nat_lit 116, nat_lit 97, nat_lit 107, nat_lit 101]⟩⟩, a, .stmts b, c, (0 : Nat), ([] : List (Str × Nat)), .none, .none, .none, .none, (none : Option Nat), .none, .none, (0 : Nat)⟩, #[]⟩
noncomputable def hd.z126 : Params → Obj := fun P => ⟨.type PySem.W.SZ.s5856160107412720595x4, (none : Option Nat), .fields #[.str ⟨⟨[nat_lit 116, nat_lit 97, nat_lit 107, nat_lit 101]⟩⟩ (330 : Nat), .str ⟨⟨[nat_lit 82, nat_lit 101, nat_lit 97, nat_lit 100, nat_lit 101, nat_lit 114, nat_lit 46, nat_lit 116, nat_lit 97, nat_lit 107, nat_lit 101]⟩⟩ (331 : Nat), .str ⟨⟨[nat_lit 47, nat_lit 99, nat_lit 108, nat_lit 97, nat_lit 105, nat_lit 109, nat_lit 47, nat_lit 99, nat_lit 117, nat_lit 116, nat_lit 46, nat_lit 112, nat_lit 121]⟩⟩ (332 : Nat), .int 60 (0 : Nat), .int 1 (0 : Nat), .int 0 (0 : Nat), .int 0 (0 : Nat), .int 3 (0 : Nat), .ref (121 : Nat), .bool true, .int 181 (0 : Nat), .ref (122 : Nat), .none, .ref (123 : Nat), .ref (124 : Nat), .ref (125 : Nat), .int 335 (0 : Nat), .int 60 (0 : Nat), .str ⟨⟨[nat_lit 47, nat_lit 99, nat_lit 108, nat_lit 97, nat_lit 105, nat_lit 109, nat_lit 47, nat_lit 99, nat_lit 117, nat_lit 116, nat_lit 46, nat_lit 112, nat_lit 121]⟩⟩ (336 : Nat)], #[]⟩
noncomputable def hd.z127 : Params → Obj := by
  refine' (?F : ∀ (a : Arguments) (b : List Stmt) (c : Scope), hd.fPar (hd.stAt (hd.inCls (hd.stAt hd.twB 10)) 4) = a → hd.fBod (hd.stAt (hd.inCls (hd.stAt hd.twB 10)) 4) = b → hd.fSco (hd.stAt (hd.inCls (hd.stAt hd.twB 10)) 4) = c → Params → Obj) _ _ _ ?h0 ?h1 ?h2
  case h0 => (conv => lhs; whnf) <;> rfl
  case h1 => (conv => lhs; whnf) <;> rfl
  case h2 => (conv => lhs; whnf) <;> rfl
  case F => exact fun a b c _ _ _ => fun P => ⟨.type PySem.W.SZ.s7174869446012820540x8, (none : Option Nat), .func ⟨⟨⟨[nat_lit 116, nat_lit 97, nat_lit 107, nat_lit 101]⟩⟩, ⟨⟨[nat_lit 82, nat_lit 101, nat_lit 97, nat_lit 100, nat_lit 101, nat_lit 114, nat_lit 46, nat_lit 116, nat_lit 97, nat_lit 107, nat_lit 101]⟩⟩, a, .stmts b, c, (3 : Nat), ([] : List (Str × Nat)), .none, .none, .none, .str ⟨⟨[nat_lit 108, nat_lit 101, nat_lit 100, nat_lit 103, nat_lit 101, nat_lit 114, nat_lit 115, nat_lit 112, nat_lit 101, nat_lit 97, nat_lit 107, nat_lit 46, nat_lit 114, nat_lit 101, nat_lit 97, nat_lit 100, nat_lit 101, nat_lit 114]⟩⟩ (273 : Nat), (none : Option Nat), .ref (126 : Nat), .none, (0 : Nat)⟩, #[]⟩
noncomputable def hd.z128 : Params → Obj := fun P => ⟨.type PySem.W.SZ.s2766695959194262286x5, (none : Option Nat), .seq #[.int 0 (338 : Nat)] (0 : Nat), #[]⟩
noncomputable def hd.z129 : Params → Obj := fun P => ⟨.type PySem.W.SZ.s2766695959194262286x5, (none : Option Nat), .seq #[] (0 : Nat), #[]⟩
noncomputable def hd.z130 : Params → Obj := fun P => ⟨.none, (none : Option Nat), .fields #[], #[]⟩
noncomputable def hd.z131 : Params → Obj := fun P => ⟨.type PySem.W.SZ.s2766695959194262286x5, (none : Option Nat), .seq #[.str ⟨⟨[nat_lit 115, nat_lit 101, nat_lit 108, nat_lit 102]⟩⟩ (342 : Nat), .str ⟨⟨[nat_lit 107, nat_lit 105, nat_lit 110, nat_lit 100]⟩⟩ (343 : Nat), .str ⟨⟨[nat_lit 97, nat_lit 104, nat_lit 101, nat_lit 97, nat_lit 100]⟩⟩ (344 : Nat), .str ⟨⟨[nat_lit 116, nat_lit 111, nat_lit 107, nat_lit 101, nat_lit 110]⟩⟩ (345 : Nat)] (0 : Nat), #[]⟩
noncomputable def hd.z132 : Params → Obj := fun P => ⟨.type PySem.W.SZ.s2766695959194262286x5, (none : Option Nat), .seq #[] (0 : Nat), #[]⟩
noncomputable def hd.z133 : Params → Obj := by
  refine' (?F : ∀ (a : Arguments) (b : List Stmt) (c : Scope), hd.fPar (hd.stAt (hd.inCls (hd.stAt hd.twB 10)) 5) = a → hd.fBod (hd.stAt (hd.inCls (hd.stAt hd.twB 10)) 5) = b → hd.fSco (hd.stAt (hd.inCls (hd.stAt hd.twB 10)) 5) = c → Params → Obj) _ _ _ ?h0 ?h1 ?h2
  case h0 => (conv => lhs; whnf) <;> rfl
  case h1 => (conv => lhs; whnf) <;> rfl
  case h2 => (conv => lhs; whnf) <;> rfl
  case F => exact fun a b c _ _ _ => fun P => ⟨.none, (none : Option Nat), .func ⟨⟨⟨[nat_lit 105, nat_lit 115, nat_lit 95, nat_lit 107, nat_lit 105, nat_lit 110, nat_lit 100]⟩⟩, ⟨⟨[nat_lit 82, nat_lit 101, nat_lit 97, nat_lit 100, nat_lit 101, nat_lit 114, nat_lit 46, nat_lit 105, nat_lit 115, nat_lit 95, nat_lit 107, nat_lit 105, nat_lit 110, nat_lit 100]⟩⟩, a, .stmts b, c, (0 : Nat), ([] : List (Str × Nat)), .none, .none, .none, .none, (none : Option Nat), .none, .none, (0 : Nat)⟩, #[]⟩
noncomputable def hd.z134 : Params → Obj := fun P => ⟨.type PySem.W.SZ.s5856160107412720595x4, (none : Option Nat), .fields #[.str ⟨⟨[nat_lit 105, nat_lit 115, nat_lit 95, nat_lit 107, nat_lit 105, nat_lit 110, nat_lit 100]⟩⟩ (339 : Nat), .str ⟨⟨[nat_lit 82, nat_lit 101, nat_lit 97, nat_lit 100, nat_lit 101, nat_lit 114, nat_lit 46, nat_lit 105, nat_lit 115, nat_lit 95, nat_lit 107, nat_lit 105, nat_lit 110, nat_lit 100]⟩⟩ (340 : Nat), .str ⟨⟨[nat_lit 47, nat_lit 99, nat_lit 108, nat_lit 97, nat_lit 105, nat_lit 109, nat_lit 47, nat_lit 99, nat_lit 117, nat_lit 116, nat_lit 46, nat_lit 112, nat_lit 121]⟩⟩ (341 : Nat), .int 67 (0 : Nat), .int 3 (0 : Nat), .int 0 (0 : Nat), .int 0 (0 : Nat), .int 3 (0 : Nat), .ref (129 : Nat), .bool true, .int 181 (0 : Nat), .ref (130 : Nat), .none, .ref (131 : Nat), .ref (132 : Nat), .ref (133 : Nat), .int 346 (0 : Nat), .int 67 (0 : Nat), .str ⟨⟨[nat_lit 47, nat_lit 99, nat_lit 108, nat_lit 97, nat_lit 105, nat_lit 109, nat_lit 47, nat_lit 99, nat_lit 117, nat_lit 116, nat_lit 46, nat_lit 112, nat_lit 121]⟩⟩ (347 : Nat)], #[]⟩
noncomputable def hd.z135 : Params → Obj := by
  refine' (?F : ∀ (a : Arguments) (b : List Stmt) (c : Scope), hd.fPar (hd.stAt (hd.inCls (hd.stAt hd.twB 10)) 5) = a → hd.fBod (hd.stAt (hd.inCls (hd.stAt hd.twB 10)) 5) = b → hd.fSco (hd.stAt (hd.inCls (hd.stAt hd.twB 10)) 5) = c → Params → Obj) _ _ _ ?h0 ?h1 ?h2
  case h0 => (conv => lhs; whnf) <;> rfl
  case h1 => (conv => lhs; whnf) <;> rfl
  case h2 => (conv => lhs; whnf) <;> rfl
  case F => exact fun a b c _ _ _ => fun P => ⟨.type PySem.W.SZ.s7174869446012820540x8, (none : Option Nat), .func ⟨⟨⟨[nat_lit 105, nat_lit 115, nat_lit 95, nat_lit 107, nat_lit 105, nat_lit 110, nat_lit 100]⟩⟩, ⟨⟨[nat_lit 82, nat_lit 101, nat_lit 97, nat_lit 100, nat_lit 101, nat_lit 114, nat_lit 46, nat_lit 105, nat_lit 115, nat_lit 95, nat_lit 107, nat_lit 105, nat_lit 110, nat_lit 100]⟩⟩, a, .stmts b, c, (3 : Nat), ([] : List (Str × Nat)), .ref (128 : Nat), .none, .none, .str ⟨⟨[nat_lit 108, nat_lit 101, nat_lit 100, nat_lit 103, nat_lit 101, nat_lit 114, nat_lit 115, nat_lit 112, nat_lit 101, nat_lit 97, nat_lit 107, nat_lit 46, nat_lit 114, nat_lit 101, nat_lit 97, nat_lit 100, nat_lit 101, nat_lit 114]⟩⟩ (273 : Nat), (none : Option Nat), .ref (134 : Nat), .none, (0 : Nat)⟩, #[]⟩
noncomputable def hd.z136 : Params → Obj := fun P => ⟨.type PySem.W.SZ.s2766695959194262286x5, (none : Option Nat), .seq #[] (0 : Nat), #[]⟩
noncomputable def hd.z137 : Params → Obj := fun P => ⟨.none, (none : Option Nat), .fields #[], #[]⟩
noncomputable def hd.z138 : Params → Obj := fun P => ⟨.type PySem.W.SZ.s2766695959194262286x5, (none : Option Nat), .seq #[.str ⟨⟨[nat_lit 115, nat_lit 101, nat_lit 108, nat_lit 102]⟩⟩ (352 : Nat), .str ⟨⟨[nat_lit 119, nat_lit 111, nat_lit 114, nat_lit 100, nat_lit 115]⟩⟩ (353 : Nat), .str ⟨⟨[nat_lit 97, nat_lit 104, nat_lit 101, nat_lit 97, nat_lit 100]⟩⟩ (354 : Nat), .str ⟨⟨[nat_lit 119, nat_lit 111, nat_lit 114, nat_lit 100]⟩⟩ (355 : Nat)] (0 : Nat), #[]⟩
noncomputable def hd.z139 : Params → Obj := fun P => ⟨.type PySem.W.SZ.s2766695959194262286x5, (none : Option Nat), .seq #[] (0 : Nat), #[]⟩
noncomputable def hd.z140 : Params → Obj := by
  refine' (?F : ∀ (a : Arguments) (b : List Stmt) (c : Scope), hd.fPar (hd.stAt (hd.inCls (hd.stAt hd.twB 10)) 6) = a → hd.fBod (hd.stAt (hd.inCls (hd.stAt hd.twB 10)) 6) = b → hd.fSco (hd.stAt (hd.inCls (hd.stAt hd.twB 10)) 6) = c → Params → Obj) _ _ _ ?h0 ?h1 ?h2
  case h0 => (conv => lhs; whnf) <;> rfl
  case h1 => (conv => lhs; whnf) <;> rfl
  case h2 => (conv => lhs; whnf) <;> rfl
  case F => exact fun a b c _ _ _ => fun P => ⟨.none, (none : Option Nat), .func ⟨⟨⟨[nat_lit 105, nat_lit 115, nat_lit 95, nat_lit 119, nat_lit 111, nat_lit 114, nat_lit 100]⟩⟩, ⟨⟨[nat_lit 82, nat_lit 101, nat_lit 97, nat_lit 100, nat_lit 101, nat_lit 114, nat_lit 46, nat_lit 105, nat_lit 115, nat_lit 95, nat_lit 119, nat_lit 111, nat_lit 114, nat_lit 100]⟩⟩, a, .stmts b, c, (0 : Nat), ([] : List (Str × Nat)), .none, .none, .none, .none, (none : Option Nat), .none, .none, (0 : Nat)⟩, #[]⟩
noncomputable def hd.z141 : Params → Obj := fun P => ⟨.type PySem.W.SZ.s5856160107412720595x4, (none : Option Nat), .fields #[.str ⟨⟨[nat_lit 105, nat_lit 115, nat_lit 95, nat_lit 119, nat_lit 111, nat_lit 114, nat_lit 100]⟩⟩ (349 : Nat), .str ⟨⟨[nat_lit 82, nat_lit 101, nat_lit 97, nat_lit 100, nat_lit 101, nat_lit 114, nat_lit 46, nat_lit 105, nat_lit 115, nat_lit 95, nat_lit 119, nat_lit 111, nat_lit 114, nat_lit 100]⟩⟩ (350 : Nat), .str ⟨⟨[nat_lit 47, nat_lit 99, nat_lit 108, nat_lit 97, nat_lit 105, nat_lit 109, nat_lit 47, nat_lit 99, nat_lit 117, nat_lit 116, nat_lit 46, nat_lit 112, nat_lit 121]⟩⟩ (351 : Nat), .int 71 (0 : Nat), .int 2 (0 : Nat), .int 0 (0 : Nat), .int 0 (0 : Nat), .int 3 (0 : Nat), .ref (136 : Nat), .bool true, .int 181 (0 : Nat), .ref (137 : Nat), .none, .ref (138 : Nat), .ref (139 : Nat), .ref (140 : Nat), .int 356 (0 : Nat), .int 71 (0 : Nat), .str ⟨⟨[nat_lit 47, nat_lit 99, nat_lit 108, nat_lit 97, nat_lit 105, nat_lit 109, nat_lit 47, nat_lit 99, nat_lit 117, nat_lit 116, nat_lit 46, nat_lit 112, nat_lit 121]⟩⟩ (357 : Nat)], #[]⟩
noncomputable def hd.z142 : Params → Obj := by
  refine' (?F : ∀ (a : Arguments) (b : List Stmt) (c : Scope), hd.fPar (hd.stAt (hd.inCls (hd.stAt hd.twB 10)) 6) = a → hd.fBod (hd.stAt (hd.inCls (hd.stAt hd.twB 10)) 6) = b → hd.fSco (hd.stAt (hd.inCls (hd.stAt hd.twB 10)) 6) = c → Params → Obj) _ _ _ ?h0 ?h1 ?h2
  case h0 => (conv => lhs; whnf) <;> rfl
  case h1 => (conv => lhs; whnf) <;> rfl
  case h2 => (conv => lhs; whnf) <;> rfl
  case F => exact fun a b c _ _ _ => fun P => ⟨.type PySem.W.SZ.s7174869446012820540x8, (none : Option Nat), .func ⟨⟨⟨[nat_lit 105, nat_lit 115, nat_lit 95, nat_lit 119, nat_lit 111, nat_lit 114, nat_lit 100]⟩⟩, ⟨⟨[nat_lit 82, nat_lit 101, nat_lit 97, nat_lit 100, nat_lit 101, nat_lit 114, nat_lit 46, nat_lit 105, nat_lit 115, nat_lit 95, nat_lit 119, nat_lit 111, nat_lit 114, nat_lit 100]⟩⟩, a, .stmts b, c, (3 : Nat), ([] : List (Str × Nat)), .none, .none, .none, .str ⟨⟨[nat_lit 108, nat_lit 101, nat_lit 100, nat_lit 103, nat_lit 101, nat_lit 114, nat_lit 115, nat_lit 112, nat_lit 101, nat_lit 97, nat_lit 107, nat_lit 46, nat_lit 114, nat_lit 101, nat_lit 97, nat_lit 100, nat_lit 101, nat_lit 114]⟩⟩ (273 : Nat), (none : Option Nat), .ref (141 : Nat), .none, (0 : Nat)⟩, #[]⟩
noncomputable def hd.z143 : Params → Obj := fun P => ⟨.type PySem.W.SZ.s2766695959194262286x5, (none : Option Nat), .seq #[] (0 : Nat), #[]⟩
noncomputable def hd.z144 : Params → Obj := fun P => ⟨.none, (none : Option Nat), .fields #[], #[]⟩
noncomputable def hd.z145 : Params → Obj := fun P => ⟨.type PySem.W.SZ.s2766695959194262286x5, (none : Option Nat), .seq #[.str ⟨⟨[nat_lit 115, nat_lit 101, nat_lit 108, nat_lit 102]⟩⟩ (362 : Nat), .str ⟨⟨[nat_lit 119, nat_lit 111, nat_lit 114, nat_lit 100, nat_lit 115]⟩⟩ (363 : Nat)] (0 : Nat), #[]⟩
noncomputable def hd.z146 : Params → Obj := fun P => ⟨.type PySem.W.SZ.s2766695959194262286x5, (none : Option Nat), .seq #[] (0 : Nat), #[]⟩
noncomputable def hd.z147 : Params → Obj := by
  refine' (?F : ∀ (a : Arguments) (b : List Stmt) (c : Scope), hd.fPar (hd.stAt (hd.inCls (hd.stAt hd.twB 10)) 7) = a → hd.fBod (hd.stAt (hd.inCls (hd.stAt hd.twB 10)) 7) = b → hd.fSco (hd.stAt (hd.inCls (hd.stAt hd.twB 10)) 7) = c → Params → Obj) _ _ _ ?h0 ?h1 ?h2
  case h0 => (conv => lhs; whnf) <;> rfl
  case h1 => (conv => lhs; whnf) <;> rfl
  case h2 => (conv => lhs; whnf) <;> rfl
  case F => exact fun a b c _ _ _ => fun P => ⟨.none, (none : Option Nat), .func ⟨⟨⟨[nat_lit 115, nat_lit 107, nat_lit 105, nat_lit 112]⟩⟩, ⟨⟨[nat_lit 82, nat_lit 101, nat_lit 97, nat_lit 100, nat_lit 101, nat_lit 114, nat_lit 46, nat_lit 115, nat_lit 107, nat_lit 105, nat_lit 112]⟩⟩, a, .stmts b, c, (0 : Nat), ([] : List (Str × Nat)), .none, .none, .none, .none, (none : Option Nat), .none, .none, (0 : Nat)⟩, #[]⟩
noncomputable def hd.z148 : Params → Obj := fun P => ⟨.type PySem.W.SZ.s5856160107412720595x4, (none : Option Nat), .fields #[.str ⟨⟨[nat_lit 115, nat_lit 107, nat_lit 105, nat_lit 112]⟩⟩ (359 : Nat), .str ⟨⟨[nat_lit 82, nat_lit 101, nat_lit 97, nat_lit 100, nat_lit 101, nat_lit 114, nat_lit 46, nat_lit 115, nat_lit 107, nat_lit 105, nat_lit 112]⟩⟩ (360 : Nat), .str ⟨⟨[nat_lit 47, nat_lit 99, nat_lit 108, nat_lit 97, nat_lit 105, nat_lit 109, nat_lit 47, nat_lit 99, nat_lit 117, nat_lit 116, nat_lit 46, nat_lit 112, nat_lit 121]⟩⟩ (361 : Nat), .int 79 (0 : Nat), .int 2 (0 : Nat), .int 0 (0 : Nat), .int 0 (0 : Nat), .int 3 (0 : Nat), .ref (143 : Nat), .bool true, .int 181 (0 : Nat), .ref (144 : Nat), .none, .ref (145 : Nat), .ref (146 : Nat), .ref (147 : Nat), .int 364 (0 : Nat), .int 79 (0 : Nat), .str ⟨⟨[nat_lit 47, nat_lit 99, nat_lit 108, nat_lit 97, nat_lit 105, nat_lit 109, nat_lit 47, nat_lit 99, nat_lit 117, nat_lit 116, nat_lit 46, nat_lit 112, nat_lit 121]⟩⟩ (365 : Nat)], #[]⟩
noncomputable def hd.z149 : Params → Obj := by
  refine' (?F : ∀ (a : Arguments) (b : List Stmt) (c : Scope), hd.fPar (hd.stAt (hd.inCls (hd.stAt hd.twB 10)) 7) = a → hd.fBod (hd.stAt (hd.inCls (hd.stAt hd.twB 10)) 7) = b → hd.fSco (hd.stAt (hd.inCls (hd.stAt hd.twB 10)) 7) = c → Params → Obj) _ _ _ ?h0 ?h1 ?h2
  case h0 => (conv => lhs; whnf) <;> rfl
  case h1 => (conv => lhs; whnf) <;> rfl
  case h2 => (conv => lhs; whnf) <;> rfl
  case F => exact fun a b c _ _ _ => fun P => ⟨.type PySem.W.SZ.s7174869446012820540x8, (none : Option Nat), .func ⟨⟨⟨[nat_lit 115, nat_lit 107, nat_lit 105, nat_lit 112]⟩⟩, ⟨⟨[nat_lit 82, nat_lit 101, nat_lit 97, nat_lit 100, nat_lit 101, nat_lit 114, nat_lit 46, nat_lit 115, nat_lit 107, nat_lit 105, nat_lit 112]⟩⟩, a, .stmts b, c, (3 : Nat), ([] : List (Str × Nat)), .none, .none, .none, .str ⟨⟨[nat_lit 108, nat_lit 101, nat_lit 100, nat_lit 103, nat_lit 101, nat_lit 114, nat_lit 115, nat_lit 112, nat_lit 101, nat_lit 97, nat_lit 107, nat_lit 46, nat_lit 114, nat_lit 101, nat_lit 97, nat_lit 100, nat_lit 101, nat_lit 114]⟩⟩ (273 : Nat), (none : Option Nat), .ref (148 : Nat), .none, (0 : Nat)⟩, #[]⟩
noncomputable def hd.z150 : Params → Obj := fun P => ⟨.type PySem.W.SZ.s2766695959194262286x5, (none : Option Nat), .seq #[] (0 : Nat), #[]⟩
noncomputable def hd.z151 : Params → Obj := fun P => ⟨.none, (none : Option Nat), .fields #[], #[]⟩
noncomputable def hd.z152 : Params → Obj := fun P => ⟨.type PySem.W.SZ.s2766695959194262286x5, (none : Option Nat), .seq #[.str ⟨⟨[nat_lit 115, nat_lit 101, nat_lit 108, nat_lit 102]⟩⟩ (370 : Nat), .str ⟨⟨[nat_lit 119, nat_lit 111, nat_lit 114, nat_lit 100, nat_lit 115]⟩⟩ (371 : Nat)] (0 : Nat), #[]⟩
noncomputable def hd.z153 : Params → Obj := fun P => ⟨.type PySem.W.SZ.s2766695959194262286x5, (none : Option Nat), .seq #[] (0 : Nat), #[]⟩
noncomputable def hd.z154 : Params → Obj := by
  refine' (?F : ∀ (a : Arguments) (b : List Stmt) (c : Scope), hd.fPar (hd.stAt (hd.inCls (hd.stAt hd.twB 10)) 8) = a → hd.fBod (hd.stAt (hd.inCls (hd.stAt hd.twB 10)) 8) = b → hd.fSco (hd.stAt (hd.inCls (hd.stAt hd.twB 10)) 8) = c → Params → Obj) _ _ _ ?h0 ?h1 ?h2
  case h0 => (conv => lhs; whnf) <;> rfl
  case h1 => (conv => lhs; whnf) <;> rfl
  case h2 => (conv => lhs; whnf) <;> rfl
  case F => exact fun a b c _ _ _ => fun P => ⟨.none, (none : Option Nat), .func ⟨⟨⟨[nat_lit 110, nat_lit 101, nat_lit 101, nat_lit 100]⟩⟩, ⟨⟨[nat_lit 82, nat_lit 101, nat_lit 97, nat_lit 100, nat_lit 101, nat_lit 114, nat_lit 46, nat_lit 110, nat_lit 101, nat_lit 101, nat_lit 100]⟩⟩, a, .stmts b, c, (0 : Nat), ([] : List (Str × Nat)), .none, .none, .none, .none, (none : Option Nat), .none, .none, (0 : Nat)⟩, #[]⟩
noncomputable def hd.z155 : Params → Obj := fun P => ⟨.type PySem.W.SZ.s5856160107412720595x4, (none : Option Nat), .fields #[.str ⟨⟨[nat_lit 110, nat_lit 101, nat_lit 101, nat_lit 100]⟩⟩ (367 : Nat), .str ⟨⟨[nat_lit 82, nat_lit 101, nat_lit 97, nat_lit 100, nat_lit 101, nat_lit 114, nat_lit 46, nat_lit 110, nat_lit 101, nat_lit 101, nat_lit 100]⟩⟩ (368 : Nat), .str ⟨⟨[nat_lit 47, nat_lit 99, nat_lit 108, nat_lit 97, nat_lit 105, nat_lit 109, nat_lit 47, nat_lit 99, nat_lit 117, nat_lit 116, nat_lit 46, nat_lit 112, nat_lit 121]⟩⟩ (369 : Nat), .int 85 (0 : Nat), .int 2 (0 : Nat), .int 0 (0 : Nat), .int 0 (0 : Nat), .int 3 (0 : Nat), .ref (150 : Nat), .bool true, .int 181 (0 : Nat), .ref (151 : Nat), .none, .ref (152 : Nat), .ref (153 : Nat), .ref (154 : Nat), .int 372 (0 : Nat), .int 85 (0 : Nat), .str ⟨⟨[nat_lit 47, nat_lit 99, nat_lit 108, nat_lit 97, nat_lit 105, nat_lit 109, nat_lit 47, nat_lit 99, nat_lit 117, nat_lit 116, nat_lit 46, nat_lit 112, nat_lit 121]⟩⟩ (373 : Nat)], #[]⟩
noncomputable def hd.z156 : Params → Obj := by
  refine' (?F : ∀ (a : Arguments) (b : List Stmt) (c : Scope), hd.fPar (hd.stAt (hd.inCls (hd.stAt hd.twB 10)) 8) = a → hd.fBod (hd.stAt (hd.inCls (hd.stAt hd.twB 10)) 8) = b → hd.fSco (hd.stAt (hd.inCls (hd.stAt hd.twB 10)) 8) = c → Params → Obj) _ _ _ ?h0 ?h1 ?h2
  case h0 => (conv => lhs; whnf) <;> rfl
  case h1 => (conv => lhs; whnf) <;> rfl
  case h2 => (conv => lhs; whnf) <;> rfl
  case F => exact fun a b c _ _ _ => fun P => ⟨.type PySem.W.SZ.s7174869446012820540x8, (none : Option Nat), .func ⟨⟨⟨[nat_lit 110, nat_lit 101, nat_lit 101, nat_lit 100]⟩⟩, ⟨⟨[nat_lit 82, nat_lit 101, nat_lit 97, nat_lit 100, nat_lit 101, nat_lit 114, nat_lit 46, nat_lit 110, nat_lit 101, nat_lit 101, nat_lit 100]⟩⟩, a, .stmts b, c, (3 : Nat), ([] : List (Str × Nat)), .none, .none, .none, .str ⟨⟨[nat_lit 108, nat_lit 101, nat_lit 100, nat_lit 103, nat_lit 101, nat_lit 114, nat_lit 115, nat_lit 112, nat_lit 101, nat_lit 97, nat_lit 107, nat_lit 46, nat_lit 114, nat_lit 101, nat_lit 97, nat_lit 100, nat_lit 101, nat_lit 114]⟩⟩ (273 : Nat), (none : Option Nat), .ref (155 : Nat), .none, (0 : Nat)⟩, #[]⟩
noncomputable def hd.z157 : Params → Obj := fun P => ⟨.type PySem.W.SZ.s2766695959194262286x5, (none : Option Nat), .seq #[] (0 : Nat), #[]⟩
noncomputable def hd.z158 : Params → Obj := fun P => ⟨.none, (none : Option Nat), .fields #[], #[]⟩
noncomputable def hd.z159 : Params → Obj := fun P => ⟨.type PySem.W.SZ.s2766695959194262286x5, (none : Option Nat), .seq #[.str ⟨⟨[nat_lit 115, nat_lit 101, nat_lit 108, nat_lit 102]⟩⟩ (378 : Nat), .str ⟨⟨[nat_lit 119, nat_lit 111, nat_lit 114, nat_lit 100, nat_lit 115]⟩⟩ (379 : Nat)] (0 : Nat), #[]⟩
noncomputable def hd.z160 : Params → Obj := fun P => ⟨.type PySem.W.SZ.s2766695959194262286x5, (none : Option Nat), .seq #[] (0 : Nat), #[]⟩
noncomputable def hd.z161 : Params → Obj := by
  refine' (?F : ∀ (a : Arguments) (b : List Stmt) (c : Scope), hd.fPar (hd.stAt (hd.inCls (hd.stAt hd.twB 10)) 9) = a → hd.fBod (hd.stAt (hd.inCls (hd.stAt hd.twB 10)) 9) = b → hd.fSco (hd.stAt (hd.inCls (hd.stAt hd.twB 10)) 9) = c → Params → Obj) _ _ _ ?h0 ?h1 ?h2
  case h0 => (conv => lhs; whnf) <;> rfl
  case h1 => (conv => lhs; whnf) <;> rfl
  case h2 => (conv => lhs; whnf) <;> rfl
  case F => exact fun a b c _ _ _ => fun P => ⟨.none, (none : Option Nat), .func ⟨⟨⟨[nat_lit 111, nat_lit 110, nat_lit 101, nat_lit 95, nat_lit 111, nat_lit 102]⟩⟩, ⟨⟨[nat_lit 82, nat_lit 101, nat_lit 97, nat_lit 100, nat_lit 101, nat_lit 114, nat_lit 46, nat_lit 111, nat_lit 110, nat_lit 101, nat_lit 95, nat_lit 111, nat_lit 102]⟩⟩, a, .stmts b, c, (0 : Nat), ([] : List (Str × Nat)), .none, .none, .none, .none, (none : Option Nat), .none, .none, (0 : Nat)⟩, #[]⟩
noncomputable def hd.z162 : Params → Obj := fun P => ⟨.type PySem.W.SZ.s5856160107412720595x4, (none : Option Nat), .fields #[.str ⟨⟨[nat_lit 111, nat_lit 110, nat_lit 101, nat_lit 95, nat_lit 111, nat_lit 102]⟩⟩ (375 : Nat), .str ⟨⟨[nat_lit 82, nat_lit 101, nat_lit 97, nat_lit 100, nat_lit 101, nat_lit 114, nat_lit 46, nat_lit 111, nat_lit 110, nat_lit 101, nat_lit 95, nat_lit 111, nat_lit 102]⟩⟩ (376 : Nat), .str ⟨⟨[nat_lit 47, nat_lit 99, nat_lit 108, nat_lit 97, nat_lit 105, nat_lit 109, nat_lit 47, nat_lit 99, nat_lit 117, nat_lit 116, nat_lit 46, nat_lit 112, nat_lit 121]⟩⟩ (377 : Nat), .int 88 (0 : Nat), .int 2 (0 : Nat), .int 0 (0 : Nat), .int 0 (0 : Nat), .int 3 (0 : Nat), .ref (157 : Nat), .bool true, .int 181 (0 : Nat), .ref (158 : Nat), .none, .ref (159 : Nat), .ref (160 : Nat), .ref (161 : Nat), .int 380 (0 : Nat), .int 88 (0 : Nat), .str ⟨⟨[nat_lit 47, nat_lit 99, nat_lit 108, nat_lit 97, nat_lit 105, nat_lit 109, nat_lit 47, nat_lit 99, nat_lit 117, nat_lit 116, nat_lit 46, nat_lit 112, nat_lit 121]⟩⟩ (381 : Nat)], #[]⟩
noncomputable def hd.z163 : Params → Obj := by
  refine' (?F : ∀ (a : Arguments) (b : List Stmt) (c : Scope), hd.fPar (hd.stAt (hd.inCls (hd.stAt hd.twB 10)) 9) = a → hd.fBod (hd.stAt (hd.inCls (hd.stAt hd.twB 10)) 9) = b → hd.fSco (hd.stAt (hd.inCls (hd.stAt hd.twB 10)) 9) = c → Params → Obj) _ _ _ ?h0 ?h1 ?h2
  case h0 => (conv => lhs; whnf) <;> rfl
  case h1 => (conv => lhs; whnf) <;> rfl
  case h2 => (conv => lhs; whnf) <;> rfl
  case F => exact fun a b c _ _ _ => fun P => ⟨.type PySem.W.SZ.s7174869446012820540x8, (none : Option Nat), .func ⟨⟨⟨[nat_lit 111, nat_lit 110, nat_lit 101, nat_lit 95, nat_lit 111, nat_lit 102]⟩⟩, ⟨⟨[nat_lit 82, nat_lit 101, nat_lit 97, nat_lit 100, nat_lit 101, nat_lit 114, nat_lit 46, nat_lit 111, nat_lit 110, nat_lit 101, nat_lit 95, nat_lit 111, nat_lit 102]⟩⟩, a, .stmts b, c, (3 : Nat), ([] : List (Str × Nat)), .none, .none, .none, .str ⟨⟨[nat_lit 108, nat_lit 101, nat_lit 100, nat_lit 103, nat_lit 101, nat_lit 114, nat_lit 115, nat_lit 112, nat_lit 101, nat_lit 97, nat_lit 107, nat_lit 46, nat_lit 114, nat_lit 101, nat_lit 97, nat_lit 100, nat_lit 101, nat_lit 114]⟩⟩ (273 : Nat), (none : Option Nat), .ref (162 : Nat), .none, (0 : Nat)⟩, #[]⟩
noncomputable def hd.z164 : Params → Obj := fun P => ⟨.type PySem.W.SZ.s2766695959194262286x5, (none : Option Nat), .seq #[] (0 : Nat), #[]⟩
noncomputable def hd.z165 : Params → Obj := fun P => ⟨.none, (none : Option Nat), .fields #[], #[]⟩
noncomputable def hd.z166 : Params → Obj := fun P => ⟨.type PySem.W.SZ.s2766695959194262286x5, (none : Option Nat), .seq #[.str ⟨⟨[nat_lit 115, nat_lit 101, nat_lit 108, nat_lit 102]⟩⟩ (386 : Nat)] (0 : Nat), #[]⟩
noncomputable def hd.z167 : Params → Obj := fun P => ⟨.type PySem.W.SZ.s2766695959194262286x5, (none : Option Nat), .seq #[] (0 : Nat), #[]⟩
noncomputable def hd.z168 : Params → Obj := by
  refine' (?F : ∀ (a : Arguments) (b : List Stmt) (c : Scope), hd.fPar (hd.stAt (hd.inCls (hd.stAt hd.twB 10)) 10) = a → hd.fBod (hd.stAt (hd.inCls (hd.stAt hd.twB 10)) 10) = b → hd.fSco (hd.stAt (hd.inCls (hd.stAt hd.twB 10)) 10) = c → Params → Obj) _ _ _ ?h0 ?h1 ?h2
  case h0 => (conv => lhs; whnf) <;> rfl
  case h1 => (conv => lhs; whnf) <;> rfl
  case h2 => (conv => lhs; whnf) <;> rfl
  case F => exact fun a b c _ _ _ => fun P => ⟨.none, (none : Option Nat), .func ⟨⟨⟨[nat_lit 119, nat_lit 111, nat_lit 114, nat_lit 100]⟩⟩, ⟨⟨[nat_lit 82, nat_lit 101, nat_lit 97, nat_lit 100, nat_lit 101, nat_lit 114, nat_lit 46, nat_lit 119, nat_lit 111, nat_lit 114, nat_lit 100]⟩⟩, a, .stmts b, c, (0 : Nat), ([] : List (Str × Nat)), .none, .none, .none, .none, (none : Option Nat), .none, .none, (0 : Nat)⟩, #[]⟩
noncomputable def hd.z169 : Params → Obj := fun P => ⟨.type PySem.W.SZ.s5856160107412720595x4, (none : Option Nat), .fields #[.str ⟨⟨[nat_lit 119, nat_lit 111, nat_lit 114, nat_lit 100]⟩⟩ (383 : Nat), .str ⟨⟨[nat_lit 82, nat_lit 101, nat_lit 97, nat_lit 100, nat_lit 101, nat_lit 114, nat_lit 46, nat_lit 119, nat_lit 111, nat_lit 114, nat_lit 100]⟩⟩ (384 : Nat), .str ⟨⟨[nat_lit 47, nat_lit 99, nat_lit 108, nat_lit 97, nat_lit 105, nat_lit 109, nat_lit 47, nat_lit 99, nat_lit 117, nat_lit 116, nat_lit 46, nat_lit 112, nat_lit 121]⟩⟩ (385 : Nat), .int 91 (0 : Nat), .int 1 (0 : Nat), .int 0 (0 : Nat), .int 0 (0 : Nat), .int 3 (0 : Nat), .ref (164 : Nat), .bool true, .int 181 (0 : Nat), .ref (165 : Nat), .none, .ref (166 : Nat), .ref (167 : Nat), .ref (168 : Nat), .int 387 (0 : Nat), .int 91 (0 : Nat), .str ⟨⟨[nat_lit 47, nat_lit 99, nat_lit 108, nat_lit 97, nat_lit 105, nat_lit 109, nat_lit 47, nat_lit 99, nat_lit 117, nat_lit 116, nat_lit 46, nat_lit 112, nat_lit 121]⟩⟩ (388 : Nat)], #[]⟩
noncomputable def hd.z170 : Params → Obj := by
  refine' (?F : ∀ (a : Arguments) (b : List Stmt) (c : Scope), hd.fPar (hd.stAt (hd.inCls (hd.stAt hd.twB 10)) 10) = a → hd.fBod (hd.stAt (hd.inCls (hd.stAt hd.twB 10)) 10) = b → hd.fSco (hd.stAt (hd.inCls (hd.stAt hd.twB 10)) 10) = c → Params → Obj) _ _ _ ?h0 ?h1 ?h2
  case h0 => (conv => lhs; whnf) <;> rfl
  case h1 => (conv => lhs; whnf) <;> rfl
  case h2 => (conv => lhs; whnf) <;> rfl
  case F => exact fun a b c _ _ _ => fun P => ⟨.type PySem.W.SZ.s7174869446012820540x8, (none : Option Nat), .func ⟨⟨⟨[nat_lit 119, nat_lit 111, nat_lit 114, nat_lit 100]⟩⟩, ⟨⟨[nat_lit 82, nat_lit 101, nat_lit 97, nat_lit 100, nat_lit 101, nat_lit 114, nat_lit 46, nat_lit 119, nat_lit 111, nat_lit 114, nat_lit 100]⟩⟩, a, .stmts b, c, (3 : Nat), ([] : List (Str × Nat)), .none, .none, .none, .str ⟨⟨[nat_lit 108, nat_lit 101, nat_lit 100, nat_lit 103, nat_lit 101, nat_lit 114, nat_lit 115, nat_lit 112, nat_lit 101, nat_lit 97, nat_lit 107, nat_lit 46, nat_lit 114, nat_lit 101, nat_lit 97, nat_lit 100, nat_lit 101, nat_lit 114]⟩⟩ (273 : Nat), (none : Option Nat), .ref (169 : Nat), .none, (0 : Nat)⟩, #[]⟩
noncomputable def hd.z171 : Params → Obj := fun P => ⟨.type PySem.W.SZ.s2766695959194262286x5, (none : Option Nat), .seq #[.int 0 (390 : Nat)] (0 : Nat), #[]⟩
noncomputable def hd.z172 : Params → Obj := fun P => ⟨.type PySem.W.SZ.s2766695959194262286x5, (none : Option Nat), .seq #[] (0 : Nat), #[]⟩
noncomputable def hd.z173 : Params → Obj := fun P => ⟨.none, (none : Option Nat), .fields #[], #[]⟩
noncomputable def hd.z174 : Params → Obj := fun P => ⟨.type PySem.W.SZ.s2766695959194262286x5, (none : Option Nat), .seq #[.str ⟨⟨[nat_lit 115, nat_lit 101, nat_lit 108, nat_lit 102]⟩⟩ (394 : Nat), .str ⟨⟨[nat_lit 97, nat_lit 104, nat_lit 101, nat_lit 97, nat_lit 100]⟩⟩ (395 : Nat)] (0 : Nat), #[]⟩
noncomputable def hd.z175 : Params → Obj := fun P => ⟨.type PySem.W.SZ.s2766695959194262286x5, (none : Option Nat), .seq #[] (0 : Nat), #[]⟩
noncomputable def hd.z176 : Params → Obj := by
  refine' (?F : ∀ (a : Arguments) (b : List Stmt) (c : Scope), hd.fPar (hd.stAt (hd.inCls (hd.stAt hd.twB 10)) 11) = a → hd.fBod (hd.stAt (hd.inCls (hd.stAt hd.twB 10)) 11) = b → hd.fSco (hd.stAt (hd.inCls (hd.stAt hd.twB 10)) 11) = c → Params → Obj) _ _ _ ?h0 ?h1 ?h2
  case h0 => (conv => lhs; whnf) <;> rfl
  case h1 => (conv => lhs; whnf) <;> rfl
  case h2 => (conv => lhs; whnf) <;> rfl
  case F => exact fun a b c _ _ _ => fun P => ⟨.none, (none : Option Nat), .func ⟨⟨⟨[nat_lit 105, nat_lit 115, nat_lit 95, nat_lit 110, nat_lit 97, nat_lit 109, nat_lit 101]⟩⟩, ⟨⟨[nat_lit 82, nat_lit 101, nat_lit 97, nat_lit 100, nat_lit 101, nat_lit 114, nat_lit 46, nat_lit 105, nat_lit 115, nat_lit 95, nat_lit 110, nat_lit 97, nat_lit 109, nat_lit 101]⟩⟩, a, .stmts b, c, (0 : Nat), ([] : List (Str × Nat)), .none, .none, .none, .none, (none : Option Nat), .none, .none, (0 : Nat)⟩, #[]⟩
noncomputable def hd.z177 : Params → Obj := fun P => ⟨.type PySem.W.SZ.s5856160107412720595x4, (none : Option Nat), .fields #[.str ⟨⟨[nat_lit 105, nat_lit 115, nat_lit 95, nat_lit 110, nat_lit 97, nat_lit 109, nat_lit 101]⟩⟩ (391 : Nat), .str ⟨⟨[nat_lit 82, nat_lit 101, nat_lit 97, nat_lit 100, nat_lit 101, nat_lit 114, nat_lit 46, nat_lit 105, nat_lit 115, nat_lit 95, nat_lit 110, nat_lit 97, nat_lit 109, nat_lit 101]⟩⟩ (392 : Nat), .str ⟨⟨[nat_lit 47, nat_lit 99, nat_lit 108, nat_lit 97, nat_lit 105, nat_lit 109, nat_lit 47, nat_lit 99, nat_lit 117, nat_lit 116, nat_lit 46, nat_lit 112, nat_lit 121]⟩⟩ (393 : Nat), .int 96 (0 : Nat), .int 2 (0 : Nat), .int 0 (0 : Nat), .int 0 (0 : Nat), .int 3 (0 : Nat), .ref (172 : Nat), .bool true, .int 181 (0 : Nat), .ref (173 : Nat), .none, .ref (174 : Nat), .ref (175 : Nat), .ref (176 : Nat), .int 396 (0 : Nat), .int 96 (0 : Nat), .str ⟨⟨[nat_lit 47, nat_lit 99, nat_lit 108, nat_lit 97, nat_lit 105, nat_lit 109, nat_lit 47, nat_lit 99, nat_lit 117, nat_lit 116, nat_lit 46, nat_lit 112, nat_lit 121]⟩⟩ (397 : Nat)], #[]⟩
noncomputable def hd.z178 : Params → Obj := by
  refine' (?F : ∀ (a : Arguments) (b : List Stmt) (c : Scope), hd.fPar (hd.stAt (hd.inCls (hd.stAt hd.twB 10)) 11) = a → hd.fBod (hd.stAt (hd.inCls (hd.stAt hd.twB 10)) 11) = b → hd.fSco (hd.stAt (hd.inCls (hd.stAt hd.twB 10)) 11) = c → Params → Obj) _ _ _ ?h0 ?h1 ?h2
  case h0 => (conv => lhs; whnf) <;> rfl
  case h1 => (conv => lhs; whnf) <;> rfl
  case h2 => (conv => lhs; whnf) <;> rfl
  case F => exact fun a b c _ _ _ => fun P => ⟨.type PySem.W.SZ.s7174869446012820540x8, (none : Option Nat), .func ⟨⟨⟨[nat_lit 105, nat_lit 115, nat_lit 95, nat_lit 110, nat_lit 97, nat_lit 109, nat_lit 101]⟩⟩, ⟨⟨[nat_lit 82, nat_lit 101, nat_lit 97, nat_lit 100, nat_lit 101, nat_lit 114, nat_lit 46, nat_lit 105, nat_lit 115, nat_lit 95, nat_lit 110, nat_lit 97, nat_lit 109, nat_lit 101]⟩⟩, a, .stmts b, c, (3 : Nat), ([] : List (Str × Nat)), .ref (171 : Nat), .none, .none, .str ⟨⟨[nat_lit 108, nat_lit 101, nat_lit 100, nat_lit 103, nat_lit 101, nat_lit 114, nat_lit 115, nat_lit 112, nat_lit 101, nat_lit 97, nat_lit 107, nat_lit 46, nat_lit 114, nat_lit 101, nat_lit 97, nat_lit 100, nat_lit 101, nat_lit 114]⟩⟩ (273 : Nat), (none : Option Nat), .ref (177 : Nat), .none, (0 : Nat)⟩, #[]⟩
noncomputable def hd.z179 : Params → Obj := fun P => ⟨.type PySem.W.SZ.s2766695959194262286x5, (none : Option Nat), .seq #[] (0 : Nat), #[]⟩
noncomputable def hd.z180 : Params → Obj := fun P => ⟨.none, (none : Option Nat), .fields #[], #[]⟩
noncomputable def hd.z181 : Params → Obj := fun P => ⟨.type PySem.W.SZ.s2766695959194262286x5, (none : Option Nat), .seq #[.str ⟨⟨[nat_lit 115, nat_lit 101, nat_lit 108, nat_lit 102]⟩⟩ (402 : Nat)] (0 : Nat), #[]⟩
noncomputable def hd.z182 : Params → Obj := fun P => ⟨.type PySem.W.SZ.s2766695959194262286x5, (none : Option Nat), .seq #[] (0 : Nat), #[]⟩
noncomputable def hd.z183 : Params → Obj := by
  refine' (?F : ∀ (a : Arguments) (b : List Stmt) (c : Scope), hd.fPar (hd.stAt (hd.inCls (hd.stAt hd.twB 10)) 12) = a → hd.fBod (hd.stAt (hd.inCls (hd.stAt hd.twB 10)) 12) = b → hd.fSco (hd.stAt (hd.inCls (hd.stAt hd.twB 10)) 12) = c → Params → Obj) _ _ _ ?h0 ?h1 ?h2
  case h0 => (conv => lhs; whnf) <;> rfl
  case h1 => (conv => lhs; whnf) <;> rfl
  case h2 => (conv => lhs; whnf) <;> rfl
  case F => exact fun a b c _ _ _ => fun P => ⟨.none, (none : Option Nat), .func ⟨⟨⟨[nat_lit 110, nat_lit 97, nat_lit 109, nat_lit 101]⟩⟩, ⟨⟨[nat_lit 82, nat_lit 101, nat_lit 97, nat_lit 100, nat_lit 101, nat_lit 114, nat_lit 46, nat_lit 110, nat_lit 97, nat_lit 109, nat_lit 101]⟩⟩, a, .stmts b, c, (0 : Nat), ([] : List (Str × Nat)), .none, .none, .none, .none, (none : Option Nat), .none, .none, (0 : Nat)⟩, #[]⟩
noncomputable def hd.z184 : Params → Obj := fun P => ⟨.type PySem.W.SZ.s5856160107412720595x4, (none : Option Nat), .fields #[.str ⟨⟨[nat_lit 110, nat_lit 97, nat_lit 109, nat_lit 101]⟩⟩ (399 : Nat), .str ⟨⟨[nat_lit 82, nat_lit 101, nat_lit 97, nat_lit 100, nat_lit 101, nat_lit 114, nat_lit 46, nat_lit 110, nat_lit 97, nat_lit 109, nat_lit 101]⟩⟩ (400 : Nat), .str ⟨⟨[nat_lit 47, nat_lit 99, nat_lit 108, nat_lit 97, nat_lit 105, nat_lit 109, nat_lit 47, nat_lit 99, nat_lit 117, nat_lit 116, nat_lit 46, nat_lit 112, nat_lit 121]⟩⟩ (401 : Nat), .int 99 (0 : Nat), .int 1 (0 : Nat), .int 0 (0 : Nat), .int 0 (0 : Nat), .int 3 (0 : Nat), .ref (179 : Nat), .bool true, .int 181 (0 : Nat), .ref (180 : Nat), .none, .ref (181 : Nat), .ref (182 : Nat), .ref (183 : Nat), .int 403 (0 : Nat), .int 99 (0 : Nat), .str ⟨⟨[nat_lit 47, nat_lit 99, nat_lit 108, nat_lit 97, nat_lit 105, nat_lit 109, nat_lit 47, nat_lit 99, nat_lit 117, nat_lit 116, nat_lit 46, nat_lit 112, nat_lit 121]⟩⟩ (404 : Nat)], #[]⟩
noncomputable def hd.z185 : Params → Obj := by
  refine' (?F : ∀ (a : Arguments) (b : List Stmt) (c : Scope), hd.fPar (hd.stAt (hd.inCls (hd.stAt hd.twB 10)) 12) = a → hd.fBod (hd.stAt (hd.inCls (hd.stAt hd.twB 10)) 12) = b → hd.fSco (hd.stAt (hd.inCls (hd.stAt hd.twB 10)) 12) = c → Params → Obj) _ _ _ ?h0 ?h1 ?h2
  case h0 => (conv => lhs; whnf) <;> rfl
  case h1 => (conv => lhs; whnf) <;> rfl
  case h2 => (conv => lhs; whnf) <;> rfl
  case F => exact fun a b c _ _ _ => fun P => ⟨.type PySem.W.SZ.s7174869446012820540x8, (none : Option Nat), .func ⟨⟨⟨[nat_lit 110, nat_lit 97, nat_lit 109, nat_lit 101]⟩⟩, ⟨⟨[nat_lit 82, nat_lit 101, nat_lit 97, nat_lit 100, nat_lit 101, nat_lit 114, nat_lit 46, nat_lit 110, nat_lit 97, nat_lit 109, nat_lit 101]⟩⟩, a, .stmts b, c, (3 : Nat), ([] : List (Str × Nat)), .none, .none, .none, .str ⟨⟨[nat_lit 108, nat_lit 101, nat_lit 100, nat_lit 103, nat_lit 101, nat_lit 114, nat_lit 115, nat_lit 112, nat_lit 101, nat_lit 97, nat_lit 107, nat_lit 46, nat_lit 114, nat_lit 101, nat_lit 97, nat_lit 100, nat_lit 101, nat_lit 114]⟩⟩ (273 : Nat), (none : Option Nat), .ref (184 : Nat), .none, (0 : Nat)⟩, #[]⟩
noncomputable def hd.z186 : Params → Obj := fun P => ⟨.type PySem.W.SZ.s2766695959194262286x5, (none : Option Nat), .seq #[] (0 : Nat), #[]⟩
noncomputable def hd.z187 : Params → Obj := fun P => ⟨.none, (none : Option Nat), .fields #[], #[]⟩
noncomputable def hd.z188 : Params → Obj := fun P => ⟨.type PySem.W.SZ.s2766695959194262286x5, (none : Option Nat), .seq #[.str ⟨⟨[nat_lit 115, nat_lit 101, nat_lit 108, nat_lit 102]⟩⟩ (409 : Nat), .str ⟨⟨[nat_lit 102, nat_lit 111, nat_lit 117, nat_lit 110, nat_lit 100]⟩⟩ (410 : Nat)] (0 : Nat), #[]⟩
noncomputable def hd.z189 : Params → Obj := fun P => ⟨.type PySem.W.SZ.s2766695959194262286x5, (none : Option Nat), .seq #[] (0 : Nat), #[]⟩
noncomputable def hd.z190 : Params → Obj := by
  refine' (?F : ∀ (a : Arguments) (b : List Stmt) (c : Scope), hd.fPar (hd.stAt (hd.inCls (hd.stAt hd.twB 10)) 13) = a → hd.fBod (hd.stAt (hd.inCls (hd.stAt hd.twB 10)) 13) = b → hd.fSco (hd.stAt (hd.inCls (hd.stAt hd.twB 10)) 13) = c → Params → Obj) _ _ _ ?h0 ?h1 ?h2
  case h0 => (conv => lhs; whnf) <;> rfl
  case h1 => (conv => lhs; whnf) <;> rfl
  case h2 => (conv => lhs; whnf) <;> rfl
  case F => exact fun a b c _ _ _ => fun P => ⟨.none, (none : Option Nat), .func ⟨⟨⟨[nat_lit 110, nat_lit 97, nat_lit 109, nat_lit 101, nat_lit 115]⟩⟩, ⟨⟨[nat_lit 82, nat_lit 101, nat_lit 97, nat_lit 100, nat_lit 101, nat_lit 114, nat_lit 46, nat_lit 110, nat_lit 97, nat_lit 109, nat_lit 101, nat_lit 115]⟩⟩, a, .stmts b, c, (0 : Nat), ([] : List (Str × Nat)), .none, .none, .none, .none, (none : Option Nat), .none, .none, (0 : Nat)⟩, #[]⟩
noncomputable def hd.z191 : Params → Obj := fun P => ⟨.type PySem.W.SZ.s5856160107412720595x4, (none : Option Nat), .fields #[.str ⟨⟨[nat_lit 110, nat_lit 97, nat_lit 109, nat_lit 101, nat_lit 115]⟩⟩ (406 : Nat), .str ⟨⟨[nat_lit 82, nat_lit 101, nat_lit 97, nat_lit 100, nat_lit 101, nat_lit 114, nat_lit 46, nat_lit 110, nat_lit 97, nat_lit 109, nat_lit 101, nat_lit 115]⟩⟩ (407 : Nat), .str ⟨⟨[nat_lit 47, nat_lit 99, nat_lit 108, nat_lit 97, nat_lit 105, nat_lit 109, nat_lit 47, nat_lit 99, nat_lit 117, nat_lit 116, nat_lit 46, nat_lit 112, nat_lit 121]⟩⟩ (408 : Nat), .int 104 (0 : Nat), .int 1 (0 : Nat), .int 0 (0 : Nat), .int 0 (0 : Nat), .int 3 (0 : Nat), .ref (186 : Nat), .bool true, .int 181 (0 : Nat), .ref (187 : Nat), .none, .ref (188 : Nat), .ref (189 : Nat), .ref (190 : Nat), .int 411 (0 : Nat), .int 104 (0 : Nat), .str ⟨⟨[nat_lit 47, nat_lit 99, nat_lit 108, nat_lit 97, nat_lit 105, nat_lit 109, nat_lit 47, nat_lit 99, nat_lit 117, nat_lit 116, nat_lit 46, nat_lit 112, nat_lit 121]⟩⟩ (412 : Nat)], #[]⟩
noncomputable def hd.z192 : Params → Obj := by
  refine' (?F : ∀ (a : Arguments) (b : List Stmt) (c : Scope), hd.fPar (hd.stAt (hd.inCls (hd.stAt hd.twB 10)) 13) = a → hd.fBod (hd.stAt (hd.inCls (hd.stAt hd.twB 10)) 13) = b → hd.fSco (hd.stAt (hd.inCls (hd.stAt hd.twB 10)) 13) = c → Params → Obj) _ _ _ ?h0 ?h1 ?h2
  case h0 => (conv => lhs; whnf) <;> rfl
  case h1 => (conv => lhs; whnf) <;> rfl
  case h2 => (conv => lhs; whnf) <;> rfl
  case F => exact fun a b c _ _ _ => fun P => ⟨.type PySem.W.SZ.s7174869446012820540x8, (none : Option Nat), .func ⟨⟨⟨[nat_lit 110, nat_lit 97, nat_lit 109, nat_lit 101, nat_lit 115]⟩⟩, ⟨⟨[nat_lit 82, nat_lit 101, nat_lit 97, nat_lit 100, nat_lit 101, nat_lit 114, nat_lit 46, nat_lit 110, nat_lit 97, nat_lit 109, nat_lit 101, nat_lit 115]⟩⟩, a, .stmts b, c, (3 : Nat), ([] : List (Str × Nat)), .none, .none, .none, .str ⟨⟨[nat_lit 108, nat_lit 101, nat_lit 100, nat_lit 103, nat_lit 101, nat_lit 114, nat_lit 115, nat_lit 112, nat_lit 101, nat_lit 97, nat_lit 107, nat_lit 46, nat_lit 114, nat_lit 101, nat_lit 97, nat_lit 100, nat_lit 101, nat_lit 114]⟩⟩ (273 : Nat), (none : Option Nat), .ref (191 : Nat), .none, (0 : Nat)⟩, #[]⟩
noncomputable def hd.z193 : Params → Obj := fun P => ⟨.type PySem.W.SZ.s2766695959194262286x5, (none : Option Nat), .seq #[.int 0 (414 : Nat)] (0 : Nat), #[]⟩
noncomputable def hd.z194 : Params → Obj := fun P => ⟨.type PySem.W.SZ.s2766695959194262286x5, (none : Option Nat), .seq #[] (0 : Nat), #[]⟩
noncomputable def hd.z195 : Params → Obj := fun P => ⟨.none, (none : Option Nat), .fields #[], #[]⟩
noncomputable def hd.z196 : Params → Obj := fun P => ⟨.type PySem.W.SZ.s2766695959194262286x5, (none : Option Nat), .seq #[.str ⟨⟨[nat_lit 115, nat_lit 101, nat_lit 108, nat_lit 102]⟩⟩ (418 : Nat), .str ⟨⟨[nat_lit 115, nat_lit 105, nat_lit 103, nat_lit 110]⟩⟩ (419 : Nat), .str ⟨⟨[nat_lit 97, nat_lit 104, nat_lit 101, nat_lit 97, nat_lit 100]⟩⟩ (420 : Nat)] (0 : Nat), #[]⟩
noncomputable def hd.z197 : Params → Obj := fun P => ⟨.type PySem.W.SZ.s2766695959194262286x5, (none : Option Nat), .seq #[] (0 : Nat), #[]⟩
noncomputable def hd.z198 : Params → Obj := by
  refine' (?F : ∀ (a : Arguments) (b : List Stmt) (c : Scope), hd.fPar (hd.stAt (hd.inCls (hd.stAt hd.twB 10)) 14) = a → hd.fBod (hd.stAt (hd.inCls (hd.stAt hd.twB 10)) 14) = b → hd.fSco (hd.stAt (hd.inCls (hd.stAt hd.twB 10)) 14) = c → Params → Obj) _ _ _ ?h0 ?h1 ?h2
  case h0 => (conv => lhs; whnf) <;> rfl
  case h1 => (conv => lhs; whnf) <;> rfl
  case h2 => (conv => lhs; whnf) <;> rfl
  case F => exact fun a b c _ _ _ => fun P => ⟨.none, (none : Option Nat), .func ⟨⟨⟨[nat_lit 105, nat_lit 115, nat_lit 95, nat_lit 115, nat_lit 105, nat_lit 103, nat_lit 110]⟩⟩, ⟨⟨[nat_lit 82, nat_lit 101, nat_lit 97, nat_lit 100, nat_lit 101, nat_lit 114, nat_lit 46, nat_lit 105, nat_lit 115, nat_lit 95, nat_lit 115, nat_lit 105, nat_lit 103, nat_lit 110]⟩⟩, a, .stmts b, c, (0 : Nat), ([] : List (Str × Nat)), .none, .none, .none, .none, (none : Option Nat), .none, .none, (0 : Nat)⟩, #[]⟩
noncomputable def hd.z199 : Params → Obj := fun P => ⟨.type PySem.W.SZ.s5856160107412720595x4, (none : Option Nat), .fields #[.str ⟨⟨[nat_lit 105, nat_lit 115, nat_lit 95, nat_lit 115, nat_lit 105, nat_lit 103, nat_lit 110]⟩⟩ (415 : Nat), .str ⟨⟨[nat_lit 82, nat_lit 101, nat_lit 97, nat_lit 100, nat_lit 101, nat_lit 114, nat_lit 46, nat_lit 105, nat_lit 115, nat_lit 95, nat_lit 115, nat_lit 105, nat_lit 103, nat_lit 110]⟩⟩ (416 : Nat), .str ⟨⟨[nat_lit 47, nat_lit 99, nat_lit 108, nat_lit 97, nat_lit 105, nat_lit 109, nat_lit 47, nat_lit 99, nat_lit 117, nat_lit 116, nat_lit 46, nat_lit 112, nat_lit 121]⟩⟩ (417 : Nat), .int 110 (0 : Nat), .int 3 (0 : Nat), .int 0 (0 : Nat), .int 0 (0 : Nat), .int 3 (0 : Nat), .ref (194 : Nat), .bool true, .int 181 (0 : Nat), .ref (195 : Nat), .none, .ref (196 : Nat), .ref (197 : Nat), .ref (198 : Nat), .int 421 (0 : Nat), .int 110 (0 : Nat), .str ⟨⟨[nat_lit 47, nat_lit 99, nat_lit 108, nat_lit 97, nat_lit 105, nat_lit 109, nat_lit 47, nat_lit 99, nat_lit 117, nat_lit 116, nat_lit 46, nat_lit 112, nat_lit 121]⟩⟩ (422 : Nat)], #[]⟩
noncomputable def hd.z200 : Params → Obj := by
  refine' (?F : ∀ (a : Arguments) (b : List Stmt) (c : Scope), hd.fPar (hd.stAt (hd.inCls (hd.stAt hd.twB 10)) 14) = a → hd.fBod (hd.stAt (hd.inCls (hd.stAt hd.twB 10)) 14) = b → hd.fSco (hd.stAt (hd.inCls (hd.stAt hd.twB 10)) 14) = c → Params → Obj) _ _ _ ?h0 ?h1 ?h2
  case h0 => (conv => lhs; whnf) <;> rfl
  case h1 => (conv => lhs; whnf) <;> rfl
  case h2 => (conv => lhs; whnf) <;> rfl
  case F => exact fun a b c _ _ _ => fun P => ⟨.type PySem.W.SZ.s7174869446012820540x8, (none : Option Nat), .func ⟨⟨⟨[nat_lit 105, nat_lit 115, nat_lit 95, nat_lit 115, nat_lit 105, nat_lit 103, nat_lit 110]⟩⟩, ⟨⟨[nat_lit 82, nat_lit 101, nat_lit 97, nat_lit 100, nat_lit 101, nat_lit 114, nat_lit 46, nat_lit 105, nat_lit 115, nat_lit 95, nat_lit 115, nat_lit 105, nat_lit 103, nat_lit 110]⟩⟩, a, .stmts b, c, (3 : Nat), ([] : List (Str × Nat)), .ref (193 : Nat), .none, .none, .str ⟨⟨[nat_lit 108, nat_lit 101, nat_lit 100, nat_lit 103, nat_lit 101, nat_lit 114, nat_lit 115, nat_lit 112, nat_lit 101, nat_lit 97, nat_lit 107, nat_lit 46, nat_lit 114, nat_lit 101, nat_lit 97, nat_lit 100, nat_lit 101, nat_lit 114]⟩⟩ (273 : Nat), (none : Option Nat), .ref (199 : Nat), .none, (0 : Nat)⟩, #[]⟩
noncomputable def hd.z201 : Params → Obj := fun P => ⟨.type PySem.W.SZ.s2766695959194262286x5, (none : Option Nat), .seq #[] (0 : Nat), #[]⟩
noncomputable def hd.z202 : Params → Obj := fun P => ⟨.none, (none : Option Nat), .fields #[], #[]⟩
noncomputable def hd.z203 : Params → Obj := fun P => ⟨.type PySem.W.SZ.s2766695959194262286x5, (none : Option Nat), .seq #[.str ⟨⟨[nat_lit 115, nat_lit 101, nat_lit 108, nat_lit 102]⟩⟩ (427 : Nat), .str ⟨⟨[nat_lit 115, nat_lit 105, nat_lit 103, nat_lit 110]⟩⟩ (428 : Nat)] (0 : Nat), #[]⟩
noncomputable def hd.z204 : Params → Obj := fun P => ⟨.type PySem.W.SZ.s2766695959194262286x5, (none : Option Nat), .seq #[] (0 : Nat), #[]⟩
noncomputable def hd.z205 : Params → Obj := by
  refine' (?F : ∀ (a : Arguments) (b : List Stmt) (c : Scope), hd.fPar (hd.stAt (hd.inCls (hd.stAt hd.twB 10)) 15) = a → hd.fBod (hd.stAt (hd.inCls (hd.stAt hd.twB 10)) 15) = b → hd.fSco (hd.stAt (hd.inCls (hd.stAt hd.twB 10)) 15) = c → Params → Obj) _ _ _ ?h0 ?h1 ?h2
  case h0 => (conv => lhs; whnf) <;> rfl
  case h1 => (conv => lhs; whnf) <;> rfl
  case h2 => (conv => lhs; whnf) <;> rfl
  case F => exact fun a b c _ _ _ => fun P => ⟨.none, (none : Option Nat), .func ⟨⟨⟨[nat_lit 115, nat_lit 107, nat_lit 105, nat_lit 112, nat_lit 95, nat_lit 115, nat_lit 105, nat_lit 103, nat_lit 110]⟩⟩, ⟨⟨[nat_lit 82, nat_lit 101, nat_lit 97, nat_lit 100, nat_lit 101, nat_lit 114, nat_lit 46, nat_lit 115, nat_lit 107, nat_lit 105, nat_lit 112, nat_lit 95, nat_lit 115, nat_lit 105, nat_lit 103, nat_lit 110]⟩⟩, a, .stmts b, c, (0 : Nat), ([] : List (Str × Nat)), .none, .none, .none, .none, (none : Option Nat), .none, .none, (0 : Nat)⟩, #[]⟩
noncomputable def hd.z206 : Params → Obj := fun P => ⟨.type PySem.W.SZ.s5856160107412720595x4, (none : Option Nat), .fields #[.str ⟨⟨[nat_lit 115, nat_lit 107, nat_lit 105, nat_lit 112, nat_lit 95, nat_lit 115, nat_lit 105, nat_lit 103, nat_lit 110]⟩⟩ (424 : Nat), .str ⟨⟨[nat_lit 82, nat_lit 101, nat_lit 97, nat_lit 100, nat_lit 101, nat_lit 114, nat_lit 46, nat_lit 115, nat_lit 107, nat_lit 105, nat_lit 112, nat_lit 95, nat_lit 115, nat_lit 105, nat_lit 103, nat_lit 110]⟩⟩ (425 : Nat), .str ⟨⟨[nat_lit 47, nat_lit 99, nat_lit 108, nat_lit 97, nat_lit 105, nat_lit 109, nat_lit 47, nat_lit 99, nat_lit 117, nat_lit 116, nat_lit 46, nat_lit 112, nat_lit 121]⟩⟩ (426 : Nat), .int 113 (0 : Nat), .int 2 (0 : Nat), .int 0 (0 : Nat), .int 0 (0 : Nat), .int 3 (0 : Nat), .ref (201 : Nat), .bool true, .int 181 (0 : Nat), .ref (202 : Nat), .none, .ref (203 : Nat), .ref (204 : Nat), .ref (205 : Nat), .int 429 (0 : Nat), .int 113 (0 : Nat), .str ⟨⟨[nat_lit 47, nat_lit 99, nat_lit 108, nat_lit 97, nat_lit 105, nat_lit 109, nat_lit 47, nat_lit 99, nat_lit 117, nat_lit 116, nat_lit 46, nat_lit 112, nat_lit 121]⟩⟩ (430 : Nat)], #[]⟩
noncomputable def hd.z207 : Params → Obj := by
  refine' (?F : ∀ (a : Arguments) (b : List Stmt) (c : Scope), hd.fPar (hd.stAt (hd.inCls (hd.stAt hd.twB 10)) 15) = a → hd.fBod (hd.stAt (hd.inCls (hd.stAt hd.twB 10)) 15) = b → hd.fSco (hd.stAt (hd.inCls (hd.stAt hd.twB 10)) 15) = c → Params → Obj) _ _ _ ?h0 ?h1 ?h2
  case h0 => (conv => lhs; whnf) <;> rfl
  case h1 => (conv => lhs; whnf) <;> rfl
  case h2 => (conv => lhs; whnf) <;> rfl
  case F => exact fun a b c _ _ _ => fun P => ⟨.type PySem.W.SZ.s7174869446012820540x8, (none : Option Nat), .func ⟨⟨⟨[nat_lit 115, nat_lit 107, nat_lit 105, nat_lit 112, nat_lit 95, nat_lit 115, nat_lit 105, nat_lit 103, nat_lit 110]⟩⟩, ⟨⟨[nat_lit 82, nat_lit 101, nat_lit 97, nat_lit 100, nat_lit 101, nat_lit 114, nat_lit 46, nat_lit 115, nat_lit 107, nat_lit 105, nat_lit 112, nat_lit 95, nat_lit 115, nat_lit 105, nat_lit 103, nat_lit 110]⟩⟩, a, .stmts b, c, (3 : Nat), ([] : List (Str × Nat)), .none, .none, .none, .str ⟨⟨[nat_lit 108, nat_lit 101, nat_lit 100, nat_lit 103, nat_lit 101, nat_lit 114, nat_lit 115, nat_lit 112, nat_lit 101, nat_lit 97, nat_lit 107, nat_lit 46, nat_lit 114, nat_lit 101, nat_lit 97, nat_lit 100, nat_lit 101, nat_lit 114]⟩⟩ (273 : Nat), (none : Option Nat), .ref (206 : Nat), .none, (0 : Nat)⟩, #[]⟩
noncomputable def hd.z208 : Params → Obj := fun P => ⟨.type PySem.W.SZ.s2766695959194262286x5, (none : Option Nat), .seq #[] (0 : Nat), #[]⟩
noncomputable def hd.z209 : Params → Obj := fun P => ⟨.none, (none : Option Nat), .fields #[], #[]⟩
noncomputable def hd.z210 : Params → Obj := fun P => ⟨.type PySem.W.SZ.s2766695959194262286x5, (none : Option Nat), .seq #[.str ⟨⟨[nat_lit 115, nat_lit 101, nat_lit 108, nat_lit 102]⟩⟩ (435 : Nat), .str ⟨⟨[nat_lit 115, nat_lit 105, nat_lit 103, nat_lit 110]⟩⟩ (436 : Nat)] (0 : Nat), #[]⟩
noncomputable def hd.z211 : Params → Obj := fun P => ⟨.type PySem.W.SZ.s2766695959194262286x5, (none : Option Nat), .seq #[] (0 : Nat), #[]⟩
noncomputable def hd.z212 : Params → Obj := by
  refine' (?F : ∀ (a : Arguments) (b : List Stmt) (c : Scope), hd.fPar (hd.stAt (hd.inCls (hd.stAt hd.twB 10)) 16) = a → hd.fBod (hd.stAt (hd.inCls (hd.stAt hd.twB 10)) 16) = b → hd.fSco (hd.stAt (hd.inCls (hd.stAt hd.twB 10)) 16) = c → Params → Obj) _ _ _ ?h0 ?h1 ?h2
  case h0 => (conv => lhs; whnf) <;> rfl
  case h1 => (conv => lhs; whnf) <;> rfl
  case h2 => (conv => lhs; whnf) <;> rfl
  case F => exact fun a b c _ _ _ => fun P => ⟨.none, (none : Option Nat), .func ⟨⟨⟨[nat_lit 110, nat_lit 101, nat_lit 101, nat_lit 100, nat_lit 95, nat_lit 115, nat_lit 105, nat_lit 103, nat_lit 110]⟩⟩, ⟨⟨[nat_lit 82, nat_lit 101, nat_lit 97, nat_lit 100, nat_lit 101, nat_lit 114, nat_lit 46, nat_lit 110, nat_lit 101, nat_lit 101, nat_lit 100, nat_lit 95, nat_lit 115, nat_lit 105, nat_lit 103, nat_lit 110]⟩⟩, a, .stmts b, c, (0 : Nat), ([] : List (Str × Nat)), .none, .none, .none, .none, (none : Option Nat), .none, .none, (0 : Nat)⟩, #[]⟩
noncomputable def hd.z213 : Params → Obj := fun P => ⟨.type PySem.W.SZ.s5856160107412720595x4, (none : Option Nat), .fields #[.str ⟨⟨[nat_lit 110, nat_lit 101, nat_lit 101, nat_lit 100, nat_lit 95, nat_lit 115, nat_lit 105, nat_lit 103, nat_lit 110]⟩⟩ (432 : Nat), .str ⟨⟨[nat_lit 82, nat_lit 101, nat_lit 97, nat_lit 100, nat_lit 101, nat_lit 114, nat_lit 46, nat_lit 110, nat_lit 101, nat_lit 101, nat_lit 100, nat_lit 95, nat_lit 115, nat_lit 105, nat_lit 103, nat_lit 110]⟩⟩ (433 : Nat), .str ⟨⟨[nat_lit 47, nat_lit 99, nat_lit 108, nat_lit 97, nat_lit 105, nat_lit 109, nat_lit 47, nat_lit 99, nat_lit 117, nat_lit 116, nat_lit 46, nat_lit 112, nat_lit 121]⟩⟩ (434 : Nat), .int 116 (0 : Nat), .int 2 (0 : Nat), .int 0 (0 : Nat), .int 0 (0 : Nat), .int 3 (0 : Nat), .ref (208 : Nat), .bool true, .int 181 (0 : Nat), .ref (209 : Nat), .none, .ref (210 : Nat), .ref (211 : Nat), .ref (212 : Nat), .int 437 (0 : Nat), .int 116 (0 : Nat), .str ⟨⟨[nat_lit 47, nat_lit 99, nat_lit 108, nat_lit 97, nat_lit 105, nat_lit 109, nat_lit 47, nat_lit 99, nat_lit 117, nat_lit 116, nat_lit 46, nat_lit 112, nat_lit 121]⟩⟩ (438 : Nat)], #[]⟩
noncomputable def hd.z214 : Params → Obj := by
  refine' (?F : ∀ (a : Arguments) (b : List Stmt) (c : Scope), hd.fPar (hd.stAt (hd.inCls (hd.stAt hd.twB 10)) 16) = a → hd.fBod (hd.stAt (hd.inCls (hd.stAt hd.twB 10)) 16) = b → hd.fSco (hd.stAt (hd.inCls (hd.stAt hd.twB 10)) 16) = c → Params → Obj) _ _ _ ?h0 ?h1 ?h2
  case h0 => (conv => lhs; whnf) <;> rfl
  case h1 => (conv => lhs; whnf) <;> rfl
  case h2 => (conv => lhs; whnf) <;> rfl
  case F => exact fun a b c _ _ _ => fun P => ⟨.type PySem.W.SZ.s7174869446012820540x8, (none : Option Nat), .func ⟨⟨⟨[nat_lit 110, nat_lit 101, nat_lit 101, nat_lit 100, nat_lit 95, nat_lit 115, nat_lit 105, nat_lit 103, nat_lit 110]⟩⟩, ⟨⟨[nat_lit 82, nat_lit 101, nat_lit 97, nat_lit 100, nat_lit 101, nat_lit 114, nat_lit 46, nat_lit 110, nat_lit 101, nat_lit 101, nat_lit 100, nat_lit 95, nat_lit 115, nat_lit 105, nat_lit 103, nat_lit 110]⟩⟩, a, .stmts b, c, (3 : Nat), ([] : List (Str × Nat)), .none, .none, .none, .str ⟨⟨[nat_lit 108, nat_lit 101, nat_lit 100, nat_lit 103, nat_lit 101, nat_lit 114, nat_lit 115, nat_lit 112, nat_lit 101, nat_lit 97, nat_lit 107, nat_lit 46, nat_lit 114, nat_lit 101, nat_lit 97, nat_lit 100, nat_lit 101, nat_lit 114]⟩⟩ (273 : Nat), (none : Option Nat), .ref (213 : Nat), .none, (0 : Nat)⟩, #[]⟩
noncomputable def hd.z215 : Params → Obj := fun P => ⟨.type PySem.W.SZ.s2766695959194262286x5, (none : Option Nat), .seq #[] (0 : Nat), #[]⟩
noncomputable def hd.z216 : Params → Obj := fun P => ⟨.none, (none : Option Nat), .fields #[], #[]⟩
noncomputable def hd.z217 : Params → Obj := fun P => ⟨.type PySem.W.SZ.s2766695959194262286x5, (none : Option Nat), .seq #[.str ⟨⟨[nat_lit 115, nat_lit 101, nat_lit 108, nat_lit 102]⟩⟩ (443 : Nat)] (0 : Nat), #[]⟩
noncomputable def hd.z218 : Params → Obj := fun P => ⟨.type PySem.W.SZ.s2766695959194262286x5, (none : Option Nat), .seq #[] (0 : Nat), #[]⟩
noncomputable def hd.z219 : Params → Obj := by
  refine' (?F : ∀ (a : Arguments) (b : List Stmt) (c : Scope), hd.fPar (hd.stAt (hd.inCls (hd.stAt hd.twB 10)) 17) = a → hd.fBod (hd.stAt (hd.inCls (hd.stAt hd.twB 10)) 17) = b → hd.fSco (hd.stAt (hd.inCls (hd.stAt hd.twB 10)) 17) = c → Params → Obj) _ _ _ ?h0 ?h1 ?h2
  case h0 => (conv => lhs; whnf) <;> rfl
  case h1 => (conv => lhs; whnf) <;> rfl
  case h2 => (conv => lhs; whnf) <;> rfl
  case F => exact fun a b c _ _ _ => fun P => ⟨.none, (none : Option Nat), .func ⟨⟨⟨[nat_lit 105, nat_lit 115, nat_lit 95, nat_lit 110, nat_lit 117, nat_lit 109, nat_lit 98, nat_lit 101, nat_lit 114]⟩⟩, ⟨⟨[nat_lit 82, nat_lit 101, nat_lit 97, nat_lit 100, nat_lit 101, nat_lit 114, nat_lit 46, nat_lit 105, nat_lit 115, nat_lit 95, nat_lit 110, nat_lit 117, nat_lit 109, nat_lit 98, nat_lit 101, nat_lit 114]⟩⟩, a, .stmts b, c, (0 : Nat), ([] : List (Str × Nat)), .none, .none, .none, .none, (none : Option Nat), .none, .none, (0 : Nat)⟩, #[]⟩
noncomputable def hd.z220 : Params → Obj := fun P => ⟨.type PySem.W.SZ.s5856160107412720595x4, (none : Option Nat), .fields #[.str ⟨⟨[nat_lit 105, nat_lit 115, nat_lit 95, nat_lit 110, nat_lit 117, nat_lit 109, nat_lit 98, nat_lit 101, nat_lit 114]⟩⟩ (440 : Nat), .str ⟨⟨[nat_lit 82, nat_lit 101, nat_lit 97, nat_lit 100, nat_lit 101, nat_lit 114, nat_lit 46, nat_lit 105, nat_lit 115, nat_lit 95, nat_lit 110, nat_lit 117, nat_lit 109, nat_lit 98, nat_lit 101, nat_lit 114]⟩⟩ (441 : Nat), .str ⟨⟨[nat_lit 47, nat_lit 99, nat_lit 108, nat_lit 97, nat_lit 105, nat_lit 109, nat_lit 47, nat_lit 99, nat_lit 117, nat_lit 116, nat_lit 46, nat_lit 112, nat_lit 121]⟩⟩ (442 : Nat), .int 119 (0 : Nat), .int 1 (0 : Nat), .int 0 (0 : Nat), .int 0 (0 : Nat), .int 3 (0 : Nat), .ref (215 : Nat), .bool true, .int 181 (0 : Nat), .ref (216 : Nat), .none, .ref (217 : Nat), .ref (218 : Nat), .ref (219 : Nat), .int 444 (0 : Nat), .int 119 (0 : Nat), .str ⟨⟨[nat_lit 47, nat_lit 99, nat_lit 108, nat_lit 97, nat_lit 105, nat_lit 109, nat_lit 47, nat_lit 99, nat_lit 117, nat_lit 116, nat_lit 46, nat_lit 112, nat_lit 121]⟩⟩ (445 : Nat)], #[]⟩
noncomputable def hd.z221 : Params → Obj := by
  refine' (?F : ∀ (a : Arguments) (b : List Stmt) (c : Scope), hd.fPar (hd.stAt (hd.inCls (hd.stAt hd.twB 10)) 17) = a → hd.fBod (hd.stAt (hd.inCls (hd.stAt hd.twB 10)) 17) = b → hd.fSco (hd.stAt (hd.inCls (hd.stAt hd.twB 10)) 17) = c → Params → Obj) _ _ _ ?h0 ?h1 ?h2
  case h0 => (conv => lhs; whnf) <;> rfl
  case h1 => (conv => lhs; whnf) <;> rfl
  case h2 => (conv => lhs; whnf) <;> rfl
  case F => exact fun a b c _ _ _ => fun P => ⟨.type PySem.W.SZ.s7174869446012820540x8, (none : Option Nat), .func ⟨⟨⟨[nat_lit 105, nat_lit 115, nat_lit 95, nat_lit 110, nat_lit 117, nat_lit 109, nat_lit 98, nat_lit 101, nat_lit 114]⟩⟩, ⟨⟨[nat_lit 82, nat_lit 101, nat_lit 97, nat_lit 100, nat_lit 101, nat_lit 114, nat_lit 46, nat_lit 105, nat_lit 115, nat_lit 95, nat_lit 110, nat_lit 117, nat_lit 109, nat_lit 98, nat_lit 101, nat_lit 114]⟩⟩, a, .stmts b, c, (3 : Nat), ([] : List (Str × Nat)), .none, .none, .none, .str ⟨⟨[nat_lit 108, nat_lit 101, nat_lit 100, nat_lit 103, nat_lit 101, nat_lit 114, nat_lit 115, nat_lit 112, nat_lit 101, nat_lit 97, nat_lit 107, nat_lit 46, nat_lit 114, nat_lit 101, nat_lit 97, nat_lit 100, nat_lit 101, nat_lit 114]⟩⟩ (273 : Nat), (none : Option Nat), .ref (220 : Nat), .none, (0 : Nat)⟩, #[]⟩
noncomputable def hd.z222 : Params → Obj := fun P => ⟨.type PySem.W.SZ.s2766695959194262286x5, (none : Option Nat), .seq #[] (0 : Nat), #[]⟩
noncomputable def hd.z223 : Params → Obj := fun P => ⟨.none, (none : Option Nat), .fields #[], #[]⟩
noncomputable def hd.z224 : Params → Obj := fun P => ⟨.type PySem.W.SZ.s2766695959194262286x5, (none : Option Nat), .seq #[.str ⟨⟨[nat_lit 115, nat_lit 101, nat_lit 108, nat_lit 102]⟩⟩ (450 : Nat)] (0 : Nat), #[]⟩
noncomputable def hd.z225 : Params → Obj := fun P => ⟨.type PySem.W.SZ.s2766695959194262286x5, (none : Option Nat), .seq #[] (0 : Nat), #[]⟩
noncomputable def hd.z226 : Params → Obj := by
  refine' (?F : ∀ (a : Arguments) (b : List Stmt) (c : Scope), hd.fPar (hd.stAt (hd.inCls (hd.stAt hd.twB 10)) 18) = a → hd.fBod (hd.stAt (hd.inCls (hd.stAt hd.twB 10)) 18) = b → hd.fSco (hd.stAt (hd.inCls (hd.stAt hd.twB 10)) 18) = c → Params → Obj) _ _ _ ?h0 ?h1 ?h2
  case h0 => (conv => lhs; whnf) <;> rfl
  case h1 => (conv => lhs; whnf) <;> rfl
  case h2 => (conv => lhs; whnf) <;> rfl
  case F => exact fun a b c _ _ _ => fun P => ⟨.none, (none : Option Nat), .func ⟨⟨⟨[nat_lit 115, nat_lit 105, nat_lit 103, nat_lit 110, nat_lit 101, nat_lit 100]⟩⟩, ⟨⟨[nat_lit 82, nat_lit 101, nat_lit 97, nat_lit 100, nat_lit 101, nat_lit 114, nat_lit 46, nat_lit 115, nat_lit 105, nat_lit 103, nat_lit 110, nat_lit 101, nat_lit 100]⟩⟩, a, .stmts b, c, (0 : Nat), ([] : List (Str × Nat)), .none, .none, .none, .none, (none : Option Nat), .none, .none, (0 : Nat)⟩, #[]⟩
noncomputable def hd.z227 : Params → Obj := fun P => ⟨.type PySem.W.SZ.s5856160107412720595x4, (none : Option Nat), .fields #[.str ⟨⟨[nat_lit 115, nat_lit 105, nat_lit 103, nat_lit 110, nat_lit 101, nat_lit 100]⟩⟩ (447 : Nat), .str ⟨⟨[nat_lit 82, nat_lit 101, nat_lit 97, nat_lit 100, nat_lit 101, nat_lit 114, nat_lit 46, nat_lit 115, nat_lit 105, nat_lit 103, nat_lit 110, nat_lit 101, nat_lit 100]⟩⟩ (448 : Nat), .str ⟨⟨[nat_lit 47, nat_lit 99, nat_lit 108, nat_lit 97, nat_lit 105, nat_lit 109, nat_lit 47, nat_lit 99, nat_lit 117, nat_lit 116, nat_lit 46, nat_lit 112, nat_lit 121]⟩⟩ (449 : Nat), .int 122 (0 : Nat), .int 1 (0 : Nat), .int 0 (0 : Nat), .int 0 (0 : Nat), .int 3 (0 : Nat), .ref (222 : Nat), .bool true, .int 181 (0 : Nat), .ref (223 : Nat), .none, .ref (224 : Nat), .ref (225 : Nat), .ref (226 : Nat), .int 451 (0 : Nat), .int 122 (0 : Nat), .str ⟨⟨[nat_lit 47, nat_lit 99, nat_lit 108, nat_lit 97, nat_lit 105, nat_lit 109, nat_lit 47, nat_lit 99, nat_lit 117, nat_lit 116, nat_lit 46, nat_lit 112, nat_lit 121]⟩⟩ (452 : Nat)], #[]⟩
noncomputable def hd.z228 : Params → Obj := by
  refine' (?F : ∀ (a : Arguments) (b : List Stmt) (c : Scope), hd.fPar (hd.stAt (hd.inCls (hd.stAt hd.twB 10)) 18) = a → hd.fBod (hd.stAt (hd.inCls (hd.stAt hd.twB 10)) 18) = b → hd.fSco (hd.stAt (hd.inCls (hd.stAt hd.twB 10)) 18) = c → Params → Obj) _ _ _ ?h0 ?h1 ?h2
  case h0 => (conv => lhs; whnf) <;> rfl
  case h1 => (conv => lhs; whnf) <;> rfl
  case h2 => (conv => lhs; whnf) <;> rfl
  case F => exact fun a b c _ _ _ => fun P => ⟨.type PySem.W.SZ.s7174869446012820540x8, (none : Option Nat), .func ⟨⟨⟨[nat_lit 115, nat_lit 105, nat_lit 103, nat_lit 110, nat_lit 101, nat_lit 100]⟩⟩, ⟨⟨[nat_lit 82, nat_lit 101, nat_lit 97, nat_lit 100, nat_lit 101, nat_lit 114, nat_lit 46, nat_lit 115, nat_lit 105, nat_lit 103, nat_lit 110, nat_lit 101, nat_lit 100]⟩⟩, a, .stmts b, c, (3 : Nat), ([] : List (Str × Nat)), .none, .none, .none, .str ⟨⟨[nat_lit 108, nat_lit 101, nat_lit 100, nat_lit 103, nat_lit 101, nat_lit 114, nat_lit 115, nat_lit 112, nat_lit 101, nat_lit 97, nat_lit 107, nat_lit 46, nat_lit 114, nat_lit 101, nat_lit 97, nat_lit 100, nat_lit 101, nat_lit 114]⟩⟩ (273 : Nat), (none : Option Nat), .ref (227 : Nat), .none, (0 : Nat)⟩, #[]⟩
noncomputable def hd.z229 : Params → Obj := fun P => ⟨.type PySem.W.SZ.s2766695959194262286x5, (none : Option Nat), .seq #[] (0 : Nat), #[]⟩
noncomputable def hd.z230 : Params → Obj := fun P => ⟨.none, (none : Option Nat), .fields #[], #[]⟩
noncomputable def hd.z231 : Params → Obj := fun P => ⟨.type PySem.W.SZ.s2766695959194262286x5, (none : Option Nat), .seq #[.str ⟨⟨[nat_lit 115, nat_lit 101, nat_lit 108, nat_lit 102]⟩⟩ (457 : Nat)] (0 : Nat), #[]⟩
noncomputable def hd.z232 : Params → Obj := fun P => ⟨.type PySem.W.SZ.s2766695959194262286x5, (none : Option Nat), .seq #[] (0 : Nat), #[]⟩
noncomputable def hd.z233 : Params → Obj := by
  refine' (?F : ∀ (a : Arguments) (b : List Stmt) (c : Scope), hd.fPar (hd.stAt (hd.inCls (hd.stAt hd.twB 10)) 19) = a → hd.fBod (hd.stAt (hd.inCls (hd.stAt hd.twB 10)) 19) = b → hd.fSco (hd.stAt (hd.inCls (hd.stAt hd.twB 10)) 19) = c → Params → Obj) _ _ _ ?h0 ?h1 ?h2
  case h0 => (conv => lhs; whnf) <;> rfl
  case h1 => (conv => lhs; whnf) <;> rfl
  case h2 => (conv => lhs; whnf) <;> rfl
  case F => exact fun a b c _ _ _ => fun P => ⟨.none, (none : Option Nat), .func ⟨⟨⟨[nat_lit 119, nat_lit 104, nat_lit 111, nat_lit 108, nat_lit 101]⟩⟩, ⟨⟨[nat_lit 82, nat_lit 101, nat_lit 97, nat_lit 100, nat_lit 101, nat_lit 114, nat_lit 46, nat_lit 119, nat_lit 104, nat_lit 111, nat_lit 108, nat_lit 101]⟩⟩, a, .stmts b, c, (0 : Nat), ([] : List (Str × Nat)), .none, .none, .none, .none, (none : Option Nat), .none, .none, (0 : Nat)⟩, #[]⟩
noncomputable def hd.z234 : Params → Obj := fun P => ⟨.type PySem.W.SZ.s5856160107412720595x4, (none : Option Nat), .fields #[.str ⟨⟨[nat_lit 119, nat_lit 104, nat_lit 111, nat_lit 108, nat_lit 101]⟩⟩ (454 : Nat), .str ⟨⟨[nat_lit 82, nat_lit 101, nat_lit 97, nat_lit 100, nat_lit 101, nat_lit 114, nat_lit 46, nat_lit 119, nat_lit 104, nat_lit 111, nat_lit 108, nat_lit 101]⟩⟩ (455 : Nat), .str ⟨⟨[nat_lit 47, nat_lit 99, nat_lit 108, nat_lit 97, nat_lit 105, nat_lit 109, nat_lit 47, nat_lit 99, nat_lit 117, nat_lit 116, nat_lit 46, nat_lit 112, nat_lit 121]⟩⟩ (456 : Nat), .int 125 (0 : Nat), .int 1 (0 : Nat), .int 0 (0 : Nat), .int 0 (0 : Nat), .int 3 (0 : Nat), .ref (229 : Nat), .bool true, .int 181 (0 : Nat), .ref (230 : Nat), .none, .ref (231 : Nat), .ref (232 : Nat), .ref (233 : Nat), .int 458 (0 : Nat), .int 125 (0 : Nat), .str ⟨⟨[nat_lit 47, nat_lit 99, nat_lit 108, nat_lit 97, nat_lit 105, nat_lit 109, nat_lit 47, nat_lit 99, nat_lit 117, nat_lit 116, nat_lit 46, nat_lit 112, nat_lit 121]⟩⟩ (459 : Nat)], #[]⟩
noncomputable def hd.z235 : Params → Obj := by
  refine' (?F : ∀ (a : Arguments) (b : List Stmt) (c : Scope), hd.fPar (hd.stAt (hd.inCls (hd.stAt hd.twB 10)) 19) = a → hd.fBod (hd.stAt (hd.inCls (hd.stAt hd.twB 10)) 19) = b → hd.fSco (hd.stAt (hd.inCls (hd.stAt hd.twB 10)) 19) = c → Params → Obj) _ _ _ ?h0 ?h1 ?h2
  case h0 => (conv => lhs; whnf) <;> rfl
  case h1 => (conv => lhs; whnf) <;> rfl
  case h2 => (conv => lhs; whnf) <;> rfl
  case F => exact fun a b c _ _ _ => fun P => ⟨.type PySem.W.SZ.s7174869446012820540x8, (none : Option Nat), .func ⟨⟨⟨[nat_lit 119, nat_lit 104, nat_lit 111, nat_lit 108, nat_lit 101]⟩⟩, ⟨⟨[nat_lit 82, nat_lit 101, nat_lit 97, nat_lit 100, nat_lit 101, nat_lit 114, nat_lit 46, nat_lit 119, nat_lit 104, nat_lit 111, nat_lit 108, nat_lit 101]⟩⟩, a, .stmts b, c, (3 : Nat), ([] : List (Str × Nat)), .none, .none, .none, .str ⟨⟨[nat_lit 108, nat_lit 101, nat_lit 100, nat_lit 103, nat_lit 101, nat_lit 114, nat_lit 115, nat_lit 112, nat_lit 101, nat_lit 97, nat_lit 107, nat_lit 46, nat_lit 114, nat_lit 101, nat_lit 97, nat_lit 100, nat_lit 101, nat_lit 114]⟩⟩ (273 : Nat), (none : Option Nat), .ref (234 : Nat), .none, (0 : Nat)⟩, #[]⟩
noncomputable def hd.z236 : Params → Obj := fun P => ⟨.type PySem.W.SZ.s2766695959194262286x5, (none : Option Nat), .seq #[] (0 : Nat), #[]⟩
noncomputable def hd.z237 : Params → Obj := fun P => ⟨.none, (none : Option Nat), .fields #[], #[]⟩
noncomputable def hd.z238 : Params → Obj := fun P => ⟨.type PySem.W.SZ.s2766695959194262286x5, (none : Option Nat), .seq #[.str ⟨⟨[nat_lit 115, nat_lit 101, nat_lit 108, nat_lit 102]⟩⟩ (464 : Nat)] (0 : Nat), #[]⟩
noncomputable def hd.z239 : Params → Obj := fun P => ⟨.type PySem.W.SZ.s2766695959194262286x5, (none : Option Nat), .seq #[] (0 : Nat), #[]⟩
noncomputable def hd.z240 : Params → Obj := by
  refine' (?F : ∀ (a : Arguments) (b : List Stmt) (c : Scope), hd.fPar (hd.stAt (hd.inCls (hd.stAt hd.twB 10)) 20) = a → hd.fBod (hd.stAt (hd.inCls (hd.stAt hd.twB 10)) 20) = b → hd.fSco (hd.stAt (hd.inCls (hd.stAt hd.twB 10)) 20) = c → Params → Obj) _ _ _ ?h0 ?h1 ?h2
  case h0 => (conv => lhs; whnf) <;> rfl
  case h1 => (conv => lhs; whnf) <;> rfl
  case h2 => (conv => lhs; whnf) <;> rfl
  case F => exact fun a b c _ _ _ => fun P => ⟨.none, (none : Option Nat), .func ⟨⟨⟨[nat_lit 108, nat_lit 105, nat_lit 116, nat_lit 101, nat_lit 114, nat_lit 97, nat_lit 108]⟩⟩, ⟨⟨[nat_lit 82, nat_lit 101, nat_lit 97, nat_lit 100, nat_lit 101, nat_lit 114, nat_lit 46, nat_lit 108, nat_lit 105, nat_lit 116, nat_lit 101, nat_lit 114, nat_lit 97, nat_lit 108]⟩⟩, a, .stmts b, c, (0 : Nat), ([] : List (Str × Nat)), .none, .none, .none, .none, (none : Option Nat), .none, .none, (0 : Nat)⟩, #[]⟩
noncomputable def hd.z241 : Params → Obj := fun P => ⟨.type PySem.W.SZ.s5856160107412720595x4, (none : Option Nat), .fields #[.str ⟨⟨[nat_lit 108, nat_lit 105, nat_lit 116, nat_lit 101, nat_lit 114, nat_lit 97, nat_lit 108]⟩⟩ (461 : Nat), .str ⟨⟨[nat_lit 82, nat_lit 101, nat_lit 97, nat_lit 100, nat_lit 101, nat_lit 114, nat_lit 46, nat_lit 108, nat_lit 105, nat_lit 116, nat_lit 101, nat_lit 114, nat_lit 97, nat_lit 108]⟩⟩ (462 : Nat), .str ⟨⟨[nat_lit 47, nat_lit 99, nat_lit 108, nat_lit 97, nat_lit 105, nat_lit 109, nat_lit 47, nat_lit 99, nat_lit 117, nat_lit 116, nat_lit 46, nat_lit 112, nat_lit 121]⟩⟩ (463 : Nat), .int 128 (0 : Nat), .int 1 (0 : Nat), .int 0 (0 : Nat), .int 0 (0 : Nat), .int 3 (0 : Nat), .ref (236 : Nat), .bool true, .int 181 (0 : Nat), .ref (237 : Nat), .none, .ref (238 : Nat), .ref (239 : Nat), .ref (240 : Nat), .int 465 (0 : Nat), .int 128 (0 : Nat), .str ⟨⟨[nat_lit 47, nat_lit 99, nat_lit 108, nat_lit 97, nat_lit 105, nat_lit 109, nat_lit 47, nat_lit 99, nat_lit 117, nat_lit 116, nat_lit 46, nat_lit 112, nat_lit 121]⟩⟩ (466 : Nat)], #[]⟩
noncomputable def hd.z242 : Params → Obj := by
  refine' (?F : ∀ (a : Arguments) (b : List Stmt) (c : Scope), hd.fPar (hd.stAt (hd.inCls (hd.stAt hd.twB 10)) 20) = a → hd.fBod (hd.stAt (hd.inCls (hd.stAt hd.twB 10)) 20) = b → hd.fSco (hd.stAt (hd.inCls (hd.stAt hd.twB 10)) 20) = c → Params → Obj) _ _ _ ?h0 ?h1 ?h2
  case h0 => (conv => lhs; whnf) <;> rfl
  case h1 => (conv => lhs; whnf) <;> rfl
  case h2 => (conv => lhs; whnf) <;> rfl
  case F => exact fun a b c _ _ _ => fun P => ⟨.type PySem.W.SZ.s7174869446012820540x8, (none : Option Nat), .func ⟨⟨⟨[nat_lit 108, nat_lit 105, nat_lit 116, nat_lit 101, nat_lit 114, nat_lit 97, nat_lit 108]⟩⟩, ⟨⟨[nat_lit 82, nat_lit 101, nat_lit 97, nat_lit 100, nat_lit 101, nat_lit 114, nat_lit 46, nat_lit 108, nat_lit 105, nat_lit 116, nat_lit 101, nat_lit 114, nat_lit 97, nat_lit 108]⟩⟩, a, .stmts b, c, (3 : Nat), ([] : List (Str × Nat)), .none, .none, .none, .str ⟨⟨[nat_lit 108, nat_lit 101, nat_lit 100, nat_lit 103, nat_lit 101, nat_lit 114, nat_lit 115, nat_lit 112, nat_lit 101, nat_lit 97, nat_lit 107, nat_lit 46, nat_lit 114, nat_lit 101, nat_lit 97, nat_lit 100, nat_lit 101, nat_lit 114]⟩⟩ (273 : Nat), (none : Option Nat), .ref (241 : Nat), .none, (0 : Nat)⟩, #[]⟩
noncomputable def hd.z243 : Params → Obj := fun P => ⟨.type PySem.W.SZ.s2766695959194262286x5, (none : Option Nat), .seq #[] (0 : Nat), #[]⟩
noncomputable def hd.z244 : Params → Obj := fun P => ⟨.none, (none : Option Nat), .fields #[], #[]⟩
noncomputable def hd.z245 : Params → Obj := fun P => ⟨.type PySem.W.SZ.s2766695959194262286x5, (none : Option Nat), .seq #[.str ⟨⟨[nat_lit 115, nat_lit 101, nat_lit 108, nat_lit 102]⟩⟩ (471 : Nat)] (0 : Nat), #[]⟩
noncomputable def hd.z246 : Params → Obj := fun P => ⟨.type PySem.W.SZ.s2766695959194262286x5, (none : Option Nat), .seq #[] (0 : Nat), #[]⟩
noncomputable def hd.z247 : Params → Obj := by
  refine' (?F : ∀ (a : Arguments) (b : List Stmt) (c : Scope), hd.fPar (hd.stAt (hd.inCls (hd.stAt hd.twB 10)) 21) = a → hd.fBod (hd.stAt (hd.inCls (hd.stAt hd.twB 10)) 21) = b → hd.fSco (hd.stAt (hd.inCls (hd.stAt hd.twB 10)) 21) = c → Params → Obj) _ _ _ ?h0 ?h1 ?h2
  case h0 => (conv => lhs; whnf) <;> rfl
  case h1 => (conv => lhs; whnf) <;> rfl
  case h2 => (conv => lhs; whnf) <;> rfl
  case F => exact fun a b c _ _ _ => fun P => ⟨.none, (none : Option Nat), .func ⟨⟨⟨[nat_lit 111, nat_lit 99, nat_lit 116, nat_lit 101, nat_lit 116, nat_lit 115]⟩⟩, ⟨⟨[nat_lit 82, nat_lit 101, nat_lit 97, nat_lit 100, nat_lit 101, nat_lit 114, nat_lit 46, nat_lit 111, nat_lit 99, nat_lit 116, nat_lit 101, nat_lit 116, nat_lit 115]⟩⟩, a, .stmts b, c, (0 : Nat), ([] : List (Str × Nat)), .none, .none, .none, .none, (none : Option Nat), .none, .none, (0 : Nat)⟩, #[]⟩
noncomputable def hd.z248 : Params → Obj := fun P => ⟨.type PySem.W.SZ.s5856160107412720595x4, (none : Option Nat), .fields #[.str ⟨⟨[nat_lit 111, nat_lit 99, nat_lit 116, nat_lit 101, nat_lit 116, nat_lit 115]⟩⟩ (468 : Nat), .str ⟨⟨[nat_lit 82, nat_lit 101, nat_lit 97, nat_lit 100, nat_lit 101, nat_lit 114, nat_lit 46, nat_lit 111, nat_lit 99, nat_lit 116, nat_lit 101, nat_lit 116, nat_lit 115]⟩⟩ (469 : Nat), .str ⟨⟨[nat_lit 47, nat_lit 99, nat_lit 108, nat_lit 97, nat_lit 105, nat_lit 109, nat_lit 47, nat_lit 99, nat_lit 117, nat_lit 116, nat_lit 46, nat_lit 112, nat_lit 121]⟩⟩ (470 : Nat), .int 131 (0 : Nat), .int 1 (0 : Nat), .int 0 (0 : Nat), .int 0 (0 : Nat), .int 3 (0 : Nat), .ref (243 : Nat), .bool true, .int 181 (0 : Nat), .ref (244 : Nat), .none, .ref (245 : Nat), .ref (246 : Nat), .ref (247 : Nat), .int 472 (0 : Nat), .int 131 (0 : Nat), .str ⟨⟨[nat_lit 47, nat_lit 99, nat_lit 108, nat_lit 97, nat_lit 105, nat_lit 109, nat_lit 47, nat_lit 99, nat_lit 117, nat_lit 116, nat_lit 46, nat_lit 112, nat_lit 121]⟩⟩ (473 : Nat)], #[]⟩
noncomputable def hd.z249 : Params → Obj := by
  refine' (?F : ∀ (a : Arguments) (b : List Stmt) (c : Scope), hd.fPar (hd.stAt (hd.inCls (hd.stAt hd.twB 10)) 21) = a → hd.fBod (hd.stAt (hd.inCls (hd.stAt hd.twB 10)) 21) = b → hd.fSco (hd.stAt (hd.inCls (hd.stAt hd.twB 10)) 21) = c → Params → Obj) _ _ _ ?h0 ?h1 ?h2
  case h0 => (conv => lhs; whnf) <;> rfl
  case h1 => (conv => lhs; whnf) <;> rfl
  case h2 => (conv => lhs; whnf) <;> rfl
  case F => exact fun a b c _ _ _ => fun P => ⟨.type PySem.W.SZ.s7174869446012820540x8, (none : Option Nat), .func ⟨⟨⟨[nat_lit 111, nat_lit 99, nat_lit 116, nat_lit 101, nat_lit 116, nat_lit 115]⟩⟩, ⟨⟨[nat_lit 82, nat_lit 101, nat_lit 97, nat_lit 100, nat_lit 101, nat_lit 114, nat_lit 46, nat_lit 111, nat_lit 99, nat_lit 116, nat_lit 101, nat_lit 116, nat_lit 115]⟩⟩, a, .stmts b, c, (3 : Nat), ([] : List (Str × Nat)), .none, .none, .none, .str ⟨⟨[nat_lit 108, nat_lit 101, nat_lit 100, nat_lit 103, nat_lit 101, nat_lit 114, nat_lit 115, nat_lit 112, nat_lit 101, nat_lit 97, nat_lit 107, nat_lit 46, nat_lit 114, nat_lit 101, nat_lit 97, nat_lit 100, nat_lit 101, nat_lit 114]⟩⟩ (273 : Nat), (none : Option Nat), .ref (248 : Nat), .none, (0 : Nat)⟩, #[]⟩
noncomputable def hd.z250 : Params → Obj := fun P => ⟨.type PySem.W.SZ.s2766695959194262286x5, (none : Option Nat), .seq #[.str ⟨⟨[nat_lit 97, nat_lit 116]⟩⟩ (475 : Nat), .str ⟨⟨[nat_lit 110, nat_lit 97, nat_lit 109, nat_lit 101, nat_lit 100]⟩⟩ (476 : Nat), .str ⟨⟨[nat_lit 116, nat_lit 111, nat_lit 107, nat_lit 101, nat_lit 110, nat_lit 115]⟩⟩ (477 : Nat)] (0 : Nat), #[]⟩
noncomputable def hd.z251 : Params → Obj := fun P => ⟨.type PySem.W.SZ.s14018661285674007319x4, (none : Option Nat), .dict (List.toArray (⟨PySem.PyData.keyHash P ⟨⟨[nat_lit 95, nat_lit 95, nat_lit 109, nat_lit 111, nat_lit 100, nat_lit 117, nat_lit 108, nat_lit 101, nat_lit 95, nat_lit 95]⟩⟩, .str ⟨⟨[nat_lit 95, nat_lit 95, nat_lit 109, nat_lit 111, nat_lit 100, nat_lit 117, nat_lit 108, nat_lit 101, nat_lit 95, nat_lit 95]⟩⟩ (291 : Nat), .str ⟨⟨[nat_lit 108, nat_lit 101, nat_lit 100, nat_lit 103, nat_lit 101, nat_lit 114, nat_lit 115, nat_lit 112, nat_lit 101, nat_lit 97, nat_lit 107, nat_lit 46, nat_lit 114, nat_lit 101, nat_lit 97, nat_lit 100, nat_lit 101, nat_lit 114]⟩⟩ (273 : Nat)⟩ :: ⟨PySem.PyData.keyHash P ⟨⟨[nat_lit 95, nat_lit 95, nat_lit 102, nat_lit 105, nat_lit 114, nat_lit 115, nat_lit 116, nat_lit 108, nat_lit 105, nat_lit 110, nat_lit 101, nat_lit 110, nat_lit 111, nat_lit 95, nat_lit 95]⟩⟩, .str ⟨⟨[nat_lit 95, nat_lit 95, nat_lit 102, nat_lit 105, nat_lit 114, nat_lit 115, nat_lit 116, nat_lit 108, nat_lit 105, nat_lit 110, nat_lit 101, nat_lit 110, nat_lit 111, nat_lit 95, nat_lit 95]⟩⟩ (295 : Nat), .int 40 (294 : Nat)⟩ :: ⟨PySem.PyData.keyHash P ⟨⟨[nat_lit 95, nat_lit 95, nat_lit 105, nat_lit 110, nat_lit 105, nat_lit 116, nat_lit 95, nat_lit 95]⟩⟩, .str ⟨⟨[nat_lit 95, nat_lit 95, nat_lit 105, nat_lit 110, nat_lit 105, nat_lit 116, nat_lit 95, nat_lit 95]⟩⟩ (305 : Nat), .ref (98 : Nat)⟩ :: ⟨PySem.PyData.keyHash P ⟨⟨[nat_lit 112, nat_lit 101, nat_lit 101, nat_lit 107]⟩⟩, .str ⟨⟨[nat_lit 112, nat_lit 101, nat_lit 101, nat_lit 107]⟩⟩ (314 : Nat), .ref (106 : Nat)⟩ :: ⟨PySem.PyData.keyHash P ⟨⟨[nat_lit 105, nat_lit 115, nat_lit 95, nat_lit 100, nat_lit 111, nat_lit 110, nat_lit 101]⟩⟩, .str ⟨⟨[nat_lit 105, nat_lit 115, nat_lit 95, nat_lit 100, nat_lit 111, nat_lit 110, nat_lit 101]⟩⟩ (321 : Nat), .ref (113 : Nat)⟩ :: ⟨PySem.PyData.keyHash P ⟨⟨[nat_lit 102, nat_lit 97, nat_lit 117, nat_lit 108, nat_lit 116]⟩⟩, .str ⟨⟨[nat_lit 102, nat_lit 97, nat_lit 117, nat_lit 108, nat_lit 116]⟩⟩ (329 : Nat), .ref (120 : Nat)⟩ :: ⟨PySem.PyData.keyHash P ⟨⟨[nat_lit 116, nat_lit 97, nat_lit 107, nat_lit 101]⟩⟩, .str ⟨⟨[nat_lit 116, nat_lit 97, nat_lit 107, nat_lit 101]⟩⟩ (337 : Nat), .ref (127 : Nat)⟩ :: ⟨PySem.PyData.keyHash P ⟨⟨[nat_lit 105, nat_lit 115, nat_lit 95, nat_lit 107, nat_lit 105, nat_lit 110, nat_lit 100]⟩⟩, .str ⟨⟨[nat_lit 105, nat_lit 115, nat_lit 95, nat_lit 107, nat_lit 105, nat_lit 110, nat_lit 100]⟩⟩ (348 : Nat), .ref (135 : Nat)⟩ :: ⟨PySem.PyData.keyHash P ⟨⟨[nat_lit 105, nat_lit 115, nat_lit 95, nat_lit 119, nat_lit 111, nat_lit 114, nat_lit 100]⟩⟩, .str ⟨⟨[nat_lit 105, nat_lit 115, nat_lit 95, nat_lit 119, nat_lit 111, nat_lit 114, nat_lit 100]⟩⟩ (358 : Nat), .ref (142 : Nat)⟩ :: ⟨PySem.PyData.keyHash P ⟨⟨[nat_lit 115, nat_lit 107, nat_lit 105, nat_lit 112]⟩⟩, .str ⟨⟨[nat_lit 115, nat_lit 107, nat_lit 105, nat_lit 112]⟩⟩ (366 : Nat), .ref (149 : Nat)⟩ :: ⟨PySem.PyData.keyHash P ⟨⟨[nat_lit 110, nat_lit 101, nat_lit 101, nat_lit 100]⟩⟩, .str ⟨⟨[nat_lit 110, nat_lit 101, nat_lit 101, nat_lit 100]⟩⟩ (374 : Nat), .ref (156 : Nat)⟩ :: ⟨PySem.PyData.keyHash P ⟨⟨[nat_lit 111, nat_lit 110, nat_lit 101, nat_lit 95, nat_lit 111, nat_lit 102]⟩⟩, .str ⟨⟨[nat_lit 111, nat_lit 110, nat_lit 101, nat_lit 95, nat_lit 111, nat_lit 102]⟩⟩ (382 : Nat), .ref (163 : Nat)⟩ :: ⟨PySem.PyData.keyHash P ⟨⟨[nat_lit 119, nat_lit 111, nat_lit 114, nat_lit 100]⟩⟩, .str ⟨⟨[nat_lit 119, nat_lit 111, nat_lit 114, nat_lit 100]⟩⟩ (389 : Nat), .ref (170 : Nat)⟩ :: ⟨PySem.PyData.keyHash P ⟨⟨[nat_lit 105, nat_lit 115, nat_lit 95, nat_lit 110, nat_lit 97, nat_lit 109, nat_lit 101]⟩⟩, .str ⟨⟨[nat_lit 105, nat_lit 115, nat_lit 95, nat_lit 110, nat_lit 97, nat_lit 109, nat_lit 101]⟩⟩ (398 : Nat), .ref (178 : Nat)⟩ :: ⟨PySem.PyData.keyHash P ⟨⟨[nat_lit 110, nat_lit 97, nat_lit 109, nat_lit 101]⟩⟩, .str ⟨⟨[nat_lit 110, nat_lit 97, nat_lit 109, nat_lit 101]⟩⟩ (405 : Nat), .ref (185 : Nat)⟩ :: ⟨PySem.PyData.keyHash P ⟨⟨[nat_lit 110, nat_lit 97, nat_lit 109, nat_lit 101, nat_lit 115]⟩⟩, .str ⟨⟨[nat_lit 110, nat_lit 97, nat_lit 109, nat_lit 101, nat_lit 115]⟩⟩ (413 : Nat), .ref (192 : Nat)⟩ :: ⟨PySem.PyData.keyHash P ⟨⟨[nat_lit 105, nat_lit 115, nat_lit 95, nat_lit 115, nat_lit 105, nat_lit 103, nat_lit 110]⟩⟩, .str ⟨⟨[nat_lit 105, nat_lit 115, nat_lit 95, nat_lit 115, nat_lit 105, nat_lit 103, nat_lit 110]⟩⟩ (423 : Nat), .ref (200 : Nat)⟩ :: ⟨PySem.PyData.keyHash P ⟨⟨[nat_lit 115, nat_lit 107, nat_lit 105, nat_lit 112, nat_lit 95, nat_lit 115, nat_lit 105, nat_lit 103, nat_lit 110]⟩⟩, .str ⟨⟨[nat_lit 115, nat_lit 107, nat_lit 105, nat_lit 112, nat_lit 95, nat_lit 115, nat_lit 105, nat_lit 103, nat_lit 110]⟩⟩ (431 : Nat), .ref (207 : Nat)⟩ :: ⟨PySem.PyData.keyHash P ⟨⟨[nat_lit 110, nat_lit 101, nat_lit 101, nat_lit 100, nat_lit 95, nat_lit 115, nat_lit 105, nat_lit 103, nat_lit 110]⟩⟩, .str ⟨⟨[nat_lit 110, nat_lit 101, nat_lit 101, nat_lit 100, nat_lit 95, nat_lit 115, nat_lit 105, nat_lit 103, nat_lit 110]⟩⟩ (439 : Nat), .ref (214 : Nat)⟩ :: ⟨PySem.PyData.keyHash P ⟨⟨[nat_lit 105, nat_lit 115, nat_lit 95, nat_lit 110, nat_lit 117, nat_lit 109, nat_lit 98, nat_lit 101, nat_lit 114]⟩⟩, .str ⟨⟨[nat_lit 105, nat_lit 115, nat_lit 95, nat_lit 110, nat_lit 117, nat_lit 109, nat_lit 98, nat_lit 101, nat_lit 114]⟩⟩ (446 : Nat), .ref (221 : Nat)⟩ :: ⟨PySem.PyData.keyHash P ⟨⟨[nat_lit 115, nat_lit 105, nat_lit 103, nat_lit 110, nat_lit 101, nat_lit 100]⟩⟩, .str ⟨⟨[nat_lit 115, nat_lit 105, nat_lit 103, nat_lit 110, nat_lit 101, nat_lit 100]⟩⟩ (453 : Nat), .ref (228 : Nat)⟩ :: ⟨PySem.PyData.keyHash P ⟨⟨[nat_lit 119, nat_lit 104, nat_lit 111, nat_lit 108, nat_lit 101]⟩⟩, .str ⟨⟨[nat_lit 119, nat_lit 104, nat_lit 111, nat_lit 108, nat_lit 101]⟩⟩ (460 : Nat), .ref (235 : Nat)⟩ :: ⟨PySem.PyData.keyHash P ⟨⟨[nat_lit 108, nat_lit 105, nat_lit 116, nat_lit 101, nat_lit 114, nat_lit 97, nat_lit 108]⟩⟩, .str ⟨⟨[nat_lit 108, nat_lit 105, nat_lit 116, nat_lit 101, nat_lit 114, nat_lit 97, nat_lit 108]⟩⟩ (467 : Nat), .ref (242 : Nat)⟩ :: ⟨PySem.PyData.keyHash P ⟨⟨[nat_lit 111, nat_lit 99, nat_lit 116, nat_lit 101, nat_lit 116, nat_lit 115]⟩⟩, .str ⟨⟨[nat_lit 111, nat_lit 99, nat_lit 116, nat_lit 101, nat_lit 116, nat_lit 115]⟩⟩ (474 : Nat), .ref (249 : Nat)⟩ :: ⟨PySem.PyData.keyHash P ⟨⟨[nat_lit 95, nat_lit 95, nat_lit 115, nat_lit 116, nat_lit 97, nat_lit 116, nat_lit 105, nat_lit 99, nat_lit 95, nat_lit 97, nat_lit 116, nat_lit 116, nat_lit 114, nat_lit 105, nat_lit 98, nat_lit 117, nat_lit 116, nat_lit 101, nat_lit 115, nat_lit 95, nat_lit 95]⟩⟩, .str ⟨⟨[nat_lit 95, nat_lit 95, nat_lit 115, nat_lit 116, nat_lit 97, nat_lit 116, nat_lit 105, nat_lit 99, nat_lit 95, nat_lit 97, nat_lit 116, nat_lit 116, nat_lit 114, nat_lit 105, nat_lit 98, nat_lit 117, nat_lit 116, nat_lit 101, nat_lit 115, nat_lit 95, nat_lit 95]⟩⟩ (478 : Nat), .ref (250 : Nat)⟩ :: ⟨PySem.PyData.keyHash P ⟨⟨[nat_lit 95, nat_lit 95, nat_lit 100, nat_lit 105, nat_lit 99, nat_lit 116, nat_lit 95, nat_lit 95]⟩⟩, .str ⟨⟨[nat_lit 95, nat_lit 95, nat_lit 100, nat_lit 105, nat_lit 99, nat_lit 116, nat_lit 95, nat_lit 95]⟩⟩ (480 : Nat), .ref (253 : Nat)⟩ :: ⟨PySem.PyData.keyHash P ⟨⟨[nat_lit 95, nat_lit 95, nat_lit 119, nat_lit 101, nat_lit 97, nat_lit 107, nat_lit 114, nat_lit 101, nat_lit 102, nat_lit 95, nat_lit 95]⟩⟩, .str ⟨⟨[nat_lit 95, nat_lit 95, nat_lit 119, nat_lit 101, nat_lit 97, nat_lit 107, nat_lit 114, nat_lit 101, nat_lit 102, nat_lit 95, nat_lit 95]⟩⟩ (482 : Nat), .ref (254 : Nat)⟩ :: ⟨PySem.PyData.keyHash P ⟨⟨[nat_lit 95, nat_lit 95, nat_lit 100, nat_lit 111, nat_lit 99, nat_lit 95, nat_lit 95]⟩⟩, .str ⟨⟨[nat_lit 95, nat_lit 95, nat_lit 100, nat_lit 111, nat_lit 99, nat_lit 95, nat_lit 95]⟩⟩ (483 : Nat), .none⟩ :: [])) (4 : Nat), #[]⟩
noncomputable def hd.z252 : Params → Obj := fun P => ⟨.type PySem.W.SZ.s17162191345867700912x4, (none : Option Nat), .cls ⟨⟨⟨[nat_lit 82, nat_lit 101, nat_lit 97, nat_lit 100, nat_lit 101, nat_lit 114]⟩⟩, [.type PySem.W.SZ.s2742458400755230247x6], [.ref (252 : Nat), .type PySem.W.SZ.s2742458400755230247x6], (251 : Nat), ⟨⟨[nat_lit 82, nat_lit 101, nat_lit 97, nat_lit 100, nat_lit 101, nat_lit 114]⟩⟩, true, [], [], false, none, false⟩, #[none, none, Option.some (.str ⟨⟨[nat_lit 82, nat_lit 101, nat_lit 97, nat_lit 100, nat_lit 101, nat_lit 114]⟩⟩ (284 : Nat)), Option.some (.str ⟨⟨[nat_lit 82, nat_lit 101, nat_lit 97, nat_lit 100, nat_lit 101, nat_lit 114]⟩⟩ (292 : Nat)), Option.some (.builtin PySem.W.SZ.s11443829558043349243x14), Option.some (.bool true)]⟩
noncomputable def hd.z253 : Params → Obj := fun P => ⟨.type PySem.W.SZ.s14755015743595814543x17, (none : Option Nat), .fields #[.str ⟨⟨[nat_lit 95, nat_lit 95, nat_lit 100, nat_lit 105, nat_lit 99, nat_lit 116, nat_lit 95, nat_lit 95]⟩⟩ (479 : Nat), .ref (252 : Nat), .builtin PySem.W.SZ.s6511155373996960695x17, .builtin PySem.W.SZ.s12411053484034534018x21], #[]⟩
noncomputable def hd.z254 : Params → Obj := fun P => ⟨.type PySem.W.SZ.s14755015743595814543x17, (none : Option Nat), .fields #[.str ⟨⟨[nat_lit 95, nat_lit 95, nat_lit 119, nat_lit 101, nat_lit 97, nat_lit 107, nat_lit 114, nat_lit 101, nat_lit 102, nat_lit 95, nat_lit 95]⟩⟩ (481 : Nat), .ref (252 : Nat), .builtin PySem.W.SZ.s10220274742760427390x26, .none], #[]⟩
noncomputable def hd.x255 : Params → Obj := fun P => ⟨.type PySem.W.SL.s4290257624100764138x5, (none : Option Nat), .fields #[.ref (252 : Nat), .ref (252 : Nat), .ref (252 : Nat)], #[]⟩
noncomputable def hd.x256 : Params → Obj := fun P => ⟨.type PySem.W.SL.s11030030927630378310x26, (none : Option Nat), .fields #[.builtin PySem.W.SL.s4860613602091757760x24, .ref (252 : Nat)], #[]⟩
noncomputable def hd.x257 : Params → Obj := fun P => ⟨.type PySem.W.SL.s2766695959194262286x5, (none : Option Nat), .seq #[] (0 : Nat), #[]⟩
noncomputable def hd.x258 : Params → Obj := fun P => ⟨.type PySem.W.SL.s11030030927630378310x26, (none : Option Nat), .fields #[.builtin PySem.W.SL.s10062305145149207511x16, .type PySem.W.SL.s17162191345867700912x4], #[]⟩
noncomputable def hd.x259 : Params → Obj := fun P => ⟨.type PySem.W.SL.s14018661285674007319x4, (none : Option Nat), .dict #[⟨PySem.PyData.keyHash P ⟨⟨[nat_lit 95, nat_lit 95, nat_lit 109, nat_lit 111, nat_lit 100, nat_lit 117, nat_lit 108, nat_lit 101, nat_lit 95, nat_lit 95]⟩⟩, .str ⟨⟨[nat_lit 95, nat_lit 95, nat_lit 109, nat_lit 111, nat_lit 100, nat_lit 117, nat_lit 108, nat_lit 101, nat_lit 95, nat_lit 95]⟩⟩ (495 : Nat), .str ⟨⟨[nat_lit 108, nat_lit 101, nat_lit 100, nat_lit 103, nat_lit 101, nat_lit 114, nat_lit 115, nat_lit 112, nat_lit 101, nat_lit 97, nat_lit 107, nat_lit 46, nat_lit 116, nat_lit 111, nat_lit 107, nat_lit 101, nat_lit 110, nat_lit 115]⟩⟩ (486 : Nat)⟩, ⟨PySem.PyData.keyHash P ⟨⟨[nat_lit 95, nat_lit 95, nat_lit 113, nat_lit 117, nat_lit 97, nat_lit 108, nat_lit 110, nat_lit 97, nat_lit 109, nat_lit 101, nat_lit 95, nat_lit 95]⟩⟩, .str ⟨⟨[nat_lit 95, nat_lit 95, nat_lit 113, nat_lit 117, nat_lit 97, nat_lit 108, nat_lit 110, nat_lit 97, nat_lit 109, nat_lit 101, nat_lit 95, nat_lit 95]⟩⟩ (497 : Nat), .str ⟨⟨[nat_lit 84, nat_lit 111, nat_lit 107, nat_lit 101, nat_lit 110]⟩⟩ (496 : Nat)⟩, ⟨PySem.PyData.keyHash P ⟨⟨[nat_lit 95, nat_lit 95, nat_lit 102, nat_lit 105, nat_lit 114, nat_lit 115, nat_lit 116, nat_lit 108, nat_lit 105, nat_lit 110, nat_lit 101, nat_lit 110, nat_lit 111, nat_lit 95, nat_lit 95]⟩⟩, .str ⟨⟨[nat_lit 95, nat_lit 95, nat_lit 102, nat_lit 105, nat_lit 114, nat_lit 115, nat_lit 116, nat_lit 108, nat_lit 105, nat_lit 110, nat_lit 101, nat_lit 110, nat_lit 111, nat_lit 95, nat_lit 95]⟩⟩ (499 : Nat), .int 134 (498 : Nat)⟩, ⟨PySem.PyData.keyHash P ⟨⟨[nat_lit 95, nat_lit 95, nat_lit 105, nat_lit 110, nat_lit 105, nat_lit 116, nat_lit 95, nat_lit 95]⟩⟩, .str ⟨⟨[nat_lit 95, nat_lit 95, nat_lit 105, nat_lit 110, nat_lit 105, nat_lit 116, nat_lit 95, nat_lit 95]⟩⟩ (512 : Nat), .ref (272 : Nat)⟩, ⟨PySem.PyData.keyHash P ⟨⟨[nat_lit 116, nat_lit 111, nat_lit 108, nat_lit 100]⟩⟩, .str ⟨⟨[nat_lit 116, nat_lit 111, nat_lit 108, nat_lit 100]⟩⟩ (519 : Nat), .ref (279 : Nat)⟩, ⟨PySem.PyData.keyHash P ⟨⟨[nat_lit 95, nat_lit 95, nat_lit 115, nat_lit 116, nat_lit 97, nat_lit 116, nat_lit 105, nat_lit 99, nat_lit 95, nat_lit 97, nat_lit 116, nat_lit 116, nat_lit 114, nat_lit 105, nat_lit 98, nat_lit 117, nat_lit 116, nat_lit 101, nat_lit 115, nat_lit 95, nat_lit 95]⟩⟩, .str ⟨⟨[nat_lit 95, nat_lit 95, nat_lit 115, nat_lit 116, nat_lit 97, nat_lit 116, nat_lit 105, nat_lit 99, nat_lit 95, nat_lit 97, nat_lit 116, nat_lit 116, nat_lit 114, nat_lit 105, nat_lit 98, nat_lit 117, nat_lit 116, nat_lit 101, nat_lit 115, nat_lit 95, nat_lit 95]⟩⟩ (524 : Nat), .ref (280 : Nat)⟩] (6 : Nat), #[]⟩
noncomputable def hd.x260 : Params → Obj := fun P => ⟨.type PySem.W.SL.s2766695959194262286x5, (none : Option Nat), .seq #[] (0 : Nat), #[]⟩
noncomputable def hd.x261 : Params → Obj := fun P => ⟨.none, (none : Option Nat), .fields #[.int 136 (0 : Nat), .int 4 (0 : Nat), .ref (271 : Nat), .int 142 (0 : Nat), .int 4 (0 : Nat), .ref (278 : Nat)], #[]⟩
noncomputable def hd.x262 : Params → Obj := fun P => ⟨.type PySem.W.SL.s5856160107412720595x4, (none : Option Nat), .fields #[.str ⟨⟨[nat_lit 84, nat_lit 111, nat_lit 107, nat_lit 101, nat_lit 110]⟩⟩ (490 : Nat), .str ⟨⟨[nat_lit 84, nat_lit 111, nat_lit 107, nat_lit 101, nat_lit 110]⟩⟩ (491 : Nat), .str ⟨⟨[nat_lit 47, nat_lit 99, nat_lit 108, nat_lit 97, nat_lit 105, nat_lit 109, nat_lit 47, nat_lit 99, nat_lit 117, nat_lit 116, nat_lit 46, nat_lit 112, nat_lit 121]⟩⟩ (492 : Nat), .int 134 (0 : Nat), .int 0 (0 : Nat), .int 0 (0 : Nat), .int 0 (0 : Nat), .int 0 (0 : Nat), .ref (260 : Nat), .bool false, .int 181 (0 : Nat), .ref (261 : Nat), .none, .none, .none, .none, .int 493 (0 : Nat), .int 134 (0 : Nat), .str ⟨⟨[nat_lit 47, nat_lit 99, nat_lit 108, nat_lit 97, nat_lit 105, nat_lit 109, nat_lit 47, nat_lit 99, nat_lit 117, nat_lit 116, nat_lit 46, nat_lit 112, nat_lit 121]⟩⟩ (494 : Nat)], #[]⟩
noncomputable def hd.x263 : Params → Obj := fun P => ⟨.type PySem.W.SL.s658472552662922059x5, (none : Option Nat), .plain, #[Option.some (.ref (262 : Nat)), Option.some (.ref (3 : Nat)), Option.some (.ref (259 : Nat)), none, Option.some (.str ⟨⟨[nat_lit 108, nat_lit 101, nat_lit 100, nat_lit 103, nat_lit 101, nat_lit 114, nat_lit 115, nat_lit 112, nat_lit 101, nat_lit 97, nat_lit 107, nat_lit 46, nat_lit 116, nat_lit 111, nat_lit 107, nat_lit 101, nat_lit 110, nat_lit 115]⟩⟩ (486 : Nat)), none, Option.some (.ref (0 : Nat))]⟩
noncomputable def hd.z264 : Params → Obj := fun P => ⟨.type PySem.W.SZ.s2766695959194262286x5, (none : Option Nat), .seq #[.int 0 (500 : Nat), .int 0 (501 : Nat)] (0 : Nat), #[]⟩
noncomputable def hd.z265 : Params → Obj := fun P => ⟨.type PySem.W.SZ.s2766695959194262286x5, (none : Option Nat), .seq #[.ref (264 : Nat), .bool false] (0 : Nat), #[]⟩
noncomputable def hd.z266 : Params → Obj := fun P => ⟨.type PySem.W.SZ.s2766695959194262286x5, (none : Option Nat), .seq #[] (0 : Nat), #[]⟩
noncomputable def hd.z267 : Params → Obj := fun P => ⟨.none, (none : Option Nat), .fields #[], #[]⟩
noncomputable def hd.z268 : Params → Obj := fun P => ⟨.type PySem.W.SZ.s2766695959194262286x5, (none : Option Nat), .seq #[.str ⟨⟨[nat_lit 115, nat_lit 101, nat_lit 108, nat_lit 102]⟩⟩ (505 : Nat), .str ⟨⟨[nat_lit 107, nat_lit 105, nat_lit 110, nat_lit 100]⟩⟩ (506 : Nat), .str ⟨⟨[nat_lit 119, nat_lit 111, nat_lit 114, nat_lit 116, nat_lit 104]⟩⟩ (507 : Nat), .str ⟨⟨[nat_lit 97, nat_lit 116]⟩⟩ (508 : Nat), .str ⟨⟨[nat_lit 105, nat_lit 115, nat_lit 95, nat_lit 105, nat_lit 110, nat_lit 95, nat_lit 97]⟩⟩ (509 : Nat)] (0 : Nat), #[]⟩
noncomputable def hd.z269 : Params → Obj := fun P => ⟨.type PySem.W.SZ.s2766695959194262286x5, (none : Option Nat), .seq #[] (0 : Nat), #[]⟩
noncomputable def hd.z270 : Params → Obj := by
  refine' (?F : ∀ (a : Arguments) (b : List Stmt) (c : Scope), hd.fPar (hd.stAt (hd.inCls (hd.stAt hd.twB 12)) 0) = a → hd.fBod (hd.stAt (hd.inCls (hd.stAt hd.twB 12)) 0) = b → hd.fSco (hd.stAt (hd.inCls (hd.stAt hd.twB 12)) 0) = c → Params → Obj) _ _ _ ?h0 ?h1 ?h2
  case h0 => (conv => lhs; whnf) <;> rfl
  case h1 => (conv => lhs; whnf) <;> rfl
  case h2 => (conv => lhs; whnf) <;> rfl
  case F => exact fun a b c _ _ _ => fun P => ⟨.none, (none : Option Nat), .func ⟨⟨⟨[nat_lit 95, nat_lit 95, nat_lit 105, nat_lit 110, nat_lit 105, nat_lit 116, nat_lit 95, nat_lit 95]⟩⟩, ⟨⟨[nat_lit 84, nat_lit 111, nat_lit 107, nat_lit 101, nat_lit 110, nat_lit 46, nat_lit 95, nat_lit 95, nat_lit 105, nat_lit 110, nat_lit 105, nat_lit 116, nat_lit 95, nat_lit 95]⟩⟩, a, .stmts b, c, (0 : Nat), ([] : List (Str × Nat)), .none, .none, .none, .none, (none : Option Nat), .none, .none, (0 : Nat)⟩, #[]⟩
noncomputable def hd.z271 : Params → Obj := fun P => ⟨.type PySem.W.SZ.s5856160107412720595x4, (none : Option Nat), .fields #[.str ⟨⟨[nat_lit 95, nat_lit 95, nat_lit 105, nat_lit 110, nat_lit 105, nat_lit 116, nat_lit 95, nat_lit 95]⟩⟩ (502 : Nat), .str ⟨⟨[nat_lit 84, nat_lit 111, nat_lit 107, nat_lit 101, nat_lit 110, nat_lit 46, nat_lit 95, nat_lit 95, nat_lit 105, nat_lit 110, nat_lit 105, nat_lit 116, nat_lit 95, nat_lit 95]⟩⟩ (503 : Nat), .str ⟨⟨[nat_lit 47, nat_lit 99, nat_lit 108, nat_lit 97, nat_lit 105, nat_lit 109, nat_lit 47, nat_lit 99, nat_lit 117, nat_lit 116, nat_lit 46, nat_lit 112, nat_lit 121]⟩⟩ (504 : Nat), .int 136 (0 : Nat), .int 5 (0 : Nat), .int 0 (0 : Nat), .int 0 (0 : Nat), .int 3 (0 : Nat), .ref (266 : Nat), .bool true, .int 181 (0 : Nat), .ref (267 : Nat), .none, .ref (268 : Nat), .ref (269 : Nat), .ref (270 : Nat), .int 510 (0 : Nat), .int 136 (0 : Nat), .str ⟨⟨[nat_lit 47, nat_lit 99, nat_lit 108, nat_lit 97, nat_lit 105, nat_lit 109, nat_lit 47, nat_lit 99, nat_lit 117, nat_lit 116, nat_lit 46, nat_lit 112, nat_lit 121]⟩⟩ (511 : Nat)], #[]⟩
noncomputable def hd.z272 : Params → Obj := by
  refine' (?F : ∀ (a : Arguments) (b : List Stmt) (c : Scope), hd.fPar (hd.stAt (hd.inCls (hd.stAt hd.twB 12)) 0) = a → hd.fBod (hd.stAt (hd.inCls (hd.stAt hd.twB 12)) 0) = b → hd.fSco (hd.stAt (hd.inCls (hd.stAt hd.twB 12)) 0) = c → Params → Obj) _ _ _ ?h0 ?h1 ?h2
  case h0 => (conv => lhs; whnf) <;> rfl
  case h1 => (conv => lhs; whnf) <;> rfl
  case h2 => (conv => lhs; whnf) <;> rfl
  case F => exact fun a b c _ _ _ => fun P => ⟨.type PySem.W.SZ.s7174869446012820540x8, (none : Option Nat), .func ⟨⟨⟨[nat_lit 95, nat_lit 95, nat_lit 105, nat_lit 110, nat_lit 105, nat_lit 116, nat_lit 95, nat_lit 95]⟩⟩, ⟨⟨[nat_lit 84, nat_lit 111, nat_lit 107, nat_lit 101, nat_lit 110, nat_lit 46, nat_lit 95, nat_lit 95, nat_lit 105, nat_lit 110, nat_lit 105, nat_lit 116, nat_lit 95, nat_lit 95]⟩⟩, a, .stmts b, c, (3 : Nat), ([] : List (Str × Nat)), .ref (265 : Nat), .none, .none, .str ⟨⟨[nat_lit 108, nat_lit 101, nat_lit 100, nat_lit 103, nat_lit 101, nat_lit 114, nat_lit 115, nat_lit 112, nat_lit 101, nat_lit 97, nat_lit 107, nat_lit 46, nat_lit 116, nat_lit 111, nat_lit 107, nat_lit 101, nat_lit 110, nat_lit 115]⟩⟩ (486 : Nat), (none : Option Nat), .ref (271 : Nat), .none, (0 : Nat)⟩, #[]⟩
noncomputable def hd.z273 : Params → Obj := fun P => ⟨.type PySem.W.SZ.s2766695959194262286x5, (none : Option Nat), .seq #[] (0 : Nat), #[]⟩
noncomputable def hd.z274 : Params → Obj := fun P => ⟨.none, (none : Option Nat), .fields #[], #[]⟩
noncomputable def hd.z275 : Params → Obj := fun P => ⟨.type PySem.W.SZ.s2766695959194262286x5, (none : Option Nat), .seq #[.str ⟨⟨[nat_lit 115, nat_lit 101, nat_lit 108, nat_lit 102]⟩⟩ (516 : Nat)] (0 : Nat), #[]⟩
noncomputable def hd.z276 : Params → Obj := fun P => ⟨.type PySem.W.SZ.s2766695959194262286x5, (none : Option Nat), .seq #[] (0 : Nat), #[]⟩
noncomputable def hd.z277 : Params → Obj := by
  refine' (?F : ∀ (a : Arguments) (b : List Stmt) (c : Scope), hd.fPar (hd.stAt (hd.inCls (hd.stAt hd.twB 12)) 1) = a → hd.fBod (hd.stAt (hd.inCls (hd.stAt hd.twB 12)) 1) = b → hd.fSco (hd.stAt (hd.inCls (hd.stAt hd.twB 12)) 1) = c → Params → Obj) _ _ _ ?h0 ?h1 ?h2
  case h0 => (conv => lhs; whnf) <;> rfl
  case h1 => (conv => lhs; whnf) <;> rfl
  case h2 => (conv => lhs; whnf) <;> rfl
  case F => exact fun a b c _ _ _ => fun P => ⟨.none, (none : Option Nat), .func ⟨⟨⟨[nat_lit 116, nat_lit 111, nat_lit 108, nat_lit 100]⟩⟩, ⟨⟨[nat_lit 84, nat_lit 111, nat_lit 107, nat_lit 101, nat_lit 110, nat_lit 46, nat_lit 116, nat_lit 111, nat_lit 108, nat_lit 100]⟩⟩, a, .stmts b, c, (0 : Nat), ([] : List (Str × Nat)), .none, .none, .none, .none, (none : Option Nat), .none, .none, (0 : Nat)⟩, #[]⟩
noncomputable def hd.z278 : Params → Obj := fun P => ⟨.type PySem.W.SZ.s5856160107412720595x4, (none : Option Nat), .fields #[.str ⟨⟨[nat_lit 116, nat_lit 111, nat_lit 108, nat_lit 100]⟩⟩ (513 : Nat), .str ⟨⟨[nat_lit 84, nat_lit 111, nat_lit 107, nat_lit 101, nat_lit 110, nat_lit 46, nat_lit 116, nat_lit 111, nat_lit 108, nat_lit 100]⟩⟩ (514 : Nat), .str ⟨⟨[nat_lit 47, nat_lit 99, nat_lit 108, nat_lit 97, nat_lit 105, nat_lit 109, nat_lit 47, nat_lit 99, nat_lit 117, nat_lit 116, nat_lit 46, nat_lit 112, nat_lit 121]⟩⟩ (515 : Nat), .int 142 (0 : Nat), .int 1 (0 : Nat), .int 0 (0 : Nat), .int 0 (0 : Nat), .int 3 (0 : Nat), .ref (273 : Nat), .bool true, .int 181 (0 : Nat), .ref (274 : Nat), .none, .ref (275 : Nat), .ref (276 : Nat), .ref (277 : Nat), .int 517 (0 : Nat), .int 142 (0 : Nat), .str ⟨⟨[nat_lit 47, nat_lit 99, nat_lit 108, nat_lit 97, nat_lit 105, nat_lit 109, nat_lit 47, nat_lit 99, nat_lit 117, nat_lit 116, nat_lit 46, nat_lit 112, nat_lit 121]⟩⟩ (518 : Nat)], #[]⟩
noncomputable def hd.z279 : Params → Obj := by
  refine' (?F : ∀ (a : Arguments) (b : List Stmt) (c : Scope), hd.fPar (hd.stAt (hd.inCls (hd.stAt hd.twB 12)) 1) = a → hd.fBod (hd.stAt (hd.inCls (hd.stAt hd.twB 12)) 1) = b → hd.fSco (hd.stAt (hd.inCls (hd.stAt hd.twB 12)) 1) = c → Params → Obj) _ _ _ ?h0 ?h1 ?h2
  case h0 => (conv => lhs; whnf) <;> rfl
  case h1 => (conv => lhs; whnf) <;> rfl
  case h2 => (conv => lhs; whnf) <;> rfl
  case F => exact fun a b c _ _ _ => fun P => ⟨.type PySem.W.SZ.s7174869446012820540x8, (none : Option Nat), .func ⟨⟨⟨[nat_lit 116, nat_lit 111, nat_lit 108, nat_lit 100]⟩⟩, ⟨⟨[nat_lit 84, nat_lit 111, nat_lit 107, nat_lit 101, nat_lit 110, nat_lit 46, nat_lit 116, nat_lit 111, nat_lit 108, nat_lit 100]⟩⟩, a, .stmts b, c, (3 : Nat), ([] : List (Str × Nat)), .none, .none, .none, .str ⟨⟨[nat_lit 108, nat_lit 101, nat_lit 100, nat_lit 103, nat_lit 101, nat_lit 114, nat_lit 115, nat_lit 112, nat_lit 101, nat_lit 97, nat_lit 107, nat_lit 46, nat_lit 116, nat_lit 111, nat_lit 107, nat_lit 101, nat_lit 110, nat_lit 115]⟩⟩ (486 : Nat), (none : Option Nat), .ref (278 : Nat), .none, (0 : Nat)⟩, #[]⟩
noncomputable def hd.z280 : Params → Obj := fun P => ⟨.type PySem.W.SZ.s2766695959194262286x5, (none : Option Nat), .seq #[.str ⟨⟨[nat_lit 97, nat_lit 116]⟩⟩ (520 : Nat), .str ⟨⟨[nat_lit 105, nat_lit 115, nat_lit 95, nat_lit 105, nat_lit 110, nat_lit 95, nat_lit 97]⟩⟩ (521 : Nat), .str ⟨⟨[nat_lit 107, nat_lit 105, nat_lit 110, nat_lit 100]⟩⟩ (522 : Nat), .str ⟨⟨[nat_lit 119, nat_lit 111, nat_lit 114, nat_lit 116, nat_lit 104]⟩⟩ (523 : Nat)] (0 : Nat), #[]⟩
noncomputable def hd.z281 : Params → Obj := fun P => ⟨.type PySem.W.SZ.s14018661285674007319x4, (none : Option Nat), .dict #[⟨PySem.PyData.keyHash P ⟨⟨[nat_lit 95, nat_lit 95, nat_lit 109, nat_lit 111, nat_lit 100, nat_lit 117, nat_lit 108, nat_lit 101, nat_lit 95, nat_lit 95]⟩⟩, .str ⟨⟨[nat_lit 95, nat_lit 95, nat_lit 109, nat_lit 111, nat_lit 100, nat_lit 117, nat_lit 108, nat_lit 101, nat_lit 95, nat_lit 95]⟩⟩ (495 : Nat), .str ⟨⟨[nat_lit 108, nat_lit 101, nat_lit 100, nat_lit 103, nat_lit 101, nat_lit 114, nat_lit 115, nat_lit 112, nat_lit 101, nat_lit 97, nat_lit 107, nat_lit 46, nat_lit 116, nat_lit 111, nat_lit 107, nat_lit 101, nat_lit 110, nat_lit 115]⟩⟩ (486 : Nat)⟩, ⟨PySem.PyData.keyHash P ⟨⟨[nat_lit 95, nat_lit 95, nat_lit 102, nat_lit 105, nat_lit 114, nat_lit 115, nat_lit 116, nat_lit 108, nat_lit 105, nat_lit 110, nat_lit 101, nat_lit 110, nat_lit 111, nat_lit 95, nat_lit 95]⟩⟩, .str ⟨⟨[nat_lit 95, nat_lit 95, nat_lit 102, nat_lit 105, nat_lit 114, nat_lit 115, nat_lit 116, nat_lit 108, nat_lit 105, nat_lit 110, nat_lit 101, nat_lit 110, nat_lit 111, nat_lit 95, nat_lit 95]⟩⟩ (499 : Nat), .int 134 (498 : Nat)⟩, ⟨PySem.PyData.keyHash P ⟨⟨[nat_lit 95, nat_lit 95, nat_lit 105, nat_lit 110, nat_lit 105, nat_lit 116, nat_lit 95, nat_lit 95]⟩⟩, .str ⟨⟨[nat_lit 95, nat_lit 95, nat_lit 105, nat_lit 110, nat_lit 105, nat_lit 116, nat_lit 95, nat_lit 95]⟩⟩ (512 : Nat), .ref (272 : Nat)⟩, ⟨PySem.PyData.keyHash P ⟨⟨[nat_lit 116, nat_lit 111, nat_lit 108, nat_lit 100]⟩⟩, .str ⟨⟨[nat_lit 116, nat_lit 111, nat_lit 108, nat_lit 100]⟩⟩ (519 : Nat), .ref (279 : Nat)⟩, ⟨PySem.PyData.keyHash P ⟨⟨[nat_lit 95, nat_lit 95, nat_lit 115, nat_lit 116, nat_lit 97, nat_lit 116, nat_lit 105, nat_lit 99, nat_lit 95, nat_lit 97, nat_lit 116, nat_lit 116, nat_lit 114, nat_lit 105, nat_lit 98, nat_lit 117, nat_lit 116, nat_lit 101, nat_lit 115, nat_lit 95, nat_lit 95]⟩⟩, .str ⟨⟨[nat_lit 95, nat_lit 95, nat_lit 115, nat_lit 116, nat_lit 97, nat_lit 116, nat_lit 105, nat_lit 99, nat_lit 95, nat_lit 97, nat_lit 116, nat_lit 116, nat_lit 114, nat_lit 105, nat_lit 98, nat_lit 117, nat_lit 116, nat_lit 101, nat_lit 115, nat_lit 95, nat_lit 95]⟩⟩ (524 : Nat), .ref (280 : Nat)⟩, ⟨PySem.PyData.keyHash P ⟨⟨[nat_lit 95, nat_lit 95, nat_lit 100, nat_lit 105, nat_lit 99, nat_lit 116, nat_lit 95, nat_lit 95]⟩⟩, .str ⟨⟨[nat_lit 95, nat_lit 95, nat_lit 100, nat_lit 105, nat_lit 99, nat_lit 116, nat_lit 95, nat_lit 95]⟩⟩ (526 : Nat), .ref (283 : Nat)⟩, ⟨PySem.PyData.keyHash P ⟨⟨[nat_lit 95, nat_lit 95, nat_lit 119, nat_lit 101, nat_lit 97, nat_lit 107, nat_lit 114, nat_lit 101, nat_lit 102, nat_lit 95, nat_lit 95]⟩⟩, .str ⟨⟨[nat_lit 95, nat_lit 95, nat_lit 119, nat_lit 101, nat_lit 97, nat_lit 107, nat_lit 114, nat_lit 101, nat_lit 102, nat_lit 95, nat_lit 95]⟩⟩ (528 : Nat), .ref (284 : Nat)⟩, ⟨PySem.PyData.keyHash P ⟨⟨[nat_lit 95, nat_lit 95, nat_lit 100, nat_lit 111, nat_lit 99, nat_lit 95, nat_lit 95]⟩⟩, .str ⟨⟨[nat_lit 95, nat_lit 95, nat_lit 100, nat_lit 111, nat_lit 99, nat_lit 95, nat_lit 95]⟩⟩ (529 : Nat), .none⟩] (4 : Nat), #[]⟩
noncomputable def hd.z282 : Params → Obj := fun P => ⟨.type PySem.W.SZ.s17162191345867700912x4, (none : Option Nat), .cls ⟨⟨⟨[nat_lit 84, nat_lit 111, nat_lit 107, nat_lit 101, nat_lit 110]⟩⟩, [.type PySem.W.SZ.s2742458400755230247x6], [.ref (282 : Nat), .type PySem.W.SZ.s2742458400755230247x6], (281 : Nat), ⟨⟨[nat_lit 84, nat_lit 111, nat_lit 107, nat_lit 101, nat_lit 110]⟩⟩, true, [], [], false, none, false⟩, #[none, none, Option.some (.str ⟨⟨[nat_lit 84, nat_lit 111, nat_lit 107, nat_lit 101, nat_lit 110]⟩⟩ (488 : Nat)), Option.some (.str ⟨⟨[nat_lit 84, nat_lit 111, nat_lit 107, nat_lit 101, nat_lit 110]⟩⟩ (496 : Nat)), Option.some (.builtin PySem.W.SZ.s11443829558043349243x14), Option.some (.bool true)]⟩
noncomputable def hd.z283 : Params → Obj := fun P => ⟨.type PySem.W.SZ.s14755015743595814543x17, (none : Option Nat), .fields #[.str ⟨⟨[nat_lit 95, nat_lit 95, nat_lit 100, nat_lit 105, nat_lit 99, nat_lit 116, nat_lit 95, nat_lit 95]⟩⟩ (525 : Nat), .ref (282 : Nat), .builtin PySem.W.SZ.s6511155373996960695x17, .builtin PySem.W.SZ.s12411053484034534018x21], #[]⟩
noncomputable def hd.z284 : Params → Obj := fun P => ⟨.type PySem.W.SZ.s14755015743595814543x17, (none : Option Nat), .fields #[.str ⟨⟨[nat_lit 95, nat_lit 95, nat_lit 119, nat_lit 101, nat_lit 97, nat_lit 107, nat_lit 114, nat_lit 101, nat_lit 102, nat_lit 95, nat_lit 95]⟩⟩ (527 : Nat), .ref (282 : Nat), .builtin PySem.W.SZ.s10220274742760427390x26, .none], #[]⟩
noncomputable def hd.x285 : Params → Obj := fun P => ⟨.type PySem.W.SL.s4290257624100764138x5, (none : Option Nat), .fields #[.ref (282 : Nat), .ref (282 : Nat), .ref (282 : Nat)], #[]⟩
noncomputable def hd.x286 : Params → Obj := fun P => ⟨.type PySem.W.SL.s11030030927630378310x26, (none : Option Nat), .fields #[.builtin PySem.W.SL.s4860613602091757760x24, .ref (282 : Nat)], #[]⟩
noncomputable def hd.z287 : Params → Obj := fun P => ⟨.type PySem.W.SZ.s2766695959194262286x5, (none : Option Nat), .seq #[] (0 : Nat), #[]⟩
noncomputable def hd.z288 : Params → Obj := fun P => ⟨.none, (none : Option Nat), .fields #[], #[]⟩
noncomputable def hd.z289 : Params → Obj := fun P => ⟨.type PySem.W.SZ.s2766695959194262286x5, (none : Option Nat), .seq #[.str ⟨⟨[nat_lit 114, nat_lit 111, nat_lit 119]⟩⟩ (537 : Nat), .str ⟨⟨[nat_lit 115, nat_lit 101, nat_lit 101, nat_lit 100]⟩⟩ (538 : Nat), .str ⟨⟨[nat_lit 119, nat_lit 111, nat_lit 114, nat_lit 100, nat_lit 115]⟩⟩ (539 : Nat)] (0 : Nat), #[]⟩
noncomputable def hd.z290 : Params → Obj := fun P => ⟨.type PySem.W.SZ.s2766695959194262286x5, (none : Option Nat), .seq #[] (0 : Nat), #[]⟩
noncomputable def hd.z291 : Params → Obj := by
  refine' (?F : ∀ (a : Arguments) (b : List Stmt) (c : Scope), hd.fPar (hd.stAt hd.twB 14) = a → hd.fBod (hd.stAt hd.twB 14) = b → hd.fSco (hd.stAt hd.twB 14) = c → Params → Obj) _ _ _ ?h0 ?h1 ?h2
  case h0 => (conv => lhs; whnf) <;> rfl
  case h1 => (conv => lhs; whnf) <;> rfl
  case h2 => (conv => lhs; whnf) <;> rfl
  case F => exact fun a b c _ _ _ => fun P => ⟨.none, (none : Option Nat), .func ⟨⟨⟨[nat_lit 95, nat_lit 108, nat_lit 97, nat_lit 119, nat_lit 95, nat_lit 112, nat_lit 104, nat_lit 114, nat_lit 97, nat_lit 115, nat_lit 101]⟩⟩, ⟨⟨[nat_lit 95, nat_lit 108, nat_lit 97, nat_lit 119, nat_lit 95, nat_lit 112, nat_lit 104, nat_lit 114, nat_lit 97, nat_lit 115, nat_lit 101]⟩⟩, a, .stmts b, c, (0 : Nat), ([] : List (Str × Nat)), .none, .none, .none, .none, (none : Option Nat), .none, .none, (0 : Nat)⟩, #[]⟩
noncomputable def hd.z292 : Params → Obj := fun P => ⟨.type PySem.W.SZ.s5856160107412720595x4, (none : Option Nat), .fields #[.str ⟨⟨[nat_lit 95, nat_lit 108, nat_lit 97, nat_lit 119, nat_lit 95, nat_lit 112, nat_lit 104, nat_lit 114, nat_lit 97, nat_lit 115, nat_lit 101]⟩⟩ (534 : Nat), .str ⟨⟨[nat_lit 95, nat_lit 108, nat_lit 97, nat_lit 119, nat_lit 95, nat_lit 112, nat_lit 104, nat_lit 114, nat_lit 97, nat_lit 115, nat_lit 101]⟩⟩ (535 : Nat), .str ⟨⟨[nat_lit 47, nat_lit 99, nat_lit 108, nat_lit 97, nat_lit 105, nat_lit 109, nat_lit 47, nat_lit 99, nat_lit 117, nat_lit 116, nat_lit 46, nat_lit 112, nat_lit 121]⟩⟩ (536 : Nat), .int 145 (0 : Nat), .int 2 (0 : Nat), .int 0 (0 : Nat), .int 0 (0 : Nat), .int 3 (0 : Nat), .ref (287 : Nat), .bool true, .int 181 (0 : Nat), .ref (288 : Nat), .none, .ref (289 : Nat), .ref (290 : Nat), .ref (291 : Nat), .int 540 (0 : Nat), .int 145 (0 : Nat), .str ⟨⟨[nat_lit 47, nat_lit 99, nat_lit 108, nat_lit 97, nat_lit 105, nat_lit 109, nat_lit 47, nat_lit 99, nat_lit 117, nat_lit 116, nat_lit 46, nat_lit 112, nat_lit 121]⟩⟩ (541 : Nat)], #[]⟩
noncomputable def hd.z293 : Params → Obj := by
  refine' (?F : ∀ (a : Arguments) (b : List Stmt) (c : Scope), hd.fPar (hd.stAt hd.twB 14) = a → hd.fBod (hd.stAt hd.twB 14) = b → hd.fSco (hd.stAt hd.twB 14) = c → Params → Obj) _ _ _ ?h0 ?h1 ?h2
  case h0 => (conv => lhs; whnf) <;> rfl
  case h1 => (conv => lhs; whnf) <;> rfl
  case h2 => (conv => lhs; whnf) <;> rfl
  case F => exact fun a b c _ _ _ => fun P => ⟨.type PySem.W.SZ.s7174869446012820540x8, (none : Option Nat), .func ⟨⟨⟨[nat_lit 95, nat_lit 108, nat_lit 97, nat_lit 119, nat_lit 95, nat_lit 112, nat_lit 104, nat_lit 114, nat_lit 97, nat_lit 115, nat_lit 101]⟩⟩, ⟨⟨[nat_lit 95, nat_lit 108, nat_lit 97, nat_lit 119, nat_lit 95, nat_lit 112, nat_lit 104, nat_lit 114, nat_lit 97, nat_lit 115, nat_lit 101]⟩⟩, a, .stmts b, c, (3 : Nat), ([] : List (Str × Nat)), .none, .none, .none, .str ⟨⟨[nat_lit 108, nat_lit 97, nat_lit 119, nat_lit 95, nat_lit 112, nat_lit 98, nat_lit 48, nat_lit 50, nat_lit 53, nat_lit 48, nat_lit 95, nat_lit 48, nat_lit 49]⟩⟩ (532 : Nat), (none : Option Nat), .ref (292 : Nat), .none, (0 : Nat)⟩, #[]⟩
noncomputable def hd.z294 : Params → Obj := fun P => ⟨.type PySem.W.SZ.s2766695959194262286x5, (none : Option Nat), .seq #[] (0 : Nat), #[]⟩
noncomputable def hd.z295 : Params → Obj := fun P => ⟨.none, (none : Option Nat), .fields #[], #[]⟩
noncomputable def hd.z296 : Params → Obj := by
  refine' (?F : ∀ (a : Arguments) (b : List Stmt) (c : Scope), hd.fPar (hd.stAt hd.twB 15) = a → hd.fBod (hd.stAt hd.twB 15) = b → hd.fSco (hd.stAt hd.twB 15) = c → Params → Obj) _ _ _ ?h0 ?h1 ?h2
  case h0 => (conv => lhs; whnf) <;> rfl
  case h1 => (conv => lhs; whnf) <;> rfl
  case h2 => (conv => lhs; whnf) <;> rfl
  case F => exact fun a b c _ _ _ => fun P => ⟨.none, (none : Option Nat), .func ⟨⟨⟨[nat_lit 95, nat_lit 108, nat_lit 97, nat_lit 119, nat_lit 95, nat_lit 114, nat_lit 101, nat_lit 97, nat_lit 100]⟩⟩, ⟨⟨[nat_lit 95, nat_lit 108, nat_lit 97, nat_lit 119, nat_lit 95, nat_lit 114, nat_lit 101, nat_lit 97, nat_lit 100]⟩⟩, a, .stmts b, c, (0 : Nat), ([] : List (Str × Nat)), .none, .none, .none, .none, (none : Option Nat), .none, .none, (0 : Nat)⟩, #[]⟩
noncomputable def hd.z297 : Params → Obj := fun P => ⟨.type PySem.W.SZ.s5856160107412720595x4, (none : Option Nat), .fields #[.str ⟨⟨[nat_lit 95, nat_lit 108, nat_lit 97, nat_lit 119, nat_lit 95, nat_lit 114, nat_lit 101, nat_lit 97, nat_lit 100]⟩⟩ (543 : Nat), .str ⟨⟨[nat_lit 95, nat_lit 108, nat_lit 97, nat_lit 119, nat_lit 95, nat_lit 114, nat_lit 101, nat_lit 97, nat_lit 100]⟩⟩ (544 : Nat), .str ⟨⟨[nat_lit 47, nat_lit 99, nat_lit 108, nat_lit 97, nat_lit 105, nat_lit 109, nat_lit 47, nat_lit 99, nat_lit 117, nat_lit 116, nat_lit 46, nat_lit 112, nat_lit 121]⟩⟩ (545 : Nat), .int 149 (0 : Nat), .int 2 (0 : Nat), .int 0 (0 : Nat), .int 0 (0 : Nat), .int 3 (0 : Nat), .ref (294 : Nat), .bool true, .int 181 (0 : Nat), .ref (295 : Nat), .none, .none, .none, .ref (296 : Nat), .int 546 (0 : Nat), .int 149 (0 : Nat), .str ⟨⟨[nat_lit 47, nat_lit 99, nat_lit 108, nat_lit 97, nat_lit 105, nat_lit 109, nat_lit 47, nat_lit 99, nat_lit 117, nat_lit 116, nat_lit 46, nat_lit 112, nat_lit 121]⟩⟩ (547 : Nat)], #[]⟩
noncomputable def hd.z298 : Params → Obj := by
  refine' (?F : ∀ (a : Arguments) (b : List Stmt) (c : Scope), hd.fPar (hd.stAt hd.twB 15) = a → hd.fBod (hd.stAt hd.twB 15) = b → hd.fSco (hd.stAt hd.twB 15) = c → Params → Obj) _ _ _ ?h0 ?h1 ?h2
  case h0 => (conv => lhs; whnf) <;> rfl
  case h1 => (conv => lhs; whnf) <;> rfl
  case h2 => (conv => lhs; whnf) <;> rfl
  case F => exact fun a b c _ _ _ => fun P => ⟨.type PySem.W.SZ.s7174869446012820540x8, (none : Option Nat), .func ⟨⟨⟨[nat_lit 95, nat_lit 108, nat_lit 97, nat_lit 119, nat_lit 95, nat_lit 114, nat_lit 101, nat_lit 97, nat_lit 100]⟩⟩, ⟨⟨[nat_lit 95, nat_lit 108, nat_lit 97, nat_lit 119, nat_lit 95, nat_lit 114, nat_lit 101, nat_lit 97, nat_lit 100]⟩⟩, a, .stmts b, c, (3 : Nat), ([] : List (Str × Nat)), .none, .none, .none, .str ⟨⟨[nat_lit 108, nat_lit 97, nat_lit 119, nat_lit 95, nat_lit 112, nat_lit 98, nat_lit 48, nat_lit 50, nat_lit 53, nat_lit 48, nat_lit 95, nat_lit 48, nat_lit 49]⟩⟩ (532 : Nat), (none : Option Nat), .ref (297 : Nat), .none, (0 : Nat)⟩, #[]⟩
noncomputable def hd.z299 : Params → Obj := fun P => ⟨.type PySem.W.SZ.s2766695959194262286x5, (none : Option Nat), .seq #[] (0 : Nat), #[]⟩
noncomputable def hd.z300 : Params → Obj := fun P => ⟨.none, (none : Option Nat), .fields #[], #[]⟩
noncomputable def hd.z301 : Params → Obj := by
  refine' (?F : ∀ (a : Arguments) (b : List Stmt) (c : Scope), hd.fPar (hd.stAt hd.twB 16) = a → hd.fBod (hd.stAt hd.twB 16) = b → hd.fSco (hd.stAt hd.twB 16) = c → Params → Obj) _ _ _ ?h0 ?h1 ?h2
  case h0 => (conv => lhs; whnf) <;> rfl
  case h1 => (conv => lhs; whnf) <;> rfl
  case h2 => (conv => lhs; whnf) <;> rfl
  case F => exact fun a b c _ _ _ => fun P => ⟨.none, (none : Option Nat), .func ⟨⟨⟨[nat_lit 108, nat_lit 97, nat_lit 119]⟩⟩, ⟨⟨[nat_lit 108, nat_lit 97, nat_lit 119]⟩⟩, a, .stmts b, c, (0 : Nat), ([] : List (Str × Nat)), .none, .none, .none, .none, (none : Option Nat), .none, .none, (0 : Nat)⟩, #[]⟩
noncomputable def hd.z302 : Params → Obj := fun P => ⟨.type PySem.W.SZ.s5856160107412720595x4, (none : Option Nat), .fields #[.str ⟨⟨[nat_lit 108, nat_lit 97, nat_lit 119]⟩⟩ (549 : Nat), .str ⟨⟨[nat_lit 108, nat_lit 97, nat_lit 119]⟩⟩ (550 : Nat), .str ⟨⟨[nat_lit 47, nat_lit 99, nat_lit 108, nat_lit 97, nat_lit 105, nat_lit 109, nat_lit 47, nat_lit 99, nat_lit 117, nat_lit 116, nat_lit 46, nat_lit 112, nat_lit 121]⟩⟩ (551 : Nat), .int 152 (0 : Nat), .int 1 (0 : Nat), .int 0 (0 : Nat), .int 0 (0 : Nat), .int 3 (0 : Nat), .ref (299 : Nat), .bool true, .int 181 (0 : Nat), .ref (300 : Nat), .none, .none, .none, .ref (301 : Nat), .int 552 (0 : Nat), .int 152 (0 : Nat), .str ⟨⟨[nat_lit 47, nat_lit 99, nat_lit 108, nat_lit 97, nat_lit 105, nat_lit 109, nat_lit 47, nat_lit 99, nat_lit 117, nat_lit 116, nat_lit 46, nat_lit 112, nat_lit 121]⟩⟩ (553 : Nat)], #[]⟩
noncomputable def hd.z303 : Params → Obj := by
  refine' (?F : ∀ (a : Arguments) (b : List Stmt) (c : Scope), hd.fPar (hd.stAt hd.twB 16) = a → hd.fBod (hd.stAt hd.twB 16) = b → hd.fSco (hd.stAt hd.twB 16) = c → Params → Obj) _ _ _ ?h0 ?h1 ?h2
  case h0 => (conv => lhs; whnf) <;> rfl
  case h1 => (conv => lhs; whnf) <;> rfl
  case h2 => (conv => lhs; whnf) <;> rfl
  case F => exact fun a b c _ _ _ => fun P => ⟨.type PySem.W.SZ.s7174869446012820540x8, (none : Option Nat), .func ⟨⟨⟨[nat_lit 108, nat_lit 97, nat_lit 119]⟩⟩, ⟨⟨[nat_lit 108, nat_lit 97, nat_lit 119]⟩⟩, a, .stmts b, c, (3 : Nat), ([] : List (Str × Nat)), .none, .none, .none, .str ⟨⟨[nat_lit 108, nat_lit 97, nat_lit 119, nat_lit 95, nat_lit 112, nat_lit 98, nat_lit 48, nat_lit 50, nat_lit 53, nat_lit 48, nat_lit 95, nat_lit 48, nat_lit 49]⟩⟩ (532 : Nat), (none : Option Nat), .ref (302 : Nat), .none, (0 : Nat)⟩, #[]⟩
noncomputable def hd.y11 : Params → Obj := fun P => ⟨.type PySem.W.SL.s2766695959194262286x5, (none : Option Nat), .seq #[] (0 : Nat), #[]⟩
noncomputable def hd.y12 : Params → Obj := fun P => ⟨.none, (none : Option Nat), .fields #[], #[]⟩
noncomputable def hd.y13 : Params → Obj := fun P => ⟨.type PySem.W.SL.s5856160107412720595x4, (none : Option Nat), .fields #[.str ⟨⟨[nat_lit 60, nat_lit 109, nat_lit 111, nat_lit 100, nat_lit 117, nat_lit 108, nat_lit 101, nat_lit 62]⟩⟩ (182 : Nat), .str ⟨⟨[nat_lit 60, nat_lit 109, nat_lit 111, nat_lit 100, nat_lit 117, nat_lit 108, nat_lit 101, nat_lit 62]⟩⟩ (183 : Nat), .str ⟨⟨[nat_lit 47, nat_lit 99, nat_lit 108, nat_lit 97, nat_lit 105, nat_lit 109, nat_lit 47, nat_lit 99, nat_lit 117, nat_lit 116, nat_lit 46, nat_lit 112, nat_lit 121]⟩⟩ (184 : Nat), .int 1 (0 : Nat), .int 0 (0 : Nat), .int 0 (0 : Nat), .int 0 (0 : Nat), .int 0 (0 : Nat), .ref (11 : Nat), .bool false, .int 181 (0 : Nat), .ref (12 : Nat), .none, .none, .none, .none, .int 185 (0 : Nat), .int 1 (0 : Nat), .str ⟨⟨[nat_lit 47, nat_lit 99, nat_lit 108, nat_lit 97, nat_lit 105, nat_lit 109, nat_lit 47, nat_lit 99, nat_lit 117, nat_lit 116, nat_lit 46, nat_lit 112, nat_lit 121]⟩⟩ (186 : Nat)], #[]⟩
noncomputable def hd.y14 : Params → Obj := fun P => ⟨.type PySem.W.SL.s658472552662922059x5, (none : Option Nat), .plain, #[Option.some (.ref (13 : Nat)), Option.some (.ref (3 : Nat)), Option.some (.ref (3 : Nat)), none, Option.some (.str ⟨⟨[nat_lit 95, nat_lit 95, nat_lit 109, nat_lit 97, nat_lit 105, nat_lit 110, nat_lit 95, nat_lit 95]⟩⟩ (164 : Nat)), none, Option.some (.ref (0 : Nat))]⟩
noncomputable def hd.heapA : Params → Heap := fun P => ⟨⟨[PySem.W.boot_o_0 P, PySem.W.boot_o_1 P, PySem.W.boot_o_2 P, PySem.W.boot_o_3 P, PySem.W.boot_o_4 P, PySem.W.boot_o_5 P, PySem.W.boot_o_6 P, PySem.W.boot_o_7 P, PySem.W.boot_o_8 P, PySem.W.boot_o_9 P, PySem.W.boot_o_10 P, hd.y11 P, hd.y12 P, hd.y13 P, hd.y14 P]⟩, {}⟩
noncomputable def hd.treeA : Params → BT := fun P => (.node (PySem.W.boot_o_0 P) (.node (PySem.W.boot_o_1 P) (.node (PySem.W.boot_o_3 P) (.node (PySem.W.boot_o_7 P) .nil .nil) (.node (hd.y11 P) .nil .nil)) (.node (PySem.W.boot_o_5 P) (.node (PySem.W.boot_o_9 P) .nil .nil) (.node (hd.y13 P) .nil .nil))) (.node (PySem.W.boot_o_2 P) (.node (PySem.W.boot_o_4 P) (.node (PySem.W.boot_o_8 P) .nil .nil) (.node (hd.y12 P) .nil .nil)) (.node (PySem.W.boot_o_6 P) (.node (PySem.W.boot_o_10 P) .nil .nil) (.node (hd.y14 P) .nil .nil))))
noncomputable def hd.heap_270 : Params → Frag := fun P => (nat_lit 0, hd.z0 P) :: (nat_lit 1, hd.z1 P) :: (nat_lit 2, hd.z2 P) :: (nat_lit 3, hd.z3 P) :: (nat_lit 4, hd.z4 P) :: (nat_lit 5, hd.z5 P) :: (nat_lit 6, hd.z6 P) :: (nat_lit 7, hd.z7 P) :: (nat_lit 8, hd.z8 P) :: (nat_lit 9, hd.z9 P) :: (nat_lit 10, hd.z10 P) :: (nat_lit 11, hd.z11 P) :: (nat_lit 12, hd.z12 P) :: (nat_lit 13, hd.z13 P) :: (nat_lit 14, hd.z14 P) :: (nat_lit 15, hd.z15 P) :: (nat_lit 16, hd.z16 P) :: (nat_lit 17, hd.z17 P) :: (nat_lit 18, hd.z18 P) :: (nat_lit 19, hd.z19 P) :: (nat_lit 20, hd.z20 P) :: (nat_lit 21, hd.z21 P) :: (nat_lit 22, hd.z22 P) :: (nat_lit 23, hd.z23 P) :: (nat_lit 24, hd.z24 P) :: (nat_lit 25, hd.z25 P) :: (nat_lit 26, hd.z26 P) :: (nat_lit 27, hd.z27 P) :: (nat_lit 28, hd.z28 P) :: (nat_lit 29, hd.z29 P) :: (nat_lit 30, hd.z30 P) :: (nat_lit 31, hd.z31 P) :: (nat_lit 32, hd.z32 P) :: (nat_lit 33, hd.z33 P) :: (nat_lit 34, hd.z34 P) :: (nat_lit 35, hd.z35 P) :: (nat_lit 36, hd.z36 P) :: (nat_lit 43, hd.z43 P) :: (nat_lit 44, hd.z44 P) :: (nat_lit 45, hd.z45 P) :: (nat_lit 46, hd.z46 P) :: (nat_lit 47, hd.z47 P) :: (nat_lit 48, hd.z48 P) :: (nat_lit 49, hd.z49 P) :: (nat_lit 50, hd.z50 P) :: (nat_lit 51, hd.z51 P) :: (nat_lit 52, hd.z52 P) :: (nat_lit 53, hd.z53 P) :: (nat_lit 54, hd.z54 P) :: (nat_lit 55, hd.z55 P) :: (nat_lit 56, hd.z56 P) :: (nat_lit 57, hd.z57 P) :: (nat_lit 58, hd.z58 P) :: (nat_lit 59, hd.z59 P) :: (nat_lit 60, hd.z60 P) :: (nat_lit 61, hd.z61 P) :: (nat_lit 62, hd.z62 P) :: (nat_lit 65, hd.z65 P) :: (nat_lit 72, hd.z72 P) :: (nat_lit 73, hd.z73 P) :: (nat_lit 74, hd.z74 P) :: (nat_lit 77, hd.z77 P) :: (nat_lit 78, hd.z78 P) :: (nat_lit 79, hd.z79 P) :: (nat_lit 80, hd.z80 P) :: (nat_lit 81, hd.z81 P) :: (nat_lit 82, hd.z82 P) :: (nat_lit 83, hd.z83 P) :: (nat_lit 91, hd.z91 P) :: (nat_lit 92, hd.z92 P) :: (nat_lit 93, hd.z93 P) :: (nat_lit 94, hd.z94 P) :: (nat_lit 95, hd.z95 P) :: (nat_lit 96, hd.z96 P) :: (nat_lit 97, hd.z97 P) :: (nat_lit 98, hd.z98 P) :: (nat_lit 99, hd.z99 P) :: (nat_lit 100, hd.z100 P) :: (nat_lit 101, hd.z101 P) :: (nat_lit 102, hd.z102 P) :: (nat_lit 103, hd.z103 P) :: (nat_lit 104, hd.z104 P) :: (nat_lit 105, hd.z105 P) :: (nat_lit 106, hd.z106 P) :: (nat_lit 107, hd.z107 P) :: (nat_lit 108, hd.z108 P) :: (nat_lit 109, hd.z109 P) :: (nat_lit 110, hd.z110 P) :: (nat_lit 111, hd.z111 P) :: (nat_lit 112, hd.z112 P) :: (nat_lit 113, hd.z113 P) :: (nat_lit 114, hd.z114 P) :: (nat_lit 115, hd.z115 P) :: (nat_lit 116, hd.z116 P) :: (nat_lit 117, hd.z117 P) :: (nat_lit 118, hd.z118 P) :: (nat_lit 119, hd.z119 P) :: (nat_lit 120, hd.z120 P) :: (nat_lit 121, hd.z121 P) :: (nat_lit 122, hd.z122 P) :: (nat_lit 123, hd.z123 P) :: (nat_lit 124, hd.z124 P) :: (nat_lit 125, hd.z125 P) :: (nat_lit 126, hd.z126 P) :: (nat_lit 127, hd.z127 P) :: (nat_lit 128, hd.z128 P) :: (nat_lit 129, hd.z129 P) :: (nat_lit 130, hd.z130 P) :: (nat_lit 131, hd.z131 P) :: (nat_lit 132, hd.z132 P) :: (nat_lit 133, hd.z133 P) :: (nat_lit 134, hd.z134 P) :: (nat_lit 135, hd.z135 P) :: (nat_lit 136, hd.z136 P) :: (nat_lit 137, hd.z137 P) :: (nat_lit 138, hd.z138 P) :: (nat_lit 139, hd.z139 P) :: (nat_lit 140, hd.z140 P) :: (nat_lit 141, hd.z141 P) :: (nat_lit 142, hd.z142 P) :: (nat_lit 143, hd.z143 P) :: (nat_lit 144, hd.z144 P) :: (nat_lit 145, hd.z145 P) :: (nat_lit 146, hd.z146 P) :: (nat_lit 147, hd.z147 P) :: (nat_lit 148, hd.z148 P) :: (nat_lit 149, hd.z149 P) :: (nat_lit 150, hd.z150 P) :: (nat_lit 151, hd.z151 P) :: (nat_lit 152, hd.z152 P) :: (nat_lit 153, hd.z153 P) :: (nat_lit 154, hd.z154 P) :: (nat_lit 155, hd.z155 P) :: (nat_lit 156, hd.z156 P) :: (nat_lit 157, hd.z157 P) :: (nat_lit 158, hd.z158 P) :: (nat_lit 159, hd.z159 P) :: (nat_lit 160, hd.z160 P) :: (nat_lit 161, hd.z161 P) :: (nat_lit 162, hd.z162 P) :: (nat_lit 163, hd.z163 P) :: (nat_lit 164, hd.z164 P) :: (nat_lit 165, hd.z165 P) :: (nat_lit 166, hd.z166 P) :: (nat_lit 167, hd.z167 P) :: (nat_lit 168, hd.z168 P) :: (nat_lit 169, hd.z169 P) :: (nat_lit 170, hd.z170 P) :: (nat_lit 171, hd.z171 P) :: (nat_lit 172, hd.z172 P) :: (nat_lit 173, hd.z173 P) :: (nat_lit 174, hd.z174 P) :: (nat_lit 175, hd.z175 P) :: (nat_lit 176, hd.z176 P) :: (nat_lit 177, hd.z177 P) :: (nat_lit 178, hd.z178 P) :: (nat_lit 179, hd.z179 P) :: (nat_lit 180, hd.z180 P) :: (nat_lit 181, hd.z181 P) :: (nat_lit 182, hd.z182 P) :: (nat_lit 183, hd.z183 P) :: (nat_lit 184, hd.z184 P) :: (nat_lit 185, hd.z185 P) :: (nat_lit 186, hd.z186 P) :: (nat_lit 187, hd.z187 P) :: (nat_lit 188, hd.z188 P) :: (nat_lit 189, hd.z189 P) :: (nat_lit 190, hd.z190 P) :: (nat_lit 191, hd.z191 P) :: (nat_lit 192, hd.z192 P) :: (nat_lit 193, hd.z193 P) :: (nat_lit 194, hd.z194 P) :: (nat_lit 195, hd.z195 P) :: (nat_lit 196, hd.z196 P) :: (nat_lit 197, hd.z197 P) :: (nat_lit 198, hd.z198 P) :: (nat_lit 199, hd.z199 P) :: (nat_lit 200, hd.z200 P) :: (nat_lit 201, hd.z201 P) :: (nat_lit 202, hd.z202 P) :: (nat_lit 203, hd.z203 P) :: (nat_lit 204, hd.z204 P) :: (nat_lit 205, hd.z205 P) :: (nat_lit 206, hd.z206 P) :: (nat_lit 207, hd.z207 P) :: (nat_lit 208, hd.z208 P) :: (nat_lit 209, hd.z209 P) :: (nat_lit 210, hd.z210 P) :: (nat_lit 211, hd.z211 P) :: (nat_lit 212, hd.z212 P) :: (nat_lit 213, hd.z213 P) :: (nat_lit 214, hd.z214 P) :: (nat_lit 215, hd.z215 P) :: (nat_lit 216, hd.z216 P) :: (nat_lit 217, hd.z217 P) :: (nat_lit 218, hd.z218 P) :: (nat_lit 219, hd.z219 P) :: (nat_lit 220, hd.z220 P) :: (nat_lit 221, hd.z221 P) :: (nat_lit 222, hd.z222 P) :: (nat_lit 223, hd.z223 P) :: (nat_lit 224, hd.z224 P) :: (nat_lit 225, hd.z225 P) :: (nat_lit 226, hd.z226 P) :: (nat_lit 227, hd.z227 P) :: (nat_lit 228, hd.z228 P) :: (nat_lit 229, hd.z229 P) :: (nat_lit 230, hd.z230 P) :: (nat_lit 231, hd.z231 P) :: (nat_lit 232, hd.z232 P) :: (nat_lit 233, hd.z233 P) :: (nat_lit 234, hd.z234 P) :: (nat_lit 235, hd.z235 P) :: (nat_lit 236, hd.z236 P) :: (nat_lit 237, hd.z237 P) :: (nat_lit 238, hd.z238 P) :: (nat_lit 239, hd.z239 P) :: (nat_lit 240, hd.z240 P) :: (nat_lit 241, hd.z241 P) :: (nat_lit 242, hd.z242 P) :: (nat_lit 243, hd.z243 P) :: (nat_lit 244, hd.z244 P) :: (nat_lit 245, hd.z245 P) :: (nat_lit 246, hd.z246 P) :: (nat_lit 247, hd.z247 P) :: (nat_lit 248, hd.z248 P) :: (nat_lit 249, hd.z249 P) :: (nat_lit 250, hd.z250 P) :: (nat_lit 251, hd.z251 P) :: (nat_lit 252, hd.z252 P) :: (nat_lit 253, hd.z253 P) :: (nat_lit 254, hd.z254 P) :: (nat_lit 264, hd.z264 P) :: (nat_lit 265, hd.z265 P) :: (nat_lit 266, hd.z266 P) :: (nat_lit 267, hd.z267 P) :: (nat_lit 268, hd.z268 P) :: (nat_lit 269, hd.z269 P) :: (nat_lit 270, hd.z270 P) :: (nat_lit 271, hd.z271 P) :: (nat_lit 272, hd.z272 P) :: (nat_lit 273, hd.z273 P) :: (nat_lit 274, hd.z274 P) :: (nat_lit 275, hd.z275 P) :: (nat_lit 276, hd.z276 P) :: (nat_lit 277, hd.z277 P) :: (nat_lit 278, hd.z278 P) :: (nat_lit 279, hd.z279 P) :: (nat_lit 280, hd.z280 P) :: (nat_lit 281, hd.z281 P) :: (nat_lit 282, hd.z282 P) :: (nat_lit 283, hd.z283 P) :: (nat_lit 284, hd.z284 P) :: (nat_lit 287, hd.z287 P) :: (nat_lit 288, hd.z288 P) :: (nat_lit 289, hd.z289 P) :: (nat_lit 290, hd.z290 P) :: (nat_lit 291, hd.z291 P) :: (nat_lit 292, hd.z292 P) :: (nat_lit 293, hd.z293 P) :: (nat_lit 294, hd.z294 P) :: (nat_lit 295, hd.z295 P) :: (nat_lit 296, hd.z296 P) :: (nat_lit 297, hd.z297 P) :: (nat_lit 298, hd.z298 P) :: (nat_lit 299, hd.z299 P) :: (nat_lit 300, hd.z300 P) :: (nat_lit 301, hd.z301 P) :: (nat_lit 302, hd.z302 P) :: (nat_lit 303, hd.z303 P) :: []
noncomputable def hd.ads : List Nat := nat_lit 0 :: nat_lit 1 :: nat_lit 2 :: nat_lit 3 :: nat_lit 4 :: nat_lit 5 :: nat_lit 6 :: nat_lit 7 :: nat_lit 8 :: nat_lit 9 :: nat_lit 10 :: nat_lit 11 :: nat_lit 12 :: nat_lit 13 :: nat_lit 14 :: nat_lit 15 :: nat_lit 16 :: nat_lit 17 :: nat_lit 18 :: nat_lit 19 :: nat_lit 20 :: nat_lit 21 :: nat_lit 22 :: nat_lit 23 :: nat_lit 24 :: nat_lit 25 :: nat_lit 26 :: nat_lit 27 :: nat_lit 28 :: nat_lit 29 :: nat_lit 30 :: nat_lit 31 :: nat_lit 32 :: nat_lit 33 :: nat_lit 34 :: nat_lit 35 :: nat_lit 36 :: nat_lit 43 :: nat_lit 44 :: nat_lit 45 :: nat_lit 46 :: nat_lit 47 :: nat_lit 48 :: nat_lit 49 :: nat_lit 50 :: nat_lit 51 :: nat_lit 52 :: nat_lit 53 :: nat_lit 54 :: nat_lit 55 :: nat_lit 56 :: nat_lit 57 :: nat_lit 58 :: nat_lit 59 :: nat_lit 60 :: nat_lit 61 :: nat_lit 62 :: nat_lit 65 :: nat_lit 72 :: nat_lit 73 :: nat_lit 74 :: nat_lit 77 :: nat_lit 78 :: nat_lit 79 :: nat_lit 80 :: nat_lit 81 :: nat_lit 82 :: nat_lit 83 :: nat_lit 91 :: nat_lit 92 :: nat_lit 93 :: nat_lit 94 :: nat_lit 95 :: nat_lit 96 :: nat_lit 97 :: nat_lit 98 :: nat_lit 99 :: nat_lit 100 :: nat_lit 101 :: nat_lit 102 :: nat_lit 103 :: nat_lit 104 :: nat_lit 105 :: nat_lit 106 :: nat_lit 107 :: nat_lit 108 :: nat_lit 109 :: nat_lit 110 :: nat_lit 111 :: nat_lit 112 :: nat_lit 113 :: nat_lit 114 :: nat_lit 115 :: nat_lit 116 :: nat_lit 117 :: nat_lit 118 :: nat_lit 119 :: nat_lit 120 :: nat_lit 121 :: nat_lit 122 :: nat_lit 123 :: nat_lit 124 :: nat_lit 125 :: nat_lit 126 :: nat_lit 127 :: nat_lit 128 :: nat_lit 129 :: nat_lit 130 :: nat_lit 131 :: nat_lit 132 :: nat_lit 133 :: nat_lit 134 :: nat_lit 135 :: nat_lit 136 :: nat_lit 137 :: nat_lit 138 :: nat_lit 139 :: nat_lit 140 :: nat_lit 141 :: nat_lit 142 :: nat_lit 143 :: nat_lit 144 :: nat_lit 145 :: nat_lit 146 :: nat_lit 147 :: nat_lit 148 :: nat_lit 149 :: nat_lit 150 :: nat_lit 151 :: nat_lit 152 :: nat_lit 153 :: nat_lit 154 :: nat_lit 155 :: nat_lit 156 :: nat_lit 157 :: nat_lit 158 :: nat_lit 159 :: nat_lit 160 :: nat_lit 161 :: nat_lit 162 :: nat_lit 163 :: nat_lit 164 :: nat_lit 165 :: nat_lit 166 :: nat_lit 167 :: nat_lit 168 :: nat_lit 169 :: nat_lit 170 :: nat_lit 171 :: nat_lit 172 :: nat_lit 173 :: nat_lit 174 :: nat_lit 175 :: nat_lit 176 :: nat_lit 177 :: nat_lit 178 :: nat_lit 179 :: nat_lit 180 :: nat_lit 181 :: nat_lit 182 :: nat_lit 183 :: nat_lit 184 :: nat_lit 185 :: nat_lit 186 :: nat_lit 187 :: nat_lit 188 :: nat_lit 189 :: nat_lit 190 :: nat_lit 191 :: nat_lit 192 :: nat_lit 193 :: nat_lit 194 :: nat_lit 195 :: nat_lit 196 :: nat_lit 197 :: nat_lit 198 :: nat_lit 199 :: nat_lit 200 :: nat_lit 201 :: nat_lit 202 :: nat_lit 203 :: nat_lit 204 :: nat_lit 205 :: nat_lit 206 :: nat_lit 207 :: nat_lit 208 :: nat_lit 209 :: nat_lit 210 :: nat_lit 211 :: nat_lit 212 :: nat_lit 213 :: nat_lit 214 :: nat_lit 215 :: nat_lit 216 :: nat_lit 217 :: nat_lit 218 :: nat_lit 219 :: nat_lit 220 :: nat_lit 221 :: nat_lit 222 :: nat_lit 223 :: nat_lit 224 :: nat_lit 225 :: nat_lit 226 :: nat_lit 227 :: nat_lit 228 :: nat_lit 229 :: nat_lit 230 :: nat_lit 231 :: nat_lit 232 :: nat_lit 233 :: nat_lit 234 :: nat_lit 235 :: nat_lit 236 :: nat_lit 237 :: nat_lit 238 :: nat_lit 239 :: nat_lit 240 :: nat_lit 241 :: nat_lit 242 :: nat_lit 243 :: nat_lit 244 :: nat_lit 245 :: nat_lit 246 :: nat_lit 247 :: nat_lit 248 :: nat_lit 249 :: nat_lit 250 :: nat_lit 251 :: nat_lit 252 :: nat_lit 253 :: nat_lit 254 :: nat_lit 264 :: nat_lit 265 :: nat_lit 266 :: nat_lit 267 :: nat_lit 268 :: nat_lit 269 :: nat_lit 270 :: nat_lit 271 :: nat_lit 272 :: nat_lit 273 :: nat_lit 274 :: nat_lit 275 :: nat_lit 276 :: nat_lit 277 :: nat_lit 278 :: nat_lit 279 :: nat_lit 280 :: nat_lit 281 :: nat_lit 282 :: nat_lit 283 :: nat_lit 284 :: nat_lit 287 :: nat_lit 288 :: nat_lit 289 :: nat_lit 290 :: nat_lit 291 :: nat_lit 292 :: nat_lit 293 :: nat_lit 294 :: nat_lit 295 :: nat_lit 296 :: nat_lit 297 :: nat_lit 298 :: nat_lit 299 :: nat_lit 300 :: nat_lit 301 :: nat_lit 302 :: nat_lit 303 :: []
noncomputable def hd.heapF : Params → Heap := fun P => ⟨⟨PySem.W.boot_o_0 P :: PySem.W.boot_o_1 P :: hd.z2 P :: hd.z3 P :: PySem.W.boot_o_4 P :: PySem.W.boot_o_5 P :: PySem.W.boot_o_6 P :: PySem.W.boot_o_7 P :: PySem.W.boot_o_8 P :: PySem.W.boot_o_9 P :: PySem.W.boot_o_10 P :: hd.z11 P :: hd.z12 P :: hd.z13 P :: hd.z14 P :: hd.z15 P :: hd.z16 P :: hd.z17 P :: hd.z18 P :: hd.z19 P :: hd.z20 P :: hd.z21 P :: hd.z22 P :: hd.z23 P :: hd.z24 P :: hd.z25 P :: hd.z26 P :: hd.z27 P :: hd.z28 P :: hd.z29 P :: hd.z30 P :: hd.z31 P :: hd.z32 P :: hd.z33 P :: hd.z34 P :: hd.z35 P :: hd.z36 P :: hd.x37 P :: hd.x38 P :: hd.x39 P :: hd.x40 P :: hd.x41 P :: hd.x42 P :: hd.z43 P :: hd.z44 P :: hd.z45 P :: hd.z46 P :: hd.z47 P :: hd.z48 P :: hd.z49 P :: hd.z50 P :: hd.z51 P :: hd.z52 P :: hd.z53 P :: hd.z54 P :: hd.z55 P :: hd.z56 P :: hd.z57 P :: hd.z58 P :: hd.z59 P :: hd.z60 P :: hd.z61 P :: hd.z62 P :: hd.x63 P :: hd.x64 P :: hd.z65 P :: hd.x66 P :: hd.x67 P :: hd.x68 P :: hd.x69 P :: hd.x70 P :: hd.x71 P :: hd.z72 P :: hd.z73 P :: hd.z74 P :: hd.x75 P :: hd.x76 P :: hd.z77 P :: hd.z78 P :: hd.z79 P :: hd.z80 P :: hd.z81 P :: hd.z82 P :: hd.z83 P :: hd.x84 P :: hd.x85 P :: hd.x86 P :: hd.x87 P :: hd.x88 P :: hd.x89 P :: hd.x90 P :: hd.z91 P :: hd.z92 P :: hd.z93 P :: hd.z94 P :: hd.z95 P :: hd.z96 P :: hd.z97 P :: hd.z98 P :: hd.z99 P :: hd.z100 P :: hd.z101 P :: hd.z102 P :: hd.z103 P :: hd.z104 P :: hd.z105 P :: hd.z106 P :: hd.z107 P :: hd.z108 P :: hd.z109 P :: hd.z110 P :: hd.z111 P :: hd.z112 P :: hd.z113 P :: hd.z114 P :: hd.z115 P :: hd.z116 P :: hd.z117 P :: hd.z118 P :: hd.z119 P :: hd.z120 P :: hd.z121 P :: hd.z122 P :: hd.z123 P :: hd.z124 P :: hd.z125 P :: hd.z126 P :: hd.z127 P :: hd.z128 P :: hd.z129 P :: hd.z130 P :: hd.z131 P :: hd.z132 P :: hd.z133 P :: hd.z134 P :: hd.z135 P :: hd.z136 P :: hd.z137 P :: hd.z138 P :: hd.z139 P :: hd.z140 P :: hd.z141 P :: hd.z142 P :: hd.z143 P :: hd.z144 P :: hd.z145 P :: hd.z146 P :: hd.z147 P :: hd.z148 P :: hd.z149 P :: hd.z150 P :: hd.z151 P :: hd.z152 P :: hd.z153 P :: hd.z154 P :: hd.z155 P :: hd.z156 P :: hd.z157 P :: hd.z158 P :: hd.z159 P :: hd.z160 P :: hd.z161 P :: hd.z162 P :: hd.z163 P :: hd.z164 P :: hd.z165 P :: hd.z166 P :: hd.z167 P :: hd.z168 P :: hd.z169 P :: hd.z170 P :: hd.z171 P :: hd.z172 P :: hd.z173 P :: hd.z174 P :: hd.z175 P :: hd.z176 P :: hd.z177 P :: hd.z178 P :: hd.z179 P :: hd.z180 P :: hd.z181 P :: hd.z182 P :: hd.z183 P :: hd.z184 P :: hd.z185 P :: hd.z186 P :: hd.z187 P :: hd.z188 P :: hd.z189 P :: hd.z190 P :: hd.z191 P :: hd.z192 P :: hd.z193 P :: hd.z194 P :: hd.z195 P :: hd.z196 P :: hd.z197 P :: hd.z198 P :: hd.z199 P :: hd.z200 P :: hd.z201 P :: hd.z202 P :: hd.z203 P :: hd.z204 P :: hd.z205 P :: hd.z206 P :: hd.z207 P :: hd.z208 P :: hd.z209 P :: hd.z210 P :: hd.z211 P :: hd.z212 P :: hd.z213 P :: hd.z214 P :: hd.z215 P :: hd.z216 P :: hd.z217 P :: hd.z218 P :: hd.z219 P :: hd.z220 P :: hd.z221 P :: hd.z222 P :: hd.z223 P :: hd.z224 P :: hd.z225 P :: hd.z226 P :: hd.z227 P :: hd.z228 P :: hd.z229 P :: hd.z230 P :: hd.z231 P :: hd.z232 P :: hd.z233 P :: hd.z234 P :: hd.z235 P :: hd.z236 P :: hd.z237 P :: hd.z238 P :: hd.z239 P :: hd.z240 P :: hd.z241 P :: hd.z242 P :: hd.z243 P :: hd.z244 P :: hd.z245 P :: hd.z246 P :: hd.z247 P :: hd.z248 P :: hd.z249 P :: hd.z250 P :: hd.z251 P :: hd.z252 P :: hd.z253 P :: hd.z254 P :: hd.x255 P :: hd.x256 P :: hd.x257 P :: hd.x258 P :: hd.x259 P :: hd.x260 P :: hd.x261 P :: hd.x262 P :: hd.x263 P :: hd.z264 P :: hd.z265 P :: hd.z266 P :: hd.z267 P :: hd.z268 P :: hd.z269 P :: hd.z270 P :: hd.z271 P :: hd.z272 P :: hd.z273 P :: hd.z274 P :: hd.z275 P :: hd.z276 P :: hd.z277 P :: hd.z278 P :: hd.z279 P :: hd.z280 P :: hd.z281 P :: hd.z282 P :: hd.z283 P :: hd.z284 P :: hd.x285 P :: hd.x286 P :: hd.z287 P :: hd.z288 P :: hd.z289 P :: hd.z290 P :: hd.z291 P :: hd.z292 P :: hd.z293 P :: hd.z294 P :: hd.z295 P :: hd.z296 P :: hd.z297 P :: hd.z298 P :: hd.z299 P :: hd.z300 P :: hd.z301 P :: hd.z302 P :: hd.z303 P :: []⟩, {}⟩
noncomputable def hd.treeF : Params → BT := fun P => (.node (PySem.W.boot_o_0 P) (.node (PySem.W.boot_o_1 P) (.node (hd.z3 P) (.node (PySem.W.boot_o_7 P) (.node (hd.z15 P) (.node (hd.z31 P) (.node (hd.x63 P) (.node (hd.z127 P) (.node (hd.x255 P) .nil .nil) .nil) (.node (hd.z191 P) .nil .nil)) (.node (hd.z95 P) (.node (hd.z159 P) (.node (hd.z287 P) .nil .nil) .nil) (.node (hd.z223 P) .nil .nil))) (.node (hd.z47 P) (.node (hd.z79 P) (.node (hd.z143 P) (.node (hd.z271 P) .nil .nil) .nil) (.node (hd.z207 P) .nil .nil)) (.node (hd.z111 P) (.node (hd.z175 P) (.node (hd.z303 P) .nil .nil) .nil) (.node (hd.z239 P) .nil .nil)))) (.node (hd.z23 P) (.node (hd.x39 P) (.node (hd.x71 P) (.node (hd.z135 P) (.node (hd.x263 P) .nil .nil) .nil) (.node (hd.z199 P) .nil .nil)) (.node (hd.z103 P) (.node (hd.z167 P) (.node (hd.z295 P) .nil .nil) .nil) (.node (hd.z231 P) .nil .nil))) (.node (hd.z55 P) (.node (hd.x87 P) (.node (hd.z151 P) (.node (hd.z279 P) .nil .nil) .nil) (.node (hd.z215 P) .nil .nil)) (.node (hd.z119 P) (.node (hd.z183 P) .nil .nil) (.node (hd.z247 P) .nil .nil))))) (.node (hd.z11 P) (.node (hd.z19 P) (.node (hd.z35 P) (.node (hd.x67 P) (.node (hd.z131 P) (.node (hd.x259 P) .nil .nil) .nil) (.node (hd.z195 P) .nil .nil)) (.node (hd.z99 P) (.node (hd.z163 P) (.node (hd.z291 P) .nil .nil) .nil) (.node (hd.z227 P) .nil .nil))) (.node (hd.z51 P) (.node (hd.z83 P) (.node (hd.z147 P) (.node (hd.z275 P) .nil .nil) .nil) (.node (hd.z211 P) .nil .nil)) (.node (hd.z115 P) (.node (hd.z179 P) .nil .nil) (.node (hd.z243 P) .nil .nil)))) (.node (hd.z27 P) (.node (hd.z43 P) (.node (hd.x75 P) (.node (hd.z139 P) (.node (hd.z267 P) .nil .nil) .nil) (.node (hd.z203 P) .nil .nil)) (.node (hd.z107 P) (.node (hd.z171 P) (.node (hd.z299 P) .nil .nil) .nil) (.node (hd.z235 P) .nil .nil))) (.node (hd.z59 P) (.node (hd.z91 P) (.node (hd.z155 P) (.node (hd.z283 P) .nil .nil) .nil) (.node (hd.z219 P) .nil .nil)) (.node (hd.z123 P) (.node (hd.z187 P) .nil .nil) (.node (hd.z251 P) .nil .nil)))))) (.node (PySem.W.boot_o_5 P) (.node (PySem.W.boot_o_9 P) (.node (hd.z17 P) (.node (hd.z33 P) (.node (hd.z65 P) (.node (hd.z129 P) (.node (hd.x257 P) .nil .nil) .nil) (.node (hd.z193 P) .nil .nil)) (.node (hd.z97 P) (.node (hd.z161 P) (.node (hd.z289 P) .nil .nil) .nil) (.node (hd.z225 P) .nil .nil))) (.node (hd.z49 P) (.node (hd.z81 P) (.node (hd.z145 P) (.node (hd.z273 P) .nil .nil) .nil) (.node (hd.z209 P) .nil .nil)) (.node (hd.z113 P) (.node (hd.z177 P) .nil .nil) (.node (hd.z241 P) .nil .nil)))) (.node (hd.z25 P) (.node (hd.x41 P) (.node (hd.z73 P) (.node (hd.z137 P) (.node (hd.z265 P) .nil .nil) .nil) (.node (hd.z201 P) .nil .nil)) (.node (hd.z105 P) (.node (hd.z169 P) (.node (hd.z297 P) .nil .nil) .nil) (.node (hd.z233 P) .nil .nil))) (.node (hd.z57 P) (.node (hd.x89 P) (.node (hd.z153 P) (.node (hd.z281 P) .nil .nil) .nil) (.node (hd.z217 P) .nil .nil)) (.node (hd.z121 P) (.node (hd.z185 P) .nil .nil) (.node (hd.z249 P) .nil .nil))))) (.node (hd.z13 P) (.node (hd.z21 P) (.node (hd.x37 P) (.node (hd.x69 P) (.node (hd.z133 P) (.node (hd.x261 P) .nil .nil) .nil) (.node (hd.z197 P) .nil .nil)) (.node (hd.z101 P) (.node (hd.z165 P) (.node (hd.z293 P) .nil .nil) .nil) (.node (hd.z229 P) .nil .nil))) (.node (hd.z53 P) (.node (hd.x85 P) (.node (hd.z149 P) (.node (hd.z277 P) .nil .nil) .nil) (.node (hd.z213 P) .nil .nil)) (.node (hd.z117 P) (.node (hd.z181 P) .nil .nil) (.node (hd.z245 P) .nil .nil)))) (.node (hd.z29 P) (.node (hd.z45 P) (.node (hd.z77 P) (.node (hd.z141 P) (.node (hd.z269 P) .nil .nil) .nil) (.node (hd.z205 P) .nil .nil)) (.node (hd.z109 P) (.node (hd.z173 P) (.node (hd.z301 P) .nil .nil) .nil) (.node (hd.z237 P) .nil .nil))) (.node (hd.z61 P) (.node (hd.z93 P) (.node (hd.z157 P) (.node (hd.x285 P) .nil .nil) .nil) (.node (hd.z221 P) .nil .nil)) (.node (hd.z125 P) (.node (hd.z189 P) .nil .nil) (.node (hd.z253 P) .nil .nil))))))) (.node (hd.z2 P) (.node (PySem.W.boot_o_4 P) (.node (PySem.W.boot_o_8 P) (.node (hd.z16 P) (.node (hd.z32 P) (.node (hd.x64 P) (.node (hd.z128 P) (.node (hd.x256 P) .nil .nil) .nil) (.node (hd.z192 P) .nil .nil)) (.node (hd.z96 P) (.node (hd.z160 P) (.node (hd.z288 P) .nil .nil) .nil) (.node (hd.z224 P) .nil .nil))) (.node (hd.z48 P) (.node (hd.z80 P) (.node (hd.z144 P) (.node (hd.z272 P) .nil .nil) .nil) (.node (hd.z208 P) .nil .nil)) (.node (hd.z112 P) (.node (hd.z176 P) .nil .nil) (.node (hd.z240 P) .nil .nil)))) (.node (hd.z24 P) (.node (hd.x40 P) (.node (hd.z72 P) (.node (hd.z136 P) (.node (hd.z264 P) .nil .nil) .nil) (.node (hd.z200 P) .nil .nil)) (.node (hd.z104 P) (.node (hd.z168 P) (.node (hd.z296 P) .nil .nil) .nil) (.node (hd.z232 P) .nil .nil))) (.node (hd.z56 P) (.node (hd.x88 P) (.node (hd.z152 P) (.node (hd.z280 P) .nil .nil) .nil) (.node (hd.z216 P) .nil .nil)) (.node (hd.z120 P) (.node (hd.z184 P) .nil .nil) (.node (hd.z248 P) .nil .nil))))) (.node (hd.z12 P) (.node (hd.z20 P) (.node (hd.z36 P) (.node (hd.x68 P) (.node (hd.z132 P) (.node (hd.x260 P) .nil .nil) .nil) (.node (hd.z196 P) .nil .nil)) (.node (hd.z100 P) (.node (hd.z164 P) (.node (hd.z292 P) .nil .nil) .nil) (.node (hd.z228 P) .nil .nil))) (.node (hd.z52 P) (.node (hd.x84 P) (.node (hd.z148 P) (.node (hd.z276 P) .nil .nil) .nil) (.node (hd.z212 P) .nil .nil)) (.node (hd.z116 P) (.node (hd.z180 P) .nil .nil) (.node (hd.z244 P) .nil .nil)))) (.node (hd.z28 P) (.node (hd.z44 P) (.node (hd.x76 P) (.node (hd.z140 P) (.node (hd.z268 P) .nil .nil) .nil) (.node (hd.z204 P) .nil .nil)) (.node (hd.z108 P) (.node (hd.z172 P) (.node (hd.z300 P) .nil .nil) .nil) (.node (hd.z236 P) .nil .nil))) (.node (hd.z60 P) (.node (hd.z92 P) (.node (hd.z156 P) (.node (hd.z284 P) .nil .nil) .nil) (.node (hd.z220 P) .nil .nil)) (.node (hd.z124 P) (.node (hd.z188 P) .nil .nil) (.node (hd.z252 P) .nil .nil)))))) (.node (PySem.W.boot_o_6 P) (.node (PySem.W.boot_o_10 P) (.node (hd.z18 P) (.node (hd.z34 P) (.node (hd.x66 P) (.node (hd.z130 P) (.node (hd.x258 P) .nil .nil) .nil) (.node (hd.z194 P) .nil .nil)) (.node (hd.z98 P) (.node (hd.z162 P) (.node (hd.z290 P) .nil .nil) .nil) (.node (hd.z226 P) .nil .nil))) (.node (hd.z50 P) (.node (hd.z82 P) (.node (hd.z146 P) (.node (hd.z274 P) .nil .nil) .nil) (.node (hd.z210 P) .nil .nil)) (.node (hd.z114 P) (.node (hd.z178 P) .nil .nil) (.node (hd.z242 P) .nil .nil)))) (.node (hd.z26 P) (.node (hd.x42 P) (.node (hd.z74 P) (.node (hd.z138 P) (.node (hd.z266 P) .nil .nil) .nil) (.node (hd.z202 P) .nil .nil)) (.node (hd.z106 P) (.node (hd.z170 P) (.node (hd.z298 P) .nil .nil) .nil) (.node (hd.z234 P) .nil .nil))) (.node (hd.z58 P) (.node (hd.x90 P) (.node (hd.z154 P) (.node (hd.z282 P) .nil .nil) .nil) (.node (hd.z218 P) .nil .nil)) (.node (hd.z122 P) (.node (hd.z186 P) .nil .nil) (.node (hd.z250 P) .nil .nil))))) (.node (hd.z14 P) (.node (hd.z22 P) (.node (hd.x38 P) (.node (hd.x70 P) (.node (hd.z134 P) (.node (hd.x262 P) .nil .nil) .nil) (.node (hd.z198 P) .nil .nil)) (.node (hd.z102 P) (.node (hd.z166 P) (.node (hd.z294 P) .nil .nil) .nil) (.node (hd.z230 P) .nil .nil))) (.node (hd.z54 P) (.node (hd.x86 P) (.node (hd.z150 P) (.node (hd.z278 P) .nil .nil) .nil) (.node (hd.z214 P) .nil .nil)) (.node (hd.z118 P) (.node (hd.z182 P) .nil .nil) (.node (hd.z246 P) .nil .nil)))) (.node (hd.z30 P) (.node (hd.z46 P) (.node (hd.z78 P) (.node (hd.z142 P) (.node (hd.z270 P) .nil .nil) .nil) (.node (hd.z206 P) .nil .nil)) (.node (hd.z110 P) (.node (hd.z174 P) (.node (hd.z302 P) .nil .nil) .nil) (.node (hd.z238 P) .nil .nil))) (.node (hd.z62 P) (.node (hd.z94 P) (.node (hd.z158 P) (.node (hd.x286 P) .nil .nil) .nil) (.node (hd.z222 P) .nil .nil)) (.node (hd.z126 P) (.node (hd.z190 P) .nil .nil) (.node (hd.z254 P) .nil .nil))))))))
noncomputable def hd.S0 (w : World) (os : OsState) : Shared := ⟨boot_heap w.params, ⟨[]⟩, boot_drawn, boot_toks, os⟩
noncomputable def hd.SA (w : World) (os : OsState) : Shared := ⟨hd.heapA w.params, ⟨[]⟩, {}, 187, os⟩
noncomputable def hd.TA (w : World) (os : OsState) : SharedT := ⟨hd.treeA w.params, 15, {}, ⟨[]⟩, {}, 187, os⟩
noncomputable def hd.TF (w : World) (os : OsState) : SharedT := ⟨hd.treeF w.params, 304, {}, ⟨[]⟩, {}, 555, os⟩
noncomputable def hd.SF (w : World) (os : OsState) : Shared := ⟨hd.heapF w.params, ⟨[]⟩, {}, 555, os⟩
set_option maxHeartbeats 8000000
theorem hd.pre_q : ∀ w : World, (fun os => PySem.W.Fast.tw15667345088766844465 PySem.W.Fast.tw14364793385576792824 PySem.W.Fast.tw15991733385749931625 w 11 (some (.ref 6)) 12 (hd.S0 w os) (topStub PySem.W.Fast.tw15991733385749931625)) =
    fun os => some (hd.SA w os, ⟨PySem.W.Fast.tw11892475500146522536 PySem.W.Fast.tw14364793385576792824 (hd.bodyOf PySem.W.Fast.tw15991733385749931625), hd.bodyOf PySem.W.Fast.tw15991733385749931625, hd.p0, [topFrame hd.p0]⟩) := by
  intro w; kernel_rfl
theorem hd.block_q : ∀ w : World, (fun os => PySem.W.Fast.tw14374325043358763698 PySem.W.Fast.tw14364793385576792824 PySem.W.Fast.tw15991733385749931625 w 11 (some (.ref 6)) 1 1 (hd.SA w os) (blockOf (behindTheImports PySem.W.Fast.tw15991733385749931625) (hd.envOf PySem.W.Fast.tw15991733385749931625) (hd.bodyOf PySem.W.Fast.tw15991733385749931625) hd.p0 [topFrame hd.p0])) =
    fun os => some (Flow.next, (hd.TA w os).abs, hd.bodyOf PySem.W.Fast.tw15991733385749931625, hd.p0) := by
  intro w; kernel_rfl
theorem hd.run_q : ∀ w : World, (fun os => PySem.W.Fast.tw10110043849684766642 PySem.W.Fast.tw14364793385576792824 PySem.W.Fast.tw15991733385749931625 w 11 (some (.ref 6)) 1 1907 (hd.TA w os) (piecesOf (behindTheImports PySem.W.Fast.tw15991733385749931625) (hd.envOf PySem.W.Fast.tw15991733385749931625) (hd.bodyOf PySem.W.Fast.tw15991733385749931625) hd.p0 [topFrame hd.p0])) =
    fun os => some (Flow.next, hd.TF w os, hd.bodyOf PySem.W.Fast.tw15991733385749931625, hd.p1) := by
  intro w; kernel_rfl
theorem hd.fin_q : ∀ w : World, (fun os => PySem.W.Fast.tw14082659384304107361 PySem.W.Fast.tw14364793385576792824 PySem.W.Fast.tw15991733385749931625 w 11 (some (.ref 6)) 2 (hd.TF w os).abs ⟨doneF .next, hd.bodyOf PySem.W.Fast.tw15991733385749931625, hd.p1, [topFrame hd.p0]⟩) = fun os => some (hd.SF w os) := by
  intro w; kernel_rfl
theorem hd.pq : PySem.Challenge.pw_pb0250_01 = PySem.W.Fast.tw15991733385749931625 := PySem.W.Fast.te15991733385749931625
theorem hd.run (w : World) (os : OsState) : topRun treeTable PySem.Challenge.pw_pb0250_01 w 11 (some (.ref 6)) (12 + (1 + (1907 + 2))) ⟨boot_heap w.params, ⟨[]⟩, boot_drawn, boot_toks, os⟩ (topStub PySem.Challenge.pw_pb0250_01) = some ⟨hd.heapF w.params, ⟨[]⟩, {}, 555, os⟩ := by
  have h1 := congrFun (hd.pre_q w) os
  have h2 := congrFun (hd.block_q w) os
  have h3 := congrFun (hd.run_q w) os
  have h4 := congrFun (hd.fin_q w) os
  rw [← hd.pq, ← PySem.W.Fast.te14364793385576792824] at h1 h2 h3 h4
  rw [← PySem.W.Fast.te15667345088766844465, ← PySem.W.Fast.te11892475500146522536] at h1
  rw [← PySem.W.Fast.te14374325043358763698] at h2
  rw [← PySem.W.Fast.te10110043849684766642] at h3
  rw [← PySem.W.Fast.te14082659384304107361] at h4
  have h5 := piece_app (rest := []) (segRun_of h3) (piece_nil h4)
  rw [List.append_nil] at h5
  exact go_top h1 (piece_block h2 h5)
theorem hd.size (w : World) : ((boot_heap w.params).isNs mainGlobals && (⟨[]⟩ : Array GenState).size == 0, (boot_heap w.params).objs.size, (boot_heap w.params).nsMap mainGlobals "__annotations__") = (true, 11, some (.ref 6)) := by
  rw [PySem.W.Fast.te8920871248978507458]; kernel_rfl
noncomputable def hd.viewQ : Program := hd.viewOf PySem.W.Fast.tw15991733385749931625
theorem hd.view_eq : hd.view = hd.viewQ := by unfold hd.view hd.viewQ; rw [hd.pq]
noncomputable def hd.loose : List Str := [Str.ofString "LedgerError", Str.ofString "Token"]
noncomputable def hd.Xt (q : Program) (s : Shared) : Bool := xlAt q [] s && recOk (RowW.records PySem.Challenge.rw_pb0250_01.row.toRowW) s
theorem hd.look1 (w : World) : (fun os => (staticsOk (importedModules PySem.Challenge.pw_pb0250_01.main.body) (boot_heap w.params) (hd.heapF w.params) && namesBound PySem.Challenge.pw_pb0250_01 (hd.heapF w.params) && gensDone (hd.SF w os) && laidKept (boot_heap w.params) (hd.heapF w.params))) = fun _ => true := by
  rw [PySem.W.Fast.te5923862056798008813, hd.pq]; kernel_rfl
theorem hd.look2 (w : World) : (fun os => openSeen hd.view hd.loose (importedModules PySem.Challenge.pw_pb0250_01.main.body) (hd.Xt hd.view) true (hd.SF w os)) = fun _ => openGood hd.view hd.loose := by
  unfold openSeen openGood
  rw [PySem.W.Fast.te5923862056798008813, hd.pq, hd.view_eq, PySem.W.Fast.te5160383126252970620, PySem.W.Fast.te3399658132070893891, PySem.W.Fast.te5991557255702980513, PySem.W.Fast.te10880121769531294198, PySem.W.Fast.te821141287760084731, PySem.W.Fast.te7409074990110511671, PySem.W.Fast.te13664370479719496447, PySem.W.Fast.te14722251495701143533, PySem.W.Fast.te10994771534591457954, PySem.W.Fast.te479339242167458305, PySem.W.Fast.te16090120013241838585, PySem.W.Fast.te3247288618530077131, PySem.W.Fast.te2386780881361962483, PySem.W.Fast.te11698064438423848299, PySem.W.Fast.te7317090234206586261, PySem.W.Fast.te7369524293546568484]
  kernel_rfl
theorem hd.look3 (w : World) : (fun os => obsZ hd.ads (hd.SF w os)) = fun _ => valZ hd.heap_270 304 555 w := by kernel_rfl
theorem hd.left : LeftO PySem.Challenge.pw_pb0250_01 hd.view hd.loose (hd.Xt hd.view) (obsZ hd.ads) (valZ hd.heap_270 304 555) 3936 :=
  LeftO.of_pieces (boot_open (by kernel_rfl) (by decide) (fun s => by kernel_rfl)) hd.size hd.run (by decide) (fun w => funext fun os => Prod.ext (congrFun (hd.look1 w) os) (Prod.ext (congrFun (hd.look2 w) os) (congrFun (hd.look3 w) os)))
theorem hd {d : DefRec} {kwd : List (Str × Expr)} (h1 : defOf hd.view PySem.Challenge.rw_pb0250_01.row.name = some (d, kwd)) (h2 : PySem.Challenge.rw_pb0250_01.row.prog.theDef PySem.Challenge.rw_pb0250_01.row.name = some (d.params, d.body, d.scope)) (h3 : kwWritten? d.params.kwonlyargs d.params.kw_defaults = some kwd)
    (walk : WalkX hd.view [Str.ofString "LedgerError", Str.ofString "Token"] (XL hd.view []) (obsZ hd.ads) (valZ hd.heap_270 304 555) PySem.Challenge.rw_pb0250_01.row.toRowW d kwd fun f vs => PySem.call f vs) : PySem.Challenge.rw_pb0250_01.Holds := by
  w_on
  refine holds_law Mine.said fun said => ?_
  refine holds_openX (q := hd.view) (loose := hd.loose) (Xt := hd.Xt hd.view) (XP := XL hd.view []) (Yf := obsZ hd.ads) (Ya := valZ hd.heap_270 304 555) (N := 3936) hd.left (fun s e => xl_of s (Bool.and_eq_true_iff.mp e).1) XL.keeps h1 h2 h3 (fun s e => recFacts_of (Bool.and_eq_true_iff.mp e).2) (by rfl) said (by decide +kernel) ⟨rfl, rfl, rfl, rfl, rfl, by decide +kernel⟩ ?hw walk
  case hw => w_witness2
end
section
abbrev ent (P : Params) (x : Str) (t : Tok) (v : Value) : DictEntry := ⟨PyData.keyHash P x, .str x t, v⟩
abbrev rdD (P : Params) (t1 t2 t3 : Tok) (ll nd : Addr) (i : Nat) (tk : Tok) : Obj :=
  dictOf [ent P (Str.ofString "tokens") t1 (.ref ll), ent P (Str.ofString "at") t2 (.int (i : Int) tk), ent P (Str.ofString "named") t3 (.ref nd)] 3
abbrev tkD (P : Params) (t1 t2 t3 t4 t5 t6 : Tok) (ad : Value) (wd : Str) : Obj :=
  dictOf [ent P (Str.ofString "kind") t1 (.str (Str.ofString "word") t5), ent P (Str.ofString "worth") t2 (.str wd t6), ent P (Str.ofString "at") t3 ad, ent P (Str.ofString "is_in_a") t4 (.bool false)] 4

inductive Toks (P : Params) (tl : List (Addr × Obj)) : List Value → List Str → Prop
  | nil : Toks P tl [] []
  | cons {a d : Addr} {t1 t2 t3 t4 t5 t6 : Tok} {ad : Value} {wd : Str} {vs : List Value} {ws : List Str} :
      (a, instObj 282 d) ∈ tl → (d, tkD P t1 t2 t3 t4 t5 t6 ad wd) ∈ tl → wd.length ≤ 100 → Toks P tl vs ws → Toks P tl (.ref a :: vs) (wd :: ws)
theorem Toks.length {P : Params} {tl : List (Addr × Obj)} {vs : List Value} {ws : List Str} (h : Toks P tl vs ws) : vs.length = ws.length := by
  induction h with
  | nil => rfl
  | cons _ _ _ _ ih => rw [List.length_cons, List.length_cons, ih]
theorem Toks.get {P : Params} {tl : List (Addr × Obj)} {vs : List Value} {ws : List Str} (h : Toks P tl vs ws) : ∀ {k : Nat}, k < ws.length →
    ∃ a d t1 t2 t3 t4 t5 t6 ad wd, vs[k]? = some (.ref a) ∧ ws[k]? = some wd ∧ (a, instObj 282 d) ∈ tl ∧ (d, tkD P t1 t2 t3 t4 t5 t6 ad wd) ∈ tl ∧ wd.length ≤ 100 := by
  induction h with
  | nil => intro k hk; exact absurd hk (Nat.not_lt_zero _)
  | cons h1 h2 h3 _ ih =>
    intro k hk
    cases k with
    | zero => exact ⟨_, _, _, _, _, _, _, _, _, _, rfl, rfl, h1, h2, h3⟩
    | succ k => exact ih (Nat.lt_of_succ_lt_succ hk)
theorem boot_len : bootBuiltins ⟨⟨[108, 101, 110]⟩⟩ = some (.builtin "len") := by
  show bootBuiltins (Str.ofString "len") = _
  boot_by_name
theorem boot_tuple : bootBuiltins ⟨⟨[116,117,112,108,101]⟩⟩ = some (.type "tuple") := by
  show bootBuiltins (Str.ofString "tuple") = _
  boot_by_name

section
variable {prog : Program} {w : World} {A : Around} {E : Value → Shared → Prop} {s : Shared} {h₀ : Heap} {L l : Addr} {P : Params} {tl news : List (Addr × Obj)} {vs : List Value} {ws : List Str} {n : Nat} {Q : Value → Shared → Prop}
theorem len_toks (N : News h₀ L s.heap news) (hm : (l, listOf vs.toArray n) ∈ news) (hT : Toks P tl vs ws) (hfit : ws.length ≤ 1000)
    (h : Q (.int (ws.length : Int) (s.toks + 1)) { s with toks := s.toks + 1 + 1 }) : wpAny (model prog w) A (call (.builtin "len") [.ref l]) Q E s := by
  have hl : s.heap.IsList l vs.toArray := ⟨_, (N _ hm).1, rfl, n, rfl⟩
  have e : vs.toArray.size = ws.length := by rw [List.size_toArray, hT.length]
  exact len_list hl (by rw [e]; omega) (by rw [e]; exact h)
theorem item_toks {value slice : PySem.Expr} {j : Int} {u : Tok} (N : News h₀ L s.heap news) (hm : (l, listOf vs.toArray n) ∈ news) (hT : Toks P tl vs ws) (hfit : ws.length ≤ 1000) (h0 : 0 ≤ j) (h1 : j < (ws.length : Int))
    (h : ∀ b d t1 t2 t3 t4 t5 t6 ad wd, ws[j.toNat]? = some wd → (b, instObj 282 d) ∈ tl → (d, tkD P t1 t2 t3 t4 t5 t6 ad wd) ∈ tl → wd.length ≤ 100 → Q (.ref b) s)
    (hs : subscripted slice false (.ref l) (.int j u) = operate [.ref l, .int j u] (getItem (.ref l) (.int j u)) := by with_unfolding_all rfl) :
    wpAny (model prog w) A (subscriptTail value slice (.ref l) (.int j u)) Q E s := by
  have hl : s.heap.IsList l vs.toArray := ⟨_, (N _ hm).1, rfl, n, rfl⟩
  obtain ⟨b, d, t1, t2, t3, t4, t5, t6, ad, wd, e1, e2, m1, m2, m3⟩ := hT.get (k := j.toNat) (by omega)
  exact tail_any hl.typeIs slot_list_getitem.lookup (wpAny_getItem_list hl h0 (by omega) (by simpa using e1) (h b d t1 t2 t3 t4 t5 t6 ad wd e2 m1 m2 m3)) hs
end
theorem Toks.mono {P : Params} {tl tl' : List (Addr × Obj)} {vs : List Value} {ws : List Str} (h : Toks P tl vs ws) (hs : ∀ p ∈ tl, p ∈ tl') : Toks P tl' vs ws := by
  induction h with
  | nil => exact .nil
  | cons h1 h2 h3 _ ih => exact .cons (hs _ h1) (hs _ h2) h3 ih
/-- the reader and its tokens lie in the ledger -/
structure RdIn (P : Params) (news : List (Addr × Obj)) (x dx ll nd : Addr) (t1 t2 t3 tk : Tok) (n i : Nat) (vs : List Value) (ws : List Str) : Prop where
  hx : (x, instObj 252 dx) ∈ news
  hd : (dx, rdD P t1 t2 t3 ll nd i tk) ∈ news
  hl : (ll, listOf vs.toArray n) ∈ news
  toks : Toks P news vs ws
  le : i ≤ ws.length
  len : ws.length ≤ 1000
theorem RdIn.up {P : Params} {news : List (Addr × Obj)} {x dx ll nd : Addr} {t1 t2 t3 tk : Tok} {n i : Nat} {vs : List Value} {ws : List Str} {q : Addr × Obj} (h : RdIn P news x dx ll nd t1 t2 t3 tk n i vs ws) : RdIn P (q :: news) x dx ll nd t1 t2 t3 tk n i vs ws :=
  ⟨.tail _ h.hx, .tail _ h.hd, .tail _ h.hl, h.toks.mono fun _ hp => .tail _ hp, h.le, h.len⟩
theorem allNe_lt {d : Addr} : ∀ {l : List (Addr × Obj)}, AllLt d l → ∀ p ∈ l, p.1 ≠ d
  | [], _, _, h => nomatch h
  | _ :: _, h, p, hp => by
    rcases List.mem_cons.mp hp with rfl | hp
    · exact Nat.ne_of_lt h.1
    · exact allNe_lt h.2 p hp
theorem unr_top {h₀ : Heap} {L I : Addr} {it : Obj} {rest : (Str → Option Value) → List (Addr × Obj) → Prop} {s₁ : Shared} {h' : Heap} {tk : Nat} {m' : Str → Option Value} {news' : List (Addr × Obj)} (F : Fr h₀ L h' m') (N : News h₀ L h' ((I, it) :: news'))
    (off : ∀ p ∈ news', p.1 ≠ I) (r : rest m' news') : UnrEnd h₀ L s₁ I it rest { s₁ with heap := h', toks := tk } := ⟨h', tk, m', news', rfl, F, N, off, r⟩
theorem raw_split : (⟨⟨[115, 112, 108, 105, 116]⟩⟩ : Str) = Str.ofString "split" := by decide +kernel
theorem raw_append : (⟨⟨[97, 112, 112, 101, 110, 100]⟩⟩ : Str) = Str.ofString "append" := by decide +kernel
theorem news_tl {h₀ h : Heap} {L : Addr} {q : Addr × Obj} {news : List (Addr × Obj)} (N : News h₀ L h (q :: news)) : News h₀ L h news := fun p hp => N p (.tail _ hp)
theorem cl_ne {o : Option Str} {wd W W' : Str} (h : o = some wd) (h2 : (wd != W') = true) (e : W' = W) : o ≠ some W := by
  subst e; rw [h]; intro q; cases q; simp at h2
theorem cl_eq {o : Option Str} {wd W W' : Str} (h : o = some wd) (h2 : (wd != W') = false) (e : W' = W) : o = some W := by
  subst e; rw [h]; simpa using h2
theorem cl_none {o : Option Str} {W : Str} (h : o = none) : o ≠ some W := by rw [h]; intro q; cases q
theorem cl_abs {o : Option Str} {wd : Str} (h : o = none) (h2 : o = some wd) : False := by rw [h] at h2; cases h2
section
variable {prog : Program} {w : World} {A : Around} {E : Value → Shared → Prop} {s : Shared} {h₀ : Heap} {L : Addr} {m : PySem.Str → Option Value} {news : List (Addr × Obj)} {x y : PySem.Str} {t u : Tok} {Q : Value → Shared → Prop}
theorem split_one (hF : Fr h₀ L s.heap m) (hN : News h₀ L s.heap news) (hsp : Txt.split x y = [x]) (hsz : x.length + 2 ≤ sizeLine) (hy : (y.length == 0) = false)
    (h : ∀ D t' h' k, Fr h₀ L h' m → News h₀ L h' ((D, listOf [Value.str x t'].toArray 0) :: news) → (∀ p ∈ news, p.1 < D) → Q (.ref D) { s with heap := h', toks := k }) :
    wpAny (model prog w) A (call (.builtin "str.split") [.str x t, .str y u]) Q E s :=
  KSpl.split1 hF hN hy (fun D l h' k e _ F N lt => by
    rw [hsp] at e
    obtain ⟨t', l', rfl, e'⟩ := KSpl.cons_of e
    obtain rfl := KSpl.nil_of e'
    exact h D t' h' k F N lt) hsz
end
/-- the reader's dict ahead, its other things in the rest -/
structure RdT (P : Params) (tl : List (Addr × Obj)) (x dx ll : Addr) (n : Nat) (vs : List Value) (ws : List Str) : Prop where
  hx : (x, instObj 252 dx) ∈ tl
  hl : (ll, listOf vs.toArray n) ∈ tl
  toks : Toks P tl vs ws
  off : ∀ p ∈ tl, p.1 ≠ dx
  len : ws.length ≤ 1000
theorem RdT.into {P : Params} {tl : List (Addr × Obj)} {x dx ll nd : Addr} {t1 t2 t3 tk : Tok} {n i : Nat} {vs : List Value} {ws : List Str} (h : RdT P tl x dx ll n vs ws) (hi : i ≤ ws.length) : RdIn P ((dx, rdD P t1 t2 t3 ll nd i tk) :: tl) x dx ll nd t1 t2 t3 tk n i vs ws :=
  ⟨.tail _ h.hx, .head _, .tail _ h.hl, h.toks.mono fun _ hp => .tail _ hp, hi, h.len⟩
abbrev wON : Str := ⟨⟨[79, 78]⟩⟩
abbrev wASC : Str := ⟨⟨[65, 83, 67, 69, 78, 68, 73, 78, 71]⟩⟩
abbrev wDESC : Str := ⟨⟨[68, 69, 83, 67, 69, 78, 68, 73, 78, 71]⟩⟩
abbrev wKEY : Str := ⟨⟨[75, 69, 89]⟩⟩
def skipF (ws : List Str) (W : Str) (i : Nat) : Nat := if ws[i]? = some W then i + 1 else i
def dirF (ws : List Str) (i : Nat) : Option (Bool × Nat) :=
  if ws[skipF ws wON i]? = some wASC then some (true, skipF ws wKEY (skipF ws wON i + 1))
  else if ws[skipF ws wON i]? = some wDESC then some (false, skipF ws wKEY (skipF ws wON i + 1)) else none
theorem some_lt {ws : List Str} {i : Nat} {W : Str} (h : ws[i]? = some W) : i + 1 ≤ ws.length := by
  obtain ⟨h, _⟩ := List.getElem?_eq_some_iff.mp h
  exact h
section
variable {ws : List Str} {W : Str} {i i1 j : Nat}
theorem skip_y (h : ws[i]? = some W) : skipF ws W i = i + 1 := by unfold skipF; rw [if_pos h]
theorem skip_n (h : ws[i]? ≠ some W) : skipF ws W i = i := by unfold skipF; rw [if_neg h]
theorem dirF_t (h1 : skipF ws wON i = i1) (h3 : skipF ws wKEY (i1 + 1) = j) (h2 : ws[i1]? = some wASC) : dirF ws i = some (true, j) := by
  unfold dirF; rw [h1, if_pos h2, h3]
theorem dirF_f (h1 : skipF ws wON i = i1) (h3 : skipF ws wKEY (i1 + 1) = j) (h2 : ws[i1]? = some wDESC) : dirF ws i = some (!true, j) := by
  unfold dirF; rw [h1, if_neg (by rw [h2]; decide), if_pos h2, h3]; rfl
theorem dirF_n (h1 : skipF ws wON i = i1) (h2 : ws[i1]? ≠ some wASC) (h3 : ws[i1]? ≠ some wDESC) : dirF ws i = none := by
  unfold dirF; rw [h1, if_neg h2, if_neg h3]
end
abbrev wRES : Str := ⟨⟨[82, 69, 83, 69, 82, 86, 69, 68]⟩⟩
noncomputable def rawres (P : Params) : Str × Tok := match nsIn (Mine.hd.heap_270 P) mainGlobals wRES with
  | some (some (.str v t)) => (v, t)
  | _ => (Str.empty, 0)
theorem res_val (P : Params) : nsIn (Mine.hd.heap_270 P) mainGlobals wRES = some (some (.str (rawres P).1 (rawres P).2)) := by kernel_rfl
noncomputable def rsv (P : Params) (wd : Str) : Bool := !(Builtin.Str.occurrences (rawres P).1 ((⟨⟨[32]⟩⟩ : Str) ++ wd ++ (⟨⟨[32]⟩⟩ : Str)) 0 (rawres P).1.length 1).isEmpty
noncomputable def nameF (P : Params) (ws : List Str) (i : Nat) : Bool := match ws[i]? with
  | some wd => !rsv P wd
  | none => false
theorem nameF_s {P : Params} {ws : List Str} {i : Nat} {wd : Str} (h : ws[i]? = some wd) : nameF P ws i = !rsv P wd := by unfold nameF; rw [h]
theorem nameF_n {P : Params} {ws : List Str} {i : Nat} (h : ws[i]? = none) : nameF P ws i = false := by unfold nameF; rw [h]
theorem tf_abs {b : Bool} (h : b = true) (h2 : b = false) : False := by rw [h] at h2; cases h2
theorem mem_inst {P : Params} {dx ll nd b d : Addr} {t1 t2 t3 tk : Tok} {i : Nat} {tl : List (Addr × Obj)} (h : (b, instObj 282 d) ∈ (dx, rdD P t1 t2 t3 ll nd i tk) :: tl) : (b, instObj 282 d) ∈ tl := by
  rcases List.mem_cons.mp h with e | h
  · have := congrArg (fun p => p.2.cls) e
    cases this
  · exact h
theorem mem_tk {P : Params} {dx ll nd d : Addr} {t1 t2 t3 tk q1 q2 q3 q4 q5 q6 : Tok} {ad : Value} {wd : Str} {i : Nat} {tl : List (Addr × Obj)} (h : (d, tkD P q1 q2 q3 q4 q5 q6 ad wd) ∈ (dx, rdD P t1 t2 t3 ll nd i tk) :: tl) : (d, tkD P q1 q2 q3 q4 q5 q6 ad wd) ∈ tl := by
  rcases List.mem_cons.mp h with e | h
  · have := congrArg (fun p => match p.2.data with | .dict es _ => es.size | _ => 0) e
    cases this
  · exact h
theorem news_sw {h₀ h : Heap} {L : Addr} {a b : Addr × Obj} {r : List (Addr × Obj)} (N : News h₀ L h (a :: b :: r)) : News h₀ L h (b :: a :: r) := fun p hp => N p (by
  rcases List.mem_cons.mp hp with rfl | hp
  · exact .tail _ (.head _)
  · rcases List.mem_cons.mp hp with rfl | hp
    · exact .head _
    · exact .tail _ (.tail _ hp))
theorem RdT.up {P : Params} {tl : List (Addr × Obj)} {x dx ll : Addr} {n : Nat} {vs : List Value} {ws : List Str} {q : Addr × Obj} (h : RdT P tl x dx ll n vs ws) (hq : q.1 ≠ dx) : RdT P (q :: tl) x dx ll n vs ws :=
  ⟨.tail _ h.hx, .tail _ h.hl, h.toks.mono fun _ hp => .tail _ hp, fun p hp => by
    rcases List.mem_cons.mp hp with rfl | hp
    · exact hq
    · exact h.off p hp, h.len⟩
noncomputable def namesF (P : Params) (ws : List Str) (i : Nat) : List Str := (ws.drop i).takeWhile fun wd => !rsv P wd
theorem namesF_cons {P : Params} {ws : List Str} {j : Nat} {wd : Str} (h : ws[j]? = some wd) (hn : nameF P ws j = true) : namesF P ws j = wd :: namesF P ws (j + 1) := by
  obtain ⟨hlt, hj⟩ := List.getElem?_eq_some_iff.mp h
  rw [nameF_s h] at hn
  unfold namesF
  rw [List.drop_eq_getElem_cons hlt, List.takeWhile_cons, hj, if_pos hn]
theorem namesF_nil {P : Params} {ws : List Str} {j : Nat} (hn : nameF P ws j = false) : namesF P ws j = [] := by
  unfold namesF
  cases h : ws[j]? with
  | none => rw [List.drop_eq_nil_of_le (List.getElem?_eq_none_iff.mp h)]; rfl
  | some wd =>
    obtain ⟨hlt, hj⟩ := List.getElem?_eq_some_iff.mp h
    rw [nameF_s h] at hn
    rw [List.drop_eq_getElem_cons hlt, List.takeWhile_cons, hj, if_neg (by rw [hn]; exact Bool.false_ne_true)]
section
variable {prog : Program} {w : World} {A : Around} {E : Value → Shared → Prop} {s : Shared} {h₀ : Heap} {L : Addr} {env : Env} {P : Params}
  {tl : List (Addr × Obj)} {x dx ll nd D : Addr} {t1 t2 t3 : Tok} {i : Nat} {ws : List Str} {m₀ : Str → Option Value}
def NmPost (P : Params) (h₀ : Heap) (L : Addr) (s : Shared) (D dx ll nd : Addr) (t1 t2 t3 : Tok) (tl : List (Addr × Obj)) (ws : List Str) (i : Nat) (m₀ : Str → Option Value) (Q : Flow → Shared → Prop) (j : Nat) (f : Flow) (s₃ : Shared) : Prop :=
  match f with
  | .next | .cont => ∃ h' tk' us vals k tq, s₃ = { s with heap := h', toks := tk' } ∧ Fr h₀ L h' m₀ ∧ News h₀ L h' ((D, listOf vals.toArray k) :: (dx, rdD P t1 t2 t3 ll nd (j + 1) tq) :: tl) ∧ StrsAre vals us ∧ namesF P ws i = us ++ namesF P ws (j + 1) ∧ j + 1 = i + us.length ∧ j + 1 ≤ ws.length
  | .brk => Q .next s₃
  | .ret v => Q (.ret v) s₃
theorem while_nm {Q : Flow → Shared → Prop} {test : PySem.Expr} {body : List Stmt} {pos : Pos} {us₀ : List Str} {vals₀ : List Value} {k₀ j₀ : Nat} {tq₀ : Tok} (i : Nat) (ws : List Str) (F : Fr h₀ L s.heap m₀) (N : News h₀ L s.heap ((D, listOf vals₀.toArray k₀) :: (dx, rdD P t1 t2 t3 ll nd j₀ tq₀) :: tl))
    (hs : StrsAre vals₀ us₀) (he : namesF P ws i = us₀ ++ namesF P ws j₀) (hj : j₀ = i + us₀.length) (hle : j₀ ≤ ws.length)
    (turn : ∀ j us vals k tq h tk, StrsAre vals us → namesF P ws i = us ++ namesF P ws j → j = i + us.length → j ≤ ws.length → Fr h₀ L h m₀ → News h₀ L h ((D, listOf vals.toArray k) :: (dx, rdD P t1 t2 t3 ll nd j tq) :: tl) →
      wpAny (model prog w) A (isTrue test env (eval test env)) (fun b s₂ => WhlIf b (wpAny (model prog w) A (execs body env) (NmPost P h₀ L s D dx ll nd t1 t2 t3 tl ws i m₀ Q j) E s₂) (Q .next s₂)) E { s with heap := h, toks := tk })
    (hE : PassesOwn (model prog w) A env E := by passes_own) :
    wpAny (model prog w) A (exec (.While test body [] pos) env) Q E s := by
  refine While_inv2 (fun n m nx => ∃ j us vals k tq, nx = (D, listOf vals.toArray k) :: (dx, rdD P t1 t2 t3 ll nd j tq) :: tl ∧ StrsAre vals us ∧ namesF P ws i = us ++ namesF P ws j ∧ j = i + us.length ∧ j ≤ ws.length ∧ n = ws.length - j ∧ m = m₀) F N ⟨j₀, us₀, vals₀, k₀, tq₀, rfl, hs, he, hj, hle, rfl, rfl⟩ ?_ hE
  rintro n m₁ nx h tk F₁ N₁ ⟨j, us, vals, k, tq, rfl, hs', he', hj', hle', rfl, rfl⟩
  refine wpAny_mono (turn j us vals k tq h tk hs' he' hj' hle' F₁ N₁) (fun b s₂ p => ?_) fun _ _ x => x
  unfold WhlIf at p
  cases b with
  | false => simpa using p
  | true =>
    simp only [if_true] at p ⊢
    refine wpAny_mono p (fun f s₃ q => ?_) fun _ _ x => x
    have go : (∃ h' tk' us vals k tq, s₃ = { s with heap := h', toks := tk' } ∧ Fr h₀ L h' m₁ ∧ News h₀ L h' ((D, listOf vals.toArray k) :: (dx, rdD P t1 t2 t3 ll nd (j + 1) tq) :: tl) ∧ StrsAre vals us ∧ namesF P ws i = us ++ namesF P ws (j + 1) ∧ j + 1 = i + us.length ∧ j + 1 ≤ ws.length) →
        ∃ h' tk m₂ news₂ n', s₃ = { s with heap := h', toks := tk } ∧ Fr h₀ L h' m₂ ∧ News h₀ L h' news₂ ∧ n' < ws.length - j ∧ ∃ j us vals k tq, news₂ = (D, listOf vals.toArray k) :: (dx, rdD P t1 t2 t3 ll nd j tq) :: tl ∧ StrsAre vals us ∧ namesF P ws i = us ++ namesF P ws j ∧ j = i + us.length ∧ j ≤ ws.length ∧ n' = ws.length - j ∧ m₂ = m₁ := by
      rintro ⟨h', tk', us', vals', k', tq', e, F', N', a1, a2, a3, a4⟩
      exact ⟨h', tk', m₁, _, _, e, F', N', by omega, j + 1, us', vals', k', tq', rfl, a1, a2, a3, a4, rfl, rfl⟩
    cases f with
    | ret v => exact q
    | brk => exact q
    | next => exact go q
    | cont => exact go q
end
theorem nm_done {P : Params} {ws us : List Str} {i j : Nat} (he : namesF P ws i = us ++ namesF P ws j) (hn : nameF P ws j = false) : namesF P ws i = us := by
  rw [he, namesF_nil hn, List.append_nil]
theorem nm_end {s : Shared} {h₀ h' : Heap} {L : Addr} {P : Params} {tk' k j : Nat} {tq t : Tok} {us : List Str} {vals : List Value} {wd : Str} {Q : Flow → Shared → Prop}
    {tl : List (Addr × Obj)} {dx ll nd D : Addr} {t1 t2 t3 : Tok} {i : Nat} {ws : List Str} {m₀ : Str → Option Value} (F' : Fr h₀ L h' m₀)
    (N' : News h₀ L h' ((dx, rdD P t1 t2 t3 ll nd (j + 1) tq) :: (D, listOf (vals.toArray.push (.str wd t)) k) :: tl)) (hs : StrsAre vals us) (he : namesF P ws i = us ++ namesF P ws j) (hj : j = i + us.length) (hw : ws[j]? = some wd) (hn : nameF P ws j = true) :
    NmPost P h₀ L s D dx ll nd t1 t2 t3 tl ws i m₀ Q j .next { s with heap := h', toks := tk' } := by
  refine ⟨h', tk', us ++ [wd], vals ++ [.str wd t], k, tq, rfl, F', ?_, StrsAre.append' hs (.cons _ _ .nil), ?_, ?_, some_lt hw⟩
  · have := news_sw N'
    rw [List.push_toArray] at this
    exact this
  · rw [he, namesF_cons hw hn, List.append_assoc]; rfl
  · rw [List.length_append, hj]; rfl
end
section
section
variable {prog : Program} {w : World} {A : Around} {E : Value → Shared → Prop} {s : Shared} {env : Env} {h₀ : Heap} {x : Str} {body : List Stmt} {Q : Flow → Shared → Prop}
theorem unrPost_mono {L : Addr} {s₁ : Shared} {I : Addr} {it : Obj} {R R' : (Str → Option Value) → List (Addr × Obj) → Prop} (hR : ∀ m n, (∀ p ∈ n, p.1 ≠ I) → R m n → R' m n) {f : Flow} {s₂ : Shared} (h : UnrPost h₀ L s₁ I it R Q f s₂) : UnrPost h₀ L s₁ I it R' Q f s₂ := by
  have go : UnrEnd h₀ L s₁ I it R s₂ → UnrEnd h₀ L s₁ I it R' s₂ := fun ⟨h', tk, m', n', e, F, N, o, r⟩ => ⟨h', tk, m', n', e, F, N, o, hR _ _ o r⟩
  cases f with
  | ret v => exact h
  | brk => exact h
  | next => exact go h
  | cont => exact go h
theorem iter_J {ax : Addr} {lo : Obj} {vs : List Value} {n : Nat} {m₀ : Str → Option Value} {news : List (Addr × Obj)} (J : Nat → (Str → Option Value) → List (Addr × Obj) → Prop)
    (hh : A.handled = none) (F : Fr h₀ env.locals s.heap m₀) (N : News h₀ env.locals s.heap news) (hm : (ax, lo) ∈ news) (hc : lo.cls = .type "list") (hd : lo.data = .seq vs.toArray n) (j0 : J 0 m₀ news)
    (turn : ∀ I it i v m₁ nx h tk, vs[i]? = some v → (∀ p ∈ nx, p.1 ≠ I) → (ax, lo) ∈ nx → J i m₁ nx → Fr h₀ env.locals h (fun y => if y = x then some v else m₁ y) → News h₀ env.locals h ((I, it) :: nx) →
      wpAny (model prog w) A (execs body env) (UnrPost h₀ env.locals { s with heap := h, toks := tk } I it (fun m' n' => (ax, lo) ∈ n' ∧ J (i + 1) m' n') Q) E { s with heap := h, toks := tk })
    (done : ∀ m₁ nx h tk, J vs.length m₁ nx → Fr h₀ env.locals h m₁ → News h₀ env.locals h nx → Q .next { s with heap := h, toks := tk }) :
    wpAny (model prog w) A (pyIter (.ref ax)) (fun it s₂ => LoopAtV prog w A h₀ env x body Q E it s₂) E s := by
  refine iter_listUnr hh F N hm hc hd fun I hI => ?_
  have all : ∀ (r : List Value) (i : Nat) (m : Str → Option Value) (nx : List (Addr × Obj)), vs.drop i = r → i ≤ vs.length → J i m nx → (∀ p ∈ nx, p.1 ≠ I) → (ax, lo) ∈ nx → ListRest prog w A E h₀ env x body Q s I (ax, lo) r m nx := by
    intro r
    induction r with
    | nil =>
      intro i m nx hr hi hj ho hmm
      have e : i = vs.length := by have := List.drop_eq_nil_iff.mp hr; omega
      subst e
      exact ListRest.zero fun h tk F N => done m nx h tk hj F N
    | cons v r ih =>
      intro i m nx hr hi hj ho hmm
      have hlt : i < vs.length := by
        rcases Nat.lt_or_ge i vs.length with h | h
        · exact h
        · rw [List.drop_eq_nil_of_le h] at hr; cases hr
      have hv : vs[i]? = some v ∧ vs.drop (i + 1) = r := by
        rw [List.drop_eq_getElem_cons hlt] at hr
        have := List.cons.inj hr
        exact ⟨by rw [List.getElem?_eq_getElem hlt, this.1], this.2⟩
      refine ListRest.succ fun it h tk hit F N => ?_
      refine wpAny_mono (turn I it i v m nx h tk hv.1 ho hmm hj F N) (fun f s₂ p => unrPost_mono (fun m' n' o q => ⟨q.1, ih (i + 1) m' n' hv.2 hlt q.2 o q.1⟩) p) fun _ _ e => e
  exact all vs 0 m₀ news List.drop_zero (Nat.zero_le _) j0 (fun p hp => Nat.ne_of_lt (hI p hp)) hm
end

/-- the rows as tuples in the ledger -/
inductive KeysIn (news : List (Addr × Obj)) : List Value → List (Bool × Str) → Prop
  | nil : KeysIn news [] []
  | cons {a : Addr} {b : Bool} {nm : Str} {t : Tok} {n : Nat} {vs : List Value} {ks : List (Bool × Str)} :
      (a, ({ cls := .type "tuple", data := .seq [Value.bool b, Value.str nm t].toArray n } : Obj)) ∈ news → KeysIn news vs ks → KeysIn news (.ref a :: vs) ((b, nm) :: ks)
theorem KeysIn.mono {news news' : List (Addr × Obj)} {vs : List Value} {ks : List (Bool × Str)} (h : KeysIn news vs ks) (hs : ∀ p ∈ news, p ∈ news') : KeysIn news' vs ks := by
  induction h with
  | nil => exact .nil
  | cons h1 _ ih => exact .cons (hs _ h1) ih
theorem KeysIn.append {news : List (Addr × Obj)} {vs vs' : List Value} {ks ks' : List (Bool × Str)} (h : KeysIn news vs ks) (h' : KeysIn news vs' ks') : KeysIn news (vs ++ vs') (ks ++ ks') := by
  induction h with
  | nil => exact h'
  | cons h1 _ ih => exact .cons h1 ih
theorem KeysIn.length {news : List (Addr × Obj)} {vs : List Value} {ks : List (Bool × Str)} (h : KeysIn news vs ks) : vs.length = ks.length := by
  induction h with
  | nil => rfl
  | cons _ _ ih => rw [List.length_cons, List.length_cons, ih]
def keyD (k : Bool × Str) : PyData := .tuple [.bool k.1, .str k.2]
theorem KeysIn.reads {h₀ h : Heap} {L : Addr} {news : List (Addr × Obj)} {vs : List Value} {ks : List (Bool × Str)} (N : News h₀ L h news) (k : KeysIn news vs ks) : ∃ as, ReadsAll h vs (ks.map keyD) as := by
  induction k with
  | nil => exact ⟨_, ReadsAll.nil⟩
  | cons h1 _ ih =>
    obtain ⟨as, q⟩ := ih
    exact ⟨_, ReadsAll.cons (reads_tuple_at (N.get h1) rfl rfl (ReadsAll.cons (Reads.bool _) (ReadsAll.cons (Reads.str _ _) ReadsAll.nil))) q⟩

/-- what read_keys reads from place i on -/
inductive Keys (P : Params) (ws : List Str) : Nat → List (Bool × Str) → Nat → Prop
  | stop {i : Nat} : dirF ws i = none → Keys P ws i [] i
  | more {i j e : Nat} {b : Bool} {ks : List (Bool × Str)} : dirF ws i = some (b, j) → nameF P ws j = true → Keys P ws (j + (namesF P ws j).length) ks e → Keys P ws i ((namesF P ws j).map (fun nm => (b, nm)) ++ ks) e
abbrev wIsAsc : Str := ⟨⟨[105, 115, 95, 97, 115, 99, 101, 110, 100, 105, 110, 103]⟩⟩
abbrev wName : Str := ⟨⟨[110, 97, 109, 101]⟩⟩
def HeadAt (ws : List Str) (i : Nat) (va : Value) (j : Nat) : Prop := match dirF ws i with
  | some (b, j') => va = .bool b ∧ j = j'
  | none => va = .none ∧ j = i
theorem headAt_s {ws : List Str} {i j : Nat} {b : Bool} (h : dirF ws i = some (b, j)) : HeadAt ws i (.bool b) j := by unfold HeadAt; rw [h]; exact ⟨rfl, rfl⟩
theorem headAt_n {ws : List Str} {i : Nat} (h : dirF ws i = none) : HeadAt ws i .none i := by unfold HeadAt; rw [h]; exact ⟨rfl, rfl⟩
theorem dirF_lt {ws : List Str} {i j : Nat} {b : Bool} (h : dirF ws i = some (b, j)) : i < j := by
  have h1 : ∀ W k, k ≤ skipF ws W k := fun W k => by unfold skipF; split <;> omega
  unfold dirF at h
  have a := h1 wON i
  have c := h1 wKEY (skipF ws wON i + 1)
  split at h
  · cases h; omega
  · split at h
    · cases h; omega
    · cases h
theorem Keys.inv_s {P : Params} {ws : List Str} {i j e : Nat} {b : Bool} {ks : List (Bool × Str)} (hK : Keys P ws i ks e) (h : dirF ws i = some (b, j)) :
    nameF P ws j = true ∧ ∃ ks', ks = (namesF P ws j).map (fun nm => (b, nm)) ++ ks' ∧ Keys P ws (j + (namesF P ws j).length) ks' e := by
  cases hK with
  | stop h' => rw [h] at h'; cases h'
  | more h' hn hr => rw [h] at h'; cases h'; exact ⟨hn, _, rfl, hr⟩
theorem Keys.inv_n {P : Params} {ws : List Str} {i e : Nat} {ks : List (Bool × Str)} (hK : Keys P ws i ks e) (h : dirF ws i = none) : ks = [] ∧ e = i := by
  cases hK with
  | stop h' => exact ⟨rfl, rfl⟩
  | more h' hn hr => rw [h] at h'; cases h'
/-- the map at the loop's head -/
def rkM (m₀ : Str → Option Value) (va : Value) (u : Option Value) : Str → Option Value := fun y => if y = wIsAsc then some va else if y = wName then u else m₀ y
theorem rkM_of {m₁ : Str → Option Value} {va : Value} (h : m₁ wIsAsc = some va) : m₁ = rkM m₁ va (m₁ wName) := by
  funext y
  unfold rkM
  by_cases h1 : y = wIsAsc
  · rw [if_pos h1, h1, h]
  · rw [if_neg h1]
    by_cases h2 : y = wName
    · rw [if_pos h2, h2]
    · rw [if_neg h2]
section
variable {prog : Program} {w : World} {A : Around} {E : Value → Shared → Prop} {s : Shared} {h₀ : Heap} {L : Addr} {env : Env} {P : Params}
  {tl : List (Addr × Obj)} {dx ll nd D : Addr} {t1 t2 t3 : Tok} {ws : List Str} {m₀ : Str → Option Value} {ks : List (Bool × Str)} {e : Nat}
structure RkAt (P : Params) (ws : List Str) (ks : List (Bool × Str)) (e : Nat) (tl : List (Addr × Obj)) (D dx : Addr) (i : Nat) (va : Value) (j : Nat) (vals : List Value) (done rest : List (Bool × Str)) (tl' : List (Addr × Obj)) : Prop where
  sub : ∀ p ∈ tl, p ∈ tl'
  offD : ∀ p ∈ tl', p.1 ≠ D
  offx : ∀ p ∈ tl', p.1 ≠ dx
  keys : KeysIn tl' vals done
  split : ks = done ++ rest
  left : Keys P ws i rest e
  head : HeadAt ws i va j
  le : j ≤ ws.length
def RkPost (P : Params) (h₀ : Heap) (L : Addr) (s : Shared) (D dx ll nd : Addr) (t1 t2 t3 : Tok) (tl : List (Addr × Obj)) (ws : List Str) (ks : List (Bool × Str)) (e : Nat) (m₀ : Str → Option Value) (Q : Flow → Shared → Prop) (i : Nat) (f : Flow) (s₃ : Shared) : Prop :=
  match f with
  | .next | .cont => ∃ h' tk' i' va j vals done rest k tq tl' u, s₃ = { s with heap := h', toks := tk' } ∧ Fr h₀ L h' (rkM m₀ va u) ∧ News h₀ L h' ((D, listOf vals.toArray k) :: (dx, rdD P t1 t2 t3 ll nd j tq) :: tl') ∧ RkAt P ws ks e tl D dx i' va j vals done rest tl' ∧ i < i' ∧ i' ≤ ws.length
  | .brk => Q .next s₃
  | .ret v => Q (.ret v) s₃
theorem while_rk {Q : Flow → Shared → Prop} {test : PySem.Expr} {body : List Stmt} {pos : Pos} {vals₀ : List Value} {k₀ j₀ i₀ : Nat} {tq₀ : Tok} {va₀ : Value} {done₀ rest₀ : List (Bool × Str)} {tl₀ : List (Addr × Obj)} (ks : List (Bool × Str)) (e : Nat) (tl : List (Addr × Obj)) (ws : List Str)
    (F : Fr h₀ L s.heap m₀) (hva : m₀ wIsAsc = some va₀) (N : News h₀ L s.heap ((D, listOf vals₀.toArray k₀) :: (dx, rdD P t1 t2 t3 ll nd j₀ tq₀) :: tl₀)) (at₀ : RkAt P ws ks e tl D dx i₀ va₀ j₀ vals₀ done₀ rest₀ tl₀) (hi₀ : i₀ ≤ ws.length)
    (turn : ∀ i va j vals done rest k tq tl' u h tk, RkAt P ws ks e tl D dx i va j vals done rest tl' → i ≤ ws.length → Fr h₀ L h (rkM m₀ va u) → News h₀ L h ((D, listOf vals.toArray k) :: (dx, rdD P t1 t2 t3 ll nd j tq) :: tl') →
      wpAny (model prog w) A (isTrue test env (eval test env)) (fun b s₂ => WhlIf b (wpAny (model prog w) A (execs body env) (RkPost P h₀ L s D dx ll nd t1 t2 t3 tl ws ks e m₀ Q i) E s₂) (Q .next s₂)) E { s with heap := h, toks := tk })
    (hE : PassesOwn (model prog w) A env E := by passes_own) :
    wpAny (model prog w) A (exec (.While test body [] pos) env) Q E s := by
  refine While_inv2 (fun n m nx => ∃ i va j vals done rest k tq tl' u, nx = (D, listOf vals.toArray k) :: (dx, rdD P t1 t2 t3 ll nd j tq) :: tl' ∧ RkAt P ws ks e tl D dx i va j vals done rest tl' ∧ i ≤ ws.length ∧ m = rkM m₀ va u ∧ n = ws.length - i) F N ⟨i₀, va₀, j₀, vals₀, done₀, rest₀, k₀, tq₀, tl₀, m₀ wName, rfl, at₀, hi₀, rkM_of hva, rfl⟩ ?_ hE
  rintro n m₁ nx h tk F₁ N₁ ⟨i, va, j, vals, done, rest, k, tq, tl', u, rfl, a1, a2, rfl, rfl⟩
  refine wpAny_mono (turn i va j vals done rest k tq tl' u h tk a1 a2 F₁ N₁) (fun b s₂ p => ?_) fun _ _ x => x
  unfold WhlIf at p
  cases b with
  | false => simpa using p
  | true =>
    simp only [if_true] at p ⊢
    refine wpAny_mono p (fun f s₃ q => ?_) fun _ _ x => x
    cases f with
    | ret v => exact q
    | brk => exact q
    | next =>
      obtain ⟨h', tk', i', va', j', vals', done', rest', k', tq', tl'', u', e1, F', N', b1, b2, b3⟩ := q
      exact ⟨h', tk', _, _, _, e1, F', N', (by omega : ws.length - i' < ws.length - i), i', va', j', vals', done', rest', k', tq', tl'', u', rfl, b1, b3, rfl, rfl⟩
    | cont =>
      obtain ⟨h', tk', i', va', j', vals', done', rest', k', tq', tl'', u', e1, F', N', b1, b2, b3⟩ := q
      exact ⟨h', tk', _, _, _, e1, F', N', (by omega : ws.length - i' < ws.length - i), i', va', j', vals', done', rest', k', tq', tl'', u', rfl, b1, b3, rfl, rfl⟩
end
theorem rkM_set {m₀ : Str → Option Value} {va v : Value} {u : Option Value} : (fun y => if y = wIsAsc then some v else rkM m₀ va u y) = rkM m₀ v u := by
  funext y
  unfold rkM
  by_cases h1 : y = wIsAsc
  · rw [if_pos h1, if_pos h1]
  · rw [if_neg h1, if_neg h1, if_neg h1]
theorem rkM_name {m₀ : Str → Option Value} {va v : Value} {u : Option Value} : (fun y => if y = wName then some v else rkM m₀ va u y) = rkM m₀ va (some v) := by
  funext y
  unfold rkM
  by_cases h1 : y = wIsAsc
  · have : ¬ y = wName := by rw [h1]; decide
    rw [if_neg this, if_pos h1, if_pos h1]
  · by_cases h2 : y = wName
    · rw [if_pos h2, if_neg h1, if_pos h2]
    · rw [if_neg h2, if_neg h1, if_neg h2, if_neg h1, if_neg h2]
section
variable {prog : Program} {w : World} {A : Around} {E : Value → Shared → Prop} {s : Shared} {env : Env} {h₀ : Heap} {body : List Stmt} {Q : Flow → Shared → Prop}
  {m₀ : Str → Option Value} {va : Value} {tl tl₀ : List (Addr × Obj)} {D NL dx : Addr} {rd : Obj} {uv vals₀ : List Value} {us : List Str} {kn k₀ : Nat} {b : Bool} {done : List (Bool × Str)} {u₀ : Option Value}
abbrev tupO (vs : List Value) (n : Nat) : Obj := { cls := .type "tuple", data := .seq vs.toArray n }
def RkForPost (h₀ : Heap) (L : Addr) (s₁ : Shared) (m₀ : Str → Option Value) (va : Value) (D NL dx I : Addr) (it no rd : Obj) (b : Bool) (nm : Str) (t : Tok) (vals : List Value) (tl' : List (Addr × Obj)) (Q : Flow → Shared → Prop) (f : Flow) (s₂ : Shared) : Prop :=
  match f with
  | .next | .cont => ∃ h' tk' T t' n' k', s₂ = { s₁ with heap := h', toks := tk' } ∧ Fr h₀ L h' (rkM m₀ va (some (.str nm t))) ∧ News h₀ L h' ((T, tupO [.bool b, .str nm t'] n') :: (I, it) :: (D, listOf (vals.toArray.push (.ref T)) k') :: (NL, no) :: (dx, rd) :: tl') ∧ T ≠ D ∧ T ≠ dx ∧ T ≠ NL ∧ T ≠ I
  | .brk => Q .next s₂
  | .ret v => Q (.ret v) s₂
theorem for_rk (hh : A.handled = none) (F : Fr h₀ env.locals s.heap (rkM m₀ (.bool b) u₀)) (N : News h₀ env.locals s.heap ((NL, listOf uv.toArray kn) :: (dx, rd) :: (D, listOf vals₀.toArray k₀) :: tl₀)) (hs : StrsAre uv us)
    (sub : ∀ p ∈ tl, p ∈ tl₀) (oD : ∀ p ∈ tl₀, p.1 ≠ D) (ox : ∀ p ∈ tl₀, p.1 ≠ dx) (oN : ∀ p ∈ tl₀, p.1 ≠ NL) (n1 : NL ≠ D) (n2 : NL ≠ dx) (n3 : D ≠ dx) (hk : KeysIn tl₀ vals₀ done) (hbd : (done ++ us.map (fun nm => (b, nm))).length ≤ 1000)
    (turn : ∀ I it nm t vals dn k tl' h tk, D ≠ I → NL ≠ I → dx ≠ I → (∀ p ∈ tl', p.1 ≠ I) → (∀ p ∈ tl', p.1 ≠ D) → (∀ p ∈ tl', p.1 ≠ dx) → KeysIn tl' vals dn → vals.length ≤ 1000 → Fr h₀ env.locals h (rkM m₀ (.bool b) (some (.str nm t))) → News h₀ env.locals h ((I, it) :: (D, listOf vals.toArray k) :: (NL, listOf uv.toArray kn) :: (dx, rd) :: tl') →
      wpAny (model prog w) A (execs body env) (RkForPost h₀ env.locals { s with heap := h, toks := tk } m₀ (.bool b) D NL dx I it (listOf uv.toArray kn) rd b nm t vals tl' Q) E { s with heap := h, toks := tk })
    (fin : ∀ vals k tl' u h tk, (∀ p ∈ tl, p ∈ tl') → (∀ p ∈ tl', p.1 ≠ D) → (∀ p ∈ tl', p.1 ≠ dx) → KeysIn tl' vals (done ++ us.map (fun nm => (b, nm))) → Fr h₀ env.locals h (rkM m₀ (.bool b) u) → News h₀ env.locals h ((D, listOf vals.toArray k) :: (NL, listOf uv.toArray kn) :: (dx, rd) :: tl') → Q .next { s with heap := h, toks := tk }) :
    wpAny (model prog w) A (pyIter (.ref NL)) (fun it s₂ => LoopAtV prog w A h₀ env wName body Q E it s₂) E s := by
  refine iter_J (ax := NL) (lo := listOf uv.toArray kn) (vs := uv) (n := kn)
    (fun i m nx => ∃ u vals k tl', m = rkM m₀ (.bool b) u ∧ nx = (D, listOf vals.toArray k) :: (NL, listOf uv.toArray kn) :: (dx, rd) :: tl' ∧ (∀ p ∈ tl, p ∈ tl') ∧ (∀ p ∈ tl', p.1 ≠ D) ∧ (∀ p ∈ tl', p.1 ≠ dx) ∧ (∀ p ∈ tl', p.1 ≠ NL) ∧ KeysIn tl' vals (done ++ (us.take i).map (fun nm => (b, nm))))
    (news := (D, listOf vals₀.toArray k₀) :: (NL, listOf uv.toArray kn) :: (dx, rd) :: tl₀) hh F ?_ (by simp) rfl rfl ⟨u₀, vals₀, k₀, tl₀, rfl, rfl, sub, oD, ox, oN, by simpa using hk⟩ ?_ ?_
  · intro p hp
    refine N p ?_
    simp only [List.mem_cons] at hp ⊢
    rcases hp with h | h | h | h <;> simp [h]
  · rintro I it i v m₁ nx h tk hv ho hmm ⟨u, vals, k, tl', rfl, rfl, a1, a2, a3, a4, a5⟩ F₁ N₁
    obtain ⟨nm, hnm⟩ : ∃ nm, us[i]? = some nm := by
      have hlt : i < us.length := by rw [← hs.length]; exact (List.getElem?_eq_some_iff.mp hv).1
      exact ⟨us[i], List.getElem?_eq_getElem hlt⟩
    obtain ⟨t, ht⟩ := StrsAre.get hs i nm hnm
    obtain rfl : v = .str nm t := Option.some.inj (hv.symm.trans ht)
    rw [rkM_name] at F₁
    have q := turn I it nm t vals _ k tl' h tk (ho (D, listOf vals.toArray k) (by simp)) (ho (NL, listOf uv.toArray kn) (by simp)) (ho (dx, rd) (by simp)) (fun p hp => ho p (by simp [hp])) a2 a3 a5 (by rw [a5.length]; simp only [List.length_append, List.length_map, List.length_take] at hbd ⊢; omega) F₁ N₁
    refine wpAny_mono q (fun f s₂ z => ?_) fun _ _ z => z
    have go : (∃ h' tk' T t' n' k', s₂ = { s with heap := h', toks := tk' } ∧ Fr h₀ env.locals h' (rkM m₀ (.bool b) (some (.str nm t))) ∧ News h₀ env.locals h' ((T, tupO [.bool b, .str nm t'] n') :: (I, it) :: (D, listOf (vals.toArray.push (.ref T)) k') :: (NL, listOf uv.toArray kn) :: (dx, rd) :: tl') ∧ T ≠ D ∧ T ≠ dx ∧ T ≠ NL ∧ T ≠ I) →
        UnrEnd h₀ env.locals { s with heap := h, toks := tk } I it (fun m' n' => (NL, listOf uv.toArray kn) ∈ n' ∧ ∃ u vals k tl', m' = rkM m₀ (.bool b) u ∧ n' = (D, listOf vals.toArray k) :: (NL, listOf uv.toArray kn) :: (dx, rd) :: tl' ∧ (∀ p ∈ tl, p ∈ tl') ∧ (∀ p ∈ tl', p.1 ≠ D) ∧ (∀ p ∈ tl', p.1 ≠ dx) ∧ (∀ p ∈ tl', p.1 ≠ NL) ∧ KeysIn tl' vals (done ++ (us.take (i + 1)).map (fun nm => (b, nm)))) s₂ := by
      rintro ⟨h', tk', T, t', n', k', rfl, F', N', b1, b2, b3, b4⟩
      refine ⟨h', tk', _, (D, listOf (vals ++ [Value.ref T]).toArray k') :: (NL, listOf uv.toArray kn) :: (dx, rd) :: (T, tupO [.bool b, .str nm t'] n') :: tl', rfl, F', ?_, ?_, by simp, some (.str nm t), vals ++ [Value.ref T], k', (T, tupO [.bool b, .str nm t'] n') :: tl', rfl, rfl, fun p hp => .tail _ (a1 p hp), ?_, ?_, ?_, ?_⟩
      · intro p hp
        rw [List.push_toArray] at N'
        refine N' p ?_
        simp only [List.mem_cons] at hp ⊢
        rcases hp with h | h | h | h | h | h <;> simp [h]
      · intro p hp
        simp only [List.mem_cons] at hp
        rcases hp with rfl | rfl | rfl | rfl | hp
        · exact ho (D, listOf vals.toArray k) (by simp)
        · exact ho (NL, listOf uv.toArray kn) (by simp)
        · exact ho (dx, rd) (by simp)
        · exact b4
        · exact ho p (by simp [hp])
      · intro p hp
        rcases List.mem_cons.mp hp with rfl | hp
        · exact b1
        · exact a2 p hp
      · intro p hp
        rcases List.mem_cons.mp hp with rfl | hp
        · exact b2
        · exact a3 p hp
      · intro p hp
        rcases List.mem_cons.mp hp with rfl | hp
        · exact b3
        · exact a4 p hp
      · have e : us.take (i + 1) = us.take i ++ [nm] := by rw [List.take_add_one, hnm]; rfl
        rw [e, List.map_append, ← List.append_assoc]
        exact (a5.mono fun p hp => .tail _ hp).append (.cons (.head _) .nil)
    cases f with
    | ret v => exact z
    | brk => exact z
    | next => exact go z
    | cont => exact go z
  · rintro m₁ nx h tk ⟨u, vals, k, tl', rfl, rfl, a1, a2, a3, a4, a5⟩ F₁ N₁
    rw [hs.length, List.take_length] at a5
    exact fin vals k tl' u h tk a1 a2 a3 a5 F₁ N₁
end
theorem RdT.mono {P : Params} {tl tl' : List (Addr × Obj)} {x dx ll : Addr} {n : Nat} {vs : List Value} {ws : List Str} (h : RdT P tl x dx ll n vs ws) (hs : ∀ p ∈ tl, p ∈ tl') (ho : ∀ p ∈ tl', p.1 ≠ dx) : RdT P tl' x dx ll n vs ws :=
  ⟨hs _ h.hx, hs _ h.hl, h.toks.mono hs, ho, h.len⟩
theorem news_sw3 {h₀ h : Heap} {L : Addr} {a b c : Addr × Obj} {r : List (Addr × Obj)} (N : News h₀ L h (a :: b :: c :: r)) : News h₀ L h (c :: a :: b :: r) := fun p hp => N p (by
  simp only [List.mem_cons] at hp ⊢
  rcases hp with h | h | h | h <;> simp [h])
section
variable {prog : Program} {w : World} {A : Around} {E : Value → Shared → Prop} {s : Shared} {h₀ : Heap} {L : Addr} {env : Env} {P : Params}
  {tl : List (Addr × Obj)} {x dx ll nd D : Addr} {t1 t2 t3 : Tok} {ws : List Str} {m₀ : Str → Option Value} {ks : List (Bool × Str)} {e n : Nat} {vs : List Value}
theorem while_rk2 {Q : Flow → Shared → Prop} {test : PySem.Expr} {body : List Stmt} {pos : Pos} {k₀ j₀ i₀ : Nat} {tq₀ : Tok} {va₀ : Value} (hK : Keys P ws i₀ ks e) (hR : RdT P tl x dx ll n vs ws)
    (F : Fr h₀ L s.heap m₀) (hva : m₀ wIsAsc = some va₀) (N : News h₀ L s.heap ((dx, rdD P t1 t2 t3 ll nd j₀ tq₀) :: (D, listOf ([] : List Value).toArray k₀) :: tl)) (oD : ∀ p ∈ tl, p.1 ≠ D) (hh : HeadAt ws i₀ va₀ j₀) (hj₀ : j₀ ≤ ws.length) (hi₀ : i₀ ≤ ws.length)
    (turnN : ∀ i vals k tq tl' u h tk, RdT P tl' x dx ll n vs ws → (∀ p ∈ tl, p ∈ tl') → (∀ p ∈ tl', p.1 ≠ D) → KeysIn tl' vals ks → e ≤ ws.length → Fr h₀ L h (rkM m₀ .none u) → News h₀ L h ((D, listOf vals.toArray k) :: (dx, rdD P t1 t2 t3 ll nd e tq) :: tl') →
      wpAny (model prog w) A (isTrue test env (eval test env)) (fun b s₂ => WhlIf b (wpAny (model prog w) A (execs body env) (RkPost P h₀ L s D dx ll nd t1 t2 t3 tl ws ks e m₀ Q i) E s₂) (Q .next s₂)) E { s with heap := h, toks := tk })
    (turnS : ∀ i b j vals done rest k tq tl' u h tk, dirF ws i = some (b, j) → nameF P ws j = true → Keys P ws (j + (namesF P ws j).length) rest e → ks = (done ++ (namesF P ws j).map (fun nm => (b, nm))) ++ rest → RdT P tl' x dx ll n vs ws → (∀ p ∈ tl, p ∈ tl') → (∀ p ∈ tl', p.1 ≠ D) → KeysIn tl' vals done → j ≤ ws.length →
      Fr h₀ L h (rkM m₀ (.bool b) u) → News h₀ L h ((D, listOf vals.toArray k) :: (dx, rdD P t1 t2 t3 ll nd j tq) :: tl') →
      wpAny (model prog w) A (isTrue test env (eval test env)) (fun b s₂ => WhlIf b (wpAny (model prog w) A (execs body env) (RkPost P h₀ L s D dx ll nd t1 t2 t3 tl ws ks e m₀ Q i) E s₂) (Q .next s₂)) E { s with heap := h, toks := tk })
    (hE : PassesOwn (model prog w) A env E := by passes_own) :
    wpAny (model prog w) A (exec (.While test body [] pos) env) Q E s := by
  refine while_rk ks e tl ws F hva (news_sw N) ⟨fun _ h => h, oD, hR.off, .nil, rfl, hK, hh, hj₀⟩ hi₀ ?_ hE
  intro i va j vals done rest k tq tl' u h tk a hi F' N'
  obtain ⟨b1, b2, b3, b4, b5, b6, b7, b8⟩ := a
  have hR' := hR.mono b1 b3
  cases q : dirF ws i with
  | none =>
    unfold HeadAt at b7
    rw [q] at b7
    obtain ⟨rfl, rfl⟩ := b7
    obtain ⟨c1, c2⟩ := b6.inv_n q
    subst c1; subst c2
    rw [List.append_nil] at b5
    subst b5
    exact turnN _ vals k tq tl' u h tk hR' b1 b2 b4 b8 F' N'
  | some p =>
    obtain ⟨b, j'⟩ := p
    unfold HeadAt at b7
    rw [q] at b7
    obtain ⟨rfl, rfl⟩ := b7
    obtain ⟨c1, rest', c2, c3⟩ := b6.inv_s q
    exact turnS i b j vals done rest' k tq tl' u h tk q c1 c3 (by rw [b5, c2, List.append_assoc]) hR' b1 b2 b4 b8 F' N'
theorem rk_end {Q : Flow → Shared → Prop} {i j j' : Nat} {bb : Bool} {va v : Value} {u : Option Value} {h' : Heap} {tk' k : Nat} {tq : Tok} {vals : List Value} {done rest : List (Bool × Str)} {tl' tl'' : List (Addr × Obj)} {NL : Addr × Obj}
    (N' : News h₀ L h' ((dx, rdD P t1 t2 t3 ll nd j' tq) :: (D, listOf vals.toArray k) :: NL :: tl'')) (F' : Fr h₀ L h' (fun y => if y = wIsAsc then some v else rkM m₀ va u y)) (hK : Keys P ws (j + (namesF P ws j).length) rest e) (hh : HeadAt ws (j + (namesF P ws j).length) v j') (hd : dirF ws i = some (bb, j))
    (hs : ks = (done ++ (namesF P ws j).map (fun nm => (bb, nm))) ++ rest) (s1 : ∀ p ∈ tl, p ∈ tl') (s2 : ∀ p ∈ tl', p ∈ tl'') (oD : ∀ p ∈ tl'', p.1 ≠ D) (ox : ∀ p ∈ tl'', p.1 ≠ dx) (hk : KeysIn tl'' vals (done ++ (namesF P ws j).map (fun nm => (bb, nm)))) (hl : j' ≤ ws.length) (hl2 : j + (namesF P ws j).length ≤ ws.length) :
    RkPost P h₀ L s D dx ll nd t1 t2 t3 tl ws ks e m₀ Q i .next { s with heap := h', toks := tk' } := by
  refine ⟨h', tk', j + (namesF P ws j).length, v, j', vals, _, rest, k, tq, tl'', u, rfl, rkM_set ▸ F', ?_, ⟨fun p h => s2 p (s1 p h), oD, ox, hk, hs, hK, hh, hl⟩, ?_, hl2⟩
  · intro p hp
    refine N' p ?_
    simp only [List.mem_cons] at hp ⊢
    rcases hp with h | h | h <;> simp [h]
  · have := dirF_lt hd; omega
end
theorem truthy_keys {prog : Program} {w : World} {A : Around} {E : Value → Shared → Prop} {s : Shared} {h₀ : Heap} {L D : Addr} {news tl : List (Addr × Obj)} {vals : List Value} {k : Nat} {ks : List (Bool × Str)} {Q : Bool → Shared → Prop} (N : News h₀ L s.heap news) (hm : (D, listOf vals.toArray k) ∈ news) (hk : KeysIn tl vals ks) (hne : ks ≠ []) (hl : ks.length ≤ 1000)
    (h : Q true { s with toks := s.toks + 1 + 1 }) : wpAny (model prog w) A (truthy (.ref D)) Q E s := by
  have hL : s.heap.IsList D vals.toArray := ⟨_, (N _ hm).1, rfl, k, rfl⟩
  have hlen := hk.length
  refine wpAny_truthy_list hL (by rw [List.size_toArray, hlen]; omega) ?_
  have e : (!vals.toArray.isEmpty) = true := by
    cases hk with
    | nil => exact absurd rfl hne
    | cons _ _ => rfl
  rw [e]; exact h
theorem tuple_keys {prog : Program} {w : World} {A : Around} {E : Value → Shared → Prop} {s : Shared} {h₀ : Heap} {L D : Addr} {m : Str → Option Value} {news tl : List (Addr × Obj)} {vals : List Value} {k : Nat} {ks : List (Bool × Str)} {Q : Value → Shared → Prop} (F : Fr h₀ L s.heap m) (N : News h₀ L s.heap news) (hm : (D, listOf vals.toArray k) ∈ news) (hk : KeysIn tl vals ks) (hl : ks.length ≤ 1000)
    (h : ∀ R h', Fr h₀ L h' m → News h₀ L h' ((R, tupO vals 0) :: news) → (∀ p ∈ news, p.1 < R) → Q (.ref R) { s with heap := h' }) : wpAny (model prog w) A (call (.type "tuple") [.ref D]) Q E s := by
  have hL : s.heap.IsList D vals.toArray := ⟨_, (N _ hm).1, rfl, k, rfl⟩
  have hlen := hk.length
  exact kde_tupleOf F N hL (by rw [List.size_toArray, hlen]; omega) rfl h
theorem len_of {ks d r : List (Bool × Str)} (h : ks = d ++ r) (hk : ks.length ≤ 1000) : d.length ≤ 1000 := by
  rw [h, List.length_append] at hk; omega
theorem rkfor_end {h₀ h' : Heap} {L : Addr} {s₁ : Shared} {m₀ : Str → Option Value} {va : Value} {D NL dx I T : Addr} {it no rd : Obj} {b : Bool} {nm : Str} {t t' : Tok} {vals : List Value} {tl' : List (Addr × Obj)} {Q : Flow → Shared → Prop} {tk' n' k' : Nat}
    (F' : Fr h₀ L h' (rkM m₀ va (some (.str nm t)))) (N' : News h₀ L h' ((T, tupO [.bool b, .str nm t'] n') :: (I, it) :: (D, listOf (vals.toArray.push (.ref T)) k') :: (NL, no) :: (dx, rd) :: tl')) (h1 : T ≠ D) (h2 : T ≠ dx) (h3 : T ≠ NL) (h4 : T ≠ I) :
    RkForPost h₀ L s₁ m₀ va D NL dx I it no rd b nm t vals tl' Q .next { s₁ with heap := h', toks := tk' } := ⟨h', tk', T, t', n', k', rfl, F', N', h1, h2, h3, h4⟩
theorem news_drop2 {h₀ h : Heap} {L : Addr} {a b : Addr × Obj} {r : List (Addr × Obj)} (N : News h₀ L h (a :: b :: r)) : News h₀ L h (a :: r) := fun p hp => N p (by
  simp only [List.mem_cons] at hp ⊢
  rcases hp with h | h <;> simp [h])
end
section
abbrev rdR (P : Params) (t1 t2 t3 : Tok) (ll nd : Addr) (i : Nat) (tk : Tok) : Obj :=
  dictOf [ent P ⟨⟨[116, 111, 107, 101, 110, 115]⟩⟩ t1 (.ref ll), ent P ⟨⟨[97, 116]⟩⟩ t2 (.int (i : Int) tk), ent P ⟨⟨[110, 97, 109, 101, 100]⟩⟩ t3 (.ref nd)] 3
abbrev tkR (P : Params) (t1 t2 t3 t4 t5 t6 : Tok) (ad : Value) (wd : Str) : Obj :=
  dictOf [ent P ⟨⟨[107, 105, 110, 100]⟩⟩ t1 (.str ⟨⟨[119, 111, 114, 100]⟩⟩ t5), ent P ⟨⟨[119, 111, 114, 116, 104]⟩⟩ t2 (.str wd t6), ent P ⟨⟨[97, 116]⟩⟩ t3 ad, ent P ⟨⟨[105, 115, 95, 105, 110, 95, 97]⟩⟩ t4 (.bool false)] 4
theorem raw_tokens : (⟨⟨[116, 111, 107, 101, 110, 115]⟩⟩ : Str) = Str.ofString "tokens" := by decide +kernel
theorem raw_at : (⟨⟨[97, 116]⟩⟩ : Str) = Str.ofString "at" := by decide +kernel
theorem raw_named : (⟨⟨[110, 97, 109, 101, 100]⟩⟩ : Str) = Str.ofString "named" := by decide +kernel
theorem raw_kind : (⟨⟨[107, 105, 110, 100]⟩⟩ : Str) = Str.ofString "kind" := by decide +kernel
theorem raw_worth : (⟨⟨[119, 111, 114, 116, 104]⟩⟩ : Str) = Str.ofString "worth" := by decide +kernel
theorem raw_isina : (⟨⟨[105, 115, 95, 105, 110, 95, 97]⟩⟩ : Str) = Str.ofString "is_in_a" := by decide +kernel
theorem raw_word : (⟨⟨[119, 111, 114, 100]⟩⟩ : Str) = Str.ofString "word" := by decide +kernel
theorem rdR_eq (P : Params) (t1 t2 t3 : Tok) (ll nd : Addr) (i : Nat) (tk : Tok) : rdR P t1 t2 t3 ll nd i tk = rdD P t1 t2 t3 ll nd i tk := by
  unfold rdR rdD
  rw [raw_tokens, raw_at, raw_named]
theorem tkR_eq (P : Params) (t1 t2 t3 t4 t5 t6 : Tok) (ad : Value) (wd : Str) : tkR P t1 t2 t3 t4 t5 t6 ad wd = tkD P t1 t2 t3 t4 t5 t6 ad wd := by
  unfold tkR tkD
  rw [raw_kind, raw_worth, raw_at, raw_isina, raw_word]
theorem Toks.append {P : Params} {tl : List (Addr × Obj)} {vs vs' : List Value} {ws ws' : List Str} (h : Toks P tl vs ws) (h' : Toks P tl vs' ws') : Toks P tl (vs ++ vs') (ws ++ ws') := by
  induction h with
  | nil => exact h'
  | cons h1 h2 h3 _ ih => exact .cons h1 h2 h3 ih
section
variable {prog : Program} {w : World} {A : Around} {h₀ : Heap} {L : Addr} {m : Str → Option Value} {env : Env} {elt : Expr} {x : Str} {scope : Scope} {cl : List (Str × Addr)} {s : Shared} {S : List (Addr × Obj) → Prop} {PP : Nat → Value → Prop} {Fin : List Value → List (Addr × Obj) → Prop} {news : List (Addr × Obj)}
theorem compJ {n : Nat} (J : Nat → List Value → List (Addr × Obj) → Prop) (j0 : J 0 [] news)
    (turn : ∀ i v ys nx I oI C oC D m₂ h tk (E' : Value → Shared → Prop), PP i v → i < n → J i ys nx → LCg.NsObj oC m₂ → m₂ x = some v → Fr h₀ L h m → News h₀ L h ((I, oI) :: (C, oC) :: (D, LCg.lst ys) :: nx) → LCg.Off3 I C D nx → ((@Ne Nat I C) ∧ (@Ne Nat I D) ∧ (@Ne Nat C D)) →
      wpAny (model prog w) A (eval elt (compEnvC scope cl C env)) (LCg.CompEnd h₀ L m { s with heap := h, toks := tk } I oI C oC D (LCg.lst ys) S (fun y nx' => J (i + 1) (ys ++ [y]) nx')) E' { s with heap := h, toks := tk })
    (fin : ∀ ys nx, J n ys nx → Fin ys nx) : LCg.CompRest prog w A h₀ L m env elt x scope cl s S PP Fin n 0 [] news := by
  have key : ∀ (j i : Nat) (ys : List Value) (nx : List (Addr × Obj)), i + j = n → J i ys nx → LCg.CompRest prog w A h₀ L m env elt x scope cl s S PP Fin j i ys nx := by
    intro j
    induction j with
    | zero =>
      intro i ys nx hi hj
      obtain rfl : i = n := by omega
      exact LCg.CompRest.zero (fin ys nx hj)
    | succ j ih =>
      intro i ys nx hi hj
      refine LCg.CompRest.succ ?_
      intro v I oI C oC D m₂ h tk E' hv hC hx F N off ne
      refine wpAny_mono (turn i v ys nx I oI C oC D m₂ h tk E' hv (by omega) hj hC hx F N off ne) (fun y s₂ hq => ?_) fun _ _ e => e
      obtain ⟨h', tk', nw, e, F', N', off', hS, hn⟩ := hq
      exact ⟨h', tk', nw, e, F', N', off', hS, ih (i + 1) _ nw (by omega) hn⟩
  exact key n 0 [] news (by omega) j0
def TokEnd (P : Params) (h₀ : Heap) (L : Addr) (m : Str → Option Value) (s₁ : Shared) (I : Addr) (oI : Obj) (C : Addr) (oC : Obj) (D : Addr) (ys : List Value) (nx : List (Addr × Obj)) (nm : Str) (y : Value) (s₂ : Shared) : Prop :=
  ∃ h' tk' a d t1 t2 t3 t4 t5 t6 ad, y = .ref a ∧ s₂ = { s₁ with heap := h', toks := tk' } ∧ Fr h₀ L h' m ∧ News h₀ L h' ((a, instObj 282 d) :: (d, tkR P t1 t2 t3 t4 t5 t6 ad nm) :: (I, oI) :: (C, oC) :: (D, LCg.lst ys) :: nx) ∧ (∀ b ∈ [I, C, D], (@Ne Nat a b) ∧ (@Ne Nat d b))
theorem tok_end {P : Params} {h' : Heap} {s₁ : Shared} {tk' : Nat} {I C D a d : Addr} {oI oC : Obj} {ys : List Value} {nx : List (Addr × Obj)} {nm : Str} {t1 t2 t3 t4 t5 t6 : Tok} {ad : Value} (F : Fr h₀ L h' m) (N : News h₀ L h' ((a, instObj 282 d) :: (d, tkR P t1 t2 t3 t4 t5 t6 ad nm) :: (I, oI) :: (C, oC) :: (D, LCg.lst ys) :: nx))
    (h1 : @Ne Nat a I) (h2 : @Ne Nat a C) (h3 : @Ne Nat a D) (h4 : @Ne Nat d I) (h5 : @Ne Nat d C) (h6 : @Ne Nat d D) : TokEnd P h₀ L m s₁ I oI C oC D ys nx nm (.ref a) { s₁ with heap := h', toks := tk' } :=
  ⟨h', tk', a, d, t1, t2, t3, t4, t5, t6, ad, rfl, rfl, F, N, fun b hb => by
    simp only [List.mem_cons, List.not_mem_nil, or_false] at hb
    rcases hb with rfl | rfl | rfl
    · exact ⟨h1, h4⟩
    · exact ⟨h2, h5⟩
    · exact ⟨h3, h6⟩⟩
theorem comp_tok {vals : List Value} {us : List Str} {ax : Addr} {k : Nat} (hs : StrsAre vals us) (hm : (ax, listOf vals.toArray k) ∈ news) (hw : ∀ u ∈ us, u.length ≤ 100)
    (turn : ∀ nm t ys nx I oI C oC D m₂ h tk (E' : Value → Shared → Prop), nm.length ≤ 100 → LCg.NsObj oC m₂ → m₂ x = some (.str nm t) → Fr h₀ L h m → News h₀ L h ((I, oI) :: (C, oC) :: (D, LCg.lst ys) :: nx) → LCg.Off3 I C D nx → ((@Ne Nat I C) ∧ (@Ne Nat I D) ∧ (@Ne Nat C D)) →
      wpAny (model prog w) A (eval elt (compEnvC scope cl C env)) (TokEnd w.params h₀ L m { s with heap := h, toks := tk } I oI C oC D ys nx nm) E' { s with heap := h, toks := tk })
    (fin : ∀ ys nx, Toks w.params nx ys us → (∀ p ∈ news, p ∈ nx) → Fin ys nx) :
    LCg.CompRest prog w A h₀ L m env elt x scope cl s (LCg.SrcAt h₀ ax vals.toArray) (fun i v => vals.toArray[i]? = some v) Fin vals.toArray.size 0 [] news := by
  refine compJ (fun i ys nx => Toks w.params nx ys (us.take i) ∧ ∀ p ∈ news, p ∈ nx) ⟨.nil, fun _ h => h⟩ ?_ ?_
  · rintro i v ys nx I oI C oC D m₂ h tk E' hv hlt ⟨j1, j2⟩ hC hx F N off ne
    rw [List.size_toArray] at hlt
    obtain ⟨nm, hnm⟩ : ∃ nm, us[i]? = some nm := ⟨us[i]'(by rw [← hs.length]; exact hlt), List.getElem?_eq_getElem _⟩
    obtain ⟨t, ht⟩ := StrsAre.get hs i nm hnm
    obtain rfl : v = .str nm t := Option.some.inj ((by simpa using hv : vals[i]? = some v).symm.trans ht)
    refine wpAny_mono (turn nm t ys nx I oI C oC D m₂ h tk E' (hw nm (List.mem_of_getElem? hnm)) hC hx F N off ne) (fun y s₂ q => ?_) fun _ _ e => e
    obtain ⟨h', tk', a, d, t1, t2, t3, t4, t5, t6, ad, rfl, rfl, F', N', hne⟩ := q
    have off' := off.mem
    refine ⟨h', tk', (a, instObj 282 d) :: (d, tkR w.params t1 t2 t3 t4 t5 t6 ad nm) :: nx, rfl, F', ?_, ?_, ?_, ?_, ?_⟩
    · intro p hp
      refine N' p ?_
      simp only [List.mem_cons] at hp ⊢
      rcases hp with h | h | h | h | h | h <;> simp [h]
    · refine LCg.Off3.of fun p hp => ?_
      rcases List.mem_cons.mp hp with rfl | hp
      · exact ⟨(hne I (by simp)).1, (hne C (by simp)).1, (hne D (by simp)).1⟩
      · rcases List.mem_cons.mp hp with rfl | hp
        · exact ⟨(hne I (by simp)).2, (hne C (by simp)).2, (hne D (by simp)).2⟩
        · exact off' p hp
    · exact .inr ⟨_, .tail _ (.tail _ (j2 _ hm)), rfl, k, rfl⟩
    · have e : us.take (i + 1) = us.take i ++ [nm] := by rw [List.take_add_one, hnm]; rfl
      rw [e]
      have hd : (d, tkD w.params t1 t2 t3 t4 t5 t6 ad nm) ∈ (a, instObj 282 d) :: (d, tkR w.params t1 t2 t3 t4 t5 t6 ad nm) :: nx := by
        rw [← tkR_eq]
        exact .tail _ (.head _)
      exact (j1.mono fun p hp => .tail _ (.tail _ hp)).append (.cons (.head _) hd (hw nm (List.mem_of_getElem? hnm)) .nil)
    · exact fun p hp => .tail _ (.tail _ (j2 p hp))
  · rintro ys nx ⟨j1, j2⟩
    rw [List.size_toArray, hs.length, List.take_length] at j1
    exact fin ys nx j1 j2
end
theorem add_strs {prog : Program} {w : World} {A : Around} {E : Value → Shared → Prop} {s : Shared} {h₀ : Heap} {L l l' : Addr} {m : Str → Option Value} {news : List (Addr × Obj)} {uv bv : List Value} {us bs : List Str} {k1 k2 : Nat} {Q : Value → Shared → Prop}
    (F : Fr h₀ L s.heap m) (N : News h₀ L s.heap news) (hm1 : (l, listOf uv.toArray k1) ∈ news) (hm2 : (l', listOf bv.toArray k2) ∈ news) (hsu : StrsAre uv us) (hsb : StrsAre bv bs) (hlen : (us ++ bs).length ≤ 1000)
    (h : ∀ D h', Fr h₀ L h' m → News h₀ L h' ((D, listOf (uv ++ bv).toArray 0) :: news) → (∀ p ∈ news, p.1 < D) → StrsAre (uv ++ bv) (us ++ bs) → Q (.ref D) { s with heap := h' }) :
    wpAny (model prog w) A (binaryOp .Add (.ref l) (.ref l')) Q E s :=
  add_lists F N ⟨_, (N _ hm1).1, rfl, k1, rfl⟩ ⟨_, (N _ hm2).1, rfl, k2, rfl⟩ (fun h' F' N' => h _ h' F' N' (fun p hp => Heap.lt_size (N p hp).1) (StrsAre.append' hsu hsb))
    (by rw [hsu.length, hsb.length]; rw [List.length_append] at hlen; rw [sizeLine_eq]; omega)
theorem size_strs {vals : List Value} {us : List Str} (hs : StrsAre vals us) (hl : us.length ≤ 1000) : vals.toArray.size ≤ sizeLine := by
  rw [List.size_toArray, hs.length, sizeLine_eq]; omega
theorem rdt_new {P : Params} {x dx nd D : Addr} {o : Obj} {ys : List Value} {nx : List (Addr × Obj)} {us : List Str} (hT : Toks P nx ys us) (hl : us.length ≤ 1000) (h1 : nd ≠ dx) (h2 : x ≠ dx) (h3 : D ≠ dx) (h4 : ∀ p ∈ nx, p.1 ≠ dx) :
    RdT P ((nd, o) :: (x, instObj 252 dx) :: (D, LCg.lst ys) :: nx) x dx D ys.length ys us :=
  ⟨.tail _ (.head _), .tail _ (.tail _ (.head _)), hT.mono fun _ h => .tail _ (.tail _ (.tail _ h)), fun p hp => by
    simp only [List.mem_cons] at hp
    rcases hp with rfl | rfl | rfl | hp
    · exact h1
    · exact h2
    · exact h3
    · exact h4 p hp, hl⟩
theorem Keys.last {P : Params} {ws : List Str} {i e : Nat} {ks : List (Bool × Str)} (h : Keys P ws i ks e) : dirF ws e = none := by
  induction h with
  | stop h => exact h
  | more _ _ _ ih => exact ih
theorem dir_abs {ws : List Str} {i : Nat} {p : Bool × Nat} (h : dirF ws i = none) (h2 : dirF ws i = some p) : False := by rw [h] at h2; cases h2
theorem lr_mem {nx news tl' : List (Addr × Obj)} {a b c d q : Addr × Obj} (h2 : ∀ p ∈ a :: b :: c :: nx, p ∈ tl') (h1 : ∀ p ∈ d :: news, p ∈ nx) (hm : q ∈ news) : q ∈ tl' := h2 _ (.tail _ (.tail _ (.tail _ (h1 _ (.tail _ hm)))))
theorem len_strs {prog : Program} {w : World} {A : Around} {E : Value → Shared → Prop} {s : Shared} {h₀ : Heap} {L l : Addr} {news : List (Addr × Obj)} {vals : List Value} {us : List Str} {k : Nat} {Q : Value → Shared → Prop} (N : News h₀ L s.heap news) (hm : (l, listOf vals.toArray k) ∈ news) (hs : StrsAre vals us) (hl : us.length ≤ 1000)
    (h : Q (.int (us.length : Int) (s.toks + 1)) { s with toks := s.toks + 1 + 1 }) : wpAny (model prog w) A (call (.builtin "len") [.ref l]) Q E s := by
  have e : vals.toArray.size = us.length := by rw [List.size_toArray, hs.length]
  exact len_list ⟨_, (N _ hm).1, rfl, k, rfl⟩ (by rw [e]; omega) (by rw [e]; exact h)
theorem news_d3 {h₀ h : Heap} {L : Addr} {a b c : Addr × Obj} {r : List (Addr × Obj)} (N : News h₀ L h (a :: b :: c :: r)) : News h₀ L h (a :: b :: r) := fun p hp => N p (by
  simp only [List.mem_cons] at hp ⊢
  rcases hp with h | h | h <;> simp [h])
theorem news_d2 {h₀ h : Heap} {L : Addr} {a b c : Addr × Obj} {r : List (Addr × Obj)} (N : News h₀ L h (a :: b :: c :: r)) : News h₀ L h (a :: c :: r) := fun p hp => N p (by
  simp only [List.mem_cons] at hp ⊢
  rcases hp with h | h | h <;> simp [h])
def phraseF (b : Bool) (nm : Str) (sd : Int) : List Str :=
  (if sd.fmod 2 = 1 then [Str.ofString "ON"] else []) ++ [if b = true then Str.ofString "ASCENDING" else Str.ofString "DESCENDING"] ++ (if (sd.fdiv 2).fmod 2 = 1 then [Str.ofString "KEY"] else []) ++ [nm]
theorem phr {b : Bool} {nm : Str} {sd : Int} {vals : List Value} {us : List Str} (h : StrsAre vals us) (e : phraseF b nm sd = us) : StrsAre vals (phraseF b nm sd) := e ▸ h
theorem news_f4 {h₀ h : Heap} {L : Addr} {a b c d e : Addr × Obj} {r : List (Addr × Obj)} (N : News h₀ L h (a :: b :: c :: d :: e :: r)) : News h₀ L h (a :: r) := fun p hp => N p (by
  simp only [List.mem_cons] at hp ⊢
  rcases hp with h | h <;> simp [h])
end
section
section
variable {prog : Program} {w : World} {A : Around} {E : Value → Shared → Prop} {s : Shared}
theorem nextOf_tuple_item {it t : Addr} {i : Nat} {items : Array Value} {x : Value} {Q : Value → Shared → Prop} (hit : s.heap.IsTupleIter it t i)
    (ht : s.heap.IsTuple t items) (hx : items[i]? = some x)
    (hQ : ∀ h', h'.IsTupleIter it t (i + 1) → Heap.SameBut it s.heap h' → Q x { s with heap := h' }) :
    wpAny (model prog w) A (Builtin.SmallTypes.nextOf (.ref it)) Q E s := by
  obtain ⟨o, ho, hc, hd⟩ := id hit
  obtain ⟨ol, hol, _, nl, hdl⟩ := ht
  unfold Builtin.SmallTypes.nextOf
  refine wpAny_bind (wpAny_callSpecial?_slot (name := Str.ofString "__next__") hit.typeIs F.slot_tuple_iterator_next
    (wpAny_call_entry F.slot_tuple_iterator_next hit.typeIs F.entry_tuple_iterator_next ?_ (F.args_tuple_iterator_next_1 _)))
  show wpAny _ _ (field (.ref it) 0 >>= _) _ _ s
  refine wpAny_bind (wpAny_field ho hd (x := .ref t) rfl ?_)
  show wpAny _ _ (if (Value.ref t == Value.none) = true then _ else _) _ _ s
  rw [if_neg (show ¬ ((Value.ref t == Value.none) = true) from Bool.false_ne_true)]
  show wpAny _ _ (field (.ref it) 1 >>= _) _ _ s
  refine wpAny_bind (wpAny_field ho hd (x := .int i 0) rfl ?_)
  show wpAny _ _ (seqItems? (.ref t) >>= _) _ _ s
  refine wpAny_bind (wpAny_seqItems hol hdl ?_)
  simp only [Int.toNat_natCast, hx]
  refine wpAny_bind (wpAny_setField ho hd (by simp) (wpAny_pure ⟨x, rfl, wpAny_pure (hQ _ ?_ (Heap.SameBut.update ..))⟩))
  exact ⟨_, Heap.get?_update_self _ ho (Obj.isFreed_of_fields (Obj.data_mapFields hd _)), (Obj.cls_mapFields ..).trans hc, by
    rw [Obj.data_mapFields hd]; simp [rawInt]⟩
theorem nextOf_tuple_end {it t : Addr} {i : Nat} {items : Array Value} {Q : Value → Shared → Prop} (hh : A.handled = none)
    (hit : s.heap.IsTupleIter it t i) (ht : s.heap.IsTuple t items) (hx : items[i]? = none)
    (hE : ∀ h' e, Heap.ExtBut it s.heap h' → (∃ o, h'.get? e = some o ∧ o.cls = .type "StopIteration") → E (.ref e) { s with heap := h' }) :
    wpAny (model prog w) A (Builtin.SmallTypes.nextOf (.ref it)) Q E s := by
  obtain ⟨o, ho, hc, hd⟩ := id hit
  obtain ⟨ol, hol, _, nl, hdl⟩ := ht
  unfold Builtin.SmallTypes.nextOf
  refine wpAny_bind (wpAny_callSpecial?_slot (name := Str.ofString "__next__") hit.typeIs F.slot_tuple_iterator_next
    (wpAny_call_entry F.slot_tuple_iterator_next hit.typeIs F.entry_tuple_iterator_next ?_ (F.args_tuple_iterator_next_1 _)))
  show wpAny _ _ (field (.ref it) 0 >>= _) _ _ s
  refine wpAny_bind (wpAny_field ho hd (x := .ref t) rfl ?_)
  show wpAny _ _ (if (Value.ref t == Value.none) = true then _ else _) _ _ s
  rw [if_neg (show ¬ ((Value.ref t == Value.none) = true) from Bool.false_ne_true)]
  show wpAny _ _ (field (.ref it) 1 >>= _) _ _ s
  refine wpAny_bind (wpAny_field ho hd (x := .int i 0) rfl ?_)
  show wpAny _ _ (seqItems? (.ref t) >>= _) _ _ s
  refine wpAny_bind (wpAny_seqItems hol hdl ?_)
  simp only [Int.toNat_natCast, hx]
  refine wpAny_bind (wpAny_rule (wpAny_bind (wpAny_setField ho hd (by simp) ?_)))
  show wpAny _ _ (newExc (.type "StopIteration") [] >>= _) _ _ _
  refine wpAny_bind ?_
  simp only [newExc, newTuple]
  refine wpAny_bind (wpAny_newObj_type ?_ (by size_fits))
  refine wpAny_bind (m := firstArgMember _ _) (wpAny_of_eq (a := Value.none) (by first | rfl | (simp only [firstArgMember]; rfl)) ?_)
  refine wpAny_newObj_type ?_ (by size_fits)
  simp only [raiseNew]
  refine wpAny_bind (wpAny_handled ?_)
  first | rw [show A.in1.handled = none from hh] | rw [hh]
  refine wpAny_bind (wpAny_pure (wpAny_throw ?_))
  exact hE _ _ (((Heap.SameBut.update ..).extBut.push _).push _) ⟨_, Heap.get?_push_size _ rfl, rfl⟩
end
theorem drawsTuple {prog : Program} {w : World} {A : Around} (hh : A.handled = none) (it l : Addr) (hne : l ≠ it) (items : Array Value) :
    Draws prog w A it [it, l] items.size (fun i v => items[i]? = some v) (fun i h => h.IsTupleIter it l i ∧ h.IsTuple l items) where
  live := fun _ _ st => let ⟨o, ho, _⟩ := st.1; ⟨o, ho⟩
  frame := fun _ _ _ st hk => ⟨st.1.at fun o e => hk it (by simp) o e, st.2.at fun o e => hk l (by simp) o e⟩
  item := fun i s Q E hi st hQ => by
    refine nextOf_tuple_item st.1 st.2 (x := items[i]) (by simp [hi]) fun h' hit' hs' => ?_
    exact hQ _ h' s.toks (by simp [hi]) ⟨hit', st.2.extBut hs'.extBut hne⟩ hs'
  done := fun s Q E st hE => nextOf_tuple_end hh st.1 st.2 (by simp) hE
theorem meets_enumerate_newT (l : Addr) (items : Array Value) (n : Nat) (dct : Option Addr) (sl : Array (Option Value)) :
    Meets (Builtin.«enumerate.__new__» ⟨[.type "enumerate", .ref l], []⟩) (fun _ R s => s.heap.get? l = some { cls := .type "tuple", dict := dct, data := .seq items n, slots := sl } ∧
      R (.ok (.ret (.ref (s.heap.push { cls := .type "tuple_iterator", data := .fields #[.ref l, .int 0 0] }).objs.size)))
        { s with heap := (s.heap.push { cls := .type "tuple_iterator", data := .fields #[.ref l, .int 0 0] }).push { cls := .type "enumerate", data := .fields #[.none, .bool false, .ref s.heap.objs.size, rawInt 0, .none, .none] } }) :=
  .of_wp fun prog w A R s h => by
    obtain ⟨hp, g, d, tk, os⟩ := s; obtain ⟨hl, h⟩ := h
    have hsub := sub_enumerate
    have hL : Heap.IsTuple (Shared.heap ⟨hp, g, d, tk, os⟩) l items := ⟨_, hl, rfl, n, rfl⟩
    wp_walk using AutoSeq1.wpAny_loadPart' hl
    refine wpAny_stack_any fun st => wpAny_pure ?_
    split
    · rename_i c _ _ _ _ _
      cases (c == Value.type "enumerate")
      · wp_walk using AutoSeq1.wpAny_loadPart' hl, wpAny_pyIter_tuple hL
        exact ⟨_, rfl, h⟩
      · wp_walk using AutoSeq1.wpAny_loadPart' hl, wpAny_pyIter_tuple hL
        exact ⟨_, rfl, h⟩
    · wp_walk using AutoSeq1.wpAny_loadPart' hl, wpAny_pyIter_tuple hL
      exact ⟨_, rfl, h⟩
section
variable {prog : Program} {w : World} {A : Around} {E : Value → Shared → Prop} {s : Shared}
theorem call_enumerate_tuple {l : Addr} {items : Array Value} {Q : Value → Shared → Prop} (hL : s.heap.IsTuple l items)
    (h : ∀ h', IsEnum h' (s.heap.objs.size + 1) s.heap.objs.size 0 .none → h'.IsTupleIter s.heap.objs.size l 0 → h'.objs.size = s.heap.objs.size + 2 →
      (∀ b o, s.heap.get? b = some o → h'.get? b = some o) → Q (.ref (s.heap.objs.size + 1)) { s with heap := h' }) :
    wpAny (model prog w) A (call (.type "enumerate") [.ref l]) Q E s := by
  obtain ⟨⟨c, dct, dt, sl⟩, hl, hc, n, hd⟩ := hL
  replace hc : c = .type "tuple" := hc
  replace hd : dt = .seq items n := hd
  subst hc hd
  refine callType_new F.called_enumerate (by decide) (F.typeCall_enumerate_1 _) (F.newCall_enumerate_1 _) (fun obj => F.args_object_init_2 obj _) F.entry_enumerate_new
    (meets_enumerate_newT l items n dct sl) ⟨hl, ?_⟩
  have hz : (s.heap.push { cls := .type "tuple_iterator", data := .fields #[.ref l, .int 0 0] }).objs.size = s.heap.objs.size + 1 := Heap.size_push ..
  show _ ∧ _
  rw [hz]
  have he : IsEnum ((s.heap.push { cls := .type "tuple_iterator", data := .fields #[.ref l, .int 0 0] }).push
      { cls := .type "enumerate", data := .fields #[.none, .bool false, .ref s.heap.objs.size, rawInt 0, .none, .none] }) (s.heap.objs.size + 1) s.heap.objs.size 0 .none := by
    have := Heap.get?_push_size (s.heap.push { cls := .type "tuple_iterator", data := .fields #[.ref l, .int 0 0] })
      (o := { cls := .type "enumerate", data := .fields #[.none, .bool false, .ref s.heap.objs.size, rawInt 0, .none, .none] }) rfl
    rw [hz] at this; exact this
  refine ⟨⟨_, he, rfl⟩, h _ he ⟨_, Heap.get?_push_of_some _ (Heap.get?_push_size _ rfl), rfl, rfl⟩ (by rw [Heap.size_push, hz]) fun b o x => Heap.get?_push_of_some _ (Heap.get?_push_of_some _ x)⟩
end
section
variable {prog : Program} {w : World} {A : Around} {E : Value → Shared → Prop} {s : Shared} {env : Env} {h₀ : Heap} {body : List Stmt} {Q : Flow → Shared → Prop}
theorem ktu_enumT {elts : List PySem.Expr} {k : Nat} {pos : Pos} {l : Addr} {lo : Obj} {vs : List Value} {n : Nat} {m₀ : Str → Option Value} {news : List (Addr × Obj)}
    (hh : A.handled = none) (F : Fr h₀ env.locals s.heap m₀) (N : News h₀ env.locals s.heap news) (hm : (l, lo) ∈ news) (hc : lo.cls = .type "tuple") (hd : lo.data = .seq vs.toArray n)
    (rest₀ : ∀ I : Addr, (∀ p ∈ news, p.1 < I) → ItemsRest prog w A E h₀ env (.Tuple elts k pos) body Q s [(I + 1, "enumerate"), (I, "tuple_iterator")] [(l, lo)] (enumItems 0 vs) m₀ news) :
    wpAny (model prog w) A (call (.type "enumerate") [.ref l]) (fun xv s₁ => wpAny (model prog w) A (pyIter xv) (fun it s₂ => TurnsAt prog w A h₀ env (.Tuple elts k pos) body Q E it s₂) E s₁) E s := by
  have hax := N _ hm
  have hl : s.heap.IsTuple l vs.toArray := ⟨lo, hax.1, hc, n, hd⟩
  have hlt : l < s.heap.objs.size := Heap.lt_size hax.1
  have hLs : env.locals < s.heap.objs.size := F.ns.lt
  refine call_enumerate_tuple hl fun h' hE hI hsz hk => ?_
  refine wpAny_pyIter_enum hE ?_
  refine ktu_core (tk0 := s.toks) (keep := [(l, lo)]) (KTurns.ofWalksU (WalksT.enumerateD (drawsTuple (A := A.in1) hh s.heap.objs.size l (Nat.ne_of_lt hlt) vs.toArray) (s.heap.objs.size + 1) (Nat.succ_ne_self _) ?_ (by simp)).toU) (by simp [enumItems_length]) ?_ ?_ ?_ ?_ ?_ ?_ ?_ ?_ (F.keeps hk) (N.grown hk) (And.intro hm trivial) (rest₀ _ fun p hp => Heap.lt_size (N p hp).1)
  · intro hm'
    have hb' : s.heap.objs.size + 1 = s.heap.objs.size ∨ s.heap.objs.size + 1 = l := by simpa using hm'
    rcases hb' with e | e
    · exact Nat.succ_ne_self _ e
    · exact ktu_ne 1 hlt e.symm
  · rintro i v h ⟨T, vals, rfl, ⟨t, x, hx, rfl⟩, hT⟩
    refine ⟨_, enumItems_get vs 0 i (v := x) (by simpa using hx), T, t, rfl, ?_⟩
    show IsTup h T #[.int ((0 + i : Nat) : Int) t, x]
    rw [Nat.zero_add]
    exact hT
  · rintro i h ⟨⟨old, he⟩, ⟨oi, hoi, hic, _⟩, _⟩
    have he' : ∃ oe : Obj, h.get? (s.heap.objs.size + 1) = some oe ∧ oe.cls = .type "enumerate" := ⟨_, he, rfl⟩
    obtain ⟨oe, h1, h2⟩ := he'
    refine ⟨[(s.heap.objs.size + 1, oe), (s.heap.objs.size, oi)], ⟨⟨rfl, h2⟩, ⟨rfl, hic⟩, trivial⟩, fun p hp => ?_⟩
    rcases List.mem_cons.mp hp with rfl | hp
    · exact h1
    · rw [List.mem_singleton.mp hp]; exact hoi
  · intro b hb
    have hb' : b = s.heap.objs.size + 1 ∨ b = s.heap.objs.size := by simpa using hb
    rcases hb' with rfl | rfl
    · exact ⟨by simp, ktu_new F (Nat.le_add_right _ _)⟩
    · exact ⟨by simp, ktu_new F (Nat.le_refl _)⟩
  · intro b hb
    simpa using hb
  · intro b hb
    have hb' : b = s.heap.objs.size + 1 ∨ b = s.heap.objs.size ∨ b = l := by simpa using hb
    rcases hb' with rfl | rfl | rfl
    · exact .inl (by simp)
    · exact .inl (by simp)
    · exact .inr ⟨lo, by simp⟩
  · intro hI'
    have hb' : env.locals = s.heap.objs.size + 1 ∨ env.locals = s.heap.objs.size ∨ env.locals = l := by simpa using hI'
    rcases hb' with e | e | e
    · exact ktu_ne 1 hLs e
    · exact Nat.ne_of_lt hLs e
    · exact hax.2.1 e.symm
  · intro p hp hI'
    have hb' : p.1 = s.heap.objs.size + 1 ∨ p.1 = s.heap.objs.size := by simpa using hI'
    have hlt := Heap.lt_size (N p hp).1
    rcases hb' with e | e
    · exact ktu_ne 1 hlt e
    · exact Nat.ne_of_lt hlt e
  · exact ⟨⟨.none, by simpa using hE⟩, hI, hl.at fun o e => hk _ o e⟩
theorem enum_J {elts : List PySem.Expr} {k : Nat} {pos : Pos} {l : Addr} {lo : Obj} {vs : List Value} {n : Nat} {m₀ : Str → Option Value} {news : List (Addr × Obj)} (J : Nat → (Str → Option Value) → List (Addr × Obj) → Prop)
    (hh : A.handled = none) (F : Fr h₀ env.locals s.heap m₀) (N : News h₀ env.locals s.heap news) (hm : (l, lo) ∈ news) (hc : lo.cls = .type "tuple") (hd : lo.data = .seq vs.toArray n) (j0 : J 0 m₀ news)
    (turn : ∀ e I oe oi i v T t m₁ nx h tk, vs[i]? = some v → e ≠ I → (∀ p ∈ news, p.1 ≠ e ∧ p.1 ≠ I) → (∀ p ∈ nx, p.1 ≠ e ∧ p.1 ≠ I) → (l, lo) ∈ nx → J i m₁ nx → IsTup h T #[.int (i : Int) t, v] → Fr h₀ env.locals h m₁ → News h₀ env.locals h ((e, oe) :: (I, oi) :: nx) →
      wpAny (model prog w) A (assign (.Tuple elts k pos) env (.ref T)) (fun _ s₂ => wpAny (model prog w) A (execs body env) (UnrPostW h₀ env.locals { s with heap := h, toks := tk } [(e, oe), (I, oi)] (fun m' n' => (l, lo) ∈ n' ∧ J (i + 1) m' n') Q) E s₂) E { s with heap := h, toks := tk })
    (done : ∀ m₁ nx h tk, J vs.length m₁ nx → Fr h₀ env.locals h m₁ → News h₀ env.locals h nx → Q .next { s with heap := h, toks := tk }) :
    wpAny (model prog w) A (call (.type "enumerate") [.ref l]) (fun xv s₁ => wpAny (model prog w) A (pyIter xv) (fun it s₂ => TurnsAt prog w A h₀ env (.Tuple elts k pos) body Q E it s₂) E s₁) E s := by
  refine ktu_enumT hh F N hm hc hd fun I hI => ?_
  have all : ∀ (r : List Value) (i : Nat) (m : Str → Option Value) (nx : List (Addr × Obj)), vs.drop i = r → i ≤ vs.length → J i m nx → (∀ p ∈ nx, p.1 ≠ I + 1 ∧ p.1 ≠ I) → (l, lo) ∈ nx →
      ItemsRest prog w A E h₀ env (.Tuple elts k pos) body Q s [(I + 1, "enumerate"), (I, "tuple_iterator")] [(l, lo)] (enumItems i r) m nx := by
    intro r
    induction r with
    | nil =>
      intro i m nx hr hi hj ho hmm
      have e : i = vs.length := by have := List.drop_eq_nil_iff.mp hr; omega
      subst e
      exact ItemsRest.zero fun h tk F N => done m nx h tk hj F N
    | cons v r ih =>
      intro i m nx hr hi hj ho hmm
      have hlt : i < vs.length := by
        rcases Nat.lt_or_ge i vs.length with h | h
        · exact h
        · rw [List.drop_eq_nil_of_le h] at hr; cases hr
      have hv : vs[i]? = some v ∧ vs.drop (i + 1) = r := by
        rw [List.drop_eq_getElem_cons hlt] at hr
        have := List.cons.inj hr
        exact ⟨by rw [List.getElem?_eq_getElem hlt, this.1], this.2⟩
      refine ItemsRest.pair fun T t h tk hT F => ?_
      refine AllObj.cons fun oe _ => AllObj.cons fun oi _ => AllObj.nil fun N => ?_
      have q := turn (I + 1) I oe oi i v T t m nx h tk hv.1 (Nat.succ_ne_self _) (fun p hp => ⟨Nat.ne_of_lt (Nat.lt_succ_of_lt (hI p hp)), Nat.ne_of_lt (hI p hp)⟩) ho hmm hj hT F N
      refine wpAny_mono q (fun _ s₂ z => wpAny_mono z (fun f s₃ p => ?_) fun _ _ e => e) fun _ _ e => e
      have go : UnrEndW h₀ env.locals { s with heap := h, toks := tk } [(I + 1, oe), (I, oi)] (fun m' n' => (l, lo) ∈ n' ∧ J (i + 1) m' n') s₃ → UnrEndW h₀ env.locals { s with heap := h, toks := tk } [(I + 1, oe), (I, oi)] (fun m' n' => SubL [(l, lo)] n' ∧ ItemsRest prog w A E h₀ env (.Tuple elts k pos) body Q s [(I + 1, "enumerate"), (I, "tuple_iterator")] [(l, lo)] (enumItems (i + 1) r) m' n') s₃ := by
        rintro ⟨h', tk', m', n', e, F', N', o, q1, q2⟩
        refine ⟨h', tk', m', n', e, F', N', o, And.intro q1 trivial, ih (i + 1) m' n' hv.2 hlt q2 (fun p hp => ⟨o p hp (I + 1, oe) (by simp), o p hp (I, oi) (by simp)⟩) q1⟩
      cases f with
      | ret v => exact p
      | brk => exact p
      | next => exact go p
      | cont => exact go p
  exact all vs 0 m₀ news List.drop_zero (Nat.zero_le _) j0 (fun p hp => ⟨Nat.ne_of_lt (Nat.lt_succ_of_lt (hI p hp)), Nat.ne_of_lt (hI p hp)⟩) hm
end
end
section
abbrev LC2 (elt tx itA ty itB : PySem.Expr) (scope : Scope) (pos : Pos) : PySem.Expr := .ListComp elt [⟨tx, itA, [], 0⟩, ⟨ty, itB, [], 0⟩] scope pos
theorem turn_in (elt tx itA ty itB : PySem.Expr) (scope : Scope) (pos : Pos) (it acc : Value) (env : Env) :
    compTurn (LC2 elt tx itA ty itB scope pos) 1 it acc env = (standAt itB.pos >>= fun _ => pyNext it >>= fun r => match r with
      | none => pure (.done .next)
      | some v => letOwnedTupleGo ty it v >>= fun _ => assign ty env v >>= fun _ =>
        (eval elt env >>= fun x => call (.builtin "list.append") [acc, x] >>= fun _ => pure ()) >>= fun _ => again (.compLoop (LC2 elt tx itA ty itB scope pos) 1 it acc env)) := by rfl
theorem turn_out (elt tx itA ty itB : PySem.Expr) (scope : Scope) (pos : Pos) (it acc : Value) (env : Env) :
    compTurn (LC2 elt tx itA ty itB scope pos) 0 it acc env = (standAt itA.pos >>= fun _ => pyNext it >>= fun r => match r with
      | none => pure (.done .next)
      | some v => letOwnedTupleGo tx it v >>= fun _ => assign tx env v >>= fun _ =>
        (eval itB env >>= fun x => standAt itB.pos >>= fun _ => foldedSetIterable itB env x >>= fun x => holding [x] (pyIter x) >>= fun i => runOwn (.compStart (LC2 elt tx itA ty itB scope pos) 1 i acc env) env >>= fun _ => again (.compLoop (LC2 elt tx itA ty itB scope pos) 0 it acc env))) := by rfl
section
variable {prog : Program} {w : World} {A : Around} {E : Value → Shared → Prop} {R : Result → Shared → Prop} {s : Shared}
theorem loop_in {elt tx itA ty itB : PySem.Expr} {scope : Scope} {pos : Pos} {it acc : Value} {env : Env} (I : Nat → Shared → Prop)
    (turn : ∀ n s, I n s → wpAny (model prog w) A (pyNext it) (fun r s₁ => match r with
      | none => R (.ok .next) s₁
      | some v => wpAny (model prog w) A (assign ty env v) (fun _ s₂ => wpAny (model prog w) A (eval elt env) (fun x s₃ =>
          wpAny (model prog w) A (call (.builtin "list.append") [acc, x]) (fun _ s₄ => ∃ m, m < n ∧ I m s₄) (notedBy (model prog w) A env fun e s' => R (.error e) s') s₃)
          (notedBy (model prog w) A env fun e s' => R (.error e) s') s₂) (notedBy (model prog w) A env fun e s' => R (.error e) s') s₁) (notedBy (model prog w) A env fun e s' => R (.error e) s') s)
    (n : Nat) (h : I n s) (ht : ∀ v, letOwnedTupleGo ty it v = pure () := by intro _; rfl) :
    codeAny (model prog w) A (.compLoop (LC2 elt tx itA ty itB scope pos) 1 it acc env) R s := by
  refine codeAny_loop rfl I (fun n s hI => ?_) n h
  show wpAny _ _ ((compTurn (LC2 elt tx itA ty itB scope pos) 1 it acc env).onRaise (fun x => do noteFrame x env; theTreesLotGoes x)) _ _ s
  refine wpAny_noted ?_
  rw [turn_in]
  refine wpAny_bind (wpAny_standAt (wpAny_bind (wpAny_mono (turn n s hI) (fun r s₁ h₁ => ?_) fun _ _ h' => h')))
  cases r with
  | none => exact wpAny_pure h₁
  | some v =>
    refine wpAny_bind (wpAny_of_eq (ht v) ?_)
    exact wpAny_bind (wpAny_mono h₁ (fun _ s₂ h₂ => wpAny_bind (wpAny_bind (wpAny_mono h₂ (fun x s₃ h₃ => wpAny_bind (wpAny_mono h₃
      (fun _ s₄ h₄ => wpAny_pure (wpAny_pure ⟨rfl, h₄⟩)) fun _ _ h' => h')) fun _ _ h' => h'))) fun _ _ h' => h')
theorem start_in {elt tx itA ty itB : PySem.Expr} {scope : Scope} {pos : Pos} {it acc : Value} {env : Env}
    (h0 : codeAny (model prog w) A (.compLoop (LC2 elt tx itA ty itB scope pos) 1 it acc env) R s)
    (h : wpAny (model prog w) A (pyIter it) (fun it' s' => codeAny (model prog w) A (.compLoop (LC2 elt tx itA ty itB scope pos) 1 it' acc env) R s')
      (notedBy (model prog w) A env fun x s' => R (.error x) s') s) :
    codeAny (model prog w) A (.compStart (LC2 elt tx itA ty itB scope pos) 1 it acc env) R s := by
  refine codeAny_of_tree ?_
  show wpAny _ _ ((compStart (LC2 elt tx itA ty itB scope pos) 1 it acc env).onRaise (fun x => do noteFrame x env; standAt theWindowsPlace)) _ _ s
  refine wpAny_notedAt ?_
  unfold compStart
  show wpAny _ _ (ask >>= _) _ _ s
  refine wpAny_bind (wpAny_askSetting (wpAny_ite ?_))
  split
  · first
      | exact wpAny_bind (wpAny_pure (wpAny_pure (And.intro rfl h0)))
      | exact wpAny_pure (And.intro rfl h0)
  · (refine wpAny_bind (wpAny_rule ?_); show wpAny _ _ (standAt itB.pos >>= _) _ _ s; exact wpAny_bind (wpAny_standAt (wpAny_bind (wpAny_mono h (fun it' s' h' => wpAny_pure (And.intro rfl h')) fun _ _ x => x))))
theorem loop_out {elt tx itA ty itB : PySem.Expr} {scope : Scope} {pos : Pos} {it acc : Value} {env : Env} (I : Nat → Shared → Prop) (hh : A.handled = none)
    (turn : ∀ n s, I n s → wpAny (model prog w) A (pyNext it) (fun r s₁ => match r with
      | none => R (.ok .next) s₁
      | some v => wpAny (model prog w) A (assign tx env v) (fun _ s₂ => wpAny (model prog w) A (eval itB env) (fun x s₃ => wpAny (model prog w) A (pyIter x) (fun i s₄ =>
          codeAny (model prog w) A (.compStart (LC2 elt tx itA ty itB scope pos) 1 i acc env) (fun r s₅ => match r with | .ok _ => ∃ m, m < n ∧ I m s₅ | .error _ => False) s₄)
          (notedBy (model prog w) A env fun e s' => R (.error e) s') s₃) (notedBy (model prog w) A env fun e s' => R (.error e) s') s₂) (notedBy (model prog w) A env fun e s' => R (.error e) s') s₁) (notedBy (model prog w) A env fun e s' => R (.error e) s') s)
    (n : Nat) (h : I n s) (ht : ∀ v, letOwnedTupleGo tx it v = pure () := by intro _; rfl) (hs : ∀ x, foldedSetIterable itB env x = pure x := by intro _; rfl) :
    codeAny (model prog w) A (.compLoop (LC2 elt tx itA ty itB scope pos) 0 it acc env) R s := by
  refine codeAny_loop rfl I (fun n s hI => ?_) n h
  show wpAny _ _ ((compTurn (LC2 elt tx itA ty itB scope pos) 0 it acc env).onRaise (fun x => do noteFrame x env; theTreesLotGoes x)) _ _ s
  refine wpAny_noted ?_
  rw [turn_out]
  refine wpAny_bind (wpAny_standAt (wpAny_bind (wpAny_mono (turn n s hI) (fun r s₁ h₁ => ?_) fun _ _ h' => h')))
  cases r with
  | none => exact wpAny_pure h₁
  | some v =>
    refine wpAny_bind (wpAny_of_eq (ht v) ?_)
    refine wpAny_bind (wpAny_mono h₁ (fun _ s₂ h₂ => wpAny_bind (wpAny_mono h₂ (fun x s₃ h₃ => wpAny_bind (wpAny_standAt (wpAny_bind (wpAny_of_eq (hs x) ?_)))) fun _ _ h' => h')) fun _ _ h' => h')
    refine wpAny_bind (wpAny_holding (wpAny_mono h₃ (fun i s₄ h₄ => wpAny_bind (wpAny_runOwn (codeAny_mono (show codeAny (model prog w) (Around.mark A none) _ _ s₄ from h₄) fun r s₅ h₅ => ?_))) fun _ _ h' => h'))
    cases r with
    | ok f => exact wpAny_pure ⟨rfl, h₅⟩
    | error e => exact h₅.elim
end
inductive PartsAt (h : Heap) : List Value → List (List Str) → Prop
  | nil : PartsAt h [] []
  | cons {a : Addr} {vs : List Value} {us : List Str} {vr : List Value} {ur : List (List Str)} : h.IsList a vs.toArray → StrsAre vs us → PartsAt h vr ur → PartsAt h (.ref a :: vr) (us :: ur)
theorem PartsAt.length {h : Heap} {vr : List Value} {ur : List (List Str)} (p : PartsAt h vr ur) : vr.length = ur.length := by
  induction p with
  | nil => rfl
  | cons _ _ _ ih => rw [List.length_cons, List.length_cons, ih]
theorem PartsAt.get {h : Heap} {vr : List Value} {ur : List (List Str)} (p : PartsAt h vr ur) : ∀ {i : Nat} {v : Value}, vr[i]? = some v → ∃ a vs us, v = .ref a ∧ ur[i]? = some us ∧ h.IsList a vs.toArray ∧ StrsAre vs us := by
  induction p with
  | nil => intro i v e; cases e
  | cons h1 h2 _ ih =>
    intro i v e
    cases i with
    | zero => cases e; exact ⟨_, _, _, rfl, rfl, h1, h2⟩
    | succ i => exact ih e
theorem isList_lt {h : Heap} {a : Addr} {its : Array Value} (x : h.IsList a its) : a < h.objs.size := by obtain ⟨_, e, _⟩ := x; exact Heap.lt_size e
theorem flat_take {uss : List (List Str)} {i : Nat} {us : List Str} (h : uss[i]? = some us) : (uss.take (i + 1)).flatten = (uss.take i).flatten ++ us := by
  rw [List.take_add_one, h]; simp
end
section
def nmF (sd : Int) : Str := if (sd.fdiv 8).fmod 3 = 0 then Str.ofString "K-1" else if (sd.fdiv 8).fmod 3 = 1 then Str.ofString "K-2" else Str.ofString "AMOUNT"
def rowF (sd : Int) : Bool × Str := ((sd.fdiv 4).fmod 2 == 0, nmF sd)
def phrF (sd : Int) : List Str := phraseF (rowF sd).1 (rowF sd).2 sd
def spAt (zs : List Int) (i : Nat) : List Str :=
  match zs[i]? with
  | none => []
  | some sd => if 0 < i ∧ (zs[i - 1]?.map fun z => (rowF z).1) = some (rowF sd).1 then [(rowF sd).2] else phrF sd
theorem newsSub {h₀ h : Heap} {L : Addr} {big small : List (Addr × Obj)} (N : News h₀ L h big) (hs : ∀ p ∈ small, p ∈ big) : News h₀ L h small := fun p hp => N p (hs p hp)
section
variable {prog : Program} {w : World} {A : Around} {h₀ : Heap} {L : Addr} {m : Str → Option Value} {env : Env} {elt : PySem.Expr} {x : Str} {scope : Scope} {cl : List (Str × Addr)} {s : Shared} {Fin : List Value → List (Addr × Obj) → Prop} {news : List (Addr × Obj)}
def RowEnd (h₀ : Heap) (L : Addr) (m : Str → Option Value) (s₁ : Shared) (I : Addr) (oI : Obj) (C : Addr) (oC : Obj) (D : Addr) (ys : List Value) (nx : List (Addr × Obj)) (sd : Int) (y : Value) (s₂ : Shared) : Prop :=
  ∃ h' tk' a t n, y = .ref a ∧ s₂ = { s₁ with heap := h', toks := tk' } ∧ Fr h₀ L h' m ∧ News h₀ L h' ((a, tupO [.bool (rowF sd).1, .str (rowF sd).2 t] n) :: (I, oI) :: (C, oC) :: (D, LCg.lst ys) :: nx) ∧ (∀ b ∈ [I, C, D], @Ne Nat a b)
theorem row_end {h' : Heap} {s₁ : Shared} {tk' n : Nat} {I C D a : Addr} {T : Addr × Obj} {oI oC : Obj} {ys : List Value} {nx : List (Addr × Obj)} {sd : Int} {b : Bool} {nm : Str} {t : Tok} (F : Fr h₀ L h' m) (N : News h₀ L h' ((a, tupO [.bool b, .str nm t] n) :: T :: (I, oI) :: (C, oC) :: (D, LCg.lst ys) :: nx))
    (e : (b, nm) = rowF sd) (h1 : @Ne Nat a I) (h2 : @Ne Nat a C) (h3 : @Ne Nat a D) : RowEnd h₀ L m s₁ I oI C oC D ys nx sd (.ref a) { s₁ with heap := h', toks := tk' } :=
  ⟨h', tk', a, t, n, rfl, rfl, F, by rw [← e]; exact news_d2 N, fun b hb => by
    simp only [List.mem_cons, List.not_mem_nil, or_false] at hb
    rcases hb with rfl | rfl | rfl
    · exact h1
    · exact h2
    · exact h3⟩
theorem IntsAre.get' {vs : List Value} {ns : List Int} (h : IntsAre vs ns) {i : Nat} {v : Value} (hv : vs[i]? = some v) : ∃ n t, v = .int n t ∧ ns[i]? = some n := PyProof.Rows.IntsAre.at h i v hv
theorem comp_rows {vals : List Value} {zs : List Int} {ax : Addr} {k : Nat} (hs : IntsAre vals zs) (hm : (ax, listOf vals.toArray k) ∈ news) (hz : ∀ z ∈ zs, 0 ≤ z ∧ z < 1000)
    (turn : ∀ sd t ys nx I oI C oC D m₂ h tk (E' : Value → Shared → Prop), 0 ≤ sd → sd < 1000 → LCg.NsObj oC m₂ → m₂ x = some (.int sd t) → Fr h₀ L h m → News h₀ L h ((I, oI) :: (C, oC) :: (D, LCg.lst ys) :: nx) → LCg.Off3 I C D nx → ((@Ne Nat I C) ∧ (@Ne Nat I D) ∧ (@Ne Nat C D)) →
      wpAny (model prog w) A (eval elt (compEnvC scope cl C env)) (RowEnd h₀ L m { s with heap := h, toks := tk } I oI C oC D ys nx sd) E' { s with heap := h, toks := tk })
    (fin : ∀ ys nx, KeysIn nx ys (zs.map rowF) → (∀ p ∈ news, p ∈ nx) → Fin ys nx) :
    LCg.CompRest prog w A h₀ L m env elt x scope cl s (LCg.SrcAt h₀ ax vals.toArray) (fun i v => vals.toArray[i]? = some v) Fin vals.toArray.size 0 [] news := by
  refine compJ (fun i ys nx => KeysIn nx ys ((zs.take i).map rowF) ∧ ∀ p ∈ news, p ∈ nx) ⟨.nil, fun _ h => h⟩ ?_ ?_
  · rintro i v ys nx I oI C oC D m₂ h tk E' hv hlt ⟨j1, j2⟩ hC hx F N off ne
    rw [List.size_toArray] at hlt
    obtain ⟨sd, t, rfl, hsd⟩ := IntsAre.get' hs (by simpa using hv : vals[i]? = some v)
    have hb := hz sd (List.mem_of_getElem? hsd)
    refine wpAny_mono (turn sd t ys nx I oI C oC D m₂ h tk E' hb.1 hb.2 hC hx F N off ne) (fun y s₂ q => ?_) fun _ _ e => e
    obtain ⟨h', tk', a, t', n, rfl, rfl, F', N', hne⟩ := q
    have off' := off.mem
    refine ⟨h', tk', (a, tupO [.bool (rowF sd).1, .str (rowF sd).2 t'] n) :: nx, rfl, F', ?_, ?_, ?_, ?_, ?_⟩
    · intro p hp
      refine N' p ?_
      simp only [List.mem_cons] at hp ⊢
      rcases hp with h | h | h | h | h <;> simp [h]
    · refine LCg.Off3.of fun p hp => ?_
      rcases List.mem_cons.mp hp with rfl | hp
      · exact ⟨hne I (by simp), hne C (by simp), hne D (by simp)⟩
      · exact off' p hp
    · exact .inr ⟨_, .tail _ (j2 _ hm), rfl, k, rfl⟩
    · have e : zs.take (i + 1) = zs.take i ++ [sd] := by rw [List.take_add_one, hsd]; rfl
      rw [e, List.map_append]
      exact (j1.mono fun p hp => .tail _ hp).append (.cons (.head _) .nil)
    · exact fun p hp => .tail _ (j2 p hp)
  · rintro ys nx ⟨j1, j2⟩
    rw [List.size_toArray, hs.length, List.take_length] at j1
    exact fin ys nx j1 j2
end
/-- the phrases as lists in the ledger -/
inductive PartsIn (news : List (Addr × Obj)) : List Value → List (List Str) → Prop
  | nil : PartsIn news [] []
  | cons {a : Addr} {k : Nat} {vs : List Value} {us : List Str} {vr : List Value} {ur : List (List Str)} : (a, listOf vs.toArray k) ∈ news → StrsAre vs us → PartsIn news vr ur → PartsIn news (.ref a :: vr) (us :: ur)
theorem PartsIn.mono {news news' : List (Addr × Obj)} {vr : List Value} {ur : List (List Str)} (h : PartsIn news vr ur) (hs : ∀ p ∈ news, p ∈ news') : PartsIn news' vr ur := by
  induction h with
  | nil => exact .nil
  | cons h1 h2 _ ih => exact .cons (hs _ h1) h2 ih
theorem PartsIn.snoc {news : List (Addr × Obj)} {vr vr' : List Value} {ur ur' : List (List Str)} (h : PartsIn news vr ur) (h' : PartsIn news vr' ur') : PartsIn news (vr ++ vr') (ur ++ ur') := by
  induction h with
  | nil => exact h'
  | cons h1 h2 _ ih => exact .cons h1 h2 ih
theorem PartsIn.length {news : List (Addr × Obj)} {vr : List Value} {ur : List (List Str)} (h : PartsIn news vr ur) : vr.length = ur.length := by
  induction h with
  | nil => rfl
  | cons _ _ _ ih => rw [List.length_cons, List.length_cons, ih]
theorem PartsIn.take {news : List (Addr × Obj)} {vr : List Value} {ur : List (List Str)} (h : PartsIn news vr ur) : ∀ i, PartsIn news (vr.take i) (ur.take i) := by
  induction h with
  | nil => intro i; rw [List.take_nil, List.take_nil]; exact .nil
  | cons h1 h2 _ ih =>
    intro i
    cases i with
    | zero => exact .nil
    | succ i => exact .cons h1 h2 (ih i)
theorem PartsIn.drop {news : List (Addr × Obj)} {vr : List Value} {ur : List (List Str)} (h : PartsIn news vr ur) : ∀ i, PartsIn news (vr.drop i) (ur.drop i) := by
  induction h with
  | nil => intro i; rw [List.drop_nil, List.drop_nil]; exact .nil
  | cons h1 h2 h3 ih =>
    intro i
    cases i with
    | zero => exact .cons h1 h2 h3
    | succ i => exact ih i
theorem PartsIn.at {h₀ h : Heap} {L : Addr} {news : List (Addr × Obj)} {vr : List Value} {ur : List (List Str)} (N : News h₀ L h news) (p : PartsIn news vr ur) : PartsAt h vr ur := by
  induction p with
  | nil => exact .nil
  | cons h1 h2 _ ih => exact .cons ⟨_, (N _ h1).1, rfl, _, rfl⟩ h2 ih
theorem KeysIn.get {news : List (Addr × Obj)} {vs : List Value} {ks : List (Bool × Str)} (h : KeysIn news vs ks) : ∀ {i : Nat} {k : Bool × Str}, ks[i]? = some k → ∃ a t n, vs[i]? = some (.ref a) ∧ (a, tupO [.bool k.1, .str k.2 t] n) ∈ news := by
  induction h with
  | nil => intro i k e; cases e
  | cons h1 _ ih =>
    intro i k e
    cases i with
    | zero => cases e; exact ⟨_, _, _, rfl, h1⟩
    | succ i => exact ih e
section
variable {prog : Program} {w : World} {A : Around} {E : Value → Shared → Prop} {s : Shared} {h₀ : Heap} {L : Addr} {m : Str → Option Value} {news tl : List (Addr × Obj)} {Q : Value → Shared → Prop} {value slice : PySem.Expr}
theorem seed_item {S : Addr} {vals : List Value} {zs : List Int} {k i : Nat} {sd : Int} {u : Tok} (N : News h₀ L s.heap news) (hm : (S, listOf vals.toArray k) ∈ news) (hi : IntsAre vals zs) (hz : zs[i]? = some sd) (hl : zs.length ≤ 1000)
    (h : ∀ t, Q (.int sd t) s) (hs : subscripted slice false (.ref S) (.int (i : Int) u) = operate [.ref S, .int (i : Int) u] (getItem (.ref S) (.int (i : Int) u)) := by with_unfolding_all rfl) :
    wpAny (model prog w) A (subscriptTail value slice (.ref S) (.int (i : Int) u)) Q E s := by
  have hl' : s.heap.IsList S vals.toArray := ⟨_, (N _ hm).1, rfl, k, rfl⟩
  obtain ⟨t, e⟩ := PyProof.Rows.IntsAre.get hi i sd hz
  have hlt : i < zs.length := (List.getElem?_eq_some_iff.mp hz).1
  exact tail_any hl'.typeIs slot_list_getitem.lookup (wpAny_getItem_list hl' (Int.natCast_nonneg _) (by omega) (by simpa using e) (h t)) hs
theorem row_item {R : Addr} {vals : List Value} {ks : List (Bool × Str)} {n : Nat} {j : Int} {u : Tok} (N : News h₀ L s.heap news) (hm : (R, tupO vals n) ∈ news) (hk : KeysIn tl vals ks) (hl : ks.length ≤ 1000) (h0 : 0 ≤ j) (h1 : j < (ks.length : Int))
    (h : ∀ a b nm t n, ks[j.toNat]? = some (b, nm) → (a, tupO [.bool b, .str nm t] n) ∈ tl → Q (.ref a) s) (hs : subscripted slice false (.ref R) (.int j u) = operate [.ref R, .int j u] (getItem (.ref R) (.int j u)) := by with_unfolding_all rfl) :
    wpAny (model prog w) A (subscriptTail value slice (.ref R) (.int j u)) Q E s := by
  have ht : IsTup s.heap R vals.toArray := ⟨_, (N _ hm).1, rfl, n, rfl⟩
  obtain ⟨kk, hkk⟩ : ∃ kk, ks[j.toNat]? = some kk := ⟨ks[j.toNat]'(by omega), List.getElem?_eq_getElem _⟩
  obtain ⟨a, t, n', e, hm'⟩ := hk.get hkk
  have hlt := hk.length
  exact tail_any ht.typeIs slot_tuple_getitem.lookup (getItem_tuple ht (by omega) (by omega) (j := j.toNat) (by unfold seqIndex?; simp; omega) (by simpa using e) (h a _ _ t n' hkk hm')) hs
end
end
section
set_option maxRecDepth 100000

noncomputable def pfx : List Nat → List Nat → Bool
  | [], _ => true
  | _ :: _, [] => false
  | a :: y, b :: x => Nat.beq a b && pfx y x
noncomputable def inf (y : List Nat) : List Nat → Bool
  | [] => pfx y []
  | b :: x => pfx y (b :: x) || inf y x
theorem pfx_iff : ∀ (y x : List Nat), pfx y x = true ↔ (x.take y.length == y) = true
  | [], x => by simp [pfx]
  | a :: y, [] => by simp [pfx]
  | a :: y, b :: x => by
    have ih := pfx_iff y x
    simp only [pfx, Bool.and_eq_true, ih, List.length_cons, List.take_succ_cons]
    rw [Nat.beq_eq, beq_iff_eq, beq_iff_eq, List.cons.injEq]
    constructor
    · rintro ⟨h1, h2⟩; exact ⟨h1.symm, h2⟩
    · rintro ⟨h1, h2⟩; exact ⟨h1.symm, h2⟩
theorem inf_iff (y : List Nat) : ∀ x : List Nat, inf y x = true ↔ ∃ i, i + y.length ≤ x.length ∧ ((x.drop i).take y.length == y) = true
  | [] => by
    rw [inf, pfx_iff]
    constructor
    · intro h
      refine ⟨0, ?_, h⟩
      rw [List.take_nil, beq_iff_eq] at h
      rw [← h]; simp
    · rintro ⟨i, _, h⟩
      rw [List.drop_nil] at h; exact h
  | b :: x => by
    rw [inf, Bool.or_eq_true, pfx_iff, inf_iff y x]
    constructor
    · rintro (h | ⟨i, h1, h2⟩)
      · refine ⟨0, ?_, h⟩
        rw [beq_iff_eq] at h
        have := congrArg List.length h
        rw [List.length_take] at this
        omega
      · exact ⟨i + 1, by rw [List.length_cons]; omega, h2⟩
    · rintro ⟨i, h1, h2⟩
      cases i with
      | zero => exact .inl h2
      | succ i => exact .inr ⟨i, by rw [List.length_cons] at h1; omega, h2⟩
noncomputable def resL (P : Params) : List Nat := (rawres P).1.cps.toList
theorem rsv_inf (P : Params) (wd : Str) : rsv P wd = inf ((⟨⟨[32]⟩⟩ : Str) ++ wd ++ (⟨⟨[32]⟩⟩ : Str)).cps.toList (resL P) := by
  unfold rsv
  rw [Bool.eq_iff_iff, StrLaws.found_iff, inf_iff]
  constructor
  · rintro ⟨i, h1, h2⟩
    rw [StrLaws.subAt_eq] at h2
    exact ⟨i, by simpa [Str.length, resL] using h1, by simpa [Str.length, resL] using h2⟩
  · rintro ⟨i, h1, h2⟩
    refine ⟨i, by simpa [Str.length, resL] using h1, ?_⟩
    rw [StrLaws.subAt_eq]
    simpa [Str.length, resL] using h2
noncomputable def lit : List Nat := [32, 65, 67, 67, 69, 80, 84, 32, 65, 67, 67, 69, 83, 83, 32, 65, 68, 68, 32, 65, 68, 86, 65, 78, 67, 73, 78, 71, 32, 65, 70, 84, 69, 82, 32, 65, 76, 76, 32, 65, 76, 80, 72, 65, 66, 69, 84, 73, 67, 32, 65, 76, 80, 72, 65, 66, 69, 84, 73, 67, 45, 76, 79, 87, 69, 82, 32, 65, 76, 80, 72, 65, 66, 69, 84, 73, 67, 45, 85, 80, 80, 69, 82, 32, 65, 76, 80, 72, 65, 78, 85, 77, 69, 82, 73, 67, 32, 65, 76, 80, 72, 65, 78, 85, 77, 69, 82, 73, 67, 45, 69, 68, 73, 84, 69, 68, 32, 65, 76, 83, 79, 32, 65, 76, 84, 69, 82, 78, 65, 84, 69, 32, 65, 78, 68, 32, 65, 78, 89, 32, 65, 82, 69, 32, 65, 82, 69, 65, 32, 65, 82, 69, 65, 83, 32, 65, 83, 67, 69, 78, 68, 73, 78, 71, 32, 65, 83, 83, 73, 71, 78, 32, 65, 84, 32, 65, 85, 84, 72, 79, 82, 32, 66, 69, 70, 79, 82, 69, 32, 66, 73, 78, 65, 82, 89, 32, 66, 76, 65, 78, 75, 32, 66, 76, 79, 67, 75, 32, 66, 89, 32, 67, 65, 76, 76, 32, 67, 72, 65, 82, 65, 67, 84, 69, 82, 32, 67, 72, 65, 82, 65, 67, 84, 69, 82, 83, 32, 67, 76, 79, 83, 69, 32, 67, 79, 77, 80, 32, 67, 79, 77, 80, 45, 51, 32, 67, 79, 77, 80, 85, 84, 65, 84, 73, 79, 78, 65, 76, 32, 67, 79, 77, 80, 85, 84, 65, 84, 73, 79, 78, 65, 76, 45, 51, 32, 67, 79, 77, 80, 85, 84, 69, 32, 67, 79, 78, 70, 73, 71, 85, 82, 65, 84, 73, 79, 78, 32, 67, 79, 78, 84, 65, 73, 78, 83, 32, 67, 79, 78, 84, 69, 78, 84, 32, 67, 79, 78, 84, 73, 78, 85, 69, 32, 67, 79, 78, 86, 69, 82, 84, 73, 78, 71, 32, 67, 79, 80, 89, 32, 67, 79, 82, 82, 32, 67, 79, 82, 82, 69, 83, 80, 79, 78, 68, 73, 78, 71, 32, 67, 79, 85, 78, 84, 32, 68, 65, 84, 65, 32, 68, 65, 84, 69, 45, 67, 79, 77, 80, 73, 76, 69, 68, 32, 68, 65, 84, 69, 45, 87, 82, 73, 84, 84, 69, 78, 32, 68, 69, 76, 69, 84, 69, 32, 68, 69, 76, 73, 77, 73, 84, 69, 68, 32, 68, 69, 76, 73, 77, 73, 84, 69, 82, 32, 68, 69, 80, 69, 78, 68, 73, 78, 71, 32, 68, 69, 83, 67, 69, 78, 68, 73, 78, 71, 32, 68, 73, 83, 80, 76, 65, 89, 32, 68, 73, 86, 73, 68, 69, 32, 68, 73, 86, 73, 83, 73, 79, 78, 32, 68, 79, 87, 78, 32, 68, 85, 80, 76, 73, 67, 65, 84, 69, 83, 32, 68, 89, 78, 65, 77, 73, 67, 32, 69, 76, 83, 69, 32, 69, 78, 68, 32, 69, 78, 68, 45, 65, 68, 68, 32, 69, 78, 68, 45, 67, 65, 76, 76, 32, 69, 78, 68, 45, 67, 79, 77, 80, 85, 84, 69, 32, 69, 78, 68, 45, 68, 69, 76, 69, 84, 69, 32, 69, 78, 68, 45, 68, 73, 86, 73, 68, 69, 32, 69, 78, 68, 45, 69, 86, 65, 76, 85, 65, 84, 69, 32, 69, 78, 68, 45, 73, 70, 32, 69, 78, 68, 45, 77, 85, 76, 84, 73, 80, 76, 89, 32, 69, 78, 68, 45, 80, 69, 82, 70, 79, 82, 77, 32, 69, 78, 68, 45, 82, 69, 65, 68, 32, 69, 78, 68, 45, 82, 69, 84, 85, 82, 78, 32, 69, 78, 68, 45, 82, 69, 87, 82, 73, 84, 69, 32, 69, 78, 68, 45, 83, 69, 65, 82, 67, 72, 32, 69, 78, 68, 45, 83, 84, 65, 82, 84, 32, 69, 78, 68, 45, 83, 84, 82, 73, 78, 71, 32, 69, 78, 68, 45, 83, 85, 66, 84, 82, 65, 67, 84, 32, 69, 78, 68, 45, 85, 78, 83, 84, 82, 73, 78, 71, 32, 69, 78, 68, 45, 87, 82, 73, 84, 69, 32, 69, 78, 86, 73, 82, 79, 78, 77, 69, 78, 84, 32, 69, 81, 85, 65, 76, 32, 69, 82, 82, 79, 82, 32, 69, 86, 65, 76, 85, 65, 84, 69, 32, 69, 88, 67, 69, 80, 84, 73, 79, 78, 32, 69, 88, 73, 84, 32, 69, 88, 84, 69, 78, 68, 32, 69, 88, 84, 69, 82, 78, 65, 76, 32, 70, 65, 76, 83, 69, 32, 70, 68, 32, 70, 73, 76, 69, 32, 70, 73, 76, 69, 45, 67, 79, 78, 84, 82, 79, 76, 32, 70, 73, 76, 76, 69, 82, 32, 70, 73, 82, 83, 84, 32, 70, 79, 82, 32, 70, 82, 79, 77, 32, 71, 73, 86, 73, 78, 71, 32, 71, 76, 79, 66, 65, 76, 32, 71, 79, 32, 71, 82, 69, 65, 84, 69, 82, 32, 72, 73, 71, 72, 45, 86, 65, 76, 85, 69, 32, 72, 73, 71, 72, 45, 86, 65, 76, 85, 69, 83, 32, 73, 45, 79, 32, 73, 45, 79, 45, 67, 79, 78, 84, 82, 79, 76, 32, 73, 68, 69, 78, 84, 73, 70, 73, 67, 65, 84, 73, 79, 78, 32, 73, 70, 32, 73, 78, 32, 73, 78, 68, 69, 88, 32, 73, 78, 68, 69, 88, 69, 68, 32, 73, 78, 73, 84, 73, 65, 76, 32, 73, 78, 73, 84, 73, 65, 76, 73, 90, 69, 32, 73, 78, 80, 85, 84, 32, 73, 78, 80, 85, 84, 45, 79, 85, 84, 80, 85, 84, 32, 73, 78, 83, 80, 69, 67, 84, 32, 73, 78, 83, 84, 65, 76, 76, 65, 84, 73, 79, 78, 32, 73, 78, 84, 79, 32, 73, 78, 86, 65, 76, 73, 68, 32, 73, 83, 32, 74, 85, 83, 84, 32, 74, 85, 83, 84, 73, 70, 73, 69, 68, 32, 75, 69, 89, 32, 76, 65, 66, 69, 76, 32, 76, 69, 65, 68, 73, 78, 71, 32, 76, 69, 70, 84, 32, 76, 69, 83, 83, 32, 76, 73, 78, 69, 32, 76, 73, 78, 69, 83, 32, 76, 73, 78, 75, 65, 71, 69, 32, 76, 79, 67, 75, 32, 76, 79, 87, 45, 86, 65, 76, 85, 69, 32, 76, 79, 87, 45, 86, 65, 76, 85, 69, 83, 32, 77, 69, 82, 71, 69, 32, 77, 79, 68, 69, 32, 77, 79, 86, 69, 32, 77, 85, 76, 84, 73, 80, 76, 89, 32, 78, 65, 84, 73, 86, 69, 32, 78, 69, 71, 65, 84, 73, 86, 69, 32, 78, 69, 88, 84, 32, 78, 79, 32, 78, 79, 84, 32, 78, 85, 77, 69, 82, 73, 67, 32, 78, 85, 77, 69, 82, 73, 67, 45, 69, 68, 73, 84, 69, 68, 32, 79, 66, 74, 69, 67, 84, 45, 67, 79, 77, 80, 85, 84, 69, 82, 32, 79, 67, 67, 85, 82, 83, 32, 79, 70, 32, 79, 70, 70, 32, 79, 77, 73, 84, 84, 69, 68, 32, 79, 78, 32, 79, 80, 69, 78, 32, 79, 80, 84, 73, 79, 78, 65, 76, 32, 79, 82, 32, 79, 82, 68, 69, 82, 32, 79, 82, 71, 65, 78, 73, 90, 65, 84, 73, 79, 78, 32, 79, 84, 72, 69, 82, 32, 79, 85, 84, 80, 85, 84, 32, 79, 86, 69, 82, 70, 76, 79, 87, 32, 80, 65, 67, 75, 69, 68, 45, 68, 69, 67, 73, 77, 65, 76, 32, 80, 69, 82, 70, 79, 82, 77, 32, 80, 73, 67, 32, 80, 73, 67, 84, 85, 82, 69, 32, 80, 79, 73, 78, 84, 69, 82, 32, 80, 79, 83, 73, 84, 73, 86, 69, 32, 80, 82, 79, 67, 69, 68, 85, 82, 69, 32, 80, 82, 79, 67, 69, 69, 68, 32, 80, 82, 79, 71, 82, 65, 77, 32, 80, 82, 79, 71, 82, 65, 77, 45, 73, 68, 32, 81, 85, 79, 84, 69, 32, 81, 85, 79, 84, 69, 83, 32, 82, 65, 78, 68, 79, 77, 32, 82, 69, 65, 68, 32, 82, 69, 67, 79, 82, 68, 32, 82, 69, 67, 79, 82, 68, 83, 32, 82, 69, 68, 69, 70, 73, 78, 69, 83, 32, 82, 69, 70, 69, 82, 69, 78, 67, 69, 32, 82, 69, 76, 65, 84, 73, 86, 69, 32, 82, 69, 76, 69, 65, 83, 69, 32, 82, 69, 77, 65, 73, 78, 68, 69, 82, 32, 82, 69, 78, 65, 77, 69, 83, 32, 82, 69, 80, 76, 65, 67, 69, 32, 82, 69, 80, 76, 65, 67, 73, 78, 71, 32, 82, 69, 84, 85, 82, 78, 32, 82, 69, 87, 82, 73, 84, 69, 32, 82, 73, 71, 72, 84, 32, 82, 79, 85, 78, 68, 69, 68, 32, 82, 85, 78, 32, 83, 65, 77, 69, 32, 83, 68, 32, 83, 69, 65, 82, 67, 72, 32, 83, 69, 67, 84, 73, 79, 78, 32, 83, 69, 67, 85, 82, 73, 84, 89, 32, 83, 69, 76, 69, 67, 84, 32, 83, 69, 78, 84, 69, 78, 67, 69, 32, 83, 69, 80, 65, 82, 65, 84, 69, 32, 83, 69, 81, 85, 69, 78, 84, 73, 65, 76, 32, 83, 69, 84, 32, 83, 73, 71, 78, 32, 83, 73, 90, 69, 32, 83, 79, 82, 84, 32, 83, 79, 82, 84, 45, 77, 69, 82, 71, 69, 32, 83, 79, 85, 82, 67, 69, 45, 67, 79, 77, 80, 85, 84, 69, 82, 32, 83, 80, 65, 67, 69, 32, 83, 80, 65, 67, 69, 83, 32, 83, 80, 69, 67, 73, 65, 76, 45, 78, 65, 77, 69, 83, 32, 83, 84, 65, 78, 68, 65, 82, 68, 32, 83, 84, 65, 82, 84, 32, 83, 84, 65, 84, 85, 83, 32, 83, 84, 79, 80, 32, 83, 84, 82, 73, 78, 71, 32, 83, 85, 66, 84, 82, 65, 67, 84, 32, 83, 89, 78, 67, 32, 83, 89, 78, 67, 72, 82, 79, 78, 73, 90, 69, 68, 32, 84, 65, 76, 76, 89, 73, 78, 71, 32, 84, 69, 83, 84, 32, 84, 72, 65, 78, 32, 84, 72, 69, 78, 32, 84, 72, 82, 79, 85, 71, 72, 32, 84, 72, 82, 85, 32, 84, 73, 77, 69, 83, 32, 84, 79, 32, 84, 82, 65, 73, 76, 73, 78, 71, 32, 84, 82, 85, 69, 32, 85, 78, 83, 84, 82, 73, 78, 71, 32, 85, 78, 84, 73, 76, 32, 85, 80, 32, 85, 80, 79, 78, 32, 85, 83, 65, 71, 69, 32, 85, 83, 73, 78, 71, 32, 86, 65, 76, 85, 69, 32, 86, 65, 76, 85, 69, 83, 32, 86, 65, 82, 89, 73, 78, 71, 32, 87, 72, 69, 78, 32, 87, 73, 84, 72, 32, 87, 79, 82, 75, 73, 78, 71, 45, 83, 84, 79, 82, 65, 71, 69, 32, 87, 82, 73, 84, 69, 32, 90, 69, 82, 79, 32, 90, 69, 82, 79, 69, 83, 32, 90, 69, 82, 79, 83, 32]
theorem res_eq (P : Params) : resL P = lit := by kernel_rfl
def sp (wd : Str) : List Nat := 32 :: (wd.cps.toList ++ [32])
theorem rsv_sp (P : Params) (wd : Str) : rsv P wd = inf (sp wd) lit := by
  rw [rsv_inf, res_eq]
  have e : ((⟨⟨[32]⟩⟩ : Str) ++ wd ++ (⟨⟨[32]⟩⟩ : Str)).cps.toList = sp wd := by
    show ((#[32] ++ wd.cps) ++ #[32]).toList = _
    simp [sp]
  rw [e]
theorem r_k1 (P : Params) : rsv P (Str.ofString "K-1") = false := by rw [rsv_sp]; decide +kernel
theorem r_k2 (P : Params) : rsv P (Str.ofString "K-2") = false := by rw [rsv_sp]; decide +kernel
theorem r_am (P : Params) : rsv P (Str.ofString "AMOUNT") = false := by rw [rsv_sp]; decide +kernel
theorem r_on (P : Params) : rsv P (Str.ofString "ON") = true := by rw [rsv_sp]; decide +kernel
theorem r_asc (P : Params) : rsv P (Str.ofString "ASCENDING") = true := by rw [rsv_sp]; decide +kernel
theorem r_desc (P : Params) : rsv P (Str.ofString "DESCENDING") = true := by rw [rsv_sp]; decide +kernel
theorem r_using (P : Params) : rsv P (Str.ofString "USING") = true := by rw [rsv_sp]; decide +kernel
theorem r_with (P : Params) : rsv P (Str.ofString "WITH") = true := by rw [rsv_sp]; decide +kernel
theorem r_giving (P : Params) : rsv P (Str.ofString "GIVING") = true := by rw [rsv_sp]; decide +kernel
end
section
theorem eON : Str.ofString "ON" = wON := by decide +kernel
theorem eASC : Str.ofString "ASCENDING" = wASC := by decide +kernel
theorem eDESC : Str.ofString "DESCENDING" = wDESC := by decide +kernel
theorem eKEY : Str.ofString "KEY" = wKEY := by decide +kernel
theorem rON (P : Params) : rsv P wON = true := eON ▸ r_on P
theorem rASC (P : Params) : rsv P wASC = true := eASC ▸ r_asc P
theorem rDESC (P : Params) : rsv P wDESC = true := eDESC ▸ r_desc P
theorem r_key (P : Params) : rsv P wKEY = true := by rw [rsv_sp]; decide +kernel
theorem ne_key {P : Params} {nm : Str} (h : rsv P nm = false) : nm ≠ wKEY := fun e => by rw [e, r_key] at h; cases h
def phw (on b ky : Bool) (nm : Str) : List Str := (if on = true then [wON] else []) ++ [if b = true then wASC else wDESC] ++ (if ky = true then [wKEY] else []) ++ [nm]
theorem at_app (pre r : List Str) (k : Nat) : (pre ++ r)[pre.length + k]? = r[k]? := by
  rw [List.getElem?_append_right (Nat.le_add_right _ _), Nat.add_sub_cancel_left]
theorem at_app0 (pre r : List Str) : (pre ++ r)[pre.length]? = r[0]? := at_app pre r 0
theorem phr_dir {pre r : List Str} {on b ky : Bool} {nm : Str} (hk : nm ≠ wKEY) : dirF (pre ++ (phw on b ky nm ++ r)) pre.length = some (b, pre.length + ((phw on b ky nm).length - 1)) := by
  have hd : ∀ k, (pre ++ (phw on b ky nm ++ r))[pre.length + k]? = (phw on b ky nm ++ r)[k]? := fun k => at_app pre _ k
  have h0 := hd 0
  have h1 := hd 1
  have h2 := hd 2
  have h3 := hd 3
  generalize (pre ++ (phw on b ky nm ++ r)) = ws at *
  have hk' : some nm ≠ some wKEY := fun e => hk (Option.some.inj e)
  cases on <;> cases b <;> cases ky
  · exact dirF_f (i1 := pre.length) (skip_n (by rw [show ws[pre.length]? = _ from h0]; exact fun e => absurd (Option.some.inj (show some wDESC = some wON from e)) (by decide))) (skip_n (by rw [h1]; exact hk')) h0
  · exact dirF_f (i1 := pre.length) (skip_n (by rw [show ws[pre.length]? = _ from h0]; exact fun e => absurd (Option.some.inj (show some wDESC = some wON from e)) (by decide))) (skip_y h1) h0
  · exact dirF_t (i1 := pre.length) (skip_n (by rw [show ws[pre.length]? = _ from h0]; exact fun e => absurd (Option.some.inj (show some wASC = some wON from e)) (by decide))) (skip_n (by rw [h1]; exact hk')) h0
  · exact dirF_t (i1 := pre.length) (skip_n (by rw [show ws[pre.length]? = _ from h0]; exact fun e => absurd (Option.some.inj (show some wASC = some wON from e)) (by decide))) (skip_y h1) h0
  · exact dirF_f (i1 := pre.length + 1) (skip_y h0) (skip_n (by rw [h2]; exact hk')) h1
  · exact dirF_f (i1 := pre.length + 1) (skip_y h0) (skip_y h2) h1
  · exact dirF_t (i1 := pre.length + 1) (skip_y h0) (skip_n (by rw [h2]; exact hk')) h1
  · exact dirF_t (i1 := pre.length + 1) (skip_y h0) (skip_y h2) h1
theorem phr_last {pre r : List Str} {on b ky : Bool} {nm : Str} : (pre ++ (phw on b ky nm ++ r))[pre.length + ((phw on b ky nm).length - 1)]? = some nm := by
  rw [at_app]
  cases on <;> cases ky <;> rfl
theorem phr_len {on b ky : Bool} {nm : Str} : 1 ≤ (phw on b ky nm).length ∧ (phw on b ky nm).length ≤ 4 := by
  cases on <;> cases b <;> cases ky <;> simp [phw]
theorem phr_first {P : Params} {on b ky : Bool} {nm : Str} : ∃ wd r, phw on b ky nm = wd :: r ∧ rsv P wd = true := by
  cases on
  · cases b
    · exact ⟨wDESC, _, rfl, rDESC P⟩
    · exact ⟨wASC, _, rfl, rASC P⟩
  · exact ⟨wON, _, rfl, rON P⟩
inductive Told (P : Params) : Bool → List (Bool × Str) → List (List Str) → Prop
  | nil {b : Bool} : Told P b [] []
  | name {b : Bool} {nm : Str} {ks : List (Bool × Str)} {ps : List (List Str)} : rsv P nm = false → Told P b ks ps → Told P b ((b, nm) :: ks) ([nm] :: ps)
  | phrase {b0 b : Bool} {nm : Str} {ks : List (Bool × Str)} {ps : List (List Str)} (on ky : Bool) : rsv P nm = false → Told P b ks ps → Told P b0 ((b, nm) :: ks) (phw on b ky nm :: ps)
structure Stops (P : Params) (bh : List Str) : Prop where
  res : ∀ wd, bh[0]? = some wd → rsv P wd = true
  dir : ∀ pre, dirF (pre ++ bh) pre.length = none
theorem nameF_at {P : Params} {pre r : List Str} : nameF P (pre ++ r) pre.length = nameF P r 0 := by
  unfold nameF; rw [at_app0]
theorem told_keys {P : Params} {bh : List Str} (hb : Stops P bh) {b : Bool} {ks : List (Bool × Str)} {ps : List (List Str)} (h : Told P b ks ps) : ∀ pre : List Str, ∃ us ks', ks = us.map (fun nm => (b, nm)) ++ ks' ∧ namesF P (pre ++ (ps.flatten ++ bh)) pre.length = us ∧
    Keys P (pre ++ (ps.flatten ++ bh)) (pre.length + us.length) ks' (pre.length + ps.flatten.length) := by
  induction h with
  | nil =>
    intro pre
    refine ⟨[], [], rfl, namesF_nil ?_, .stop (hb.dir pre)⟩
    rw [nameF_at]
    show nameF P bh 0 = false
    cases q : bh[0]? with
    | none => exact nameF_n q
    | some wd => rw [nameF_s q, hb.res wd q]; rfl
  | @name b nm ks ps hn _ ih =>
    intro pre
    obtain ⟨us, ks', e1, e2, e3⟩ := ih (pre ++ [nm])
    have ew : pre ++ (([nm] :: ps).flatten ++ bh) = (pre ++ [nm]) ++ (ps.flatten ++ bh) := by simp
    have el : (pre ++ [nm]).length = pre.length + 1 := by simp
    rw [ew]
    rw [el] at e2 e3
    have hw : ((pre ++ [nm]) ++ (ps.flatten ++ bh))[pre.length]? = some nm := by
      rw [← ew, at_app0]; rfl
    refine ⟨nm :: us, ks', by rw [e1]; rfl, ?_, ?_⟩
    · rw [namesF_cons hw (by rw [nameF_s hw, hn]; rfl), e2]
    · have q1 : pre.length + (nm :: us).length = pre.length + 1 + us.length := by rw [List.length_cons]; omega
      have q2 : pre.length + ([nm] :: ps).flatten.length = pre.length + 1 + ps.flatten.length := by simp; omega
      rw [q1, q2]; exact e3
  | @phrase b0 b nm ks ps on ky hn _ ih =>
    intro pre
    obtain ⟨us, ks', e1, e2, e3⟩ := ih (pre ++ phw on b ky nm)
    have ew : pre ++ ((phw on b ky nm :: ps).flatten ++ bh) = (pre ++ phw on b ky nm) ++ (ps.flatten ++ bh) := by simp
    have ew' : pre ++ ((phw on b ky nm :: ps).flatten ++ bh) = pre ++ (phw on b ky nm ++ (ps.flatten ++ bh)) := by simp
    have hlen := @phr_len on b ky nm
    have hdir := @phr_dir pre (ps.flatten ++ bh) on b ky nm (ne_key hn)
    have hlast := @phr_last pre (ps.flatten ++ bh) on b ky nm
    rw [← ew', ew] at hdir hlast
    have hfirst : nameF P ((pre ++ phw on b ky nm) ++ (ps.flatten ++ bh)) pre.length = false := by
      rw [← ew, nameF_at]
      obtain ⟨wd, r, e, hr⟩ := @phr_first P on b ky nm
      rw [nameF_s (wd := wd) (by rw [List.flatten_cons, e]; rfl), hr]; rfl
    have el : (pre ++ phw on b ky nm).length = pre.length + ((phw on b ky nm).length - 1) + 1 := by rw [List.length_append]; omega
    rw [el] at e2 e3
    rw [ew]
    have hnm : nameF P ((pre ++ phw on b ky nm) ++ (ps.flatten ++ bh)) (pre.length + ((phw on b ky nm).length - 1)) = true := by rw [nameF_s hlast, hn]; rfl
    have hnames := namesF_cons hlast hnm
    rw [e2] at hnames
    refine ⟨[], (b, nm) :: ks, rfl, namesF_nil hfirst, ?_⟩
    have := Keys.more (P := P) (ks := ks') (e := pre.length + (phw on b ky nm :: ps).flatten.length) hdir hnm (by
      rw [hnames]
      have q1 : pre.length + ((phw on b ky nm).length - 1) + (nm :: us).length = pre.length + ((phw on b ky nm).length - 1) + 1 + us.length := by rw [List.length_cons]; omega
      have q2 : pre.length + (phw on b ky nm :: ps).flatten.length = pre.length + ((phw on b ky nm).length - 1) + 1 + ps.flatten.length := by rw [List.flatten_cons, List.length_append]; omega
      rw [q1, q2]; exact e3)
    rw [hnames] at this
    have e : (b, nm) :: ks = (nm :: us).map (fun nm => (b, nm)) ++ ks' := by rw [e1]; rfl
    rw [e]
    exact this
theorem told_all {P : Params} {bh : List Str} (hb : Stops P bh) {k : Bool × Str} {ks : List (Bool × Str)} {ps : List (List Str)} (h : ∀ b0, Told P b0 (k :: ks) ps) : Keys P (ps.flatten ++ bh) 0 (k :: ks) ps.flatten.length := by
  obtain ⟨us, ks', e1, e2, e3⟩ := told_keys hb (h (!k.1)) []
  cases us with
  | nil =>
    rw [List.map_nil, List.nil_append] at e1
    subst e1
    simpa using e3
  | cons u us =>
    have := congrArg Prod.fst (List.cons.inj e1).1
    simp at this
theorem rsv_nm (P : Params) (sd : Int) : rsv P (nmF sd) = false := by
  unfold nmF
  split
  · exact r_k1 P
  · split
    · exact r_k2 P
    · exact r_am P
theorem phrF_eq (sd : Int) : phrF sd = phw (decide (sd.fmod 2 = 1)) (rowF sd).1 (decide ((sd.fdiv 2).fmod 2 = 1)) (rowF sd).2 := by
  unfold phrF phraseF phw
  rw [eON, eASC, eDESC, eKEY]
  simp
theorem told_dense (P : Params) : ∀ (zs : List Int) (b0 : Bool), Told P b0 (zs.map rowF) (zs.map phrF)
  | [], _ => .nil
  | sd :: r, b0 => by
    rw [List.map_cons, List.map_cons, phrF_eq]
    exact .phrase _ _ (rsv_nm P sd) (told_dense P r _)
theorem told_sp (P : Params) : ∀ (r pre : List Int) (z : Int), Told P (rowF z).1 (r.map rowF) ((List.range' (pre.length + 1) r.length).map (spAt (pre ++ z :: r)))
  | [], _, _ => .nil
  | sd :: r, pre, z => by
    have ih := told_sp P r (pre ++ [z]) sd
    have ew : (pre ++ [z]) ++ sd :: r = pre ++ z :: sd :: r := by simp
    have el : (pre ++ [z]).length + 1 = pre.length + 1 + 1 := by simp
    rw [ew, el] at ih
    rw [List.map_cons, List.length_cons, List.range'_succ, List.map_cons]
    have h1 : (pre ++ z :: sd :: r)[pre.length + 1]? = some sd := by
      rw [List.getElem?_append_right (Nat.le_add_right _ _), Nat.add_sub_cancel_left]; rfl
    have h0 : (pre ++ z :: sd :: r)[pre.length + 1 - 1]? = some z := by
      rw [Nat.add_sub_cancel, List.getElem?_append_right (Nat.le_refl _), Nat.sub_self]; rfl
    have hs : spAt (pre ++ z :: sd :: r) (pre.length + 1) = if (rowF z).1 = (rowF sd).1 then [(rowF sd).2] else phrF sd := by
      unfold spAt
      rw [h1]
      simp only [h0, Option.map_some, Option.some.injEq, Nat.zero_lt_succ, true_and]
    rw [hs]
    by_cases hb : (rowF z).1 = (rowF sd).1
    · rw [if_pos hb, hb]
      exact Told.name (rsv_nm P sd) ih
    · rw [if_neg hb, phrF_eq]
      exact Told.phrase _ _ (rsv_nm P sd) ih
theorem told_sparse (P : Params) (zs : List Int) (b0 : Bool) : Told P b0 (zs.map rowF) ((List.range zs.length).map (spAt zs)) := by
  cases zs with
  | nil => exact .nil
  | cons z r =>
    rw [List.length_cons, List.range_eq_range', List.range'_succ, List.map_cons, List.map_cons]
    have hs : spAt (z :: r) 0 = phrF z := by
      unfold spAt; simp
    rw [hs, phrF_eq]
    exact Told.phrase _ _ (rsv_nm P z) (told_sp P r [] z)
theorem stops_nil (P : Params) : Stops P [] := ⟨fun wd h => by simp at h, fun pre => by
  have h : ∀ k, (pre ++ [])[pre.length + k]? = none := fun k => by rw [at_app]; rfl
  exact dirF_n (i1 := pre.length) (skip_n (by rw [show (pre ++ ([] : List Str))[pre.length]? = _ from h 0]; exact fun e => nomatch e)) (by rw [show (pre ++ ([] : List Str))[pre.length]? = _ from h 0]; exact fun e => nomatch e) (by rw [show (pre ++ ([] : List Str))[pre.length]? = _ from h 0]; exact fun e => nomatch e)⟩
theorem stops_one {P : Params} {wd : Str} {r : List Str} (hr : rsv P wd = true) (h1 : wd ≠ wON) (h2 : wd ≠ wASC) (h3 : wd ≠ wDESC) : Stops P (wd :: r) := ⟨fun w h => by cases h; exact hr, fun pre => by
  have h : (pre ++ wd :: r)[pre.length]? = some wd := by rw [at_app0]; rfl
  exact dirF_n (i1 := pre.length) (skip_n (by rw [h]; exact fun e => h1 (Option.some.inj e))) (by rw [h]; exact fun e => h2 (Option.some.inj e)) (by rw [h]; exact fun e => h3 (Option.some.inj e))⟩
theorem stops_on {P : Params} {wd : Str} {r : List Str} (h2 : wd ≠ wASC) (h3 : wd ≠ wDESC) : Stops P (wON :: wd :: r) := ⟨fun w h => by cases h; exact rON P, fun pre => by
  have h0 : (pre ++ wON :: wd :: r)[pre.length]? = some wON := by rw [at_app0]; rfl
  have h : (pre ++ wON :: wd :: r)[pre.length + 1]? = some wd := by rw [at_app]; rfl
  exact dirF_n (i1 := pre.length + 1) (skip_y h0) (by rw [h]; exact fun e => h2 (Option.some.inj e)) (by rw [h]; exact fun e => h3 (Option.some.inj e))⟩
theorem flat_len {α : Type} {ps : List (List α)} {c : Nat} (h : ∀ p ∈ ps, p.length ≤ c) : ps.flatten.length ≤ c * ps.length := by
  induction ps with
  | nil => simp
  | cons p ps ih =>
    have h1 := h p (by simp)
    have h2 := ih fun q hq => h q (by simp [hq])
    rw [List.flatten_cons, List.length_append, List.length_cons, Nat.mul_succ]
    omega
theorem nm_len (sd : Int) : (nmF sd).length ≤ 100 := by
  unfold nmF
  split
  · decide +kernel
  · split <;> decide +kernel
theorem phr_ok {on b ky : Bool} {nm : Str} (h : nm.length ≤ 100) : ∀ u ∈ phw on b ky nm, u.length ≤ 100 := by
  have e1 : wON.length ≤ 100 := by decide
  have e2 : wASC.length ≤ 100 := by decide
  have e3 : wDESC.length ≤ 100 := by decide
  have e4 : wKEY.length ≤ 100 := by decide
  cases on <;> cases b <;> cases ky <;> simp [phw, e1, e2, e3, e4, h]
theorem told_ok {P : Params} {b : Bool} {ks : List (Bool × Str)} {ps : List (List Str)} (h : Told P b ks ps) (hk : ∀ k ∈ ks, k.2.length ≤ 100) : (∀ u ∈ ps.flatten, u.length ≤ 100) ∧ ps.flatten.length ≤ 4 * ks.length := by
  induction h with
  | nil => exact ⟨fun u h => (by simp at h), by simp⟩
  | @name b nm ks ps hn _ ih =>
    obtain ⟨a, c⟩ := ih fun k hk' => hk k (by simp [hk'])
    refine ⟨fun u hu => ?_, by simp only [List.flatten_cons, List.length_append, List.length_cons, List.length_nil]; omega⟩
    rw [List.flatten_cons, List.mem_append] at hu
    rcases hu with hu | hu
    · rw [List.mem_singleton] at hu; subst hu; exact hk (b, u) (by simp)
    · exact a u hu
  | @phrase b0 b nm ks ps on ky hn _ ih =>
    obtain ⟨a, c⟩ := ih fun k hk' => hk k (by simp [hk'])
    have hl := @phr_len on b ky nm
    refine ⟨fun u hu => ?_, by rw [List.flatten_cons, List.length_append, List.length_cons]; omega⟩
    rw [List.flatten_cons, List.mem_append] at hu
    rcases hu with hu | hu
    · exact phr_ok (hk (b, nm) (by simp)) u hu
    · exact a u hu
theorem rows_ok (zs : List Int) : ∀ k ∈ zs.map rowF, k.2.length ≤ 100 := fun k hk => by
  obtain ⟨sd, _, rfl⟩ := List.mem_map.mp hk
  exact nm_len sd
end
section
theorem fm_bd (a : Int) {n : Int} (h : 0 < n) : 0 ≤ a.fmod n ∧ a.fmod n < n := by
  rw [Int.fmod_eq_emod_of_nonneg _ (Int.le_of_lt h)]
  exact ⟨Int.emod_nonneg _ (Int.ne_of_gt h), Int.emod_lt_of_pos _ h⟩
abbrev seedsF (ns : List Int) : List Int := List.map (fun k' => Int.fmod k' 1000) (List.take 9 ns) ++ [5 + Int.fmod (ns.length : Int) 7, 2, 9]
theorem seeds_ok (ns : List Int) : ∀ z ∈ seedsF ns, 0 ≤ z ∧ z < 1000 := by
  intro z hz
  rcases List.mem_append.mp hz with h | h
  · obtain ⟨k, _, rfl⟩ := List.mem_map.mp h
    exact fm_bd k (by decide)
  · have := fm_bd (ns.length : Int) (n := 7) (by decide)
    simp only [List.mem_cons, List.not_mem_nil, or_false] at h
    rcases h with rfl | rfl | rfl <;> omega
theorem seeds_len (ns : List Int) : 3 ≤ (seedsF ns).length ∧ (seedsF ns).length ≤ 12 := by
  unfold seedsF
  rw [List.length_append, List.length_map, List.length_take]
  simp only [List.length_cons, List.length_nil]
  omega
theorem seeds_len2 (ns : List Int) : (seedsF ns).length ≤ 1000 := Nat.le_trans (seeds_len ns).2 (by decide)
theorem size_ints {vals : List Value} {zs : List Int} (hs : IntsAre vals zs) (hl : zs.length ≤ 1000) : vals.toArray.size ≤ sizeLine := by
  rw [List.size_toArray, hs.length, sizeLine_eq]; omega
theorem rowF0 {sd : Int} (h : (sd.fdiv 8).fmod 3 = 0) : ((sd.fdiv 4).fmod 2 == 0, Str.ofString "K-1") = rowF sd := by
  unfold rowF nmF; rw [if_pos h]
theorem rowF1 {sd : Int} (h : (sd.fdiv 8).fmod 3 = 1) : ((sd.fdiv 4).fmod 2 == 0, Str.ofString "K-2") = rowF sd := by
  unfold rowF nmF; rw [if_neg (by rw [h]; decide), if_pos h]
theorem rowF2 {sd : Int} (h : (sd.fdiv 8).fmod 3 = 2) : ((sd.fdiv 4).fmod 2 == 0, Str.ofString "AMOUNT") = rowF sd := by
  unfold rowF nmF; rw [if_neg (by rw [h]; decide), if_neg (by rw [h]; decide)]
theorem rows_len (ns : List Int) : ((seedsF ns).map rowF).length ≤ 1000 := by rw [List.length_map]; exact seeds_len2 ns
section
variable {prog : Program} {w : World} {A : Around} {E : Value → Shared → Prop} {s : Shared} {h₀ : Heap} {L : Addr} {m : Str → Option Value} {news tl : List (Addr × Obj)} {Q : Value → Shared → Prop} {value slice : PySem.Expr}
theorem menu3 {T : Addr} {n : Nat} {ta tb tc : Tok} {sd : Int} {u : Tok} (N : News h₀ L s.heap news) (hm : (T, tupO [.str (Str.ofString "K-1") ta, .str (Str.ofString "K-2") tb, .str (Str.ofString "AMOUNT") tc] n) ∈ news)
    (h : ∀ t, Q (.str (nmF sd) t) s) (hs : subscripted slice false (.ref T) (.int ((sd.fdiv 8).fmod 3) u) = operate [.ref T, .int ((sd.fdiv 8).fmod 3) u] (getItem (.ref T) (.int ((sd.fdiv 8).fmod 3) u)) := by with_unfolding_all rfl) :
    wpAny (model prog w) A (subscriptTail value slice (.ref T) (.int ((sd.fdiv 8).fmod 3) u)) Q E s := by
  have ht : IsTup s.heap T [Value.str (Str.ofString "K-1") ta, Value.str (Str.ofString "K-2") tb, Value.str (Str.ofString "AMOUNT") tc].toArray := ⟨_, (N _ hm).1, rfl, n, rfl⟩
  have hb := fm_bd (sd.fdiv 8) (n := 3) (by decide)
  have key : ∀ j : Int, j = (sd.fdiv 8).fmod 3 → ∃ t, [Value.str (Str.ofString "K-1") ta, Value.str (Str.ofString "K-2") tb, Value.str (Str.ofString "AMOUNT") tc].toArray[j.toNat]? = some (.str (nmF sd) t) := by
    intro j hj
    have h3 : j = 0 ∨ j = 1 ∨ j = 2 := by omega
    rcases h3 with rfl | rfl | rfl
    · exact ⟨ta, by unfold nmF; rw [if_pos hj.symm]; rfl⟩
    · exact ⟨tb, by unfold nmF; rw [if_neg (by rw [← hj]; decide), if_pos hj.symm]; rfl⟩
    · exact ⟨tc, by unfold nmF; rw [if_neg (by rw [← hj]; decide), if_neg (by rw [← hj]; decide)]; rfl⟩
  obtain ⟨t, e⟩ := key _ rfl
  exact tail_any ht.typeIs slot_tuple_getitem.lookup (getItem_tuple ht (by omega) (by omega) (j := ((sd.fdiv 8).fmod 3).toNat) (by unfold seqIndex?; simp; omega) e (h t)) hs
end
end
section
abbrev nAt : Str := Str.ofString "at"
abbrev nRow : Str := Str.ofString "row"
abbrev nSame : Str := Str.ofString "same"
def lawM (m₀ : Str → Option Value) (a r sm : Option Value) : Str → Option Value := fun y => if y = nSame then sm else if y = nRow then r else if y = nAt then a else m₀ y
theorem lawM_self (m₀ : Str → Option Value) : m₀ = lawM m₀ (m₀ nAt) (m₀ nRow) (m₀ nSame) := by
  funext y
  unfold lawM
  split
  · rename_i h; rw [h]
  · split
    · rename_i h; rw [h]
    · split
      · rename_i h; rw [h]
      · rfl
theorem lawM_3 {m₀ : Str → Option Value} {a r sm : Option Value} {va vr vs : Value} : (fun y => if y = nSame then some vs else if y = nRow then some vr else if y = nAt then some va else lawM m₀ a r sm y) = lawM m₀ (some va) (some vr) (some vs) := by
  funext y
  unfold lawM
  by_cases h1 : y = nSame
  · rw [if_pos h1, if_pos h1]
  · by_cases h2 : y = nRow
    · rw [if_neg h1, if_pos h2, if_neg h1, if_pos h2]
    · by_cases h3 : y = nAt
      · rw [if_neg h1, if_neg h2, if_pos h3, if_neg h1, if_neg h2, if_pos h3]
      · rw [if_neg h1, if_neg h2, if_neg h3, if_neg h1, if_neg h2, if_neg h3, if_neg h1, if_neg h2, if_neg h3]
theorem mem_first {a : Addr × Obj} {l nx : List (Addr × Obj)} (h : ∀ p ∈ a :: l, p ∈ nx) : a ∈ nx := h _ (.head _)
def SdOk (sd : Int) : Prop := 0 ≤ sd ∧ sd < 1000
structure LJ (zs : List Int) (nx : List (Addr × Obj)) (i : Nat) (dv sv : List Value) (tl' : List (Addr × Obj)) : Prop where
  sub : ∀ p ∈ nx, p ∈ tl'
  dense : PartsIn tl' dv ((zs.take i).map phrF)
  sparse : PartsIn tl' sv ((List.range i).map (spAt zs))
def LawPost (h₀ : Heap) (L : Addr) (s₁ : Shared) (m₀ : Str → Option Value) (e I R Ds Dd : Addr) (oe oi ro : Obj) (dv sv : List Value) (us vs : List Str) (tl' : List (Addr × Obj)) (Q : Flow → Shared → Prop) (f : Flow) (s₂ : Shared) : Prop :=
  match f with
  | .next | .cont => ∃ h' tk' a r sm big P1 P2 pv1 pv2 k1 k2 kd ks, s₂ = { s₁ with heap := h', toks := tk' } ∧ Fr h₀ L h' (lawM m₀ a r sm) ∧ News h₀ L h' big ∧ (Ds, listOf (sv.toArray.push (.ref P2)) ks) ∈ big ∧ (Dd, listOf (dv.toArray.push (.ref P1)) kd) ∈ big ∧
      (R, ro) ∈ big ∧ (P1, listOf pv1.toArray k1) ∈ big ∧ (P2, listOf pv2.toArray k2) ∈ big ∧ StrsAre pv1 us ∧ StrsAre pv2 vs ∧ (∀ p ∈ tl', p ∈ big) ∧ (e, oe) ∈ big ∧ (I, oi) ∈ big ∧ (∀ b ∈ [e, I, Ds, Dd, R], @Ne Nat P1 b ∧ @Ne Nat P2 b)
  | .brk => Q .next s₂
  | .ret v => Q (.ret v) s₂
section
variable {prog : Program} {w : World} {A : Around} {E : Value → Shared → Prop} {s : Shared} {env : Env} {h₀ : Heap} {body : List Stmt} {Q : Flow → Shared → Prop}
theorem enum_law {elts : List PySem.Expr} {k : Nat} {pos : Pos} {zs : List Int} {ys : List Value} {R Ds Dd S : Addr} {T D1 : Addr × Obj} {so : Obj} {k1 k2 : Nat} {nx : List (Addr × Obj)} {m₀ : Str → Option Value}
    (hh : A.handled = none) (F : Fr h₀ env.locals s.heap m₀) (N : News h₀ env.locals s.heap (T :: (Ds, listOf #[] k1) :: (Dd, listOf #[] k2) :: (R, tupO ys 0) :: D1 :: nx)) (hk : KeysIn nx ys (zs.map rowF)) (hS : (S, so) ∈ nx)
    (hz : ∀ z ∈ zs, 0 ≤ z ∧ z < 1000) (hl : zs.length ≤ 1000) (o1 : ∀ p ∈ nx, p.1 ≠ Ds) (o2 : ∀ p ∈ nx, p.1 ≠ Dd) (o3 : ∀ p ∈ nx, p.1 ≠ R) (n1 : @Ne Nat Ds Dd) (n2 : @Ne Nat Ds R) (n3 : @Ne Nat Dd R)
    (turn : ∀ e I oe oi (i : Nat) dv sv kd ks tl' a r sm T t sd b nm rw tn nn h tk, zs[i]? = some sd → rowF sd = (b, nm) → SdOk sd → (i : Int) - 1 < ((zs.map rowF).length : Int) → dv.length ≤ 1000 → sv.length ≤ 1000 → KeysIn tl' ys (zs.map rowF) → (S, so) ∈ tl' →
      IsTup h T #[.int (i : Int) t, .ref rw] → (rw, tupO [.bool b, .str nm tn] nn) ∈ tl' → (@Ne Nat e I ∧ @Ne Nat Ds e ∧ @Ne Nat Ds I ∧ @Ne Nat Dd e ∧ @Ne Nat Dd I ∧ @Ne Nat R e ∧ @Ne Nat R I) →
      (∀ p ∈ tl', p.1 ≠ e) → (∀ p ∈ tl', p.1 ≠ I) → (∀ p ∈ tl', p.1 ≠ Ds) → (∀ p ∈ tl', p.1 ≠ Dd) → (∀ p ∈ tl', p.1 ≠ R) →
      Fr h₀ env.locals h (lawM m₀ a r sm) → News h₀ env.locals h ((e, oe) :: (I, oi) :: (Ds, listOf sv.toArray ks) :: (Dd, listOf dv.toArray kd) :: (R, tupO ys 0) :: tl') →
      wpAny (model prog w) A (assign (.Tuple elts k pos) env (.ref T)) (fun _ s₂ => wpAny (model prog w) A (execs body env) (LawPost h₀ env.locals { s with heap := h, toks := tk } m₀ e I R Ds Dd oe oi (tupO ys 0) dv sv (phrF sd) (spAt zs i) tl' Q) E s₂) E { s with heap := h, toks := tk })
    (done : ∀ a r sm dv sv kd ks tl' h tk, PartsIn tl' dv (zs.map phrF) → PartsIn tl' sv ((List.range zs.length).map (spAt zs)) → (∀ p ∈ nx, p ∈ tl') → KeysIn tl' ys (zs.map rowF) → (S, so) ∈ tl' → (∀ p ∈ tl', p.1 ≠ Ds) → (∀ p ∈ tl', p.1 ≠ Dd) → (∀ p ∈ tl', p.1 ≠ R) →
      Fr h₀ env.locals h (lawM m₀ a r sm) → News h₀ env.locals h ((Ds, listOf sv.toArray ks) :: (Dd, listOf dv.toArray kd) :: (R, tupO ys 0) :: tl') → Q .next { s with heap := h, toks := tk }) :
    wpAny (model prog w) A (call (.type "enumerate") [.ref R]) (fun xv s₁ => wpAny (model prog w) A (pyIter xv) (fun it s₂ => TurnsAt prog w A h₀ env (.Tuple elts k pos) body Q E it s₂) E s₁) E s := by
  refine enum_J (l := R) (lo := tupO ys 0) (vs := ys) (n := 0)
    (fun i m n => ∃ a r sm dv sv kd ks tl', m = lawM m₀ a r sm ∧ n = (Ds, listOf sv.toArray ks) :: (Dd, listOf dv.toArray kd) :: (R, tupO ys 0) :: tl' ∧ LJ zs nx i dv sv tl' ∧ (∀ p ∈ tl', p.1 ≠ Ds) ∧ (∀ p ∈ tl', p.1 ≠ Dd) ∧ (∀ p ∈ tl', p.1 ≠ R))
    (news := (Ds, listOf #[] k1) :: (Dd, listOf #[] k2) :: (R, tupO ys 0) :: nx) hh F ?_ (by simp) rfl rfl
    ⟨_, _, _, [], [], k2, k1, nx, lawM_self m₀, rfl, ⟨fun _ h => h, .nil, .nil⟩, o1, o2, o3⟩ ?_ ?_
  · intro p hp
    refine N p ?_
    simp only [List.mem_cons] at hp ⊢
    rcases hp with h | h | h | h <;> simp [h]
  · rintro e I oe oi i v T t m₁ nx' h tk hv heI _ ho hmm ⟨a, r, sm, dv, sv, kd, ks, tl', rfl, rfl, J, p1, p2, p3⟩ hT F₁ N₁
    have hlt : i < zs.length := by
      have := (List.getElem?_eq_some_iff.mp hv).1
      rwa [hk.length, List.length_map] at this
    obtain ⟨sd, hsd⟩ : ∃ sd, zs[i]? = some sd := ⟨zs[i], List.getElem?_eq_getElem hlt⟩
    have hks : (zs.map rowF)[i]? = some (rowF sd) := by rw [List.getElem?_map, hsd]; rfl
    have hk' := hk.mono J.sub
    obtain ⟨rw, tn, nn, hrw, hrm⟩ := hk'.get hks
    obtain rfl : v = .ref rw := Option.some.inj (hv.symm.trans hrw)
    have hdl : dv.length ≤ 1000 := by rw [J.dense.length, List.length_map, List.length_take]; omega
    have hsl : sv.length ≤ 1000 := by rw [J.sparse.length, List.length_map, List.length_range]; omega
    have q := turn e I oe oi i dv sv kd ks tl' a r sm T t sd (rowF sd).1 (rowF sd).2 rw tn nn h tk hsd rfl (hz sd (List.mem_of_getElem? hsd)) (by rw [List.length_map]; omega) hdl hsl hk' (J.sub _ hS) hT hrm
      ⟨heI, (ho (Ds, listOf sv.toArray ks) (by simp)).1, (ho (Ds, listOf sv.toArray ks) (by simp)).2, (ho (Dd, listOf dv.toArray kd) (by simp)).1, (ho (Dd, listOf dv.toArray kd) (by simp)).2, (ho (R, tupO ys 0) (by simp)).1, (ho (R, tupO ys 0) (by simp)).2⟩
      (fun p hp => (ho p (by simp [hp])).1) (fun p hp => (ho p (by simp [hp])).2) p1 p2 p3 F₁ N₁
    refine wpAny_mono q (fun _ s₂ z => wpAny_mono z (fun f s₃ y => ?_) fun _ _ e => e) fun _ _ e => e
    have go : (∃ h' tk' a r sm big P1 P2 pv1 pv2 k1 k2 kd ks, s₃ = { s with heap := h', toks := tk' } ∧ Fr h₀ env.locals h' (lawM m₀ a r sm) ∧ News h₀ env.locals h' big ∧ (Ds, listOf (sv.toArray.push (.ref P2)) ks) ∈ big ∧ (Dd, listOf (dv.toArray.push (.ref P1)) kd) ∈ big ∧
      (R, tupO ys 0) ∈ big ∧ (P1, listOf pv1.toArray k1) ∈ big ∧ (P2, listOf pv2.toArray k2) ∈ big ∧ StrsAre pv1 (phrF sd) ∧ StrsAre pv2 (spAt zs i) ∧ (∀ p ∈ tl', p ∈ big) ∧ (e, oe) ∈ big ∧ (I, oi) ∈ big ∧ (∀ b ∈ [e, I, Ds, Dd, R], @Ne Nat P1 b ∧ @Ne Nat P2 b)) →
        UnrEndW h₀ env.locals { s with heap := h, toks := tk } [(e, oe), (I, oi)] (fun m' n' => (R, tupO ys 0) ∈ n' ∧ ∃ a r sm dv sv kd ks tl', m' = lawM m₀ a r sm ∧ n' = (Ds, listOf sv.toArray ks) :: (Dd, listOf dv.toArray kd) :: (R, tupO ys 0) :: tl' ∧ LJ zs nx (i + 1) dv sv tl' ∧ (∀ p ∈ tl', p.1 ≠ Ds) ∧ (∀ p ∈ tl', p.1 ≠ Dd) ∧ (∀ p ∈ tl', p.1 ≠ R)) s₃ := by
      rintro ⟨h', tk', a', r', sm', big, P1, P2, pv1, pv2, q1, q2, kd', ks', rfl, F', N', b1, b2, b3, b4, b5, b6, b7, b8, c1, c2, b9⟩
      have hne := fun b hb => b9 b hb
      refine ⟨h', tk', lawM m₀ a' r' sm', (Ds, listOf (sv ++ [Value.ref P2]).toArray ks') :: (Dd, listOf (dv ++ [Value.ref P1]).toArray kd') :: (R, tupO ys 0) :: (P1, listOf pv1.toArray q1) :: (P2, listOf pv2.toArray q2) :: tl', rfl, F', ?_, ?_, by simp, a', r', sm', dv ++ [Value.ref P1], sv ++ [Value.ref P2], kd', ks', (P1, listOf pv1.toArray q1) :: (P2, listOf pv2.toArray q2) :: tl', rfl, rfl, ⟨fun p hp => .tail _ (.tail _ (J.sub p hp)), ?_, ?_⟩, ?_, ?_, ?_⟩
      · intro p hp
        rw [List.push_toArray] at b1 b2
        simp only [List.cons_append, List.nil_append, List.mem_cons] at hp
        rcases hp with rfl | rfl | rfl | rfl | rfl | rfl | rfl | hp
        · exact N' _ c1
        · exact N' _ c2
        · exact N' _ b1
        · exact N' _ b2
        · exact N' _ b3
        · exact N' _ b4
        · exact N' _ b5
        · exact N' _ (b8 p hp)
      · have aux : ∀ c, c = e ∨ c = I → ∀ p ∈ (Ds, listOf (sv ++ [Value.ref P2]).toArray ks') :: (Dd, listOf (dv ++ [Value.ref P1]).toArray kd') :: (R, tupO ys 0) :: (P1, listOf pv1.toArray q1) :: (P2, listOf pv2.toArray q2) :: tl', p.1 ≠ c := by
          intro c hc p hp
          have hc' : c ∈ [e, I, Ds, Dd, R] := by rcases hc with rfl | rfl <;> simp
          have old : ∀ p ∈ (Ds, listOf sv.toArray ks) :: (Dd, listOf dv.toArray kd) :: (R, tupO ys 0) :: tl', p.1 ≠ c := fun p hp => by
            rcases hc with rfl | rfl
            · exact (ho p hp).1
            · exact (ho p hp).2
          simp only [List.mem_cons] at hp
          rcases hp with rfl | rfl | rfl | rfl | rfl | hp
          · exact old (Ds, listOf sv.toArray ks) (by simp)
          · exact old (Dd, listOf dv.toArray kd) (by simp)
          · exact old (R, tupO ys 0) (by simp)
          · exact (b9 c hc').1
          · exact (b9 c hc').2
          · exact old p (by simp [hp])
        intro p hp q hq
        simp only [List.mem_cons, List.not_mem_nil, or_false] at hq
        rcases hq with rfl | rfl
        · exact aux e (.inl rfl) p hp
        · exact aux I (.inr rfl) p hp
      · have e1 : zs.take (i + 1) = zs.take i ++ [sd] := by rw [List.take_add_one, hsd]; rfl
        rw [e1, List.map_append]
        exact (J.dense.mono fun p hp => .tail _ (.tail _ hp)).snoc (.cons (.head _) b6 .nil)
      · rw [List.range_succ, List.map_append]
        exact (J.sparse.mono fun p hp => .tail _ (.tail _ hp)).snoc (.cons (.tail _ (.head _)) b7 .nil)
      · intro p hp
        simp only [List.mem_cons] at hp
        rcases hp with rfl | rfl | hp
        · exact (b9 Ds (by simp)).1
        · exact (b9 Ds (by simp)).2
        · exact p1 p hp
      · intro p hp
        simp only [List.mem_cons] at hp
        rcases hp with rfl | rfl | hp
        · exact (b9 Dd (by simp)).1
        · exact (b9 Dd (by simp)).2
        · exact p2 p hp
      · intro p hp
        simp only [List.mem_cons] at hp
        rcases hp with rfl | rfl | hp
        · exact (b9 R (by simp)).1
        · exact (b9 R (by simp)).2
        · exact p3 p hp
    cases f with
    | ret v => exact y
    | brk => exact y
    | next => exact go y
    | cont => exact go y
  · rintro m₁ nx' h tk ⟨a, r, sm, dv, sv, kd, ks, tl', rfl, rfl, J, p1, p2, p3⟩ F₁ N₁
    have hlen : ys.length = zs.length := by rw [hk.length, List.length_map]
    have jd := J.dense
    have js := J.sparse
    rw [hlen] at jd js
    rw [List.take_length] at jd
    exact done a r sm dv sv kd ks tl' h tk jd js J.sub (hk.mono J.sub) (J.sub _ hS) p1 p2 p3 F₁ N₁
end
theorem spC {zs : List Int} {i : Nat} {sd : Int} (h : zs[i]? = some sd) (hi : ¬ (0 : Int) < (i : Int)) : spAt zs i = phrF sd := by
  unfold spAt
  rw [h]
  have : i = 0 := by omega
  subst this
  simp
theorem sp_prev {zs : List Int} {i : Nat} {b : Bool} {nm : Str} (hk : (zs.map rowF)[((i : Int) - 1).toNat]? = some (b, nm)) : (zs[i - 1]?.map fun z => (rowF z).1) = some b := by
  have e : ((i : Int) - 1).toNat = i - 1 := by omega
  rw [e, List.getElem?_map] at hk
  cases q : zs[i - 1]? with
  | none => rw [q] at hk; cases hk
  | some z =>
    rw [q] at hk
    have := Option.some.inj hk
    simp [this]
theorem spA {zs : List Int} {i : Nat} {sd : Int} {b b' : Bool} {nm nm' : Str} (h : zs[i]? = some sd) (hr : rowF sd = (b, nm)) (hi : (0 : Int) < (i : Int)) (hk : (zs.map rowF)[((i : Int) - 1).toNat]? = some (b', nm')) (hb : (b' == b) = true) : spAt zs i = [nm] := by
  unfold spAt
  rw [h]
  have e : b' = b := by simpa using hb
  simp only [sp_prev hk, hr]
  rw [if_pos ⟨by omega, by rw [e]⟩]
theorem spB {zs : List Int} {i : Nat} {sd : Int} {b b' : Bool} {nm nm' : Str} (h : zs[i]? = some sd) (hr : rowF sd = (b, nm)) (hk : (zs.map rowF)[((i : Int) - 1).toNat]? = some (b', nm')) (hb : (b' == b) = false) : spAt zs i = phrF sd := by
  unfold spAt
  rw [h]
  have e : b' ≠ b := by simpa using hb
  simp only [sp_prev hk, hr]
  rw [if_neg (fun c => e (Option.some.inj c.2))]
theorem phr_row {sd : Int} {b : Bool} {nm : Str} (hr : rowF sd = (b, nm)) : phraseF b nm sd = phrF sd := by
  unfold phrF; rw [hr]
end
section
structure BhOk (bs : List Str) : Prop where
  stops : ∀ P, Stops P bs
  ok : ∀ u ∈ bs, u.length ≤ 100
  len : bs.length ≤ 2
structure LawAt (news : List (Addr × Obj)) (S R Dd Ds : Addr) (ys : List Value) (zs : List Int) : Prop where
  seeds : ∃ wv k, (S, listOf wv.toArray k) ∈ news ∧ IntsAre wv zs
  rows : (R, tupO ys 0) ∈ news
  keys : KeysIn news ys (zs.map rowF)
  dl : ∃ dv k, (Dd, listOf dv.toArray k) ∈ news ∧ PartsIn news dv (zs.map phrF)
  sl : ∃ sv k, (Ds, listOf sv.toArray k) ∈ news ∧ PartsIn news sv ((List.range zs.length).map (spAt zs))
theorem LawAt.mono {n n' : List (Addr × Obj)} {S R Dd Ds : Addr} {ys : List Value} {zs : List Int} (h : LawAt n S R Dd Ds ys zs) (hs : ∀ p ∈ n, p ∈ n') : LawAt n' S R Dd Ds ys zs := by
  obtain ⟨⟨wv, k, a, b⟩, c, d, ⟨dv, k1, e, f⟩, ⟨sv, k2, g, i⟩⟩ := h
  exact ⟨⟨wv, k, hs _ a, b⟩, hs _ c, d.mono hs, ⟨dv, k1, hs _ e, f.mono hs⟩, ⟨sv, k2, hs _ g, i.mono hs⟩⟩
def BhAt (news : List (Addr × Obj)) (b : Addr) (bs : List Str) : Prop := ∃ bv k, (b, listOf bv.toArray k) ∈ news ∧ StrsAre bv bs ∧ BhOk bs
theorem BhAt.mono {n n' : List (Addr × Obj)} {b : Addr} {bs : List Str} (h : BhAt n b bs) (hs : ∀ p ∈ n, p ∈ n') : BhAt n' b bs := by
  obtain ⟨bv, k, a, c, d⟩ := h
  exact ⟨bv, k, hs _ a, c, d⟩
structure Good (P : Params) (us bs : List Str) (ks : List (Bool × Str)) : Prop where
  wl : ∀ u ∈ us ++ bs, u.length ≤ 100
  len : (us ++ bs).length ≤ 1000
  lu : us.length ≤ 1000
  keys : Keys P (us ++ bs) 0 ks us.length
  ne : ks ≠ []
  kl : ks.length ≤ 1000
theorem good_of {P : Params} {bs : List Str} {ks : List (Bool × Str)} {ps : List (List Str)} (hb : BhOk bs) (h : ∀ b0, Told P b0 ks ps) (hne : ks ≠ []) (hl : ks.length ≤ 100) (hok : ∀ k ∈ ks, k.2.length ≤ 100) : Good P ps.flatten bs ks := by
  obtain ⟨h1, h2⟩ := told_ok (h true) hok
  have h3 := hb.len
  refine ⟨fun u hu => ?_, ?_, by omega, ?_, hne, by omega⟩
  · rcases List.mem_append.mp hu with hu | hu
    · exact h1 u hu
    · exact hb.ok u hu
  · rw [List.length_append]; omega
  · cases ks with
    | nil => exact absurd rfl hne
    | cons k ks => exact told_all (hb.stops P) h
/-- a list of phrases in the ledger that reads as ks -/
def PtAt (nz : List (Addr × Obj)) (a : Addr) (uss : List (List Str)) (ks : List (Bool × Str)) : Prop :=
  ∃ vv k, (a, listOf vv.toArray k) ∈ nz ∧ PartsIn nz vv uss ∧ uss.flatten.length ≤ 1000 ∧ ∀ P bs, BhOk bs → Good P uss.flatten bs ks
theorem PtAt.mono {n n' : List (Addr × Obj)} {a : Addr} {uss : List (List Str)} {ks : List (Bool × Str)} (h : PtAt n a uss ks) (hs : ∀ p ∈ n, p ∈ n') : PtAt n' a uss ks := by
  obtain ⟨vv, k, a, c, d⟩ := h
  exact ⟨vv, k, hs _ a, c.mono hs, d⟩
def LenOk (n : Int) (zs : List Int) : Prop := n = (zs.length : Int) ∧ n ≤ 12
section
variable {nz : List (Addr × Obj)} {S R Dd Ds : Addr} {ys : List Value} {zs : List Int}
theorem ne_of_len {α : Type} {l : List α} (h : 1 ≤ l.length) : l ≠ [] := fun e => by rw [e] at h; cases h
theorem good_dense (h1 : 1 ≤ zs.length) (h2 : zs.length ≤ 12) (P : Params) (bs : List Str) (hb : BhOk bs) : Good P (zs.map phrF).flatten bs (zs.map rowF) :=
  good_of hb (fun b0 => told_dense P zs b0) (ne_of_len (by rw [List.length_map]; exact h1)) (by rw [List.length_map]; omega) (rows_ok zs)
theorem good_sparse (h1 : 1 ≤ zs.length) (h2 : zs.length ≤ 12) (P : Params) (bs : List Str) (hb : BhOk bs) : Good P ((List.range zs.length).map (spAt zs)).flatten bs (zs.map rowF) :=
  good_of hb (fun b0 => told_sparse P zs b0) (ne_of_len (by rw [List.length_map]; exact h1)) (by rw [List.length_map]; omega) (rows_ok zs)
theorem bh_nil_ok : BhOk [] := ⟨stops_nil, fun u h => by simp at h, by simp⟩
theorem LawAt.dense (P₀ : Params) (h : LawAt nz S R Dd Ds ys zs) (h1 : 1 ≤ zs.length) (h2 : zs.length ≤ 12) : PtAt nz Dd (zs.map phrF) (zs.map rowF) := by
  obtain ⟨dv, k, a, b⟩ := h.dl
  exact ⟨dv, k, a, b, (good_dense h1 h2 P₀ [] bh_nil_ok).lu, fun P bs hb => good_dense h1 h2 P bs hb⟩
theorem LawAt.sparse (P₀ : Params) (h : LawAt nz S R Dd Ds ys zs) (h1 : 1 ≤ zs.length) (h2 : zs.length ≤ 12) : PtAt nz Ds ((List.range zs.length).map (spAt zs)) (zs.map rowF) := by
  obtain ⟨dv, k, a, b⟩ := h.sl
  exact ⟨dv, k, a, b, (good_sparse h1 h2 P₀ [] bh_nil_ok).lu, fun P bs hb => good_sparse h1 h2 P bs hb⟩
end
theorem bh_one {wd : Str} {r : List Str} (hr : ∀ P, rsv P wd = true) (h1 : wd ≠ wON) (h2 : wd ≠ wASC) (h3 : wd ≠ wDESC) (ho : ∀ u ∈ wd :: r, u.length ≤ 100) (hl : r.length ≤ 1) : BhOk (wd :: r) :=
  ⟨fun P => stops_one (hr P) h1 h2 h3, ho, by rw [List.length_cons]; omega⟩
theorem bh_using : BhOk [Str.ofString "USING"] := bh_one r_using (by decide +kernel) (by decide +kernel) (by decide +kernel) (by decide +kernel) (by decide)
theorem bh_giving : BhOk [Str.ofString "GIVING"] := bh_one r_giving (by decide +kernel) (by decide +kernel) (by decide +kernel) (by decide +kernel) (by decide)
theorem bh_withon : BhOk [Str.ofString "WITH", Str.ofString "ON"] := bh_one r_with (by decide +kernel) (by decide +kernel) (by decide +kernel) (by decide +kernel) (by decide)
theorem bh_onusing : BhOk [Str.ofString "ON", Str.ofString "USING"] :=
  ⟨fun P => by rw [eON]; exact stops_on (by decide +kernel) (by decide +kernel), by decide +kernel, by decide⟩
theorem bh_at_giving {news : List (Addr × Obj)} {b : Addr} {t : Tok} {k : Nat} (h : (b, listOf #[Value.str (Str.ofString "GIVING") t] k) ∈ news) : BhAt news b [Str.ofString "GIVING"] := ⟨[_], k, h, .cons _ _ .nil, bh_giving⟩
theorem bh_at_nil {news : List (Addr × Obj)} {b : Addr} {k : Nat} (h : (b, listOf #[] k) ∈ news) : BhAt news b [] := ⟨[], k, h, .nil, bh_nil_ok⟩
section
variable {prog : Program} {w : World} {A : Around} {E : Value → Shared → Prop} {s : Shared} {h₀ : Heap} {L : Addr} {m : Str → Option Value} {news nz : List (Addr × Obj)} {Q : Value → Shared → Prop} {value slice : PySem.Expr}
  {S R Dd Ds : Addr} {ys : List Value} {zs : List Int}
theorem behind4 {T b0 b1 b2 b3 : Addr} {n k0 k1 k2 k3 : Nat} {t1 t2 t3 t4 t5 : Tok} {z : Int} {u : Tok} (N : News h₀ L s.heap news)
    (hm : (T, tupO [.ref b0, .ref b1, .ref b2, .ref b3] n) ∈ news) (h0 : (b0, listOf #[] k0) ∈ news) (h1 : (b1, listOf #[Value.str (Str.ofString "USING") t1] k1) ∈ news)
    (h2 : (b2, listOf #[Value.str (Str.ofString "ON") t2, Value.str (Str.ofString "USING") t3] k2) ∈ news) (h3 : (b3, listOf #[Value.str (Str.ofString "WITH") t4, Value.str (Str.ofString "ON") t5] k3) ∈ news)
    (h : ∀ b bs n', (∀ p ∈ news, p ∈ n') → BhAt n' b bs → News h₀ L s.heap n' → Q (.ref b) s)
    (hs : subscripted slice false (.ref T) (.int (z.fmod 4) u) = operate [.ref T, .int (z.fmod 4) u] (getItem (.ref T) (.int (z.fmod 4) u)) := by with_unfolding_all rfl) :
    wpAny (model prog w) A (subscriptTail value slice (.ref T) (.int (z.fmod 4) u)) Q E s := by
  have ht : IsTup s.heap T [Value.ref b0, Value.ref b1, Value.ref b2, Value.ref b3].toArray := ⟨_, (N _ hm).1, rfl, n, rfl⟩
  have hb := fm_bd z (n := 4) (by decide)
  have key : ∀ j : Int, 0 ≤ j → j < 4 → ∃ b bs, [Value.ref b0, Value.ref b1, Value.ref b2, Value.ref b3].toArray[j.toNat]? = some (.ref b) ∧ BhAt news b bs := by
    intro j hj1 hj2
    have hc : j = 0 ∨ j = 1 ∨ j = 2 ∨ j = 3 := by omega
    rcases hc with rfl | rfl | rfl | rfl
    · exact ⟨b0, [], rfl, bh_at_nil h0⟩
    · exact ⟨b1, _, rfl, [_], k1, h1, .cons _ _ .nil, bh_using⟩
    · exact ⟨b2, _, rfl, [_, _], k2, h2, .cons _ _ (.cons _ _ .nil), bh_onusing⟩
    · exact ⟨b3, _, rfl, [_, _], k3, h3, .cons _ _ (.cons _ _ .nil), bh_withon⟩
  obtain ⟨b, bs, e, hbh⟩ := key _ hb.1 hb.2
  exact tail_any ht.typeIs slot_tuple_getitem.lookup (getItem_tuple ht (by omega) (by omega) (j := (z.fmod 4).toNat) (by unfold seqIndex?; simp; omega) e (h b bs news (fun _ hp => hp) hbh N)) hs
theorem seed0 {u : Tok} (N : News h₀ L s.heap news) (A0 : LawAt nz S R Dd Ds ys zs) (hsub : ∀ p ∈ nz, p ∈ news) (hl : 1 ≤ zs.length) (h : ∀ z t, Q (.int z t) s)
    (hs : subscripted slice false (.ref S) (.int 0 u) = operate [.ref S, .int 0 u] (getItem (.ref S) (.int 0 u)) := by with_unfolding_all rfl) :
    wpAny (model prog w) A (subscriptTail value slice (.ref S) (.int 0 u)) Q E s := by
  obtain ⟨wv, k, hm, hi⟩ := A0.seeds
  have hl' : s.heap.IsList S wv.toArray := ⟨_, (N _ (hsub _ hm)).1, rfl, k, rfl⟩
  obtain ⟨t, e⟩ := PyProof.Rows.IntsAre.get hi 0 (zs[0]'(by omega)) (List.getElem?_eq_getElem _)
  exact tail_any hl'.typeIs slot_list_getitem.lookup (wpAny_getItem_list hl' (Int.le_refl _) (by decide) (by simpa using e) (h _ t)) hs
theorem seedlast {u : Tok} {ns : List Int} (N : News h₀ L s.heap news) (A0 : LawAt nz S R Dd Ds ys (seedsF ns)) (hsub : ∀ p ∈ nz, p ∈ news) (h : ∀ t, Q (.int 9 t) s)
    (hs : subscripted slice false (.ref S) (.int (-1) u) = operate [.ref S, .int (-1) u] (getItem (.ref S) (.int (-1) u)) := by with_unfolding_all rfl) :
    wpAny (model prog w) A (subscriptTail value slice (.ref S) (.int (-1) u)) Q E s := by
  obtain ⟨wv, k, hm, hi⟩ := A0.seeds
  have hl' : s.heap.IsList S wv.toArray := ⟨_, (N _ (hsub _ hm)).1, rfl, k, rfl⟩
  have hlen := hi.length
  have hb := seeds_len ns
  have e9 : (seedsF ns)[(seedsF ns).length - 1]? = some 9 := by
    unfold seedsF
    rw [List.length_append, List.getElem?_append_right (by simp)]
    have : (List.map (fun k' => Int.fmod k' 1000) (List.take 9 ns)).length + [5 + Int.fmod (ns.length : Int) 7, 2, 9].length - 1 - (List.map (fun k' => Int.fmod k' 1000) (List.take 9 ns)).length = 2 := by
      simp only [List.length_cons, List.length_nil]; omega
    rw [this]; rfl
  obtain ⟨t, e⟩ := PyProof.Rows.IntsAre.get hi _ 9 e9
  exact kde_neg hl' (by decide) (by decide) (j := (seedsF ns).length - 1) (by unfold seqIndex?; rw [hlen]; simp; omega) e (h t) hs
theorem len_rows {ns : List Int} (N : News h₀ L s.heap news) (A0 : LawAt nz S R Dd Ds ys (seedsF ns)) (hsub : ∀ p ∈ nz, p ∈ news)
    (h : ∀ n : Int, LenOk n (seedsF ns) → 3 ≤ n → Q (.int n (s.toks + 1)) { s with toks := s.toks + 1 + 1 }) : wpAny (model prog w) A (call (.builtin "len") [.ref R]) Q E s := by
  have ht : IsTup s.heap R ys.toArray := ⟨_, (N _ (hsub _ A0.rows)).1, rfl, 0, rfl⟩
  have hb := seeds_len ns
  have hlen := A0.keys.length
  rw [List.length_map] at hlen
  have e : ys.toArray.size = (seedsF ns).length := by rw [List.size_toArray, hlen]
  refine len_tuple ht (by rw [e]; omega) ?_
  rw [e]
  exact h _ ⟨rfl, by omega⟩ (by omega)
theorem sl_to {ns : List Int} {n : Int} {vl vu : Value} (F : Fr h₀ L s.heap m) (N : News h₀ L s.heap news) (A0 : LawAt nz S R Dd Ds ys (seedsF ns)) (hsub : ∀ p ∈ nz, p ∈ news) (hn : LenOk n (seedsF ns)) (hn3 : 3 ≤ n) (pl : IsPart vl none) (pu : IsPart vu (some (1 + Int.fmod 9 (n - 1))))
    (h : ∀ D h' (vv : List Value), Fr h₀ L h' m → News h₀ L h' ((D, listOf vv.toArray 0) :: news) → PtAt ((D, listOf vv.toArray 0) :: news) D (((seedsF ns).map phrF).take (1 + Int.fmod 9 (n - 1)).toNat) (((seedsF ns).take (1 + Int.fmod 9 (n - 1)).toNat).map rowF) → Q (.ref D) { s with heap := h' })
    (hs : subscripted slice false (.ref Dd) (.ref s.heap.objs.size) = operate [.ref s.heap.objs.size, .ref Dd] (getItem (.ref Dd) (.ref s.heap.objs.size))) (ht : ∀ r, letTemporaryGo value (.ref Dd) r = pure ()) :
    wpAny (model prog w) A (subscriptTail value slice (.ref Dd) (.ref s.heap.objs.size)) Q E { s with heap := s.heap.push { cls := .type "slice", data := .fields #[vl, vu, .none] } } := by
  obtain ⟨dv, k, hm, hp⟩ := A0.dl
  have hl' : s.heap.IsList Dd dv.toArray := ⟨_, (N _ (hsub _ hm)).1, rfl, k, rfl⟩
  have hb := seeds_len ns
  have hlen := hp.length
  rw [List.length_map] at hlen
  have hf := fm_bd 9 (n := n - 1) (by omega)
  have hn1 := hn.1
  have ep : kms_pick dv.toArray.toList none (some (1 + Int.fmod 9 (n - 1))) = dv.take (1 + Int.fmod 9 (n - 1)).toNat := by
    unfold kms_pick kms_lo kms_hi
    simp only [List.drop_zero, Nat.sub_zero]
    rw [if_neg (by omega), Nat.min_eq_left (by omega)]
  refine kms_slice_lit F N hl' pl pu ep (fun D h' F' N' l1 => h D h' _ F' N' ?_) hs ht (by rw [List.size_toArray, sizeLine_eq]; omega)
  have hg : ∀ P bs, BhOk bs → Good P (((seedsF ns).map phrF).take (1 + Int.fmod 9 (n - 1)).toNat).flatten bs (((seedsF ns).take (1 + Int.fmod 9 (n - 1)).toNat).map rowF) := by
    intro P bs hb'
    rw [← List.map_take]
    exact good_dense (by rw [List.length_take]; omega) (by rw [List.length_take]; omega) P bs hb'
  exact ⟨_, 0, .head _, (hp.mono fun p hp => .tail _ (hsub p hp)).take _, (hg w.params [] bh_nil_ok).lu, hg⟩
theorem sl_from {ns : List Int} {n : Int} {vl vu : Value} (F : Fr h₀ L s.heap m) (N : News h₀ L s.heap news) (A0 : LawAt nz S R Dd Ds ys (seedsF ns)) (hsub : ∀ p ∈ nz, p ∈ news) (hn : LenOk n (seedsF ns)) (hn3 : 3 ≤ n) (pl : IsPart vl (some (1 + Int.fmod 9 (n - 1)))) (pu : IsPart vu none)
    (h : ∀ D h' (vv : List Value), Fr h₀ L h' m → News h₀ L h' ((D, listOf vv.toArray 0) :: news) → PtAt ((D, listOf vv.toArray 0) :: news) D (((seedsF ns).map phrF).drop (1 + Int.fmod 9 (n - 1)).toNat) (((seedsF ns).drop (1 + Int.fmod 9 (n - 1)).toNat).map rowF) → Q (.ref D) { s with heap := h' })
    (hs : subscripted slice false (.ref Dd) (.ref s.heap.objs.size) = operate [.ref s.heap.objs.size, .ref Dd] (getItem (.ref Dd) (.ref s.heap.objs.size))) (ht : ∀ r, letTemporaryGo value (.ref Dd) r = pure ()) :
    wpAny (model prog w) A (subscriptTail value slice (.ref Dd) (.ref s.heap.objs.size)) Q E { s with heap := s.heap.push { cls := .type "slice", data := .fields #[vl, vu, .none] } } := by
  obtain ⟨dv, k, hm, hp⟩ := A0.dl
  have hl' : s.heap.IsList Dd dv.toArray := ⟨_, (N _ (hsub _ hm)).1, rfl, k, rfl⟩
  have hb := seeds_len ns
  have hlen := hp.length
  rw [List.length_map] at hlen
  have hf := fm_bd 9 (n := n - 1) (by omega)
  have hn1 := hn.1
  have ep : kms_pick dv.toArray.toList (some (1 + Int.fmod 9 (n - 1))) none = dv.drop (1 + Int.fmod 9 (n - 1)).toNat := by
    unfold kms_pick kms_lo kms_hi
    simp only []
    rw [if_neg (by omega), Nat.min_eq_left (by omega)]
    rw [List.take_of_length_le (by rw [List.length_drop]; exact Nat.le_refl _)]
  refine kms_slice_lit F N hl' pl pu ep (fun D h' F' N' l1 => h D h' _ F' N' ?_) hs ht (by rw [List.size_toArray, sizeLine_eq]; omega)
  have hg : ∀ P bs, BhOk bs → Good P (((seedsF ns).map phrF).drop (1 + Int.fmod 9 (n - 1)).toNat).flatten bs (((seedsF ns).drop (1 + Int.fmod 9 (n - 1)).toNat).map rowF) := by
    intro P bs hb'
    rw [← List.map_drop]
    exact good_dense (by rw [List.length_drop]; omega) (by rw [List.length_drop]; omega) P bs hb'
  exact ⟨_, 0, .head _, (hp.mono fun p hp => .tail _ (hsub p hp)).drop _, (hg w.params [] bh_nil_ok).lu, hg⟩
end
end
section
theorem keys_canLay : ∀ ks : List (Bool × Str), (∀ k ∈ ks, k.2.length ≤ 100) → (∀ k ∈ ks, PyData.canLay0 (.str k.2) = true) → PyData.canLayAll0 (ks.map keyD) = true
  | [], _, _ => rfl
  | k :: ks, h, h2 => by
    rw [List.map_cons, PyData.canLayAll0, keys_canLay ks (fun k hk => h k (by simp [hk])) (fun k hk => h2 k (by simp [hk])), Bool.and_true, keyD, PyData.canLay0, PyData.canLayAll0, PyData.canLayAll0, PyData.canLayAll0, h2 k (by simp), PyData.canLay0]; rfl
theorem keys_depth : ∀ ks : List (Bool × Str), PyData.depthAll (ks.map keyD) ≤ 1
  | [] => by rw [List.map_nil, PyData.depthAll]; exact Nat.zero_le _
  | k :: ks => by
    have ih := keys_depth ks
    rw [List.map_cons, PyData.depthAll, keyD, PyData.depth, PyData.depthAll, PyData.depthAll, PyData.depthAll, PyData.depth, PyData.depth]
    omega
theorem nm_canLay (sd : Int) : PyData.canLay0 (.str (nmF sd)) = true := by
  unfold nmF
  split
  · decide +kernel
  · split <;> decide +kernel
theorem rows_canLay (zs : List Int) : PyData.canLayAll0 ((zs.map rowF).map keyD) = true := by
  refine keys_canLay _ (rows_ok zs) fun k hk => ?_
  obtain ⟨sd, _, rfl⟩ := List.mem_map.mp hk
  exact nm_canLay sd
section
variable {prog : Program} {w : World} {A : Around} {E : Value → Shared → Prop} {s : Shared} {h₀ : Heap} {L : Addr} {m : Str → Option Value} {news nz tl : List (Addr × Obj)} {Q : Value → Shared → Prop}
  {S R Dd Ds : Addr} {ys vals : List Value} {zs : List Int}
theorem keys_read {R : Addr} {n : Nat} {ks : List (Bool × Str)} (N : News h₀ L s.heap news) (hm : (R, tupO vals n) ∈ news) (hk : KeysIn tl vals ks) (hs : ∀ p ∈ tl, p ∈ news) : ∃ as, Reads s.heap (.ref R) (.tuple (ks.map keyD)) as := by
  obtain ⟨as, q⟩ := (hk.mono hs).reads N
  exact ⟨_, reads_tuple_at (N _ hm).1 rfl rfl q⟩
theorem cmp3 {Y X R' : Addr} {n : Int} {t1 t2 : Tok} {k1 k2 k3 : Nat} (N : News h₀ L s.heap news) (hY : (Y, tupO [.ref R', .int n t1, .bool true] k1) ∈ news) (hX : (X, tupO [.ref R, .int n t2, .bool true] k2) ∈ news) (hR : (R', tupO vals k3) ∈ news)
    (hk : KeysIn tl vals (zs.map rowF)) (hs : ∀ p ∈ tl, p ∈ news) (A0 : LawAt nz S R Dd Ds ys zs) (hsub : ∀ p ∈ nz, p ∈ news) (hu : A.units + 10 < cLine) (h : Q (.bool false) s) :
    wpAny (model prog w) A (compareOp .NotEq (.ref Y) (.ref X)) Q E s := by
  obtain ⟨a1, r1⟩ := keys_read N hR hk hs
  obtain ⟨a2, r2⟩ := keys_read N (hsub _ A0.rows) A0.keys hsub
  have rY := reads_tuple_at (N _ hY).1 rfl rfl (ReadsAll.cons r1 (ReadsAll.cons (Reads.int n t1) (ReadsAll.cons (Reads.bool true) ReadsAll.nil)))
  have rX := reads_tuple_at (N _ hX).1 rfl rfl (ReadsAll.cons r2 (ReadsAll.cons (Reads.int n t2) (ReadsAll.cons (Reads.bool true) ReadsAll.nil)))
  have hc : PyData.canLay0 (.tuple [.tuple ((zs.map rowF).map keyD), .int n, .bool true]) = true := by
    rw [PyData.canLay0, PyData.canLayAll0, PyData.canLay0, rows_canLay]; rfl
  have hd : PyData.depth (.tuple [.tuple ((zs.map rowF).map keyD), .int n, .bool true]) ≤ 3 := by
    have := keys_depth (zs.map rowF)
    rw [PyData.depth, PyData.depthAll, PyData.depth, PyData.depthAll, PyData.depthAll, PyData.depthAll, PyData.depth, PyData.depth]
    omega
  refine SeqAt.compareNe_reads rY rX hc hc (by omega) ?_
  rw [SeqAt.eqv_refl _ hc]
  exact h
theorem cmp_rows {X : Addr} {k1 : Nat} {ks : List (Bool × Str)} (N : News h₀ L s.heap news) (hX : (X, tupO vals k1) ∈ news) (hk : KeysIn tl vals ks) (he : ks = zs.map rowF) (hs : ∀ p ∈ tl, p ∈ news) (A0 : LawAt nz S R Dd Ds ys zs) (hsub : ∀ p ∈ nz, p ∈ news) (hu : A.units + 10 < cLine) (h : Q (.bool true) s) :
    wpAny (model prog w) A (compareOp .Eq (.ref X) (.ref R)) Q E s := by
  subst he
  obtain ⟨a1, r1⟩ := keys_read N hX hk hs
  obtain ⟨a2, r2⟩ := keys_read N (hsub _ A0.rows) A0.keys hsub
  have hc : PyData.canLay0 (.tuple ((zs.map rowF).map keyD)) = true := by
    rw [PyData.canLay0, rows_canLay]
  have hd : PyData.depth (.tuple ((zs.map rowF).map keyD)) ≤ 3 := by
    have := keys_depth (zs.map rowF)
    rw [PyData.depth]
    omega
  refine SeqAt.compareEq_reads r1 r2 hc hc (by omega) ?_
  rw [SeqAt.eqv_refl _ hc]
  exact h
theorem add_rows {X Y : Addr} {vals2 : List Value} {k1 k2 : Nat} {ks1 ks2 : List (Bool × Str)} (F : Fr h₀ L s.heap m) (N : News h₀ L s.heap news) (hX : (X, tupO vals k1) ∈ news) (hY : (Y, tupO vals2 k2) ∈ news) (h1 : KeysIn tl vals ks1) (h2 : KeysIn nz vals2 ks2) (n1 : ks1 ≠ []) (n2 : ks2 ≠ []) (l1 : ks1.length ≤ 1000) (l2 : ks2.length ≤ 1000)
    (s1 : ∀ p ∈ tl, p ∈ news) (s2 : ∀ p ∈ nz, p ∈ news)
    (h : ∀ D h' vs, Fr h₀ L h' m → News h₀ L h' ((D, tupO vs 0) :: news) → KeysIn news vs (ks1 ++ ks2) → Q (.ref D) { s with heap := h' }) :
    wpAny (model prog w) A (binaryOp .Add (.ref X) (.ref Y)) Q E s := by
  have v1 : vals ≠ [] := fun e => by have := h1.length; rw [e] at this; exact n1 (List.length_eq_zero_iff.mp this.symm)
  have v2 : vals2 ≠ [] := fun e => by have := h2.length; rw [e] at this; exact n2 (List.length_eq_zero_iff.mp this.symm)
  refine add_tuples F N ⟨_, (N _ hX).1, rfl, k1, rfl⟩ ⟨_, (N _ hY).1, rfl, k2, rfl⟩ (fun e => absurd e v1) (fun _ e => absurd e v2) (fun _ _ h' F' N' => ?_) (by rw [h1.length, h2.length, sizeLine_eq]; omega)
  exact h _ h' _ F' N' ((h1.mono s1).append (h2.mono s2))
end
abbrev nParts : Str := Str.ofString "parts"
abbrev nWords : Str := Str.ofString "words"
def lpM (m₀ : Str → Option Value) (p wd : Option Value) : Str → Option Value := fun y => if y = nWords then wd else if y = nParts then p else m₀ y
theorem lpM_self (m₀ : Str → Option Value) : m₀ = lpM m₀ (m₀ nParts) (m₀ nWords) := by
  funext y
  unfold lpM
  split
  · rename_i h; rw [h]
  · split
    · rename_i h; rw [h]
    · rfl
theorem lpM_2 {m₀ : Str → Option Value} {p wd : Option Value} {vp vw : Value} : (fun y => if y = nWords then some vw else if y = nParts then some vp else lpM m₀ p wd y) = lpM m₀ (some vp) (some vw) := by
  funext y
  unfold lpM
  by_cases h1 : y = nWords
  · rw [if_pos h1, if_pos h1]
  · by_cases h2 : y = nParts
    · rw [if_neg h1, if_pos h2, if_neg h1, if_pos h2]
    · rw [if_neg h1, if_neg h2, if_neg h1, if_neg h2, if_neg h1, if_neg h2]
def For2Post (h₀ : Heap) (L : Addr) (s₁ : Shared) (m₀ : Str → Option Value) (I : Addr) (oi : Obj) (T : Addr × Obj) (nz : List (Addr × Obj)) (Q : Flow → Shared → Prop) (f : Flow) (s₂ : Shared) : Prop :=
  match f with
  | .next | .cont => ∃ h' tk' p wd t2, s₂ = { s₁ with heap := h', toks := tk' } ∧ Fr h₀ L h' (lpM m₀ p wd) ∧ News h₀ L h' t2 ∧ (∀ q ∈ (I, oi) :: T :: nz, q ∈ t2)
  | .brk => Q .next s₂
  | .ret v => Q (.ret v) s₂
section
variable {prog : Program} {w : World} {A : Around} {E : Value → Shared → Prop} {s : Shared} {env : Env} {h₀ : Heap} {body : List Stmt} {Q : Flow → Shared → Prop} {target : PySem.Expr}
theorem for2 {T Dd Ds : Addr} {n : Nat} {nz : List (Addr × Obj)} {m₀ : Str → Option Value} {u1 u2 : List (List Str)} {ks : List (Bool × Str)}
    (hh : A.handled = none) (F : Fr h₀ env.locals s.heap m₀) (N : News h₀ env.locals s.heap ((T, tupO [.ref Dd, .ref Ds] n) :: nz)) (g1 : PtAt nz Dd u1 ks) (g2 : PtAt nz Ds u2 ks)
    (turn : ∀ a uss I oi p wd h tk, PtAt nz a uss ks → Fr h₀ env.locals h (lpM m₀ p wd) → News h₀ env.locals h ((I, oi) :: (T, tupO [.ref Dd, .ref Ds] n) :: nz) →
      wpAny (model prog w) A (assign target env (.ref a)) (fun _ s₂ => wpAny (model prog w) A (execs body env) (For2Post h₀ env.locals { s with heap := h, toks := tk } m₀ I oi (T, tupO [.ref Dd, .ref Ds] n) nz Q) E s₂) E { s with heap := h, toks := tk })
    (done : ∀ p wd h tk, Fr h₀ env.locals h (lpM m₀ p wd) → News h₀ env.locals h ((T, tupO [.ref Dd, .ref Ds] n) :: nz) → Q .next { s with heap := h, toks := tk }) :
    wpAny (model prog w) A (pyIter (.ref T)) (fun it s₂ => TurnsAt prog w A h₀ env target body Q E it s₂) E s := by
  refine iter_tupTurns hh F N (List.mem_cons_self) rfl rfl fun I hI => ?_
  have hoff : ∀ p ∈ (T, tupO [.ref Dd, .ref Ds] n) :: nz, p.1 ≠ I := fun p hp => Nat.ne_of_lt (hI p hp)
  have one : ∀ (a : Addr) (uss : List (List Str)) (rest : List Itm), PtAt nz a uss ks → (∀ p wd, ItemsRest prog w A E h₀ env target body Q s [(I, "tuple_iterator")] [(T, tupO [.ref Dd, .ref Ds] n)] rest (lpM m₀ p wd) ((T, tupO [.ref Dd, .ref Ds] n) :: nz)) →
      ∀ p wd, ItemsRest prog w A E h₀ env target body Q s [(I, "tuple_iterator")] [(T, tupO [.ref Dd, .ref Ds] n)] (.val (.ref a) :: rest) (lpM m₀ p wd) ((T, tupO [.ref Dd, .ref Ds] n) :: nz) := by
    intro a uss rest hp hr p wd
    refine ItemsRest.val fun h tk F₁ => ?_
    refine AllObj.cons fun oi _ => AllObj.nil fun N₁ => ?_
    refine wpAny_mono (turn a uss I oi p wd h tk hp F₁ N₁) (fun _ s₂ z => wpAny_mono z (fun f s₃ y => ?_) fun _ _ e => e) fun _ _ e => e
    have go : (∃ h' tk' p wd t2, s₃ = { s with heap := h', toks := tk' } ∧ Fr h₀ env.locals h' (lpM m₀ p wd) ∧ News h₀ env.locals h' t2 ∧ (∀ q ∈ (I, oi) :: (T, tupO [.ref Dd, .ref Ds] n) :: nz, q ∈ t2)) →
        UnrEndW h₀ env.locals { s with heap := h, toks := tk } [(I, oi)] (fun m' n' => SubL [(T, tupO [.ref Dd, .ref Ds] n)] n' ∧ ItemsRest prog w A E h₀ env target body Q s [(I, "tuple_iterator")] [(T, tupO [.ref Dd, .ref Ds] n)] rest m' n') s₃ := by
      rintro ⟨h', tk', p', wd', t2, rfl, F', N', hq⟩
      refine ⟨h', tk', _, (T, tupO [.ref Dd, .ref Ds] n) :: nz, rfl, F', fun q hq' => N' q (hq q hq'), fun q hq' r hr' => ?_, And.intro (List.mem_cons_self) trivial, hr p' wd'⟩
      rw [List.mem_singleton.mp hr']
      exact hoff q hq'
    cases f with
    | ret v => exact y
    | brk => exact y
    | next => exact go y
    | cont => exact go y
  rw [lpM_self m₀]
  exact one Dd u1 _ g1 (one Ds u2 _ g2 (fun p wd => ItemsRest.zero fun h tk F N => done p wd h tk F N)) _ _
theorem enum_law2 {elts : List PySem.Expr} {k : Nat} {pos : Pos} {zs : List Int} {ys wv : List Value} {R Ds Dd S : Addr} {T D1 : Addr × Obj} {k0 k1 k2 : Nat} {nx : List (Addr × Obj)} {m₀ : Str → Option Value}
    (hh : A.handled = none) (F : Fr h₀ env.locals s.heap m₀) (N : News h₀ env.locals s.heap (T :: (Ds, listOf #[] k1) :: (Dd, listOf #[] k2) :: (R, tupO ys 0) :: D1 :: nx)) (hk : KeysIn nx ys (zs.map rowF)) (hS : (S, listOf wv.toArray k0) ∈ nx) (hI : IntsAre wv zs)
    (hz : ∀ z ∈ zs, 0 ≤ z ∧ z < 1000) (hl : zs.length ≤ 1000) (o1 : ∀ p ∈ nx, p.1 ≠ Ds) (o2 : ∀ p ∈ nx, p.1 ≠ Dd) (o3 : ∀ p ∈ nx, p.1 ≠ R) (n1 : @Ne Nat Ds Dd) (n2 : @Ne Nat Ds R) (n3 : @Ne Nat Dd R)
    (turn : ∀ e I oe oi (i : Nat) dv sv kd ks tl' a r sm T t sd b nm rw tn nn h tk, zs[i]? = some sd → rowF sd = (b, nm) → SdOk sd → (i : Int) - 1 < ((zs.map rowF).length : Int) → dv.length ≤ 1000 → sv.length ≤ 1000 → KeysIn tl' ys (zs.map rowF) → (S, listOf wv.toArray k0) ∈ tl' →
      IsTup h T #[.int (i : Int) t, .ref rw] → (rw, tupO [.bool b, .str nm tn] nn) ∈ tl' → (@Ne Nat e I ∧ @Ne Nat Ds e ∧ @Ne Nat Ds I ∧ @Ne Nat Dd e ∧ @Ne Nat Dd I ∧ @Ne Nat R e ∧ @Ne Nat R I) →
      (∀ p ∈ tl', p.1 ≠ e) → (∀ p ∈ tl', p.1 ≠ I) → (∀ p ∈ tl', p.1 ≠ Ds) → (∀ p ∈ tl', p.1 ≠ Dd) → (∀ p ∈ tl', p.1 ≠ R) →
      Fr h₀ env.locals h (lawM m₀ a r sm) → News h₀ env.locals h ((e, oe) :: (I, oi) :: (Ds, listOf sv.toArray ks) :: (Dd, listOf dv.toArray kd) :: (R, tupO ys 0) :: tl') →
      wpAny (model prog w) A (assign (.Tuple elts k pos) env (.ref T)) (fun _ s₂ => wpAny (model prog w) A (execs body env) (LawPost h₀ env.locals { s with heap := h, toks := tk } m₀ e I R Ds Dd oe oi (tupO ys 0) dv sv (phrF sd) (spAt zs i) tl' Q) E s₂) E { s with heap := h, toks := tk })
    (done : ∀ a r sm nz h tk, LawAt nz S R Dd Ds ys zs → Fr h₀ env.locals h (lawM m₀ a r sm) → News h₀ env.locals h nz → Q .next { s with heap := h, toks := tk }) :
    wpAny (model prog w) A (call (.type "enumerate") [.ref R]) (fun xv s₁ => wpAny (model prog w) A (pyIter xv) (fun it s₂ => TurnsAt prog w A h₀ env (.Tuple elts k pos) body Q E it s₂) E s₁) E s := by
  refine enum_law hh F N hk hS hz hl o1 o2 o3 n1 n2 n3 turn fun a r sm dv sv kd ks tl' h tk q1 q2 q3 q4 q5 _ _ _ F' N' => done a r sm _ h tk ⟨⟨wv, k0, ?_, hI⟩, ?_, ?_, ⟨dv, kd, ?_, ?_⟩, ⟨sv, ks, ?_, ?_⟩⟩ F' N'
  · exact .tail _ (.tail _ (.tail _ q5))
  · exact .tail _ (.tail _ (.head _))
  · exact q4.mono fun p hp => .tail _ (.tail _ (.tail _ hp))
  · exact .tail _ (.head _)
  · exact q1.mono fun p hp => .tail _ (.tail _ (.tail _ hp))
  · exact .head _
  · exact q2.mono fun p hp => .tail _ (.tail _ (.tail _ hp))
end
theorem seeds_len1 (ns : List Int) : 1 ≤ (seedsF ns).length := Nat.le_trans (by decide) (seeds_len ns).1
theorem PtAt.lu {nz : List (Addr × Obj)} {a : Addr} {uss : List (List Str)} {ks : List (Bool × Str)} (h : PtAt nz a uss ks) : uss.flatten.length ≤ 1000 := by
  obtain ⟨_, _, _, _, h, _⟩ := h
  exact h
theorem phr_to {vals : List Value} {b : Bool} {nm : Str} {sd : Int} (h : StrsAre vals (phraseF b nm sd)) (hr : rowF sd = (b, nm)) : StrsAre vals (phrF sd) := phr_row hr ▸ h
theorem sp_to {vals : List Value} {us us' : List Str} (e : us = us') (h : StrsAre vals us') : StrsAre vals us := e ▸ h
theorem cut_rows (zs : List Int) (c : Nat) : (zs.take c).map rowF ++ (zs.drop c).map rowF = zs.map rowF := by
  rw [← List.map_append, List.take_append_drop]
end
section
section
variable {prog : Program} {w : World} {A : Around} {E : Value → Shared → Prop} {s : Shared} {env : Env}
set_option maxHeartbeats 1000000 in
theorem comp2a {v : Str} {py spos : Pos} {ml : Str → Option Value} {itA : PySem.Expr} {x y : Str} {q1 q2 q3 q4 : Pos} {scope : Scope} {cl : List (Str × Addr)} {pos : Pos} {Q : Flow → Shared → Prop} (hh : A.handled = none) (hsw : swapsWith (LC2 (.Name y q1) (.Name x q2) itA (.Name y q3) (.Name x q4) scope pos) (some (.Name v py)) spos.line env = pure true) (hv : env.kindOf v = some .local) (hp0 : (env.scope.kind == .class || (env.scope.kind == .module && env.locals != env.globals)) = false)
    (hclos : closureFor scope env = pure cl) (hcell : ∀ y ∈ scope.names, y.2 ≠ .cell) (hkind : scope.kind = .function)
    (hnames : ∀ y ∈ scope.names, y.2 = .local → scope.names.lookup y.1 = some .local) (hx : scope.names.lookup x = some .local) (hy : scope.names.lookup y = some .local) (hxy : x ≠ y)
    (hdx : (x == ("__debug__" : Str)) = false) (hdy : (y == ("__debug__" : Str)) = false)
    (h : wpAny (model prog w) A (eval itA env) (fun xv s₁ => ∃ ax vals uss, xv = .ref ax ∧ s₁.heap.Ns env.locals ml ∧ s₁.heap.IsList ax vals.toArray ∧ PartsAt s₁.heap vals uss ∧ uss.flatten.length ≤ 1000 ∧
      ∀ D ys h' tk, StrsAre ys uss.flatten → (∀ b o, b ≠ env.locals → s₁.heap.get? b = some o → h'.get? b = some o) → h'.Ns env.locals (fun z => if z = v then some (.ref D) else ml z) → s₁.heap.get? D = none → h'.get? D = some (LCg.lst ys) → Q .next { s₁ with heap := h', toks := tk }) E s)
    (hs : ∀ x, foldedSetIterable itA env x = pure x := by intro _; rfl) :
    wpAny (model prog w) A (exec (.Assign [.Name v py] (LC2 (.Name y q1) (.Name x q2) itA (.Name y q3) (.Name x q4) scope pos) spos) env) Q E s := by
  rw [exec_Assign_Name_used _ _ _ _ hsw]
  refine wpAny_bind (wpAny_standAt (wpAny_bind ?_))
  show wpAny _ A (do let _ ← comprehension (LC2 (.Name y q1) (.Name x q2) itA (.Name y q3) (.Name x q4) scope pos) scope env _ (newList []) false (eval itA env) (some (assign (.Name v py) env))) _ _ s
  refine wpAny_bind (wpAny_mono (wpAny_comprehension_free (use := some (assign (.Name v py) env)) (Q := fun _ s' => Q .next s') rfl hs hclos hkind hnames
    (wpAny_mono h (fun xv s₁ h₁ => ?_) fun _ _ e => e)) (fun _ s' hq => wpAny_pure (wpAny_pure hq)) fun _ _ e => e)
  obtain ⟨ax, vals, uss, rfl, hloc, hl, hp, hbig, fin⟩ := h₁
  refine wpAny_pyIter_list hl ?_
  have hltx := isList_lt hl
  generalize hI : s₁.heap.objs.size = I
  generalize hH1 : s₁.heap.push { cls := .type "list_iterator", data := .fields #[.ref ax, .int 0 0] } = H1
  have hH1s : H1.objs.size = I + 1 := by rw [← hH1, Heap.size_push, hI]
  have up1 : ∀ b o, s₁.heap.get? b = some o → H1.get? b = some o := fun b o e => hH1 ▸ Heap.get?_push_of_some _ e
  have hiter : H1.IsListIter I ax 0 := ⟨_, hH1 ▸ hI ▸ Heap.get?_push_size _ rfl, rfl, rfl⟩
  refine wpAny_newObj_type (wpAny_newFunctionEnv hcell (by intro y hy; simp at hy) (fun h₁ hns₁ hsb₁ => ?_) hkind)
  dsimp only at hns₁ hsb₁ ⊢
  generalize hD : H1.objs.size = D at hns₁ hsb₁ ⊢
  generalize hH2 : H1.push { cls := .type "list", dict := none, data := .seq ([] : List Value).toArray } = H2 at hns₁ hsb₁ ⊢
  have hH2s : H2.objs.size = D + 1 := by rw [← hH2, Heap.size_push, hD]
  generalize hC : H2.objs.size = C at hns₁ hsb₁ ⊢
  have hDI : D = I + 1 := by rw [← hD, hH1s]
  have hCI : C = I + 2 := by rw [← hC, hH2s, hDI]
  have old1 : ∀ b o, H1.get? b = some o → h₁.get? b = some o := fun b o e => hsb₁.extBut b o (by have hb : @LT.lt Nat _ b (I + 1) := hH1s ▸ Heap.lt_size e; rw [hCI]; exact Nat.ne_of_lt (Nat.lt_of_lt_of_le hb (Nat.le_succ _))) (Heap.get?_push_of_some _ (hH2 ▸ Heap.get?_push_of_some _ e))
  have old : ∀ b o, s₁.heap.get? b = some o → h₁.get? b = some o := fun b o e => old1 b o (up1 b o e)
  have hacc : h₁.get? D = some (LCg.lst []) := hsb₁.extBut _ _ (by rw [hCI, hDI]; exact Nat.ne_of_lt (by omega)) (Heap.get?_push_of_some _ (hH2 ▸ hD ▸ Heap.get?_push_size _ rfl))
  have hDnone : s₁.heap.get? D = none := by
    cases e : s₁.heap.get? D with
    | none => rfl
    | some o => exact absurd (hI ▸ Heap.lt_size e : @LT.lt Nat _ D I) (by rw [hDI]; exact Nat.not_lt.mpr (Nat.le_succ _))
  have ltI : ∀ b o, s₁.heap.get? b = some o → b < I := fun b o e => hI ▸ Heap.lt_size e
  have hne : ax ≠ I := Nat.ne_of_lt (hI ▸ hltx)
  have hIC : I ≠ C := by rw [hCI]; exact Nat.ne_of_lt (Nat.lt_succ_of_lt (Nat.lt_succ_self _))
  have hID : I ≠ D := by rw [hDI]; exact Nat.ne_of_lt (Nat.lt_succ_self _)
  have hDC : D ≠ C := by rw [hDI, hCI]; exact Nat.ne_of_lt (Nat.lt_succ_self _)
  have offI : ∀ b o, s₁.heap.get? b = some o → b ≠ I ∧ b ≠ C ∧ b ≠ D := fun b o e => by
    have hb : @LT.lt Nat _ b I := hI ▸ Heap.lt_size e
    exact ⟨Nat.ne_of_lt hb, by rw [hCI]; exact Nat.ne_of_lt (Nat.lt_succ_of_lt (Nat.lt_succ_of_lt hb)), by rw [hDI]; exact Nat.ne_of_lt (Nat.lt_succ_of_lt hb)⟩
  have loop : ∀ s₃ : Shared, s₃ = { s₁ with heap := h₁, toks := s₁.toks + ([] : List (Str × Value)).length } →
      codeAny (model prog w) A (.compLoop (LC2 (.Name y q1) (.Name x q2) itA (.Name y q3) (.Name x q4) scope pos) 0 (.ref I) (.ref D) (compEnvC scope cl C env))
        (compPost (model prog w) A E (some (assign (.Name v py) env)) (fun _ s' => Q .next s') (.ref D) C) s₃ := by
    rintro s₃ rfl
    refine loop_out (fun k s' => ∃ h' tk i ys m', s' = { s₁ with heap := h', toks := tk } ∧ i ≤ vals.length ∧ k = vals.length + 1 - i ∧ h'.IsListIter I ax i ∧ h'.Ns C m' ∧ h'.get? D = some (LCg.lst ys) ∧ StrsAre ys (uss.take i).flatten ∧ ∀ b o, s₁.heap.get? b = some o → h'.get? b = some o) hh ?_ (vals.length + 1)
      ⟨h₁, _, 0, [], _, rfl, Nat.zero_le _, rfl, hiter.at fun o e => old1 _ o e, hns₁, hacc, by simpa using StrsAre.nil, old⟩
    rintro k s' ⟨h', tk, i, ys, m', rfl, hi, rfl, hit, hn, hacc', hys, keep⟩
    have hl' : h'.IsList ax vals.toArray := hl.at fun o e => keep _ o e
    by_cases hlt : i < vals.length
    · refine (Walks.list hh I ax hne vals.toArray).item i _ _ _ (by simpa using hlt) ⟨hit, hl'⟩ fun v h₂ tk₂ hv hst₂ hk₂ => ?_
      obtain ⟨a, vs, us, rfl, hus, hla, hsu⟩ := hp.get (by simpa using hv : vals[i]? = some v)
      dsimp only
      refine wpAny_assign_Name (wpAny_storeName_local (lookup_relabel_local hx) (hn.at' fun o e => hk₂ _ o (by simpa using Ne.symm hIC) e) (fun h₃ hn₃ hs₃ => ?_) (by simp [compEnvC, relabel, hkind]))
      refine ldVarK hn₃ (if_pos rfl) ?_ hkind (lookup_relabel_local hx) hdx
      have keep2 : ∀ b o, s₁.heap.get? b = some o → h₂.get? b = some o := fun b o e => hk₂ b o (by simpa using (offI b o e).1) (keep b o e)
      have keep3 : ∀ b o, s₁.heap.get? b = some o → h₃.get? b = some o := fun b o e => hs₃.extBut b o (offI b o e).2.1 (keep2 b o e)
      have hit3 : h₃.IsListIter I ax (i + 1) := hst₂.1.at fun o e => hs₃.extBut _ o hIC e
      have hacc3 : h₃.get? D = some (LCg.lst ys) := hs₃.extBut _ _ hDC (hk₂ _ _ (by simpa using Ne.symm hID) hacc')
      refine wpAny_pyIter_list (hla.at fun o e => keep3 _ o e) ?_
      generalize hJ : h₃.objs.size = J
      generalize hH4 : h₃.push { cls := .type "list_iterator", data := .fields #[.ref a, .int 0 0] } = H4
      have up4 : ∀ b o, h₃.get? b = some o → H4.get? b = some o := fun b o e => hH4 ▸ Heap.get?_push_of_some _ e
      have hitJ : H4.IsListIter J a 0 := ⟨_, hH4 ▸ hJ ▸ Heap.get?_push_size _ rfl, rfl, rfl⟩
      have ltJ : ∀ b o, h₃.get? b = some o → b ≠ J := fun b o e => hJ ▸ Nat.ne_of_lt (Heap.lt_size e)
      have hIJ : I ≠ J := by obtain ⟨o, e, _⟩ := hit3; exact ltJ _ _ e
      have hDJ : D ≠ J := ltJ _ _ hacc3
      have hCJ : C ≠ J := by obtain ⟨o, _, _, e, _⟩ := hn₃; exact ltJ _ _ e
      have haJ : a ≠ J := by obtain ⟨o, e, _⟩ := hla; exact ltJ _ _ (keep3 _ _ e)
      have haO : a ≠ I ∧ a ≠ C ∧ a ≠ D := by obtain ⟨o, e, _⟩ := hla; exact offI _ _ e
      have inner : ∀ s₅ : Shared, (∃ tk₅, s₅ = { s₁ with heap := H4, toks := tk₅ }) → codeAny (model prog w) A (.compLoop (LC2 (.Name y q1) (.Name x q2) itA (.Name y q3) (.Name x q4) scope pos) 1 (.ref J) (.ref D) (compEnvC scope cl C env))
          (fun r s₅ => match r with | .ok _ => ∃ m, m < vals.length + 1 - i ∧ ∃ h' tk i ys m', s₅ = { s₁ with heap := h', toks := tk } ∧ i ≤ vals.length ∧ m = vals.length + 1 - i ∧ h'.IsListIter I ax i ∧ h'.Ns C m' ∧ h'.get? D = some (LCg.lst ys) ∧ StrsAre ys (uss.take i).flatten ∧ ∀ b o, s₁.heap.get? b = some o → h'.get? b = some o | .error _ => False) s₅ := by
        rintro s₅ ⟨tk₅, rfl⟩
        refine loop_in (fun k s' => ∃ h' tk j zs m', s' = { s₁ with heap := h', toks := tk } ∧ j ≤ vs.length ∧ k = vs.length + 1 - j ∧ h'.IsListIter J a j ∧ h'.IsListIter I ax (i + 1) ∧ h'.Ns C m' ∧ h'.get? D = some (LCg.lst zs) ∧ StrsAre zs ((uss.take i).flatten ++ us.take j) ∧ ∀ b o, s₁.heap.get? b = some o → h'.get? b = some o) ?_ (vs.length + 1)
          ⟨H4, _, 0, ys, _, rfl, Nat.zero_le _, rfl, hitJ, hit3.at fun o e => up4 _ o e, hn₃.at' fun o e => up4 _ o e, up4 _ _ hacc3, by simpa using hys, fun b o e => up4 _ _ (keep3 b o e)⟩
        rintro k s' ⟨h', tk, j, zs, m', rfl, hj, rfl, hjt, hit', hn', hacc', hzs, keep'⟩
        have hla' : h'.IsList a vs.toArray := hla.at fun o e => keep' _ o e
        by_cases hlj : j < vs.length
        · refine (Walks.list hh J a haJ vs.toArray).item j _ _ _ (by simpa using hlj) ⟨hjt, hla'⟩ fun v h₅ tk₅ hv hst₅ hk₅ => ?_
          obtain ⟨nm, hnm⟩ : ∃ nm, us[j]? = some nm := ⟨us[j]'(by rw [← hsu.length]; exact hlj), List.getElem?_eq_getElem _⟩
          obtain ⟨t, ht⟩ := StrsAre.get hsu j nm hnm
          obtain rfl : v = .str nm t := Option.some.inj ((by simpa using hv : vs[j]? = some v).symm.trans ht)
          dsimp only
          refine wpAny_assign_Name (wpAny_storeName_local (lookup_relabel_local hy) (hn'.at' fun o e => hk₅ _ o (by simpa using hCJ) e) (fun h₆ hn₆ hs₆ => ?_) (by simp [compEnvC, relabel, hkind]))
          refine ldVarK hn₆ (if_pos rfl) ?_ hkind (lookup_relabel_local hy) hdy
          have hacc6 : h₆.get? D = some (LCg.lst zs) := hs₆.extBut _ _ hDC (hk₅ _ _ (by simpa using hDJ) hacc')
          have hzl : zs.length ≤ 1000 := by
            rw [hzs.length, List.length_append, List.length_take]
            have e := flat_take hus
            have hle : ((uss.take (i + 1)).flatten).length ≤ uss.flatten.length := by
              have := List.take_append_drop (i + 1) uss
              calc ((uss.take (i + 1)).flatten).length ≤ ((uss.take (i + 1)).flatten ++ (uss.drop (i + 1)).flatten).length := by rw [List.length_append]; exact Nat.le_add_right _ _
                _ = uss.flatten.length := by rw [← List.flatten_append, this]
            rw [e, List.length_append] at hle
            omega
          refine append_at (hsz := by show zs.toArray.size ≤ sizeLine; rw [List.size_toArray, sizeLine_eq]; omega) hacc6 fun h₇ hs₇ hD₇ => ?_
          refine ⟨vs.length + 1 - (j + 1), by omega, h₇, _, j + 1, zs ++ [.str nm t], ?_, rfl, hlj, rfl, ?_, ?_, ?_, ?_, ?_, ?_⟩
          rotate_left
          · exact hst₅.1.at fun o e => hs₇.extBut _ o (Ne.symm hDJ) (hs₆.extBut _ o (Ne.symm hCJ) e)
          · exact hit'.at fun o e => hs₇.extBut _ o hID (hs₆.extBut _ o hIC (hk₅ _ o (by simpa using hIJ) e))
          · exact hn₆.sameBut hs₇ (Ne.symm hDC)
          · exact hD₇.trans (congrArg some (LCg.lst_snoc zs _))
          · have e : us.take (j + 1) = us.take j ++ [nm] := by rw [List.take_add_one, hnm]; rfl
            rw [e, ← List.append_assoc]
            exact StrsAre.append' hzs (.cons _ _ .nil)
          · exact fun b o e => hs₇.extBut b o (offI b o e).2.2 (hs₆.extBut b o (offI b o e).2.1 (hk₅ b o (by simpa using ltJ b o (keep3 b o e)) (keep' b o e)))
        · obtain rfl : j = vs.length := Nat.le_antisymm hj (Nat.not_lt.mp hlj)
          have hla'' : h'.IsListIter J a vs.toArray.size := by rw [List.size_toArray]; exact hjt
          refine (Walks.list hh J a haJ vs.toArray).done _ _ _ ⟨hla'', hla'⟩ fun h₅ tk₅ hk₅ => ?_
          refine ⟨vals.length + 1 - (i + 1), by omega, h₅, tk₅, i + 1, zs, _, rfl, hlt, rfl, hit'.at fun o e => hk₅ _ o (by simpa using hIJ) e, hn'.at' fun o e => hk₅ _ o (by simpa using hCJ) e, hk₅ _ _ (by simpa using hDJ) hacc', ?_, fun b o e => hk₅ b o (by simpa using ltJ b o (keep3 b o e)) (keep' b o e)⟩
          rw [flat_take hus]
          rw [hsu.length, List.take_length] at hzs
          exact hzs
      exact start_in (inner _ ⟨_, rfl⟩) (wpAny_pyIter_listiter hitJ (inner _ ⟨_, rfl⟩))
    · obtain rfl : i = vals.length := Nat.le_antisymm hi (Nat.not_lt.mp hlt)
      have hit'' : h'.IsListIter I ax vals.toArray.size := by rw [List.size_toArray]; exact hit
      refine (Walks.list hh I ax hne vals.toArray).done _ _ _ ⟨hit'', hl'⟩ fun h₂ tk₂ hk₂ => ?_
      rw [hp.length, List.take_length] at hys
      obtain ⟨oL, hoL⟩ : ∃ oL, s₁.heap.get? env.locals = some oL := by obtain ⟨o, _, _, e, _⟩ := hloc; exact ⟨o, e⟩
      have hLI := offI _ _ hoL
      have hn2 : h₂.Ns C m' := hn.at' fun o e => hk₂ _ o (by simpa using Ne.symm hIC) e
      have hl2 : h₂.Ns env.locals ml := hloc.at' fun o e => hk₂ _ o (by simpa using hLI.1) (keep _ o e)
      have ha2 : h₂.get? D = some (LCg.lst ys) := hk₂ _ _ (by simpa using Ne.symm hID) hacc'
      show wpAny _ A (assign (.Name v py) env (.ref D)) _ _ _
      refine wpAny_assign_Name (wpAny_storeName_local hv hl2 (fun h₃ hn₃ hs₃ => ?_) hp0)
      refine ⟨m', hn2.sameBut hs₃ (Ne.symm hLI.2.1), fun h'' hs'' => fin D ys h'' _ hys (fun b o hb e => hs''.extBut b o (offI b o e).2.1 (hs₃.extBut b o hb (hk₂ b o (by simpa using (offI b o e).1) (keep b o e)))) (hn₃.sameBut hs'' hLI.2.1) hDnone (hs''.extBut _ _ hDC (hs₃.extBut _ _ (Ne.symm hLI.2.2) ha2))⟩
  exact codeAny_compStart_list (loop _ rfl) (wpAny_pyIter_listiter (hiter.at fun o e => old1 _ o e) (loop _ rfl))
end
def C2SrcA (L : Addr) (v : Str) (m : Str → Option Value) (Q : Flow → Shared → Prop) (xv : Value) (s₁ : Shared) : Prop := ∃ ax vals uss, xv = .ref ax ∧ s₁.heap.Ns L m ∧ s₁.heap.IsList ax vals.toArray ∧ PartsAt s₁.heap vals uss ∧ uss.flatten.length ≤ 1000 ∧
      ∀ D ys h' tk, StrsAre ys uss.flatten → (∀ b o, b ≠ L → s₁.heap.get? b = some o → h'.get? b = some o) → h'.Ns L (fun z => if z = v then some (.ref D) else m z) → s₁.heap.get? D = none → h'.get? D = some (LCg.lst ys) → Q .next { s₁ with heap := h', toks := tk }
section
variable {prog : Program} {w : World} {A : Around} {E : Value → Shared → Prop} {s : Shared} {env : Env}
theorem comp2aw {v : Str} {py spos : Pos} {ml : Str → Option Value} {itA : PySem.Expr} {x y : Str} {q1 q2 q3 q4 : Pos} {scope : Scope} {cl : List (Str × Addr)} {pos : Pos} {h₀ : Heap} {Q : Flow → Shared → Prop} (F₀ : Fr h₀ env.locals s.heap ml) (hh : A.handled = none)
    (hsw : swapsWith (LC2 (.Name y q1) (.Name x q2) itA (.Name y q3) (.Name x q4) scope pos) (some (.Name v py)) spos.line env = pure true) (hv : env.kindOf v = some .local) (hp0 : (env.scope.kind == .class || (env.scope.kind == .module && env.locals != env.globals)) = false)
    (hclos : closureFor scope env = pure cl) (hcell : ∀ y ∈ scope.names, y.2 ≠ .cell) (hkind : scope.kind = .function)
    (hnames : ∀ y ∈ scope.names, y.2 = .local → scope.names.lookup y.1 = some .local) (hx : scope.names.lookup x = some .local) (hy : scope.names.lookup y = some .local) (hxy : x ≠ y)
    (hdx : (x == ("__debug__" : Str)) = false) (hdy : (y == ("__debug__" : Str)) = false)
    (h : wpAny (model prog w) A (eval itA env) (fun xv s₁ => C2SrcA env.locals v ml Q xv s₁) E s)
    (hs : ∀ x, foldedSetIterable itA env x = pure x := by intro _; rfl) :
    wpAny (model prog w) A (exec (.Assign [.Name v py] (LC2 (.Name y q1) (.Name x q2) itA (.Name y q3) (.Name x q4) scope pos) spos) env) Q E s :=
  comp2a hh hsw hv hp0 hclos hcell hkind hnames hx hy hxy hdx hdy h hs
end
section
variable {h₀ : Heap} {L : Addr} {m : Str → Option Value} {news nz : List (Addr × Obj)} {s₁ : Shared} {Q : Flow → Shared → Prop}
theorem c2_srcA {v : Str} {a : Addr} {uss : List (List Str)} {ks : List (Bool × Str)} (F : Fr h₀ L s₁.heap m) (N : News h₀ L s₁.heap news) (hp : PtAt nz a uss ks) (hsub : ∀ p ∈ nz, p ∈ news)
    (h : ∀ D ys h' tk, StrsAre ys uss.flatten → Fr h₀ L h' (fun z => if z = v then some (.ref D) else m z) → News h₀ L h' ((D, listOf ys.toArray ys.length) :: news) → (∀ p ∈ news, p.1 ≠ D) → Q .next { s₁ with heap := h', toks := tk }) : C2SrcA L v m Q (.ref a) s₁ := by
  obtain ⟨vv, k, hm, hpt, hlen, _⟩ := hp
  refine ⟨a, vv, uss, rfl, F.ns, ⟨_, (N _ (hsub _ hm)).1, rfl, k, rfl⟩, PartsIn.at N (hpt.mono hsub), hlen, ?_⟩
  intro D ys h' tk hst keep hns hD hg
  have hDL : D ≠ L := fun e => by
    obtain ⟨oL, _, _, hL, _⟩ := F.ns
    rw [e, hL] at hD; cases hD
  have hD0 : h₀.get? D = none := by
    cases e : h₀.get? D with
    | none => rfl
    | some o => rw [F.keep _ _ e] at hD; cases hD
  have hL0 : h₀.get? L = none := Heap.get?_none_of_le F.above
  refine h D ys h' tk hst ⟨hns, fun b o e => keep b o (fun q => by rw [q, hL0] at e; cases e) (F.keep b o e), F.above⟩ ?_ ?_
  · intro p hp
    rcases List.mem_cons.mp hp with rfl | hp
    · exact ⟨hg, hDL, hD0⟩
    · exact ⟨keep _ _ (N p hp).2.1 (N p hp).1, (N p hp).2⟩
  · intro p hp e
    have := (N p hp).1
    rw [e, hD] at this; cases this
end
end
local macro_rules | `(tactic| k_room) => `(tactic| ktr_room)
local macro_rules | `(tactic| k_units) => `(tactic| ktr_units)
local macro_rules | `(tactic| boot_by_name) => `(tactic| first | exact boot_len | exact boot_tuple | fail "not mine")
local macro_rules | `(tactic| ktr_enter) => `(tactic| (refine' code_def ?k1 ?k2 ?k3 ?k4 ?k5 ?kA ?kF ?kK ?k6 ?k7 ?k8 ?k9 ?kB ?_ ?c2 ?c3 ?c4 ?c5; (case kA => exact rfl); (case kF => exact rfl); (case kK => assumption); (case k1 => k_asm); (case k2 => k_asm); (case k3 => k_asm); (case k4 => k_asm); (case k5 => k_asm); (case k6 => k_is); (case k7 => k_is); (case k8 => ktr_room); (case k9 => first | exact BindsTo.of_eq rfl | exact binds_K (by k_in) rfl (by k_is) rfl rfl rfl); (case c5 => decide); (case kB => exact locs rfl); (case c2 => exact rfl); (case c3 => exact rfl); (case c4 => exact rfl); k_whole; intro g' L' h' FG' F' N' B' X' T'; (try dsimp only); (try k_fold)))
local macro_rules | `(tactic| walk_at "getMethod str") => `(tactic| rw [raw_split])
local macro_rules | `(tactic| k_all) => `(tactic| first | exact allNe_lt (by assumption) | exact allNe_lt (And.right (by assumption)) | exact allNe_lt (And.right (And.right (by assumption))) | exact allNe_lt (And.right (And.right (And.right (by assumption)))))
local macro_rules | `(tactic| walk_at "pyIter ref") => `(tactic| ((with_reducible show wpAny _ _ (pyIter (Value.ref _)) (fun it s₂ => LoopAtV _ _ _ _ _ _ _ _ _ it s₂) _ _); k_here; (rename Fr _ _ _ _ => lF'); (rename News _ _ _ _ => lN'); (with_unfolding_all refine iter_listUnr (vs := [_]) (by rfl) lF' lN' (by k_mem) (by rfl) (by rfl) ?_); clear lF'; intro i' l1; (try k_lt l1)))
local macro_rules | `(tactic| walk_at "UnrEnd") => `(tactic| (refine unr_top (by assumption) (by assumption) (by k_all) ⟨by k_mem, ?_⟩))
local macro_rules | `(tactic| k_mem) => `(tactic| first | exact List.mem_cons_self | ktr_member | (refine List.mem_cons_of_mem _ ?_; k_mem))
local macro_rules | `(tactic| walk_at "call builtin:str.split") => `(tactic| (k_here; k_dflt (refine split_one (by k_asm) (by k_asm) (by assumption) (by assumption) (by decide) ?_); intro D' t' h' k' F' N' l1; (try k_lt l1)))
local macro_rules | `(tactic| k_all) => `(tactic| assumption)
local macro_rules | `(tactic| walk_at "getMethod ref") => `(tactic| rw [raw_append])
section
section
local macro_rules | `(tactic| walk_at "call builtin:len") => `(tactic| (k_here; (with_reducible show wpAny _ _ (call (Value.builtin "len") [Value.ref _]) _ _ _); k_dflt (refine' len_toks ?k1 ?k2 ?k3 ?k4 ?_; (case k1 => k_asm); (case k2 => k_mem); (case k3 => assumption); (case k4 => assumption); k_whole)))
local macro_rules | `(tactic| walk_at "subscriptTail") => `(tactic| (k_here; (with_reducible show wpAny _ _ (subscriptTail _ _ (Value.ref _) (Value.int _ _)) _ _ _); (with_unfolding_all refine' item_toks ?k1 ?k2 ?k3 ?k4 ?k5 ?k6 ?_ ?k7; (case k1 => k_asm); (case k2 => k_mem); (case k3 => assumption); (case k4 => assumption); (case k5 => omega); (case k6 => omega); (case k7 => with_unfolding_all rfl); k_whole); intro b' d' q1' q2' q3' q4' q5' q6' ad' wd' hw' hm1' hm2' hwl'))
variable {w : World} {p : Program} {loose : List Str} {mean : ExcName → Option Value} {mg mb : Str → Option Value} {dp un : Nat} {gd : Option (List Code)} {cn : Str} {cs : Scope} {a : Addr} {ccd : Value} {cl : List (Str × Addr)} {outer : List Env} {A₀ : Around} {base h₀ : Heap} {L : Addr} {m : Str → Option Value} {news : List (Addr × Obj)} {s : Shared}
    {Q E : Value → Shared → Prop} {x dx ll nd : Addr} {t1 t2 t3 tk : Tok} {i : Nat} {vs : List Value} {ws : List Str} {n : Nat}

set_option maxRecDepth 100000 in
set_option maxHeartbeats 8000000 in
theorem peek_c (kt : Tok) (X : (Mine.hd.heap_270 w.params).In h₀)
    (B : Below A₀ base outer h₀) (F : Fr h₀ L s.heap m) (N : News h₀ L s.heap news) (T : Top p loose mean mg mb h₀) (hk : cs.kind = .function)
    (hR : RdIn w.params news x dx ll nd t1 t2 t3 tk n i vs ws)
    (hd : dp + 1 < recursionLimit) (hu : un + 10 < cLine)
    (hS : ∀ h' tk' b d t1' t2' t3' t4' t5' t6' ad wd, ws[i]? = some wd → (b, instObj 282 d) ∈ news → (d, tkD w.params t1' t2' t3' t4' t5' t6' ad wd) ∈ news → wd.length ≤ 100 → Fr h₀ L h' m → News h₀ L h' news → Q (.ref b) { s with heap := h', toks := tk' })
    (hN : ∀ h' tk', ws[i]? = none → Fr h₀ L h' m → News h₀ L h' news → Q .none { s with heap := h', toks := tk' }) :
    wpAny (model PySem.Challenge.rw_pb0250_01.row.prog w) (ktrTop dp un gd cn cs L a ccd cl outer) (call (.ref 106) [.ref x, .int 0 kt]) Q E s := by
  w_top off; revert X; k_fill; intro X
  have hR' := hR
  obtain ⟨hx, hdx, hl, hT, hi, hlen⟩ := hR'
  refine wpAny_call ?_
  k_dflt ktr_enter
  k_steps
  all_goals first
    | (refine hS _ _ _ _ _ _ _ _ _ _ _ _ ?_ (by assumption) (by assumption) (by assumption) (by assumption) (by assumption); rw [← (show ((i:Int)+0).toNat = i by omega)]; assumption)
    | (refine hN _ _ ?_ (by assumption) (by assumption); exact List.getElem?_eq_none (by omega))

local macro_rules | `(tactic| walk_at "call ref") => `(tactic| (k_here; (with_reducible show wpAny _ _ (call (Value.ref 106) [_, _]) _ _ _); k_dflt (refine' peek_c _ ?k1 ?k2 ?k3 ?k4 ?k5 ?k6 ?k7 ?k9 ?kA ?_ ?_; (case k1 => k_asm); (case k2 => k_asm); (case k3 => k_asm); (case k4 => k_asm); (case k5 => k_asm); (case k6 => first | exact rfl | assumption); (case k7 => first | ((repeat (first | assumption | apply RdIn.up)); done) | exact RdT.into (by assumption) (by first | assumption | omega) | exact RdIn.up (RdT.into (by assumption) (by first | assumption | omega)) | exact RdIn.up (RdIn.up (RdT.into (by assumption) (by first | assumption | omega)))); (case k9 => ktr_room); (case kA => ktr_units)); all_goals (first | (intro h' tk' b' d' q1' q2' q3' q4' q5' q6' ad' wd' hw' hm1' hm2' hwl' F' N'; (try k_sweep)) | (intro h' tk' hw' F' N'; first | k_dflt (exact (cl_abs hw' (by assumption)).elim) | (try k_sweep)))))
set_option maxRecDepth 100000 in
set_option maxHeartbeats 8000000 in
theorem is_word_c (W : Str) (wt : Tok) (hsp : Txt.split W ⟨⟨[32]⟩⟩ = [W]) (hsz : W.length + 2 ≤ sizeLine) (X : (Mine.hd.heap_270 w.params).In h₀)
    (B : Below A₀ base outer h₀) (F : Fr h₀ L s.heap m) (N : News h₀ L s.heap news) (T : Top p loose mean mg mb h₀) (hk : cs.kind = .function)
    (hR : RdIn w.params news x dx ll nd t1 t2 t3 tk n i vs ws)
    (hd : dp + 5 < recursionLimit) (hu : un + 40 < cLine)
    (hS : ∀ h' tk', ws[i]? = some W → Fr h₀ L h' m → News h₀ L h' news → Q (.bool true) { s with heap := h', toks := tk' })
    (hN : ∀ h' tk', ws[i]? ≠ some W → Fr h₀ L h' m → News h₀ L h' news → Q (.bool false) { s with heap := h', toks := tk' }) :
    wpAny (model PySem.Challenge.rw_pb0250_01.row.prog w) (ktrTop dp un gd cn cs L a ccd cl outer) (call (.ref 142) [.ref x, .str W wt]) Q E s := by
  w_top off; revert X; k_fill; intro X
  have hR' := hR
  obtain ⟨hx, hdx, hl, hT, hi, hlen⟩ := hR'
  refine wpAny_call ?_
  k_dflt ktr_enter
  k_steps
  all_goals first
    | (refine hS _ _ ?_ (by assumption) (by first | assumption | exact news_tl (by assumption) | exact news_tl (news_tl (by assumption))); (refine' cl_eq ?h ?h2 ?e); (case h2 => assumption); (case h => assumption); (case e => rfl))
    | (refine hN _ _ ?_ (by assumption) (by first | assumption | exact news_tl (by assumption) | exact news_tl (news_tl (by assumption))); first | exact cl_none (by assumption) | ((refine' cl_ne ?h ?h2 ?e); (case h2 => assumption); (case h => assumption); (case e => rfl)))
end
end
local macro_rules | `(tactic| walk_at "call ref") => `(tactic| (k_here; (with_reducible show wpAny _ _ (call (Value.ref 106) [_, _]) _ _ _); k_dflt (refine' peek_c _ ?k1 ?k2 ?k3 ?k4 ?k5 ?k6 ?k7 ?k9 ?kA ?_ ?_; (case k1 => k_asm); (case k2 => k_asm); (case k3 => k_asm); (case k4 => k_asm); (case k5 => k_asm); (case k6 => first | exact rfl | assumption); (case k7 => first | ((repeat (first | assumption | apply RdIn.up)); done) | exact RdT.into (by assumption) (by first | assumption | omega) | exact RdIn.up (RdT.into (by assumption) (by first | assumption | omega)) | exact RdIn.up (RdIn.up (RdT.into (by assumption) (by first | assumption | omega)))); (case k9 => ktr_room); (case kA => ktr_units)); all_goals (first | (intro h' tk' b' d' q1' q2' q3' q4' q5' q6' ad' wd' hw' hm1' hm2' hwl' F' N'; (try k_sweep)) | (intro h' tk' hw' F' N'; first | k_dflt (exact (cl_abs hw' (by assumption)).elim) | (try k_sweep)))))
local macro_rules | `(tactic| walk_at "call ref") => `(tactic| (k_here; (with_reducible show wpAny _ _ (call (Value.ref 142) [_, _]) _ _ _); k_dflt (refine' is_word_c _ _ ?k0 ?kz ?k1 ?k2 ?k3 ?k4 ?k5 ?k6 ?k7 ?k9 ?kA ?_ ?_; (case k1 => k_asm); (case k2 => k_asm); (case k3 => k_asm); (case k4 => k_asm); (case k5 => k_asm); (case k6 => first | exact rfl | assumption); (case k7 => first | ((repeat (first | assumption | apply RdIn.up)); done) | exact RdT.into (by assumption) (by first | assumption | omega) | exact RdIn.up (RdT.into (by assumption) (by first | assumption | omega)) | exact RdIn.up (RdIn.up (RdT.into (by assumption) (by first | assumption | omega)))); (case k9 => ktr_room); (case kA => ktr_units); (case k0 => first | assumption | decide +kernel); (case kz => first | assumption | decide +kernel)); all_goals (intro h' tk' hw' F' N'; first | k_dflt (exact (hw' (by assumption)).elim) | k_dflt (exact ((by assumption : ¬ _) hw').elim) | (try k_sweep))))
section
section
variable {w : World} {p : Program} {loose : List Str} {mean : ExcName → Option Value} {mg mb : Str → Option Value} {dp un : Nat} {gd : Option (List Code)} {cn : Str} {cs : Scope} {a : Addr} {ccd : Value} {cl : List (Str × Addr)} {outer : List Env} {A₀ : Around} {base h₀ : Heap} {L : Addr} {m : Str → Option Value} {tl : List (Addr × Obj)} {s : Shared}
    {Q E : Value → Shared → Prop} {x dx ll nd : Addr} {t1 t2 t3 tk : Tok} {i : Nat} {vs : List Value} {ws : List Str} {n : Nat}
set_option maxRecDepth 100000 in
set_option maxHeartbeats 8000000 in
theorem skip_c (W : Str) (wt : Tok) (hsp : Txt.split W ⟨⟨[32]⟩⟩ = [W]) (hsz : W.length + 2 ≤ sizeLine) (X : (Mine.hd.heap_270 w.params).In h₀)
    (B : Below A₀ base outer h₀) (F : Fr h₀ L s.heap m) (N : News h₀ L s.heap ((dx, rdD w.params t1 t2 t3 ll nd i tk) :: tl)) (T : Top p loose mean mg mb h₀) (hk : cs.kind = .function)
    (hR : RdT w.params tl x dx ll n vs ws) (hi : i ≤ ws.length)
    (hd : dp + 10 < recursionLimit) (hu : un + 100 < cLine)
    (hS : ∀ h' tk' tq, ws[i]? = some W → Fr h₀ L h' m → News h₀ L h' ((dx, rdD w.params t1 t2 t3 ll nd (i + 1) tq) :: tl) → Q (.bool true) { s with heap := h', toks := tk' })
    (hN : ∀ h' tk', ws[i]? ≠ some W → Fr h₀ L h' m → News h₀ L h' ((dx, rdD w.params t1 t2 t3 ll nd i tk) :: tl) → Q (.bool false) { s with heap := h', toks := tk' }) :
    wpAny (model PySem.Challenge.rw_pb0250_01.row.prog w) (ktrTop dp un gd cn cs L a ccd cl outer) (call (.ref 149) [.ref x, .str W wt]) Q E s := by
  w_top off; revert X; k_fill; intro X
  have hR' := hR
  obtain ⟨hx, hl, hT, hof, hlen⟩ := hR'
  refine wpAny_call ?_
  k_dflt ktr_enter
  k_steps
  all_goals first
    | (refine hS _ _ _ ?_ (by assumption) (by first | assumption | exact news_tl (by assumption)); assumption)
    | (refine hN _ _ ?_ (by assumption) (by first | assumption | exact news_tl (by assumption)); assumption)
end
end
local macro_rules | `(tactic| walk_at "call ref") => `(tactic| (k_here; (with_reducible show wpAny _ _ (call (Value.ref 149) [_, _]) _ _ _); k_dflt (refine' skip_c _ _ ?k0 ?kz ?k1 ?k2 ?k3 ?k4 ?k5 ?k6 ?k7 ?k8 ?k9 ?kA ?_ ?_; (case k1 => k_asm); (case k2 => k_asm); (case k3 => k_asm); (case k4 => k_asm); (case k5 => k_asm); (case k6 => first | exact rfl | assumption); (case k7 => assumption); (case k8 => first | assumption | omega); (case k9 => ktr_room); (case kA => ktr_units); (case k0 => first | assumption | decide +kernel); (case kz => first | assumption | decide +kernel)); all_goals (first | (intro h' tk' tq' hw' F' N'; first | k_dflt (exact ((by assumption : ¬ _) hw').elim) | ((have hlt' := some_lt hw'); (try k_sweep))) | (intro h' tk' hw' F' N'; first | k_dflt (exact (hw' (by assumption)).elim) | (try k_sweep)))))
section
section
variable {w : World} {p : Program} {loose : List Str} {mean : ExcName → Option Value} {mg mb : Str → Option Value} {dp un : Nat} {gd : Option (List Code)} {cn : Str} {cs : Scope} {a : Addr} {ccd : Value} {cl : List (Str × Addr)} {outer : List Env} {A₀ : Around} {base h₀ : Heap} {L : Addr} {m : Str → Option Value} {tl : List (Addr × Obj)} {s : Shared}
    {Q E : Value → Shared → Prop} {x dx ll nd : Addr} {t1 t2 t3 tk : Tok} {i : Nat} {vs : List Value} {ws : List Str} {n : Nat}
set_option maxRecDepth 100000 in
set_option maxHeartbeats 8000000 in
theorem dir_c (X : (Mine.hd.heap_270 w.params).In h₀)
    (B : Below A₀ base outer h₀) (F : Fr h₀ L s.heap m) (N : News h₀ L s.heap ((dx, rdD w.params t1 t2 t3 ll nd i tk) :: tl)) (T : Top p loose mean mg mb h₀) (hk : cs.kind = .function)
    (hR : RdT w.params tl x dx ll n vs ws) (hi : i ≤ ws.length)
    (hd : dp + 15 < recursionLimit) (hu : un + 150 < cLine)
    (hS : ∀ h' tk' tq b j, dirF ws i = some (b, j) → j ≤ ws.length → Fr h₀ L h' m → News h₀ L h' ((dx, rdD w.params t1 t2 t3 ll nd j tq) :: tl) → Q (.bool b) { s with heap := h', toks := tk' })
    (hN : ∀ h' tk' tq, dirF ws i = none → Fr h₀ L h' m → News h₀ L h' ((dx, rdD w.params t1 t2 t3 ll nd i tq) :: tl) → Q .none { s with heap := h', toks := tk' }) :
    wpAny (model PySem.Challenge.rw_pb0250_01.row.prog w) (ktrTop dp un gd cn cs L a ccd cl outer) (call (.ref 28) [.ref x]) Q E s := by
  w_top off; revert X; k_fill; intro X
  have hR' := hR
  obtain ⟨hx, hl, hT, hof, hlen⟩ := hR'
  refine wpAny_call ?_
  k_dflt ktr_enter
  k_steps
  all_goals first
    | (refine hS _ _ _ _ _ ?_ ?_ (by assumption) (by first | assumption | exact news_tl (by assumption))
       · first
         | exact dirF_t (by first | exact skip_y (by assumption) | exact skip_n (by assumption)) (by first | exact skip_y (by assumption) | exact skip_n (by assumption)) (by assumption)
         | exact dirF_f (by first | exact skip_y (by assumption) | exact skip_n (by assumption)) (by first | exact skip_y (by assumption) | exact skip_n (by assumption)) (by assumption)
       · omega)
    | (refine hN _ _ _ ?_ (by assumption) (by first | assumption | exact news_tl (by assumption))
       exact dirF_n (by first | exact skip_y (by assumption) | exact skip_n (by assumption)) (by assumption) (by assumption))
end
end
section
section
variable {w : World} {p : Program} {loose : List Str} {mean : ExcName → Option Value} {mg mb : Str → Option Value} {dp un : Nat} {gd : Option (List Code)} {cn : Str} {cs : Scope} {a : Addr} {ccd : Value} {cl : List (Str × Addr)} {outer : List Env} {A₀ : Around} {base h₀ : Heap} {L : Addr} {m : Str → Option Value} {news : List (Addr × Obj)} {s : Shared}
    {Q E : Value → Shared → Prop} {x dx ll nd : Addr} {t1 t2 t3 tk : Tok} {i : Nat} {vs : List Value} {ws : List Str} {n : Nat}
local macro_rules | `(tactic| walk_at "eval Name") => `(tactic| (k_here; (with_reducible rename Fr _ _ _ _ => kF); with_unfolding_all refine guard_global (by rfl) ?_; k_dflt (refine' name_K kF ?k1 ?k2 (res_val _) ?_; (case k1 => k_asm); (case k2 => k_asm); k_whole)))
local macro_rules | `(tactic| walk_at "compareOp In str") => `(tactic| (k_dflt (refine PyProof.Rows.in_str ?_)))
set_option maxRecDepth 100000 in
set_option maxHeartbeats 8000000 in
theorem is_res_c (wd : Str) (wt : Tok) (hwl : wd.length ≤ 100) (X : (Mine.hd.heap_270 w.params).In h₀)
    (B : Below A₀ base outer h₀) (F : Fr h₀ L s.heap m) (N : News h₀ L s.heap news) (T : Top p loose mean mg mb h₀) (hk : cs.kind = .function)
    (hd : dp + 1 < recursionLimit) (hu : un + 10 < cLine)
    (hS : ∀ h' tk', Fr h₀ L h' m → News h₀ L h' news → Q (.bool (rsv w.params wd)) { s with heap := h', toks := tk' }) :
    wpAny (model PySem.Challenge.rw_pb0250_01.row.prog w) (ktrTop dp un gd cn cs L a ccd cl outer) (call (.ref 83) [.str wd wt]) Q E s := by
  w_top off; revert X; k_fill; intro X
  refine wpAny_call ?_
  k_dflt ktr_enter
  k_steps
  all_goals exact hS _ _ (by assumption) (by assumption)
end
end
local macro_rules | `(tactic| walk_at "call ref") => `(tactic| (k_here; k_dflt (show wpAny _ _ (call (Value.ref 83) [_]) _ _ _); k_dflt (refine' is_res_c _ _ ?k0 ?k1 ?k2 ?k3 ?k4 ?k5 ?k6 ?k9 ?kA ?_; (case k1 => k_asm); (case k2 => k_asm); (case k3 => k_asm); (case k4 => k_asm); (case k5 => k_asm); (case k6 => first | exact rfl | assumption); (case k9 => ktr_room); (case kA => ktr_units); (case k0 => assumption)); (intro h' tk' F' N'; (try k_sweep))))
section
section
variable {w : World} {p : Program} {loose : List Str} {mean : ExcName → Option Value} {mg mb : Str → Option Value} {dp un : Nat} {gd : Option (List Code)} {cn : Str} {cs : Scope} {a : Addr} {ccd : Value} {cl : List (Str × Addr)} {outer : List Env} {A₀ : Around} {base h₀ : Heap} {L : Addr} {m : Str → Option Value} {news tl : List (Addr × Obj)} {s : Shared}
    {Q E : Value → Shared → Prop} {x dx ll nd : Addr} {t1 t2 t3 tk : Tok} {i : Nat} {vs : List Value} {ws : List Str} {n : Nat}
set_option maxRecDepth 100000 in
set_option maxHeartbeats 8000000 in
theorem is_name_c (X : (Mine.hd.heap_270 w.params).In h₀)
    (B : Below A₀ base outer h₀) (F : Fr h₀ L s.heap m) (N : News h₀ L s.heap news) (T : Top p loose mean mg mb h₀) (hk : cs.kind = .function)
    (hR : RdIn w.params news x dx ll nd t1 t2 t3 tk n i vs ws)
    (hd : dp + 5 < recursionLimit) (hu : un + 40 < cLine)
    (hS : ∀ h' tk', nameF w.params ws i = true → Fr h₀ L h' m → News h₀ L h' news → Q (.bool true) { s with heap := h', toks := tk' })
    (hN : ∀ h' tk', nameF w.params ws i = false → Fr h₀ L h' m → News h₀ L h' news → Q (.bool false) { s with heap := h', toks := tk' }) :
    wpAny (model PySem.Challenge.rw_pb0250_01.row.prog w) (ktrTop dp un gd cn cs L a ccd cl outer) (call (.ref 178) [.ref x]) Q E s := by
  w_top off; revert X; k_fill; intro X
  have hR' := hR
  obtain ⟨hx, hdx, hl, hT, hi, hlen⟩ := hR'
  have hQ : ∀ b h' tk', nameF w.params ws i = b → Fr h₀ L h' m → News h₀ L h' news → Q (.bool b) { s with heap := h', toks := tk' } := fun b h' tk' e F N => by
    cases b
    · exact hN h' tk' e F N
    · exact hS h' tk' e F N
  clear hS hN
  refine wpAny_call ?_
  k_dflt ktr_enter
  k_steps
  all_goals first
    | exact hQ _ _ _ (nameF_s (by assumption)) (by assumption) (by assumption)
    | exact hQ _ _ _ (nameF_n (by assumption)) (by assumption) (by assumption)
end
end
local macro_rules | `(tactic| walk_at "call ref") => `(tactic| (k_here; k_dflt (show wpAny _ _ (call (Value.ref 178) [_]) _ _ _); k_dflt (refine' is_name_c ?k1 ?k2 ?k3 ?k4 ?k5 ?k6 ?k7 ?k9 ?kA ?_ ?_; (case k1 => k_asm); (case k2 => k_asm); (case k3 => k_asm); (case k4 => k_asm); (case k5 => k_asm); (case k6 => first | exact rfl | assumption); (case k7 => first | ((repeat (first | assumption | apply RdIn.up)); done) | exact RdT.into (by assumption) (by first | assumption | omega) | exact RdIn.up (RdT.into (by assumption) (by first | assumption | omega)) | exact RdIn.up (RdIn.up (RdT.into (by assumption) (by first | assumption | omega)))); (case k9 => ktr_room); (case kA => ktr_units)); all_goals (intro h' tk' hw' F' N'; first | k_dflt (exact (tf_abs hw' (by assumption)).elim) | k_dflt (exact (tf_abs (by assumption) hw').elim) | (try k_sweep))))
section
section
local macro_rules | `(tactic| walk_at "call builtin:len") => `(tactic| (k_here; (with_reducible show wpAny _ _ (call (Value.builtin "len") [Value.ref _]) _ _ _); k_dflt (refine' len_toks ?k1 ?k2 ?k3 ?k4 ?_; (case k1 => k_asm); (case k2 => k_mem); (case k3 => assumption); (case k4 => assumption); k_whole)))
local macro_rules | `(tactic| walk_at "subscriptTail") => `(tactic| (k_here; (with_reducible show wpAny _ _ (subscriptTail _ _ (Value.ref _) (Value.int _ _)) _ _ _); (with_unfolding_all refine' item_toks ?k1 ?k2 ?k3 ?k4 ?k5 ?k6 ?_ ?k7; (case k1 => k_asm); (case k2 => k_mem); (case k3 => assumption); (case k4 => assumption); (case k5 => omega); (case k6 => omega); (case k7 => with_unfolding_all rfl); k_whole); intro b' d' q1' q2' q3' q4' q5' q6' ad' wd' hw' hm1' hm2' hwl'))
variable {w : World} {p : Program} {loose : List Str} {mean : ExcName → Option Value} {mg mb : Str → Option Value} {dp un : Nat} {gd : Option (List Code)} {cn : Str} {cs : Scope} {a : Addr} {ccd : Value} {cl : List (Str × Addr)} {outer : List Env} {A₀ : Around} {base h₀ : Heap} {L : Addr} {m : Str → Option Value} {news tl : List (Addr × Obj)} {s : Shared}
    {Q E : Value → Shared → Prop} {x dx ll nd : Addr} {t1 t2 t3 tk : Tok} {i : Nat} {vs : List Value} {ws : List Str} {n : Nat}
set_option maxRecDepth 100000 in
set_option maxHeartbeats 8000000 in
theorem peek0_c (X : (Mine.hd.heap_270 w.params).In h₀)
    (B : Below A₀ base outer h₀) (F : Fr h₀ L s.heap m) (N : News h₀ L s.heap news) (T : Top p loose mean mg mb h₀) (hk : cs.kind = .function)
    (hR : RdIn w.params news x dx ll nd t1 t2 t3 tk n i vs ws)
    (hd : dp + 1 < recursionLimit) (hu : un + 10 < cLine)
    (hS : ∀ h' tk' b d t1' t2' t3' t4' t5' t6' ad wd, ws[i]? = some wd → (b, instObj 282 d) ∈ news → (d, tkD w.params t1' t2' t3' t4' t5' t6' ad wd) ∈ news → wd.length ≤ 100 → Fr h₀ L h' m → News h₀ L h' news → Q (.ref b) { s with heap := h', toks := tk' })
    (hN : ∀ h' tk', ws[i]? = none → Fr h₀ L h' m → News h₀ L h' news → Q .none { s with heap := h', toks := tk' }) :
    wpAny (model PySem.Challenge.rw_pb0250_01.row.prog w) (ktrTop dp un gd cn cs L a ccd cl outer) (call (.ref 106) [.ref x]) Q E s := by
  w_top off; revert X; k_fill; intro X
  have hR' := hR
  obtain ⟨hx, hdx, hl, hT, hi, hlen⟩ := hR'
  refine wpAny_call ?_
  k_dflt ktr_enter
  k_steps
  all_goals first
    | (refine hS _ _ _ _ _ _ _ _ _ _ _ _ ?_ (by assumption) (by assumption) (by assumption) (by assumption) (by assumption); rw [← (show ((i:Int)+0).toNat = i by omega)]; assumption)
    | (refine hN _ _ ?_ (by assumption) (by assumption); exact List.getElem?_eq_none (by omega))
local macro_rules | `(tactic| walk_at "call ref") => `(tactic| (k_here; k_dflt (show wpAny _ _ (call (Value.ref 106) [_]) _ _ _); k_dflt (refine' peek0_c ?k1 ?k2 ?k3 ?k4 ?k5 ?k6 ?k7 ?k9 ?kA ?_ ?_; (case k1 => k_asm); (case k2 => k_asm); (case k3 => k_asm); (case k4 => k_asm); (case k5 => k_asm); (case k6 => first | exact rfl | assumption); (case k7 => first | ((repeat (first | assumption | apply RdIn.up)); done) | exact RdT.into (by assumption) (by first | assumption | omega) | exact RdIn.up (RdT.into (by assumption) (by first | assumption | omega)) | exact RdIn.up (RdIn.up (RdT.into (by assumption) (by first | assumption | omega)))); (case k9 => ktr_room); (case kA => ktr_units)); all_goals (first | (intro h' tk' b' d' q1' q2' q3' q4' q5' q6' ad' wd' hw' hm1' hm2' hwl' F' N'; (try (replace hm1' := mem_inst hm1')); (try (replace hm2' := mem_tk hm2')); (try k_sweep)) | (intro h' tk' hw' F' N'; first | k_dflt (exact (cl_abs hw' (by assumption)).elim) | (try k_sweep)))))
set_option maxRecDepth 100000 in
set_option maxHeartbeats 8000000 in
theorem name_c (hr0 : nameF w.params ws i = true) (X : (Mine.hd.heap_270 w.params).In h₀)
    (B : Below A₀ base outer h₀) (F : Fr h₀ L s.heap m) (N : News h₀ L s.heap ((dx, rdD w.params t1 t2 t3 ll nd i tk) :: tl)) (T : Top p loose mean mg mb h₀) (hk : cs.kind = .function)
    (hR : RdT w.params tl x dx ll n vs ws) (hi : i ≤ ws.length)
    (hd : dp + 10 < recursionLimit) (hu : un + 100 < cLine)
    (hS : ∀ h' tk' tq t wd, ws[i]? = some wd → Fr h₀ L h' m → News h₀ L h' ((dx, rdD w.params t1 t2 t3 ll nd (i + 1) tq) :: tl) → Q (.str wd t) { s with heap := h', toks := tk' }) :
    wpAny (model PySem.Challenge.rw_pb0250_01.row.prog w) (ktrTop dp un gd cn cs L a ccd cl outer) (call (.ref 185) [.ref x]) Q E s := by
  w_top off; revert X; k_fill; intro X
  have hR' := hR
  obtain ⟨hx, hl, hT, hof, hlen⟩ := hR'
  obtain ⟨wd0, hw0⟩ : ∃ wd, ws[i]? = some wd := by
    cases q : ws[i]? with
    | none => rw [nameF_n q] at hr0; cases hr0
    | some wd => exact ⟨wd, rfl⟩
  have hlt0 := some_lt hw0
  refine wpAny_call ?_
  k_dflt ktr_enter
  k_steps
  all_goals first
    | exact hS _ _ _ _ _ (by assumption) (by assumption) (by assumption)
end
end
local macro_rules | `(tactic| walk_at "call ref") => `(tactic| (k_here; k_dflt (show wpAny _ _ (call (Value.ref 106) [_]) _ _ _); k_dflt (refine' peek0_c ?k1 ?k2 ?k3 ?k4 ?k5 ?k6 ?k7 ?k9 ?kA ?_ ?_; (case k1 => k_asm); (case k2 => k_asm); (case k3 => k_asm); (case k4 => k_asm); (case k5 => k_asm); (case k6 => first | exact rfl | assumption); (case k7 => first | ((repeat (first | assumption | apply RdIn.up)); done) | exact RdT.into (by assumption) (by first | assumption | omega) | exact RdIn.up (RdT.into (by assumption) (by first | assumption | omega)) | exact RdIn.up (RdIn.up (RdT.into (by assumption) (by first | assumption | omega)))); (case k9 => ktr_room); (case kA => ktr_units)); all_goals (first | (intro h' tk' b' d' q1' q2' q3' q4' q5' q6' ad' wd' hw' hm1' hm2' hwl' F' N'; (try (replace hm1' := mem_inst hm1')); (try (replace hm2' := mem_tk hm2')); (try k_sweep)) | (intro h' tk' hw' F' N'; first | k_dflt (exact (cl_abs hw' (by assumption)).elim) | (try k_sweep)))))
local macro_rules | `(tactic| walk_at "call ref") => `(tactic| (k_here; k_dflt (show wpAny _ _ (call (Value.ref 185) [_]) _ _ _); k_dflt (refine' name_c ?kn ?k1 ?k2 ?k3 ?k4 ?k5 ?k6 ?k7 ?k8 ?k9 ?kA ?_; (case k1 => k_asm); (case k2 => k_asm); (case k3 => k_asm); (case k4 => first | k_asm | exact news_sw (by k_asm)); (case k5 => k_asm); (case k6 => first | exact rfl | assumption); (case k7 => first | assumption | exact RdT.up (by assumption) (by k_ne)); (case k8 => first | assumption | omega); (case kn => assumption); (case k9 => ktr_room); (case kA => ktr_units)); (intro h' tk' tq' t' wd' hw' F' N'; (have hlt' := some_lt hw'); (try k_sweep))))
section
local macro_rules | `(tactic| walk_at "exec While") => `(tactic| ((rename Fr _ _ _ _ => lF'); (rename News _ _ _ _ => lN'); k_dflt (refine while_nm _ _ lF' lN' (StrsAre.cons _ _ StrsAre.nil) (namesF_cons (by assumption) (by assumption)) rfl (by assumption) ?_); clear lF' lN'; intro j' us' vals' k' tq' h' tk' hs' he' hj' hle' F' N'))
section
variable {w : World} {p : Program} {loose : List Str} {mean : ExcName → Option Value} {mg mb : Str → Option Value} {dp un : Nat} {gd : Option (List Code)} {cn : Str} {cs : Scope} {a : Addr} {ccd : Value} {cl : List (Str × Addr)} {outer : List Env} {A₀ : Around} {base h₀ : Heap} {L : Addr} {m : Str → Option Value} {news tl : List (Addr × Obj)} {s : Shared}
    {Q E : Value → Shared → Prop} {x dx ll nd : Addr} {t1 t2 t3 tk : Tok} {i : Nat} {vs : List Value} {ws : List Str} {n : Nat}
local macro_rules | `(tactic| walk_at "zz") => `(tactic| skip)
set_option maxRecDepth 100000 in
set_option maxHeartbeats 8000000 in
theorem names_c (hr0 : nameF w.params ws i = true) (X : (Mine.hd.heap_270 w.params).In h₀)
    (B : Below A₀ base outer h₀) (F : Fr h₀ L s.heap m) (N : News h₀ L s.heap ((dx, rdD w.params t1 t2 t3 ll nd i tk) :: tl)) (T : Top p loose mean mg mb h₀) (hk : cs.kind = .function)
    (hR : RdT w.params tl x dx ll n vs ws) (hi : i ≤ ws.length)
    (hd : dp + 20 < recursionLimit) (hu : un + 200 < cLine)
    (hS : ∀ h' tk' D vals k tq, StrsAre vals (namesF w.params ws i) → (∀ p ∈ tl, p.1 ≠ D) → dx ≠ D → i + (namesF w.params ws i).length ≤ ws.length → Fr h₀ L h' m → News h₀ L h' ((D, listOf vals.toArray k) :: (dx, rdD w.params t1 t2 t3 ll nd (i + (namesF w.params ws i).length) tq) :: tl) → Q (.ref D) { s with heap := h', toks := tk' }) :
    wpAny (model PySem.Challenge.rw_pb0250_01.row.prog w) (ktrTop dp un gd cn cs L a ccd cl outer) (call (.ref 192) [.ref x]) Q E s := by
  w_top off; revert X; k_fill; intro X
  have hR' := hR
  obtain ⟨hx, hl, hT, hof, hlen⟩ := hR'
  have hQ : ∀ h' tk' D vals k tq us j, namesF w.params ws i = us → j = i + us.length → j ≤ ws.length → StrsAre vals us → (∀ p ∈ tl, p.1 ≠ D) → dx ≠ D → Fr h₀ L h' m → News h₀ L h' ((D, listOf vals.toArray k) :: (dx, rdD w.params t1 t2 t3 ll nd j tq) :: tl) → Q (.ref D) { s with heap := h', toks := tk' } := by
    intro h' tk' D vals k tq us j e1 e2 e3 e4 e5 e6 F9 N9
    subst e1; subst e2
    exact hS h' tk' D vals k tq e4 e5 e6 e3 F9 N9
  clear hS
  refine wpAny_call ?_
  k_dflt ktr_enter
  k_steps
  all_goals first
    | exact nm_end (by assumption) (by assumption) (by assumption) (by assumption) (by assumption) (by assumption) (by assumption)
    | (refine' hQ _ _ _ _ _ _ _ _ ?a ?b ?c ?d ?e ?f ?g ?h; (case h => assumption); (case g => assumption); (case d => assumption); (case a => exact nm_done (by assumption) (by assumption)); (case b => assumption); (case c => assumption); (case e => k_all); (case f => k_ne))
end
end
local macro_rules | `(tactic| walk_at "call ref") => `(tactic| (k_here; k_dflt (show wpAny _ _ (call (Value.ref 28) [_]) _ _ _); k_dflt (refine' dir_c ?k1 ?k2 ?k3 ?k4 ?k5 ?k6 ?k7 ?k8 ?k9 ?kA ?_ ?_; (case k1 => k_asm); (case k2 => k_asm); (case k3 => k_asm); (case k4 => first | k_asm | exact news_sw (by k_asm) | exact news_sw3 (by k_asm)); (case k5 => k_asm); (case k6 => first | exact rfl | assumption); (case k7 => first | assumption | exact RdT.up (by assumption) (by k_ne) | exact RdT.up (RdT.up (by assumption) (by k_ne)) (by k_ne)); (case k8 => first | assumption | omega); (case k9 => ktr_room); (case kA => ktr_units)); all_goals (first | (intro h' tk' tq' b' j' hdr' hle' F' N'; first | k_dflt (exact (dir_abs (by assumption) hdr').elim) | (try k_sweep)) | (intro h' tk' tq' hdr' F' N'; first | k_dflt (exact absurd hdr' (by assumption)) | (try k_sweep)))))
local macro_rules | `(tactic| walk_at "call ref") => `(tactic| (k_here; k_dflt (show wpAny _ _ (call (Value.ref 192) [_]) _ _ _); k_dflt (refine' names_c ?kn ?k1 ?k2 ?k3 ?k4 ?k5 ?k6 ?k7 ?k8 ?k9 ?kA ?_; (case k1 => k_asm); (case k2 => k_asm); (case k3 => k_asm); (case k4 => first | k_asm | exact news_sw (by k_asm) | exact news_sw3 (by k_asm)); (case k5 => k_asm); (case k6 => first | exact rfl | assumption); (case k7 => first | assumption | exact RdT.up (by assumption) (by k_ne) | exact RdT.up (RdT.up (by assumption) (by k_ne)) (by k_ne)); (case k8 => first | assumption | omega); (case kn => assumption); (case k9 => ktr_room); (case kA => ktr_units)); (intro h' tk' D' vals' k' tq' hsa' hof' hne' hle' F' N'; (replace hne' := neN hne'); (try (obtain ⟨hofa', hof'⟩ := List.forall_mem_cons.mp hof'; replace hofa' := neN hofa'; dsimp only at hofa')); (try k_sweep))))
section
local macro_rules | `(tactic| walk_at "exec While Compare cons nil") => `(tactic| ((rename Fr _ _ _ _ => lF'); (rename News _ _ _ _ => lN'); k_dflt (refine' while_rk2 ?q1 ?q2 lF' ?q3 lN' ?q4 ?q5 ?q6 ?q7 ?_ ?_; (case q1 => assumption); (case q2 => assumption); (case q3 => exact rfl); (case q4 => k_all); (case q5 => first | exact headAt_s (by assumption) | exact headAt_n (by assumption)); (case q6 => first | assumption | omega); (case q7 => first | assumption | omega)); clear lF' lN'; all_goals (first | (intro i' b' j' vals' dn' rest' k' tq' tl' u' h' tk' hd' hn' hK' hsp' hR' hsub' hoD' hki' hle' F' N'; (have hx' := RdT.hx hR')) | (intro i' vals' k' tq' tl' u' h' tk' hR' hsub' hoD' hki' hle' F' N'; (have hx' := RdT.hx hR')))))
local macro_rules | `(tactic| walk_at "exec While Compare") => `(tactic| ((rename Fr _ _ _ _ => lF'); (rename News _ _ _ _ => lN'); k_dflt (refine' while_rk2 ?q1 ?q2 lF' ?q3 lN' ?q4 ?q5 ?q6 ?q7 ?_ ?_; (case q1 => assumption); (case q2 => assumption); (case q3 => exact rfl); (case q4 => k_all); (case q5 => first | exact headAt_s (by assumption) | exact headAt_n (by assumption)); (case q6 => first | assumption | omega); (case q7 => first | assumption | omega)); clear lF' lN'; all_goals (first | (intro i' b' j' vals' dn' rest' k' tq' tl' u' h' tk' hd' hn' hK' hsp' hR' hsub' hoD' hki' hle' F' N'; (have hx' := RdT.hx hR')) | (intro i' vals' k' tq' tl' u' h' tk' hR' hsub' hoD' hki' hle' F' N'; (have hx' := RdT.hx hR')))))
local macro_rules | `(tactic| walk_at "pyIter ref") => `(tactic| ((with_reducible show wpAny _ _ (pyIter (Value.ref _)) (fun it s₂ => LoopAtV _ _ _ _ _ _ _ _ _ it s₂) _ _); k_here; (rename Fr _ _ _ _ => lF'); (rename News _ _ _ _ => lN'); k_dflt (refine' for_rk ?q0 lF' lN' ?q1 ?q2 ?q3 ?q4 ?q5 ?q6 ?q7 ?q8 ?q9 ?qA ?_ ?_; (case q0 => rfl); (case q1 => assumption); (case q2 => exact fun _ h => h); (case q9 => assumption); (case q3 => k_all); (case q4 => exact RdT.off (by assumption)); (case q5 => k_all); (case q6 => k_ne); (case q7 => k_ne); (case q8 => k_ne); (case qA => exact len_of (by assumption) (by assumption))); clear lF' lN'; all_goals (first | (intro i' it' nm' t' vals' dn' k' tl' h' tk' ho1' ho2' ho3' hoI' hoD' hox' hki' hvl' F' N'; (replace ho1' := neN ho1'); (replace ho2' := neN ho2'); (replace ho3' := neN ho3')) | (intro vals' k' tl' u' h' tk' hsub' hoD' hox' hki' F' N'; (have hR' := RdT.mono (by assumption) hsub' hox'); (have hx' := RdT.hx hR')))))
local macro_rules | `(tactic| walk_at "truthy ref") => `(tactic| (k_here; k_dflt (refine' truthy_keys ?q1 ?q2 ?q3 ?q4 ?q5 ?_; (case q1 => k_asm); (case q2 => k_mem); (case q3 => assumption); (case q4 => assumption); (case q5 => assumption))))
local macro_rules | `(tactic| walk_at "call type:tuple") => `(tactic| (k_here; k_dflt (refine' tuple_keys ?q1 ?q2 ?q3 ?q4 ?q5 ?_; (case q1 => k_asm); (case q2 => k_asm); (case q3 => k_mem); (case q4 => assumption); (case q5 => assumption)); intro R' h' F' N' l1; (try k_lt l1); (try k_sweep)))
section
variable {w : World} {p : Program} {loose : List Str} {mean : ExcName → Option Value} {mg mb : Str → Option Value} {dp un : Nat} {gd : Option (List Code)} {cn : Str} {cs : Scope} {a : Addr} {ccd : Value} {cl : List (Str × Addr)} {outer : List Env} {A₀ : Around} {base h₀ : Heap} {L : Addr} {m : Str → Option Value} {news tl : List (Addr × Obj)} {s : Shared}
    {Q E : Value → Shared → Prop} {x dx ll nd : Addr} {t1 t2 t3 tk : Tok} {i : Nat} {vs : List Value} {ws : List Str} {n : Nat}
set_option maxRecDepth 100000 in
set_option maxHeartbeats 8000000 in
theorem read_keys_c {ks : List (Bool × Str)} {e : Nat} (hK : Keys w.params ws i ks e) (hne : ks ≠ []) (hkl : ks.length ≤ 1000) (X : (Mine.hd.heap_270 w.params).In h₀)
    (B : Below A₀ base outer h₀) (F : Fr h₀ L s.heap m) (N : News h₀ L s.heap ((dx, rdD w.params t1 t2 t3 ll nd i tk) :: tl)) (T : Top p loose mean mg mb h₀) (hk : cs.kind = .function)
    (hR : RdT w.params tl x dx ll n vs ws) (hi : i ≤ ws.length)
    (hd : dp + 30 < recursionLimit) (hu : un + 300 < cLine)
    (hS : ∀ h' tk' R vals tl' tq, KeysIn tl' vals ks → (∀ p ∈ tl, p ∈ tl') → RdT w.params tl' x dx ll n vs ws → (∀ p ∈ tl', p.1 ≠ R) → dx ≠ R → e ≤ ws.length → Fr h₀ L h' m → News h₀ L h' ((R, tupO vals 0) :: (dx, rdD w.params t1 t2 t3 ll nd e tq) :: tl') → Q (.ref R) { s with heap := h', toks := tk' }) :
    wpAny (model PySem.Challenge.rw_pb0250_01.row.prog w) (ktrTop dp un gd cn cs L a ccd cl outer) (call (.ref 35) [.ref x]) Q E s := by
  w_top off; revert X; k_fill; intro X
  have hof := hR.off
  have hx := hR.hx
  have hdn : dirF ws i ≠ none := fun q => hne (hK.inv_n q).1
  refine wpAny_call ?_
  k_dflt ktr_enter
  k_steps
  all_goals first
    | (refine' rk_end ?q1 ?q2 ?q3 ?q4 ?q5 ?q6 ?q7 ?q8 ?q9 ?qA ?qB ?qC ?qD; (case q1 => assumption); (case q2 => assumption); (case q3 => assumption); (case q4 => first | exact headAt_s (by assumption) | exact headAt_n (by assumption)); (case q5 => assumption); (case q6 => assumption); (case q7 => assumption); (case q8 => assumption); (case q9 => assumption); (case qA => assumption); (case qB => assumption); (case qC => assumption); (case qD => assumption))
    | exact rkfor_end (by assumption) (by assumption) (by k_ne) (by k_ne) (by k_ne) (by k_ne)
    | (refine' hS _ _ _ _ _ _ ?q1 ?q2 ?q3 ?q4 ?q5 ?q6 ?q7 ?q8; (case q8 => exact news_drop2 (by assumption)); (case q7 => assumption); (case q1 => assumption); (case q2 => assumption); (case q3 => assumption); (case q4 => k_all); (case q5 => k_ne); (case q6 => assumption))
end
end
local macro_rules | `(tactic| walk_at "call ref") => `(tactic| (k_here; k_dflt (show wpAny _ _ (call (Value.ref 35) [_]) _ _ _); k_dflt (refine' read_keys_c ?kK ?kn ?kl ?k1 ?k2 ?k3 ?k4 ?k5 ?k6 ?k7 ?k8 ?k9 ?kA ?_; (case kK => assumption); (case kn => assumption); (case kl => assumption); (case k1 => k_asm); (case k2 => k_asm); (case k3 => k_asm); (case k4 => exact news_sw3 (by k_asm)); (case k5 => k_asm); (case k6 => first | exact rfl | assumption); (case k7 => exact rdt_new (by assumption) (by assumption) (by k_ne) (by k_ne) (by k_ne) (by k_all)); (case k8 => exact Nat.zero_le _); (case k9 => ktr_room); (case kA => ktr_units)); (intro h' tk' R' vals' tl' tq' hki' hsb' hR' hoR' hne' hle' F' N'; (replace hne' := neN hne'); (have hT' := RdT.toks hR'); (have hl' := RdT.hl hR'); (have hx' := RdT.hx hR'); (have hln' := RdT.len hR'); (have hof' := RdT.off hR'); k_dflt (have hmu' := lr_mem hsb' (by assumption) (by assumption)); (try k_sweep))))
section
local macro_rules | `(tactic| walk_at "eval ListComp") => `(tactic| (k_here; k_dflt (refine LCg.ListComp_U (F₀ := by k_asm) (by rfl) (by decide) (by rfl) (by decide) (by rfl) ?_)))
local macro_rules | `(tactic| walk_at "call builtin:len") => `(tactic| (k_here; (with_reducible show wpAny _ _ (call (Value.builtin "len") [Value.ref _]) _ _ _); k_dflt (refine' len_toks ?k1 ?k2 ?k3 ?k4 ?_; (case k1 => k_asm); (case k2 => k_mem); (case k3 => assumption); (case k4 => assumption); k_whole)))
local macro_rules | `(tactic| walk_at "subscriptTail") => `(tactic| (k_here; (with_reducible show wpAny _ _ (subscriptTail _ _ (Value.ref _) (Value.int _ _)) _ _ _); (with_unfolding_all refine' item_toks ?k1 ?k2 ?k3 ?k4 ?k5 ?k6 ?_ ?k7; (case k1 => k_asm); (case k2 => k_mem); (case k3 => assumption); (case k4 => assumption); (case k5 => omega); (case k6 => omega); (case k7 => with_unfolding_all rfl); k_whole); intro b' d' q1' q2' q3' q4' q5' q6' ad' wd' hw' hm1' hm2' hwl'))
local macro_rules | `(tactic| walk_at "binaryOp Add ref ref") => `(tactic| (k_here; k_dflt (refine' add_strs ?q1 ?q2 ?q3 ?q4 ?q5 ?q6 ?q7 ?_; (case q1 => k_asm); (case q2 => k_asm); (case q3 => k_mem); (case q4 => k_mem); (case q5 => assumption); (case q6 => assumption); (case q7 => assumption)); intro D' h' F' N' l1 hst'; (try k_lt l1); (try k_sweep)))
local macro_rules | `(tactic| walk_at "CompSrc") => `(tactic| (k_here; k_dflt (refine' LCg.CompSrc.ledger ?q1 ?q2 ?q3 ?q4 ?q5 ?_; (case q1 => rfl); (case q2 => k_asm); (case q3 => k_asm); (case q4 => k_mem); (case q5 => exact size_strs (by assumption) (by assumption))); intro g'; k_dflt (refine' comp_tok ?p1 ?p2 ?p3 ?_ ?_; (case p1 => assumption); (case p2 => k_mem); (case p3 => assumption)); all_goals (first | (intro nm' t' ys' nx' I' oI' C' oC' D' m' h' tk' E' hnl' hC' hx' F' N' off' ne') | (intro ys' nx' hT' hsub'))))
local macro_rules | `(tactic| walk_at "call builtin:len") => `(tactic| (k_here; (with_reducible show wpAny _ _ (call (Value.builtin "len") [Value.ref _]) _ _ _); k_dflt (refine' len_strs ?k1 ?k2 ?k3 ?k4 ?_; (case k1 => k_asm); (case k2 => k_mem); (case k3 => assumption); (case k4 => assumption); k_whole)))
section
variable {w : World} {p : Program} {loose : List Str} {mean : ExcName → Option Value} {mg mb : Str → Option Value} {dp un : Nat} {gd : Option (List Code)} {cn : Str} {cs : Scope} {a : Addr} {ccd : Value} {cl : List (Str × Addr)} {outer : List Env} {A₀ : Around} {base h₀ : Heap} {L : Addr} {m : Str → Option Value} {news tl : List (Addr × Obj)} {s : Shared}
    {Q E : Value → Shared → Prop} {x dx ll nd : Addr} {t1 t2 t3 tk : Tok} {i : Nat} {vs : List Value} {ws : List Str} {n : Nat}
set_option maxRecDepth 100000 in
set_option maxHeartbeats 8000000 in
theorem law_read_c {us bs : List Str} {uv bv : List Value} {wl bl : Addr} {k1 k2 : Nat} {ks : List (Bool × Str)} (hsu : StrsAre uv us) (hsb : StrsAre bv bs) (hmb : (bl, listOf bv.toArray k2) ∈ news) (hmu : (wl, listOf uv.toArray k1) ∈ news) (hwl : ∀ u ∈ us ++ bs, u.length ≤ 100) (hlen : (us ++ bs).length ≤ 1000)
    (hlu : us.length ≤ 1000) (hK : Keys w.params (us ++ bs) 0 ks us.length) (hne : ks ≠ []) (hkl : ks.length ≤ 1000) (X : (Mine.hd.heap_270 w.params).In h₀)
    (B : Below A₀ base outer h₀) (F : Fr h₀ L s.heap m) (N : News h₀ L s.heap news) (T : Top p loose mean mg mb h₀) (hk : cs.kind = .function)
    (hd : dp + 40 < recursionLimit) (hu : un + 400 < cLine)
    (hS : ∀ h' tk' Y R vals tl' b ti, KeysIn tl' vals ks → (∀ p ∈ news, p ∈ tl') → b = true → Fr h₀ L h' m → News h₀ L h' ((Y, tupO [.ref R, .int (us.length : Int) ti, .bool b] 0) :: (R, tupO vals 0) :: tl') → Q (.ref Y) { s with heap := h', toks := tk' }) :
    wpAny (model PySem.Challenge.rw_pb0250_01.row.prog w) (ktrTop dp un gd cn cs L a ccd cl outer) (call (.ref 298) [.ref wl, .ref bl]) Q E s := by
  w_top off; revert X; k_fill; intro X
  refine wpAny_call ?_
  k_dflt ktr_enter
  have hend := hK.last
  k_steps
  all_goals first
    | exact tok_end (by assumption) (by assumption) (by k_ne) (by k_ne) (by k_ne) (by k_ne) (by k_ne) (by k_ne)
    | (refine' hS _ _ _ _ _ _ _ _ ?q1 ?q2 ?q3 ?q4 ?q5; (case q5 => first | exact news_d3 (by assumption) | exact news_d2 (by assumption)); (case q4 => assumption); (case q1 => assumption); (case q2 => exact fun p hp => lr_mem (by assumption) (by assumption) hp); (case q3 => first | assumption | exact decide_eq_true (by assumption) | simp))
end
end
section
section
variable {w : World} {p : Program} {loose : List Str} {mean : ExcName → Option Value} {mg mb : Str → Option Value} {dp un : Nat} {gd : Option (List Code)} {cn : Str} {cs : Scope} {a : Addr} {ccd : Value} {cl : List (Str × Addr)} {outer : List Env} {A₀ : Around} {base h₀ : Heap} {L : Addr} {m : Str → Option Value} {news tl : List (Addr × Obj)} {s : Shared}
    {Q E : Value → Shared → Prop} {x dx ll nd : Addr} {t1 t2 t3 tk : Tok} {i : Nat} {vs : List Value} {ws : List Str} {n : Nat}
set_option maxRecDepth 100000 in
set_option maxHeartbeats 8000000 in
theorem phrase_c {rw : Addr} {b : Bool} {nm : Str} {tn : Tok} {nn : Nat} {sd : Int} {ts : Tok} (hrw : (rw, tupO [.bool b, .str nm tn] nn) ∈ news) (hs0 : 0 ≤ sd) (hs1 : sd < 1000) (X : (Mine.hd.heap_270 w.params).In h₀)
    (B : Below A₀ base outer h₀) (F : Fr h₀ L s.heap m) (N : News h₀ L s.heap news) (T : Top p loose mean mg mb h₀) (hk : cs.kind = .function)
    (hd : dp + 5 < recursionLimit) (hu : un + 40 < cLine)
    (hS : ∀ h' tk' D vals k, StrsAre vals (phraseF b nm sd) → (∀ p ∈ news, p.1 ≠ D) → Fr h₀ L h' m → News h₀ L h' ((D, listOf vals.toArray k) :: news) → Q (.ref D) { s with heap := h', toks := tk' }) :
    wpAny (model PySem.Challenge.rw_pb0250_01.row.prog w) (ktrTop dp un gd cn cs L a ccd cl outer) (call (.ref 293) [.ref rw, .int sd ts]) Q E s := by
  w_top off; revert X; k_fill; intro X
  refine wpAny_call ?_
  k_dflt ktr_enter
  k_steps
  all_goals first
    | (refine' hS _ _ _ _ _ ?q1 ?q2 ?q3 ?q4; (case q4 => exact news_f4 (by assumption)); (case q3 => assumption); (case q2 => k_all); (case q1 => ((refine' phr ?r1 ?r2); (case r1 => (repeat' (first | exact StrsAre.nil | refine' StrsAre.cons _ _ ?_))); (case r2 => (unfold phraseF; (first | rw [if_pos (show Int.fmod sd 2 = 1 by assumption)] | rw [if_neg (show ¬ Int.fmod sd 2 = 1 by assumption)]); (first | rw [if_pos (show b = true by assumption)] | rw [if_neg (show ¬ b = true by rw [show b = false by assumption]; decide)]); (first | rw [if_pos (show Int.fmod (Int.fdiv sd 2) 2 = 1 by assumption)] | rw [if_neg (show ¬ Int.fmod (Int.fdiv sd 2) 2 = 1 by assumption)]); rfl)))))
end
end
section
section
variable {w : World} {p : Program} {loose : List Str} {mean : ExcName → Option Value} {mg mb : Str → Option Value} {dp un : Nat} {gd : Option (List Code)} {cn : Str} {cs : Scope} {a : Addr} {ccd : Value} {cl : List (Str × Addr)} {outer : List Env} {A₀ : Around} {base h₀ : Heap} {L : Addr} {m : Str → Option Value} {news tl : List (Addr × Obj)} {s : Shared}
    {Q E : Value → Shared → Prop} {x dx ll nd : Addr} {t1 t2 t3 tk : Tok} {i : Nat} {vs : List Value} {ws : List Str} {n : Nat}
local macro_rules | `(tactic| walk_at "zz") => `(tactic| skip)
theorem law_read_g {pa wl bl : Addr} {uv : List Value} {k1 : Nat} {nz : List (Addr × Obj)} {uss : List (List Str)} {ks : List (Bool × Str)} {bs : List Str} (hp : PtAt nz pa uss ks) (hb : BhAt news bl bs) (hsu : StrsAre uv uss.flatten) (hmu : (wl, listOf uv.toArray k1) ∈ news) (X : (Mine.hd.heap_270 w.params).In h₀)
    (B : Below A₀ base outer h₀) (F : Fr h₀ L s.heap m) (N : News h₀ L s.heap news) (T : Top p loose mean mg mb h₀) (hk : cs.kind = .function)
    (hd : dp + 40 < recursionLimit) (hu : un + 400 < cLine)
    (hS : ∀ h' tk' Y R vals tl' ti, KeysIn tl' vals ks → ks ≠ [] → ks.length ≤ 1000 → (∀ p ∈ news, p ∈ tl') → Fr h₀ L h' m → News h₀ L h' ((Y, tupO [.ref R, .int (uss.flatten.length : Int) ti, .bool true] 0) :: (R, tupO vals 0) :: tl') → Q (.ref Y) { s with heap := h', toks := tk' }) :
    wpAny (model PySem.Challenge.rw_pb0250_01.row.prog w) (ktrTop dp un gd cn cs L a ccd cl outer) (call (.ref 298) [.ref wl, .ref bl]) Q E s := by
  obtain ⟨_, _, _, _, _, hg⟩ := hp
  obtain ⟨bv, k2, hm, hsb, hbo⟩ := hb
  have G := hg w.params bs hbo
  exact law_read_c hsu hsb hm hmu G.wl G.len G.lu G.keys G.ne G.kl X B F N T hk hd hu (fun h' tk' Y R vals tl' b ti a1 a2 a3 F' N' => hS h' tk' Y R vals tl' ti a1 G.ne G.kl a2 F' (by subst a3; exact N'))
end
theorem in_sub {old t : List (Addr × Obj)} {x a b : Addr × Obj} (h : ∀ p ∈ old, p ∈ t) (hm : x ∈ old) : x ∈ a :: b :: t := .tail _ (.tail _ (h _ hm))
theorem push_app {l : List Value} {v : Value} : (l ++ [v]).toArray = l.toArray.push v := by simp
theorem law_end {h₀ h' : Heap} {L : Addr} {s₁ : Shared} {m₀ m' : Str → Option Value} {va vr vs : Value} {e I R Ds Dd P1 P2 : Addr} {oe oi ro : Obj} {dv sv pv1 pv2 : List Value} {us us' : List Str} {tl' big : List (Addr × Obj)} {Q : Flow → Shared → Prop} {k1 k2 kd ks tk' : Nat} {sa da : Array Value} {s₂ : Shared}
    (F' : Fr h₀ L h' m') (hm : m' = lawM m₀ (some va) (some vr) (some vs)) (N' : News h₀ L h' big) (b1 : (Ds, listOf sa ks) ∈ big) (b2 : (Dd, listOf da kd) ∈ big) (f1 : sa = sv.toArray.push (.ref P2)) (f2 : da = dv.toArray.push (.ref P1)) (b3 : (R, ro) ∈ big) (b4 : (P1, listOf pv1.toArray k1) ∈ big) (b5 : (P2, listOf pv2.toArray k2) ∈ big)
    (b6 : StrsAre pv1 us) (b7 : StrsAre pv2 us') (b8 : ∀ p ∈ tl', p ∈ big) (c1 : (e, oe) ∈ big) (c2 : (I, oi) ∈ big) (d1 : @Ne Nat P1 e) (d2 : @Ne Nat P1 I) (d3 : @Ne Nat P1 Ds) (d4 : @Ne Nat P1 Dd) (d5 : @Ne Nat P1 R) (e1 : @Ne Nat P2 e) (e2 : @Ne Nat P2 I) (e3 : @Ne Nat P2 Ds) (e4 : @Ne Nat P2 Dd) (e5 : @Ne Nat P2 R) (hst : s₂ = { s₁ with heap := h', toks := tk' }) :
    LawPost h₀ L s₁ m₀ e I R Ds Dd oe oi ro dv sv us us' tl' Q .next s₂ := by
  subst hst; subst hm; subst f1; subst f2
  refine ⟨h', tk', _, _, _, big, P1, P2, pv1, pv2, k1, k2, kd, ks, rfl, F', N', b1, b2, b3, b4, b5, b6, b7, b8, c1, c2, fun b hb => ?_⟩
  simp only [List.mem_cons, List.not_mem_nil, or_false] at hb
  rcases hb with rfl | rfl | rfl | rfl | rfl
  · exact ⟨d1, e1⟩
  · exact ⟨d2, e2⟩
  · exact ⟨d3, e3⟩
  · exact ⟨d4, e4⟩
  · exact ⟨d5, e5⟩
theorem for2_end {h₀ h' : Heap} {L : Addr} {s₁ : Shared} {m₀ m' : Str → Option Value} {vp vw : Value} {I : Addr} {oi : Obj} {T : Addr × Obj} {nz t2 : List (Addr × Obj)} {Q : Flow → Shared → Prop} {tk' : Nat} {s₂ : Shared}
    (F' : Fr h₀ L h' m') (hm : m' = lpM m₀ (some vp) (some vw)) (N' : News h₀ L h' t2) (hq : ∀ q ∈ (I, oi) :: T :: nz, q ∈ t2) (hst : s₂ = { s₁ with heap := h', toks := tk' }) : For2Post h₀ L s₁ m₀ I oi T nz Q .next s₂ := by
  subst hst; subst hm
  exact ⟨h', tk', _, _, t2, rfl, F', N', hq⟩
end
section
local macro_rules | `(tactic| k_ne) => `(tactic| first | assumption | exact Ne.symm (by assumption))
local macro_rules | `(tactic| k_mem) => `(tactic| ((repeat (first | exact List.mem_cons_self | refine List.mem_cons_of_mem _ ?_ | assumption)); done))
local macro_rules | `(tactic| walk_at "call ref") => `(tactic| (k_here; k_dflt (show wpAny _ _ (call (Value.ref 293) [_, _]) _ _ _); k_dflt (refine' phrase_c ?k0 ?kz ?ky ?k1 ?k2 ?k3 ?k4 ?k5 ?k6 ?k9 ?kA ?_; (case k1 => k_asm); (case k2 => k_asm); (case k3 => k_asm); (case k4 => k_asm); (case k5 => k_asm); (case k6 => first | exact rfl | assumption); (case k9 => first | exact Nat.le_of_ble_eq_true rfl | ktr_room); (case kA => first | exact Nat.le_of_ble_eq_true rfl | ktr_units); (case k0 => k_mem); (case kz => first | assumption | exact And.left (by assumption : SdOk _)); (case ky => first | assumption | exact And.right (by assumption : SdOk _))); (intro h' tk' D' vals' k' hsa' hof' F' N'; (repeat (obtain ⟨hofa', hof'⟩ := List.forall_mem_cons.mp hof'; replace hofa' := neN hofa'; (try dsimp only at hofa'))); (try dsimp only); (try k_sweep))))
local macro_rules | `(tactic| walk_at "call ref") => `(tactic| (k_here; k_dflt (show wpAny _ _ (call (Value.ref 298) [_, _]) _ _ _); k_dflt (refine' law_read_g ?k7 ?kb ?ku ?km ?k1 ?k2 ?k3 ?k4 ?k5 ?k6 ?k9 ?kA ?_; (case k3 => k_asm); (case k4 => k_asm); (case km => first | k_mem | exact List.mem_cons_of_mem _ (in_sub (by assumption) (by k_mem))); (case ku => assumption); (case k7 => assumption); (case kb => first | exact BhAt.mono (by assumption) (by intro p hp; repeat (first | exact hp | refine List.mem_cons_of_mem _ ?_)) | exact bh_at_giving (by k_mem) | exact bh_at_nil (by k_mem)); (case k1 => k_asm); (case k2 => k_asm); (case k5 => k_asm); (case k6 => first | exact rfl | assumption); (case k9 => first | exact Nat.le_of_ble_eq_true rfl | ktr_room); (case kA => first | exact Nat.le_of_ble_eq_true rfl | ktr_units)); (intro h' tk' Y' R' vals' tl' ti' hkv' hkn' hkl' hsub' F' N'; k_dflt (have hLw' := LawAt.mono (by assumption) (fun p hp => hsub' p (by repeat (first | exact hp | refine List.mem_cons_of_mem _ ?_)))); k_dflt (have hBh' := BhAt.mono (by assumption) (fun p hp => hsub' p (by repeat (first | exact hp | refine List.mem_cons_of_mem _ ?_)))); k_dflt (have hWd' := mem_first hsub'); (try dsimp only); (try k_sweep))))
local macro_rules | `(tactic| walk_at "eval ListComp") => `(tactic| (k_here; (with_reducible show wpAny _ _ (eval (PySem.Expr.ListComp (PySem.Expr.Tuple _ _ _) _ _ _) _) _ _ _); k_dflt (refine LCg.ListComp_U (F₀ := by k_asm) (by rfl) (by decide) (by rfl) (by decide) (by rfl) ?_)))
local macro_rules | `(tactic| walk_at "exec Assign cons ListComp") => `(tactic| (k_here; (with_reducible show wpAny _ _ (exec (Stmt.Assign _ (PySem.Expr.ListComp _ [_, _] _ _) _) _) _ _ _); k_dflt (refine comp2aw (F₀ := by k_asm) (by rfl) (by with_unfolding_all rfl) (by rfl) (by rfl) (by with_unfolding_all rfl) (by decide) (by rfl) (by decide) (by rfl) (by rfl) (by decide) (by decide) (by decide) ?_)))
local macro_rules | `(tactic| walk_at "C2SrcA") => `(tactic| (k_dflt (refine' c2_srcA ?F ?N ?P ?S ?_; (case F => k_asm); (case N => k_asm); (case P => assumption); (case S => intro p hp; (repeat (first | exact hp | refine List.mem_cons_of_mem _ ?_)))); intro D' ys' h' tk' hst' F' N' hof'; (repeat (obtain ⟨hofa', hof'⟩ := List.forall_mem_cons.mp hof'; replace hofa' := neN hofa'; (try dsimp only at hofa'))); (try dsimp only); (try k_sweep)))
local macro_rules | `(tactic| walk_at "CompSrc") => `(tactic| (k_here; k_dflt (refine' LCg.CompSrc.ledger ?q1 ?q2 ?q3 ?q4 ?q5 ?_; (case q1 => rfl); (case q2 => k_asm); (case q3 => k_asm); (case q4 => k_mem); (case q5 => exact size_ints (by assumption) (seeds_len2 _))); intro g'; k_dflt (refine' comp_rows ?p1 ?p2 ?p3 ?_ ?_; (case p1 => assumption); (case p2 => k_mem); (case p3 => exact seeds_ok _)); all_goals (first | (intro sd' t' ys' nx' I' oI' C' oC' D' m' h' tk' E' h0' h1' hC' hx' F' N' off' ne'; clear h0' h1') | (intro ys' nx' hK' hsub'))))
local macro_rules | `(tactic| walk_at "call type:tuple") => `(tactic| (k_here; k_dflt (refine' tuple_keys ?q1 ?q2 ?q3 ?q4 ?q5 ?_; (case q1 => k_asm); (case q2 => k_asm); (case q3 => k_mem); (case q4 => assumption); (case q5 => exact rows_len _)); intro R' h' F' N' l1; (try k_lt l1); (try dsimp only); (try k_sweep)))
local macro_rules | `(tactic| walk_at "subscriptTail") => `(tactic| (k_here; (with_reducible show wpAny _ _ (subscriptTail _ _ (Value.ref _) (Value.int (Int.fmod (Int.fdiv _ 8) 3) _)) _ _ _); k_dflt (refine' menu3 ?k1 ?k2 ?_ ?k7; (case k1 => k_asm); (case k2 => k_mem); (case k7 => with_unfolding_all rfl); k_whole); intro t'))
local macro_rules | `(tactic| walk_at "RowEnd") => `(tactic| exact row_end (by assumption) (by assumption) rfl (by k_ne) (by k_ne) (by k_ne))
local macro_rules | `(tactic| walk_at "exec For Tuple Call cons nil") => `(tactic| (k_here; (rename Fr _ _ _ _ => lF'); (with_unfolding_all refine' For_turns lF' ?_; k_whole)))
local macro_rules | `(tactic| walk_at "exec For Tuple Call") => `(tactic| (k_here; (rename Fr _ _ _ _ => lF'); (with_unfolding_all refine' For_turns lF' ?_; k_whole)))
local macro_rules | `(tactic| walk_at "exec For Name Tuple cons nil") => `(tactic| (k_here; (rename Fr _ _ _ _ => lF'); (with_unfolding_all refine' For_turns lF' ?_; k_whole)))
local macro_rules | `(tactic| walk_at "exec For Name Tuple") => `(tactic| (k_here; (rename Fr _ _ _ _ => lF'); (with_unfolding_all refine' For_turns lF' ?_; k_whole)))
local macro_rules | `(tactic| k_all) => `(tactic| exact allNe_lt (And.right (And.right (And.right (by assumption)))))
local macro_rules | `(tactic| walk_at "call type:enumerate") => `(tactic| (k_here; (with_reducible show wpAny _ _ (call (Value.type _) [Value.ref _]) (fun xv s₁ => wpAny _ _ (pyIter xv) (fun it s₂ => TurnsAt _ _ _ _ _ _ _ _ _ it s₂) _ s₁) _ _); (rename Fr _ _ _ _ => lF'); (rename News _ _ _ _ => lN'); k_dflt (refine' enum_law2 ?q0 lF' lN' ?q1 ?q2 ?qI ?q3 ?q4 ?q5 ?q6 ?q7 ?q8 ?q9 ?qA ?_ ?_; (case q0 => rfl); (case q1 => assumption); (case q2 => exact mem_first (by assumption)); (case qI => assumption); (case q3 => exact seeds_ok _); (case q4 => exact seeds_len2 _); (case q5 => k_all); (case q6 => k_all); (case q7 => k_all); (case q8 => k_ne); (case q9 => k_ne); (case qA => k_ne)); clear lF' lN'; all_goals (first | (intro e' I' oe' oi' i' dv' sv' kd' ks' tl' a' r' sm' T' t' sd' b' nm' rw' tn' nn' h' tk' hzs' hrow' hsd' hlt' hdl' hsl' hkk' hSS' hT' hrw' hnes' he' hI' hDs' hDd' hR' F' N'; (obtain ⟨ne1', ne2', ne3', ne4', ne5', ne6', ne7'⟩ := hnes')) | (intro a' r' sm' nz' h' tk' hLw' F' N'))))
local macro_rules | `(tactic| walk_at "subscriptTail") => `(tactic| (k_here; (with_reducible show wpAny _ _ (subscriptTail _ _ (Value.ref _) (Value.int (Nat.cast _) _)) _ _ _); k_dflt (refine' seed_item ?k1 ?k2 ?k3 ?k4 ?k5 ?_ ?k7; (case k1 => k_asm); (case k2 => k_mem); (case k3 => assumption); (case k4 => assumption); (case k5 => exact seeds_len2 _); (case k7 => with_unfolding_all rfl); k_whole); intro t'))
local macro_rules | `(tactic| walk_at "subscriptTail") => `(tactic| (k_here; (with_reducible show wpAny _ _ (subscriptTail _ _ (Value.ref _) (Value.int (HSub.hSub (Nat.cast _) _) _)) _ _ _); k_dflt (refine' row_item ?k1 ?k2 ?k3 ?k4 ?k5 ?k6 ?_ ?k7; (case k1 => k_asm); (case k2 => k_mem); (case k3 => assumption); (case k4 => exact rows_len _); (case k5 => omega); (case k6 => assumption); (case k7 => with_unfolding_all rfl); k_whole); intro ra' rb' rn' rt' rm' hrk' hra'))
local macro_rules | `(tactic| walk_at "subscriptTail") => `(tactic| (k_here; (with_reducible show wpAny _ _ (subscriptTail _ _ (Value.ref _) (Value.int 0 _)) _ _ _); k_dflt (refine' seed0 ?k1 ?k2 ?k3 ?k4 ?_ ?k7; (case k2 => assumption); (case k1 => k_asm); (case k3 => intro p hp; (repeat (first | exact hp | refine List.mem_cons_of_mem _ ?_))); (case k4 => exact seeds_len1 _); (case k7 => with_unfolding_all rfl); k_whole); intro z' t'))
local macro_rules | `(tactic| walk_at "subscriptTail") => `(tactic| (k_here; (with_reducible show wpAny _ _ (subscriptTail _ _ (Value.ref _) (Value.int (Int.fmod _ 4) _)) _ _ _); k_dflt (refine' behind4 ?k1 ?k2 ?k3 ?k4 ?k5 ?k6 ?_ ?k7; (case k1 => k_asm); (case k2 => k_mem); (case k3 => k_mem); (case k4 => k_mem); (case k5 => k_mem); (case k6 => k_mem); (case k7 => with_unfolding_all rfl); k_whole); intro bl' bs' nb' hsub' hBh' N'; k_dflt (have hLw' := LawAt.mono (by assumption) (fun p hp => hsub' p (by repeat (first | exact hp | refine List.mem_cons_of_mem _ ?_))))))
local macro_rules | `(tactic| walk_at "subscriptTail") => `(tactic| (k_here; (with_reducible show wpAny _ _ (subscriptTail _ _ (Value.ref _) (Value.int (-1) _)) _ _ _); k_dflt (refine' seedlast ?k1 ?k2 ?k3 ?_ ?k7; (case k2 => assumption); (case k1 => k_asm); (case k3 => intro p hp; (repeat (first | exact hp | refine List.mem_cons_of_mem _ ?_))); (case k7 => with_unfolding_all rfl); k_whole); intro t'))
local macro_rules | `(tactic| walk_at "call builtin:len") => `(tactic| (k_here; (with_reducible show wpAny _ _ (call (Value.builtin "len") [Value.ref _]) _ _ _); k_dflt (refine' len_strs ?k1 ?k2 ?k3 ?k4 ?_; (case k1 => k_asm); (case k2 => k_mem); (case k3 => assumption); (case k4 => exact PtAt.lu (by assumption)); k_whole)))
local macro_rules | `(tactic| walk_at "call builtin:len") => `(tactic| (k_here; (with_reducible show wpAny _ _ (call (Value.builtin "len") [Value.ref _]) _ _ _); k_dflt (refine' len_rows ?k1 ?k2 ?k3 ?_; (case k2 => assumption); (case k1 => k_asm); (case k3 => intro p hp; (repeat (first | exact hp | refine List.mem_cons_of_mem _ ?_))); k_whole); intro n' hn' hn3'))
local macro_rules | `(tactic| walk_at "pyIter ref") => `(tactic| (k_here; (with_reducible show wpAny _ _ (pyIter (Value.ref _)) (fun it s₂ => TurnsAt _ _ _ _ _ _ _ _ _ it s₂) _ _); (rename Fr _ _ _ _ => lF'); (rename News _ _ _ _ => lN'); k_dflt (refine' for2 ?q0 lF' lN' ?q1 ?q2 ?_ ?_; (case q0 => rfl); (case q1 => exact LawAt.dense (World.params ‹World›) (by assumption) (seeds_len1 _) (seeds_len _).2); (case q2 => exact LawAt.sparse (World.params ‹World›) (by assumption) (seeds_len1 _) (seeds_len _).2)); clear lF' lN'; all_goals (first | (intro a' uss' I' oi' p' wd' h' tk' hPt' F' N') | (intro p' wd' h' tk' F' N'))))
local macro_rules | `(tactic| walk_at "compareOp NotEq ref ref") => `(tactic| (k_here; k_dflt (refine' cmp3 ?k1 ?k2 ?k3 ?k4 ?k5 ?k6 ?k7 ?k8 ?k9 ?_; (case k1 => k_asm); (case k2 => k_mem); (case k3 => k_mem); (case k4 => k_mem); (case k5 => assumption); (case k6 => intro p hp; (repeat (first | exact hp | refine List.mem_cons_of_mem _ ?_))); (case k7 => assumption); (case k8 => intro p hp; (repeat (first | exact hp | refine List.mem_cons_of_mem _ ?_))); (case k9 => first | exact Nat.le_of_ble_eq_true rfl | ktr_units); k_whole)))
local macro_rules | `(tactic| walk_at "For2Post") => `(tactic| (refine' for2_end ?q1 ?q2 ?q3 ?q4 ?hst; (case q1 => assumption); (case q2 => exact lpM_2); (case q3 => assumption); (case q4 => intro q hq; exact List.mem_cons_of_mem _ (in_sub (by assumption) (List.mem_cons_of_mem _ hq))); (case hst => exact rfl)))
local macro_rules | `(tactic| walk_at "LawPost") => `(tactic| (refine' law_end ?q1 ?q2 ?q3 ?b1 ?b2 ?f1 ?f2 ?b3 ?b4 ?b5 ?b6 ?b7 ?b8 ?c1 ?c2 ?d1 ?d2 ?d3 ?d4 ?d5 ?e1 ?e2 ?e3 ?e4 ?e5 ?hst; (case q1 => assumption); (case q2 => exact lawM_3); (case q3 => assumption); (case b1 => k_mem); (case b2 => k_mem); (case f1 => first | exact rfl | exact push_app); (case f2 => first | exact rfl | exact push_app); (case b3 => k_mem); (case b4 => k_mem); (case b5 => k_mem); (case b6 => (refine phr_to ?_ (by assumption); assumption)); (case b7 => first | exact sp_to (spA (by assumption) (by assumption) (by assumption) (by assumption) (by assumption)) (StrsAre.cons _ _ StrsAre.nil) | exact sp_to (spB (by assumption) (by assumption) (by assumption) (by assumption)) (phr_to (by assumption) (by assumption)) | exact sp_to (spC (by assumption) (by assumption)) (phr_to (by assumption) (by assumption))); (case b8 => intro p hp; (repeat (first | exact hp | refine List.mem_cons_of_mem _ ?_))); (case c1 => k_mem); (case c2 => k_mem); (case hst => exact rfl); (case d1 => k_ne); (case d2 => k_ne); (case d3 => k_ne); (case d4 => k_ne); (case d5 => k_ne); (case e1 => k_ne); (case e2 => k_ne); (case e3 => k_ne); (case e4 => k_ne); (case e5 => k_ne)))
local macro_rules | `(tactic| walk_at "subscriptTail Name Slice ref ref") => `(tactic| (k_here; (with_reducible show wpAny _ _ (subscriptTail _ (PySem.Expr.Slice none _ none _) (Value.ref _) (Value.ref _)) _ _ _); k_dflt (refine' sl_to ?F ?N ?A ?B ?n ?m ?p ?q ?_ ?s ?t; (case A => assumption); (case F => k_asm); (case N => k_asm); (case B => intro p hp; (repeat (first | exact hp | refine List.mem_cons_of_mem _ ?_))); (case q => kmk_part); (case p => kmk_part); (case n => assumption); (case m => assumption); (case s => with_unfolding_all rfl); (case t => kmk_pure)); intro D' h' vv' F' N' hPt'; (try dsimp only); (try k_sweep)))
local macro_rules | `(tactic| walk_at "subscriptTail Name Slice ref ref") => `(tactic| (k_here; (with_reducible show wpAny _ _ (subscriptTail _ (PySem.Expr.Slice (some _) none none _) (Value.ref _) (Value.ref _)) _ _ _); k_dflt (refine' sl_from ?F ?N ?A ?B ?n ?m ?p ?q ?_ ?s ?t; (case A => assumption); (case F => k_asm); (case N => k_asm); (case B => intro p hp; (repeat (first | exact hp | refine List.mem_cons_of_mem _ ?_))); (case p => kmk_part); (case q => kmk_part); (case n => assumption); (case m => assumption); (case s => with_unfolding_all rfl); (case t => kmk_pure)); intro D' h' vv' F' N' hPt'; (try dsimp only); (try k_sweep)))
local macro_rules | `(tactic| walk_at "binaryOp Add ref ref") => `(tactic| (k_here; k_dflt (refine' add_rows ?F ?N ?q1 ?q2 ?q3 ?q4 ?q5 ?q6 ?q7 ?q8 ?q9 ?qA ?_; (case F => k_asm); (case N => k_asm); (case q1 => first | k_mem | exact in_sub (by assumption) (by k_mem)); (case q2 => k_mem); (case q3 => assumption); (case q4 => assumption); (case q5 => assumption); (case q6 => assumption); (case q7 => assumption); (case q8 => assumption); (case q9 => intro p hp; exact in_sub (by assumption) (by repeat (first | exact hp | refine List.mem_cons_of_mem _ ?_))); (case qA => intro p hp; (repeat (first | exact hp | refine List.mem_cons_of_mem _ ?_)))); intro D' h' vs' F' N' hks'; (try dsimp only); (try k_sweep)))
local macro_rules | `(tactic| walk_at "compareOp Eq ref ref") => `(tactic| (k_here; k_dflt (refine' cmp_rows ?k1 ?k2 ?k3 ?k4 ?k5 ?k6 ?k7 ?k8 ?_; (case k1 => k_asm); (case k2 => k_mem); (case k3 => assumption); (case k4 => exact cut_rows _ _); (case k5 => intro p hp; (repeat (first | exact hp | refine List.mem_cons_of_mem _ ?_))); (case k6 => assumption); (case k7 => intro p hp; (repeat (first | exact hp | refine List.mem_cons_of_mem _ ?_))); (case k8 => first | exact Nat.le_of_ble_eq_true rfl | ktr_units); k_whole)))
set_option maxRecDepth 100000 in
set_option maxHeartbeats 8000000 in
theorem law_holds : PySem.Challenge.rw_pb0250_01.Holds := Mine.hd (by rfl) (by rfl) (by rfl) (by 
  k_fill
  intro w s₀ s₁ mg mb G Y fa o pm cd doc dV kV ho hd hcd hD hmg hg args vals as Ly hpre hlay hrd hwl hlo
  have KX : (Mine.hd.heap_270 w.params).In s₁.heap := InK.keeps w _ _ (z_facts (fun _ => by kernel_rfl) Y).2.1 (Laid.keeps Ly)
  clear Y
  k_behind G ho hd hcd hD hmg hpre hlay hrd hwl hlo cd
  (all_goals try k_fold)
  (generalize hGd : GoodW _ _ _ _ s₁ = Gd)
  as_aux_lemma =>
    (k_steps; all_goals (subst hGd; k_steps)))
end
end Mine
set_option maxRecDepth 100000 in
set_option maxHeartbeats 8000000 in
theorem PySem.Challenge.cw_pb0250_01_holds : PySem.Challenge.rw_pb0250_01.Holds := by
  exact Mine.law_holds
