import PyProof.Rows.All
import Wide.All
import OpenK.AllK
import Wide.FinOn
import PySem.Challenge.RW_pq0621_01
open PySem PySem.W PyProof.Rows PySem.Calls
set_option Elab.async false
set_option maxRecDepth 100000
namespace Mine
abbrev rw : OpenLaw := PySem.Challenge.rw_pq0621_01
structure Fn where
  par : Arguments
  body : List Stmt
  scope : Scope
noncomputable def Fn.of : Option Stmt → Fn
  | some (.FunctionDef _ p b _ _ _ s _ _ _) => ⟨p, b, s⟩
  | _ => ⟨⟨[], [], none, [], [], none, []⟩, [], default⟩
noncomputable def f (i : Nat) : Fn := Fn.of (PySem.Challenge.pw_pq0621_01.main.body[i]?)
noncomputable def m (i j : Nat) : Fn := Fn.of (match PySem.Challenge.pw_pq0621_01.main.body[i]? with
  | some (.ClassDef _ _ _ b ..) => b[j]?
  | _ => none)
noncomputable def theR : Str := match PySem.Challenge.pw_pq0621_01.main.body[54]? with | some (Stmt.Assign _ (Expr.Constant (Const.str s) _ _) _) => s | _ => default
noncomputable def rN : List Nat :=
  32 :: 65 :: 67 :: 67 :: 69 :: 80 :: 84 :: 32 :: 65 :: 67 :: 67 :: 69 :: 83 :: 83 :: 32 :: 65 :: 68 :: 68 :: 32 :: 65 :: 68 :: 86 :: 65 :: 78 :: 67 :: 73 :: 78 :: 71 :: 32 :: 65 :: 70 :: 84 :: 69 :: 82 :: 32 :: 65 :: 76 :: 76 :: 32 :: 65 :: 76 :: 80 :: 72 :: 65 :: 66 :: 69 :: 84 :: 73 :: 67 :: 32 :: 65 :: 76 :: 80 :: 72 :: 65 :: 66 :: 69 :: 84 :: 73 :: 67 ::
  45 :: 76 :: 79 :: 87 :: 69 :: 82 :: 32 :: 65 :: 76 :: 80 :: 72 :: 65 :: 66 :: 69 :: 84 :: 73 :: 67 :: 45 :: 85 :: 80 :: 80 :: 69 :: 82 :: 32 :: 65 :: 76 :: 80 :: 72 :: 65 :: 78 :: 85 :: 77 :: 69 :: 82 :: 73 :: 67 :: 32 :: 65 :: 76 :: 80 :: 72 :: 65 :: 78 :: 85 :: 77 :: 69 :: 82 :: 73 :: 67 :: 45 :: 69 :: 68 :: 73 :: 84 :: 69 :: 68 :: 32 :: 65 :: 76 :: 83 ::
  79 :: 32 :: 65 :: 76 :: 84 :: 69 :: 82 :: 78 :: 65 :: 84 :: 69 :: 32 :: 65 :: 78 :: 68 :: 32 :: 65 :: 78 :: 89 :: 32 :: 65 :: 82 :: 69 :: 32 :: 65 :: 82 :: 69 :: 65 :: 32 :: 65 :: 82 :: 69 :: 65 :: 83 :: 32 :: 65 :: 83 :: 67 :: 69 :: 78 :: 68 :: 73 :: 78 :: 71 :: 32 :: 65 :: 83 :: 83 :: 73 :: 71 :: 78 :: 32 :: 65 :: 84 :: 32 :: 65 :: 85 :: 84 :: 72 :: 79 ::
  82 :: 32 :: 66 :: 69 :: 70 :: 79 :: 82 :: 69 :: 32 :: 66 :: 73 :: 78 :: 65 :: 82 :: 89 :: 32 :: 66 :: 76 :: 65 :: 78 :: 75 :: 32 :: 66 :: 76 :: 79 :: 67 :: 75 :: 32 :: 66 :: 89 :: 32 :: 67 :: 65 :: 76 :: 76 :: 32 :: 67 :: 72 :: 65 :: 82 :: 65 :: 67 :: 84 :: 69 :: 82 :: 32 :: 67 :: 72 :: 65 :: 82 :: 65 :: 67 :: 84 :: 69 :: 82 :: 83 :: 32 :: 67 :: 76 :: 79 ::
  83 :: 69 :: 32 :: 67 :: 79 :: 77 :: 80 :: 32 :: 67 :: 79 :: 77 :: 80 :: 45 :: 51 :: 32 :: 67 :: 79 :: 77 :: 80 :: 85 :: 84 :: 65 :: 84 :: 73 :: 79 :: 78 :: 65 :: 76 :: 32 :: 67 :: 79 :: 77 :: 80 :: 85 :: 84 :: 65 :: 84 :: 73 :: 79 :: 78 :: 65 :: 76 :: 45 :: 51 :: 32 :: 67 :: 79 :: 77 :: 80 :: 85 :: 84 :: 69 :: 32 :: 67 :: 79 :: 78 :: 70 :: 73 :: 71 :: 85 ::
  82 :: 65 :: 84 :: 73 :: 79 :: 78 :: 32 :: 67 :: 79 :: 78 :: 84 :: 65 :: 73 :: 78 :: 83 :: 32 :: 67 :: 79 :: 78 :: 84 :: 69 :: 78 :: 84 :: 32 :: 67 :: 79 :: 78 :: 84 :: 73 :: 78 :: 85 :: 69 :: 32 :: 67 :: 79 :: 78 :: 86 :: 69 :: 82 :: 84 :: 73 :: 78 :: 71 :: 32 :: 67 :: 79 :: 80 :: 89 :: 32 :: 67 :: 79 :: 82 :: 82 :: 32 :: 67 :: 79 :: 82 :: 82 :: 69 :: 83 ::
  80 :: 79 :: 78 :: 68 :: 73 :: 78 :: 71 :: 32 :: 67 :: 79 :: 85 :: 78 :: 84 :: 32 :: 68 :: 65 :: 84 :: 65 :: 32 :: 68 :: 65 :: 84 :: 69 :: 45 :: 67 :: 79 :: 77 :: 80 :: 73 :: 76 :: 69 :: 68 :: 32 :: 68 :: 65 :: 84 :: 69 :: 45 :: 87 :: 82 :: 73 :: 84 :: 84 :: 69 :: 78 :: 32 :: 68 :: 69 :: 76 :: 69 :: 84 :: 69 :: 32 :: 68 :: 69 :: 76 :: 73 :: 77 :: 73 :: 84 ::
  69 :: 68 :: 32 :: 68 :: 69 :: 76 :: 73 :: 77 :: 73 :: 84 :: 69 :: 82 :: 32 :: 68 :: 69 :: 80 :: 69 :: 78 :: 68 :: 73 :: 78 :: 71 :: 32 :: 68 :: 69 :: 83 :: 67 :: 69 :: 78 :: 68 :: 73 :: 78 :: 71 :: 32 :: 68 :: 73 :: 83 :: 80 :: 76 :: 65 :: 89 :: 32 :: 68 :: 73 :: 86 :: 73 :: 68 :: 69 :: 32 :: 68 :: 73 :: 86 :: 73 :: 83 :: 73 :: 79 :: 78 :: 32 :: 68 :: 79 ::
  87 :: 78 :: 32 :: 68 :: 85 :: 80 :: 76 :: 73 :: 67 :: 65 :: 84 :: 69 :: 83 :: 32 :: 68 :: 89 :: 78 :: 65 :: 77 :: 73 :: 67 :: 32 :: 69 :: 76 :: 83 :: 69 :: 32 :: 69 :: 78 :: 68 :: 32 :: 69 :: 78 :: 68 :: 45 :: 65 :: 68 :: 68 :: 32 :: 69 :: 78 :: 68 :: 45 :: 67 :: 65 :: 76 :: 76 :: 32 :: 69 :: 78 :: 68 :: 45 :: 67 :: 79 :: 77 :: 80 :: 85 :: 84 :: 69 :: 32 ::
  69 :: 78 :: 68 :: 45 :: 68 :: 69 :: 76 :: 69 :: 84 :: 69 :: 32 :: 69 :: 78 :: 68 :: 45 :: 68 :: 73 :: 86 :: 73 :: 68 :: 69 :: 32 :: 69 :: 78 :: 68 :: 45 :: 69 :: 86 :: 65 :: 76 :: 85 :: 65 :: 84 :: 69 :: 32 :: 69 :: 78 :: 68 :: 45 :: 73 :: 70 :: 32 :: 69 :: 78 :: 68 :: 45 :: 77 :: 85 :: 76 :: 84 :: 73 :: 80 :: 76 :: 89 :: 32 :: 69 :: 78 :: 68 :: 45 :: 80 ::
  69 :: 82 :: 70 :: 79 :: 82 :: 77 :: 32 :: 69 :: 78 :: 68 :: 45 :: 82 :: 69 :: 65 :: 68 :: 32 :: 69 :: 78 :: 68 :: 45 :: 82 :: 69 :: 84 :: 85 :: 82 :: 78 :: 32 :: 69 :: 78 :: 68 :: 45 :: 82 :: 69 :: 87 :: 82 :: 73 :: 84 :: 69 :: 32 :: 69 :: 78 :: 68 :: 45 :: 83 :: 69 :: 65 :: 82 :: 67 :: 72 :: 32 :: 69 :: 78 :: 68 :: 45 :: 83 :: 84 :: 65 :: 82 :: 84 :: 32 ::
  69 :: 78 :: 68 :: 45 :: 83 :: 84 :: 82 :: 73 :: 78 :: 71 :: 32 :: 69 :: 78 :: 68 :: 45 :: 83 :: 85 :: 66 :: 84 :: 82 :: 65 :: 67 :: 84 :: 32 :: 69 :: 78 :: 68 :: 45 :: 85 :: 78 :: 83 :: 84 :: 82 :: 73 :: 78 :: 71 :: 32 :: 69 :: 78 :: 68 :: 45 :: 87 :: 82 :: 73 :: 84 :: 69 :: 32 :: 69 :: 78 :: 86 :: 73 :: 82 :: 79 :: 78 :: 77 :: 69 :: 78 :: 84 :: 32 :: 69 ::
  81 :: 85 :: 65 :: 76 :: 32 :: 69 :: 82 :: 82 :: 79 :: 82 :: 32 :: 69 :: 86 :: 65 :: 76 :: 85 :: 65 :: 84 :: 69 :: 32 :: 69 :: 88 :: 67 :: 69 :: 80 :: 84 :: 73 :: 79 :: 78 :: 32 :: 69 :: 88 :: 73 :: 84 :: 32 :: 69 :: 88 :: 84 :: 69 :: 78 :: 68 :: 32 :: 69 :: 88 :: 84 :: 69 :: 82 :: 78 :: 65 :: 76 :: 32 :: 70 :: 65 :: 76 :: 83 :: 69 :: 32 :: 70 :: 68 :: 32 ::
  70 :: 73 :: 76 :: 69 :: 32 :: 70 :: 73 :: 76 :: 69 :: 45 :: 67 :: 79 :: 78 :: 84 :: 82 :: 79 :: 76 :: 32 :: 70 :: 73 :: 76 :: 76 :: 69 :: 82 :: 32 :: 70 :: 73 :: 82 :: 83 :: 84 :: 32 :: 70 :: 79 :: 82 :: 32 :: 70 :: 82 :: 79 :: 77 :: 32 :: 71 :: 73 :: 86 :: 73 :: 78 :: 71 :: 32 :: 71 :: 76 :: 79 :: 66 :: 65 :: 76 :: 32 :: 71 :: 79 :: 32 :: 71 :: 82 :: 69 ::
  65 :: 84 :: 69 :: 82 :: 32 :: 72 :: 73 :: 71 :: 72 :: 45 :: 86 :: 65 :: 76 :: 85 :: 69 :: 32 :: 72 :: 73 :: 71 :: 72 :: 45 :: 86 :: 65 :: 76 :: 85 :: 69 :: 83 :: 32 :: 73 :: 45 :: 79 :: 32 :: 73 :: 45 :: 79 :: 45 :: 67 :: 79 :: 78 :: 84 :: 82 :: 79 :: 76 :: 32 :: 73 :: 68 :: 69 :: 78 :: 84 :: 73 :: 70 :: 73 :: 67 :: 65 :: 84 :: 73 :: 79 :: 78 :: 32 :: 73 ::
  70 :: 32 :: 73 :: 78 :: 32 :: 73 :: 78 :: 68 :: 69 :: 88 :: 32 :: 73 :: 78 :: 68 :: 69 :: 88 :: 69 :: 68 :: 32 :: 73 :: 78 :: 73 :: 84 :: 73 :: 65 :: 76 :: 32 :: 73 :: 78 :: 73 :: 84 :: 73 :: 65 :: 76 :: 73 :: 90 :: 69 :: 32 :: 73 :: 78 :: 80 :: 85 :: 84 :: 32 :: 73 :: 78 :: 80 :: 85 :: 84 :: 45 :: 79 :: 85 :: 84 :: 80 :: 85 :: 84 :: 32 :: 73 :: 78 :: 83 ::
  80 :: 69 :: 67 :: 84 :: 32 :: 73 :: 78 :: 83 :: 84 :: 65 :: 76 :: 76 :: 65 :: 84 :: 73 :: 79 :: 78 :: 32 :: 73 :: 78 :: 84 :: 79 :: 32 :: 73 :: 78 :: 86 :: 65 :: 76 :: 73 :: 68 :: 32 :: 73 :: 83 :: 32 :: 74 :: 85 :: 83 :: 84 :: 32 :: 74 :: 85 :: 83 :: 84 :: 73 :: 70 :: 73 :: 69 :: 68 :: 32 :: 75 :: 69 :: 89 :: 32 :: 76 :: 65 :: 66 :: 69 :: 76 :: 32 :: 76 ::
  69 :: 65 :: 68 :: 73 :: 78 :: 71 :: 32 :: 76 :: 69 :: 70 :: 84 :: 32 :: 76 :: 69 :: 83 :: 83 :: 32 :: 76 :: 73 :: 78 :: 69 :: 32 :: 76 :: 73 :: 78 :: 69 :: 83 :: 32 :: 76 :: 73 :: 78 :: 75 :: 65 :: 71 :: 69 :: 32 :: 76 :: 79 :: 67 :: 75 :: 32 :: 76 :: 79 :: 87 :: 45 :: 86 :: 65 :: 76 :: 85 :: 69 :: 32 :: 76 :: 79 :: 87 :: 45 :: 86 :: 65 :: 76 :: 85 :: 69 ::
  83 :: 32 :: 77 :: 69 :: 82 :: 71 :: 69 :: 32 :: 77 :: 79 :: 68 :: 69 :: 32 :: 77 :: 79 :: 86 :: 69 :: 32 :: 77 :: 85 :: 76 :: 84 :: 73 :: 80 :: 76 :: 89 :: 32 :: 78 :: 65 :: 84 :: 73 :: 86 :: 69 :: 32 :: 78 :: 69 :: 71 :: 65 :: 84 :: 73 :: 86 :: 69 :: 32 :: 78 :: 69 :: 88 :: 84 :: 32 :: 78 :: 79 :: 32 :: 78 :: 79 :: 84 :: 32 :: 78 :: 85 :: 77 :: 69 :: 82 ::
  73 :: 67 :: 32 :: 78 :: 85 :: 77 :: 69 :: 82 :: 73 :: 67 :: 45 :: 69 :: 68 :: 73 :: 84 :: 69 :: 68 :: 32 :: 79 :: 66 :: 74 :: 69 :: 67 :: 84 :: 45 :: 67 :: 79 :: 77 :: 80 :: 85 :: 84 :: 69 :: 82 :: 32 :: 79 :: 67 :: 67 :: 85 :: 82 :: 83 :: 32 :: 79 :: 70 :: 32 :: 79 :: 70 :: 70 :: 32 :: 79 :: 77 :: 73 :: 84 :: 84 :: 69 :: 68 :: 32 :: 79 :: 78 :: 32 :: 79 ::
  80 :: 69 :: 78 :: 32 :: 79 :: 80 :: 84 :: 73 :: 79 :: 78 :: 65 :: 76 :: 32 :: 79 :: 82 :: 32 :: 79 :: 82 :: 68 :: 69 :: 82 :: 32 :: 79 :: 82 :: 71 :: 65 :: 78 :: 73 :: 90 :: 65 :: 84 :: 73 :: 79 :: 78 :: 32 :: 79 :: 84 :: 72 :: 69 :: 82 :: 32 :: 79 :: 85 :: 84 :: 80 :: 85 :: 84 :: 32 :: 79 :: 86 :: 69 :: 82 :: 70 :: 76 :: 79 :: 87 :: 32 :: 80 :: 65 :: 67 ::
  75 :: 69 :: 68 :: 45 :: 68 :: 69 :: 67 :: 73 :: 77 :: 65 :: 76 :: 32 :: 80 :: 69 :: 82 :: 70 :: 79 :: 82 :: 77 :: 32 :: 80 :: 73 :: 67 :: 32 :: 80 :: 73 :: 67 :: 84 :: 85 :: 82 :: 69 :: 32 :: 80 :: 79 :: 73 :: 78 :: 84 :: 69 :: 82 :: 32 :: 80 :: 79 :: 83 :: 73 :: 84 :: 73 :: 86 :: 69 :: 32 :: 80 :: 82 :: 79 :: 67 :: 69 :: 68 :: 85 :: 82 :: 69 :: 32 :: 80 ::
  82 :: 79 :: 67 :: 69 :: 69 :: 68 :: 32 :: 80 :: 82 :: 79 :: 71 :: 82 :: 65 :: 77 :: 32 :: 80 :: 82 :: 79 :: 71 :: 82 :: 65 :: 77 :: 45 :: 73 :: 68 :: 32 :: 81 :: 85 :: 79 :: 84 :: 69 :: 32 :: 81 :: 85 :: 79 :: 84 :: 69 :: 83 :: 32 :: 82 :: 65 :: 78 :: 68 :: 79 :: 77 :: 32 :: 82 :: 69 :: 65 :: 68 :: 32 :: 82 :: 69 :: 67 :: 79 :: 82 :: 68 :: 32 :: 82 :: 69 ::
  67 :: 79 :: 82 :: 68 :: 83 :: 32 :: 82 :: 69 :: 68 :: 69 :: 70 :: 73 :: 78 :: 69 :: 83 :: 32 :: 82 :: 69 :: 70 :: 69 :: 82 :: 69 :: 78 :: 67 :: 69 :: 32 :: 82 :: 69 :: 76 :: 65 :: 84 :: 73 :: 86 :: 69 :: 32 :: 82 :: 69 :: 76 :: 69 :: 65 :: 83 :: 69 :: 32 :: 82 :: 69 :: 77 :: 65 :: 73 :: 78 :: 68 :: 69 :: 82 :: 32 :: 82 :: 69 :: 78 :: 65 :: 77 :: 69 :: 83 ::
  32 :: 82 :: 69 :: 80 :: 76 :: 65 :: 67 :: 69 :: 32 :: 82 :: 69 :: 80 :: 76 :: 65 :: 67 :: 73 :: 78 :: 71 :: 32 :: 82 :: 69 :: 84 :: 85 :: 82 :: 78 :: 32 :: 82 :: 69 :: 87 :: 82 :: 73 :: 84 :: 69 :: 32 :: 82 :: 73 :: 71 :: 72 :: 84 :: 32 :: 82 :: 79 :: 85 :: 78 :: 68 :: 69 :: 68 :: 32 :: 82 :: 85 :: 78 :: 32 :: 83 :: 65 :: 77 :: 69 :: 32 :: 83 :: 68 :: 32 ::
  83 :: 69 :: 65 :: 82 :: 67 :: 72 :: 32 :: 83 :: 69 :: 67 :: 84 :: 73 :: 79 :: 78 :: 32 :: 83 :: 69 :: 67 :: 85 :: 82 :: 73 :: 84 :: 89 :: 32 :: 83 :: 69 :: 76 :: 69 :: 67 :: 84 :: 32 :: 83 :: 69 :: 78 :: 84 :: 69 :: 78 :: 67 :: 69 :: 32 :: 83 :: 69 :: 80 :: 65 :: 82 :: 65 :: 84 :: 69 :: 32 :: 83 :: 69 :: 81 :: 85 :: 69 :: 78 :: 84 :: 73 :: 65 :: 76 :: 32 ::
  83 :: 69 :: 84 :: 32 :: 83 :: 73 :: 71 :: 78 :: 32 :: 83 :: 73 :: 90 :: 69 :: 32 :: 83 :: 79 :: 82 :: 84 :: 32 :: 83 :: 79 :: 82 :: 84 :: 45 :: 77 :: 69 :: 82 :: 71 :: 69 :: 32 :: 83 :: 79 :: 85 :: 82 :: 67 :: 69 :: 45 :: 67 :: 79 :: 77 :: 80 :: 85 :: 84 :: 69 :: 82 :: 32 :: 83 :: 80 :: 65 :: 67 :: 69 :: 32 :: 83 :: 80 :: 65 :: 67 :: 69 :: 83 :: 32 :: 83 ::
  80 :: 69 :: 67 :: 73 :: 65 :: 76 :: 45 :: 78 :: 65 :: 77 :: 69 :: 83 :: 32 :: 83 :: 84 :: 65 :: 78 :: 68 :: 65 :: 82 :: 68 :: 32 :: 83 :: 84 :: 65 :: 82 :: 84 :: 32 :: 83 :: 84 :: 65 :: 84 :: 85 :: 83 :: 32 :: 83 :: 84 :: 79 :: 80 :: 32 :: 83 :: 84 :: 82 :: 73 :: 78 :: 71 :: 32 :: 83 :: 85 :: 66 :: 84 :: 82 :: 65 :: 67 :: 84 :: 32 :: 83 :: 89 :: 78 :: 67 ::
  32 :: 83 :: 89 :: 78 :: 67 :: 72 :: 82 :: 79 :: 78 :: 73 :: 90 :: 69 :: 68 :: 32 :: 84 :: 65 :: 76 :: 76 :: 89 :: 73 :: 78 :: 71 :: 32 :: 84 :: 69 :: 83 :: 84 :: 32 :: 84 :: 72 :: 65 :: 78 :: 32 :: 84 :: 72 :: 69 :: 78 :: 32 :: 84 :: 72 :: 82 :: 79 :: 85 :: 71 :: 72 :: 32 :: 84 :: 72 :: 82 :: 85 :: 32 :: 84 :: 73 :: 77 :: 69 :: 83 :: 32 :: 84 :: 79 :: 32 ::
  84 :: 82 :: 65 :: 73 :: 76 :: 73 :: 78 :: 71 :: 32 :: 84 :: 82 :: 85 :: 69 :: 32 :: 85 :: 78 :: 83 :: 84 :: 82 :: 73 :: 78 :: 71 :: 32 :: 85 :: 78 :: 84 :: 73 :: 76 :: 32 :: 85 :: 80 :: 32 :: 85 :: 80 :: 79 :: 78 :: 32 :: 85 :: 83 :: 65 :: 71 :: 69 :: 32 :: 85 :: 83 :: 73 :: 78 :: 71 :: 32 :: 86 :: 65 :: 76 :: 85 :: 69 :: 32 :: 86 :: 65 :: 76 :: 85 :: 69 ::
  83 :: 32 :: 86 :: 65 :: 82 :: 89 :: 73 :: 78 :: 71 :: 32 :: 87 :: 72 :: 69 :: 78 :: 32 :: 87 :: 73 :: 84 :: 72 :: 32 :: 87 :: 79 :: 82 :: 75 :: 73 :: 78 :: 71 :: 45 :: 83 :: 84 :: 79 :: 82 :: 65 :: 71 :: 69 :: 32 :: 87 :: 82 :: 73 :: 84 :: 69 :: 32 :: 90 :: 69 :: 82 :: 79 :: 32 :: 90 :: 69 :: 82 :: 79 :: 69 :: 83 :: 32 :: 90 :: 69 :: 82 :: 79 :: 83 :: 32 :: []
theorem rN_lit : theR = Str.ofString (String.ofList (rN.map Char.ofNat)) := by kernel_rfl
theorem rN_back : (rN.map Char.ofNat).map Char.toNat = rN := by kernel_rfl
theorem theR_is : theR = ⟨rN.toArray⟩ := by rw [rN_lit, PySem.W.Fast.ofString_ofList, rN_back]
theorem theR_codes : theR.cps.toList = rN := by rw [theR_is]
noncomputable def K (P : Params) : Frag :=
  (nat_lit 2, ⟨.none, none, .dict #[⟨PyData.keyHash P (Str.ofString "type.__subclasses__.Exception.0"), (.str (Str.ofString "type.__subclasses__.Exception.0") 232), (.int (47) 0)⟩, ⟨PyData.keyHash P (Str.ofString "type.__subclasses__.Exception.n"), (.str (Str.ofString "type.__subclasses__.Exception.n") 233), (.int (1) 0)⟩] 2, #[]⟩) ::
   (nat_lit 3, ⟨(.type "dict"), none, .dict #[⟨PyData.keyHash P (Str.ofString "__name__"), (.str (Str.ofString "__name__") 165), (.str (Str.ofString "law_pq0621_01") 935)⟩, ⟨PyData.keyHash P (Str.ofString "__doc__"), (.str (Str.ofString "__doc__") 166), .none⟩, ⟨PyData.keyHash P (Str.ofString "__package__"), (.str (Str.ofString "__package__") 167), .none⟩, ⟨PyData.keyHash P (Str.ofString "__loader__"), (.str (Str.ofString "__loader__") 168), (.builtin "__main__.__loader__#opaque")⟩, ⟨PyData.keyHash P (Str.ofString "__spec__"), (.str (Str.ofString "__spec__") 169), .none⟩, ⟨PyData.keyHash P (Str.ofString "__annotations__"), (.str (Str.ofString "__annotations__") 170), (.ref 6)⟩, ⟨PyData.keyHash P (Str.ofString "__builtins__"), (.str (Str.ofString "__builtins__") 171), (.ref 4)⟩, ⟨PyData.keyHash P (Str.ofString "__file__"), (.str (Str.ofString "__file__") 173), (.str (Str.ofString "/claim/cut.py") 172)⟩, ⟨PyData.keyHash P (Str.ofString "__cached__"), (.str (Str.ofString "__cached__") 174), .none⟩, ⟨PyData.keyHash P (Str.ofString "_wall"), (.str (Str.ofString "_wall") 193), (.ref 21)⟩, ⟨PyData.keyHash P (Str.ofString "LedgerError"), (.str (Str.ofString "LedgerError") 235), (.ref 47)⟩, ⟨PyData.keyHash P (Str.ofString "TokenFault"), (.str (Str.ofString "TokenFault") 251), (.ref 60)⟩, ⟨PyData.keyHash P (Str.ofString "GrammarFault"), (.str (Str.ofString "GrammarFault") 267), (.ref 72)⟩, ⟨PyData.keyHash P (Str.ofString "FIGURES"), (.str (Str.ofString "FIGURES") 271), (.str (Str.ofString "0123456789") 270)⟩, ⟨PyData.keyHash P (Str.ofString "cut_quotient"), (.str (Str.ofString "cut_quotient") 279), (.ref 81)⟩, ⟨PyData.keyHash P (Str.ofString "decimal"), (.str (Str.ofString "decimal") 288), (.ref 89)⟩, ⟨PyData.keyHash P (Str.ofString "negated"), (.str (Str.ofString "negated") 295), (.ref 96)⟩, ⟨PyData.keyHash P (Str.ofString "units_at"), (.str (Str.ofString "units_at") 306), (.ref 103)⟩, ⟨PyData.keyHash P (Str.ofString "is_whole"), (.str (Str.ofString "is_whole") 313), (.ref 110)⟩, ⟨PyData.keyHash P (Str.ofString "whole_of"), (.str (Str.ofString "whole_of") 320), (.ref 117)⟩, ⟨PyData.keyHash P (Str.ofString "worth_of"), (.str (Str.ofString "worth_of") 329), (.ref 124)⟩, ⟨PyData.keyHash P (Str.ofString "read_decimal"), (.str (Str.ofString "read_decimal") 342), (.ref 131)⟩, ⟨PyData.keyHash P (Str.ofString "MOST_SUBSCRIPTS"), (.str (Str.ofString "MOST_SUBSCRIPTS") 346), (.int (7) 345)⟩, ⟨PyData.keyHash P (Str.ofString "FIGURE_NAMES"), (.str (Str.ofString "FIGURE_NAMES") 380), (.ref 132)⟩, ⟨PyData.keyHash P (Str.ofString "is_part_next"), (.str (Str.ofString "is_part_next") 389), (.ref 139)⟩, ⟨PyData.keyHash P (Str.ofString "read_subscripts"), (.str (Str.ofString "read_subscripts") 398), (.ref 146)⟩, ⟨PyData.keyHash P (Str.ofString "read_part"), (.str (Str.ofString "read_part") 408), (.ref 153)⟩, ⟨PyData.keyHash P (Str.ofString "read_ref"), (.str (Str.ofString "read_ref") 420), (.ref 160)⟩, ⟨PyData.keyHash P (Str.ofString "read_all"), (.str (Str.ofString "read_all") 428), (.ref 167)⟩, ⟨PyData.keyHash P (Str.ofString "read_figure"), (.str (Str.ofString "read_figure") 435), (.ref 174)⟩, ⟨PyData.keyHash P (Str.ofString "read_operand"), (.str (Str.ofString "read_operand") 444), (.ref 181)⟩, ⟨PyData.keyHash P (Str.ofString "MOST_DEEP"), (.str (Str.ofString "MOST_DEEP") 448), (.int (20) 447)⟩, ⟨PyData.keyHash P (Str.ofString "read_expression"), (.str (Str.ofString "read_expression") 455), (.ref 188)⟩, ⟨PyData.keyHash P (Str.ofString "sign_among"), (.str (Str.ofString "sign_among") 464), (.ref 195)⟩, ⟨PyData.keyHash P (Str.ofString "read_sum"), (.str (Str.ofString "read_sum") 474), (.ref 202)⟩, ⟨PyData.keyHash P (Str.ofString "read_product"), (.str (Str.ofString "read_product") 484), (.ref 209)⟩, ⟨PyData.keyHash P (Str.ofString "read_factor"), (.str (Str.ofString "read_factor") 495), (.ref 216)⟩, ⟨PyData.keyHash P (Str.ofString "is_lone_number"), (.str (Str.ofString "is_lone_number") 504), (.ref 223)⟩, ⟨PyData.keyHash P (Str.ofString "read_power"), (.str (Str.ofString "read_power") 513), (.ref 230)⟩, ⟨PyData.keyHash P (Str.ofString "read_primary"), (.str (Str.ofString "read_primary") 523), (.ref 237)⟩, ⟨PyData.keyHash P (Str.ofString "FIGURE_WORDS"), (.str (Str.ofString "FIGURE_WORDS") 527), (.str (Str.ofString " ZERO ZEROS ZEROES SPACE SPACES HIGH-VALUE HIGH-VALUES LOW-VALUE LOW-VALUES QUOTE QUOTES ALL ") 526)⟩, ⟨PyData.keyHash P (Str.ofString "word_ahead"), (.str (Str.ofString "word_ahead") 537), (.ref 244)⟩, ⟨PyData.keyHash P (Str.ofString "phrase_words"), (.str (Str.ofString "phrase_words") 544), (.ref 251)⟩, ⟨PyData.keyHash P (Str.ofString "opening_length"), (.str (Str.ofString "opening_length") 558), (.ref 258)⟩, ⟨PyData.keyHash P (Str.ofString "body_here"), (.str (Str.ofString "body_here") 567), (.ref 265)⟩, ⟨PyData.keyHash P (Str.ofString "branches_here"), (.str (Str.ofString "branches_here") 580), (.ref 272)⟩, ⟨PyData.keyHash P (Str.ofString "begins_operand"), (.str (Str.ofString "begins_operand") 587), (.ref 279)⟩, ⟨PyData.keyHash P (Str.ofString "ref_here"), (.str (Str.ofString "ref_here") 594), (.ref 286)⟩, ⟨PyData.keyHash P (Str.ofString "refuse_at"), (.str (Str.ofString "refuse_at") 603), (.ref 293)⟩, ⟨PyData.keyHash P (Str.ofString "operand_here"), (.str (Str.ofString "operand_here") 612), (.ref 300)⟩, ⟨PyData.keyHash P (Str.ofString "text_here"), (.str (Str.ofString "text_here") 621), (.ref 307)⟩, ⟨PyData.keyHash P (Str.ofString "pointer_here"), (.str (Str.ofString "pointer_here") 628), (.ref 314)⟩, ⟨PyData.keyHash P (Str.ofString "delimiters_here"), (.str (Str.ofString "delimiters_here") 637), (.ref 321)⟩, ⟨PyData.keyHash P (Str.ofString "unstrung_row"), (.str (Str.ofString "unstrung_row") 649), (.ref 328)⟩, ⟨PyData.keyHash P (Str.ofString "read_unstring"), (.str (Str.ofString "read_unstring") 663), (.ref 335)⟩, ⟨PyData.keyHash P (Str.ofString "MOST_OCTET"), (.str (Str.ofString "MOST_OCTET") 667), (.int (255) 666)⟩, ⟨PyData.keyHash P (Str.ofString "RESERVED"), (.str (Str.ofString "RESERVED") 669), (.str theR 668)⟩, ⟨PyData.keyHash P (Str.ofString "is_reserved"), (.str (Str.ofString "is_reserved") 676), (.ref 342)⟩, ⟨PyData.keyHash P (Str.ofString "octets_of_text"), (.str (Str.ofString "octets_of_text") 682), (.ref 347)⟩, ⟨PyData.keyHash P (Str.ofString "Reader"), (.str (Str.ofString "Reader") 888), (.ref 516)⟩, ⟨PyData.keyHash P (Str.ofString "Token"), (.str (Str.ofString "Token") 934), (.ref 546)⟩, ⟨PyData.keyHash P (Str.ofString "_law_pen"), (.str (Str.ofString "_law_pen") 942), (.ref 555)⟩, ⟨PyData.keyHash P (Str.ofString "_law_draw"), (.str (Str.ofString "_law_draw") 953), (.ref 562)⟩, ⟨PyData.keyHash P (Str.ofString "_law_pick"), (.str (Str.ofString "_law_pick") 961), (.ref 569)⟩, ⟨PyData.keyHash P (Str.ofString "_law_words"), (.str (Str.ofString "_law_words") 967), (.ref 574)⟩, ⟨PyData.keyHash P (Str.ofString "_law_reader"), (.str (Str.ofString "_law_reader") 973), (.ref 579)⟩, ⟨PyData.keyHash P (Str.ofString "_law_item"), (.str (Str.ofString "_law_item") 980), (.ref 586)⟩, ⟨PyData.keyHash P (Str.ofString "_law_phrases"), (.str (Str.ofString "_law_phrases") 987), (.ref 593)⟩, ⟨PyData.keyHash P (Str.ofString "_law_due"), (.str (Str.ofString "_law_due") 993), (.ref 598)⟩, ⟨PyData.keyHash P (Str.ofString "_law_body"), (.str (Str.ofString "_law_body") 1001), (.ref 605)⟩, ⟨PyData.keyHash P (Str.ofString "_law_right"), (.str (Str.ofString "_law_right") 1021), (.ref 612)⟩, ⟨PyData.keyHash P (Str.ofString "law"), (.str (Str.ofString "law") 1027), (.ref 617)⟩] 72, #[]⟩) ::
   (nat_lit 29, ⟨(.type "tuple"), none, .seq #[(.int (0) 208), (.int (0) 209)] 0, #[]⟩) ::
   (nat_lit 30, ⟨(.type "tuple"), none, .seq #[(.ref 29)] 0, #[]⟩) ::
   (nat_lit 36, ⟨(.type "code"), none, .fields #[(.str (Str.ofString "__init__") 210), (.str (Str.ofString "LedgerError.__init__") 211), (.str (Str.ofString "/claim/cut.py") 212), (.int (7) 0), (.int (3) 0), (.int (0) 0), (.int (0) 0), (.int (3) 0), (.ref 31), (.bool true), (.int (181) 0), (.ref 32), .none, (.ref 33), (.ref 34), (.ref 35), (.int (216) 0), (.int (7) 0), (.str (Str.ofString "/claim/cut.py") 217)], #[]⟩) ::
   (nat_lit 37, ⟨(.type "function"), none, .func (fnOf (Str.ofString "__init__") (Str.ofString "LedgerError.__init__") (m 2 0).par (m 2 0).body (m 2 0).scope (.ref 30) .none .none (.str (Str.ofString "ledgerspeak.errors") 194) none (.ref 36) .none), #[]⟩) ::
   (nat_lit 46, ⟨(.type "dict"), none, .dict #[⟨PyData.keyHash P (Str.ofString "__module__"), (.str (Str.ofString "__module__") 203), (.str (Str.ofString "ledgerspeak.errors") 194)⟩, ⟨PyData.keyHash P (Str.ofString "__firstlineno__"), (.str (Str.ofString "__firstlineno__") 207), (.int (5) 206)⟩, ⟨PyData.keyHash P (Str.ofString "__init__"), (.str (Str.ofString "__init__") 218), (.ref 37)⟩, ⟨PyData.keyHash P (Str.ofString "told"), (.str (Str.ofString "told") 225), (.ref 44)⟩, ⟨PyData.keyHash P (Str.ofString "__static_attributes__"), (.str (Str.ofString "__static_attributes__") 228), (.ref 45)⟩, ⟨PyData.keyHash P (Str.ofString "__weakref__"), (.str (Str.ofString "__weakref__") 230), (.ref 48)⟩, ⟨PyData.keyHash P (Str.ofString "__doc__"), (.str (Str.ofString "__doc__") 231), .none⟩] 3, #[]⟩) ::
   (nat_lit 47, ⟨(.type "type"), none, (.cls { name := (Str.ofString "LedgerError"), bases := [(.type "Exception")], mro := [(.ref 47), (.type "Exception"), (.type "BaseException"), (.type "object")], ns := 46, qualname := (Str.ofString "LedgerError"), hasDict := true, slotNames := [], subclasses := [(.ref 60), (.ref 72)], abstract := false, collection := none, hasDel := false }), #[(some (.ref 22)), none, (some (.str (Str.ofString "LedgerError") 196)), (some (.str (Str.ofString "LedgerError") 204)), (some (.builtin "Exception.__new__")), (some (.bool true))]⟩) ::
   (nat_lit 71, ⟨(.type "dict"), none, .dict #[⟨PyData.keyHash P (Str.ofString "__module__"), (.str (Str.ofString "__module__") 259), (.str (Str.ofString "ledgerspeak.errors") 194)⟩, ⟨PyData.keyHash P (Str.ofString "__firstlineno__"), (.str (Str.ofString "__firstlineno__") 263), (.int (16) 262)⟩, ⟨PyData.keyHash P (Str.ofString "__static_attributes__"), (.str (Str.ofString "__static_attributes__") 264), (.ref 70)⟩, ⟨PyData.keyHash P (Str.ofString "__doc__"), (.str (Str.ofString "__doc__") 265), .none⟩] 2, #[]⟩) ::
   (nat_lit 72, ⟨(.type "type"), none, (.cls { name := (Str.ofString "GrammarFault"), bases := [(.ref 47)], mro := [(.ref 72), (.ref 47), (.type "Exception"), (.type "BaseException"), (.type "object")], ns := 71, qualname := (Str.ofString "GrammarFault"), hasDict := true, slotNames := [], subclasses := [], abstract := false, collection := none, hasDel := false }), #[(some (.ref 63)), none, (some (.str (Str.ofString "GrammarFault") 252)), (some (.str (Str.ofString "GrammarFault") 260)), (some (.builtin "Exception.__new__")), (some (.bool true))]⟩) ::
   (nat_lit 132, ⟨(.type "dict"), none, .dict #[⟨PyData.keyHash P (Str.ofString "ZERO"), (.str (Str.ofString "ZERO") 347), (.str (Str.ofString "ZERO") 348)⟩, ⟨PyData.keyHash P (Str.ofString "ZEROS"), (.str (Str.ofString "ZEROS") 349), (.str (Str.ofString "ZERO") 350)⟩, ⟨PyData.keyHash P (Str.ofString "ZEROES"), (.str (Str.ofString "ZEROES") 351), (.str (Str.ofString "ZERO") 352)⟩, ⟨PyData.keyHash P (Str.ofString "SPACE"), (.str (Str.ofString "SPACE") 353), (.str (Str.ofString "SPACE") 354)⟩, ⟨PyData.keyHash P (Str.ofString "SPACES"), (.str (Str.ofString "SPACES") 355), (.str (Str.ofString "SPACE") 356)⟩, ⟨PyData.keyHash P (Str.ofString "HIGH-VALUE"), (.str (Str.ofString "HIGH-VALUE") 357), (.str (Str.ofString "HIGH") 358)⟩, ⟨PyData.keyHash P (Str.ofString "HIGH-VALUES"), (.str (Str.ofString "HIGH-VALUES") 359), (.str (Str.ofString "HIGH") 360)⟩, ⟨PyData.keyHash P (Str.ofString "LOW-VALUE"), (.str (Str.ofString "LOW-VALUE") 361), (.str (Str.ofString "LOW") 362)⟩, ⟨PyData.keyHash P (Str.ofString "LOW-VALUES"), (.str (Str.ofString "LOW-VALUES") 363), (.str (Str.ofString "LOW") 364)⟩, ⟨PyData.keyHash P (Str.ofString "QUOTE"), (.str (Str.ofString "QUOTE") 365), (.str (Str.ofString "QUOTE") 366)⟩, ⟨PyData.keyHash P (Str.ofString "QUOTES"), (.str (Str.ofString "QUOTES") 367), (.str (Str.ofString "QUOTE") 368)⟩] 11, #[]⟩) ::
   (nat_lit 138, ⟨(.type "code"), none, .fields #[(.str (Str.ofString "is_part_next") 381), (.str (Str.ofString "is_part_next") 382), (.str (Str.ofString "/claim/cut.py") 383), (.int (68) 0), (.int (1) 0), (.int (0) 0), (.int (0) 0), (.int (3) 0), (.ref 133), (.bool true), (.int (181) 0), (.ref 134), .none, (.ref 135), (.ref 136), (.ref 137), (.int (387) 0), (.int (68) 0), (.str (Str.ofString "/claim/cut.py") 388)], #[]⟩) ::
   (nat_lit 139, ⟨(.type "function"), none, .func (fnOf (Str.ofString "is_part_next") (Str.ofString "is_part_next") (f 18).par (f 18).body (f 18).scope .none .none .none (.str (Str.ofString "ledgerspeak.references") 343) none (.ref 138) .none), #[]⟩) ::
   (nat_lit 159, ⟨(.type "code"), none, .fields #[(.str (Str.ofString "read_ref") 409), (.str (Str.ofString "read_ref") 410), (.str (Str.ofString "/claim/cut.py") 411), (.int (96) 0), (.int (2) 0), (.int (0) 0), (.int (0) 0), (.int (3) 0), (.ref 154), (.bool true), (.int (181) 0), (.ref 155), .none, (.ref 156), (.ref 157), (.ref 158), (.int (418) 0), (.int (96) 0), (.str (Str.ofString "/claim/cut.py") 419)], #[]⟩) ::
   (nat_lit 160, ⟨(.type "function"), none, .func (fnOf (Str.ofString "read_ref") (Str.ofString "read_ref") (f 21).par (f 21).body (f 21).scope .none .none .none (.str (Str.ofString "ledgerspeak.references") 343) none (.ref 159) .none), #[]⟩) ::
   (nat_lit 166, ⟨(.type "code"), none, .fields #[(.str (Str.ofString "read_all") 421), (.str (Str.ofString "read_all") 422), (.str (Str.ofString "/claim/cut.py") 423), (.int (106) 0), (.int (1) 0), (.int (0) 0), (.int (0) 0), (.int (3) 0), (.ref 161), (.bool true), (.int (181) 0), (.ref 162), .none, (.ref 163), (.ref 164), (.ref 165), (.int (426) 0), (.int (106) 0), (.str (Str.ofString "/claim/cut.py") 427)], #[]⟩) ::
   (nat_lit 167, ⟨(.type "function"), none, .func (fnOf (Str.ofString "read_all") (Str.ofString "read_all") (f 22).par (f 22).body (f 22).scope .none .none .none (.str (Str.ofString "ledgerspeak.references") 343) none (.ref 166) .none), #[]⟩) ::
   (nat_lit 173, ⟨(.type "code"), none, .fields #[(.str (Str.ofString "read_figure") 429), (.str (Str.ofString "read_figure") 430), (.str (Str.ofString "/claim/cut.py") 431), (.int (113) 0), (.int (1) 0), (.int (0) 0), (.int (0) 0), (.int (3) 0), (.ref 168), (.bool true), (.int (181) 0), (.ref 169), .none, (.ref 170), (.ref 171), (.ref 172), (.int (433) 0), (.int (113) 0), (.str (Str.ofString "/claim/cut.py") 434)], #[]⟩) ::
   (nat_lit 174, ⟨(.type "function"), none, .func (fnOf (Str.ofString "read_figure") (Str.ofString "read_figure") (f 23).par (f 23).body (f 23).scope .none .none .none (.str (Str.ofString "ledgerspeak.references") 343) none (.ref 173) .none), #[]⟩) ::
   (nat_lit 180, ⟨(.type "code"), none, .fields #[(.str (Str.ofString "read_operand") 436), (.str (Str.ofString "read_operand") 437), (.str (Str.ofString "/claim/cut.py") 438), (.int (117) 0), (.int (2) 0), (.int (0) 0), (.int (0) 0), (.int (3) 0), (.ref 175), (.bool true), (.int (181) 0), (.ref 176), .none, (.ref 177), (.ref 178), (.ref 179), (.int (442) 0), (.int (117) 0), (.str (Str.ofString "/claim/cut.py") 443)], #[]⟩) ::
   (nat_lit 181, ⟨(.type "function"), none, .func (fnOf (Str.ofString "read_operand") (Str.ofString "read_operand") (f 24).par (f 24).body (f 24).scope .none .none .none (.str (Str.ofString "ledgerspeak.references") 343) none (.ref 180) .none), #[]⟩) ::
   (nat_lit 187, ⟨(.type "code"), none, .fields #[(.str (Str.ofString "read_expression") 449), (.str (Str.ofString "read_expression") 450), (.str (Str.ofString "/claim/cut.py") 451), (.int (128) 0), (.int (1) 0), (.int (0) 0), (.int (0) 0), (.int (3) 0), (.ref 182), (.bool true), (.int (181) 0), (.ref 183), .none, (.ref 184), (.ref 185), (.ref 186), (.int (453) 0), (.int (128) 0), (.str (Str.ofString "/claim/cut.py") 454)], #[]⟩) ::
   (nat_lit 188, ⟨(.type "function"), none, .func (fnOf (Str.ofString "read_expression") (Str.ofString "read_expression") (f 27).par (f 27).body (f 27).scope .none .none .none (.str (Str.ofString "ledgerspeak.expressions") 445) none (.ref 187) .none), #[]⟩) ::
   (nat_lit 243, ⟨(.type "code"), none, .fields #[(.str (Str.ofString "word_ahead") 528), (.str (Str.ofString "word_ahead") 529), (.str (Str.ofString "/claim/cut.py") 530), (.int (180) 0), (.int (3) 0), (.int (0) 0), (.int (0) 0), (.int (3) 0), (.ref 238), (.bool true), (.int (181) 0), (.ref 239), .none, (.ref 240), (.ref 241), (.ref 242), (.int (535) 0), (.int (180) 0), (.str (Str.ofString "/claim/cut.py") 536)], #[]⟩) ::
   (nat_lit 244, ⟨(.type "function"), none, .func (fnOf (Str.ofString "word_ahead") (Str.ofString "word_ahead") (f 37).par (f 37).body (f 37).scope .none .none .none (.str (Str.ofString "ledgerspeak.readarith") 524) none (.ref 243) .none), #[]⟩) ::
   (nat_lit 250, ⟨(.type "code"), none, .fields #[(.str (Str.ofString "phrase_words") 538), (.str (Str.ofString "phrase_words") 539), (.str (Str.ofString "/claim/cut.py") 540), (.int (183) 0), (.int (1) 0), (.int (0) 0), (.int (0) 0), (.int (3) 0), (.ref 245), (.bool true), (.int (181) 0), (.ref 246), .none, (.ref 247), (.ref 248), (.ref 249), (.int (542) 0), (.int (183) 0), (.str (Str.ofString "/claim/cut.py") 543)], #[]⟩) ::
   (nat_lit 251, ⟨(.type "function"), none, .func (fnOf (Str.ofString "phrase_words") (Str.ofString "phrase_words") (f 38).par (f 38).body (f 38).scope .none .none .none (.str (Str.ofString "ledgerspeak.readarith") 524) none (.ref 250) .none), #[]⟩) ::
   (nat_lit 257, ⟨(.type "code"), none, .fields #[(.str (Str.ofString "opening_length") 545), (.str (Str.ofString "opening_length") 546), (.str (Str.ofString "/claim/cut.py") 547), (.int (193) 0), (.int (2) 0), (.int (0) 0), (.int (0) 0), (.int (3) 0), (.ref 252), (.bool true), (.int (181) 0), (.ref 253), .none, (.ref 254), (.ref 255), (.ref 256), (.int (556) 0), (.int (193) 0), (.str (Str.ofString "/claim/cut.py") 557)], #[]⟩) ::
   (nat_lit 258, ⟨(.type "function"), none, .func (fnOf (Str.ofString "opening_length") (Str.ofString "opening_length") (f 39).par (f 39).body (f 39).scope .none .none .none (.str (Str.ofString "ledgerspeak.readarith") 524) none (.ref 257) .none), #[]⟩) ::
   (nat_lit 264, ⟨(.type "code"), none, .fields #[(.str (Str.ofString "body_here") 559), (.str (Str.ofString "body_here") 560), (.str (Str.ofString "/claim/cut.py") 561), (.int (213) 0), (.int (2) 0), (.int (0) 0), (.int (0) 0), (.int (3) 0), (.ref 259), (.bool true), (.int (181) 0), (.ref 260), .none, (.ref 261), (.ref 262), (.ref 263), (.int (565) 0), (.int (213) 0), (.str (Str.ofString "/claim/cut.py") 566)], #[]⟩) ::
   (nat_lit 265, ⟨(.type "function"), none, .func (fnOf (Str.ofString "body_here") (Str.ofString "body_here") (f 40).par (f 40).body (f 40).scope .none .none .none (.str (Str.ofString "ledgerspeak.readarith") 524) none (.ref 264) .none), #[]⟩) ::
   (nat_lit 271, ⟨(.type "code"), none, .fields #[(.str (Str.ofString "branches_here") 568), (.str (Str.ofString "branches_here") 569), (.str (Str.ofString "/claim/cut.py") 570), (.int (218) 0), (.int (3) 0), (.int (0) 0), (.int (0) 0), (.int (3) 0), (.ref 266), (.bool true), (.int (181) 0), (.ref 267), .none, (.ref 268), (.ref 269), (.ref 270), (.int (578) 0), (.int (218) 0), (.str (Str.ofString "/claim/cut.py") 579)], #[]⟩) ::
   (nat_lit 272, ⟨(.type "function"), none, .func (fnOf (Str.ofString "branches_here") (Str.ofString "branches_here") (f 41).par (f 41).body (f 41).scope .none .none .none (.str (Str.ofString "ledgerspeak.readarith") 524) none (.ref 271) .none), #[]⟩) ::
   (nat_lit 278, ⟨(.type "code"), none, .fields #[(.str (Str.ofString "begins_operand") 581), (.str (Str.ofString "begins_operand") 582), (.str (Str.ofString "/claim/cut.py") 583), (.int (227) 0), (.int (1) 0), (.int (0) 0), (.int (0) 0), (.int (3) 0), (.ref 273), (.bool true), (.int (181) 0), (.ref 274), .none, (.ref 275), (.ref 276), (.ref 277), (.int (585) 0), (.int (227) 0), (.str (Str.ofString "/claim/cut.py") 586)], #[]⟩) ::
   (nat_lit 279, ⟨(.type "function"), none, .func (fnOf (Str.ofString "begins_operand") (Str.ofString "begins_operand") (f 42).par (f 42).body (f 42).scope .none .none .none (.str (Str.ofString "ledgerspeak.readarith") 524) none (.ref 278) .none), #[]⟩) ::
   (nat_lit 285, ⟨(.type "code"), none, .fields #[(.str (Str.ofString "ref_here") 588), (.str (Str.ofString "ref_here") 589), (.str (Str.ofString "/claim/cut.py") 590), (.int (231) 0), (.int (1) 0), (.int (0) 0), (.int (0) 0), (.int (3) 0), (.ref 280), (.bool true), (.int (181) 0), (.ref 281), .none, (.ref 282), (.ref 283), (.ref 284), (.int (592) 0), (.int (231) 0), (.str (Str.ofString "/claim/cut.py") 593)], #[]⟩) ::
   (nat_lit 286, ⟨(.type "function"), none, .func (fnOf (Str.ofString "ref_here") (Str.ofString "ref_here") (f 43).par (f 43).body (f 43).scope .none .none .none (.str (Str.ofString "ledgerspeak.readarith") 524) none (.ref 285) .none), #[]⟩) ::
   (nat_lit 292, ⟨(.type "code"), none, .fields #[(.str (Str.ofString "refuse_at") 595), (.str (Str.ofString "refuse_at") 596), (.str (Str.ofString "/claim/cut.py") 597), (.int (235) 0), (.int (3) 0), (.int (0) 0), (.int (0) 0), (.int (3) 0), (.ref 287), (.bool true), (.int (181) 0), (.ref 288), .none, (.ref 289), (.ref 290), (.ref 291), (.int (601) 0), (.int (235) 0), (.str (Str.ofString "/claim/cut.py") 602)], #[]⟩) ::
   (nat_lit 293, ⟨(.type "function"), none, .func (fnOf (Str.ofString "refuse_at") (Str.ofString "refuse_at") (f 44).par (f 44).body (f 44).scope .none .none .none (.str (Str.ofString "ledgerspeak.readarith") 524) none (.ref 292) .none), #[]⟩) ::
   (nat_lit 299, ⟨(.type "code"), none, .fields #[(.str (Str.ofString "operand_here") 606), (.str (Str.ofString "operand_here") 607), (.str (Str.ofString "/claim/cut.py") 608), (.int (239) 0), (.int (1) 0), (.int (0) 0), (.int (0) 0), (.int (3) 0), (.ref 294), (.bool true), (.int (181) 0), (.ref 295), .none, (.ref 296), (.ref 297), (.ref 298), (.int (610) 0), (.int (239) 0), (.str (Str.ofString "/claim/cut.py") 611)], #[]⟩) ::
   (nat_lit 300, ⟨(.type "function"), none, .func (fnOf (Str.ofString "operand_here") (Str.ofString "operand_here") (f 46).par (f 46).body (f 46).scope .none .none .none (.str (Str.ofString "ledgerspeak.readdata") 604) none (.ref 299) .none), #[]⟩) ::
   (nat_lit 306, ⟨(.type "code"), none, .fields #[(.str (Str.ofString "text_here") 613), (.str (Str.ofString "text_here") 614), (.str (Str.ofString "/claim/cut.py") 615), (.int (243) 0), (.int (1) 0), (.int (0) 0), (.int (0) 0), (.int (3) 0), (.ref 301), (.bool true), (.int (181) 0), (.ref 302), .none, (.ref 303), (.ref 304), (.ref 305), (.int (619) 0), (.int (243) 0), (.str (Str.ofString "/claim/cut.py") 620)], #[]⟩) ::
   (nat_lit 307, ⟨(.type "function"), none, .func (fnOf (Str.ofString "text_here") (Str.ofString "text_here") (f 47).par (f 47).body (f 47).scope .none .none .none (.str (Str.ofString "ledgerspeak.readdata") 604) none (.ref 306) .none), #[]⟩) ::
   (nat_lit 313, ⟨(.type "code"), none, .fields #[(.str (Str.ofString "pointer_here") 622), (.str (Str.ofString "pointer_here") 623), (.str (Str.ofString "/claim/cut.py") 624), (.int (249) 0), (.int (1) 0), (.int (0) 0), (.int (0) 0), (.int (3) 0), (.ref 308), (.bool true), (.int (181) 0), (.ref 309), .none, (.ref 310), (.ref 311), (.ref 312), (.int (626) 0), (.int (249) 0), (.str (Str.ofString "/claim/cut.py") 627)], #[]⟩) ::
   (nat_lit 314, ⟨(.type "function"), none, .func (fnOf (Str.ofString "pointer_here") (Str.ofString "pointer_here") (f 48).par (f 48).body (f 48).scope .none .none .none (.str (Str.ofString "ledgerspeak.readdata") 604) none (.ref 313) .none), #[]⟩) ::
   (nat_lit 320, ⟨(.type "code"), none, .fields #[(.str (Str.ofString "delimiters_here") 629), (.str (Str.ofString "delimiters_here") 630), (.str (Str.ofString "/claim/cut.py") 631), (.int (253) 0), (.int (1) 0), (.int (0) 0), (.int (0) 0), (.int (3) 0), (.ref 315), (.bool true), (.int (181) 0), (.ref 316), .none, (.ref 317), (.ref 318), (.ref 319), (.int (635) 0), (.int (253) 0), (.str (Str.ofString "/claim/cut.py") 636)], #[]⟩) ::
   (nat_lit 321, ⟨(.type "function"), none, .func (fnOf (Str.ofString "delimiters_here") (Str.ofString "delimiters_here") (f 49).par (f 49).body (f 49).scope .none .none .none (.str (Str.ofString "ledgerspeak.readdata") 604) none (.ref 320) .none), #[]⟩) ::
   (nat_lit 327, ⟨(.type "code"), none, .fields #[(.str (Str.ofString "unstrung_row") 638), (.str (Str.ofString "unstrung_row") 639), (.str (Str.ofString "/claim/cut.py") 640), (.int (261) 0), (.int (2) 0), (.int (0) 0), (.int (0) 0), (.int (3) 0), (.ref 322), (.bool true), (.int (181) 0), (.ref 323), .none, (.ref 324), (.ref 325), (.ref 326), (.int (647) 0), (.int (261) 0), (.str (Str.ofString "/claim/cut.py") 648)], #[]⟩) ::
   (nat_lit 328, ⟨(.type "function"), none, .func (fnOf (Str.ofString "unstrung_row") (Str.ofString "unstrung_row") (f 50).par (f 50).body (f 50).scope .none .none .none (.str (Str.ofString "ledgerspeak.readdata") 604) none (.ref 327) .none), #[]⟩) ::
   (nat_lit 334, ⟨(.type "code"), none, .fields #[(.str (Str.ofString "read_unstring") 650), (.str (Str.ofString "read_unstring") 651), (.str (Str.ofString "/claim/cut.py") 652), (.int (273) 0), (.int (2) 0), (.int (0) 0), (.int (0) 0), (.int (3) 0), (.ref 329), (.bool true), (.int (181) 0), (.ref 330), .none, (.ref 331), (.ref 332), (.ref 333), (.int (661) 0), (.int (273) 0), (.str (Str.ofString "/claim/cut.py") 662)], #[]⟩) ::
   (nat_lit 335, ⟨(.type "function"), none, .func (fnOf (Str.ofString "read_unstring") (Str.ofString "read_unstring") (f 51).par (f 51).body (f 51).scope .none .none .none (.str (Str.ofString "ledgerspeak.readdata") 604) none (.ref 334) .none), #[]⟩) ::
   (nat_lit 341, ⟨(.type "code"), none, .fields #[(.str (Str.ofString "is_reserved") 670), (.str (Str.ofString "is_reserved") 671), (.str (Str.ofString "/claim/cut.py") 672), (.int (291) 0), (.int (1) 0), (.int (0) 0), (.int (0) 0), (.int (3) 0), (.ref 336), (.bool true), (.int (181) 0), (.ref 337), .none, (.ref 338), (.ref 339), (.ref 340), (.int (674) 0), (.int (291) 0), (.str (Str.ofString "/claim/cut.py") 675)], #[]⟩) ::
   (nat_lit 342, ⟨(.type "function"), none, .func (fnOf (Str.ofString "is_reserved") (Str.ofString "is_reserved") (f 55).par (f 55).body (f 55).scope .none .none .none (.str (Str.ofString "ledgerspeak.reader") 664) none (.ref 341) .none), #[]⟩) ::
   (nat_lit 346, ⟨(.type "code"), none, .fields #[(.str (Str.ofString "octets_of_text") 677), (.str (Str.ofString "octets_of_text") 678), (.str (Str.ofString "/claim/cut.py") 679), (.int (293) 0), (.int (1) 0), (.int (0) 0), (.int (0) 0), (.int (3) 0), (.ref 343), (.bool true), (.int (181) 0), (.ref 344), .none, .none, .none, (.ref 345), (.int (680) 0), (.int (293) 0), (.str (Str.ofString "/claim/cut.py") 681)], #[]⟩) ::
   (nat_lit 347, ⟨(.type "function"), none, .func (fnOf (Str.ofString "octets_of_text") (Str.ofString "octets_of_text") (f 56).par (f 56).body (f 56).scope .none .none .none (.str (Str.ofString "ledgerspeak.reader") 664) none (.ref 346) .none), #[]⟩) ::
   (nat_lit 355, ⟨(.type "tuple"), none, .seq #[(.int (0) 695)] 0, #[]⟩) ::
   (nat_lit 361, ⟨(.type "code"), none, .fields #[(.str (Str.ofString "__init__") 696), (.str (Str.ofString "Reader.__init__") 697), (.str (Str.ofString "/claim/cut.py") 698), (.int (300) 0), (.int (3) 0), (.int (0) 0), (.int (0) 0), (.int (3) 0), (.ref 356), (.bool true), (.int (181) 0), (.ref 357), .none, (.ref 358), (.ref 359), (.ref 360), (.int (702) 0), (.int (300) 0), (.str (Str.ofString "/claim/cut.py") 703)], #[]⟩) ::
   (nat_lit 362, ⟨(.type "function"), none, .func (fnOf (Str.ofString "__init__") (Str.ofString "Reader.__init__") (m 57 0).par (m 57 0).body (m 57 0).scope (.ref 355) .none .none (.str (Str.ofString "ledgerspeak.reader") 664) none (.ref 361) .none), #[]⟩) ::
   (nat_lit 363, ⟨(.type "tuple"), none, .seq #[(.int (0) 705)] 0, #[]⟩) ::
   (nat_lit 369, ⟨(.type "code"), none, .fields #[(.str (Str.ofString "peek") 706), (.str (Str.ofString "Reader.peek") 707), (.str (Str.ofString "/claim/cut.py") 708), (.int (305) 0), (.int (2) 0), (.int (0) 0), (.int (0) 0), (.int (3) 0), (.ref 364), (.bool true), (.int (181) 0), (.ref 365), .none, (.ref 366), (.ref 367), (.ref 368), (.int (711) 0), (.int (305) 0), (.str (Str.ofString "/claim/cut.py") 712)], #[]⟩) ::
   (nat_lit 370, ⟨(.type "function"), none, .func (fnOf (Str.ofString "peek") (Str.ofString "Reader.peek") (m 57 1).par (m 57 1).body (m 57 1).scope (.ref 363) .none .none (.str (Str.ofString "ledgerspeak.reader") 664) none (.ref 369) .none), #[]⟩) ::
   (nat_lit 383, ⟨(.type "code"), none, .fields #[(.str (Str.ofString "fault") 721), (.str (Str.ofString "Reader.fault") 722), (.str (Str.ofString "/claim/cut.py") 723), (.int (313) 0), (.int (2) 0), (.int (0) 0), (.int (0) 0), (.int (3) 0), (.ref 378), (.bool true), (.int (181) 0), (.ref 379), .none, (.ref 380), (.ref 381), (.ref 382), (.int (726) 0), (.int (313) 0), (.str (Str.ofString "/claim/cut.py") 727)], #[]⟩) ::
   (nat_lit 384, ⟨(.type "function"), none, .func (fnOf (Str.ofString "fault") (Str.ofString "Reader.fault") (m 57 3).par (m 57 3).body (m 57 3).scope .none .none .none (.str (Str.ofString "ledgerspeak.reader") 664) none (.ref 383) .none), #[]⟩) ::
   (nat_lit 390, ⟨(.type "code"), none, .fields #[(.str (Str.ofString "take") 729), (.str (Str.ofString "Reader.take") 730), (.str (Str.ofString "/claim/cut.py") 731), (.int (318) 0), (.int (1) 0), (.int (0) 0), (.int (0) 0), (.int (3) 0), (.ref 385), (.bool true), (.int (181) 0), (.ref 386), .none, (.ref 387), (.ref 388), (.ref 389), (.int (734) 0), (.int (318) 0), (.str (Str.ofString "/claim/cut.py") 735)], #[]⟩) ::
   (nat_lit 391, ⟨(.type "function"), none, .func (fnOf (Str.ofString "take") (Str.ofString "Reader.take") (m 57 4).par (m 57 4).body (m 57 4).scope .none .none .none (.str (Str.ofString "ledgerspeak.reader") 664) none (.ref 390) .none), #[]⟩) ::
   (nat_lit 392, ⟨(.type "tuple"), none, .seq #[(.int (0) 737)] 0, #[]⟩) ::
   (nat_lit 398, ⟨(.type "code"), none, .fields #[(.str (Str.ofString "is_kind") 738), (.str (Str.ofString "Reader.is_kind") 739), (.str (Str.ofString "/claim/cut.py") 740), (.int (325) 0), (.int (3) 0), (.int (0) 0), (.int (0) 0), (.int (3) 0), (.ref 393), (.bool true), (.int (181) 0), (.ref 394), .none, (.ref 395), (.ref 396), (.ref 397), (.int (745) 0), (.int (325) 0), (.str (Str.ofString "/claim/cut.py") 746)], #[]⟩) ::
   (nat_lit 399, ⟨(.type "function"), none, .func (fnOf (Str.ofString "is_kind") (Str.ofString "Reader.is_kind") (m 57 5).par (m 57 5).body (m 57 5).scope (.ref 392) .none .none (.str (Str.ofString "ledgerspeak.reader") 664) none (.ref 398) .none), #[]⟩) ::
   (nat_lit 405, ⟨(.type "code"), none, .fields #[(.str (Str.ofString "is_word") 748), (.str (Str.ofString "Reader.is_word") 749), (.str (Str.ofString "/claim/cut.py") 750), (.int (329) 0), (.int (2) 0), (.int (0) 0), (.int (0) 0), (.int (3) 0), (.ref 400), (.bool true), (.int (181) 0), (.ref 401), .none, (.ref 402), (.ref 403), (.ref 404), (.int (755) 0), (.int (329) 0), (.str (Str.ofString "/claim/cut.py") 756)], #[]⟩) ::
   (nat_lit 406, ⟨(.type "function"), none, .func (fnOf (Str.ofString "is_word") (Str.ofString "Reader.is_word") (m 57 6).par (m 57 6).body (m 57 6).scope .none .none .none (.str (Str.ofString "ledgerspeak.reader") 664) none (.ref 405) .none), #[]⟩) ::
   (nat_lit 412, ⟨(.type "code"), none, .fields #[(.str (Str.ofString "skip") 758), (.str (Str.ofString "Reader.skip") 759), (.str (Str.ofString "/claim/cut.py") 760), (.int (337) 0), (.int (2) 0), (.int (0) 0), (.int (0) 0), (.int (3) 0), (.ref 407), (.bool true), (.int (181) 0), (.ref 408), .none, (.ref 409), (.ref 410), (.ref 411), (.int (763) 0), (.int (337) 0), (.str (Str.ofString "/claim/cut.py") 764)], #[]⟩) ::
   (nat_lit 413, ⟨(.type "function"), none, .func (fnOf (Str.ofString "skip") (Str.ofString "Reader.skip") (m 57 7).par (m 57 7).body (m 57 7).scope .none .none .none (.str (Str.ofString "ledgerspeak.reader") 664) none (.ref 412) .none), #[]⟩) ::
   (nat_lit 419, ⟨(.type "code"), none, .fields #[(.str (Str.ofString "need") 766), (.str (Str.ofString "Reader.need") 767), (.str (Str.ofString "/claim/cut.py") 768), (.int (343) 0), (.int (2) 0), (.int (0) 0), (.int (0) 0), (.int (3) 0), (.ref 414), (.bool true), (.int (181) 0), (.ref 415), .none, (.ref 416), (.ref 417), (.ref 418), (.int (771) 0), (.int (343) 0), (.str (Str.ofString "/claim/cut.py") 772)], #[]⟩) ::
   (nat_lit 420, ⟨(.type "function"), none, .func (fnOf (Str.ofString "need") (Str.ofString "Reader.need") (m 57 8).par (m 57 8).body (m 57 8).scope .none .none .none (.str (Str.ofString "ledgerspeak.reader") 664) none (.ref 419) .none), #[]⟩) ::
   (nat_lit 426, ⟨(.type "code"), none, .fields #[(.str (Str.ofString "one_of") 774), (.str (Str.ofString "Reader.one_of") 775), (.str (Str.ofString "/claim/cut.py") 776), (.int (347) 0), (.int (2) 0), (.int (0) 0), (.int (0) 0), (.int (3) 0), (.ref 421), (.bool true), (.int (181) 0), (.ref 422), .none, (.ref 423), (.ref 424), (.ref 425), (.int (780) 0), (.int (347) 0), (.str (Str.ofString "/claim/cut.py") 781)], #[]⟩) ::
   (nat_lit 427, ⟨(.type "function"), none, .func (fnOf (Str.ofString "one_of") (Str.ofString "Reader.one_of") (m 57 9).par (m 57 9).body (m 57 9).scope .none .none .none (.str (Str.ofString "ledgerspeak.reader") 664) none (.ref 426) .none), #[]⟩) ::
   (nat_lit 435, ⟨(.type "tuple"), none, .seq #[(.int (0) 790)] 0, #[]⟩) ::
   (nat_lit 441, ⟨(.type "code"), none, .fields #[(.str (Str.ofString "is_name") 791), (.str (Str.ofString "Reader.is_name") 792), (.str (Str.ofString "/claim/cut.py") 793), (.int (358) 0), (.int (2) 0), (.int (0) 0), (.int (0) 0), (.int (3) 0), (.ref 436), (.bool true), (.int (181) 0), (.ref 437), .none, (.ref 438), (.ref 439), (.ref 440), (.int (796) 0), (.int (358) 0), (.str (Str.ofString "/claim/cut.py") 797)], #[]⟩) ::
   (nat_lit 442, ⟨(.type "function"), none, .func (fnOf (Str.ofString "is_name") (Str.ofString "Reader.is_name") (m 57 11).par (m 57 11).body (m 57 11).scope (.ref 435) .none .none (.str (Str.ofString "ledgerspeak.reader") 664) none (.ref 441) .none), #[]⟩) ::
   (nat_lit 448, ⟨(.type "code"), none, .fields #[(.str (Str.ofString "name") 799), (.str (Str.ofString "Reader.name") 800), (.str (Str.ofString "/claim/cut.py") 801), (.int (361) 0), (.int (1) 0), (.int (0) 0), (.int (0) 0), (.int (3) 0), (.ref 443), (.bool true), (.int (181) 0), (.ref 444), .none, (.ref 445), (.ref 446), (.ref 447), (.int (803) 0), (.int (361) 0), (.str (Str.ofString "/claim/cut.py") 804)], #[]⟩) ::
   (nat_lit 449, ⟨(.type "function"), none, .func (fnOf (Str.ofString "name") (Str.ofString "Reader.name") (m 57 12).par (m 57 12).body (m 57 12).scope .none .none .none (.str (Str.ofString "ledgerspeak.reader") 664) none (.ref 448) .none), #[]⟩) ::
   (nat_lit 457, ⟨(.type "tuple"), none, .seq #[(.int (0) 813)] 0, #[]⟩) ::
   (nat_lit 463, ⟨(.type "code"), none, .fields #[(.str (Str.ofString "is_sign") 814), (.str (Str.ofString "Reader.is_sign") 815), (.str (Str.ofString "/claim/cut.py") 816), (.int (369) 0), (.int (3) 0), (.int (0) 0), (.int (0) 0), (.int (3) 0), (.ref 458), (.bool true), (.int (181) 0), (.ref 459), .none, (.ref 460), (.ref 461), (.ref 462), (.int (820) 0), (.int (369) 0), (.str (Str.ofString "/claim/cut.py") 821)], #[]⟩) ::
   (nat_lit 464, ⟨(.type "function"), none, .func (fnOf (Str.ofString "is_sign") (Str.ofString "Reader.is_sign") (m 57 14).par (m 57 14).body (m 57 14).scope (.ref 457) .none .none (.str (Str.ofString "ledgerspeak.reader") 664) none (.ref 463) .none), #[]⟩) ::
   (nat_lit 470, ⟨(.type "code"), none, .fields #[(.str (Str.ofString "skip_sign") 823), (.str (Str.ofString "Reader.skip_sign") 824), (.str (Str.ofString "/claim/cut.py") 825), (.int (372) 0), (.int (2) 0), (.int (0) 0), (.int (0) 0), (.int (3) 0), (.ref 465), (.bool true), (.int (181) 0), (.ref 466), .none, (.ref 467), (.ref 468), (.ref 469), (.int (828) 0), (.int (372) 0), (.str (Str.ofString "/claim/cut.py") 829)], #[]⟩) ::
   (nat_lit 471, ⟨(.type "function"), none, .func (fnOf (Str.ofString "skip_sign") (Str.ofString "Reader.skip_sign") (m 57 15).par (m 57 15).body (m 57 15).scope .none .none .none (.str (Str.ofString "ledgerspeak.reader") 664) none (.ref 470) .none), #[]⟩) ::
   (nat_lit 484, ⟨(.type "code"), none, .fields #[(.str (Str.ofString "is_number") 839), (.str (Str.ofString "Reader.is_number") 840), (.str (Str.ofString "/claim/cut.py") 841), (.int (382) 0), (.int (1) 0), (.int (0) 0), (.int (0) 0), (.int (3) 0), (.ref 479), (.bool true), (.int (181) 0), (.ref 480), .none, (.ref 481), (.ref 482), (.ref 483), (.int (843) 0), (.int (382) 0), (.str (Str.ofString "/claim/cut.py") 844)], #[]⟩) ::
   (nat_lit 485, ⟨(.type "function"), none, .func (fnOf (Str.ofString "is_number") (Str.ofString "Reader.is_number") (m 57 17).par (m 57 17).body (m 57 17).scope .none .none .none (.str (Str.ofString "ledgerspeak.reader") 664) none (.ref 484) .none), #[]⟩) ::
   (nat_lit 512, ⟨(.type "code"), none, .fields #[(.str (Str.ofString "octets") 870), (.str (Str.ofString "Reader.octets") 871), (.str (Str.ofString "/claim/cut.py") 872), (.int (410) 0), (.int (1) 0), (.int (0) 0), (.int (0) 0), (.int (3) 0), (.ref 507), (.bool true), (.int (181) 0), (.ref 508), .none, (.ref 509), (.ref 510), (.ref 511), (.int (875) 0), (.int (410) 0), (.str (Str.ofString "/claim/cut.py") 876)], #[]⟩) ::
   (nat_lit 513, ⟨(.type "function"), none, .func (fnOf (Str.ofString "octets") (Str.ofString "Reader.octets") (m 57 21).par (m 57 21).body (m 57 21).scope .none .none .none (.str (Str.ofString "ledgerspeak.reader") 664) none (.ref 512) .none), #[]⟩) ::
   (nat_lit 515, ⟨(.type "dict"), none, .dict #[⟨PyData.keyHash P (Str.ofString "__module__"), (.str (Str.ofString "__module__") 690), (.str (Str.ofString "ledgerspeak.reader") 664)⟩, ⟨PyData.keyHash P (Str.ofString "__firstlineno__"), (.str (Str.ofString "__firstlineno__") 694), (.int (298) 693)⟩, ⟨PyData.keyHash P (Str.ofString "__init__"), (.str (Str.ofString "__init__") 704), (.ref 362)⟩, ⟨PyData.keyHash P (Str.ofString "peek"), (.str (Str.ofString "peek") 713), (.ref 370)⟩, ⟨PyData.keyHash P (Str.ofString "is_done"), (.str (Str.ofString "is_done") 720), (.ref 377)⟩, ⟨PyData.keyHash P (Str.ofString "fault"), (.str (Str.ofString "fault") 728), (.ref 384)⟩, ⟨PyData.keyHash P (Str.ofString "take"), (.str (Str.ofString "take") 736), (.ref 391)⟩, ⟨PyData.keyHash P (Str.ofString "is_kind"), (.str (Str.ofString "is_kind") 747), (.ref 399)⟩, ⟨PyData.keyHash P (Str.ofString "is_word"), (.str (Str.ofString "is_word") 757), (.ref 406)⟩, ⟨PyData.keyHash P (Str.ofString "skip"), (.str (Str.ofString "skip") 765), (.ref 413)⟩, ⟨PyData.keyHash P (Str.ofString "need"), (.str (Str.ofString "need") 773), (.ref 420)⟩, ⟨PyData.keyHash P (Str.ofString "one_of"), (.str (Str.ofString "one_of") 782), (.ref 427)⟩, ⟨PyData.keyHash P (Str.ofString "word"), (.str (Str.ofString "word") 789), (.ref 434)⟩, ⟨PyData.keyHash P (Str.ofString "is_name"), (.str (Str.ofString "is_name") 798), (.ref 442)⟩, ⟨PyData.keyHash P (Str.ofString "name"), (.str (Str.ofString "name") 805), (.ref 449)⟩, ⟨PyData.keyHash P (Str.ofString "names"), (.str (Str.ofString "names") 812), (.ref 456)⟩, ⟨PyData.keyHash P (Str.ofString "is_sign"), (.str (Str.ofString "is_sign") 822), (.ref 464)⟩, ⟨PyData.keyHash P (Str.ofString "skip_sign"), (.str (Str.ofString "skip_sign") 830), (.ref 471)⟩, ⟨PyData.keyHash P (Str.ofString "need_sign"), (.str (Str.ofString "need_sign") 838), (.ref 478)⟩, ⟨PyData.keyHash P (Str.ofString "is_number"), (.str (Str.ofString "is_number") 845), (.ref 485)⟩, ⟨PyData.keyHash P (Str.ofString "signed"), (.str (Str.ofString "signed") 854), (.ref 492)⟩, ⟨PyData.keyHash P (Str.ofString "whole"), (.str (Str.ofString "whole") 862), (.ref 499)⟩, ⟨PyData.keyHash P (Str.ofString "literal"), (.str (Str.ofString "literal") 869), (.ref 506)⟩, ⟨PyData.keyHash P (Str.ofString "octets"), (.str (Str.ofString "octets") 877), (.ref 513)⟩, ⟨PyData.keyHash P (Str.ofString "__static_attributes__"), (.str (Str.ofString "__static_attributes__") 881), (.ref 514)⟩, ⟨PyData.keyHash P (Str.ofString "__dict__"), (.str (Str.ofString "__dict__") 883), (.ref 517)⟩, ⟨PyData.keyHash P (Str.ofString "__weakref__"), (.str (Str.ofString "__weakref__") 885), (.ref 518)⟩, ⟨PyData.keyHash P (Str.ofString "__doc__"), (.str (Str.ofString "__doc__") 886), .none⟩] 4, #[]⟩) ::
   (nat_lit 516, ⟨(.type "type"), none, (.cls { name := (Str.ofString "Reader"), bases := [(.type "object")], mro := [(.ref 516), (.type "object")], ns := 515, qualname := (Str.ofString "Reader"), hasDict := true, slotNames := [], subclasses := [], abstract := false, collection := none, hasDel := false }), #[none, none, (some (.str (Str.ofString "Reader") 683)), (some (.str (Str.ofString "Reader") 691)), (some (.builtin "object.__new__")), (some (.bool true))]⟩) ::
   (nat_lit 528, ⟨(.type "tuple"), none, .seq #[(.int (0) 903), (.int (0) 904)] 0, #[]⟩) ::
   (nat_lit 529, ⟨(.type "tuple"), none, .seq #[(.ref 528), (.bool false)] 0, #[]⟩) ::
   (nat_lit 535, ⟨(.type "code"), none, .fields #[(.str (Str.ofString "__init__") 905), (.str (Str.ofString "Token.__init__") 906), (.str (Str.ofString "/claim/cut.py") 907), (.int (421) 0), (.int (5) 0), (.int (0) 0), (.int (0) 0), (.int (3) 0), (.ref 530), (.bool true), (.int (181) 0), (.ref 531), .none, (.ref 532), (.ref 533), (.ref 534), (.int (913) 0), (.int (421) 0), (.str (Str.ofString "/claim/cut.py") 914)], #[]⟩) ::
   (nat_lit 536, ⟨(.type "function"), none, .func (fnOf (Str.ofString "__init__") (Str.ofString "Token.__init__") (m 59 0).par (m 59 0).body (m 59 0).scope (.ref 529) .none .none (.str (Str.ofString "ledgerspeak.tokens") 889) none (.ref 535) .none), #[]⟩) ::
   (nat_lit 545, ⟨(.type "dict"), none, .dict #[⟨PyData.keyHash P (Str.ofString "__module__"), (.str (Str.ofString "__module__") 898), (.str (Str.ofString "ledgerspeak.tokens") 889)⟩, ⟨PyData.keyHash P (Str.ofString "__firstlineno__"), (.str (Str.ofString "__firstlineno__") 902), (.int (419) 901)⟩, ⟨PyData.keyHash P (Str.ofString "__init__"), (.str (Str.ofString "__init__") 915), (.ref 536)⟩, ⟨PyData.keyHash P (Str.ofString "told"), (.str (Str.ofString "told") 922), (.ref 543)⟩, ⟨PyData.keyHash P (Str.ofString "__static_attributes__"), (.str (Str.ofString "__static_attributes__") 927), (.ref 544)⟩, ⟨PyData.keyHash P (Str.ofString "__dict__"), (.str (Str.ofString "__dict__") 929), (.ref 547)⟩, ⟨PyData.keyHash P (Str.ofString "__weakref__"), (.str (Str.ofString "__weakref__") 931), (.ref 548)⟩, ⟨PyData.keyHash P (Str.ofString "__doc__"), (.str (Str.ofString "__doc__") 932), .none⟩] 4, #[]⟩) ::
   (nat_lit 546, ⟨(.type "type"), none, (.cls { name := (Str.ofString "Token"), bases := [(.type "object")], mro := [(.ref 546), (.type "object")], ns := 545, qualname := (Str.ofString "Token"), hasDict := true, slotNames := [], subclasses := [], abstract := false, collection := none, hasDel := false }), #[none, none, (some (.str (Str.ofString "Token") 891)), (some (.str (Str.ofString "Token") 899)), (some (.builtin "object.__new__")), (some (.bool true))]⟩) ::
   (nat_lit 554, ⟨(.type "code"), none, .fields #[(.str (Str.ofString "_law_pen") 937), (.str (Str.ofString "_law_pen") 938), (.str (Str.ofString "/claim/cut.py") 939), (.int (430) 0), (.int (1) 0), (.int (0) 0), (.int (0) 0), (.int (3) 0), (.ref 551), (.bool true), (.int (181) 0), (.ref 552), .none, .none, .none, (.ref 553), (.int (940) 0), (.int (430) 0), (.str (Str.ofString "/claim/cut.py") 941)], #[]⟩) ::
   (nat_lit 555, ⟨(.type "function"), none, .func (fnOf (Str.ofString "_law_pen") (Str.ofString "_law_pen") (f 61).par (f 61).body (f 61).scope .none .none .none (.str (Str.ofString "law_pq0621_01") 935) none (.ref 554) .none), #[]⟩) ::
   (nat_lit 561, ⟨(.type "code"), none, .fields #[(.str (Str.ofString "_law_draw") 943), (.str (Str.ofString "_law_draw") 944), (.str (Str.ofString "/claim/cut.py") 945), (.int (433) 0), (.int (2) 0), (.int (0) 0), (.int (0) 0), (.int (3) 0), (.ref 556), (.bool true), (.int (181) 0), (.ref 557), .none, (.ref 558), (.ref 559), (.ref 560), (.int (951) 0), (.int (433) 0), (.str (Str.ofString "/claim/cut.py") 952)], #[]⟩) ::
   (nat_lit 562, ⟨(.type "function"), none, .func (fnOf (Str.ofString "_law_draw") (Str.ofString "_law_draw") (f 62).par (f 62).body (f 62).scope .none .none .none (.str (Str.ofString "law_pq0621_01") 935) none (.ref 561) .none), #[]⟩) ::
   (nat_lit 573, ⟨(.type "code"), none, .fields #[(.str (Str.ofString "_law_words") 962), (.str (Str.ofString "_law_words") 963), (.str (Str.ofString "/claim/cut.py") 964), (.int (444) 0), (.int (1) 0), (.int (0) 0), (.int (0) 0), (.int (3) 0), (.ref 570), (.bool true), (.int (181) 0), (.ref 571), .none, .none, .none, (.ref 572), (.int (965) 0), (.int (444) 0), (.str (Str.ofString "/claim/cut.py") 966)], #[]⟩) ::
   (nat_lit 574, ⟨(.type "function"), none, .func (fnOf (Str.ofString "_law_words") (Str.ofString "_law_words") (f 64).par (f 64).body (f 64).scope .none .none .none (.str (Str.ofString "law_pq0621_01") 935) none (.ref 573) .none), #[]⟩) ::
   (nat_lit 578, ⟨(.type "code"), none, .fields #[(.str (Str.ofString "_law_reader") 968), (.str (Str.ofString "_law_reader") 969), (.str (Str.ofString "/claim/cut.py") 970), (.int (446) 0), (.int (1) 0), (.int (0) 0), (.int (0) 0), (.int (3) 0), (.ref 575), (.bool true), (.int (181) 0), (.ref 576), .none, .none, .none, (.ref 577), (.int (971) 0), (.int (446) 0), (.str (Str.ofString "/claim/cut.py") 972)], #[]⟩) ::
   (nat_lit 579, ⟨(.type "function"), none, .func (fnOf (Str.ofString "_law_reader") (Str.ofString "_law_reader") (f 65).par (f 65).body (f 65).scope .none .none .none (.str (Str.ofString "law_pq0621_01") 935) none (.ref 578) .none), #[]⟩) ::
   (nat_lit 585, ⟨(.type "code"), none, .fields #[(.str (Str.ofString "_law_item") 974), (.str (Str.ofString "_law_item") 975), (.str (Str.ofString "/claim/cut.py") 976), (.int (448) 0), (.int (1) 0), (.int (0) 0), (.int (0) 0), (.int (3) 0), (.ref 580), (.bool true), (.int (181) 0), (.ref 581), .none, (.ref 582), (.ref 583), (.ref 584), (.int (978) 0), (.int (448) 0), (.str (Str.ofString "/claim/cut.py") 979)], #[]⟩) ::
   (nat_lit 586, ⟨(.type "function"), none, .func (fnOf (Str.ofString "_law_item") (Str.ofString "_law_item") (f 66).par (f 66).body (f 66).scope .none .none .none (.str (Str.ofString "law_pq0621_01") 935) none (.ref 585) .none), #[]⟩) ::
   (nat_lit 592, ⟨(.type "code"), none, .fields #[(.str (Str.ofString "_law_phrases") 981), (.str (Str.ofString "_law_phrases") 982), (.str (Str.ofString "/claim/cut.py") 983), (.int (450) 0), (.int (0) 0), (.int (0) 0), (.int (0) 0), (.int (3) 0), (.ref 587), (.bool true), (.int (181) 0), (.ref 588), .none, (.ref 589), (.ref 590), (.ref 591), (.int (985) 0), (.int (450) 0), (.str (Str.ofString "/claim/cut.py") 986)], #[]⟩) ::
   (nat_lit 593, ⟨(.type "function"), none, .func (fnOf (Str.ofString "_law_phrases") (Str.ofString "_law_phrases") (f 67).par (f 67).body (f 67).scope .none .none .none (.str (Str.ofString "law_pq0621_01") 935) none (.ref 592) .none), #[]⟩) ::
   (nat_lit 597, ⟨(.type "code"), none, .fields #[(.str (Str.ofString "_law_due") 988), (.str (Str.ofString "_law_due") 989), (.str (Str.ofString "/claim/cut.py") 990), (.int (453) 0), (.int (2) 0), (.int (0) 0), (.int (0) 0), (.int (3) 0), (.ref 594), (.bool true), (.int (181) 0), (.ref 595), .none, .none, .none, (.ref 596), (.int (991) 0), (.int (453) 0), (.str (Str.ofString "/claim/cut.py") 992)], #[]⟩) ::
   (nat_lit 598, ⟨(.type "function"), none, .func (fnOf (Str.ofString "_law_due") (Str.ofString "_law_due") (f 68).par (f 68).body (f 68).scope .none .none .none (.str (Str.ofString "law_pq0621_01") 935) none (.ref 597) .none), #[]⟩) ::
   (nat_lit 604, ⟨(.type "code"), none, .fields #[(.str (Str.ofString "_law_body") 994), (.str (Str.ofString "_law_body") 995), (.str (Str.ofString "/claim/cut.py") 996), (.int (472) 0), (.int (1) 0), (.int (0) 0), (.int (0) 0), (.int (3) 0), (.ref 599), (.bool true), (.int (181) 0), (.ref 600), .none, (.ref 601), (.ref 602), (.ref 603), (.int (999) 0), (.int (472) 0), (.str (Str.ofString "/claim/cut.py") 1000)], #[]⟩) ::
   (nat_lit 605, ⟨(.type "function"), none, .func (fnOf (Str.ofString "_law_body") (Str.ofString "_law_body") (f 69).par (f 69).body (f 69).scope .none .none .none (.str (Str.ofString "law_pq0621_01") 935) none (.ref 604) .none), #[]⟩) ::
   (nat_lit 611, ⟨(.type "code"), none, .fields #[(.str (Str.ofString "_law_right") 1002), (.str (Str.ofString "_law_right") 1003), (.str (Str.ofString "/claim/cut.py") 1004), (.int (477) 0), (.int (2) 0), (.int (0) 0), (.int (0) 0), (.int (3) 0), (.ref 606), (.bool true), (.int (181) 0), (.ref 607), .none, (.ref 608), (.ref 609), (.ref 610), (.int (1019) 0), (.int (477) 0), (.str (Str.ofString "/claim/cut.py") 1020)], #[]⟩) ::
   (nat_lit 612, ⟨(.type "function"), none, .func (fnOf (Str.ofString "_law_right") (Str.ofString "_law_right") (f 70).par (f 70).body (f 70).scope .none .none .none (.str (Str.ofString "law_pq0621_01") 935) none (.ref 611) .none), #[]⟩) ::
   (nat_lit 616, ⟨(.type "code"), none, .fields #[(.str (Str.ofString "law") 1022), (.str (Str.ofString "law") 1023), (.str (Str.ofString "/claim/cut.py") 1024), (.int (494) 0), (.int (1) 0), (.int (0) 0), (.int (0) 0), (.int (3) 0), (.ref 613), (.bool true), (.int (181) 0), (.ref 614), .none, .none, .none, (.ref 615), (.int (1025) 0), (.int (494) 0), (.str (Str.ofString "/claim/cut.py") 1026)], #[]⟩) ::
   (nat_lit 617, ⟨(.type "function"), none, .func (fnOf (Str.ofString "law") (Str.ofString "law") (f 71).par (f 71).body (f 71).scope .none .none .none (.str (Str.ofString "law_pq0621_01") 935) none (.ref 616) .none), #[]⟩) :: []
local macro_rules | `(tactic| walk_at $s:str) => `(tactic| k_extra $s)
local macro_rules | `(tactic| k_ne) => `(tactic| k_extra "k_ne")
local macro_rules | `(tactic| k_all) => `(tactic| k_extra "k_all")
noncomputable def q0 : Program := view PySem.Challenge.pw_pq0621_01 [71]
noncomputable def loose0 : List Str := (["_wall", "LedgerError", "TokenFault", "GrammarFault", "FIGURES", "cut_quotient", "decimal", "negated", "units_at", "is_whole", "whole_of", "worth_of", "read_decimal", "MOST_SUBSCRIPTS", "FIGURE_NAMES", "is_part_next", "read_subscripts", "read_part", "read_ref", "read_all", "read_figure", "read_operand", "MOST_DEEP", "read_expression", "sign_among", "read_sum", "read_product", "read_factor", "is_lone_number", "read_power", "read_primary", "FIGURE_WORDS", "word_ahead", "phrase_words", "opening_length", "body_here", "branches_here", "begins_operand", "ref_here", "refuse_at", "operand_here", "text_here", "pointer_here", "delimiters_here", "unstrung_row", "read_unstring", "MOST_OCTET", "RESERVED", "is_reserved", "octets_of_text", "Reader", "Token", "_law_pen", "_law_draw", "_law_pick", "_law_words", "_law_reader", "_law_item", "_law_phrases", "_law_due", "_law_body", "_law_right"] : List String).map Str.ofString
noncomputable def asK : List Addr := nat_lit 2 :: nat_lit 3 :: nat_lit 29 :: nat_lit 30 :: nat_lit 36 :: nat_lit 37 :: nat_lit 46 :: nat_lit 47 :: nat_lit 71 :: nat_lit 72 :: nat_lit 132 :: nat_lit 138 :: nat_lit 139 :: nat_lit 159 :: nat_lit 160 :: nat_lit 166 :: nat_lit 167 :: nat_lit 173 :: nat_lit 174 :: nat_lit 180 :: nat_lit 181 :: nat_lit 187 :: nat_lit 188 :: nat_lit 243 :: nat_lit 244 :: nat_lit 250 :: nat_lit 251 :: nat_lit 257 :: nat_lit 258 :: nat_lit 264 :: nat_lit 265 :: nat_lit 271 :: nat_lit 272 :: nat_lit 278 :: nat_lit 279 :: nat_lit 285 :: nat_lit 286 :: nat_lit 292 :: nat_lit 293 :: nat_lit 299 :: nat_lit 300 :: nat_lit 306 :: nat_lit 307 :: nat_lit 313 :: nat_lit 314 :: nat_lit 320 :: nat_lit 321 :: nat_lit 327 :: nat_lit 328 :: nat_lit 334 :: nat_lit 335 :: nat_lit 341 :: nat_lit 342 :: nat_lit 346 :: nat_lit 347 :: nat_lit 355 :: nat_lit 361 :: nat_lit 362 :: nat_lit 363 :: nat_lit 369 :: nat_lit 370 :: nat_lit 383 :: nat_lit 384 :: nat_lit 390 :: nat_lit 391 :: nat_lit 392 :: nat_lit 398 :: nat_lit 399 :: nat_lit 405 :: nat_lit 406 :: nat_lit 412 :: nat_lit 413 :: nat_lit 419 :: nat_lit 420 :: nat_lit 426 :: nat_lit 427 :: nat_lit 435 :: nat_lit 441 :: nat_lit 442 :: nat_lit 448 :: nat_lit 449 :: nat_lit 457 :: nat_lit 463 :: nat_lit 464 :: nat_lit 470 :: nat_lit 471 :: nat_lit 484 :: nat_lit 485 :: nat_lit 512 :: nat_lit 513 :: nat_lit 515 :: nat_lit 516 :: nat_lit 528 :: nat_lit 529 :: nat_lit 535 :: nat_lit 536 :: nat_lit 545 :: nat_lit 546 :: nat_lit 554 :: nat_lit 555 :: nat_lit 561 :: nat_lit 562 :: nat_lit 573 :: nat_lit 574 :: nat_lit 578 :: nat_lit 579 :: nat_lit 585 :: nat_lit 586 :: nat_lit 592 :: nat_lit 593 :: nat_lit 597 :: nat_lit 598 :: nat_lit 604 :: nat_lit 605 :: nat_lit 611 :: nat_lit 612 :: nat_lit 616 :: nat_lit 617 :: []
theorem asK_eq (P : Params) : asK = (K P).map (·.1) := rfl
/-- the top's run over a heap that is a tree -/
noncomputable def runT (tb : String → Option Builtin) (p : Program) (w : World) (n₀ : Nat) (ann : Option Value) (n : Nat) : SharedT → Thread → Option SharedT :=
  Nat.rec (fun _ _ => none) (fun _ ih s t => @Bool.rec (fun _ => Option SharedT) (@Bool.rec (fun _ => Option SharedT) none (@Option.rec _ (fun _ => Option SharedT) none (fun q => @Prod.rec _ _ (fun _ => Option SharedT) (fun s' t' => ih s' t') q) (Fast.tw10156331382660048174 (Fast.tw11892475500146522536 tb) p w s t)) (Fast.tw6613529449190102663 n₀ ann t)) (some s) (through t)) n
theorem runT_of {tb : String → Option Builtin} {p : Program} {w : World} {n₀ : Nat} {ann : Option Value} : ∀ {n : Nat} {s s' : SharedT} {t : Thread}, runT tb p w n₀ ann n s t = some s' → topRun tb p w n₀ ann n s.abs t = some s'.abs
  | 0, _, _, _, h => by cases h
  | n + 1, s, s', t, h => by
    have e : runT tb p w n₀ ann (n + 1) s t = @Bool.rec (fun _ => Option SharedT) (@Bool.rec (fun _ => Option SharedT) none (@Option.rec _ (fun _ => Option SharedT) none (fun q => @Prod.rec _ _ (fun _ => Option SharedT) (fun s' t' => runT tb p w n₀ ann n s' t') q) (stepT (denote tb) p w s t)) (stepOk n₀ ann t)) (some s) (through t) := by
      rw [Fast.te10156331382660048174, Fast.te11892475500146522536, Fast.te6613529449190102663]; rfl
    rw [e] at h
    unfold topRun
    cases ht : through t with
    | true => rw [ht] at h; cases h; rfl
    | false =>
      rw [ht] at h
      cases hk : stepOk n₀ ann t with
      | false => rw [hk] at h; cases h
      | true =>
        rw [hk] at h
        cases hs : stepT (denote tb) p w s t with
        | none => rw [hs] at h; cases h
        | some r => obtain ⟨s₂, t₂⟩ := r; rw [hs] at h; rw [stepT_spec hs]; exact runT_of h
/-- the objects, laid into a tree -/
noncomputable def insAll : List Obj → BT → Nat → Option BT
  | [], T, _ => some T
  | o :: r, T, n => match ((T.ins n o).get n).isSome with
    | true => insAll r (T.ins n o) (n + 1)
    | false => none
theorem insAll_abs {life : Life} : ∀ {l : List Obj} {T T' : BT} {n : Nat}, insAll l T n = some T' → (absHeap T' (n + l.length) life).objs = (absHeap T n life).objs ++ l.toArray
  | [], T, T', n, h => by cases h; simp
  | o :: r, T, T', n, h => by
    unfold insAll at h
    cases hk : ((T.ins n o).get n).isSome with
    | false => rw [hk] at h; cases h
    | true =>
      rw [hk] at h
      have := insAll_abs (life := life) h
      rw [absHeap_ins hk] at this
      rw [show n + (o :: r).length = n + 1 + r.length by simp [Nat.add_comm, Nat.add_left_comm], this]
      show ((absHeap T n life).objs.push o) ++ r.toArray = _
      simp
noncomputable def toT (s : Shared) : Option SharedT := (insAll s.heap.objs.toList .nil 0).map fun T => ⟨T, s.heap.objs.toList.length, s.heap.life, s.gens, s.drawn, s.toks, s.os⟩
theorem toT_abs {s : Shared} {S : SharedT} (h : toT s = some S) : S.abs = s := by
  unfold toT at h
  obtain ⟨T, hT, rfl⟩ := Option.map_eq_some_iff.mp h
  have := insAll_abs (life := s.heap.life) hT
  obtain ⟨⟨objs, life⟩, gens, drawn, toks, os⟩ := s
  show Shared.mk (absHeap T objs.toList.length life) gens drawn toks os = _
  have e : absHeap T objs.toList.length life = ⟨objs, life⟩ := by
    show Heap.mk _ _ = _
    refine congrArg (Heap.mk · life) ?_
    rw [Nat.zero_add] at this
    exact this.trans (by show (#[] : Array Obj) ++ objs.toList.toArray = objs; simp)
  rw [e]
noncomputable def topT (tb : String → Option Builtin) (p : Program) (w : World) (N : Nat) (s₀ : Shared) : Option Shared :=
  match s₀.heap.isNs mainGlobals && s₀.gens.size == 0 with
  | true => (toT s₀).bind fun S => (runT tb p w s₀.heap.objs.size (s₀.heap.nsMap mainGlobals "__annotations__") N S (topStub p)).bind fun S' =>
    match staticsOk (importedModules p.main.body) s₀.heap S'.abs.heap && namesBound p S'.abs.heap && gensDone S'.abs && laidKept s₀.heap S'.abs.heap with
      | true => some S'.abs
      | false => none
  | false => none
theorem topT_of {tb : String → Option Builtin} {p : Program} {w : World} {N : Nat} {s₀ s : Shared} (h : topT tb p w N s₀ = some s) : topFrom tb p w N s₀ = some s := by
  unfold topT at h
  unfold topFrom
  cases hk : (s₀.heap.isNs mainGlobals && s₀.gens.size == 0) with
  | false => rw [hk] at h; cases h
  | true =>
    rw [hk] at h
    obtain ⟨S, hS, h⟩ := Option.bind_eq_some_iff.mp h
    obtain ⟨S', hS', h⟩ := Option.bind_eq_some_iff.mp h
    have := runT_of hS'
    rw [toT_abs hS] at this
    show (topRun tb p w s₀.heap.objs.size (s₀.heap.nsMap mainGlobals "__annotations__") N s₀ (topStub p)).bind _ = _
    rw [this]
    exact h
theorem leftF (w : World) : (fencedOpening treeTable rw.prog w 7606).map (fun s₀ => (topT treeTable rw.prog (w.withFollow "special-get-raises" false) 7606 s₀).map fun s => (openSeen q0 loose0 (importedModules rw.prog.main.body) (fun _ => true) true s, asK.map s.heap.get?)) =
    some (some (openGood q0 loose0, (K (w.withFollow "special-get-raises" false).params).map fun p => some p.2)) := by
  unfold fencedOpening topT
  rw [PySem.W.Fast.te10274390034422433532, PySem.W.Fast.te14289696077712309145, PySem.W.Fast.te4187177175401517315, PySem.W.Fast.te5923862056798008813, PySem.W.Fast.te14364793385576792824, PySem.W.Fast.te1435165496053646825]
  kernel_rfl
theorem leftT (w : World) : (fencedOpening treeTable rw.prog w 7606).map (fun s₀ => (topT treeTable rw.prog (w.withFollow "special-get-raises" true) 7606 s₀).map fun s => (openSeen q0 loose0 (importedModules rw.prog.main.body) (fun _ => true) true s, asK.map s.heap.get?)) =
    some (some (openGood q0 loose0, (K (w.withFollow "special-get-raises" true).params).map fun p => some p.2)) := by
  unfold fencedOpening topT
  rw [PySem.W.Fast.te10274390034422433532, PySem.W.Fast.te14289696077712309145, PySem.W.Fast.te4187177175401517315, PySem.W.Fast.te5923862056798008813, PySem.W.Fast.te14364793385576792824, PySem.W.Fast.te1435165496053646825]
  kernel_rfl
theorem left_of {α : Type} {o : Option Shared} {g g' : Shared → Option Shared} {F : Shared → α} {X : α} (h : o.map (fun s₀ => (g s₀).map F) = some (some X)) (hg : ∀ s₀ s, g s₀ = some s → g' s₀ = some s) : o.map (fun s₀ => (g' s₀).map F) = some (some X) := by
  obtain ⟨s₀, h1, h2⟩ := Option.map_eq_some_iff.mp h
  obtain ⟨s, h3, h4⟩ := Option.map_eq_some_iff.mp h2
  rw [h1, Option.map_some, hg _ _ h3, Option.map_some, h4]
theorem left0 : LeftO rw.prog q0 loose0 (fun _ => true) (fun s => asK.map s.heap.get?) (fun w => (K w.params).map fun p => some p.2) 7606 := by
  refine LeftO.of_split "special-get-raises" fun w => ?_
  obtain ⟨s₀, a, b⟩ := Option.map_eq_some_iff.mp (left_of (leftF w) fun _ _ => topT_of)
  have c := left_of (leftT w) fun _ _ => topT_of
  rw [a] at c ⊢
  rw [Option.map_some] at c ⊢
  exact congrArg some (Prod.ext b (Option.some.inj c))
theorem row1 : True := by
  k_with "qk" => (((try rw [PySem.W.Fast.te8326940854005059898]); (try rw [PySem.W.Fast.te11788848310118352699]); (try rw [PySem.W.Fast.te9807087744658564304]); (try rw [PySem.W.Fast.te12862048085361865435]); (try rw [PySem.W.Fast.te8377067652309620493]); (try rw [PySem.W.Fast.te18344453789297297638]); (try rw [PySem.W.Fast.te14412699480532031325]); (try rw [PySem.W.Fast.te17119622794617984870]); (try rw [PySem.W.Fast.te17868728402115742887]); (try rw [PySem.W.Fast.te2368527892694137696]); (try rw [PySem.W.Fast.te9706382859710513879]); (try rw [PySem.W.Fast.te13582783067957832011]); (try rw [PySem.W.Fast.sDec_eq]); kernel_rfl))
  trivial

theorem roads_append (lk : Look) : ∀ (a b : List Stmt), noRoadLSs lk (a ++ b) = (noRoadLSs lk a && noRoadLSs lk b)
  | [], b => by simp [noRoadLSs]
  | s :: r, b => by
    show (noRoadLS lk s && noRoadLSs lk (r ++ b)) = ((noRoadLS lk s && noRoadLSs lk r) && noRoadLSs lk b)
    rw [roads_append lk r b, Bool.and_assoc]

noncomputable abbrev theBody : List Stmt := PySem.Challenge.pw_pq0621_01.main.body
noncomputable abbrev theLook : Look := { strict := !(importedModules theBody).all cThrough.contains, foot := none, bare := (["vars", "dir", "locals"] : List Str).filter (readsOut PySem.Challenge.pw_pq0621_01 theBody) }
noncomputable abbrev lk0 : Look := { strict := false, foot := none, bare := [] }
theorem look_is : theLook = lk0 := by
  have h1 : (!(importedModules theBody).all cThrough.contains) = false := by decide +kernel
  have h2 : (["vars", "dir", "locals"] : List Str).filter (readsOut PySem.Challenge.pw_pq0621_01 theBody) = [] := by decide +kernel
  unfold theLook
  rw [h1, h2]

theorem body_split : theBody = theBody.take 54 ++ (theBody.drop 54).take 1 ++ theBody.drop 55 := by
  rw [List.append_assoc]
  conv => lhs; rw [← List.take_append_drop 54 theBody]
  conv => lhs; rhs; rw [← List.take_append_drop 1 (theBody.drop 54), List.drop_drop]

set_option maxHeartbeats 0 in
theorem roads1 : noRoadLSs lk0 (theBody.take 54) = true := by walk_at "qk"
set_option maxHeartbeats 0 in
theorem roads3 : noRoadLSs lk0 (theBody.drop 55) = true := by walk_at "qk"

theorem st_is : ∃ p k q l, (theBody.drop 54).take 1 = [Stmt.Assign [Expr.Name "RESERVED" p] (.Constant (.str theR) k q) l] := ⟨_, _, _, _, rfl⟩
theorem str_of (x : Str) (h1 : attrL x = true) (h2 : roadStr x = false) : lk0.str x = true := by
  unfold Look.str Look.word
  simp [h1, h2]
theorem any_list (x : Str) (p : Nat → Bool) : x.cps.any p = x.cps.toList.any p := by rw [Array.any_toList]
theorem no_road : roadStr theR = false := by
  unfold roadStr
  rw [any_list, any_list, any_list]
  have h : (!((theR.cps.toList.any fun c => c == 123 || c == 125) || ((theR.cps.toList.any (· == 46)) && !theR.cps.toList.any (· ≤ 32)))) = true := by rw [theR_codes]; decide +kernel
  rwa [Bool.not_eq_true'] at h
theorem attr_of (n : Str) (h1 : frameAttrs.contains n = false) (h2 : n.opensWith "__" = false) : attrL n = true := by
  unfold attrL
  rw [h1, h2]; rfl
theorem ne_of_head {a b : Str} (h : a.cps.toList.head? ≠ b.cps.toList.head?) : (a == b) = false := by
  rw [beq_eq_false_iff_ne]
  intro e; exact h (by rw [e])
theorem not_in : ∀ (l : List Str) (x : Str), (l.all fun y => y.cps.toList.head? != x.cps.toList.head?) = true → l.contains x = false
  | [], _, _ => rfl
  | y :: r, x, h => by
    rw [List.all_cons, Bool.and_eq_true] at h
    rw [List.contains_cons, not_in r x h.2, Bool.or_false]
    exact ne_of_head (fun e => by have := h.1; rw [e] at this; simp at this)
theorem opens : theR.opensWith "__" = false := by
  have h : (!theR.opensWith "__") = true := by rw [theR_is]; decide +kernel
  rwa [Bool.not_eq_true'] at h
theorem fa : frameAttrs.contains theR = false := not_in _ _ (by rw [theR_codes]; decide +kernel)
theorem roads2 : noRoadLSs lk0 ((theBody.drop 54).take 1) = true := by
  obtain ⟨p, k, q, l, e⟩ := st_is
  rw [e]
  have h1 : lk0.str theR = true := str_of _ (attr_of _ fa opens) no_road
  have h2 : noRoadLs lk0 [Expr.Name "RESERVED" p] = true := rfl
  have h3 : lk0.stores [Expr.Name "RESERVED" p] = true := rfl
  show (lk0.stores [Expr.Name "RESERVED" p] && noRoadLs lk0 [Expr.Name "RESERVED" p] && lk0.str theR && true) = true
  rw [h1, h2, h3]; rfl
theorem roads : noRoadLSs theLook theBody = true := by
  rw [look_is, body_split, roads_append, roads_append, roads1, roads2, roads3]; rfl

theorem looks_open : looksOpen PySem.Challenge.pw_pq0621_01 = true := by
  unfold looksOpen
  refine look_both (look_both (look_both (look_both (look_both ?_ ?_) ?_) ?_) roads) ?_
  all_goals walk_at "qk"
set_option maxHeartbeats 0


theorem part_said : PySem.Challenge.rw_pq0621_01.row.partSaid = true := by
  unfold OpenRow.partSaid
  iterate 13 (with_reducible refine look_both ?_ ?_)
  exact looks_open
  all_goals first | walk_at "qk" | decide +kernel
theorem row_said' : PySem.Challenge.rw_pq0621_01.row.wellSaid = true := by
  unfold OpenRow.wellSaid
  with_reducible refine look_both (look_both part_said ?_) ?_
  all_goals first | walk_at "qk" | decide +kernel
theorem said : PySem.Challenge.rw_pq0621_01.wellSaid = true := by
  unfold OpenLaw.wellSaid
  iterate 18 (with_reducible refine look_both ?_ ?_)
  exact row_said'
  all_goals first | walk_at "qk" | decide +kernel
noncomputable def posOf : Option Stmt → Pos
  | some (.FunctionDef _ _ _ _ _ _ _ _ _ p) => p
  | _ => default
noncomputable def d0 : DefRec := { pos := posOf (PySem.Challenge.pw_pq0621_01.main.body[71]?), name := Str.ofString "law", params := (f 71).par, body := (f 71).body, scope := (f 71).scope }
theorem hdef0 : defOf q0 rw.row.name = some (d0, []) := by kernel_rfl
theorem hp0 : rw.row.prog.theDef rw.row.name = some (d0.params, d0.body, d0.scope) := by kernel_rfl
theorem hk0 : kwWritten? d0.params.kwonlyargs d0.params.kw_defaults = some [] := by kernel_rfl
theorem saidX : PySem.Challenge.rw_pq0621_01.wellSaid = true := said
noncomputable abbrev hk : Hook := kHook K asK asK_eq
set_option rowWalk.seconds 0
set_option maxHeartbeats 0
theorem ok0 : (chainsOk q0 && opensWell rw.prog && (frees rw.row.toRowW && rw.row.within.isEmpty)) = true := by decide +kernel
theorem bare0 : rw.row.prog.bare := ⟨rfl, rfl, rfl, rfl, rfl, by decide +kernel⟩
theorem none0 : (!rw.row.writes || rw.row.records.isEmpty) = true := by rfl
theorem recs0 : rw.row.records = [] := rfl
theorem head0 (call : WalkO q0 loose0 (fun _ _ => True) (InK K) rw.row.toRowW d0 [] fun f vs => PySem.call f vs) (hw : rw.row.toRowW.promised) : PySem.Challenge.rw_pq0621_01.Holds :=
  holds_law saidX fun said => PySem.W.holds_open (r := rw.row) (q := q0) (loose := loose0) (Xt := fun _ => true) (XP := fun _ _ => True) (Yf := Hook.obs hk) (Ya := Hook.val hk) (YP := InK K) (N := 7606) left0 (Hook.of hk) (Hook.keeps hk) (fun _ _ => trivial) (fun _ _ _ _ _ => trivial) hdef0 hp0 hk0 (fun s _ => recFacts_nil recs0) none0 said ok0 bare0 hw call
theorem prom0 : rw.row.toRowW.promised := ⟨[.list []], by decide +kernel, by decide +kernel⟩

/-- entering a def: what the base keeps is told -/
theorem enter {prog : Program} {w : World} {A A₀ : Around} {s : Shared} {base h₀ : Heap} {env : Env} {outer : List Env} {L : Addr} {m : Str → Option Value} {news : List (Addr × Obj)} {K : Frag} {p : Program} {loose : List Str} {mean : ExcName → Option Value} {mg mb : Str → Option Value}
    {Q E : Value → Shared → Prop} {name qual : Str} {params : Arguments} {body : List Stmt} {scope : Scope} {dV kV doc pm cdv ct oc : Value} {an od : Option Addr} {osl : Array (Option Value)} {f : Addr} {vs : List Value} (binds : List (Str × Value))
    (B : Below A₀ base outer h₀) (F : Fr h₀ L s.heap m) (X₀ : K.In h₀) (N : News h₀ L s.heap news) (T : Top p loose mean mg mb h₀) (hA : A.frames = some (env :: outer)) (hf : env.frame = some L) (hke : env.scope.kind = .function)
    (ho : K.lookup f = some ⟨oc, od, .func (fnOf name qual params body scope dV kV doc pm an cdv ct), osl⟩) (hcd : codeIn K cdv qual = true) (hroom : A.depth < recursionLimit)
    (hbind : BindsTo s (fnOf name qual params body scope dV kV doc pm an cdv ct) ⟨vs, []⟩ binds) (hloc : ∀ y ∈ binds, scope.names.lookup y.1 = some .local)
    (h : ∀ g L' h₁ tk₁, (∀ b o, s.heap.get? b = some o → b ∉ news.map (·.1) → g.get? b = some o) → Fr g L' h₁ (fun y => binds.reverse.lookup y) → News g L' h₁ news → Below A base (env :: outer) g → K.In g → Top p loose mean mg mb g →
      (∀ p ∈ news, p.1 < L') →
      wpAny (model prog w) (A.deeper (envOf qual scope L' f cdv)) (execs body (envOf qual scope L' f cdv))
        (fun fl s' => Q (match fl with | .ret v => v | _ => .none) s')
        (fun e s' => wpAny (model prog w) (A.deeper (envOf qual scope L' f cdv)) (leaving (envOf qual scope L' f cdv) e) (fun _ s'' => E e s'') (fun e' s'' => E e' s'') s')
        { s with heap := h₁, toks := tk₁ })
    (hco : scope.isCoroutine = false) (hgen : scope.isGenerator = false) (hk : scope.kind = .function)
    (hcell : ∀ x ∈ scope.names, x.2 ≠ .cell) : wpAny (model prog w) A (call (.ref f) vs) Q E s := by
  refine wpAny_call ?_
  obtain ⟨_, BG, st, _⟩ := groundX (R := fun _ _ => True) B F N hA hf hke
  refine codeAny_call_def (fd := fnOf name qual params body scope dV kV doc pm an cdv ct) (body := body) (binds := binds) hroom (X₀.keeps F.keep _ _ ho) rfl (T.nolimit.keeps F.keep) (codeRec_of (X₀.keeps F.keep) hcd) rfl hbind hcell hloc (fun h₁ hns hk₁ => ?_) hco hgen hk
  exact h _ s.heap.objs.size h₁ _ (fun b o e n => hideAll_get _ e n) ⟨hns, fun b o e => hk₁ b o (of_hideAll _ e), Nat.le_of_eq (hideAll_size _ _)⟩
    (fun p hp => ⟨hk₁ _ _ (N p hp).1, Nat.ne_of_lt (Heap.lt_size (N p hp).1), hideAll_none _ (List.mem_map_of_mem hp)⟩) BG (X₀.keeps st) (T.keeps st) (fun p hp => Heap.lt_size (N p hp).1)


/-- the reader: its object, its dict, the tokens' list -/
structure RD where
  x : Addr
  dx : Addr
  tl : Addr
  nd : Addr
  t1 : Tok
  t2 : Tok
  t3 : Tok
  ne : x ≠ dx
noncomputable abbrev rdX (dx : Addr) : Obj := ⟨.ref 516, some dx, .plain, #[]⟩
noncomputable abbrev rdD (w : World) (R : RD) (p : Int) (t : Tok) : Obj :=
  dictOf [⟨PyData.keyHash w.params (Str.ofString "tokens"), .str (Str.ofString "tokens") R.t1, .ref R.tl⟩, ⟨PyData.keyHash w.params (Str.ofString "at"), .str (Str.ofString "at") R.t2, .int p t⟩, ⟨PyData.keyHash w.params (Str.ofString "named"), .str (Str.ofString "named") R.t3, .ref R.nd⟩] 3
noncomputable abbrev rdL (w : World) (R : RD) (p : Int) (t : Tok) : List (Addr × Obj) := [(R.x, rdX R.dx), (R.dx, rdD w R p t)]
noncomputable def pk (vs : List Value) (i : Nat) : Value := (vs[i]?).getD .none

noncomputable abbrev tkX (d : Addr) : Obj := ⟨.ref 546, some d, .plain, #[]⟩
noncomputable abbrev tkD (w : World) (k u : Str) (ta : Addr) (a b c d e f : Tok) : Obj :=
  dictOf [⟨PyData.keyHash w.params (Str.ofString "kind"), .str (Str.ofString "kind") a, .str k b⟩, ⟨PyData.keyHash w.params (Str.ofString "worth"), .str (Str.ofString "worth") c, .str u d⟩, ⟨PyData.keyHash w.params (Str.ofString "at"), .str (Str.ofString "at") e, .ref ta⟩, ⟨PyData.keyHash w.params (Str.ofString "is_in_a"), .str (Str.ofString "is_in_a") f, .bool false⟩] 4
inductive TokAt (w : World) (h : Heap) (x : Addr) (k u : Str) (i : Nat) : Prop
  | mk (d ta : Addr) (a b c e f g : Tok) (n : Nat) (y z : Tok) : h.get? x = some (tkX d) → h.get? d = some (tkD w k u ta a b c e f g) → h.get? ta = some ⟨.type "tuple", none, .seq #[.int ((i : Nat) + 1) y, .int 12 z] n, #[]⟩ → u.length ≤ 1000 → TokAt w h x k u i
noncomputable def Tok1 (w : World) (h : Heap) (v : Value) (k u : Str) (i : Nat) : Prop := ∃ x, v = .ref x ∧ TokAt w h x k u i
noncomputable def Toks (w : World) (h : Heap) (R : RD) (vs : List Value) (ts : List (Str × Str)) : Prop :=
  h.IsList R.tl vs.toArray ∧ vs.length = ts.length ∧ ts.length < 1000 ∧ ∀ i k u, ts[i]? = some (k, u) → Tok1 w h (pk vs i) k u i

noncomputable def KeepAll (h h' : Heap) : Prop := ∀ b o, h.get? b = some o → h'.get? b = some o
noncomputable def Keep (d : Addr) (h h' : Heap) : Prop := ∀ b o, h.get? b = some o → b ≠ d → h'.get? b = some o
noncomputable def After (w : World) (R : RD) (p : Int) (t : Tok) (h h' : Heap) : Prop := Keep R.dx h h' ∧ h'.get? R.dx = some (rdD w R p t)

/-- objects made behind h -/
noncomputable def New (h h' : Heap) (l : List (Addr × Obj)) : Prop := ∀ q ∈ l, h'.get? q.1 = some q.2 ∧ h.get? q.1 = none
noncomputable def AllNe (a : Addr) : List (Addr × Obj) → Prop
  | [] => True
  | q :: r => @Ne Nat q.1 a ∧ AllNe a r
theorem allNe_of {a : Addr} : ∀ {l : List (Addr × Obj)}, (∀ q ∈ l, q.1 ≠ a) → AllNe a l
  | [], _ => trivial
  | q :: _, h => ⟨h q (.head _), allNe_of fun x hx => h x (.tail _ hx)⟩
theorem AllNe.get {a r : Addr} {o : Obj} : ∀ {l : List (Addr × Obj)}, AllNe a l → (r, o) ∈ l → @Ne Nat r a
  | _ :: _, h, .head _ => h.1
  | _ :: _, h, .tail _ hm => AllNe.get h.2 hm
noncomputable abbrev tupO (l : List Value) : Obj := { cls := .type "tuple", data := .seq l.toArray }
/-- what a value of tuples tells -/
inductive D where
  | none
  | bool (b : Bool)
  | str (u : Str)
  | bytes (b : Array UInt8)
  | tup (xs : List D)
mutual
inductive RepN (P : Addr → Obj → Prop) : Value → D → Prop
  | none : RepN P .none .none
  | bool (b : Bool) : RepN P (.bool b) (.bool b)
  | str (u : Str) (t : Tok) : RepN P (.str u t) (.str u)
  | bytes (b : Array UInt8) (t : Tok) : RepN P (.bytes b t) (.bytes b)
  | tup {a : Addr} {vs : List Value} {ds : List D} : P a (tupO vs) → RepA P vs ds → RepN P (.ref a) (.tup ds)
inductive RepA (P : Addr → Obj → Prop) : List Value → List D → Prop
  | nil : RepA P [] []
  | cons {v : Value} {d : D} {vs : List Value} {ds : List D} : RepN P v d → RepA P vs ds → RepA P (v :: vs) (d :: ds)
end
noncomputable def RepL (l : List (Addr × Obj)) : Value → D → Prop := RepN fun a o => (a, o) ∈ l
mutual
theorem RepN.mono {P P' : Addr → Obj → Prop} (h : ∀ a o, P a o → P' a o) : ∀ {v : Value} {d : D}, RepN P v d → RepN P' v d
  | _, _, .none => .none
  | _, _, .bool b => .bool b
  | _, _, .str u t => .str u t
  | _, _, .bytes b t => .bytes b t
  | _, _, .tup a r => .tup (h _ _ a) (RepA.mono h r)
theorem RepA.mono {P P' : Addr → Obj → Prop} (h : ∀ a o, P a o → P' a o) : ∀ {v : List Value} {d : List D}, RepA P v d → RepA P' v d
  | _, _, .nil => .nil
  | _, _, .cons a r => .cons (RepN.mono h a) (RepA.mono h r)
end
mutual
theorem RepN.list {P : Addr → Obj → Prop} : ∀ {v : Value} {d : D}, RepN P v d → ∃ l : List (Addr × Obj), (∀ q ∈ l, P q.1 q.2) ∧ RepL l v d
  | _, _, .none => ⟨[], (fun _ h => nomatch h), .none⟩
  | _, _, .bool b => ⟨[], (fun _ h => nomatch h), .bool b⟩
  | _, _, .str u t => ⟨[], (fun _ h => nomatch h), .str u t⟩
  | _, _, .bytes b t => ⟨[], (fun _ h => nomatch h), .bytes b t⟩
  | _, _, .tup (a := a) (vs := vs) h r => by
    obtain ⟨l, hl, hr⟩ := RepA.list r
    refine ⟨(a, tupO vs) :: l, fun q hq => ?_, .tup (.head _) (RepA.mono (fun _ _ h => .tail _ h) hr)⟩
    rcases List.mem_cons.mp hq with rfl | hq
    · exact h
    · exact hl q hq
theorem RepA.list {P : Addr → Obj → Prop} : ∀ {v : List Value} {d : List D}, RepA P v d → ∃ l : List (Addr × Obj), (∀ q ∈ l, P q.1 q.2) ∧ RepA (fun a o => (a, o) ∈ l) v d
  | _, _, .nil => ⟨[], (fun _ h => nomatch h), .nil⟩
  | _, _, .cons a r => by
    obtain ⟨l, hl, hr⟩ := RepN.list a
    obtain ⟨l', hl', hr'⟩ := RepA.list r
    refine ⟨l ++ l', fun q hq => ?_, .cons (RepN.mono (fun _ _ h => List.mem_append_left _ h) hr) (RepA.mono (fun _ _ h => List.mem_append_right _ h) hr')⟩
    rcases List.mem_append.mp hq with hq | hq
    · exact hl q hq
    · exact hl' q hq
end
theorem RepL.mono {l l' : List (Addr × Obj)} {v : Value} {d : D} (h : RepL l v d) (s : ∀ q ∈ l, q ∈ l') : RepL l' v d := RepN.mono (fun _ _ m => s _ m) h
noncomputable abbrev NewAt (h h' : Heap) : Addr → Obj → Prop := fun a o => h'.get? a = some o ∧ h.get? a = none
noncomputable def itemD (u : Str) : D := .tup [.str (Str.ofString "ref"), .str u, .tup [], .tup [], .none]
noncomputable def optD : Option Str → D
  | some u => itemD u
  | none => .none
noncomputable def rowD (g : Str) (d c : Option Str) : D := .tup [itemD g, optD d, optD c]
noncomputable abbrev itemL (a b c : Addr) (t0 : Tok) (u : Str) (t1 : Tok) : List (Addr × Obj) := [(a, tupO [.str (Str.ofString "ref") t0, .str u t1, .ref b, .ref c, .none]), (b, tupO []), (c, tupO [])]
noncomputable def ItemPost (u : Str) (q : Nat) (v : Value) (l : List (Addr × Obj)) (p' : Nat) : Prop := ∃ a b c t0 t1, v = .ref a ∧ l = itemL a b c t0 u t1 ∧ p' = q
noncomputable def Meets (w : World) (f : Addr) (n : Nat) (news : List (Addr × Obj)) (s : Shared) (vs : List Value) (R : (Value → Shared → Prop) → (Value → Shared → Prop) → Prop) : Prop :=
  ∀ (A A₀ : Around) (env : Env) (outer : List Env) (base h₀ : Heap) (L : Addr) (m : Str → Option Value)
    (pr : Program) (loose : List Str) (mean : ExcName → Option Value) (mg mb : Str → Option Value) (Q E : Value → Shared → Prop),
    A.handled = none → A.frames = some (env :: outer) → env.frame = some L → env.scope.kind = .function →
    Below A₀ base outer h₀ → Fr h₀ L s.heap m → (K w.params).In h₀ → News h₀ L s.heap news → Top pr loose mean mg mb h₀ → A.depth + n < recursionLimit → A.units + 8 * n < cLine → R Q E →
    wpAny (model rw.prog w) A (call (.ref f) vs) Q E s

/-- a call that leaves the reader as it is -/
noncomputable def PCall (w : World) (R : RD) (vs : List Value) (ts : List (Str × Str)) (p : Int) (t : Tok) (f : Addr) (n : Nat) (args : List Value) (post : Value → Heap → Prop) : Prop :=
  ∀ s, Toks w s.heap R vs ts → Meets w f n (rdL w R p t) s args fun Q _ => ∀ v h' tk', KeepAll s.heap h' → post v h' → Q v { s with heap := h', toks := tk' }
/-- a call that moves the reader -/
noncomputable def RCall (w : World) (R : RD) (vs : List Value) (ts : List (Str × Str)) (p : Int) (t : Tok) (f : Addr) (n : Nat) (args : List Value) (post : Value → List (Addr × Obj) → Nat → Prop) : Prop :=
  ∀ s, Toks w s.heap R vs ts → Meets w f n (rdL w R p t) s args fun Q _ => ∀ v l h' tk' (p' : Nat) t', After w R p' t' s.heap h' → New s.heap h' l → post v l p' → Q v { s with heap := h', toks := tk' }

section
variable {w : World} {R : RD} {vs : List Value} {ts : List (Str × Str)} {p p' : Int} {t t' : Tok} {h h' g h₀ : Heap} {L : Addr} {m m' : Str → Option Value} {news : List (Addr × Obj)}
theorem list_keep {l d : Addr} {items : Array Value} (k : Keep d h h') (x : h.IsList l items) (n : l ≠ d) : h'.IsList l items := let ⟨o, ho, r⟩ := x; ⟨o, k l o ho n, r⟩
theorem Toks.keep (T : Toks w h R vs ts) (hd : h.get? R.dx = some (rdD w R p t)) (k : Keep R.dx h h') : Toks w h' R vs ts := by
  obtain ⟨a, b, c, d⟩ := T
  refine ⟨list_keep k a ?_, b, c, fun i kk u e => ?_⟩
  · obtain ⟨o, ho, hc, n, hd'⟩ := a
    intro e
    rw [e, hd] at ho
    cases ho; cases hd'
  · obtain ⟨x, h0, d, ta, a1, b1, c1, e1, f1, g1, n1, y1, z1, h1, h2, h3, h4⟩ := d i kk u e
    refine ⟨x, h0, d, ta, a1, b1, c1, e1, f1, g1, n1, y1, z1, k _ _ h1 ?_, k _ _ h2 ?_, k _ _ h3 ?_, h4⟩ <;> intro e <;> subst e <;> rw [hd] at * <;> simp_all
theorem Toks.keepAll (T : Toks w h R vs ts) (k : KeepAll h h') : Toks w h' R vs ts := by
  obtain ⟨a, b, c, d⟩ := T
  refine ⟨stays_list k a, b, c, fun i kk u e => ?_⟩
  obtain ⟨x, h0, d, ta, a1, b1, c1, e1, f1, g1, n1, y1, z1, h1, h2, h3, h4⟩ := d i kk u e
  exact ⟨x, h0, d, ta, a1, b1, c1, e1, f1, g1, n1, y1, z1, k _ _ h1, k _ _ h2, k _ _ h3, h4⟩

theorem Toks.base {news : List (Addr × Obj)} (T : Toks w h R vs ts) (hn : news.map (·.1) = [R.x, R.dx]) (hx : h.get? R.x = some (rdX R.dx)) (hd : h.get? R.dx = some (rdD w R p t)) (k : ∀ b o, h.get? b = some o → b ∉ news.map (·.1) → g.get? b = some o) : Toks w g R vs ts := by
  obtain ⟨a, b, c, d⟩ := T
  have k' : ∀ b o, h.get? b = some o → b ≠ R.x → b ≠ R.dx → g.get? b = some o := fun b o e n1 n2 => k b o e (by rw [hn]; simp [n1, n2])
  refine ⟨?_, b, c, fun i kk u e => ?_⟩
  · obtain ⟨o, ho, hc, n, hd'⟩ := a
    refine ⟨o, k' _ _ ho (fun e => ?_) (fun e => ?_), hc, n, hd'⟩
    · rw [e, hx] at ho; cases ho; cases hd'
    · rw [e, hd] at ho; cases ho; cases hd'
  · obtain ⟨x, h0, d, ta, a1, b1, c1, e1, f1, g1, n1, y1, z1, h1, h2, h3, h4⟩ := d i kk u e
    refine ⟨x, h0, d, ta, a1, b1, c1, e1, f1, g1, n1, y1, z1, k' _ _ h1 ?_ ?_, k' _ _ h2 ?_ ?_, k' _ _ h3 ?_ ?_, h4⟩ <;> intro e <;> subst e <;> simp_all

theorem end_P {news : List (Addr × Obj)} (hn : news.map (·.1) = [R.x, R.dx]) (hx : h.get? R.x = some (rdX R.dx)) (hd : h.get? R.dx = some (rdD w R p t)) (k : ∀ b o, h.get? b = some o → b ∉ news.map (·.1) → g.get? b = some o)
    (F : Fr g L h' m) (hx' : h'.get? R.x = some (rdX R.dx)) (hd' : h'.get? R.dx = some (rdD w R p t)) : KeepAll h h' := by
  intro b o e
  by_cases n1 : b = R.x
  · subst n1; rw [hx] at e; cases e; exact hx'
  by_cases n2 : b = R.dx
  · subst n2; rw [hd] at e; cases e; exact hd'
  exact F.keep _ _ (k _ _ e (by rw [hn]; simp [n1, n2]))
theorem end_R {news : List (Addr × Obj)} (hn : news.map (·.1) = [R.x, R.dx]) (hx : h.get? R.x = some (rdX R.dx)) (k : ∀ b o, h.get? b = some o → b ∉ news.map (·.1) → g.get? b = some o)
    (F : Fr g L h' m) (hx' : h'.get? R.x = some (rdX R.dx)) (hd' : h'.get? R.dx = some (rdD w R p' t')) : After w R p' t' h h' := by
  refine ⟨fun b o e n2 => ?_, hd'⟩
  by_cases n1 : b = R.x
  · subst n1; rw [hx] at e; cases e; exact hx'
  exact F.keep _ _ (k _ _ e (by rw [hn]; simp [n1, n2]))

theorem budget_d {A : Around} {e : Env} {n : Nat} (h : A.depth + (n + 1) < recursionLimit) : (A.deeper e).depth + n < recursionLimit := by
  show A.depth + 1 + n < _; omega
theorem budget_u {A : Around} {e : Env} {n : Nat} (h : A.units + 8 * (n + 1) < cLine) : (A.deeper e).units + 8 * n < cLine := by
  show A.units + 3 + 8 * n < _; omega
theorem new_of {news0 : List (Addr × Obj)} (hn : news0.map (·.1) = [R.x, R.dx]) (k : ∀ b o, h.get? b = some o → b ∉ news0.map (·.1) → g.get? b = some o) (N : News g L h' news) {q : Addr × Obj} (hq : q ∈ news) (n1 : @Ne Nat q.1 R.x) (n2 : @Ne Nat q.1 R.dx) : h'.get? q.1 = some q.2 ∧ h.get? q.1 = none := by
  refine ⟨(N q hq).1, ?_⟩
  cases e : h.get? q.1 with
  | none => rfl
  | some o =>
    have := k _ _ e (by rw [hn]; simp [show q.1 ≠ R.x from n1, show q.1 ≠ R.dx from n2])
    rw [(N q hq).2.2] at this; cases this
theorem new_nil : New h h' [] := fun _ hq => nomatch hq
theorem new_cons {q : Addr × Obj} {l : List (Addr × Obj)} (a : h'.get? q.1 = some q.2 ∧ h.get? q.1 = none) (b : New h h' l) : New h h' (q :: l) := fun r hr => by
  rcases List.mem_cons.mp hr with rfl | hr
  · exact a
  · exact b r hr
/-- what stays while a def's body runs -/
structure Cx (w : World) (R : RD) (vs : List Value) (ts : List (Str × Str)) (A : Around) (L : Addr) (g : Heap) (N : Nat) : Prop where
  ex : ∃ (A₀ : Around) (env : Env) (outer : List Env) (base : Heap) (pr : Program) (loose : List Str) (mean : ExcName → Option Value) (mg mb : Str → Option Value),
    A.handled = none ∧ A.frames = some (env :: outer) ∧ env.frame = some L ∧ env.scope.kind = .function ∧ Below A₀ base outer g ∧ Top pr loose mean mg mb g
  X : (K w.params).In g
  T : Toks w g R vs ts
  d : A.depth + N < recursionLimit
  u : A.units + 8 * N < cLine
theorem cx_in {α : Type} {tree : Sem α} {A : Around} {env : Env} {outer : List Env} {base : Heap} {pr : Program} {loose : List Str} {mean : ExcName → Option Value} {mg mb : Str → Option Value} {n : Nat} {q : Str} {scope : Scope} {f : Addr} {cd : Value} {Q : α → Shared → Prop} {E : Value → Shared → Prop} {s : Shared}
    (hH : A.handled = none) (hA : A.frames = some (env :: outer)) (B : Below A base (env :: outer) g) (T : Top pr loose mean mg mb g) (X : (K w.params).In g) (hG : Toks w g R vs ts) (hd : A.depth + (n + 1) < recursionLimit) (hu : A.units + 8 * (n + 1) < cLine) (hk : scope.kind = .function)
    (h : ∀ dp fr gd un, Cx w R vs ts ⟨none, dp, fr, gd, un⟩ L g n → wpAny (model rw.prog w) ⟨none, dp, fr, gd, un⟩ tree Q (fun _ _ => False) s) : wpAny (model rw.prog w) (A.deeper (envOf q scope L f cd)) tree Q E s := by
  have e : A.deeper (envOf q scope L f cd) = ⟨none, A.depth + 1, A.frames.map (envOf q scope L f cd :: ·), A.guards, A.units + 3⟩ := by
    unfold Around.deeper; rw [hH]
  have C : Cx w R vs ts (A.deeper (envOf q scope L f cd)) L g n := ⟨⟨_, _, _, _, _, _, _, _, _, hH, Around.frames_deeper hA, rfl, hk, B, T⟩, X, hG, budget_d hd, budget_u hu⟩
  rw [e] at C ⊢
  exact wpAny_mono (h _ _ _ _ C) (fun _ _ x => x) (fun _ _ x => x.elim)
section
variable {s : Shared} {f : Addr} {n M : Nat} {args : List Value} {A : Around} {Q E : Value → Shared → Prop}
theorem PCall.use {post : Value → Heap → Prop} (C : Cx w R vs ts A L h₀ M) (F : Fr h₀ L s.heap m) (N : News h₀ L s.heap news) (m1 : (R.x, rdX R.dx) ∈ news) (m2 : (R.dx, rdD w R p t) ∈ news) (H : PCall w R vs ts p t f n args post) (hn : n ≤ M)
    (h : ∀ v h' tk', Fr h₀ L h' m → News h₀ L h' news → post v h' → Q v { s with heap := h', toks := tk' }) :
    wpAny (model rw.prog w) A (call (.ref f) args) Q E s := by
  obtain ⟨⟨A₀, env, outer, base, pr, loose, mean, mg, mb, hH, hA, hf, hk, B, T⟩, X, hT, hd, hu⟩ := C
  refine H s (hT.keepAll F.keep) _ _ _ _ _ _ _ _ _ _ _ _ _ _ _ hH hA hf hk B F X (fun q hq => N q ?_) T (by omega) (by omega) (fun v h' tk' k hp => h v h' tk' ?_ (fun q hq => ⟨k _ _ (N q hq).1, (N q hq).2⟩) hp)
  · rcases List.mem_cons.mp hq with rfl | hq
    · exact m1
    · rcases List.mem_cons.mp hq with rfl | hq
      · exact m2
      · cases hq
  · obtain ⟨⟨oL, es, ep, hL, r⟩, k2, ab⟩ := F
    exact ⟨⟨oL, es, ep, k _ _ hL, r⟩, fun b o e => k _ _ (k2 b o e), ab⟩
theorem PCall.useE {c : Value} (C : Cx w R vs ts A L h₀ M) (F : Fr h₀ L s.heap m) (N : News h₀ L s.heap news) (m1 : (R.x, rdX R.dx) ∈ news) (m2 : (R.dx, rdD w R p t) ∈ news) (H : PCall w R vs ts p t f n args fun v _ => v = c) (hn : n ≤ M)
    (h : ∀ h' tk', Fr h₀ L h' m → News h₀ L h' news → Q c { s with heap := h', toks := tk' }) :
    wpAny (model rw.prog w) A (call (.ref f) args) Q E s := H.use C F N m1 m2 hn fun _ h' tk' F' N' e => e ▸ h h' tk' F' N'
theorem RCall.use1 {post : Value → List (Addr × Obj) → Nat → Prop} (C : Cx w R vs ts A L h₀ M) (F : Fr h₀ L s.heap m) (N : News h₀ L s.heap news) (m1 : (R.x, rdX R.dx) ∈ news) (m2 : (R.dx, rdD w R p t) ∈ news) (H : Meets w f n (rdL w R p t) s args fun Q _ => ∀ v l h' tk' (p' : Nat) t', After w R p' t' s.heap h' → New s.heap h' l → post v l p' → Q v { s with heap := h', toks := tk' }) (hn : n ≤ M)
    (h : ∀ v l h' tk' (p' : Nat) t', Fr h₀ L h' m → (∀ news', Upd R.dx (rdD w R p t) (rdD w R p' t') news news' → News h₀ L h' (l ++ news')) → (∀ r ∈ news, ∀ q ∈ l, r.1 ≠ q.1) → post v l p' → Q v { s with heap := h', toks := tk' }) :
    wpAny (model rw.prog w) A (call (.ref f) args) Q E s := by
  obtain ⟨⟨A₀, env, outer, base, pr, loose, mean, mg, mb, hH, hA, hf, hk, B, T⟩, X, hT, hd, hu⟩ := C
  have hdx := N _ m2
  have hL0 : L ≠ R.dx := fun e => hdx.2.1 e.symm
  have hLs : ∃ o, s.heap.get? L = some o := by obtain ⟨⟨oL, es, ep, hL, r⟩, k2, ab⟩ := F; exact ⟨_, hL⟩
  refine H _ _ _ _ _ _ _ _ _ _ _ _ _ _ _ hH hA hf hk B F X (fun q hq => N q ?_) T (by omega) (by omega) (fun v l h' tk' p' t' k nw hp => h v l h' tk' p' t' ?_ (fun news' U => ?_) (fun r hr q hq e => ?_) hp)
  · rcases List.mem_cons.mp hq with rfl | hq
    · exact m1
    · rcases List.mem_cons.mp hq with rfl | hq
      · exact m2
      · cases hq
  · obtain ⟨⟨oL, es, ep, hL, r⟩, k2, ab⟩ := F
    refine ⟨⟨oL, es, ep, k.1 _ _ hL hL0, r⟩, fun b o e => k.1 _ _ (k2 b o e) fun q => ?_, ab⟩
    have := hdx.2.2
    rw [← q, e] at this; cases this
  · obtain ⟨pre, post, rfl, rfl, a1, a2⟩ := U.split
    intro q hq
    rcases List.mem_append.mp hq with hq | hq
    · have Z := nw q hq
      refine ⟨Z.1, fun e => ?_, ?_⟩
      · obtain ⟨o, ho⟩ := hLs; have := Z.2; rw [e, ho] at this; cases this
      · cases e : h₀.get? q.1 with
        | none => rfl
        | some o => have := F.keep _ _ e; rw [Z.2] at this; cases this
    rcases List.mem_append.mp hq with hq | hq
    · have := N q (List.mem_append_left _ hq)
      exact ⟨k.1 _ _ this.1 (a1 q hq), this.2⟩
    · rcases List.mem_cons.mp hq with rfl | hq
      · exact ⟨k.2, hdx.2⟩
      · have := N q (List.mem_append_right _ (.tail _ hq))
        exact ⟨k.1 _ _ this.1 (a2 q hq), this.2⟩
  · have := (N r hr).1
    rw [e, (nw q hq).2] at this; cases this
theorem RCall.use {post : Value → List (Addr × Obj) → Nat → Prop} (C : Cx w R vs ts A L h₀ M) (F : Fr h₀ L s.heap m) (N : News h₀ L s.heap news) (m1 : (R.x, rdX R.dx) ∈ news) (m2 : (R.dx, rdD w R p t) ∈ news) (H : RCall w R vs ts p t f n args post) (hn : n ≤ M)
    (h : ∀ v l h' tk' (p' : Nat) t', Fr h₀ L h' m → (∀ news', Upd R.dx (rdD w R p t) (rdD w R p' t') news news' → News h₀ L h' (l ++ news')) → (∀ r ∈ news, ∀ q ∈ l, r.1 ≠ q.1) → post v l p' → Q v { s with heap := h', toks := tk' }) :
    wpAny (model rw.prog w) A (call (.ref f) args) Q E s :=
  RCall.use1 C F N m1 m2 (H s (C.T.keepAll F.keep)) hn h
/-- a call that reads one tuple besides -/
noncomputable def RCallK (w : World) (R : RD) (vs : List Value) (ts : List (Str × Str)) (p : Int) (t : Tok) (f : Addr) (n : Nat) (args : List Value) (kt : Addr) (ko : Obj) (post : Value → List (Addr × Obj) → Nat → Prop) : Prop :=
  ∀ s, Toks w s.heap R vs ts → s.heap.get? kt = some ko → Meets w f n (rdL w R p t) s args fun Q _ => ∀ v l h' tk' (p' : Nat) t', After w R p' t' s.heap h' → New s.heap h' l → post v l p' → Q v { s with heap := h', toks := tk' }
variable {q : Nat} {news' : Tok → List (Addr × Obj)}
theorem RCall.useE {c : Value} (C : Cx w R vs ts A L h₀ M) (F : Fr h₀ L s.heap m) (N : News h₀ L s.heap news) (m1 : (R.x, rdX R.dx) ∈ news) (m2 : (R.dx, rdD w R p t) ∈ news) (H : RCall w R vs ts p t f n args fun v l p' => v = c ∧ p' = q) (hn : n ≤ M)
    (U : ∀ t', Upd R.dx (rdD w R p t) (rdD w R (q : Nat) t') news (news' t')) (h : ∀ h' tk' t', Fr h₀ L h' m → News h₀ L h' (news' t') → Q c { s with heap := h', toks := tk' }) :
    wpAny (model rw.prog w) A (call (.ref f) args) Q E s := H.use C F N m1 m2 hn fun v l h' tk' p' t' F' N' _ e => by
  obtain ⟨rfl, rfl⟩ := e
  exact h _ _ t' F' (fun q hq => N' _ (U t') q (List.mem_append_right _ hq))
theorem RCall.useS {c : Str} (C : Cx w R vs ts A L h₀ M) (F : Fr h₀ L s.heap m) (N : News h₀ L s.heap news) (m1 : (R.x, rdX R.dx) ∈ news) (m2 : (R.dx, rdD w R p t) ∈ news) (H : RCall w R vs ts p t f n args fun v _ p' => ∃ tk, v = .str c tk ∧ p' = q) (hn : n ≤ M)
    (U : ∀ t', Upd R.dx (rdD w R p t) (rdD w R (q : Nat) t') news (news' t')) (h : ∀ tk h' tk' t', Fr h₀ L h' m → News h₀ L h' (news' t') → Q (.str c tk) { s with heap := h', toks := tk' }) :
    wpAny (model rw.prog w) A (call (.ref f) args) Q E s := H.use C F N m1 m2 hn fun v l h' tk' p' t' F' N' _ e => by
  obtain ⟨tk, rfl, rfl⟩ := e
  exact h tk _ _ t' F' (fun q hq => N' _ (U t') q (List.mem_append_right _ hq))
theorem RCall.useI {u : Str} (C : Cx w R vs ts A L h₀ M) (F : Fr h₀ L s.heap m) (N : News h₀ L s.heap news) (m1 : (R.x, rdX R.dx) ∈ news) (m2 : (R.dx, rdD w R p t) ∈ news) (H : RCall w R vs ts p t f n args (ItemPost u q)) (hn : n ≤ M)
    (U : ∀ t', Upd R.dx (rdD w R p t) (rdD w R (q : Nat) t') news (news' t'))
    (h : ∀ a b c t0 t1 h' tk' t', Fr h₀ L h' m → News h₀ L h' (itemL a b c t0 u t1 ++ news' t') → AllNe a news → AllNe b news → AllNe c news → Q (.ref a) { s with heap := h', toks := tk' }) :
    wpAny (model rw.prog w) A (call (.ref f) args) Q E s := H.use C F N m1 m2 hn fun v l h' tk' p' t' F' N' ne e => by
  obtain ⟨a, b, c, t0, t1, rfl, rfl, rfl⟩ := e
  exact h a b c t0 t1 _ _ t' F' (N' _ (U t')) (allNe_of fun r hr => ne r hr _ (.head _)) (allNe_of fun r hr => ne r hr _ (.tail _ (.head _))) (allNe_of fun r hr => ne r hr _ (.tail _ (.tail _ (.head _))))
end
theorem len_g {prog : Program} {A : Around} {E : Value → Shared → Prop} {s : Shared} {Q : Value → Shared → Prop} (F : Fr g L s.heap m) (hT : Toks w g R vs ts) (h : ∀ tk, Q (.int (ts.length : Nat) tk) { s with toks := s.toks + 1 + 1 }) : wpAny (model prog w) A (call (.builtin "len") [.ref R.tl]) Q E s :=
  Calls.call_len_list (stays_list F.keep hT.1) (by have := hT.2.1; have := hT.2.2.1; simp only [List.size_toArray]; omega) (by simp only [List.size_toArray, hT.2.1]; exact h _)
theorem item_g {prog : Program} {A : Around} {E : Value → Shared → Prop} {s : Shared} {value slice : Expr} {k : Int} {u : Tok} {Q : Value → Shared → Prop} (F : Fr g L s.heap m) (hT : Toks w g R vs ts) (n : Nat) (hk : k = (n : Int)) (hn : n < ts.length) (h : Q (pk vs n) s)
    (hs : subscripted slice false (.ref R.tl) (.int k u) = operate [.ref R.tl, .int k u] (getItem (.ref R.tl) (.int k u)) := by with_unfolding_all rfl) :
    wpAny (model prog w) A (subscriptTail value slice (.ref R.tl) (.int k u)) Q E s := by
  have hL := stays_list F.keep hT.1
  have h2 := hT.2.1
  have h3 := hT.2.2.1
  refine tail_any hL.typeIs slot_list_getitem.lookup (wpAny_getItem_list (x := pk vs n) hL (by omega) (by omega) ?_ h) hs
  subst hk
  have : n < vs.length := by omega
  simp [pk, this]
theorem item_led {prog : Program} {A : Around} {E : Value → Shared → Prop} {s : Shared} {value slice : Expr} {k : Nat} {u : Tok} {l : Addr} {its : Array Value} {n : Nat} {v : Value} {Q : Value → Shared → Prop} (N : News g L s.heap news) (hm : (l, listOf its n) ∈ news) (hk : k ≤ 1000) (hx : its[k]? = some v) (h : Q v s)
    (hs : subscripted slice false (.ref l) (.int (k : Int) u) = operate [.ref l, .int (k : Int) u] (getItem (.ref l) (.int (k : Int) u))) :
    wpAny (model prog w) A (subscriptTail value slice (.ref l) (.int (k : Int) u)) Q E s := by
  have hL : s.heap.IsList l its := ⟨_, N.get hm, rfl, n, rfl⟩
  exact tail_any hL.typeIs slot_list_getitem.lookup (wpAny_getItem_list hL (by omega) (by omega) (by simpa using hx) h) hs
theorem pk_none (hT : Toks w g R vs ts) {n : Nat} (h : ts.length ≤ n) : pk vs n = .none := by
  have h2 := hT.2.1
  unfold pk
  rw [List.getElem?_eq_none (by omega)]; rfl
end
section
variable {w : World} {R : RD} {vs : List Value} {ts : List (Str × Str)} {p p' : Int} {t t' : Tok} {h h' g h₀ : Heap} {L : Addr} {m m' : Str → Option Value} {news : List (Addr × Obj)}
noncomputable def resv (u : Str) : Bool := !(Builtin.Str.occurrences theR ((Str.ofString " " ++ u) ++ Str.ofString " ") 0 theR.length 1).isEmpty
noncomputable def nameAt (l : List (Str × Str)) (i : Nat) : Bool := match l[i]? with
  | some q => q.1 == (Str.ofString "word") && !resv q.2
  | none => false
noncomputable def kindAt (l : List (Str × Str)) (i : Nat) (k : Str) : Bool := match l[i]? with
  | some q => q.1 == k
  | none => false
noncomputable def wordAt (l : List (Str × Str)) (i : Nat) (u : Str) : Bool := match l[i]? with
  | some q => q.1 == (Str.ofString "word") && q.2 == u
  | none => false
noncomputable def signAt (l : List (Str × Str)) (i : Nat) (u : Str) : Bool := match l[i]? with
  | some q => q.1 == (Str.ofString "sign") && q.2 == u
  | none => false
section
variable {l : List (Str × Str)} {i : Nat} {kd u v : Str}
theorem kind_none (e : l[i]? = none) (h : kindAt l i v = true) : False := by unfold kindAt at h; rw [e] at h; cases h
theorem word_none (e : l[i]? = none) (h : wordAt l i v = true) : False := by unfold wordAt at h; rw [e] at h; cases h
theorem sign_none (e : l[i]? = none) (h : signAt l i v = true) : False := by unfold signAt at h; rw [e] at h; cases h
theorem kind_some (e : l[i]? = some (kd, u)) : kindAt l i v = (kd == v) := by unfold kindAt; rw [e]
theorem word_some (e : l[i]? = some (kd, u)) : wordAt l i v = (kd == (Str.ofString "word") && u == v) := by unfold wordAt; rw [e]
theorem sign_some (e : l[i]? = some (kd, u)) : signAt l i v = (kd == (Str.ofString "sign") && u == v) := by unfold signAt; rw [e]
theorem kind_no (e : l[i]? = none) : kindAt l i v = false := by unfold kindAt; rw [e]
theorem word_no (e : l[i]? = none) : wordAt l i v = false := by unfold wordAt; rw [e]
theorem sign_no (e : l[i]? = none) : signAt l i v = false := by unfold signAt; rw [e]
theorem word_of_kind (h : kindAt l i (Str.ofString "word") = false) : wordAt l i v = false := by
  cases e : l[i]? with
  | none => exact word_no e
  | some q => obtain ⟨a, b⟩ := q; rw [kind_some e] at h; rw [word_some e, h]; rfl
theorem sign_of_kind (h : kindAt l i (Str.ofString "sign") = false) : signAt l i v = false := by
  cases e : l[i]? with
  | none => exact sign_no e
  | some q => obtain ⟨a, b⟩ := q; rw [kind_some e] at h; rw [sign_some e, h]; rfl
theorem sign_val (e : l[i]? = some (kd, u)) (h : kindAt l i (Str.ofString "sign") = true) : Value.bool (u == v) = .bool (signAt l i v) := by
  rw [kind_some e] at h; rw [sign_some e, h]; rfl
theorem sign_b (h : kindAt l i (Str.ofString "sign") = false) : Value.bool (kindAt l i (Str.ofString "sign")) = .bool (signAt l i v) := by
  rw [sign_of_kind h, h]
theorem wordv_val (e : l[i]? = some (kd, u)) (h : kindAt l i (Str.ofString "word") = true) : Value.bool (u == v) = .bool (wordAt l i v) := by
  rw [kind_some e] at h; rw [word_some e, h]; rfl
theorem wordv_b (h : kindAt l i (Str.ofString "word") = false) : Value.bool (kindAt l i (Str.ofString "word")) = .bool (wordAt l i v) := by
  rw [word_of_kind h, h]
theorem name_none (e : l[i]? = none) (h : nameAt l i = true) : False := by unfold nameAt at h; rw [e] at h; cases h
theorem name_val (e : l[i]? = some (kd, u)) (h : kindAt l i (Str.ofString "word") = true) : Value.bool (!resv u) = .bool (nameAt l i) := by
  rw [kind_some e] at h; unfold nameAt; rw [e]; simp only [h, Bool.true_and]
theorem name_b (h : kindAt l i (Str.ofString "word") = false) : Value.bool (kindAt l i (Str.ofString "word")) = .bool (nameAt l i) := by
  rw [h]; unfold nameAt
  cases e : l[i]? with
  | none => rfl
  | some q => obtain ⟨a, b⟩ := q; rw [kind_some e] at h; simp only [h, Bool.false_and]
theorem wordk_val (e : l[i]? = some (kd, u)) (h : (kd == Str.ofString "word") = true) : Value.bool (u == v) = .bool (wordAt l i v) := by rw [word_some e, h]; rfl
theorem wordk_b (e : l[i]? = some (kd, u)) (h : (kd == Str.ofString "word") = false) : Value.bool (kd == Str.ofString "word") = .bool (wordAt l i v) := by rw [word_some e, h]; rfl
theorem no_both {q : Str × Str} (e : l[i]? = none) (h : l[i]? = some q) : False := by rw [e] at h; cases h
theorem no_tf {b : Bool} (e : b = false) (h : b = true) : False := by rw [e] at h; cases h
theorem word_ne (e : l[i]? = some (kd, u)) (h : (u != v) = true) : wordAt l i v = false := by
  rw [word_some e]; simp only [bne, Bool.not_eq_true'] at h; rw [h, Bool.and_false]
theorem word_eq (e : l[i]? = some (kd, u)) (h1 : kindAt l i (Str.ofString "word") = true) (h : (u != v) = false) : wordAt l i v = true := by
  rw [kind_some e] at h1
  rw [word_some e, h1]; simp only [bne, Bool.not_eq_false'] at h; rw [h]; rfl
end
theorem pk_res {q k : Nat} {v : Value} (hT : Toks w g R vs ts) (e : v = pk vs (q + k)) : ((ts.drop q)[k]? = none ∧ v = .none) ∨
    ∃ kd u x, (ts.drop q)[k]? = some (kd, u) ∧ v = .ref x ∧ TokAt w g x kd u (q + k) := by
  rw [List.getElem?_drop]
  cases h : ts[q + k]? with
  | none => exact .inl ⟨rfl, e.trans (pk_none hT (List.getElem?_eq_none_iff.mp h))⟩
  | some r =>
    obtain ⟨kd, u⟩ := r
    obtain ⟨x, h0, h1⟩ := hT.2.2.2 _ kd u h
    exact .inr ⟨kd, u, x, rfl, e.trans h0, h1⟩
section
variable {prog : Program} {A : Around} {E : Value → Shared → Prop} {s : Shared} {x : Addr} {kd u : Str} {i : Nat} {expr : Bool} {Q : Value → Shared → Prop}
theorem tok_inst {d : Addr} {od : Obj} (F : Fr g L h m) (h1 : g.get? x = some (tkX d)) (h2 : g.get? d = some od) : InstAt h x (tkX d) 546 (some od) := ⟨F.keep _ _ h1, rfl, rfl, F.keep _ _ h2⟩
theorem tok_len (T : TokAt w g x kd u i) : u.length ≤ 1000 := by
  obtain ⟨d, ta, a, b, c, e, f, g', n, y, z, h1, h2, h3, h4⟩ := T
  exact h4
theorem tok_kind (F : Fr g L s.heap m) (X : (K w.params).In g) (T : TokAt w g x kd u i) (k1 : plainGet (K w.params) 546 (Str.ofString "kind") = true) (k2 : hasDictIn (K w.params) 546 = true) {attr : Option Value} (k3 : findIn (K w.params) (.ref 546) (Str.ofString "kind") = some attr) (k4 : noGet (K w.params) attr = true)
    (h : ∀ b, Q (.str kd b) { s with toks := s.toks + 1 }) : wpAny (model prog w) A (getAttr (.ref x) (Str.ofString "kind") expr) Q E s := by
  obtain ⟨d, ta, a, b, c, e, f, g', n, y, z, h1, h2, h3, h4⟩ := T
  exact get_own F X (tok_inst F h1 h2) k1 k2 k3 k4 rfl rfl (h _)
theorem tok_worth (F : Fr g L s.heap m) (X : (K w.params).In g) (T : TokAt w g x kd u i) (k1 : plainGet (K w.params) 546 (Str.ofString "worth") = true) (k2 : hasDictIn (K w.params) 546 = true) {attr : Option Value} (k3 : findIn (K w.params) (.ref 546) (Str.ofString "worth") = some attr) (k4 : noGet (K w.params) attr = true)
    (h : ∀ b, Q (.str u b) { s with toks := s.toks + 1 }) : wpAny (model prog w) A (getAttr (.ref x) (Str.ofString "worth") expr) Q E s := by
  obtain ⟨d, ta, a, b, c, e, f, g', n, y, z, h1, h2, h3, h4⟩ := T
  exact get_own F X (tok_inst F h1 h2) k1 k2 k3 k4 rfl rfl (h _)
theorem tok_at (F : Fr g L s.heap m) (X : (K w.params).In g) (T : TokAt w g x kd u i) (k1 : plainGet (K w.params) 546 (Str.ofString "at") = true) (k2 : hasDictIn (K w.params) 546 = true) {attr : Option Value} (k3 : findIn (K w.params) (.ref 546) (Str.ofString "at") = some attr) (k4 : noGet (K w.params) attr = true)
    (h : ∀ ta n y z, g.get? ta = some ⟨.type "tuple", none, .seq #[.int ((i : Nat) + 1) y, .int 12 z] n, #[]⟩ → Q (.ref ta) { s with toks := s.toks + 1 }) : wpAny (model prog w) A (getAttr (.ref x) (Str.ofString "at") expr) Q E s := by
  obtain ⟨d, ta, a, b, c, e, f, g', n, y, z, h1, h2, h3, h4⟩ := T
  exact get_own F X (tok_inst F h1 h2) k1 k2 k3 k4 rfl rfl (h _ _ _ _ h3)
end
end
noncomputable def arg1 (m : Str → Option Value) (k : Nat) : Expr → Option (Value × Nat)
  | .Name x _ => (m x).map fun v => (v, k)
  | .Constant c _ _ => (match c with
      | .str u => some (.str u k, k + 1)
      | .int u => some (.int u k, k + 1)
      | _ => none)
  | _ => none
noncomputable def argV (m : Str → Option Value) : List Expr → Nat → Option (List Value × Nat)
  | [], k => some ([], k)
  | e :: r, k => (arg1 m k e).bind fun q => (argV m r q.2).map fun z => (q.1 :: z.1, z.2)
noncomputable def argOk1 (env : Env) : Expr → Bool
  | .Name x _ => env.kindOf x == some .local && !(x == ("__debug__" : Str))
  | .Constant .. => true
  | _ => false
noncomputable def argOk (env : Env) (l : List Expr) : Bool := l.all (argOk1 env)
theorem star_args {env : Env} {e : Expr} {r : List Expr} (ok : argOk1 env e = true) : starEach (e :: r) env = (false, eval e env) :: starEach r env := by
  cases e <;> first | rfl | cases ok
theorem plain_args {env : Env} {pos : Pos} : ∀ (args : List Expr), argOk env args = true → (backTo pos (starEach args env)).any (·.1) = false
  | [], _ => rfl
  | e :: r, ok => by
    obtain ⟨o1, o2⟩ := Bool.and_eq_true_iff.mp (show (argOk1 env e && argOk env r) = true from ok)
    rw [star_args o1]
    exact plain_args (pos := pos) r o2
section
variable {prog : Program} {w : World} {A : Around} {E : Value → Shared → Prop} {s : Shared} {g : Heap} {L a : Addr} {m : Str → Option Value} {cn : Str} {cs : Scope} {ccd : Value} {cl : List (Str × Addr)}
theorem arg1_pure (F : Fr g L s.heap m) (hk : cs.kind = .function) {e : Expr} {q : Value × Nat} {k : Nat} {Q : Value → Shared → Prop} (ok : argOk1 (envX cn cs L a ccd cl) e = true) (he : arg1 m k e = some q) (h : Q q.1 { s with toks := q.2 }) :
    wpAny (model prog w) A (eval e (envX cn cs L a ccd cl)) Q E { s with toks := k } := by
  unfold arg1 at he
  split at he
  · rename_i x p
    simp only [argOk1, Bool.and_eq_true, beq_iff_eq, Bool.not_eq_true'] at ok
    cases hv : m x with
    | none => rw [hv] at he; cases he
    | some v => rw [hv] at he; cases he; exact nameX_L F hv h hk ok.1 ok.2
  · split at he
    · cases he; exact Calls.Constant_str h
    · cases he; exact wpAny_Constant_int h
    · cases he
  · cases he
theorem args_pure (F : Fr g L s.heap m) (hk : cs.kind = .function) {pos : Pos} : ∀ (args : List Expr) {vs : List Value} {tk : Nat} {k : Nat} {Q : List Value → Shared → Prop}, argOk (envX cn cs L a ccd cl) args = true → argV m args k = some (vs, tk) → Q vs { s with toks := tk } →
    wpAny (model prog w) A (spliced (backTo pos (starEach args (envX cn cs L a ccd cl)))) Q E { s with toks := k }
  | [], vs, tk, k, Q, _, e, h => by
    cases e
    exact spliced_none h
  | x :: r, vs, tk, k, Q, ok, e, h => by
    obtain ⟨o1, o2⟩ := Bool.and_eq_true_iff.mp (show (argOk1 (envX cn cs L a ccd cl) x && argOk (envX cn cs L a ccd cl) r) = true from ok)
    unfold argV at e
    cases h1 : arg1 m k x with
    | none => rw [h1] at e; cases e
    | some q =>
      rw [h1, Option.bind_some] at e
      cases h2 : argV m r q.2 with
      | none => rw [h2] at e; cases e
      | some z =>
        rw [h2] at e
        cases e
        exact spliced_more (arg1_pure F hk o1 h1 (args_pure F hk r o2 h2 h)) (star_args o1)
theorem args_pure' (F : Fr g L s.heap m) (hk : cs.kind = .function) {pos : Pos} {args : List Expr} {vs : List Value} {tk : Nat} {Q : List Value → Shared → Prop} (ok : argOk (envX cn cs L a ccd cl) args = true) (e : argV m args s.toks = some (vs, tk)) (h : Q vs { s with toks := tk }) :
    wpAny (model prog w) A (spliced (backTo pos (starEach args (envX cn cs L a ccd cl)))) Q E s := args_pure (s := s) F hk args ok e h
theorem call_pure {first : List Value} {f : Addr} (F : Fr g L s.heap m) (X : (K w.params).In g) (hk : cs.kind = .function) {pos : Pos} {args : List Expr} {vs : List Value} {tk : Nat} {Q : Value → Shared → Prop} (ok : argOk (envX cn cs L a ccd cl) args = true) (e : argV m args s.toks = some (vs, tk))
    (hf : keepIn (K w.params) (.ref f) = true) (h : wpAny (model prog w) A (call (.ref f) (first ++ vs)) Q E { s with toks := tk }) :
    wpAny (model prog w) A (callWith pos (.ref f) first (backTo pos (starEach args (envX cn cs L a ccd cl))) []) Q E s := by
  cases args with
  | nil =>
    simp only [argV, Option.some.injEq, Prod.mk.injEq] at e
    obtain ⟨rfl, rfl⟩ := e
    exact callWith_K0 (X.keeps F.keep) hf h
  | cons b r =>
    obtain ⟨o1, o2⟩ := Bool.and_eq_true_iff.mp (show (argOk1 (envX cn cs L a ccd cl) b && argOk (envX cn cs L a ccd cl) r) = true from ok)
    exact callWith_K X hf (args_pure' F hk ok e ⟨X.keeps F.keep, h⟩) (star_args o1) (plain_args r o2)
/-- a method of the reader, its arguments written or local -/
theorem mcall {R : RD} {news : List (Addr × Obj)} {p : Int} {t : Tok} {x meth : Str} {p1 p2 p4 : Pos} {args : List Expr} {vs : List Value} {tk : Nat} {f : Addr} {Q : Value → Shared → Prop}
    (F : Fr g L s.heap m) (X : (K w.params).In g) (N : News g L s.heap news) (m1 : (R.x, rdX R.dx) ∈ news) (m2 : (R.dx, rdD w R p t) ∈ news) (hk : cs.kind = .function) (hv : m x = some (.ref R.x)) (hl : (envX cn cs L a ccd cl).kindOf x = some .local) (hd : (x == ("__debug__" : Str)) = false)
    (ok : argOk (envX cn cs L a ccd cl) args = true) (e : argV m args s.toks = some (vs, tk))
    (k1 : findIn (K w.params) (.ref 516) meth = some (some (.ref f))) (k2 : isFn (K w.params) (.ref f) = true) (k3 : plainGet (K w.params) 516 meth = true) (k4 : keepIn (K w.params) (.ref f) = true) (k5 : (meth == (Str.ofString "tokens") || meth == (Str.ofString "at") || meth == (Str.ofString "named")) = false)
    {pl : Sem Bool} (he : eval (.Call (.Attribute (.Name x p1) meth p2) args [] p4) (envX cn cs L a ccd cl) = (do
      let ov ← eval (.Name x p1) (envX cn cs L a ccd cl)
      standAt p2.atName
      let (f, first) ← holding [ov] (getMethod ov meth pl)
      callWith p4 f first (backTo p4 (starEach args (envX cn cs L a ccd cl))) []))
    (h : wpAny (model prog w) A (call (.ref f) (.ref R.x :: vs)) Q E { s with toks := tk }) :
    wpAny (model prog w) A (eval (.Call (.Attribute (.Name x p1) meth p2) args [] p4) (envX cn cs L a ccd cl)) Q E s := by
  refine MethodCall_ (nameX_L F hv ?_ hk hl hd) he
  refine method_inst F X (InstAt.of_news N m1 m2) k3 k1 k2 ?_ (call_pure F X hk ok e k4 h)
  simp only [Bool.or_eq_false_iff, beq_eq_false_iff_ne] at k5
  obtain ⟨⟨a1, a2⟩, a3⟩ := k5
  simp [getL, Value.isStr, Ne.symm a1, Ne.symm a2, Ne.symm a3]
  exact ⟨rfl, rfl, rfl⟩
theorem fcall {x : Str} {p1 p4 : Pos} {args : List Expr} {vs : List Value} {tk : Nat} {f : Addr} {Q : Value → Shared → Prop} {pr : Program} {loose : List Str} {mean : ExcName → Option Value} {mg mb : Str → Option Value}
    (F : Fr g L s.heap m) (X : (K w.params).In g) (T : Top pr loose mean mg mb g) (hk : cs.kind = .function) (hl : (envX cn cs L a ccd cl).kindOf x = some .globalImplicit) (hd : (x == ("__debug__" : Str)) = false)
    (ok : argOk (envX cn cs L a ccd cl) args = true) (e : argV m args s.toks = some (vs, tk))
    (k1 : nsIn (K w.params) mainGlobals x = some (some (.ref f))) (k4 : keepIn (K w.params) (.ref f) = true)
    (he : eval (.Call (.Name x p1) args [] p4) (envX cn cs L a ccd cl) = (do callWith p4 (← eval (.Name x p1) (envX cn cs L a ccd cl)) [] (backTo p4 (starEach args (envX cn cs L a ccd cl))) (backToKw p4 (keywordEach [] (envX cn cs L a ccd cl)))))
    (h : wpAny (model prog w) A (call (.ref f) vs) Q E { s with toks := tk }) :
    wpAny (model prog w) A (eval (.Call (.Name x p1) args [] p4) (envX cn cs L a ccd cl)) Q E s :=
  Call_ (nameX_K F X (topRead_of T) k1 (call_pure (first := []) F X hk ok e k4 h) hk hl hd) he
end

set_option rowWalk.seconds 0
set_option maxHeartbeats 0
theorem row2 : True := by
  k_with "my_open" => ((intro s hT A A₀ env outer base h₀ L m pr loose mean mg mb Q E hH hA hf hk B F X N T hd hu hR; w_on; w_top on; have hx0 := (N _ (.head _)).1; have hd0 := (N _ (.tail _ (.head _))).1))
  k_with "my_enter" => (((case kA => exact hA); (case kF => exact hf); (case kK => exact hk); (case k1 => k_asm); (case k2 => k_asm); (case k3 => k_asm); (case k4 => k_asm); (case k5 => k_asm); (case k6 => k_dflt k_is); (case k7 => k_is); (case k8 => (show A.depth < _; omega)); (try (case k9 => first | exact BindsTo.of_eq rfl | exact binds_K (X.keeps F.keep) rfl (by k_is) rfl rfl rfl)); (case c5 => decide +kernel); (case kB => exact locs rfl); (case c2 => exact rfl); (case c3 => exact rfl); (case c4 => exact rfl)))
  k_with "my_in" => ((intro g L' h' tk₁ hg F' N' B' X' T' l1; have hG := hT.base rfl hx0 hd0 hg; have hne := R.ne; clear hT F N B X T l1; refine cx_in hH hA B' T' X' hG hd hu rfl ?_; clear B' hd hu hA hf hk hH; intro dp fr gd un hC; clear hG; try dsimp only; try k_fold))
  k_with "my_endP" => ((refine hR _ _ _ (end_P rfl hx0 hd0 hg (by assumption) (News.get (by assumption) (by k_mem)) (News.get (by assumption) (by k_mem))) ?_; try dsimp only))
  k_with "my_endR" => ((refine hR _ [] _ _ _ _ (end_R rfl hx0 hg (by assumption) (News.get (by assumption) (by k_mem)) (News.get (by assumption) (by k_mem))) new_nil ?_; try dsimp only))
  k_with "my_endI" => ((refine' hR _ (itemL _ _ _ _ _ _) _ _ _ _ ?ee ?nn ⟨_, _, _, _, _, rfl, rfl, rfl⟩; (case ee => exact end_R rfl hx0 hg (by assumption) (News.get (by assumption) (by k_mem)) (News.get (by assumption) (by k_mem))); (case nn => walk_at "my_new")))
  k_with "my_new" => (first | exact new_nil | (refine' new_cons (new_of rfl hg ?n0 ?n1 ?n2 ?n3) ?_; (case n0 => assumption); (case n1 => k_mem); (case n2 => k_ne); (case n3 => k_ne); walk_at "my_new"))
  k_with "k_ne" => ((refine neN ?_; (try dsimp only); first | exact AllNe.get (by with_reducible assumption) (by k_mem) | exact Ne.symm (AllNe.get (by with_reducible assumption) (by k_mem)) | fail "k_ne"))
  k_with "my_rep" => (first | exact RepN.none | exact RepN.bool _ | exact RepN.str _ _ | exact RepA.nil | (refine RepA.cons ?_ ?_ <;> walk_at "my_rep") | (refine' RepN.tup (new_of (q := (_, tupO _)) rfl hg ?n0 ?n1 ?n2 ?n3) ?_; (case n0 => assumption); (case n1 => k_mem); (case n2 => k_ne); (case n3 => k_ne); walk_at "my_rep") | fail "my_rep")
  k_with "call ref" => (k_dflt ((refine' PCall.useE ?C ?F ?N ?m1 ?m2 ?ct ?hn ?_; (case C => with_reducible assumption); (case F => k_asm); (case N => k_asm); (case m1 => k_mem); (case m2 => k_mem); (case ct => walk_at "ct"); (case hn => exact Nat.le_of_ble_eq_true rfl); intro h9 tk9 F9 N9; k_sweep; (try dsimp only); (try k_fold))))
  k_with "call ref" => (k_dflt (((first | (refine' RCall.useE ?C ?F ?N ?m1 ?m2 ?ct ?hn ?uu ?_; (case C => with_reducible assumption); (case F => k_asm); (case N => k_asm); (case m1 => k_mem); (case m2 => k_mem); (case ct => walk_at "cr"); (case hn => exact Nat.le_of_ble_eq_true rfl); (case uu => intro t9; k_upd); intro h9 tk9 t9 F9 N9) | (refine' RCall.useS ?C ?F ?N ?m1 ?m2 ?ct ?hn ?uu ?_; (case C => with_reducible assumption); (case F => k_asm); (case N => k_asm); (case m1 => k_mem); (case m2 => k_mem); (case ct => walk_at "cs"); (case hn => exact Nat.le_of_ble_eq_true rfl); (case uu => intro t9; k_upd); intro tkk9 h9 tk9 t9 F9 N9) | (refine' RCall.useI ?C ?F ?N ?m1 ?m2 ?ct ?hn ?uu ?_; (case C => with_reducible assumption); (case F => k_asm); (case N => k_asm); (case m1 => k_mem); (case m2 => k_mem); (case ct => walk_at "ci"); (case hn => exact Nat.le_of_ble_eq_true rfl); (case uu => intro t9; k_upd); intro a9 b9 c9 ta9 tb9 h9 tk9 t9 F9 N9 n1 n2 n3; simp only [List.cons_append, List.nil_append] at N9)); k_sweep; (try dsimp only); (try k_fold))))
  k_with "getAttr ref" => (k_dflt ((((first | ((with_reducible show wpAny _ _ (getAttr _ (Str.ofString "kind") _) _ _ _); refine' tok_kind ?F ?X ?T ?k1 ?k2 ?k3 ?k4 ?_) | ((with_reducible show wpAny _ _ (getAttr _ (Str.ofString "worth") _) _ _ _); refine' tok_worth ?F ?X ?T ?k1 ?k2 ?k3 ?k4 ?_)); (case T => with_reducible assumption); (case F => k_asm); (case X => k_asm); (case k1 => k_is); (case k2 => k_is); (case k3 => k_is); (case k4 => k_is); intro _))))
  k_with "side word" => (first | with_reducible assumption | exact Nat.le_of_ble_eq_true rfl | decide +kernel)
  k_with "eval Call Attribute" => (k_dflt (((with_reducible show wpAny _ _ (eval (Expr.Call (Expr.Attribute (Expr.Name _ _) _ _) _ [] _) _) _ _ _); (refine' mcall ?k1 ?k2 ?k3 ?m1 ?m2 ?c1 ?c2 ?c3 ?c4 ?c5 ?c6 ?c7 ?c8 ?c9 ?c10 ?c11 ?c12 ?_); (case k1 => k_asm); (case k2 => k_asm); (case k3 => k_asm); (case m1 => k_mem); (case m2 => k_mem); (case c1 => exact rfl); (case c2 => exact rfl); (case c3 => exact rfl); (case c4 => decide); (case c5 => exact rfl); (case c6 => exact rfl); (case c7 => k_is); (case c8 => k_is); (case c9 => k_is); (case c10 => k_is); (case c11 => exact rfl); (case c12 => exact rfl); (try dsimp only))))
  k_with "eval Call" => (k_dflt (((with_reducible show wpAny _ _ (eval (Expr.Call (Expr.Name _ _) _ [] _) _) _ _ _); (refine' fcall ?k1 ?k2 ?k3 ?c1 ?c3 ?c4 ?c5 ?c6 ?c7 ?c10 ?c12 ?_); (case k1 => k_asm); (case k2 => k_asm); (case k3 => k_asm); (case c1 => exact rfl); (case c3 => exact rfl); (case c4 => decide); (case c5 => exact rfl); (case c6 => exact rfl); (case c7 => k_is); (case c10 => k_is); (case c12 => exact rfl); (try dsimp only))))
  k_with "call builtin:list.append" => (k_dflt ((show wpAny _ _ (call (Value.builtin _) [Value.ref _, _]) _ _ _); (refine' append_K ?k1 ?k2 ?k3 ?_ ?z; (case k1 => k_asm); (case k2 => k_asm); (case k3 => k_upd); (case z => size_fits)); intro h' F' N'; (try k_sweep)))
  k_with "subscriptTail Name Constant ref int" => (k_dflt (first | ((with_reducible show wpAny _ _ (subscriptTail _ _ _ (Value.int 0 _)) _ _ _); refine' item_led (k := 0) ?N ?hm ?hk ?hx ?_ ?hs; (case N => k_asm); (case hm => k_mem); (case hk => decide); (case hx => exact rfl); (case hs => with_unfolding_all rfl)) | ((with_reducible show wpAny _ _ (subscriptTail _ _ _ (Value.int 1 _)) _ _ _); refine' item_led (k := 1) ?N ?hm ?hk ?hx ?_ ?hs; (case N => k_asm); (case hm => k_mem); (case hk => decide); (case hx => exact rfl); (case hs => with_unfolding_all rfl)) | fail "item_led"))
  trivial
theorem reg (w : World) : K w.params = K w.params ∧ rw = rw := by
  k_fill
  exact ⟨rfl, rfl⟩
section
theorem row3 : True := by
  k_with "call builtin:len" => ((fail_if_success k_extra "off01"); k_dflt ((refine len_g (by assumption) (Cx.T (by assumption)) ?_; intro _)))
  k_with "subscriptTail" => ((fail_if_success k_extra "off01"); k_dflt ((refine item_g (by assumption) (Cx.T (by assumption)) _ (Int.natCast_add _ _).symm ?_ ?_ (by with_unfolding_all rfl); first | omega | (simp only [decide_eq_true_eq] at *; omega))))
  trivial
theorem peek_c (w : World) (R : RD) (vs : List Value) (ts : List (Str × Str)) (p : Nat) (t : Tok) (k : Nat) (tk : Tok) (args : List Value) (hb : args = [.ref R.x, .int k tk] ∨ (args = [.ref R.x] ∧ k = 0 ∧ tk = 705)) : PCall w R vs ts p t 370 2 args fun v _ => v = pk vs (p + k) := by
  walk_at "my_open"
  refine' enter [(Str.ofString "self", .ref R.x), (Str.ofString "ahead", .int k tk)] ?k1 ?k2 ?k3 ?k4 ?k5 ?kA ?kF ?kK ?k6 ?k7 ?k8 ?k9 ?kB ?_ ?c2 ?c3 ?c4 ?c5
  walk_at "my_enter"
  case k9 => rcases hb with rfl | ⟨rfl, rfl, rfl⟩ <;> exact binds_K (X.keeps F.keep) rfl (by k_is) rfl rfl rfl
  walk_at "my_in"
  k_steps
  all_goals walk_at "my_endP"
  rw [pk_none hC.T (by omega)]
theorem peek_use {w : World} {R : RD} {vs : List Value} {ts : List (Str × Str)} {p : Nat} {t : Tok} {h₀ : Heap} {L : Addr} {m : Str → Option Value} {news : List (Addr × Obj)} {s : Shared} {M : Nat} {A : Around} {Q E : Value → Shared → Prop} {args : List Value} (k : Nat) (C : Cx w R vs ts A L h₀ M) (F : Fr h₀ L s.heap m) (N : News h₀ L s.heap news) (m1 : (R.x, rdX R.dx) ∈ news) (m2 : (R.dx, rdD w R p t) ∈ news) (H : PCall w R vs ts p t 370 2 args fun v _ => v = pk vs (p + k)) (hn : 2 ≤ M)
    (hn : (ts.drop p)[k]? = none → ∀ h' tk', Fr h₀ L h' m → News h₀ L h' news → Q .none { s with heap := h', toks := tk' })
    (hs : ∀ kd u x, (ts.drop p)[k]? = some (kd, u) → pk vs (p + k) = .ref x → TokAt w h₀ x kd u (p + k) → ∀ h' tk', Fr h₀ L h' m → News h₀ L h' news → Q (.ref x) { s with heap := h', toks := tk' }) :
    wpAny (model rw.prog w) A (call (.ref 370) args) Q E s := by
  refine H.use C F N m1 m2 (by assumption) fun v h' tk' F' N' e => ?_
  rcases pk_res C.T e with ⟨e1, e2⟩ | ⟨kd, u, x, e1, e2, T1⟩
  · rw [e2]; exact hn e1 _ _ F' N'
  · rw [e2]; exact hs _ _ _ e1 (e.symm.trans e2) T1 _ _ F' N'

end
theorem off01 : True := by
  k_with "off01" => skip
  trivial
theorem row4 : True := by
  k_with "call ref" => (k_dflt (((with_reducible show wpAny _ _ (call (Value.ref 370) _) _ _ _); (first | refine' peek_use _ ?C ?F ?N ?m1 ?m2 (peek_c _ _ _ _ _ _ _ _ _ (.inl rfl)) ?hn ?_ ?_ | refine' peek_use 0 ?C ?F ?N ?m1 ?m2 (peek_c _ _ _ _ _ _ 0 _ _ (.inr ⟨rfl, rfl, rfl⟩)) ?hn ?_ ?_); (case C => with_reducible assumption); (case F => k_asm); (case N => k_asm); (case m1 => k_mem); (case m2 => k_mem); (case hn => exact Nat.le_of_ble_eq_true rfl); all_goals first | (intro k9 u9 x9 ei ep9 hx9 h9 tk9 F9 N9; have hu9 := tok_len hx9; k_sweep; (try dsimp only); (try k_fold)) | (intro ei h9 tk9 F9 N9; first | exact (kind_none ei (by with_reducible assumption)).elim | exact (name_none ei (by with_reducible assumption)).elim | exact (no_both ei (by with_reducible assumption)).elim | (k_sweep; (try dsimp only); (try k_fold))))))
  trivial
section
theorem is_kind_c (w : World) (R : RD) (vs : List Value) (ts : List (Str × Str)) (p : Nat) (t : Tok) (kd : Str) (tkd : Tok) (k : Nat) (tk : Tok) (args : List Value) (hb : args = [.ref R.x, .str kd tkd, .int k tk] ∨ (args = [.ref R.x, .str kd tkd] ∧ k = 0 ∧ tk = 737)) :
    PCall w R vs ts p t 399 4 args fun v _ => v = .bool (kindAt (ts.drop p) k kd) := by
  walk_at "my_open"
  refine' enter [(Str.ofString "self", .ref R.x), (Str.ofString "kind", .str kd tkd), (Str.ofString "ahead", .int k tk)] ?k1 ?k2 ?k3 ?k4 ?k5 ?kA ?kF ?kK ?k6 ?k7 ?k8 ?k9 ?kB ?_ ?c2 ?c3 ?c4 ?c5
  walk_at "my_enter"
  case k9 => rcases hb with rfl | ⟨rfl, rfl, rfl⟩ <;> exact binds_K (X.keeps F.keep) rfl (by k_is) rfl rfl rfl
  walk_at "my_in"
  k_steps
  all_goals walk_at "my_endP"
  · rw [kind_no (by assumption)]
  · rw [kind_some (by assumption)]

end
theorem row5 : True := by
  k_with "ct" => (exact is_kind_c _ _ _ _ _ _ _ _ _ _ _ (.inl rfl))
  k_with "ct" => (exact is_kind_c _ _ _ _ _ _ _ _ 0 _ _ (.inr ⟨rfl, rfl, rfl⟩))
  trivial
section
theorem row6 : True := by
  k_with "call builtin:str.split" => ((fail_if_success k_extra "off03"); k_dflt ((refine KSpl.split1 (by k_asm) (by k_asm) (by decide) ?_ hsz; intro D9 l9 h9 k9 e9 a9 F9 N9 l1; k_lt l1; rw [hsp] at e9; obtain ⟨t8, l8, e8, e7⟩ := KSpl.cons_of e9; have e6 := KSpl.nil_of e7; subst e6; subst e8; simp only [strValues, List.map_cons, List.map_nil] at N9; clear e9 a9 e7; k_sweep)))
  trivial
theorem is_word_c (w : World) (R : RD) (vs : List Value) (ts : List (Str × Str)) (p : Nat) (t : Tok) (u : Str) (tu : Tok) (hsp : Txt.split u (Str.ofString " ") = [u]) (hsz : u.length + 2 ≤ sizeLine) :
    PCall w R vs ts p t 406 6 [.ref R.x, .str u tu] fun v _ => v = .bool (wordAt (ts.drop p) 0 u) := by
  walk_at "my_open"
  refine' enter [(Str.ofString "self", .ref R.x), (Str.ofString "words", .str u tu)] ?k1 ?k2 ?k3 ?k4 ?k5 ?kA ?kF ?kK ?k6 ?k7 ?k8 ?k9 ?kB ?_ ?c2 ?c3 ?c4 ?c5
  walk_at "my_enter"
  walk_at "my_in"
  k_steps
  all_goals walk_at "my_endP"
  all_goals first | rw [word_of_kind (by assumption)] | rw [word_ne (by assumption) (by assumption)] | rw [word_eq (by assumption) (by assumption) (by assumption)]

end
theorem off03 : True := by
  k_with "off03" => skip
  trivial
theorem row7 : True := by
  k_with "ct" => (exact is_word_c _ _ _ _ _ _ _ _ (by walk_at "side word") (by walk_at "side word"))
  trivial
section
theorem row8 : True := by
  k_with "call builtin:str.split" => ((fail_if_success k_extra "off04"); k_dflt ((refine KSpl.split1 (by k_asm) (by k_asm) (by decide) ?_ hsz; intro D9 l9 h9 k9 e9 a9 F9 N9 l1; k_lt l1; rw [hsp] at e9; obtain ⟨t8, l8, e8, e7⟩ := KSpl.cons_of e9; have e6 := KSpl.nil_of e7; subst e6; subst e8; simp only [strValues, List.map_cons, List.map_nil] at N9; clear e9 a9 e7; k_sweep)))
  trivial
theorem skip_c (w : World) (R : RD) (vs : List Value) (ts : List (Str × Str)) (p : Nat) (t : Tok) (u : Str) (tu : Tok) (hsp : Txt.split u (Str.ofString " ") = [u]) (hsz : u.length + 2 ≤ sizeLine) :
    RCall w R vs ts p t 413 8 [.ref R.x, .str u tu] fun v _ p' => (wordAt (ts.drop p) 0 u = true ∧ v = .bool true ∧ p' = p + 1) ∨ (wordAt (ts.drop p) 0 u = false ∧ v = .bool false ∧ p' = p) := by
  walk_at "my_open"
  refine' enter [(Str.ofString "self", .ref R.x), (Str.ofString "words", .str u tu)] ?k1 ?k2 ?k3 ?k4 ?k5 ?kA ?kF ?kK ?k6 ?k7 ?k8 ?k9 ?kB ?_ ?c2 ?c3 ?c4 ?c5
  walk_at "my_enter"
  walk_at "my_in"
  k_steps
  all_goals walk_at "my_endR"
  all_goals first | exact .inl ⟨by assumption, rfl, rfl⟩ | exact .inr ⟨by assumption, rfl, rfl⟩
theorem skip_use {w : World} {R : RD} {vs : List Value} {ts : List (Str × Str)} {p : Nat} {t : Tok} {h₀ : Heap} {L : Addr} {m : Str → Option Value} {news : List (Addr × Obj)} {s : Shared} {M : Nat} {A : Around} {Q E : Value → Shared → Prop} {u : Str} {tu : Tok} {news' : Tok → List (Addr × Obj)} (C : Cx w R vs ts A L h₀ M) (F : Fr h₀ L s.heap m) (N : News h₀ L s.heap news) (m1 : (R.x, rdX R.dx) ∈ news) (m2 : (R.dx, rdD w R p t) ∈ news) (hsp : Txt.split u (Str.ofString " ") = [u]) (hsz : u.length + 2 ≤ sizeLine) (hn : 8 ≤ M)
    (U : ∀ t', Upd R.dx (rdD w R p t) (rdD w R ((p + 1 : Nat) : Int) t') news (news' t'))
    (h1 : wordAt (ts.drop p) 0 u = true → ∀ h' tk' t', Fr h₀ L h' m → News h₀ L h' (news' t') → Q (.bool true) { s with heap := h', toks := tk' })
    (h2 : wordAt (ts.drop p) 0 u = false → ∀ h' tk' t', Fr h₀ L h' m → (∀ news', Upd R.dx (rdD w R p t) (rdD w R p t') news news' → News h₀ L h' news') → Q (.bool false) { s with heap := h', toks := tk' }) :
    wpAny (model rw.prog w) A (call (.ref 413) [.ref R.x, .str u tu]) Q E s := by
  refine (skip_c w R vs ts p t u tu hsp hsz).use C F N m1 m2 hn fun v l h' tk' p' t' F' N' _ e => ?_
  rcases e with ⟨e1, rfl, rfl⟩ | ⟨e1, rfl, rfl⟩
  · exact h1 e1 _ _ t' F' (fun q hq => N' _ (U t') q (List.mem_append_right _ hq))
  · exact h2 e1 _ _ t' F' fun n U q hq => N' n U q (List.mem_append_right _ hq)

end
theorem off04 : True := by
  k_with "off04" => skip
  trivial
theorem row9 : True := by
  k_with "call ref" => (k_dflt (((with_reducible show wpAny _ _ (call (Value.ref 413) _) _ _ _); refine' skip_use ?C ?F ?N ?m1 ?m2 ?q1 ?q2 ?hn ?uu ?_ ?_; (case C => with_reducible assumption); (case F => k_asm); (case N => k_asm); (case m1 => k_mem); (case m2 => k_mem); (case hn => exact Nat.le_of_ble_eq_true rfl); (case q1 => walk_at "side word"); (case q2 => walk_at "side word"); (case uu => intro t9; k_upd); all_goals intro ew h9 tk9 t9 F9 N9; all_goals first | exact (no_tf (by with_reducible assumption) ew).elim | exact (no_tf ew (by with_reducible assumption)).elim | ((try replace N9 := N9 _ (by k_upd)); k_sweep; (try dsimp only); (try k_fold)))))
  trivial
section
theorem is_sign_c (w : World) (R : RD) (vs : List Value) (ts : List (Str × Str)) (p : Nat) (t : Tok) (u : Str) (tu : Tok) (k : Nat) (tk : Tok) (args : List Value) (hb : args = [.ref R.x, .str u tu, .int k tk] ∨ (args = [.ref R.x, .str u tu] ∧ k = 0 ∧ tk = 813)) :
    PCall w R vs ts p t 464 6 args fun v _ => v = .bool (signAt (ts.drop p) k u) := by
  walk_at "my_open"
  refine' enter [(Str.ofString "self", .ref R.x), (Str.ofString "sign", .str u tu), (Str.ofString "ahead", .int k tk)] ?k1 ?k2 ?k3 ?k4 ?k5 ?kA ?kF ?kK ?k6 ?k7 ?k8 ?k9 ?kB ?_ ?c2 ?c3 ?c4 ?c5
  walk_at "my_enter"
  case k9 => rcases hb with rfl | ⟨rfl, rfl, rfl⟩ <;> exact binds_K (X.keeps F.keep) rfl (by k_is) rfl rfl rfl
  walk_at "my_in"
  k_steps
  all_goals walk_at "my_endP"
  all_goals first | exact sign_val (by assumption) (by assumption) | exact sign_b (by assumption)

end
theorem row10 : True := by
  k_with "ct" => (exact is_sign_c _ _ _ _ _ _ _ _ _ _ _ (.inl rfl))
  k_with "ct" => (exact is_sign_c _ _ _ _ _ _ _ _ 0 _ _ (.inr ⟨rfl, rfl, rfl⟩))
  trivial
section
theorem row11 : True := by
  k_with "binaryOp Add str str" => ((fail_if_success k_extra "off06"); k_dflt ((refine SBL.add ?_ (by first | (have h7 : (Str.ofString " ").length = 1 := rfl; simp only [sizeLine] at *; omega)); intro _ _ _)))
  trivial
theorem is_reserved_c (w : World) (R : RD) (vs : List Value) (ts : List (Str × Str)) (p : Nat) (t : Tok) (u : Str) (tu : Tok) (hsz : u.length + 2 ≤ sizeLine) :
    PCall w R vs ts p t 342 2 [.str u tu] fun v _ => v = .bool (resv u) := by
  walk_at "my_open"
  refine' enter [(Str.ofString "word", .str u tu)] ?k1 ?k2 ?k3 ?k4 ?k5 ?kA ?kF ?kK ?k6 ?k7 ?k8 ?k9 ?kB ?_ ?c2 ?c3 ?c4 ?c5
  walk_at "my_enter"
  walk_at "my_in"
  k_steps
  all_goals walk_at "my_endP"
  rfl

end
theorem off06 : True := by
  k_with "off06" => skip
  trivial
theorem row12 : True := by
  k_with "ct" => (exact is_reserved_c _ _ _ _ _ _ _ _ (by simp only [sizeLine]; omega))
  trivial
section
theorem is_name_c (w : World) (R : RD) (vs : List Value) (ts : List (Str × Str)) (p : Nat) (t : Tok) (k : Nat) (tk : Tok) (args : List Value) (hb : args = [.ref R.x, .int k tk] ∨ (args = [.ref R.x] ∧ k = 0 ∧ tk = 790)) :
    PCall w R vs ts p t 442 6 args fun v _ => v = .bool (nameAt (ts.drop p) k) := by
  walk_at "my_open"
  refine' enter [(Str.ofString "self", .ref R.x), (Str.ofString "ahead", .int k tk)] ?k1 ?k2 ?k3 ?k4 ?k5 ?kA ?kF ?kK ?k6 ?k7 ?k8 ?k9 ?kB ?_ ?c2 ?c3 ?c4 ?c5
  walk_at "my_enter"
  case k9 => rcases hb with rfl | ⟨rfl, rfl, rfl⟩ <;> exact binds_K (X.keeps F.keep) rfl (by k_is) rfl rfl rfl
  walk_at "my_in"
  k_steps
  all_goals walk_at "my_endP"
  all_goals first | exact name_val (by assumption) (by assumption) | exact name_b (by assumption)

end
theorem row13 : True := by
  k_with "ct" => (exact is_name_c _ _ _ _ _ _ _ _ _ (.inl rfl))
  k_with "ct" => (exact is_name_c _ _ _ _ _ _ 0 _ _ (.inr ⟨rfl, rfl, rfl⟩))
  trivial
section
theorem word_ahead_c (w : World) (R : RD) (vs : List Value) (ts : List (Str × Str)) (p : Nat) (t : Tok) (k : Nat) (tk : Tok) (u : Str) (tu : Tok) :
    PCall w R vs ts p t 244 4 [.ref R.x, .int k tk, .str u tu] fun v _ => v = .bool (wordAt (ts.drop p) k u) := by
  walk_at "my_open"
  refine' enter [(Str.ofString "reader", .ref R.x), (Str.ofString "ahead", .int k tk), (Str.ofString "word", .str u tu)] ?k1 ?k2 ?k3 ?k4 ?k5 ?kA ?kF ?kK ?k6 ?k7 ?k8 ?k9 ?kB ?_ ?c2 ?c3 ?c4 ?c5
  walk_at "my_enter"
  walk_at "my_in"
  k_steps
  all_goals walk_at "my_endP"
  all_goals first | rw [word_no (by assumption)] | exact wordk_val (by assumption) (by assumption) | exact wordk_b (by assumption) (by assumption)

end
theorem row14 : True := by
  k_with "ct" => (exact word_ahead_c _ _ _ _ _ _ _ _ _ _)
  trivial
section
theorem word_get {l : List (Str × Str)} {i : Nat} {u : Str} (h : wordAt l i u = true) : l[i]? = some (Str.ofString "word", u) := by
  unfold wordAt at h
  split at h
  · rename_i q e
    obtain ⟨a, b⟩ := q
    simp only [Bool.and_eq_true, beq_iff_eq] at h
    rw [e, h.1, h.2]
  · cases h
theorem word_next (ts : List (Str × Str)) (p i : Nat) (u : Str) : wordAt (ts.drop p) (i + 1) u = wordAt (ts.drop (p + 1)) i u := by
  unfold wordAt
  rw [List.getElem?_drop, List.getElem?_drop, show p + (i + 1) = p + 1 + i by omega]
theorem take_c (w : World) (R : RD) (vs : List Value) (ts : List (Str × Str)) (p : Nat) (t : Tok) (k0 u0 : Str) (he : (ts.drop p)[0]? = some (k0, u0)) :
    RCall w R vs ts p t 391 4 [.ref R.x] fun v _ p' => v = pk vs (p + 0) ∧ p' = p + 1 := by
  walk_at "my_open"
  refine' enter [(Str.ofString "self", .ref R.x)] ?k1 ?k2 ?k3 ?k4 ?k5 ?kA ?kF ?kK ?k6 ?k7 ?k8 ?k9 ?kB ?_ ?c2 ?c3 ?c4 ?c5
  walk_at "my_enter"
  walk_at "my_in"
  k_steps
  all_goals walk_at "my_endR"
  exact ⟨Eq.symm (by assumption), rfl⟩
theorem take_use {w : World} {R : RD} {vs : List Value} {ts : List (Str × Str)} {p : Nat} {t : Tok} {h₀ : Heap} {L : Addr} {m : Str → Option Value} {news : List (Addr × Obj)} {s : Shared} {M : Nat} {A : Around} {Q E : Value → Shared → Prop} {k0 u0 : Str} {news' : Tok → List (Addr × Obj)} (C : Cx w R vs ts A L h₀ M) (F : Fr h₀ L s.heap m) (N : News h₀ L s.heap news) (m1 : (R.x, rdX R.dx) ∈ news) (m2 : (R.dx, rdD w R p t) ∈ news) (he : (ts.drop p)[0]? = some (k0, u0)) (hn : 4 ≤ M)
    (U : ∀ t', Upd R.dx (rdD w R p t) (rdD w R ((p + 1 : Nat) : Int) t') news (news' t'))
    (h1 : ∀ x, TokAt w h₀ x k0 u0 p → ∀ h' tk' t', Fr h₀ L h' m → News h₀ L h' (news' t') → Q (.ref x) { s with heap := h', toks := tk' }) :
    wpAny (model rw.prog w) A (call (.ref 391) [.ref R.x]) Q E s := by
  refine (take_c w R vs ts p t k0 u0 he).use C F N m1 m2 hn fun v l h' tk' p' t' F' N' _ e => ?_
  obtain ⟨e, rfl⟩ := e
  rcases pk_res C.T e with ⟨e1, e2⟩ | ⟨kd, u, x, e1, rfl, T1⟩
  · exact (no_both e1 he).elim
  · rw [e1] at he
    cases he
    exact h1 x T1 _ _ t' F' (fun q hq => N' _ (U t') q (List.mem_append_right _ hq))

end
theorem row15 : True := by
  k_with "call ref" => (k_dflt (((with_reducible show wpAny _ _ (call (Value.ref 391) _) _ _ _); refine' take_use ?C ?F ?N ?m1 ?m2 ?he ?hn ?uu ?_; (case C => with_reducible assumption); (case F => k_asm); (case N => k_asm); (case m1 => k_mem); (case m2 => k_mem); (case hn => exact Nat.le_of_ble_eq_true rfl); (case he => first | with_reducible assumption | exact word_get (by with_reducible assumption) | fail "take"); (case uu => intro t9; k_upd); intro x9 hx9 h9 tk9 t9 F9 N9; have hu9 := tok_len hx9; k_sweep; (try dsimp only); (try k_fold))))
  trivial
section
theorem need_c (w : World) (R : RD) (vs : List Value) (ts : List (Str × Str)) (p : Nat) (t : Tok) (u : Str) (tu : Tok) (hsp : Txt.split u (Str.ofString " ") = [u]) (hsz : u.length + 2 ≤ sizeLine) (hw : wordAt (ts.drop p) 0 u = true) :
    RCall w R vs ts p t 420 10 [.ref R.x, .str u tu] fun v _ p' => v = .none ∧ p' = p + 1 := by
  walk_at "my_open"
  refine' enter [(Str.ofString "self", .ref R.x), (Str.ofString "words", .str u tu)] ?k1 ?k2 ?k3 ?k4 ?k5 ?kA ?kF ?kK ?k6 ?k7 ?k8 ?k9 ?kB ?_ ?c2 ?c3 ?c4 ?c5
  walk_at "my_enter"
  walk_at "my_in"
  k_steps
  all_goals walk_at "my_endR"
  exact ⟨rfl, rfl⟩

end
theorem row16 : True := by
  k_with "cr" => (exact need_c _ _ _ _ _ _ _ _ (by walk_at "side word") (by walk_at "side word") (by with_reducible assumption))
  trivial
section
theorem one_of_c (w : World) (R : RD) (vs : List Value) (ts : List (Str × Str)) (p : Nat) (t : Tok) (tu : Tok) (h1 : wordAt (ts.drop p) 0 (Str.ofString "OF") = false) (h2 : wordAt (ts.drop p) 0 (Str.ofString "IN") = false) :
    RCall w R vs ts p t 427 10 [.ref R.x, .str (Str.ofString "OF IN") tu] fun v _ p' => ∃ tk, v = .str (Str.ofString "") tk ∧ p' = p := by
  walk_at "my_open"
  refine' enter [(Str.ofString "self", .ref R.x), (Str.ofString "words", .str (Str.ofString "OF IN") tu)] ?k1 ?k2 ?k3 ?k4 ?k5 ?kA ?kF ?kK ?k6 ?k7 ?k8 ?k9 ?kB ?_ ?c2 ?c3 ?c4 ?c5
  walk_at "my_enter"
  walk_at "my_in"
  have h1p : wordAt (ts.drop p) 0 ⟨#[79, 70]⟩ = false := h1
  have h2p : wordAt (ts.drop p) 0 ⟨#[73, 78]⟩ = false := h2
  k_steps
  all_goals walk_at "my_endR"
  exact ⟨_, rfl, rfl⟩

end
theorem row17 : True := by
  k_with "cs" => (exact one_of_c _ _ _ _ _ _ _ (by with_reducible assumption) (by with_reducible assumption))
  trivial
section
theorem name_c (w : World) (R : RD) (vs : List Value) (ts : List (Str × Str)) (p : Nat) (t : Tok) (k0 u0 : Str) (he : (ts.drop p)[0]? = some (k0, u0)) (hn : nameAt (ts.drop p) 0 = true) :
    RCall w R vs ts p t 449 8 [.ref R.x] fun v _ p' => ∃ tk, v = .str u0 tk ∧ p' = p + 1 := by
  walk_at "my_open"
  refine' enter [(Str.ofString "self", .ref R.x)] ?k1 ?k2 ?k3 ?k4 ?k5 ?kA ?kF ?kK ?k6 ?k7 ?k8 ?k9 ?kB ?_ ?c2 ?c3 ?c4 ?c5
  walk_at "my_enter"
  walk_at "my_in"
  k_steps
  all_goals walk_at "my_endR"
  exact ⟨_, rfl, rfl⟩

end
theorem row18 : True := by
  k_with "cs" => (exact name_c _ _ _ _ _ _ _ _ (by with_reducible assumption) (by with_reducible assumption))
  trivial
section
theorem is_part_next_c (w : World) (R : RD) (vs : List Value) (ts : List (Str × Str)) (p : Nat) (t : Tok) (h0 : signAt (ts.drop p) 0 (Str.ofString "(") = false) :
    PCall w R vs ts p t 139 8 [.ref R.x] fun v _ => v = .bool false := by
  walk_at "my_open"
  refine' enter [(Str.ofString "reader", .ref R.x)] ?k1 ?k2 ?k3 ?k4 ?k5 ?kA ?kF ?kK ?k6 ?k7 ?k8 ?k9 ?kB ?_ ?c2 ?c3 ?c4 ?c5
  walk_at "my_enter"
  walk_at "my_in"
  k_steps
  all_goals walk_at "my_endP"

end
theorem row19 : True := by
  k_with "ct" => (exact is_part_next_c _ _ _ _ _ _ (by with_reducible assumption))
  trivial
section
theorem read_ref_c (w : World) (R : RD) (vs : List Value) (ts : List (Str × Str)) (p : Nat) (t : Tok) (k0 u0 : Str) (he : (ts.drop p)[0]? = some (k0, u0)) (hn : nameAt (ts.drop p) 0 = true) (h1 : wordAt (ts.drop (p + 1)) 0 (Str.ofString "OF") = false) (h2 : wordAt (ts.drop (p + 1)) 0 (Str.ofString "IN") = false) (h3 : signAt (ts.drop (p + 1)) 0 (Str.ofString "(") = false) (tx : Value) :
    RCall w R vs ts p t 160 12 [.ref R.x, tx] (ItemPost u0 (p + 1)) := by
  walk_at "my_open"
  refine' enter [(Str.ofString "reader", .ref R.x), (Str.ofString "read_expr", tx)] ?k1 ?k2 ?k3 ?k4 ?k5 ?kA ?kF ?kK ?k6 ?k7 ?k8 ?k9 ?kB ?_ ?c2 ?c3 ?c4 ?c5
  walk_at "my_enter"
  walk_at "my_in"
  k_steps
  all_goals walk_at "my_endI"

end
theorem row20 : True := by
  k_with "ci" => (exact read_ref_c _ _ _ _ _ _ _ _ (by with_reducible assumption) (by with_reducible assumption) (by with_reducible assumption) (by with_reducible assumption) (by with_reducible assumption) _)
  trivial
section
theorem ref_here_c (w : World) (R : RD) (vs : List Value) (ts : List (Str × Str)) (p : Nat) (t : Tok) (k0 u0 : Str) (he : (ts.drop p)[0]? = some (k0, u0)) (hn : nameAt (ts.drop p) 0 = true) (h1 : wordAt (ts.drop (p + 1)) 0 (Str.ofString "OF") = false) (h2 : wordAt (ts.drop (p + 1)) 0 (Str.ofString "IN") = false) (h3 : signAt (ts.drop (p + 1)) 0 (Str.ofString "(") = false) :
    RCall w R vs ts p t 286 14 [.ref R.x] (ItemPost u0 (p + 1)) := by
  walk_at "my_open"
  refine' enter [(Str.ofString "reader", .ref R.x)] ?k1 ?k2 ?k3 ?k4 ?k5 ?kA ?kF ?kK ?k6 ?k7 ?k8 ?k9 ?kB ?_ ?c2 ?c3 ?c4 ?c5
  walk_at "my_enter"
  walk_at "my_in"
  k_steps
  all_goals walk_at "my_endI"
/-- a name stands at q, and what follows it is none of a reference's own -/
structure RefAt (ts : List (Str × Str)) (q : Nat) (u : Str) : Prop where
  he : ∃ k, (ts.drop q)[0]? = some (k, u)
  hn : nameAt (ts.drop q) 0 = true
  h1 : wordAt (ts.drop (q + 1)) 0 (Str.ofString "OF") = false
  h2 : wordAt (ts.drop (q + 1)) 0 (Str.ofString "IN") = false
  h3 : signAt (ts.drop (q + 1)) 0 (Str.ofString "(") = false
theorem ref_here_r (w : World) (R : RD) (vs : List Value) (ts : List (Str × Str)) (p : Nat) (t : Tok) (u : Str) (H : RefAt ts p u) : RCall w R vs ts p t 286 14 [.ref R.x] (ItemPost u (p + 1)) := by
  obtain ⟨⟨k, he⟩, hn, h1, h2, h3⟩ := H
  exact ref_here_c w R vs ts p t k u he hn h1 h2 h3

end
theorem row21 : True := by
  k_with "refat" => (assumption)
  k_with "ci" => (exact ref_here_r _ _ _ _ _ _ _ (by walk_at "refat"))
  trivial
section
section
variable {w : World} {A : Around} {E : Value → Shared → Prop} {Q : Flow → Shared → Prop} {s : Shared} {env : Env} {h₀ : Heap} {L : Addr}
/-- what a for goes over: its iterator, made and stepped -/
noncomputable def ItSrc (w : World) (A : Around) (h₀ : Heap) (L : Addr) (target : Expr) (src : Value) (n : Nat) (P : Nat → Value → Prop) (J : Nat → (Str → Option Value) → List (Addr × Obj) → Prop) : Prop :=
  ∀ (s₁ : Shared) m news (Q E : Value → Shared → Prop), J 0 m news → Fr h₀ L s₁.heap m → News h₀ L s₁.heap news →
    (∀ (oI : Obj) (St : Nat → Heap → Prop) fp, Walks rw.prog w A s₁.heap.objs.size fp [s₁.heap.objs.size] n P St → St 0 (s₁.heap.push oI) → (∀ i h, St i h → ∃ o, h.get? s₁.heap.objs.size = some o) →
      (∀ i h h' o j m' news', St i h → h.get? s₁.heap.objs.size = some o → h'.get? s₁.heap.objs.size = some o → Fr h₀ L h' m' → News h₀ L h' news' → J j m' news' → St i h') →
      (∀ i (s' : Shared) v (Q' : Unit → Shared → Prop) E', St i s'.heap → Q' () s' → wpAny (model rw.prog w) A (letOwnedTupleGo target (.ref s₁.heap.objs.size) v) Q' E' s') →
      Q (.ref s₁.heap.objs.size) { s₁ with heap := s₁.heap.push oI }) → wpAny (model rw.prog w) A (pyIter src) Q E s₁
/-- where a turn of a for ends -/
inductive ForEnd (Q : Flow → Shared → Prop) (s : Shared) (h₀ : Heap) (L I : Addr) (oI : Obj) (J1 : (Str → Option Value) → List (Addr × Obj) → Prop) : Flow → Shared → Prop
  | next (h' : Heap) (tk : Nat) (m₂ : Str → Option Value) (news₂ : List (Addr × Obj)) : Fr h₀ L h' m₂ → News h₀ L h' ((I, oI) :: news₂) → AllNe I news₂ → J1 m₂ news₂ → ForEnd Q s h₀ L I oI J1 .next { s with heap := h', toks := tk }
  | brk {s' : Shared} : Q .next s' → ForEnd Q s h₀ L I oI J1 .brk s'
  | ret {v : Value} {s' : Shared} : Q (.ret v) s' → ForEnd Q s h₀ L I oI J1 (.ret v) s'
/-- a for, at the value it goes over -/
inductive ForAt (w : World) (A : Around) (E : Value → Shared → Prop) (Q : Flow → Shared → Prop) (s : Shared) (env : Env) (h₀ : Heap) (L : Addr) (target : Expr) (body : List Stmt) (src : Value) (s₁ : Shared) : Prop
  | mk (n : Nat) (P : Nat → Value → Prop) (m : Str → Option Value) (news : List (Addr × Obj)) (J : Nat → (Str → Option Value) → List (Addr × Obj) → Prop) :
    ItSrc w A h₀ L target src n P J → (∃ h1 tk1, s₁ = { s with heap := h1, toks := tk1 }) → Fr h₀ L s₁.heap m → News h₀ L s₁.heap news → J 0 m news →
    (∀ i v m₁ news₁ h₁ tk₁ I oI, i < n → P i v → J i m₁ news₁ → Fr h₀ L h₁ m₁ → News h₀ L h₁ ((I, oI) :: news₁) → AllNe I news₁ →
      wpAny (model rw.prog w) A (assign target env v) (fun _ s₃ => wpAny (model rw.prog w) A (execs body env) (ForEnd Q s h₀ L I oI (J (i + 1))) E s₃) E { s with heap := h₁, toks := tk₁ }) →
    (∀ h' tk m' news', Fr h₀ L h' m' → News h₀ L h' news' → J n m' news' → Q .next { s with heap := h', toks := tk }) → ForAt w A E Q s env h₀ L target body src s₁
theorem For_go {target iter : Expr} {body : List Stmt} {pos : Pos}
    (hit : wpAny (model rw.prog w) A (eval iter env) (ForAt w A E Q s env h₀ L target body) E s)
    (hs : ∀ x, foldedSetIterable iter env x = pure x)
    (hE : PassesOwn (model rw.prog w) A env E) :
    wpAny (model rw.prog w) A (exec (.For target iter body [] pos) env) Q E s := by
  refine wpAny_For (wpAny_mono hit (fun src s₁ h₁ => ?_) fun _ _ e => e) hs
  obtain ⟨n, P, m, news, J, hsrc, ⟨hp1, tk1, rfl⟩, F, N, hJ, step, done⟩ := h₁
  refine hsrc { s with heap := hp1, toks := tk1 } m news _ _ hJ F N fun oI St fp W hst0 hob hkeep hgo => ?_
  dsimp only at W hst0 hob hkeep hgo ⊢
  have hIL : hp1.objs.size ≠ L := Nat.ne_of_gt F.ns.lt
  have hI0 : h₀.get? hp1.objs.size = none := by
    cases q : h₀.get? hp1.objs.size with
    | none => rfl
    | some o => have := Heap.lt_size (F.keep _ _ q); exact absurd this (Nat.lt_irrefl _)
  have F1 := F.push oI
  have hn0 : ∀ q ∈ news, q.1 ≠ hp1.objs.size := fun q hq => Nat.ne_of_lt (Heap.lt_size (N q hq).1)
  have N1 : News h₀ L (hp1.push oI) news := fun q hq => ⟨Heap.get?_push_of_some _ (N q hq).1, (N q hq).2⟩
  generalize hp1.objs.size = I at W hob hkeep hgo hIL hI0 hn0 ⊢
  refine codeAny_forLoop_any (fun k s' => ∃ h' tk m' news' i, s' = { s with heap := h', toks := tk } ∧ i ≤ n ∧ k = n + 1 - i ∧ St i h' ∧ Fr h₀ L h' m' ∧ News h₀ L h' news' ∧ (∀ q ∈ news', q.1 ≠ I) ∧ J i m' news') ?_ (n + 1)
    ⟨_, tk1, m, news, 0, rfl, Nat.zero_le _, rfl, hst0, F1, N1, hn0, hJ⟩
  rintro k s' ⟨h', tk, m', news', i, rfl, hi, rfl, hst, F', N', off', J'⟩
  have hw : ∀ b, b ≠ I → b ∉ [I] := fun b x hm => x (List.mem_singleton.mp hm)
  have hb : ∀ b o, h₀.get? b = some o → b ≠ I := fun b o q z => by rw [z, hI0] at q; cases q
  by_cases hlt : i < n
  · refine W.item i _ _ _ hlt hst fun v h₂ tk₂ hv hst₂ hk₂ => ?_
    refine hgo (i + 1) _ _ _ _ hst₂ ?_
    obtain ⟨oJ, hoI⟩ := hob _ _ hst₂
    have F2 : Fr h₀ L h₂ m' := ⟨F'.ns.at' fun o q => hk₂ _ o (hw _ (Ne.symm hIL)) q, fun b o q => hk₂ _ _ (hw _ (hb b o q)) (F'.keep _ _ q), F'.above⟩
    have N2 : News h₀ L h₂ ((I, oJ) :: news') := fun q hq => by
      rcases List.mem_cons.mp hq with rfl | hq
      · exact ⟨hoI, hIL, hI0⟩
      · exact ⟨hk₂ _ _ (hw _ (off' q hq)) (N' q hq).1, (N' q hq).2⟩
    refine wpAny_mono (wpAny_passesOwn hE (step i v m' news' h₂ tk₂ I oJ hlt hv J' F2 N2 (allNe_of off'))) (fun _ s₂ h₃ => wpAny_mono (wpAny_passesOwn hE h₃) (fun f s₃ h₄ => ?_) fun _ _ e => e) fun _ _ e => e
    cases h₄ with
    | next h5 tk5 m5 news5 F5 N5 off5 J5 =>
      have N5' : News h₀ L h5 news5 := fun q hq => N5 q (.tail _ hq)
      exact ⟨n + 1 - (i + 1), by omega, h5, tk5, m5, news5, i + 1, rfl, hlt, rfl, hkeep _ _ _ _ _ _ _ hst₂ hoI (N5 _ (.head _)).1 F5 N5' J5, F5, N5', fun q hq => AllNe.get off5 hq, J5⟩
    | brk h => exact h
    | ret h => exact h
  · obtain rfl : i = n := Nat.le_antisymm hi (Nat.not_lt.mp hlt)
    refine W.done _ _ _ hst fun h₂ tk₂ hk₂ => wpAny_execs_nil ?_
    exact done h₂ tk₂ m' news' ⟨F'.ns.at' fun o q => hk₂ _ o (hw _ (Ne.symm hIL)) q, fun b o q => hk₂ _ _ (hw _ (hb b o q)) (F'.keep _ _ q), F'.above⟩ (fun q hq => ⟨hk₂ _ _ (hw _ (off' q hq)) (N' q hq).1, (N' q hq).2⟩) J'
/-- over a tuple of the ledger -/
theorem it_tup {target : Expr} {ax : Addr} {items : List Value} {J : Nat → (Str → Option Value) → List (Addr × Obj) → Prop} (hh : A.handled = none) (hm : ∀ j m news, J j m news → (ax, tupO items) ∈ news) :
    ItSrc w A h₀ L target (.ref ax) items.toArray.size (fun i v => items.toArray[i]? = some v) J := fun s₁ m news Q E hJ F N h => by
  have ht : ∀ {h' : Heap} {j m' news'}, News h₀ L h' news' → J j m' news' → h'.IsTuple ax items.toArray := fun N' J' => ⟨_, (N' _ (hm _ _ _ J')).1, rfl, _, rfl⟩
  have ha : ax ≠ s₁.heap.objs.size := Nat.ne_of_lt (Heap.lt_size (N _ (hm _ _ _ hJ)).1)
  refine wpAny_pyIter_tuple (ht N hJ) (h _ _ _ (Walks.tuple hh _ ax ha items.toArray) ⟨⟨_, Heap.get?_push_size _ rfl, rfl, rfl⟩, ?_⟩ (fun i h' st => ?_) (fun i h1 h2 o j m' news' st e1 e2 F' N' J' => ?_) fun i s' v Q' E' st q => letGo_tupleiter st.1 q)
  · obtain ⟨o, e, r⟩ := ht N hJ
    exact ⟨o, Heap.get?_push_of_some _ e, r⟩
  · obtain ⟨⟨o, e, _⟩, _⟩ := st; exact ⟨o, e⟩
  · obtain ⟨⟨o', e, r⟩, _⟩ := st
    rw [e] at e1; cases e1
    exact ⟨⟨_, e2, r⟩, ht N' J'⟩
/-- over a range from 0, a name its target -/
theorem it_rng {x : Str} {px : Pos} {r : Addr} {c : Int} {t u v : Tok} {J : Nat → (Str → Option Value) → List (Addr × Obj) → Prop} (hh : A.handled = none) (hc : 0 ≤ c) (hc2 : c ≤ 10) (hm : ∀ j m news, J j m news → (r, ({ cls := .type "range", data := .fields #[.int 0 t, .int c u, .int 1 v] } : Obj)) ∈ news) :
    ItSrc w A h₀ L (.Name x px) (.ref r) c.toNat (fun _ v => ∃ n tk, v = .int n tk) J := fun s₁ m news Q E hJ F N h => by
  have hr : IsRange s₁.heap r 0 c 1 t u v := (N _ (hm _ _ _ hJ)).1
  have hsz : Builtin.Range.rangeSize 0 c 1 = (c.toNat : Int) := by rw [rangeSize_nat, Int.sub_zero]
  have W := Walks.range (prog := rw.prog) (w := w) hh s₁.heap.objs.size 0 1 c.toNat
  refine wpAny_pyIter_range hr ?_ (h _ _ _ { sub := W.sub, frame := W.frame, item := fun i s Q E hi st k => W.item i s Q E hi st fun v h' tk hv => k v h' tk (let ⟨tk, e⟩ := hv; ⟨_, tk, e⟩), done := W.done, self := W.self } ?_ (fun i h' st => ⟨_, st⟩) (fun i h1 h2 o j m' news' st e1 e2 F' N' J' => ?_) fun i s' v Q' E' st q => wpAny_pure q)
  · obtain ⟨n, rfl⟩ := Int.eq_ofNat_of_zero_le hc
    have h11 : ∀ n : Nat, n < 11 → n = 0 ∨ n = 1 ∨ n = 2 ∨ n = 3 ∨ n = 4 ∨ n = 5 ∨ n = 6 ∨ n = 7 ∨ n = 8 ∨ n = 9 ∨ n = 10 := by decide
    rcases h11 n (by omega) with rfl | rfl | rfl | rfl | rfl | rfl | rfl | rfl | rfl | rfl | rfl <;> decide +kernel
  · rw [hsz]
    have e : ((0 : Int) + ((0 : Nat) : Int) * 1) = 0 := rfl
    have e2 : ((c.toNat : Nat) : Int) - ((0 : Nat) : Int) = (c.toNat : Int) := by omega
    show IsRangeIter _ _ (0 + ((0 : Nat) : Int) * 1) ((c.toNat : Int) - ((0 : Nat) : Int)) 1
    rw [e, e2]
    exact Heap.get?_push_size _ rfl
  · have : h1.get? s₁.heap.objs.size = _ := st
    rw [e1] at this
    exact e2.trans this
end
theorem news_range {g h h' : Heap} {L : Addr} {m : Str → Option Value} {news : List (Addr × Obj)} {n : Int} {t u v : Tok} (F : Fr g L h m) (N : News g L h' news) (hr : IsRange h' h.objs.size 0 n 1 t u v) : News g L h' ((h.objs.size, ({ cls := .type "range", data := .fields #[.int 0 t, .int n u, .int 1 v] } : Obj)) :: news) := fun q hq => by
  rcases List.mem_cons.mp hq with rfl | hq
  · refine ⟨hr, Nat.ne_of_gt F.ns.lt, ?_⟩
    cases e : g.get? h.objs.size with
    | none => rfl
    | some o => exact absurd (Heap.lt_size (F.keep _ _ e)) (Nat.lt_irrefl _)
  · exact N q hq
noncomputable def ifB : Option Stmt → List Stmt
  | some (.If _ b _ _) => b
  | _ => []
/-- over a tuple of the base -/
theorem it_btup {w : World} {A : Around} {h₀ : Heap} {L : Addr} {target : Expr} {ax : Addr} {items : List Value} {J : Nat → (Str → Option Value) → List (Addr × Obj) → Prop} (hh : A.handled = none) (hb : h₀.get? ax = some (tupO items)) :
    ItSrc w A h₀ L target (.ref ax) items.toArray.size (fun i v => items.toArray[i]? = some v) J := fun s₁ m news Q E hJ F N h => by
  have ht : ∀ {h' : Heap} {m'}, Fr h₀ L h' m' → h'.IsTuple ax items.toArray := fun F' => ⟨_, F'.keep _ _ hb, rfl, _, rfl⟩
  have ha : ax ≠ s₁.heap.objs.size := Nat.ne_of_lt (Heap.lt_size (F.keep _ _ hb))
  refine wpAny_pyIter_tuple (ht F) (h _ _ _ (Walks.tuple hh _ ax ha items.toArray) ⟨⟨_, Heap.get?_push_size _ rfl, rfl, rfl⟩, ?_⟩ (fun i h' st => ?_) (fun i h1 h2 o j m' news' st e1 e2 F' N' J' => ?_) fun i s' v Q' E' st q => letGo_tupleiter st.1 q)
  · obtain ⟨o, e, r⟩ := ht F
    exact ⟨o, Heap.get?_push_of_some _ e, r⟩
  · obtain ⟨⟨o, e, _⟩, _⟩ := st; exact ⟨o, e⟩
  · obtain ⟨⟨o', e, r⟩, _⟩ := st
    rw [e] at e1; cases e1
    exact ⟨⟨_, e2, r⟩, ht F'⟩
theorem RCall.mono {w : World} {R : RD} {vs : List Value} {ts : List (Str × Str)} {p : Int} {t : Tok} {f : Addr} {n : Nat} {args : List Value} {post post' : Value → List (Addr × Obj) → Nat → Prop} (H : RCall w R vs ts p t f n args post) (h : ∀ v l p', post v l p' → post' v l p') : RCall w R vs ts p t f n args post' :=
  fun s hT A A₀ env outer base h₀ L m pr loose mean mg mb Q E hH hA hf hk B F X N T hd hu hR =>
    H s hT A A₀ env outer base h₀ L m pr loose mean mg mb Q E hH hA hf hk B F X N T hd hu fun v l h' tk' p' t' a b c => hR v l h' tk' p' t' a b (h v l p' c)
theorem rep_end {h h' : Heap} {v : Value} {d : D} {X : Prop} (r : RepN (NewAt h h') v d) (k : ∀ l, New h h' l → RepL l v d → X) : X := by
  obtain ⟨l, nw, rp⟩ := r.list
  exact k l nw rp
/-- which of its phrases a row has, and where it ends -/
inductive RowAt (ts : List (Str × Str)) (p : Nat) (dn cn : Str) : Option Str → Option Str → Nat → Prop
  | cnn : wordAt (ts.drop (p + 1)) 0 (Str.ofString "DELIMITER") = false → wordAt (ts.drop (p + 1)) 0 (Str.ofString "COUNT") = false → RowAt ts p dn cn none none (p + 1)
  | cni : wordAt (ts.drop (p + 1)) 0 (Str.ofString "DELIMITER") = false → wordAt (ts.drop (p + 1)) 0 (Str.ofString "COUNT") = true → wordAt (ts.drop (p + 1 + 1)) 0 (Str.ofString "IN") = true → RowAt ts p dn cn none (some cn) (p + 1 + 1 + 1 + 1)
  | cnc : wordAt (ts.drop (p + 1)) 0 (Str.ofString "DELIMITER") = false → wordAt (ts.drop (p + 1)) 0 (Str.ofString "COUNT") = true → wordAt (ts.drop (p + 1 + 1)) 0 (Str.ofString "IN") = false → RowAt ts p dn cn none (some cn) (p + 1 + 1 + 1)
  | cin : wordAt (ts.drop (p + 1)) 0 (Str.ofString "DELIMITER") = true → wordAt (ts.drop (p + 1 + 1)) 0 (Str.ofString "IN") = true → wordAt (ts.drop (p + 1 + 1 + 1 + 1)) 0 (Str.ofString "COUNT") = false → RowAt ts p dn cn (some dn) none (p + 1 + 1 + 1 + 1)
  | cii : wordAt (ts.drop (p + 1)) 0 (Str.ofString "DELIMITER") = true → wordAt (ts.drop (p + 1 + 1)) 0 (Str.ofString "IN") = true → wordAt (ts.drop (p + 1 + 1 + 1 + 1)) 0 (Str.ofString "COUNT") = true → wordAt (ts.drop (p + 1 + 1 + 1 + 1 + 1)) 0 (Str.ofString "IN") = true → RowAt ts p dn cn (some dn) (some cn) (p + 1 + 1 + 1 + 1 + 1 + 1 + 1)
  | cic : wordAt (ts.drop (p + 1)) 0 (Str.ofString "DELIMITER") = true → wordAt (ts.drop (p + 1 + 1)) 0 (Str.ofString "IN") = true → wordAt (ts.drop (p + 1 + 1 + 1 + 1)) 0 (Str.ofString "COUNT") = true → wordAt (ts.drop (p + 1 + 1 + 1 + 1 + 1)) 0 (Str.ofString "IN") = false → RowAt ts p dn cn (some dn) (some cn) (p + 1 + 1 + 1 + 1 + 1 + 1)
  | cdn : wordAt (ts.drop (p + 1)) 0 (Str.ofString "DELIMITER") = true → wordAt (ts.drop (p + 1 + 1)) 0 (Str.ofString "IN") = false → wordAt (ts.drop (p + 1 + 1 + 1)) 0 (Str.ofString "COUNT") = false → RowAt ts p dn cn (some dn) none (p + 1 + 1 + 1)
  | cdi : wordAt (ts.drop (p + 1)) 0 (Str.ofString "DELIMITER") = true → wordAt (ts.drop (p + 1 + 1)) 0 (Str.ofString "IN") = false → wordAt (ts.drop (p + 1 + 1 + 1)) 0 (Str.ofString "COUNT") = true → wordAt (ts.drop (p + 1 + 1 + 1 + 1)) 0 (Str.ofString "IN") = true → RowAt ts p dn cn (some dn) (some cn) (p + 1 + 1 + 1 + 1 + 1 + 1)
  | cdc : wordAt (ts.drop (p + 1)) 0 (Str.ofString "DELIMITER") = true → wordAt (ts.drop (p + 1 + 1)) 0 (Str.ofString "IN") = false → wordAt (ts.drop (p + 1 + 1 + 1)) 0 (Str.ofString "COUNT") = true → wordAt (ts.drop (p + 1 + 1 + 1 + 1)) 0 (Str.ofString "IN") = false → RowAt ts p dn cn (some dn) (some cn) (p + 1 + 1 + 1 + 1 + 1)
/-- one phrase of a row -/
inductive TurnAt (ts : List (Str × Str)) (W u : Str) (p : Nat) : Option Str → Nat → Prop
  | no : wordAt (ts.drop p) 0 W = false → TurnAt ts W u p none p
  | inn : wordAt (ts.drop p) 0 W = true → wordAt (ts.drop (p + 1)) 0 (Str.ofString "IN") = true → TurnAt ts W u p (some u) (p + 1 + 1 + 1)
  | bare : wordAt (ts.drop p) 0 W = true → wordAt (ts.drop (p + 1)) 0 (Str.ofString "IN") = false → TurnAt ts W u p (some u) (p + 1 + 1)
theorem row_at {ts : List (Str × Str)} {p p1 p2 : Nat} {dn cn : Str} {o1 o2 : Option Str} (h1 : TurnAt ts (Str.ofString "DELIMITER") dn (p + 1) o1 p1) (h2 : TurnAt ts (Str.ofString "COUNT") cn p1 o2 p2) : RowAt ts p dn cn o1 o2 p2 := by
  cases h1 with
  | no a => cases h2 with
    | no b => exact .cnn a b
    | inn b c => exact .cni a b c
    | bare b c => exact .cnc a b c
  | inn a d => cases h2 with
    | no b => exact .cin a d b
    | inn b c => exact .cii a d b c
    | bare b c => exact .cic a d b c
  | bare a d => cases h2 with
    | no b => exact .cdn a d b
    | inn b c => exact .cdi a d b c
    | bare b c => exact .cdc a d b c
noncomputable def forB : Option Stmt → List Stmt
  | some (.For _ _ b _ _) => b
  | _ => []
noncomputable def rowB : List Stmt := forB ((f 50).body[1]?)
theorem mset_eq {α : Type} {y : Str} {v u : α} : (if y = y then v else u) = v := if_pos rfl
theorem mset_ne {α : Type} {x y : Str} {v u r : α} (h : y ≠ x) (e : u = r) : (if y = x then v else u) = r := (if_neg h).trans e
/-- the objects behind the reader -/
structure Off (R : RD) (pl : Addr) (tl : List (Addr × Obj)) : Prop where
  d : ∀ q ∈ tl, q.1 ≠ R.dx
  x : ∀ q ∈ tl, q.1 ≠ R.x
  p : ∀ q ∈ tl, q.1 ≠ pl
theorem item_off {a b c : Addr} {t0 t1 : Tok} {u : Str} {r : List (Addr × Obj)} (n1 : AllNe a r) (n2 : AllNe b r) (n3 : AllNe c r) : ∀ q ∈ itemL a b c t0 u t1, ∀ z ∈ r, z.1 ≠ q.1 := fun q hq z hz => by
  rcases List.mem_cons.mp hq with rfl | hq
  · exact AllNe.get n1 hz
  · rcases List.mem_cons.mp hq with rfl | hq
    · exact AllNe.get n2 hz
    · rcases List.mem_cons.mp hq with rfl | hq
      · exact AllNe.get n3 hz
      · cases hq
theorem Off.new {R : RD} {pl : Addr} {o1 o2 o3 : Obj} {l tl : List (Addr × Obj)} (h : ∀ q ∈ l, ∀ z ∈ (R.dx, o1) :: (R.x, o2) :: (pl, o3) :: tl, z.1 ≠ q.1) : Off R pl l :=
  ⟨fun q hq => Ne.symm (h q hq _ (.head _)), fun q hq => Ne.symm (h q hq _ (.tail _ (.head _))), fun q hq => Ne.symm (h q hq _ (.tail _ (.tail _ (.head _))))⟩
theorem Off.app {R : RD} {pl : Addr} {l tl : List (Addr × Obj)} (h : Off R pl l) (h' : Off R pl tl) : Off R pl (l ++ tl) :=
  ⟨fun q hq => (List.mem_append.mp hq).elim (h.d q) (h'.d q), fun q hq => (List.mem_append.mp hq).elim (h.x q) (h'.x q), fun q hq => (List.mem_append.mp hq).elim (h.p q) (h'.p q)⟩
theorem Off.nil {R : RD} {pl : Addr} : Off R pl [] := ⟨(fun _ h => nomatch h), (fun _ h => nomatch h), (fun _ h => nomatch h)⟩
theorem news_sub0 {g h : Heap} {L : Addr} {a b : List (Addr × Obj)} (N : News g L h b) (s : ∀ q ∈ a, q ∈ b) : News g L h a := fun q hq => N q (s q hq)
theorem perm3l {α : Type} {x y z : α} {l tl : List α} : ∀ q ∈ x :: y :: z :: (l ++ tl), q ∈ l ++ x :: y :: z :: tl := fun q hq => by
  rcases List.mem_cons.mp hq with rfl | hq
  · exact List.mem_append_right _ (.head _)
  · rcases List.mem_cons.mp hq with rfl | hq
    · exact List.mem_append_right _ (.tail _ (.head _))
    · rcases List.mem_cons.mp hq with rfl | hq
      · exact List.mem_append_right _ (.tail _ (.tail _ (.head _)))
      · rcases List.mem_append.mp hq with hq | hq
        · exact List.mem_append_left _ hq
        · exact List.mem_append_right _ (.tail _ (.tail _ (.tail _ hq)))
theorem item_rep {a b c : Addr} {t0 t1 : Tok} {u : Str} : RepN (fun x o => (x, o) ∈ itemL a b c t0 u t1) (.ref a) (itemD u) :=
  .tup (.head _) (.cons (.str _ _) (.cons (.str _ _) (.cons (.tup (.tail _ (.head _)) .nil) (.cons (.tup (.tail _ (.tail _ (.head _))) .nil) (.cons .none .nil)))))
theorem row22 : True := by
  k_with "call builtin:list.append" => ((fail_if_success k_extra "off16"); k_dflt ((show wpAny _ _ (call (Value.builtin _) [Value.ref _, _]) _ _ _); (rename Fr _ _ _ _ => F9); (rename News _ _ _ _ => N9); first
  | (have hz9 := item_off (t0 := ta9) (t1 := tb9) (u := u) n1 n2 n3; have hy9 := Off.new hz9; have hO9 := hy9.app hO; (refine' append_K F9 (news_sub0 N9 perm3l) (Upd.tail (Ne.symm hpd) (Upd.tail (Ne.symm hpx) (Upd.head hO9.p))) ?_ hits); clear F9 N9 n1 n2 n3; intro h9 F9 N9)
  | ((refine' append_K F9 N9 (Upd.tail (Ne.symm hpd) (Upd.tail (Ne.symm hpx) (Upd.head hO.p))) ?_ hits); clear F9 N9; intro h9 F9 N9)
  | fail "own"))
  k_with "mlook" => ((fail_if_success k_extra "off16"); first | with_reducible assumption | with_reducible exact mset_eq | (refine mset_ne (by decide) ?_; walk_at "mlook"))
  k_with "lname" => ((fail_if_success k_extra "off16"); (refine' nameX_L (cl := []) F9 ?zl9 ?_ ?za9 ?zb9; (case zb9 => rfl); (case za9 => rfl); (case zl9 => walk_at "mlook"); (try dsimp only)))
  k_with "eval Name" => ((fail_if_success k_extra "off16"); k_dflt ((rename Fr _ _ _ _ => F9); first
  | ((with_reducible show wpAny _ _ (eval (Expr.Name (Str.ofString "reader") _) _) _ _ _); walk_at "lname")
  | ((with_reducible show wpAny _ _ (eval (Expr.Name (Str.ofString "word") _) _) _ _ _); walk_at "lname")
  | ((with_reducible show wpAny _ _ (eval (Expr.Name (Str.ofString "parts") _) _) _ _ _); walk_at "lname")
  | ((with_reducible show wpAny _ _ (eval (Expr.Name (Str.ofString "is_delimited") _) _) _ _ _); walk_at "lname")
  | fail "own"))
  k_with "call ref" => ((fail_if_success k_extra "off16"); k_dflt ((with_reducible show wpAny _ _ (call (Value.ref 413) _) _ _ _); (rename Fr _ _ _ _ => F9); (rename News _ _ _ _ => N9); refine' skip_use hC F9 N9 (List.Mem.tail _ (List.Mem.head _)) (List.Mem.head _) ?q1 ?q2 ?hn ?uu ?_ ?_; (case hn => exact Nat.le_of_ble_eq_true rfl); (case q1 => first | exact hsp | walk_at "side word"); (case q2 => first | exact hsz | walk_at "side word"); (case uu => (intro t9; exact Upd.head hup)); all_goals (clear F9 N9; intro ew h9 tk9 t9 F9 N9; (try replace N9 := N9 _ (Upd.head hup)); (try dsimp only); (try k_fold))))
  k_with "call ref" => ((fail_if_success k_extra "off16"); k_dflt ((with_reducible show wpAny _ _ (call (Value.ref 286) _) _ _ _); (rename Fr _ _ _ _ => F9); (rename News _ _ _ _ => N9); refine' RCall.useI hC F9 N9 (List.Mem.tail _ (List.Mem.head _)) (List.Mem.head _) (ref_here_r _ _ _ _ _ _ u ?rr) ?hn ?uu ?_; (case hn => exact Nat.le_of_ble_eq_true rfl); (case uu => (intro t9; exact Upd.head hup)); (case rr => first | exact h1 (by with_reducible assumption) (by with_reducible assumption) | exact h2 (by with_reducible assumption) (by with_reducible assumption)); clear F9 N9; intro a9 b9 c9 ta9 tb9 h9 tk9 t9 F9 N9 n1 n2 n3; (try dsimp only); (try k_fold)))
  k_with "call ref" => ((fail_if_success k_extra "off16"); k_dflt ((with_reducible show wpAny _ _ (call (Value.ref 293) _) _ _ _); exfalso; exact no_tf (by with_reducible assumption) (hf (by with_reducible assumption))))
  k_with "storeName" => ((fail_if_success k_extra "off16"); k_dflt ((rename Fr _ _ _ _ => F9); (rename News _ _ _ _ => N9); refine' storeX_L (cl := []) F9 N9 ?_ ?za9 ?zb9; (case zb9 => rfl); (case za9 => rfl); k_whole; clear F9 N9; intro h9 F9 N9; (try dsimp only); (try k_fold)))
  trivial
section
variable {w : World} {R : RD} {vs : List Value} {ts : List (Str × Str)} {p : Nat} {t tW : Tok} {W u : Str} {flag : Bool} {pl : Addr} {its : Array Value} {k dp un : Nat} {fr : Option (List Env)} {gd : Option (List Code)} {tl : List (Addr × Obj)} {g : Heap} {L : Addr} {m : Str → Option Value} {s : Shared} {Q : Flow → Shared → Prop} {pr : Program} {loose : List Str} {mean : ExcName → Option Value} {mg mb : Str → Option Value}
theorem row_turn (hC : Cx w R vs ts ⟨none, dp, fr, gd, un⟩ L g 17) (X' : (K w.params).In g) (T' : Top pr loose mean mg mb g) (hsp : Txt.split W (Str.ofString " ") = [W]) (hsz : W.length + 2 ≤ sizeLine) (hf : wordAt (ts.drop p) 0 W = true → flag = true)
    (h1 : wordAt (ts.drop p) 0 W = true → wordAt (ts.drop (p + 1)) 0 (Str.ofString "IN") = true → RefAt ts (p + 1 + 1) u) (h2 : wordAt (ts.drop p) 0 W = true → wordAt (ts.drop (p + 1)) 0 (Str.ofString "IN") = false → RefAt ts (p + 1) u)
    (mr : m (Str.ofString "reader") = some (.ref R.x)) (mw : m (Str.ofString "word") = some (.str W tW)) (mp : m (Str.ofString "parts") = some (.ref pl)) (md : m (Str.ofString "is_delimited") = some (.bool flag))
    (hxd : R.x ≠ R.dx) (hpd : pl ≠ R.dx) (hpx : pl ≠ R.x) (hO : Off R pl tl) (hits : its.size ≤ sizeLine)
    (F9 : Fr g L s.heap m) (N9 : News g L s.heap ((R.dx, rdD w R p t) :: (R.x, rdX R.dx) :: (pl, listOf its k) :: tl))
    (hQ : ∀ o v l (p' : Nat) t' h' tk' tm, TurnAt ts W u p o p' → (∀ q ∈ l, ∀ z ∈ tl, z.1 ≠ q.1) → Off R pl l → RepN (fun a o => (a, o) ∈ l) v (optD o) → Fr g L h' (fun y => if y = Str.ofString "mark" then some (.int p tm) else m y) → News g L h' ((R.dx, rdD w R p' t') :: (R.x, rdX R.dx) :: (pl, listOf (its.push v) (k + 1)) :: (l ++ tl)) → Q .next { s with heap := h', toks := tk' }) :
    wpAny (model rw.prog w) ⟨none, dp, fr, gd, un⟩ (execs rowB (envOf (Str.ofString "unstrung_row") (f 50).scope L 328 (Value.ref 327))) Q (fun _ _ => False) s := by
  have hup : ∀ q ∈ ((R.x, rdX R.dx) :: (pl, listOf its k) :: tl), q.1 ≠ R.dx := List.forall_mem_cons.mpr ⟨hxd, List.forall_mem_cons.mpr ⟨hpd, hO.d⟩⟩
  w_on
  w_top on
  k_steps
  all_goals (rename Fr _ _ _ _ => F9; rename News _ _ _ _ => N9; first
    | exact hQ _ _ _ _ _ _ _ _ (.inn (by with_reducible assumption) (by with_reducible assumption)) (fun q hq z hz => hz9 q hq z (.tail _ (.tail _ (.tail _ hz)))) hy9 item_rep F9 N9
    | exact hQ _ _ _ _ _ _ _ _ (.bare (by with_reducible assumption) (by with_reducible assumption)) (fun q hq z hz => hz9 q hq z (.tail _ (.tail _ (.tail _ hz)))) hy9 item_rep F9 N9
    | exact hQ none .none [] _ _ _ _ _ (.no (by with_reducible assumption)) (fun q hq => nomatch hq) Off.nil .none F9 N9)
theorem permI {α : Type} {i x y z : α} {l : List α} : ∀ q ∈ x :: y :: z :: i :: l, q ∈ i :: x :: y :: z :: l := fun q hq => by
  rcases List.mem_cons.mp hq with rfl | hq
  · exact .tail _ (.head _)
  · rcases List.mem_cons.mp hq with rfl | hq
    · exact .tail _ (.tail _ (.head _))
    · rcases List.mem_cons.mp hq with rfl | hq
      · exact .tail _ (.tail _ (.tail _ (.head _)))
      · rcases List.mem_cons.mp hq with rfl | hq
        · exact .head _
        · exact .tail _ (.tail _ (.tail _ (.tail _ hq)))
theorem permI' {α : Type} {i x y z : α} {l : List α} : ∀ q ∈ i :: x :: y :: z :: l, q ∈ x :: y :: z :: i :: l := fun q hq => by
  rcases List.mem_cons.mp hq with rfl | hq
  · exact .tail _ (.tail _ (.tail _ (.head _)))
  · rcases List.mem_cons.mp hq with rfl | hq
    · exact .head _
    · rcases List.mem_cons.mp hq with rfl | hq
      · exact .tail _ (.head _)
      · rcases List.mem_cons.mp hq with rfl | hq
        · exact .tail _ (.tail _ (.head _))
        · exact .tail _ (.tail _ (.tail _ (.tail _ hq)))
theorem permJ {α : Type} {i x y z : α} {l' l tl : List α} : ∀ q ∈ i :: x :: y :: z :: (l' ++ l ++ tl), q ∈ x :: y :: z :: (l' ++ i :: (l ++ tl)) := fun q hq => by
  rcases List.mem_cons.mp hq with rfl | hq
  · exact .tail _ (.tail _ (.tail _ (List.mem_append_right _ (.head _))))
  · rcases List.mem_cons.mp hq with rfl | hq
    · exact .head _
    · rcases List.mem_cons.mp hq with rfl | hq
      · exact .tail _ (.head _)
      · rcases List.mem_cons.mp hq with rfl | hq
        · exact .tail _ (.tail _ (.head _))
        · refine .tail _ (.tail _ (.tail _ ?_))
          rw [List.append_assoc] at hq
          rcases List.mem_append.mp hq with hq | hq
          · exact List.mem_append_left _ hq
          · exact List.mem_append_right _ (.tail _ hq)
theorem ne_turn {I : Addr} {oI o1 o2 o3 o1' o3' : Obj} {dx x pl : Addr} {l' l tl : List (Addr × Obj)} (ne : AllNe I ((dx, o1) :: (x, o2) :: (pl, o3) :: (l ++ tl))) (off : ∀ q ∈ l', ∀ z ∈ (I, oI) :: (l ++ tl), z.1 ≠ q.1) : AllNe I ((dx, o1') :: (x, o2) :: (pl, o3') :: (l' ++ l ++ tl)) :=
  ⟨ne.1, ne.2.1, ne.2.2.1, allNe_of fun q hq => by
    rw [List.append_assoc] at hq
    rcases List.mem_append.mp hq with hq | hq
    · exact Ne.symm (off q hq _ (.head _))
    · exact AllNe.get ne.2.2.2 hq⟩
/-- a row in the making -/
inductive RowMid (ts : List (Str × Str)) (p : Nat) (dn cn : Str) (l : List (Addr × Obj)) : Nat → List Value → Nat → Prop
  | zero : RowMid ts p dn cn l 0 [] (p + 1)
  | one {o : Option Str} {v : Value} {p1 : Nat} : TurnAt ts (Str.ofString "DELIMITER") dn (p + 1) o p1 → RepN (fun a o => (a, o) ∈ l) v (optD o) → RowMid ts p dn cn l 1 [v] p1
  | two {o o' : Option Str} {v v' : Value} {p2 : Nat} : RowAt ts p dn cn o o' p2 → RepN (fun a o => (a, o) ∈ l) v (optD o) → RepN (fun a o => (a, o) ∈ l) v' (optD o') → RowMid ts p dn cn l 2 [v, v'] p2
/-- what the rows' loop keeps -/
inductive RowJ (w : World) (R : RD) (ts : List (Str × Str)) (p : Nat) (dn cn : Str) (pl : Addr) (flag : Bool) (v0 : Value) (tl : List (Addr × Obj)) (j : Nat) (m : Str → Option Value) : List (Addr × Obj) → Prop
  | mk {l : List (Addr × Obj)} {its : List Value} {k' p' : Nat} {t' : Tok} : m (Str.ofString "reader") = some (.ref R.x) → m (Str.ofString "parts") = some (.ref pl) → m (Str.ofString "is_delimited") = some (.bool flag) → m (Str.ofString "goal") = some v0 → Off R pl l → RowMid ts p dn cn l j its p' →
    RowJ w R ts p dn cn pl flag v0 tl j m ((R.dx, rdD w R (p' : Nat) t') :: (R.x, rdX R.dx) :: (pl, listOf (List.toArray its) k') :: (l ++ tl))
theorem rows_for {k1 : Nat} {h1 : Heap} {tk1 : Nat} {px : Pos} {body : List Stmt} {tu : Addr} {tka tkb : Tok} {g0 dn cn : Str} {v0 : Value} (hbody : body = rowB) (hf : wordAt (ts.drop (p + 1)) 0 (Str.ofString "DELIMITER") = true → flag = true) (hf2 : wordAt (ts.drop (p + 1)) 0 (Str.ofString "DELIMITER") = false → wordAt (ts.drop (p + 1)) 0 (Str.ofString "COUNT") = true → flag = true) (hD1 : wordAt (ts.drop (p + 1)) 0 (Str.ofString "DELIMITER") = true → wordAt (ts.drop (p + 1 + 1)) 0 (Str.ofString "IN") = true → RefAt ts (p + 1 + 1 + 1) dn) (hD2 : wordAt (ts.drop (p + 1)) 0 (Str.ofString "DELIMITER") = true → wordAt (ts.drop (p + 1 + 1)) 0 (Str.ofString "IN") = false → RefAt ts (p + 1 + 1) dn) (hC1 : wordAt (ts.drop (p + 1)) 0 (Str.ofString "DELIMITER") = false → wordAt (ts.drop (p + 1)) 0 (Str.ofString "COUNT") = true → wordAt (ts.drop (p + 1 + 1)) 0 (Str.ofString "IN") = true → RefAt ts (p + 1 + 1 + 1) cn) (hC2 : wordAt (ts.drop (p + 1)) 0 (Str.ofString "DELIMITER") = false → wordAt (ts.drop (p + 1)) 0 (Str.ofString "COUNT") = true → wordAt (ts.drop (p + 1 + 1)) 0 (Str.ofString "IN") = false → RefAt ts (p + 1 + 1) cn) (hC3 : wordAt (ts.drop (p + 1)) 0 (Str.ofString "DELIMITER") = true → wordAt (ts.drop (p + 1 + 1)) 0 (Str.ofString "IN") = true → wordAt (ts.drop (p + 1 + 1 + 1 + 1)) 0 (Str.ofString "COUNT") = true → wordAt (ts.drop (p + 1 + 1 + 1 + 1 + 1)) 0 (Str.ofString "IN") = true → RefAt ts (p + 1 + 1 + 1 + 1 + 1 + 1) cn) (hC4 : wordAt (ts.drop (p + 1)) 0 (Str.ofString "DELIMITER") = true → wordAt (ts.drop (p + 1 + 1)) 0 (Str.ofString "IN") = true → wordAt (ts.drop (p + 1 + 1 + 1 + 1)) 0 (Str.ofString "COUNT") = true → wordAt (ts.drop (p + 1 + 1 + 1 + 1 + 1)) 0 (Str.ofString "IN") = false → RefAt ts (p + 1 + 1 + 1 + 1 + 1) cn) (hC5 : wordAt (ts.drop (p + 1)) 0 (Str.ofString "DELIMITER") = true → wordAt (ts.drop (p + 1 + 1)) 0 (Str.ofString "IN") = false → wordAt (ts.drop (p + 1 + 1 + 1)) 0 (Str.ofString "COUNT") = true → wordAt (ts.drop (p + 1 + 1 + 1 + 1)) 0 (Str.ofString "IN") = true → RefAt ts (p + 1 + 1 + 1 + 1 + 1) cn) (hC6 : wordAt (ts.drop (p + 1)) 0 (Str.ofString "DELIMITER") = true → wordAt (ts.drop (p + 1 + 1)) 0 (Str.ofString "IN") = false → wordAt (ts.drop (p + 1 + 1 + 1)) 0 (Str.ofString "COUNT") = true → wordAt (ts.drop (p + 1 + 1 + 1 + 1)) 0 (Str.ofString "IN") = false → RefAt ts (p + 1 + 1 + 1 + 1) cn) (hC : Cx w R vs ts ⟨none, dp, fr, gd, un⟩ L g 17) (X' : (K w.params).In g) (T' : Top pr loose mean mg mb g)
    (mr : m (Str.ofString "reader") = some (.ref R.x)) (mp : m (Str.ofString "parts") = some (.ref pl)) (md : m (Str.ofString "is_delimited") = some (.bool flag)) (m0 : m (Str.ofString "goal") = some v0)
    (hxd : R.x ≠ R.dx) (hpd : pl ≠ R.dx) (hpx : pl ≠ R.x) (hO : Off R pl tl) (h0 : RepN (fun a o => (a, o) ∈ tl) v0 (itemD g0)) (hT : (tu, tupO [.str (Str.ofString "DELIMITER") tka, .str (Str.ofString "COUNT") tkb]) ∈ tl)
    (F9 : Fr g L h1 m) (N9 : News g L h1 ((R.dx, rdD w R ((p + 1 : Nat) : Int) t) :: (R.x, rdX R.dx) :: (pl, listOf (List.toArray []) k1) :: tl))
    (done : ∀ h' tk' m' dO cO v1 v2 l (p' : Nat) t' k', RowAt ts p dn cn dO cO p' → Off R pl l → RepN (fun a o => (a, o) ∈ l) v0 (itemD g0) → RepN (fun a o => (a, o) ∈ l) v1 (optD dO) → RepN (fun a o => (a, o) ∈ l) v2 (optD cO) → m' (Str.ofString "goal") = some v0 → m' (Str.ofString "parts") = some (.ref pl) →
      Fr g L h' m' → News g L h' ((R.dx, rdD w R p' t') :: (R.x, rdX R.dx) :: (pl, listOf (List.toArray [v1, v2]) k') :: l) → Q .next { s with heap := h', toks := tk' }) :
    ForAt w ⟨none, dp, fr, gd, un⟩ (fun _ _ => False) Q s (envOf (Str.ofString "unstrung_row") (f 50).scope L 328 (Value.ref 327)) g L (.Name (Str.ofString "word") px) body (.ref tu) { s with heap := h1, toks := tk1 } := by
  subst hbody
  refine ⟨_, _, m, _, RowJ w R ts p dn cn pl flag v0 tl,
    it_tup (items := [.str (Str.ofString "DELIMITER") tka, .str (Str.ofString "COUNT") tkb]) rfl (fun j m news h => ?_), ⟨_, _, rfl⟩, F9, N9, RowJ.mk (l := []) (its := []) mr mp md m0 Off.nil .zero, fun i v m₁ news₁ h₁ tk₁ I oI hi9 hP hJ F1 N1 ne => ?_, fun h' tk' m' news' F' N' hJ => ?_⟩
  · obtain ⟨_, _, _, _, _, _⟩ := h
    exact .tail _ (.tail _ (.tail _ (List.mem_append_right _ hT)))
  · obtain @⟨l, its, k', p', t', j1, j2, j3, j4, j5, j6⟩ := hJ
    have hOI : Off R pl ((I, oI) :: (l ++ tl)) := by
      have := j5.app hO
      exact ⟨List.forall_mem_cons.mpr ⟨Ne.symm ne.1, this.d⟩, List.forall_mem_cons.mpr ⟨Ne.symm ne.2.1, this.x⟩, List.forall_mem_cons.mpr ⟨Ne.symm ne.2.2.1, this.p⟩⟩
    cases j6 with
    | zero =>
      have hv := Option.some.inj hP
      subst hv
      refine wpAny_assign_Name (storeX_L (cl := []) F1 N1 (fun h' F2 N2 => ?_) rfl rfl)
      refine row_turn (tl := (I, oI) :: (l ++ tl)) (its := List.toArray []) (W := Str.ofString "DELIMITER") (u := dn) (flag := flag) (k := k') (pl := pl) (p := p + 1) (t := t') hC X' T' (by decide +kernel) (Nat.le_of_ble_eq_true rfl) hf hD1 hD2 (by walk_at "mlook") mset_eq (by walk_at "mlook") (by walk_at "mlook") hxd hpd hpx hOI (Nat.le_of_ble_eq_true rfl) F2 (news_sub0 N2 permI) ?_
      intro o v' l' p'' t'' h3 tk3 tm ta off hol rep F3 N3
      exact .next h3 tk3 _ ((R.dx, rdD w R (p'' : Nat) t'') :: (R.x, rdX R.dx) :: (pl, listOf (List.toArray [v']) (k' + 1)) :: (l' ++ l ++ tl)) F3 (news_sub0 N3 permJ) (ne_turn ne off) (RowJ.mk (its := [v']) (by walk_at "mlook") (by walk_at "mlook") (by walk_at "mlook") (by walk_at "mlook") (hol.app j5) (.one ta (rep.mono fun _ _ z => List.mem_append_left _ z)))
    | one ta1 rep1 =>
      have x1 : wordAt (ts.drop p') 0 (Str.ofString "COUNT") = true → flag = true := by
        intro b
        cases ta1 with
        | no a => exact hf2 a b
        | inn a d => exact hf a
        | bare a d => exact hf a
      have x2 : wordAt (ts.drop p') 0 (Str.ofString "COUNT") = true → wordAt (ts.drop (p' + 1)) 0 (Str.ofString "IN") = true → RefAt ts (p' + 1 + 1) cn := by
        intro b c
        cases ta1 with
        | no a => exact hC1 a b c
        | inn a d => exact hC3 a d b c
        | bare a d => exact hC5 a d b c
      have x3 : wordAt (ts.drop p') 0 (Str.ofString "COUNT") = true → wordAt (ts.drop (p' + 1)) 0 (Str.ofString "IN") = false → RefAt ts (p' + 1) cn := by
        intro b c
        cases ta1 with
        | no a => exact hC2 a b c
        | inn a d => exact hC4 a d b c
        | bare a d => exact hC6 a d b c
      have hv := Option.some.inj hP
      subst hv
      refine wpAny_assign_Name (storeX_L (cl := []) F1 N1 (fun h' F2 N2 => ?_) rfl rfl)
      refine row_turn (tl := (I, oI) :: (l ++ tl)) (its := List.toArray [_]) (W := Str.ofString "COUNT") (u := cn) (flag := flag) (k := k') (pl := pl) (p := p') (t := t') hC X' T' (by decide +kernel) (Nat.le_of_ble_eq_true rfl) x1 x2 x3 (by walk_at "mlook") mset_eq (by walk_at "mlook") (by walk_at "mlook") hxd hpd hpx hOI (Nat.le_of_ble_eq_true rfl) F2 (news_sub0 N2 permI) ?_
      intro o v' l' p'' t'' h3 tk3 tm ta off hol rep F3 N3
      exact .next h3 tk3 _ ((R.dx, rdD w R (p'' : Nat) t'') :: (R.x, rdX R.dx) :: (pl, listOf (List.toArray [_, v']) (k' + 1)) :: (l' ++ l ++ tl)) F3 (news_sub0 N3 permJ) (ne_turn ne off) (RowJ.mk (its := [_, v']) (by walk_at "mlook") (by walk_at "mlook") (by walk_at "mlook") (by walk_at "mlook") (hol.app j5) (.two (row_at ta1 ta) (rep1.mono fun _ _ z => List.mem_append_right _ z) (rep.mono fun _ _ z => List.mem_append_left _ z)))
    | two _ _ _ => exact absurd hi9 (Nat.lt_irrefl 2)
  · obtain @⟨l, its, k', p', t', _, j2, _, j4, j5, j6⟩ := hJ
    have e : (List.toArray [Value.str (Str.ofString "DELIMITER") tka, .str (Str.ofString "COUNT") tkb]).size = 2 := rfl
    rw [e] at j6
    cases j6 with
    | two a b c => exact done _ _ _ _ _ _ _ (l ++ tl) _ _ _ a (j5.app hO) (h0.mono fun _ _ z => List.mem_append_right _ z) (b.mono fun _ _ z => List.mem_append_left _ z) (c.mono fun _ _ z => List.mem_append_left _ z) j4 j2 F' N'
end
theorem row23 : True := by
  k_with "exec For Name Tuple cons nil" => ((fail_if_success k_extra "off16"); k_dflt (refine' For_go (h₀ := g) (L := L') ?_ ?zs9 ?ze9; (case zs9 => intro _; rfl); (case ze9 => exact PassesOwn.never)))
  trivial
theorem perm8 {α : Type} {w t p a b c x d : α} : ∀ q ∈ [d, x, p, w, t, a, b, c], q ∈ [w, t, p, a, b, c, x, d] := fun q hq => by
  simp only [List.mem_cons, List.not_mem_nil, or_false] at hq ⊢
  rcases hq with h | h | h | h | h | h | h | h <;> simp [h]
theorem rep5 {w t a b c : Addr} {oW oT : Obj} {t0 t1 : Tok} {u : Str} : RepN (fun x o => (x, o) ∈ [(w, oW), (t, oT), (a, tupO [.str (Str.ofString "ref") t0, .str u t1, .ref b, .ref c, .none]), (b, tupO []), (c, tupO [])]) (.ref a) (itemD u) :=
  .tup (.tail _ (.tail _ (.head _))) (.cons (.str _ _) (.cons (.str _ _) (.cons (.tup (.tail _ (.tail _ (.tail _ (.head _)))) .nil) (.cons (.tup (.tail _ (.tail _ (.tail _ (.tail _ (.head _))))) .nil) (.cons .none .nil)))))
theorem off5 {R : RD} {pl w t a b c : Addr} {o1 o2 o3 o4 o5 o6 o7 o8 : Obj} {r : List (Addr × Obj)} {g h : Heap} {L : Addr} (_ : News g L h [(w, o1), (t, o2), (pl, o6), (a, o3), (b, o4), (c, o5), (R.x, o7), (R.dx, o8)]) (n1 : AllNe a r) (n2 : AllNe b r) (n3 : AllNe c r) (hx : ∃ o, (R.x, o) ∈ r) (hd : ∃ o, (R.dx, o) ∈ r) (l1 : a < pl ∧ b < pl ∧ c < pl ∧ R.x < pl ∧ R.dx < pl) (l2 : pl < t ∧ a < t ∧ b < t ∧ c < t ∧ R.x < t ∧ R.dx < t) (l3 : t < w ∧ pl < w ∧ a < w ∧ b < w ∧ c < w ∧ R.x < w ∧ R.dx < w) :
    Off R pl [(w, o1), (t, o2), (a, o3), (b, o4), (c, o5)] ∧ pl ≠ R.dx ∧ pl ≠ R.x := by
  obtain ⟨_, hx⟩ := hx
  obtain ⟨_, hd⟩ := hd
  have n : ∀ q ∈ ([] : List (Addr × Obj)), False := fun _ h => nomatch h
  refine ⟨⟨?_, ?_, ?_⟩, Nat.ne_of_gt l1.2.2.2.2, Nat.ne_of_gt l1.2.2.2.1⟩
  · exact List.forall_mem_cons.mpr ⟨Nat.ne_of_gt l3.2.2.2.2.2.2, List.forall_mem_cons.mpr ⟨Nat.ne_of_gt l2.2.2.2.2.2, List.forall_mem_cons.mpr ⟨Ne.symm (AllNe.get n1 hd), List.forall_mem_cons.mpr ⟨Ne.symm (AllNe.get n2 hd), List.forall_mem_cons.mpr ⟨Ne.symm (AllNe.get n3 hd), fun q h => (n q h).elim⟩⟩⟩⟩⟩
  · exact List.forall_mem_cons.mpr ⟨Nat.ne_of_gt l3.2.2.2.2.2.1, List.forall_mem_cons.mpr ⟨Nat.ne_of_gt l2.2.2.2.2.1, List.forall_mem_cons.mpr ⟨Ne.symm (AllNe.get n1 hx), List.forall_mem_cons.mpr ⟨Ne.symm (AllNe.get n2 hx), List.forall_mem_cons.mpr ⟨Ne.symm (AllNe.get n3 hx), fun q h => (n q h).elim⟩⟩⟩⟩⟩
  · exact List.forall_mem_cons.mpr ⟨Nat.ne_of_gt l3.2.1, List.forall_mem_cons.mpr ⟨Nat.ne_of_gt l2.1, List.forall_mem_cons.mpr ⟨Nat.ne_of_lt l1.1, List.forall_mem_cons.mpr ⟨Nat.ne_of_lt l1.2.1, List.forall_mem_cons.mpr ⟨Nat.ne_of_lt l1.2.2.1, fun q h => (n q h).elim⟩⟩⟩⟩⟩
theorem row24 : True := by
  k_with "ForAt" => ((fail_if_success k_extra "off16"); k_dflt ((rename News _ _ _ _ => N9); (rename Fr _ _ _ _ => F9); have N8 := news_sub0 N9 perm8; have hO9 := off5 (r := rdL w R ((p : Nat) : Int) t) N9 (by assumption) (by assumption) (by assumption) ⟨_, List.Mem.head _⟩ ⟨_, List.Mem.tail _ (List.Mem.head _)⟩ (by assumption) (by assumption) (by assumption); (refine' rows_for ?yb hf hf2 hD1 hD2 hC1 hC2 hC3 hC4 hC5 hC6 hC X' T' ?m1 ?m2 ?m3 ?m4 hne hO9.2.1 hO9.2.2 hO9.1 rep5 (List.Mem.head _) F9 N8 ?yd); (case yb => rfl); (case m1 => rfl); (case m2 => rfl); (case m3 => rfl); (case m4 => rfl); clear N8 N9 F9 hO9; intro h9 tk9 m9 dO9 cO9 v19 v29 l9 p9 t9 kk9 hra hol hr0 hr1 hr2 hg9 hp9 F9 N9; (try dsimp only); (try k_fold)))
  k_with "eval Name" => ((fail_if_success k_extra "off16"); k_dflt ((rename Fr _ _ _ _ => F9); first
  | ((with_reducible show wpAny _ _ (eval (Expr.Name (Str.ofString "goal") _) _) _ _ _); walk_at "lname")
  | ((with_reducible show wpAny _ _ (eval (Expr.Name (Str.ofString "parts") _) _) _ _ _); walk_at "lname")
  | fail "own"))
  trivial
theorem row_c (w : World) (R : RD) (vs : List Value) (ts : List (Str × Str)) (p : Nat) (t : Tok) (g0 dn cn : Str) (flag : Bool) (hG0 : RefAt ts p g0) (hf : wordAt (ts.drop (p + 1)) 0 (Str.ofString "DELIMITER") = true → flag = true) (hf2 : wordAt (ts.drop (p + 1)) 0 (Str.ofString "DELIMITER") = false → wordAt (ts.drop (p + 1)) 0 (Str.ofString "COUNT") = true → flag = true) (hD1 : wordAt (ts.drop (p + 1)) 0 (Str.ofString "DELIMITER") = true → wordAt (ts.drop (p + 1 + 1)) 0 (Str.ofString "IN") = true → RefAt ts (p + 1 + 1 + 1) dn) (hD2 : wordAt (ts.drop (p + 1)) 0 (Str.ofString "DELIMITER") = true → wordAt (ts.drop (p + 1 + 1)) 0 (Str.ofString "IN") = false → RefAt ts (p + 1 + 1) dn) (hC1 : wordAt (ts.drop (p + 1)) 0 (Str.ofString "DELIMITER") = false → wordAt (ts.drop (p + 1)) 0 (Str.ofString "COUNT") = true → wordAt (ts.drop (p + 1 + 1)) 0 (Str.ofString "IN") = true → RefAt ts (p + 1 + 1 + 1) cn) (hC2 : wordAt (ts.drop (p + 1)) 0 (Str.ofString "DELIMITER") = false → wordAt (ts.drop (p + 1)) 0 (Str.ofString "COUNT") = true → wordAt (ts.drop (p + 1 + 1)) 0 (Str.ofString "IN") = false → RefAt ts (p + 1 + 1) cn) (hC3 : wordAt (ts.drop (p + 1)) 0 (Str.ofString "DELIMITER") = true → wordAt (ts.drop (p + 1 + 1)) 0 (Str.ofString "IN") = true → wordAt (ts.drop (p + 1 + 1 + 1 + 1)) 0 (Str.ofString "COUNT") = true → wordAt (ts.drop (p + 1 + 1 + 1 + 1 + 1)) 0 (Str.ofString "IN") = true → RefAt ts (p + 1 + 1 + 1 + 1 + 1 + 1) cn) (hC4 : wordAt (ts.drop (p + 1)) 0 (Str.ofString "DELIMITER") = true → wordAt (ts.drop (p + 1 + 1)) 0 (Str.ofString "IN") = true → wordAt (ts.drop (p + 1 + 1 + 1 + 1)) 0 (Str.ofString "COUNT") = true → wordAt (ts.drop (p + 1 + 1 + 1 + 1 + 1)) 0 (Str.ofString "IN") = false → RefAt ts (p + 1 + 1 + 1 + 1 + 1) cn) (hC5 : wordAt (ts.drop (p + 1)) 0 (Str.ofString "DELIMITER") = true → wordAt (ts.drop (p + 1 + 1)) 0 (Str.ofString "IN") = false → wordAt (ts.drop (p + 1 + 1 + 1)) 0 (Str.ofString "COUNT") = true → wordAt (ts.drop (p + 1 + 1 + 1 + 1)) 0 (Str.ofString "IN") = true → RefAt ts (p + 1 + 1 + 1 + 1 + 1) cn) (hC6 : wordAt (ts.drop (p + 1)) 0 (Str.ofString "DELIMITER") = true → wordAt (ts.drop (p + 1 + 1)) 0 (Str.ofString "IN") = false → wordAt (ts.drop (p + 1 + 1 + 1)) 0 (Str.ofString "COUNT") = true → wordAt (ts.drop (p + 1 + 1 + 1 + 1)) 0 (Str.ofString "IN") = false → RefAt ts (p + 1 + 1 + 1 + 1) cn)  :
    RCall w R vs ts p t 328 18 [.ref R.x, .bool flag] fun v l p' => ∃ dO cO, RepL l v (rowD g0 dO cO) ∧ RowAt ts p dn cn dO cO p' := by
  walk_at "my_open"
  refine' enter [(Str.ofString "reader", .ref R.x), (Str.ofString "is_delimited", .bool flag)] ?k1 ?k2 ?k3 ?k4 ?k5 ?kA ?kF ?kK ?k6 ?k7 ?k8 ?k9 ?kB ?_ ?c2 ?c3 ?c4 ?c5
  walk_at "my_enter"
  walk_at "my_in"
  k_steps
  all_goals (rename News _ _ _ _ => N9; rename Fr _ _ _ _ => F9)
  all_goals (refine' rep_end (d := rowD g0 dO9 cO9) ?rr (fun l nw rp => hR _ l _ _ _ _ (end_R rfl hx0 hg F9 (News.get N9 (.tail _ (.tail _ (.head _)))) (News.get N9 (.tail _ (.head _)))) nw ⟨_, _, rp, hra⟩))
  unfold rowD
  exact RepN.tup (new_of rfl hg N9 (.head _) (Nat.ne_of_gt (by (try dsimp only); omega)) (Nat.ne_of_gt (by (try dsimp only); omega))) (.cons (hr0.mono fun a o hm => new_of rfl hg N9 (.tail _ (.tail _ (.tail _ (.tail _ hm)))) (hol.x _ hm) (hol.d _ hm)) (.cons (hr1.mono fun a o hm => new_of rfl hg N9 (.tail _ (.tail _ (.tail _ (.tail _ hm)))) (hol.x _ hm) (hol.d _ hm)) (.cons (hr2.mono fun a o hm => new_of rfl hg N9 (.tail _ (.tail _ (.tail _ (.tail _ hm)))) (hol.x _ hm) (hol.d _ hm)) .nil)))

end
theorem off16 : True := by
  k_with "off16" => skip
  trivial
section
/-- POINTER, with WITH or not, or none of it -/
inductive PtrAt (ts : List (Str × Str)) (p : Nat) (pn : Str) : Option Str → Nat → Prop
  | w : wordAt (ts.drop (p)) 0 (Str.ofString "WITH") = true → wordAt (ts.drop (p)) 1 (Str.ofString "POINTER") = true → PtrAt ts p pn (some pn) (p + 1 + 1 + 1)
  | a : wordAt (ts.drop (p)) 0 (Str.ofString "WITH") = false → wordAt (ts.drop (p)) 0 (Str.ofString "POINTER") = true → PtrAt ts p pn (some pn) (p + 1 + 1)
  | b : wordAt (ts.drop (p)) 1 (Str.ofString "POINTER") = false → wordAt (ts.drop (p)) 0 (Str.ofString "POINTER") = true → PtrAt ts p pn (some pn) (p + 1 + 1)
  | m : wordAt (ts.drop (p)) 0 (Str.ofString "WITH") = false → wordAt (ts.drop (p)) 0 (Str.ofString "POINTER") = false → PtrAt ts p pn none p
  | n : wordAt (ts.drop (p)) 1 (Str.ofString "POINTER") = false → wordAt (ts.drop (p)) 0 (Str.ofString "POINTER") = false → PtrAt ts p pn none p
theorem row25 : True := by
  k_with "refat" => ((fail_if_success k_extra "off17"); first | with_reducible assumption | exact hW (by with_reducible assumption) (by with_reducible assumption) | exact hP (by with_reducible assumption))
  k_with "my_endPtr" => ((fail_if_success k_extra "off17"); first | (refine' rep_end (d := optD _) ?rr (fun l nw rp => hR _ l _ _ _ _ (end_R rfl hx0 hg (by assumption) (News.get (by assumption) (by k_mem)) (News.get (by assumption) (by k_mem))) nw ⟨_, rp, @PtrAt.w ts p pn (by with_reducible assumption) (by with_reducible assumption)⟩); (case rr => (unfold optD; (try unfold itemD); walk_at "my_rep"))) | (refine' rep_end (d := optD _) ?rr (fun l nw rp => hR _ l _ _ _ _ (end_R rfl hx0 hg (by assumption) (News.get (by assumption) (by k_mem)) (News.get (by assumption) (by k_mem))) nw ⟨_, rp, @PtrAt.a ts p pn (by with_reducible assumption) (by with_reducible assumption)⟩); (case rr => (unfold optD; (try unfold itemD); walk_at "my_rep"))) | (refine' rep_end (d := optD _) ?rr (fun l nw rp => hR _ l _ _ _ _ (end_R rfl hx0 hg (by assumption) (News.get (by assumption) (by k_mem)) (News.get (by assumption) (by k_mem))) nw ⟨_, rp, @PtrAt.b ts p pn (by with_reducible assumption) (by with_reducible assumption)⟩); (case rr => (unfold optD; (try unfold itemD); walk_at "my_rep"))) | (refine' rep_end (d := optD _) ?rr (fun l nw rp => hR _ l _ _ _ _ (end_R rfl hx0 hg (by assumption) (News.get (by assumption) (by k_mem)) (News.get (by assumption) (by k_mem))) nw ⟨_, rp, @PtrAt.m ts p pn (by with_reducible assumption) (by with_reducible assumption)⟩); (case rr => (unfold optD; (try unfold itemD); walk_at "my_rep"))) | (refine' rep_end (d := optD _) ?rr (fun l nw rp => hR _ l _ _ _ _ (end_R rfl hx0 hg (by assumption) (News.get (by assumption) (by k_mem)) (News.get (by assumption) (by k_mem))) nw ⟨_, rp, @PtrAt.n ts p pn (by with_reducible assumption) (by with_reducible assumption)⟩); (case rr => (unfold optD; (try unfold itemD); walk_at "my_rep"))) | exact (no_tf (by with_reducible assumption) ((word_next ts p 0 _).symm.trans (by with_reducible assumption))).elim | fail "ptr")
  trivial
theorem pointer_c (w : World) (R : RD) (vs : List Value) (ts : List (Str × Str)) (p : Nat) (t : Tok) (pn : Str) (hW : wordAt (ts.drop (p)) 0 (Str.ofString "WITH") = true → wordAt (ts.drop (p)) 1 (Str.ofString "POINTER") = true → RefAt ts (p + 1 + 1) pn) (hP : wordAt (ts.drop (p)) 0 (Str.ofString "POINTER") = true → RefAt ts (p + 1) pn) :
    RCall w R vs ts p t 314 16 [.ref R.x] fun v l p' => ∃ dO, RepL l v (optD dO) ∧ PtrAt ts p pn dO p' := by
  walk_at "my_open"
  refine' enter [(Str.ofString "reader", .ref R.x)] ?k1 ?k2 ?k3 ?k4 ?k5 ?kA ?kF ?kK ?k6 ?k7 ?k8 ?k9 ?kB ?_ ?c2 ?c3 ?c4 ?c5
  walk_at "my_enter"
  walk_at "my_in"
  k_steps
  all_goals walk_at "my_endPtr"

end
theorem off17 : True := by
  k_with "off17" => skip
  trivial
section
noncomputable abbrev phrL (a b c d : Addr) (t1 t2 : Tok) : List (Addr × Obj) := [(a, tupO [.ref b, .ref c, .ref d]), (b, tupO [.str (Str.ofString "ON") t1]), (c, tupO [.str (Str.ofString "OVERFLOW") t2]), (d, tupO [])]
noncomputable def PhrPost (q : Nat) (v : Value) (l : List (Addr × Obj)) (p' : Nat) : Prop := ∃ a b c d t1 t2, v = .ref a ∧ l = phrL a b c d t1 t2 ∧ p' = q
theorem row26 : True := by
  k_with "my_endPhr" => ((fail_if_success k_extra "off18"); (refine' hR _ (phrL _ _ _ _ _ _) _ _ _ _ ?ee ?nn ⟨_, _, _, _, _, _, rfl, rfl, rfl⟩; (case ee => exact end_R rfl hx0 hg (by assumption) (News.get (by assumption) (by k_mem)) (News.get (by assumption) (by k_mem))); (case nn => walk_at "my_new")))
  trivial
theorem phrase_c (w : World) (R : RD) (vs : List Value) (ts : List (Str × Str)) (p : Nat) (t : Tok) (tk : Tok) :
    RCall w R vs ts p t 251 4 [.str (Str.ofString "over") tk] fun v l p' => PhrPost p v l p' := by
  walk_at "my_open"
  refine' enter [(Str.ofString "key", .str (Str.ofString "over") tk)] ?k1 ?k2 ?k3 ?k4 ?k5 ?kA ?kF ?kK ?k6 ?k7 ?k8 ?k9 ?kB ?_ ?c2 ?c3 ?c4 ?c5
  walk_at "my_enter"
  walk_at "my_in"
  k_steps
  all_goals walk_at "my_endPhr"
section
variable {w : World} {R : RD} {vs : List Value} {ts : List (Str × Str)} {p q : Nat} {t : Tok} {h₀ : Heap} {L : Addr} {m : Str → Option Value} {news : List (Addr × Obj)} {s : Shared} {f : Addr} {n M : Nat} {args : List Value} {A : Around} {Q E : Value → Shared → Prop} {news' : Tok → List (Addr × Obj)}
theorem RCall.usePhr (C : Cx w R vs ts A L h₀ M) (F : Fr h₀ L s.heap m) (N : News h₀ L s.heap news) (m1 : (R.x, rdX R.dx) ∈ news) (m2 : (R.dx, rdD w R p t) ∈ news) (H : RCall w R vs ts p t f n args (PhrPost q)) (hn : n ≤ M)
    (U : ∀ t', Upd R.dx (rdD w R p t) (rdD w R (q : Nat) t') news (news' t'))
    (h : ∀ a b c d t1 t2 h' tk' t', Fr h₀ L h' m → News h₀ L h' (phrL a b c d t1 t2 ++ news' t') → AllNe a news → AllNe b news → AllNe c news → AllNe d news → Q (.ref a) { s with heap := h', toks := tk' }) :
    wpAny (model rw.prog w) A (call (.ref f) args) Q E s := H.use C F N m1 m2 hn fun v l h' tk' p' t' F' N' ne e => by
  obtain ⟨a, b, c, d, t1, t2, rfl, rfl, rfl⟩ := e
  exact h a b c d t1 t2 _ _ t' F' (N' _ (U t')) (allNe_of fun r hr => ne r hr _ (.head _)) (allNe_of fun r hr => ne r hr _ (.tail _ (.head _))) (allNe_of fun r hr => ne r hr _ (.tail _ (.tail _ (.head _)))) (allNe_of fun r hr => ne r hr _ (.tail _ (.tail _ (.tail _ (.head _)))))
end

end
theorem off18 : True := by
  k_with "off18" => skip
  trivial
section
theorem row27 : True := by
  k_with "call ref" => ((fail_if_success k_extra "off19"); k_dflt ((with_reducible show wpAny _ _ (call (Value.ref 251) _) _ _ _); (refine' RCall.usePhr ?C ?F ?N ?m1 ?m2 (phrase_c _ _ _ _ _ _ _) ?hn ?uu ?_; (case C => with_reducible assumption); (case F => k_asm); (case N => k_asm); (case m1 => k_mem); (case m2 => k_mem); (case hn => exact Nat.le_of_ble_eq_true rfl); (case uu => intro t9; k_upd); intro a9 b9 c9 d9 ta9 tb9 h9 tk9 t9 F9 N9 n1 n2 n3 n4; simp only [List.cons_append, List.nil_append] at N9; k_sweep; (try dsimp only); (try k_fold))))
  trivial
/-- what the key opens, behind its first words -/
inductive OpAt (ts : List (Str × Str)) (p a : Nat) : Int → Prop
  | on : wordAt (ts.drop p) a (Str.ofString "ON") = true → wordAt (ts.drop p) (a + 1) (Str.ofString "OVERFLOW") = true → OpAt ts p a ((a : Int) + 1 + 1)
  | ov : wordAt (ts.drop p) a (Str.ofString "ON") = false → wordAt (ts.drop p) a (Str.ofString "OVERFLOW") = true → OpAt ts p a ((a : Int) + 1)
  | ono : wordAt (ts.drop p) a (Str.ofString "ON") = true → wordAt (ts.drop p) (a + 1) (Str.ofString "OVERFLOW") = false → OpAt ts p a 0
  | no : wordAt (ts.drop p) a (Str.ofString "ON") = false → wordAt (ts.drop p) a (Str.ofString "OVERFLOW") = false → OpAt ts p a 0
section
variable {w : World} {A : Around} {E : Value → Shared → Prop} {Q : Flow → Shared → Prop} {s : Shared} {g : Heap} {L a c : Addr} {cn : Str} {cs : Scope} {ccd : Value} {m : Str → Option Value} {news : List (Addr × Obj)} {x y : Str} {px py : Pos} {body : List Stmt} {pos : Pos}
/-- a for over an empty tuple -/
theorem for_nil (hE : PassesOwn (model rw.prog w) A (envX cn cs L a ccd []) E) (hh : A.handled = none) (hk : cs.kind = .function) (hy : (envX cn cs L a ccd []).kindOf y = some .local) (hd : (y == ("__debug__" : Str)) = false)
    (hm : m y = some (.ref c)) (hc : (c, tupO []) ∈ news) (F : Fr g L s.heap m) (N : News g L s.heap news)
    (done : ∀ h' tk, Fr g L h' m → News g L h' news → Q .next { s with heap := h', toks := tk }) :
    wpAny (model rw.prog w) A (exec (.For (.Name x px) (.Name y py) body [] pos) (envX cn cs L a ccd [])) Q E s := by
  refine For_go (h₀ := g) (L := L) (nameX_L (cl := []) F hm ⟨_, _, m, news, fun _ m' n' => m' = m ∧ n' = news, it_tup (items := []) hh (fun j m' n' h => h.2 ▸ hc), ⟨_, _, rfl⟩, F, N, ⟨rfl, rfl⟩, fun i v m₁ n₁ h₁ tk₁ I oI hi => absurd hi (Nat.not_lt_zero _), fun h' tk m' n' F' N' e => ?_⟩ hk hy hd) (fun _ => rfl) hE
  obtain ⟨rfl, rfl⟩ := e
  exact done _ _ F' N'
/-- where the one turn ends -/
inductive OneEnd (Q : Flow → Shared → Prop) (s : Shared) (g : Heap) (L : Addr) (news : List (Addr × Obj)) (J1 : (Str → Option Value) → Prop) : Flow → Shared → Prop
  | next {h' : Heap} {tk : Nat} {m₂ : Str → Option Value} : Fr g L h' m₂ → News g L h' news → J1 m₂ → OneEnd Q s g L news J1 .next { s with heap := h', toks := tk }
  | brk {s' : Shared} : Q .next s' → OneEnd Q s g L news J1 .brk s'
  | ret {v : Value} {s' : Shared} : Q (.ret v) s' → OneEnd Q s g L news J1 (.ret v) s'
/-- a for over a tuple of one item -/
theorem for_one {v : Value} (J1 : (Str → Option Value) → Prop) (hE : PassesOwn (model rw.prog w) A (envX cn cs L a ccd []) E) (hh : A.handled = none) (hk : cs.kind = .function) (hy : (envX cn cs L a ccd []).kindOf y = some .local) (hd : (y == ("__debug__" : Str)) = false) (hx : (envX cn cs L a ccd []).kindOf x = some .local)
    (hm : m y = some (.ref c)) (hc : (c, tupO [v]) ∈ news) (F : Fr g L s.heap m) (N : News g L s.heap news)
    (step : ∀ I oI h1 tk1, Fr g L h1 (fun z => if z = x then some v else m z) → News g L h1 ((I, oI) :: news) → wpAny (model rw.prog w) A (execs body (envX cn cs L a ccd [])) (OneEnd Q s g L ((I, oI) :: news) J1) E { s with heap := h1, toks := tk1 })
    (done : ∀ h' tk m₂, J1 m₂ → Fr g L h' m₂ → News g L h' news → Q .next { s with heap := h', toks := tk }) :
    wpAny (model rw.prog w) A (exec (.For (.Name x px) (.Name y py) body [] pos) (envX cn cs L a ccd [])) Q E s := by
  refine For_go (h₀ := g) (L := L) (nameX_L (cl := []) F hm ⟨_, _, m, news, fun j m' n' => n' = news ∧ ((j = 0 ∧ m' = m) ∨ (j = 1 ∧ J1 m')), it_tup (items := [v]) hh (fun j m' n' h => h.1 ▸ hc), ⟨_, _, rfl⟩, F, N, ⟨rfl, .inl ⟨rfl, rfl⟩⟩, fun i v' m₁ n₁ h₁ tk₁ I oI hi hv hJ F1 N1 ne => ?_, fun h' tk m' n' F' N' e => ?_⟩ hk hy hd) (fun _ => rfl) hE
  · obtain ⟨rfl, hJ⟩ := hJ
    have hi0 : i = 0 := Nat.lt_one_iff.mp hi
    subst hi0
    cases Option.some.inj hv
    rcases hJ with ⟨_, rfl⟩ | ⟨h, _⟩
    · refine wpAny_assign_Name (storeX_L (cl := []) F1 N1 (fun h' F2 N2 => ?_) hk hx)
      refine wpAny_mono (step I oI h' _ F2 N2) (fun f s' h => ?_) fun _ _ h => h
      cases h with
      | next F' N' j => exact .next _ _ _ _ F' N' ne ⟨rfl, .inr ⟨rfl, j⟩⟩
      | brk h => exact .brk h
      | ret h => exact .ret h
    · cases h
  · obtain ⟨rfl, ⟨h, _⟩ | ⟨_, j⟩⟩ := e
    · exact absurd h (Nat.succ_ne_zero 0)
    · exact done _ _ _ j F' N'
end
noncomputable def opB : List Stmt := (f 39).body.drop 2
noncomputable def opT : List Stmt := (f 39).body.drop 4
/-- the names that the rest reads -/
structure OpN (R : RD) (key : Str) (a : Nat) (m : Str → Option Value) : Prop where
  r : m (Str.ofString "reader") = some (.ref R.x)
  k : ∃ tk, m (Str.ofString "key") = some (.str key tk)
  a : ∃ ta, m (Str.ofString "ahead") = some (.int a ta)
theorem OpN.set {R : RD} {key : Str} {a : Nat} {m : Str → Option Value} {x : Str} {v : Option Value} (h : OpN R key a m) (h1 : Str.ofString "reader" ≠ x) (h2 : Str.ofString "key" ≠ x) (h3 : Str.ofString "ahead" ≠ x) : OpN R key a (fun y => if y = x then v else m y) :=
  ⟨(if_neg h1).trans h.r, h.k.imp fun _ e => (if_neg h2).trans e, h.a.imp fun _ e => (if_neg h3).trans e⟩
section
variable {w : World} {R : RD} {vs : List Value} {ts : List (Str × Str)} {p a M : Nat} {t tk ta tb : Tok} {key : Str} {dp un : Nat} {fr : Option (List Env)} {gd : Option (List Code)} {g : Heap} {L : Addr} {m : Str → Option Value} {s : Shared} {pr : Program} {loose : List Str} {mean : ExcName → Option Value} {mg mb : Str → Option Value} {news : List (Addr × Obj)}
theorem argV3 {x y z : Str} {p1 p2 p3 : Pos} {v1 v2 v3 : Value} {k : Nat} (h1 : m x = some v1) (h2 : m y = some v2) (h3 : m z = some v3) : argV m [.Name x p1, .Name y p2, .Name z p3] k = some ([v1, v2, v3], k) := by
  have e : ∀ {x : Str} {p1 : Pos} {v : Value}, m x = some v → arg1 m k (.Name x p1) = some (v, k) := fun {x _ _} h => by
    show (m x).map _ = _
    rw [h]; rfl
  show (arg1 m k (.Name x p1)).bind _ = _
  rw [e h1]
  show ((arg1 m k (.Name y p2)).bind _).map _ = _
  rw [e h2]
  show (((arg1 m k (.Name z p3)).bind _).map _).map _ = _
  rw [e h3]; rfl
theorem wa_use {u : Str} {tu : Tok} {p1 p2 p3 p4 p5 : Pos} {Q E : Value → Shared → Prop} {A : Around} (C : Cx w R vs ts A L g M) (hM : 4 ≤ M) (T' : Top pr loose mean mg mb g) (F : Fr g L s.heap m) (N : News g L s.heap news) (m1 : (R.x, rdX R.dx) ∈ news) (m2 : (R.dx, rdD w R p t) ∈ news)
    (mr : m (Str.ofString "reader") = some (.ref R.x)) (ma : m (Str.ofString "ahead") = some (.int a ta)) (mw : m (Str.ofString "word") = some (.str u tu))
    (h : ∀ h' tk', Fr g L h' m → News g L h' news → Q (.bool (wordAt (ts.drop p) a u)) { s with heap := h', toks := tk' }) :
    wpAny (model rw.prog w) A (eval (.Call (.Name (Str.ofString "word_ahead") p1) [.Name (Str.ofString "reader") p2, .Name (Str.ofString "ahead") p3, .Name (Str.ofString "word") p4] [] p5) (envOf (Str.ofString "opening_length") (f 39).scope L 258 (Value.ref 257))) Q E s := by
  refine' fcall F C.X T' ?c1 ?c3 ?c4 ?c5 ?c6 ?c7 ?c10 ?c12 ?_
  case c1 => exact rfl
  case c3 => exact rfl
  case c4 => decide
  case c5 => exact rfl
  case c6 => exact argV3 mr ma mw
  case c7 => k_is
  case c10 => k_is
  case c12 => exact rfl
  exact PCall.useE C F N m1 m2 (word_ahead_c _ _ _ _ _ _ _ _ _ _) hM h
variable {Q : Flow → Shared → Prop}
theorem row28 : True := by
  k_with "mlook" => ((fail_if_success k_extra "off19"); first | with_reducible assumption | with_reducible exact mset_eq | (refine mset_ne (by decide) ?_; walk_at "mlook"))
  k_with "lname" => ((fail_if_success k_extra "off19"); (refine' nameX_L (cl := []) F9 ?zl9 ?_ ?za9 ?zb9; (case zb9 => rfl); (case za9 => rfl); (case zl9 => walk_at "mlook"); (try dsimp only)))
  k_with "eval Name" => ((fail_if_success k_extra "off19"); k_dflt ((rename Fr _ _ _ _ => F9); first
  | ((with_reducible show wpAny _ _ (eval (Expr.Name (Str.ofString "reader") _) _) _ _ _); walk_at "lname")
  | ((with_reducible show wpAny _ _ (eval (Expr.Name (Str.ofString "word") _) _) _ _ _); walk_at "lname")
  | ((with_reducible show wpAny _ _ (eval (Expr.Name (Str.ofString "key") _) _) _ _ _); walk_at "lname")
  | ((with_reducible show wpAny _ _ (eval (Expr.Name (Str.ofString "ahead") _) _) _ _ _); walk_at "lname")
  | ((with_reducible show wpAny _ _ (eval (Expr.Name (Str.ofString "bare") _) _) _ _ _); walk_at "lname")
  | ((with_reducible show wpAny _ _ (eval (Expr.Name (Str.ofString "early") _) _) _ _ _); walk_at "lname")
  | ((with_reducible show wpAny _ _ (eval (Expr.Name (Str.ofString "needed") _) _) _ _ _); walk_at "lname")
  | ((with_reducible show wpAny _ _ (eval (Expr.Name (Str.ofString "late") _) _) _ _ _); walk_at "lname")
  | fail "own"))
  k_with "eval Call" => ((fail_if_success k_extra "off19"); k_dflt ((with_reducible show wpAny _ _ (eval (Expr.Call (Expr.Name (Str.ofString "word_ahead") _) [Expr.Name _ _, Expr.Name _ _, Expr.Name _ _] [] _) _) _ _ _); (rename Fr _ _ _ _ => F9); (rename News _ _ _ _ => N9); refine' wa_use hC ?wn T' F9 N9 ?w1 ?w2 ?w3 ?w4 ?w5 ?_; (case wn => exact Nat.le_of_ble_eq_true rfl); (case w1 => k_mem); (case w2 => k_mem); (case w3 => walk_at "mlook"); (case w4 => walk_at "mlook"); (case w5 => walk_at "mlook"); clear F9 N9; intro h9 tk9 F9 N9; (try dsimp only); (try k_fold)))
  k_with "storeName" => ((fail_if_success k_extra "off19"); k_dflt ((rename Fr _ _ _ _ => F9); (rename News _ _ _ _ => N9); refine' storeX_L (cl := []) F9 N9 ?_ ?za9 ?zb9; (case zb9 => rfl); (case za9 => rfl); k_whole; clear F9 N9; intro h9 F9 N9; (try dsimp only); (try k_fold)))
  k_with "exec For Name Name cons nil" => ((fail_if_success k_extra "off19"); k_dflt ((rename Fr _ _ _ _ => F9); (rename News _ _ _ _ => N9); first
  | ((with_reducible show wpAny _ _ (exec (Stmt.For _ (Expr.Name (Str.ofString "late") _) _ _ _) _) _ _ _); refine' for_nil (c := d) PassesOwn.never rfl rfl rfl ?o1 ?o2 ?o3 F9 N9 ?_; (case o1 => decide); (case o2 => first | exact hOl | exact ml); (case o3 => k_mem); clear F9 N9; intro h9 tk9 F9 N9; (try dsimp only); (try k_fold))
  | ((with_reducible show wpAny _ _ (exec (Stmt.For _ (Expr.Name (Str.ofString "needed") _) _ _ _) _) _ _ _); refine' for_one (c := c) (v := .str (Str.ofString "OVERFLOW") tc) (fun m9 => OpN R key (a + 1) m9 ∧ m9 (Str.ofString "late") = some (.ref d) ∧ wordAt (ts.drop p) a (Str.ofString "OVERFLOW") = true) PassesOwn.never rfl rfl rfl ?o1 rfl ?o2 ?o3 F9 N9 ?o4 ?o5; (case o1 => decide); (case o2 => exact mn); (case o3 => k_mem); (case' o4 => (clear F9 N9; intro I9 oI9 h9 tk9 F9 N9; (try dsimp only); (try k_fold))); (case' o5 => (clear F9 N9 mr mk ma mn ml; intro h9 tk9 m9 hJ9 F9 N9; obtain ⟨⟨mr, ⟨tk, mk⟩, ⟨ta, ma⟩⟩, ml, hw9⟩ := hJ9; (try dsimp only); (try k_fold))))
  | fail "own"))
  trivial
theorem open_tail {c d : Addr} {tc : Tok} {b0 : List Stmt} (hb : b0 = opT) (hC : Cx w R vs ts ⟨none, dp, fr, gd, un⟩ L g 7) (X' : (K w.params).In g) (T' : Top pr loose mean mg mb g) (hk : (key == Str.ofString "fault") = false)
    (mr : m (Str.ofString "reader") = some (.ref R.x)) (mk : m (Str.ofString "key") = some (.str key tk)) (ma : m (Str.ofString "ahead") = some (.int a ta)) (mn : m (Str.ofString "needed") = some (.ref c)) (ml : m (Str.ofString "late") = some (.ref d))
    (F9 : Fr g L s.heap m) (N9 : News g L s.heap [(R.x, rdX R.dx), (R.dx, rdD w R p t), (c, tupO [.str (Str.ofString "OVERFLOW") tc]), (d, tupO [])])
    (hQ : ∀ n u h' tk' m' news', ((wordAt (ts.drop p) a (Str.ofString "OVERFLOW") = true ∧ n = (a : Int) + 1) ∨ (wordAt (ts.drop p) a (Str.ofString "OVERFLOW") = false ∧ n = 0)) → Fr g L h' m' → News g L h' news' → (R.x, rdX R.dx) ∈ news' → (R.dx, rdD w R p t) ∈ news' → Q (.ret (.int n u)) { s with heap := h', toks := tk' }) :
    wpAny (model rw.prog w) ⟨none, dp, fr, gd, un⟩ (execs b0 (envOf (Str.ofString "opening_length") (f 39).scope L 258 (Value.ref 257))) Q (fun _ _ => False) s := by
  subst hb
  w_on
  w_top on
  show wpAny _ _ (execs (_ :: _) _) _ _ _
  k_steps
  all_goals (rename Fr _ _ _ _ => F9; rename News _ _ _ _ => N9; first
    | exact OneEnd.next F9 N9 ⟨⟨by walk_at "mlook", ⟨_, by walk_at "mlook"⟩, ⟨_, mset_eq⟩⟩, by walk_at "mlook", by with_reducible assumption⟩
    | exact OneEnd.ret (hQ _ _ _ _ _ _ (.inr ⟨by with_reducible assumption, rfl⟩) F9 N9 (by k_mem) (by k_mem))
    | exact hQ _ _ _ _ _ _ (.inl ⟨hw9, rfl⟩) F9 N9 (by k_mem) (by k_mem))
/-- how the first words moved -/
inductive EarlyJ (R : RD) (key : Str) (ts : List (Str × Str)) (p a : Nat) (c d : Addr) (m : Str → Option Value) : Prop
  | mk (a' : Nat) : ((wordAt (ts.drop p) a (Str.ofString "ON") = true ∧ a' = a + 1) ∨ (wordAt (ts.drop p) a (Str.ofString "ON") = false ∧ a' = a)) → OpN R key a' m → m (Str.ofString "needed") = some (.ref c) → m (Str.ofString "late") = some (.ref d) → EarlyJ R key ts p a c d m
theorem op_at {n : Int} {a' : Nat} (h : (wordAt (ts.drop p) a (Str.ofString "ON") = true ∧ a' = a + 1) ∨ (wordAt (ts.drop p) a (Str.ofString "ON") = false ∧ a' = a)) (h2 : (wordAt (ts.drop p) a' (Str.ofString "OVERFLOW") = true ∧ n = (a' : Int) + 1) ∨ (wordAt (ts.drop p) a' (Str.ofString "OVERFLOW") = false ∧ n = 0)) : OpAt ts p a n := by
  rcases h with ⟨h, rfl⟩ | ⟨h, rfl⟩ <;> rcases h2 with ⟨h2, rfl⟩ | ⟨h2, rfl⟩
  · exact .on h h2
  · exact .ono h h2
  · exact .ov h h2
  · exact .no h h2
theorem news_four {g h : Heap} {L : Addr} {news : List (Addr × Obj)} {a b c d : Addr × Obj} (N : News g L h news) (i1 : a ∈ news) (i2 : b ∈ news) (i3 : c ∈ news) (i4 : d ∈ news) : News g L h [a, b, c, d] := fun q hq => by
  simp only [List.mem_cons, List.not_mem_nil, or_false] at hq
  rcases hq with rfl | rfl | rfl | rfl
  · exact N _ i1
  · exact N _ i2
  · exact N _ i3
  · exact N _ i4
theorem row29 : True := by
  k_with "call ref" => ((fail_if_success k_extra "off19"); k_dflt ((with_reducible show wpAny _ _ (call (Value.ref 251) _) _ _ _); (rename Fr _ _ _ _ => F9); (rename News _ _ _ _ => N9); (refine' RCall.usePhr hC F9 N9 ?m1 ?m2 (phrase_c _ _ _ _ _ _ _) ?hn ?uu ?_; (case m1 => k_mem); (case m2 => k_mem); (case hn => exact Nat.le_of_ble_eq_true rfl); (case uu => intro t9; k_upd); clear F9 N9; intro a9 b9 c9 d9 ta9 tb9 h9 tk9 t9 F9 N9 n1 n2 n3 n4; simp only [List.cons_append, List.nil_append] at N9; (try dsimp only); (try k_fold))))
  k_with "exec For Name Name cons nil" => ((fail_if_success k_extra "off19"); k_dflt ((with_reducible show wpAny _ _ (exec (Stmt.For _ (Expr.Name (Str.ofString "early") _) _ _ _) _) _ _ _); (rename Fr _ _ _ _ => F9); (rename News _ _ _ _ => N9); refine' for_one (c := b9) (v := .str (Str.ofString "ON") ta9) (EarlyJ R key ts p a c9 d9) PassesOwn.never rfl rfl rfl ?o1 rfl ?o2 ?o3 F9 N9 ?o4 ?o5; (case o1 => decide); (case o2 => walk_at "mlook"); (case o3 => k_mem); (case' o4 => (clear F9 N9; intro I9 oI9 h9 tk9 F9 N9; (try dsimp only); (try k_fold))); (case' o5 => (clear F9 N9; intro h9 tk9 m9 hJ9 F9 N9; obtain ⟨e9, hon9, ⟨mr9, ⟨uk9, mk9⟩, ⟨ua9, ma9⟩⟩, mn9, ml9⟩ := hJ9; (try dsimp only); (try k_fold)))))
  k_with "execs cons If cons" => ((fail_if_success k_extra "off19"); k_dflt ((with_reducible show wpAny _ _ (execs (Stmt.If (Expr.BoolOp _ _ _) _ _ _ :: _) _) _ _ _); (rename Fr _ _ _ _ => F9); (rename News _ _ _ _ => N9); refine' open_tail rfl hC X' T' hk mr9 mk9 ma9 mn9 ml9 F9 (news_four N9 ?i1 ?i2 ?i3 ?i4) ?_; (case i1 => k_mem); (case i2 => k_mem); (case i3 => k_mem); (case i4 => k_mem); clear F9 N9; intro n9 u9 h9 tk9 m9 ns9 hov9 F9 N9 i1 i2))
  trivial
theorem open_rest {st : Stmt} {rest : List Stmt} (hst : opB = st :: rest) (hC : Cx w R vs ts ⟨none, dp, fr, gd, un⟩ L g 7) (X' : (K w.params).In g) (T' : Top pr loose mean mg mb g) (hne : R.x ≠ R.dx) (hk : (key == Str.ofString "fault") = false)
    (mr : m (Str.ofString "reader") = some (.ref R.x)) (mk : m (Str.ofString "key") = some (.str key tk)) (ma : m (Str.ofString "ahead") = some (.int a ta)) (mb : m (Str.ofString "bare") = some (.str (Str.ofString "over") tb))
    (F9 : Fr g L s.heap m) (N9 : News g L s.heap [(R.x, rdX R.dx), (R.dx, rdD w R p t)])
    (hQ : ∀ n u h' tk' m' news' t', OpAt ts p a n → Fr g L h' m' → News g L h' news' → (R.x, rdX R.dx) ∈ news' → (R.dx, rdD w R p t') ∈ news' → Q (.ret (.int n u)) { s with heap := h', toks := tk' }) :
    wpAny (model rw.prog w) ⟨none, dp, fr, gd, un⟩ (exec st (envOf (Str.ofString "opening_length") (f 39).scope L 258 (Value.ref 257))) (fun f0 s' => match f0 with | .next => wpAny (model rw.prog w) ⟨none, dp, fr, gd, un⟩ (execs rest (envOf (Str.ofString "opening_length") (f 39).scope L 258 (Value.ref 257))) Q (fun _ _ => False) s' | f0 => Q f0 s') (fun _ _ => False) s := by
  have h0 : opB = _ :: _ := rfl
  rw [h0] at hst
  obtain ⟨rfl, rfl⟩ := List.cons.inj hst
  clear hst h0
  w_on
  w_top on
  k_steps
  all_goals (rename Fr _ _ _ _ => F9; rename News _ _ _ _ => N9; first
    | exact OneEnd.next F9 N9 ⟨_, .inl ⟨by with_reducible assumption, rfl⟩, ⟨by walk_at "mlook", ⟨_, by walk_at "mlook"⟩, ⟨_, mset_eq⟩⟩, by walk_at "mlook", by walk_at "mlook"⟩
    | exact OneEnd.next F9 N9 ⟨_, .inr ⟨by with_reducible assumption, rfl⟩, ⟨by walk_at "mlook", ⟨_, by walk_at "mlook"⟩, ⟨_, by walk_at "mlook"⟩⟩, by walk_at "mlook", by walk_at "mlook"⟩
    | exact hQ _ _ _ _ _ _ _ (op_at hon9 hov9) F9 N9 i1 i2)
end
theorem news_two {g h : Heap} {L : Addr} {news : List (Addr × Obj)} {a b : Addr × Obj} (N : News g L h news) (i1 : a ∈ news) (i2 : b ∈ news) : News g L h [a, b] := fun q hq => by
  rcases List.mem_cons.mp hq with rfl | hq
  · exact N _ i1
  · rcases List.mem_cons.mp hq with rfl | hq
    · exact N _ i2
    · cases hq
theorem op_over {ts : List (Str × Str)} {p : Nat} {n : Int} {u : Tok} (h : OpAt ts p 0 n) (hO : wordAt (ts.drop (p)) 0 (Str.ofString "ON") = true → wordAt (ts.drop (p)) 1 (Str.ofString "OVERFLOW") = true) (hN : wordAt (ts.drop (p)) 0 (Str.ofString "OVERFLOW") = false) :
    ((wordAt (ts.drop (p)) 0 (Str.ofString "ON") = true ∧ ∃ a, Value.int n u = .int 2 a) ∨ (wordAt (ts.drop (p)) 0 (Str.ofString "ON") = false ∧ ∃ a, Value.int n u = .int 0 a)) ∧ p = p := by
  cases h with
  | on a b => exact ⟨.inl ⟨a, _, rfl⟩, rfl⟩
  | ov a b => exact (no_tf hN b).elim
  | ono a b => exact (no_tf b (hO a)).elim
  | no a b => exact ⟨.inr ⟨a, _, rfl⟩, rfl⟩
theorem op_not {ts : List (Str × Str)} {p : Nat} {n : Int} {u : Tok} (h : OpAt ts p 1 n) (h0 : wordAt (ts.drop (p)) 0 (Str.ofString "NOT") = true) (hO : wordAt (ts.drop (p)) 0 (Str.ofString "NOT") = true → wordAt (ts.drop (p)) 1 (Str.ofString "OVERFLOW") = true) (hN : wordAt (ts.drop (p)) 0 (Str.ofString "NOT") = true → wordAt (ts.drop (p)) 1 (Str.ofString "ON") = false) :
    ((wordAt (ts.drop (p)) 0 (Str.ofString "NOT") = true ∧ ∃ a, Value.int n u = .int 2 a) ∨ (wordAt (ts.drop (p)) 0 (Str.ofString "NOT") = false ∧ ∃ a, Value.int n u = .int 0 a)) ∧ p = p := by
  cases h with
  | on a b => exact (no_tf (hN h0) a).elim
  | ov a b => exact ⟨.inl ⟨h0, _, rfl⟩, rfl⟩
  | ono a b => exact (no_tf (hN h0) a).elim
  | no a b => exact (no_tf b (hO h0)).elim
theorem row30 : True := by
  k_with "exec Assign cons Call" => ((fail_if_success k_extra "off19"); k_dflt ((with_reducible show wpAny _ _ (exec (Stmt.Assign [Expr.Tuple _ _ _] (Expr.Call _ _ _ _) _) _) _ _ _); (rename News _ _ _ _ => N9); (rename Fr _ _ _ _ => F9); refine' open_rest (tk := _) rfl hC X' T' hne ?hk ?o1 ?o2 ?o3 ?o4 F9 (news_two N9 ?i1 ?i2) ?_; (case o1 => exact rfl); (case o2 => exact rfl); (case o3 => exact rfl); (case o4 => exact rfl); (case hk => decide); (case i1 => k_mem); (case i2 => k_mem); clear N9 F9; intro n9 u9 h9 tk9 m9 ns9 t9 hop F9 N9 i1 i2))
  trivial
theorem open_over_c (w : World) (R : RD) (vs : List Value) (ts : List (Str × Str)) (p : Nat) (t : Tok) (tk : Tok) (hO : wordAt (ts.drop (p)) 0 (Str.ofString "ON") = true → wordAt (ts.drop (p)) 1 (Str.ofString "OVERFLOW") = true) (hN : wordAt (ts.drop (p)) 0 (Str.ofString "OVERFLOW") = false) :
    RCall w R vs ts p t 258 8 [.ref R.x, .str (Str.ofString "over") tk] fun v l p' => ((wordAt (ts.drop (p)) 0 (Str.ofString "ON") = true ∧ ∃ a, v = .int 2 a) ∨ (wordAt (ts.drop (p)) 0 (Str.ofString "ON") = false ∧ ∃ a, v = .int 0 a)) ∧ p' = p := by
  walk_at "my_open"
  refine' enter [(Str.ofString "reader", .ref R.x), (Str.ofString "key", .str (Str.ofString "over") tk)] ?k1 ?k2 ?k3 ?k4 ?k5 ?kA ?kF ?kK ?k6 ?k7 ?k8 ?k9 ?kB ?_ ?c2 ?c3 ?c4 ?c5
  walk_at "my_enter"
  walk_at "my_in"
  k_steps
  all_goals first
    | exact hR _ [] _ _ _ _ (end_R rfl hx0 hg F9 (News.get N9 i1) (News.get N9 i2)) new_nil (op_over hop hO hN)
theorem open_not_c (w : World) (R : RD) (vs : List Value) (ts : List (Str × Str)) (p : Nat) (t : Tok) (tk : Tok) (hO : wordAt (ts.drop (p)) 0 (Str.ofString "NOT") = true → wordAt (ts.drop (p)) 1 (Str.ofString "OVERFLOW") = true) (hN : wordAt (ts.drop (p)) 0 (Str.ofString "NOT") = true → wordAt (ts.drop (p)) 1 (Str.ofString "ON") = false) :
    RCall w R vs ts p t 258 8 [.ref R.x, .str (Str.ofString "not over") tk] fun v l p' => ((wordAt (ts.drop (p)) 0 (Str.ofString "NOT") = true ∧ ∃ a, v = .int 2 a) ∨ (wordAt (ts.drop (p)) 0 (Str.ofString "NOT") = false ∧ ∃ a, v = .int 0 a)) ∧ p' = p := by
  walk_at "my_open"
  refine' enter [(Str.ofString "reader", .ref R.x), (Str.ofString "key", .str (Str.ofString "not over") tk)] ?k1 ?k2 ?k3 ?k4 ?k5 ?kA ?kF ?kK ?k6 ?k7 ?k8 ?k9 ?kB ?_ ?c2 ?c3 ?c4 ?c5
  walk_at "my_enter"
  walk_at "my_in"
  k_steps
  all_goals first
    | exact hR _ [] _ _ _ _ (end_R rfl hx0 hg F9 (News.get N9 i1) (News.get N9 i2)) new_nil (op_not hop (by with_reducible assumption) hO hN)
    | (walk_at "my_endR"; exact ⟨.inr ⟨(by with_reducible assumption), _, rfl⟩, rfl⟩)

end
theorem off19 : True := by
  k_with "off19" => skip
  trivial
section
theorem noFill_tuple_mul : fillsNumberSlot (.type "tuple") "mul" = pure false :=
  PySem.fillsNumberSlot_seq (id := "tuple.__mul__") (r := some (.builtin "tuple.__rmul__")) F.slot_tuple_mul.lookup (by decide +kernel) F.slot_tuple_rmul.lookup (by decide +kernel)
theorem repeat_tuple : seqRepeat? (.type "tuple") = pure (some (.builtin "tuple.__mul__")) := by
  unfold seqRepeat?
  rw [PySem.seqSlot_of (T := "tuple") (name := "__mul__") (id := "tuple.__mul__") F.slot_tuple_mul.lookup (by decide +kernel), PySem.seqSlot_of (T := "tuple") (name := "__rmul__") (id := "tuple.__rmul__") F.slot_tuple_rmul.lookup (by decide +kernel)]
  rfl
theorem int_rmul_tuple (a : Int) (t : Tok) (l : Addr) (items : Array Value) (n : Nat) :
    PySem.Meets (Builtin.«int.__rmul__» ⟨[.int a t, .ref l], []⟩) (fun _ R s => s.heap.get? l = some { cls := .type "tuple", dict := none, data := .seq items n, slots := #[] } ∧ R (.ok (.ret Value.notImplemented)) s) :=
  .of_wp fun prog w A R s h => by obtain ⟨hp, g, d, tk, os⟩ := s; obtain ⟨hl, h⟩ := h; wp_walk; exact ⟨_, rfl, h⟩
theorem tuple_mul2 (l : Addr) (b : Value) (n : Nat) (u : Tok) :
    PySem.Meets (Builtin.«tuple.__mul__» ⟨[.ref l, .int 2 u], []⟩) (fun _ R s => s.heap.get? l = some { cls := .type "tuple", dict := none, data := .seq #[b] n, slots := #[] } ∧ R (.ok (.ret (Value.ref s.heap.objs.size))) { s with heap := s.heap.push (tupO [b, b]), toks := s.toks }) :=
  .of_wp fun prog w A R s h => by
    obtain ⟨hp, g, d, tk, os⟩ := s; obtain ⟨hl, h⟩ := h
    wp_walk
    exact ⟨_, rfl, h⟩
theorem tuple_mul1 (l : Addr) (b : Value) (n : Nat) (u : Tok) :
    PySem.Meets (Builtin.«tuple.__mul__» ⟨[.ref l, .int 1 u], []⟩) (fun _ R s => s.heap.get? l = some { cls := .type "tuple", dict := none, data := .seq #[b] n, slots := #[] } ∧ R (.ok (.ret (Value.ref l))) s) :=
  .of_wp fun prog w A R s h => by
    obtain ⟨hp, g, d, tk, os⟩ := s; obtain ⟨hl, h⟩ := h
    wp_walk
    exact ⟨_, rfl, h⟩
section
variable {prog : Program} {w : World} {A : Around} {E : Value → Shared → Prop} {s : Shared} {h₀ : Heap} {L : Addr} {m : Str → Option Value} {news : List (Addr × Obj)}
theorem mul_tuple2 {l : Addr} {b : Value} {u : Tok} {Q : Value → Shared → Prop} (FF : Fr h₀ L s.heap m) (N : News h₀ L s.heap news) (hm : (l, tupO [b]) ∈ news)
    (h : ∀ q h', Fr h₀ L h' m → News h₀ L h' ((q, tupO [b, b]) :: news) → (∀ p ∈ news, p.1 < q) → Q (.ref q) { s with heap := h' }) :
    wpAny (model prog w) A (binaryOp .Mult (.ref l) (.int 2 u)) Q E s :=
  have hl := N.get hm
  wpAny_binaryOp_repeat_ref (T := "tuple") (U := "int") (by decide) ⟨_, hl, rfl⟩ (fun s' => typeIs_int s' 2 u) noFill_tuple_mul F.fills_int_mul F.slot_int_rmul repeat_tuple F.slot_int_index.lookup
    (call_meets F.slot_int_rmul (typeIs_int s 2 u) F.entry_int_rmul (F.args_int_rmul_2 _ _) (int_rmul_tuple 2 u l #[b] 0)
      ⟨hl, rfl, ⟨_, hl, rfl⟩, call_meets F.slot_tuple_mul ⟨_, hl, rfl⟩ F.entry_tuple_mul (F.args_tuple_mul_2 _ _) (tuple_mul2 l b 0 u)
        ⟨hl, h _ _ (FF.push _) (News.push FF N _) fun p hp => Heap.lt_size (N p hp).1⟩⟩)
theorem mul_tuple1 {l : Addr} {b : Value} {u : Tok} {Q : Value → Shared → Prop} (N : News h₀ L s.heap news) (hm : (l, tupO [b]) ∈ news) (h : Q (.ref l) s) :
    wpAny (model prog w) A (binaryOp .Mult (.ref l) (.int 1 u)) Q E s :=
  have hl := N.get hm
  wpAny_binaryOp_repeat_ref (T := "tuple") (U := "int") (by decide) ⟨_, hl, rfl⟩ (fun s' => typeIs_int s' 1 u) noFill_tuple_mul F.fills_int_mul F.slot_int_rmul repeat_tuple F.slot_int_index.lookup
    (call_meets F.slot_int_rmul (typeIs_int s 1 u) F.entry_int_rmul (F.args_int_rmul_2 _ _) (int_rmul_tuple 1 u l #[b] 0)
      ⟨hl, rfl, ⟨_, hl, rfl⟩, call_meets F.slot_tuple_mul ⟨_, hl, rfl⟩ F.entry_tuple_mul (F.args_tuple_mul_2 _ _) (tuple_mul1 l b 0 u) ⟨hl, h⟩⟩)
end

end
theorem row31 : True := by
  k_with "binaryOp Mult ref int" => (k_dflt (first | ((show wpAny _ _ (binaryOp _ _ (Value.int 1 _)) _ _ _); refine' mul_tuple1 ?N ?hm ?_; (case N => k_asm); (case hm => k_mem)) | ((show wpAny _ _ (binaryOp _ _ (Value.int 2 _)) _ _ _); refine' mul_tuple2 ?F ?N ?hm ?_; (case F => k_asm); (case N => k_asm); (case hm => k_mem); intro q9 h9 F9 N9 l9; k_lt l9; k_sweep) | fail "mul"))
  trivial
section
noncomputable abbrev bodyL (g : Value → List Value) (a b : Addr) (t : Tok) : List (Addr × Obj) := [(a, tupO (g (.ref b))), (b, tupO [.str (Str.ofString "continue") t])]
noncomputable def BodyPost (g : Value → List Value) (q : Nat) (v : Value) (l : List (Addr × Obj)) (p' : Nat) : Prop := ∃ a b t, v = .ref a ∧ l = bodyL g a b t ∧ p' = q
noncomputable abbrev one1 (b : Value) : List Value := [b]
noncomputable abbrev two2 (b : Value) : List Value := [b, b]
section
variable {w : World} {R : RD} {vs : List Value} {ts : List (Str × Str)} {p q : Nat} {t : Tok} {h₀ : Heap} {L : Addr} {m : Str → Option Value} {news : List (Addr × Obj)} {s : Shared} {f : Addr} {n M : Nat} {args : List Value} {A : Around} {Q E : Value → Shared → Prop} {news' : Tok → List (Addr × Obj)} {g : Value → List Value}
theorem RCall.useB (C : Cx w R vs ts A L h₀ M) (F : Fr h₀ L s.heap m) (N : News h₀ L s.heap news) (m1 : (R.x, rdX R.dx) ∈ news) (m2 : (R.dx, rdD w R p t) ∈ news) (H : RCall w R vs ts p t f n args (BodyPost g q)) (hn : n ≤ M)
    (U : ∀ t', Upd R.dx (rdD w R p t) (rdD w R (q : Nat) t') news (news' t'))
    (h : ∀ a b t1 h' tk' t', Fr h₀ L h' m → News h₀ L h' (bodyL g a b t1 ++ news' t') → AllNe a news → AllNe b news → Q (.ref a) { s with heap := h', toks := tk' }) :
    wpAny (model rw.prog w) A (call (.ref f) args) Q E s := H.use C F N m1 m2 hn fun v l h' tk' p' t' F' N' ne e => by
  obtain ⟨a, b, t1, rfl, rfl, rfl⟩ := e
  exact h a b t1 _ _ t' F' (N' _ (U t')) (allNe_of fun r hr => ne r hr _ (.head _)) (allNe_of fun r hr => ne r hr _ (.tail _ (.head _)))
end
theorem row32 : True := by
  k_with "my_endB" => ((fail_if_success k_extra "off21"); (refine' hR _ (bodyL _ _ _ _) _ _ _ _ ?ee ?nn ⟨_, _, _, rfl, rfl, rfl⟩; (case ee => exact end_R rfl hx0 hg (by assumption) (News.get (by assumption) (by k_mem)) (News.get (by assumption) (by k_mem))); (case nn => walk_at "my_new")))
  trivial
theorem body1_c (w : World) (R : RD) (vs : List Value) (ts : List (Str × Str)) (p : Nat) (t : Tok) (hc0 : wordAt (ts.drop (p)) 0 (Str.ofString "CONTINUE") = true) (hc1 : wordAt (ts.drop (p + 1)) 0 (Str.ofString "CONTINUE") = false) :
    RCall w R vs ts p t 605 10 [.ref R.x] (BodyPost one1 (p + 1)) := by
  walk_at "my_open"
  refine' enter [(Str.ofString "reader", .ref R.x)] ?k1 ?k2 ?k3 ?k4 ?k5 ?kA ?kF ?kK ?k6 ?k7 ?k8 ?k9 ?kB ?_ ?c2 ?c3 ?c4 ?c5
  walk_at "my_enter"
  walk_at "my_in"
  k_steps
  all_goals walk_at "my_endB"
theorem body2_c (w : World) (R : RD) (vs : List Value) (ts : List (Str × Str)) (p : Nat) (t : Tok) (hc0 : wordAt (ts.drop (p)) 0 (Str.ofString "CONTINUE") = true) (hc1 : wordAt (ts.drop (p + 1)) 0 (Str.ofString "CONTINUE") = true) (hc2 : wordAt (ts.drop (p + 1 + 1)) 0 (Str.ofString "CONTINUE") = false) :
    RCall w R vs ts p t 605 10 [.ref R.x] (BodyPost two2 (p + 1 + 1)) := by
  walk_at "my_open"
  refine' enter [(Str.ofString "reader", .ref R.x)] ?k1 ?k2 ?k3 ?k4 ?k5 ?kA ?kF ?kK ?k6 ?k7 ?k8 ?k9 ?kB ?_ ?c2 ?c3 ?c4 ?c5
  walk_at "my_enter"
  walk_at "my_in"
  k_steps
  all_goals walk_at "my_endB"

end
theorem off21 : True := by
  k_with "off21" => skip
  trivial
theorem row33 : True := by
  k_with "cb" => (first | exact body1_c _ _ _ _ _ _ (by with_reducible assumption) (by with_reducible assumption) | exact body2_c _ _ _ _ _ _ (by with_reducible assumption) (by with_reducible assumption) (by with_reducible assumption) | fail "cb")
  k_with "call ref" => (k_dflt ((refine' RCall.useB ?C ?F ?N ?m1 ?m2 ?ct ?hn ?uu ?_; (case C => with_reducible assumption); (case F => k_asm); (case N => k_asm); (case m1 => k_mem); (case m2 => k_mem); (case ct => walk_at "cb"); (case hn => exact Nat.le_of_ble_eq_true rfl); (case uu => intro t9; k_upd); intro a9 b9 ta9 h9 tk9 t9 F9 N9 n1 n2; simp only [List.cons_append, List.nil_append] at N9; k_sweep; (try dsimp only); (try k_fold))))
  trivial
section
theorem row34 : True := by
  k_with "my_endB" => ((fail_if_success k_extra "off22"); (refine' hR _ (bodyL _ _ _ _) _ _ _ _ ?ee ?nn ⟨_, _, _, rfl, rfl, rfl⟩; (case ee => exact end_R rfl hx0 hg (by assumption) (News.get (by assumption) (by k_mem)) (News.get (by assumption) (by k_mem))); (case nn => walk_at "my_new")))
  trivial
theorem bhere1_c (w : World) (R : RD) (vs : List Value) (ts : List (Str × Str)) (p : Nat) (t : Tok) (hc0 : wordAt (ts.drop (p)) 0 (Str.ofString "CONTINUE") = true) (hc1 : wordAt (ts.drop (p + 1)) 0 (Str.ofString "CONTINUE") = false) :
    RCall w R vs ts p t 265 20 [.ref R.x, .ref 605] (BodyPost one1 (p + 1)) := by
  walk_at "my_open"
  refine' enter [(Str.ofString "reader", .ref R.x), (Str.ofString "read_body", .ref 605)] ?k1 ?k2 ?k3 ?k4 ?k5 ?kA ?kF ?kK ?k6 ?k7 ?k8 ?k9 ?kB ?_ ?c2 ?c3 ?c4 ?c5
  walk_at "my_enter"
  walk_at "my_in"
  have hu9 : un + 64 < cLine := by have := hC.u; simp only at this; omega
  k_steps
  all_goals walk_at "my_endB"
theorem bhere2_c (w : World) (R : RD) (vs : List Value) (ts : List (Str × Str)) (p : Nat) (t : Tok) (hc0 : wordAt (ts.drop (p)) 0 (Str.ofString "CONTINUE") = true) (hc1 : wordAt (ts.drop (p + 1)) 0 (Str.ofString "CONTINUE") = true) (hc2 : wordAt (ts.drop (p + 1 + 1)) 0 (Str.ofString "CONTINUE") = false) :
    RCall w R vs ts p t 265 20 [.ref R.x, .ref 605] (BodyPost two2 (p + 1 + 1)) := by
  walk_at "my_open"
  refine' enter [(Str.ofString "reader", .ref R.x), (Str.ofString "read_body", .ref 605)] ?k1 ?k2 ?k3 ?k4 ?k5 ?kA ?kF ?kK ?k6 ?k7 ?k8 ?k9 ?kB ?_ ?c2 ?c3 ?c4 ?c5
  walk_at "my_enter"
  walk_at "my_in"
  have hu9 : un + 64 < cLine := by have := hC.u; simp only at this; omega
  k_steps
  all_goals walk_at "my_endB"

end
theorem off22 : True := by
  k_with "off22" => skip
  trivial
theorem row35 : True := by
  k_with "cb" => (first | exact bhere1_c _ _ _ _ _ _ (by with_reducible assumption) (by with_reducible assumption) | exact bhere2_c _ _ _ _ _ _ (by with_reducible assumption) (by with_reducible assumption) (by with_reducible assumption) | fail "cb")
  trivial
section
theorem word_nx {ts : List (Str × Str)} {p : Nat} {u : Str} (h : wordAt (ts.drop p) 1 u = true) : wordAt (ts.drop (p + 1)) 0 u = true := (word_next ts p 0 u).symm.trans h
theorem kt_in {kt : Addr} {ko : Obj} {g : Heap} (h : g.get? kt = some ko) : Frag.In [(kt, ko)] g := fun a o e => by
  simp only [List.lookup] at e
  split at e
  · rename_i q; cases e; rw [beq_iff_eq.mp q]; exact h
  · cases e
theorem kt_look (kt : Addr) (ko : Obj) : List.lookup kt [(kt, ko)] = some ko := by simp [List.lookup]
noncomputable def ovD : D := .tup [.str (Str.ofString "over"), .tup [.tup [.str (Str.ofString "continue")]]]
noncomputable def notD : D := .tup [.str (Str.ofString "not over"), .tup [.tup [.str (Str.ofString "continue")], .tup [.str (Str.ofString "continue")]]]
/-- which branches stand, and where they end -/
inductive BrAt (ts : List (Str × Str)) (p : Nat) : List D → Nat → Prop
  | nn : wordAt (ts.drop (p)) 0 (Str.ofString "ON") = false → wordAt (ts.drop (p)) 0 (Str.ofString "NOT") = false → BrAt ts p [] p
  | on : wordAt (ts.drop (p)) 0 (Str.ofString "ON") = true → wordAt (ts.drop (p + 1 + 1 + 1)) 0 (Str.ofString "NOT") = false → BrAt ts p [ovD] (p + 1 + 1 + 1)
  | nt : wordAt (ts.drop (p)) 0 (Str.ofString "ON") = false → wordAt (ts.drop (p)) 0 (Str.ofString "NOT") = true → BrAt ts p [notD] (p + 1 + 1 + 1 + 1)
  | ot : wordAt (ts.drop (p)) 0 (Str.ofString "ON") = true → wordAt (ts.drop (p + 1 + 1 + 1)) 0 (Str.ofString "NOT") = true → BrAt ts p [ovD, notD] (p + 1 + 1 + 1 + 1 + 1 + 1 + 1)
theorem ov_use {w : World} {R : RD} {vs : List Value} {ts : List (Str × Str)} {p : Nat} {t : Tok} {h₀ : Heap} {L : Addr} {m : Str → Option Value} {news : List (Addr × Obj)} {s : Shared} {M : Nat} {A : Around} {Q E : Value → Shared → Prop} {args : List Value} {c0 c1 : Prop} {news' : Tok → List (Addr × Obj)}
    (C : Cx w R vs ts A L h₀ M) (F : Fr h₀ L s.heap m) (N : News h₀ L s.heap news) (m1 : (R.x, rdX R.dx) ∈ news) (m2 : (R.dx, rdD w R p t) ∈ news) (H : RCall w R vs ts p t 258 8 args fun v _ p' => ((c1 ∧ ∃ a, v = .int 2 a) ∨ (c0 ∧ ∃ a, v = .int 0 a)) ∧ p' = p) (hn : 8 ≤ M)
    (U : ∀ t', Upd R.dx (rdD w R p t) (rdD w R (p : Nat) t') news (news' t'))
    (h1 : c1 → ∀ a h' tk' t', Fr h₀ L h' m → News h₀ L h' (news' t') → Q (.int 2 a) { s with heap := h', toks := tk' })
    (h0 : c0 → ∀ a h' tk' t', Fr h₀ L h' m → News h₀ L h' (news' t') → Q (.int 0 a) { s with heap := h', toks := tk' }) :
    wpAny (model rw.prog w) A (call (.ref 258) args) Q E s := H.use C F N m1 m2 hn fun v l h' tk' p' t' F' N' _ e => by
  obtain ⟨e, rfl⟩ := e
  rcases e with ⟨e, a, rfl⟩ | ⟨e, a, rfl⟩
  · exact h1 e a _ _ t' F' fun q hq => N' _ (U t') q (List.mem_append_right _ hq)
  · exact h0 e a _ _ t' F' fun q hq => N' _ (U t') q (List.mem_append_right _ hq)
theorem permK {α : Type} {i x y z : α} {l : List α} : ∀ q ∈ x :: y :: i :: z :: l, q ∈ i :: x :: y :: z :: l := fun q hq => by
  rcases List.mem_cons.mp hq with rfl | hq
  · exact .tail _ (.head _)
  · rcases List.mem_cons.mp hq with rfl | hq
    · exact .tail _ (.tail _ (.head _))
    · rcases List.mem_cons.mp hq with rfl | hq
      · exact .head _
      · exact .tail _ (.tail _ (.tail _ hq))
theorem permK' {α : Type} {i x y z : α} {l : List α} : ∀ q ∈ i :: x :: y :: z :: l, q ∈ x :: y :: i :: z :: l := fun q hq => by
  rcases List.mem_cons.mp hq with rfl | hq
  · exact .tail _ (.tail _ (.head _))
  · rcases List.mem_cons.mp hq with rfl | hq
    · exact .head _
    · rcases List.mem_cons.mp hq with rfl | hq
      · exact .tail _ (.head _)
      · exact .tail _ (.tail _ (.tail _ hq))
theorem permL {α : Type} {i x y z : α} {l : List α} : ∀ q ∈ x :: y :: z :: l, q ∈ x :: y :: z :: i :: l := fun q hq => by
  rcases List.mem_cons.mp hq with rfl | hq
  · exact .head _
  · rcases List.mem_cons.mp hq with rfl | hq
    · exact .tail _ (.head _)
    · rcases List.mem_cons.mp hq with rfl | hq
      · exact .tail _ (.tail _ (.head _))
      · exact .tail _ (.tail _ (.tail _ (.tail _ hq)))
theorem perm3r {α : Type} {x y z : α} : ∀ q ∈ [z, y, x], q ∈ [x, y, z] := fun q hq => by
  rcases List.mem_cons.mp hq with rfl | hq
  · exact .tail _ (.tail _ (.head _))
  · rcases List.mem_cons.mp hq with rfl | hq
    · exact .tail _ (.head _)
    · rcases List.mem_cons.mp hq with rfl | hq
      · exact .head _
      · cases hq
noncomputable def brB : List Stmt := forB ((f 41).body[1]?)
noncomputable def takeB : List Stmt := forB ((ifB (brB[1]?))[0]?)
/-- the names that the turn reads -/
structure BrN (R : RD) (pl : Addr) (m : Str → Option Value) : Prop where
  r : m (Str.ofString "reader") = some (.ref R.x)
  b : m (Str.ofString "read_body") = some (.ref 605)
  p : m (Str.ofString "branches") = some (.ref pl)
theorem BrN.set {R : RD} {pl : Addr} {m : Str → Option Value} {x : Str} {v : Option Value} (h : BrN R pl m) (h1 : Str.ofString "reader" ≠ x) (h2 : Str.ofString "read_body" ≠ x) (h3 : Str.ofString "branches" ≠ x) : BrN R pl (fun y => if y = x then v else m y) :=
  ⟨(if_neg h1).trans h.r, (if_neg h2).trans h.b, (if_neg h3).trans h.p⟩
theorem row36 : True := by
  k_with "mlook" => ((fail_if_success k_extra "off23"); first | with_reducible assumption | exact hN.r | exact hN.b | exact hN.p | with_reducible exact mset_eq | (refine mset_ne (by decide) ?_; walk_at "mlook"))
  k_with "lname" => ((fail_if_success k_extra "off23"); (refine' nameX_L (cl := []) F9 ?zl9 ?_ ?za9 ?zb9; (case zb9 => rfl); (case za9 => rfl); (case zl9 => walk_at "mlook"); (try dsimp only)))
  k_with "eval Name" => ((fail_if_success k_extra "off23"); k_dflt ((rename Fr _ _ _ _ => F9); first
  | ((with_reducible show wpAny _ _ (eval (Expr.Name (Str.ofString "reader") _) _) _ _ _); refine' nameX_L (cl := []) F9 ?zl9 ?_ ?za9 ?zb9; (case zb9 => rfl); (case za9 => rfl); (case zl9 => first | exact hN.r | walk_at "mlook"); (try dsimp only))
  | ((with_reducible show wpAny _ _ (eval (Expr.Name (Str.ofString "read_body") _) _) _ _ _); refine' nameX_L (cl := []) F9 ?zl9 ?_ ?za9 ?zb9; (case zb9 => rfl); (case za9 => rfl); (case zl9 => first | exact hN.b | walk_at "mlook"); (try dsimp only))
  | ((with_reducible show wpAny _ _ (eval (Expr.Name (Str.ofString "branches") _) _) _ _ _); refine' nameX_L (cl := []) F9 ?zl9 ?_ ?za9 ?zb9; (case zb9 => rfl); (case za9 => rfl); (case zl9 => first | exact hN.p | walk_at "mlook"); (try dsimp only))
  | ((with_reducible show wpAny _ _ (eval (Expr.Name (Str.ofString "key") _) _) _ _ _); walk_at "lname")
  | ((with_reducible show wpAny _ _ (eval (Expr.Name (Str.ofString "length") _) _) _ _ _); walk_at "lname")
  | fail "own"))
  k_with "call ref" => ((fail_if_success k_extra "off23"); k_dflt ((with_reducible show wpAny _ _ (call (Value.ref 391) _) _ _ _); (rename Fr _ _ _ _ => F9); (rename News _ _ _ _ => N9); refine' take_use hC F9 N9 (List.Mem.tail _ (List.Mem.head _)) (List.Mem.head _) he ?hn ?uu ?_; (case hn => exact Nat.le_of_ble_eq_true rfl); (case uu => (intro t9; exact Upd.head hup)); clear F9 N9; intro x9 hx9 h9 tk9 t9 F9 N9; (try dsimp only); (try k_fold)))
  trivial
section
variable {w : World} {R : RD} {vs : List Value} {ts : List (Str × Str)} {p : Nat} {t tK : Tok} {K0 : Str} {pl r : Addr} {its : Array Value} {k dp un : Nat} {fr : Option (List Env)} {gd : Option (List Code)} {tl : List (Addr × Obj)} {g : Heap} {L : Addr} {m : Str → Option Value} {s : Shared} {Q : Flow → Shared → Prop} {pr : Program} {loose : List Str} {mean : ExcName → Option Value} {mg mb : Str → Option Value}
theorem take_body {k0 u0 : Str} {rs : List (Addr × Obj)} (hC : Cx w R vs ts ⟨none, dp, fr, gd, un⟩ L g 23) (X' : (K w.params).In g) (T' : Top pr loose mean mg mb g) (he : (ts.drop p)[0]? = some (k0, u0)) (hN : BrN R pl m) (hup : ∀ q ∈ (R.x, rdX R.dx) :: rs, q.1 ≠ R.dx)
    (F9 : Fr g L s.heap m) (N9 : News g L s.heap ((R.dx, rdD w R p t) :: (R.x, rdX R.dx) :: rs))
    (hQ : ∀ t' h' tk', Fr g L h' m → News g L h' ((R.dx, rdD w R ((p + 1 : Nat) : Int) t') :: (R.x, rdX R.dx) :: rs) → Q .next { s with heap := h', toks := tk' }) :
    wpAny (model rw.prog w) ⟨none, dp, fr, gd, un⟩ (execs takeB (envOf (Str.ofString "branches_here") (f 41).scope L 272 (Value.ref 271))) Q (fun _ _ => False) s := by
  w_on
  w_top on
  show wpAny _ _ (execs (_ :: _) _) _ _ _
  k_steps
  all_goals exact hQ _ _ _ (by assumption) (by assumption)
/-- what the takes' loop keeps -/
inductive TakeJ (w : World) (R : RD) (p : Nat) (pl : Addr) (K0 : Str) (tK : Tok) (o : Obj) (tl : List (Addr × Obj)) (j : Nat) (m : Str → Option Value) : List (Addr × Obj) → Prop
  | mk {t' : Tok} : BrN R pl m → m (Str.ofString "key") = some (.str K0 tK) → TakeJ w R p pl K0 tK o tl j m ((R.dx, rdD w R ((p + j : Nat) : Int) t') :: (R.x, rdX R.dx) :: (pl, o) :: tl)
theorem take_for {px : Pos} {body : List Stmt} {h1 : Heap} {tk1 : Nat} {u0 u1 u2 : Tok} {o : Obj} {ka ua kb ub : Str} (hbody : body = takeB) (hC : Cx w R vs ts ⟨none, dp, fr, gd, un⟩ L g 23) (X' : (K w.params).In g) (T' : Top pr loose mean mg mb g) (e0 : (ts.drop p)[0]? = some (ka, ua)) (e1 : (ts.drop (p + 1))[0]? = some (kb, ub)) (hN : BrN R pl m) (hk : m (Str.ofString "key") = some (.str K0 tK))
    (hxd : R.x ≠ R.dx) (hpd : pl ≠ R.dx) (hO : Off R pl tl) (hrng : (r, ({ cls := .type "range", data := .fields #[.int 0 u0, .int 2 u1, .int 1 u2] } : Obj)) ∈ tl)
    (F9 : Fr g L h1 m) (N9 : News g L h1 ((R.dx, rdD w R p t) :: (R.x, rdX R.dx) :: (pl, o) :: tl))
    (done : ∀ h' tk' m' t', BrN R pl m' → m' (Str.ofString "key") = some (.str K0 tK) → Fr g L h' m' → News g L h' ((R.dx, rdD w R ((p + 1 + 1 : Nat) : Int) t') :: (R.x, rdX R.dx) :: (pl, o) :: tl) → Q .next { s with heap := h', toks := tk' }) :
    ForAt w ⟨none, dp, fr, gd, un⟩ (fun _ _ => False) Q s (envOf (Str.ofString "branches_here") (f 41).scope L 272 (Value.ref 271)) g L (.Name (Str.ofString "turn") px) body (.ref r) { s with heap := h1, toks := tk1 } := by
  subst hbody
  refine ⟨(2 : Int).toNat, _, m, _, TakeJ w R p pl K0 tK o tl,
    it_rng (t := u0) (u := u1) (v := u2) rfl (by decide) (by decide) (fun j m news h => ?_), ⟨_, _, rfl⟩, F9, N9, TakeJ.mk hN hk, fun i v m₁ news₁ h₁ tk₁ I oI hi9 hP hJ F1 N1 ne => ?_, fun h' tk' m' news' F' N' hJ => ?_⟩
  · cases h
    exact .tail _ (.tail _ (.tail _ hrng))
  · obtain @⟨t', j1, j2⟩ := hJ
    obtain ⟨n', tk', rfl⟩ := hP
    have hi2 : i < 2 := hi9
    have he : ∃ k0 u0, (ts.drop (p + i))[0]? = some (k0, u0) := by
      rcases (show i = 0 ∨ i = 1 by omega) with rfl | rfl
      · exact ⟨_, _, e0⟩
      · exact ⟨_, _, e1⟩
    obtain ⟨k0, v0, he⟩ := he
    refine wpAny_assign_Name (storeX_L (cl := []) F1 N1 (fun h' F2 N2 => ?_) rfl rfl)
    refine take_body (p := p + i) (t := t') (pl := pl) (rs := (I, oI) :: (pl, o) :: tl) hC X' T' he (j1.set (by decide) (by decide) (by decide)) ?_ F2 (news_sub0 N2 permK) fun t2 h3 tk3 F3 N3 => .next h3 tk3 _ ((R.dx, rdD w R ((p + i + 1 : Nat) : Int) t2) :: (R.x, rdX R.dx) :: (pl, o) :: tl) F3 (news_sub0 N3 permK') ne (TakeJ.mk (j1.set (by decide) (by decide) (by decide)) (mset_ne (by decide) j2))
    exact List.forall_mem_cons.mpr ⟨hxd, List.forall_mem_cons.mpr ⟨Ne.symm ne.1, List.forall_mem_cons.mpr ⟨hpd, hO.d⟩⟩⟩
  · obtain @⟨t', j1, j2⟩ := hJ
    exact done _ _ _ t' j1 j2 F' N'
theorem row37 : True := by
  k_with "call ref" => ((fail_if_success k_extra "off23"); k_dflt ((with_reducible show wpAny _ _ (call (Value.ref 258) _) _ _ _); (rename Fr _ _ _ _ => F9); (rename News _ _ _ _ => N9); refine' ov_use hC F9 N9 (List.Mem.tail _ (List.Mem.head _)) (List.Mem.head _) (H t) ?hn ?uu ?_ ?_; (case hn => exact Nat.le_of_ble_eq_true rfl); (case uu => (intro t9; exact Upd.head hup)); all_goals (clear F9 N9; intro ew a9 h9 tk9 t9 F9 N9; (try dsimp only); (try k_fold))))
  k_with "call ref" => ((fail_if_success k_extra "off23"); k_dflt ((with_reducible show wpAny _ _ (call (Value.ref 265) _) _ _ _); (rename Fr _ _ _ _ => F9); (rename News _ _ _ _ => N9); refine' RCall.use hC F9 N9 (List.Mem.tail _ (List.Mem.head _)) (List.Mem.head _) (HB (by with_reducible assumption) _) ?hn ?_; (case hn => exact Nat.le_of_ble_eq_true rfl); intro v9 l9 h9 tk9 p9 t9 F9 N8 off9 hp9; obtain ⟨hq9, hr9⟩ := hp9; subst hq9; have N9 := news_sub0 (N8 _ (Upd.head hup)) perm3l; clear N8; (try dsimp only); (try k_fold)))
  k_with "storeName" => ((fail_if_success k_extra "off23"); k_dflt ((rename Fr _ _ _ _ => F9); (rename News _ _ _ _ => N9); refine' storeX_L (cl := []) F9 N9 ?_ ?za9 ?zb9; (case zb9 => rfl); (case za9 => rfl); k_whole; clear F9 N9; intro h9 F9 N9; (try dsimp only); (try k_fold)))
  k_with "exec For Name Call cons nil" => ((fail_if_success k_extra "off23"); k_dflt (refine' For_go (h₀ := g) (L := L) ?_ ?zs9 ?ze9; (case zs9 => intro _; rfl); (case ze9 => exact PassesOwn.never)))
  k_with "ForAt" => ((fail_if_success k_extra "off23"); k_dflt ((rename IsRange _ _ _ _ _ _ _ _ => hr8); (rename News _ _ _ _ => N8); (rename Fr _ _ _ _ => F8); (rename News _ _ h9 _ => N7); (rename Fr _ _ h9 _ => F7); have hlt := fun q hq => Heap.lt_size (N7 q hq).1; have N9 := news_range F7 N8 hr8; obtain ⟨ka, ua, ea⟩ := e0 ew; obtain ⟨kb, ub, eb⟩ := e1 ew; (refine' take_for (p := p) ?yb hC X' T' ea eb (hN.set (by decide) (by decide) (by decide)) (mset_ne (by decide) hk) hxd hpd ⟨List.forall_mem_cons.mpr ⟨Nat.ne_of_gt (hlt _ (List.Mem.head _)), hO.d⟩, List.forall_mem_cons.mpr ⟨Nat.ne_of_gt (hlt _ (List.Mem.tail _ (List.Mem.head _))), hO.x⟩, List.forall_mem_cons.mpr ⟨Nat.ne_of_gt (hlt _ (List.Mem.tail _ (List.Mem.tail _ (List.Mem.head _)))), hO.p⟩⟩ (List.Mem.head _) F8 (news_sub0 N9 permI) ?yd); (case yb => rfl); clear hlt N9 N8 F8 N7 F7 ea eb hN hk; intro h9 tk9 m9 t9 hN hk F9 N8; have N9 := news_sub0 N8 permL; clear N8; (try dsimp only); (try k_fold)))
  k_with "newTuple" => ((fail_if_success k_extra "off23"); k_dflt ((rename Fr _ _ _ _ => F9); (rename News _ _ _ _ => N9); refine' kup_newTuple F9 N9 ?_ ?wz; (case wz => exact Nat.le_of_ble_eq_true rfl); clear F9 N9; intro D9 h9 F9 N9 l1; (try dsimp only); (try k_fold)))
  k_with "call builtin:list.append" => ((fail_if_success k_extra "off23"); k_dflt ((show wpAny _ _ (call (Value.builtin _) [Value.ref _, _]) _ _ _); (rename Fr _ _ _ _ => F9); (rename News _ _ _ _ => N9); have hOl := Off.new (R := R) (pl := pl) (fun q hq z hz => off9 z hz q hq); have hOD : Off R pl ((D9, tupO [.str K0 tK, v9]) :: l9) := ⟨List.forall_mem_cons.mpr ⟨Nat.ne_of_gt (l1 _ (List.Mem.head _)), hOl.d⟩, List.forall_mem_cons.mpr ⟨Nat.ne_of_gt (l1 _ (List.Mem.tail _ (List.Mem.head _))), hOl.x⟩, List.forall_mem_cons.mpr ⟨Nat.ne_of_gt (l1 _ (List.Mem.tail _ (List.Mem.tail _ (List.Mem.head _)))), hOl.p⟩⟩; (refine' append_K F9 (news_sub0 (a := (R.dx, _) :: (R.x, _) :: (pl, _) :: (((D9, tupO [.str K0 tK, v9]) :: l9) ++ tl)) N9 permI) (Upd.tail (Ne.symm hpd) (Upd.tail (Ne.symm hpx) (Upd.head (hOD.app hO).p))) ?_ hits); clear F9 N9; intro h9 F9 N9))
  trivial
theorem br_turn {c1 c0 : Prop} {bd : D} {q : Nat} (hC : Cx w R vs ts ⟨none, dp, fr, gd, un⟩ L g 23) (X' : (K w.params).In g) (T' : Top pr loose mean mg mb g)
    (H : ∀ t, RCall w R vs ts p t 258 8 [.ref R.x, .str K0 tK] fun v _ p' => ((c1 ∧ ∃ a, v = .int 2 a) ∨ (c0 ∧ ∃ a, v = .int 0 a)) ∧ p' = p) (e0 : c1 → ∃ k u, (ts.drop p)[0]? = some (k, u)) (e1 : c1 → ∃ k u, (ts.drop (p + 1))[0]? = some (k, u))
    (HB : c1 → ∀ t, RCall w R vs ts ((p + 1 + 1 : Nat) : Int) t 265 20 [.ref R.x, .ref 605] fun v l p' => p' = q ∧ RepN (fun a o => (a, o) ∈ l) v bd) (hN : BrN R pl m) (hk : m (Str.ofString "key") = some (.str K0 tK))
    (hxd : R.x ≠ R.dx) (hpd : pl ≠ R.dx) (hpx : pl ≠ R.x) (hO : Off R pl tl) (hits : its.size ≤ sizeLine)
    (F9 : Fr g L s.heap m) (N9 : News g L s.heap ((R.dx, rdD w R p t) :: (R.x, rdX R.dx) :: (pl, listOf its k) :: tl))
    (hQ0 : c0 → ∀ t' h' tk' m', BrN R pl m' → Fr g L h' m' → News g L h' ((R.dx, rdD w R p t') :: (R.x, rdX R.dx) :: (pl, listOf its k) :: tl) → Q .next { s with heap := h', toks := tk' })
    (hQ1 : c1 → ∀ v l t' h' tk' m', (∀ q ∈ l, ∀ z ∈ tl, z.1 ≠ q.1) → Off R pl l → RepN (fun a o => (a, o) ∈ l) v (.tup [.str K0, bd]) → BrN R pl m' → Fr g L h' m' → News g L h' ((R.dx, rdD w R q t') :: (R.x, rdX R.dx) :: (pl, listOf (its.push v) (k + 1)) :: (l ++ tl)) → Q .next { s with heap := h', toks := tk' }) :
    wpAny (model rw.prog w) ⟨none, dp, fr, gd, un⟩ (execs brB (envOf (Str.ofString "branches_here") (f 41).scope L 272 (Value.ref 271))) Q (fun _ _ => False) s := by
  have hup : ∀ q ∈ ((R.x, rdX R.dx) :: (pl, listOf its k) :: tl), q.1 ≠ R.dx := List.forall_mem_cons.mpr ⟨hxd, List.forall_mem_cons.mpr ⟨hpd, hO.d⟩⟩
  w_on
  w_top on
  show wpAny _ _ (execs (_ :: _) _) _ _ _
  k_steps
  all_goals (rename Fr _ _ _ _ => F9; rename News _ _ _ _ => N9; first
    | exact hQ0 ew _ _ _ _ (hN.set (by decide) (by decide) (by decide)) F9 N9
    | exact hQ1 ew (.ref D9) ((D9, tupO [.str K0 tK, v9]) :: l9) _ _ _ _ (List.forall_mem_cons.mpr ⟨fun z hz => Nat.ne_of_lt (l1 z (.tail _ (.tail _ (.tail _ (List.mem_append_right _ hz))))), fun q hq z hz => off9 z (.tail _ (.tail _ (.tail _ hz))) q hq⟩) hOD (.tup (.head _) (.cons (.str _ _) (.cons (hr9.mono fun _ _ z => .tail _ z) .nil))) hN F9 N9)
/-- the branches in the making -/
inductive BrMid (ts : List (Str × Str)) (p : Nat) (l : List (Addr × Obj)) : Nat → List Value → Nat → Prop
  | zero : BrMid ts p l 0 [] p
  | no : wordAt (ts.drop p) 0 (Str.ofString "ON") = false → BrMid ts p l 1 [] p
  | on {v : Value} : wordAt (ts.drop p) 0 (Str.ofString "ON") = true → RepN (fun a o => (a, o) ∈ l) v ovD → BrMid ts p l 1 [v] (p + 1 + 1 + 1)
  | two {vs : List Value} {ds : List D} {p' : Nat} : BrAt ts p ds p' → RepA (fun a o => (a, o) ∈ l) vs ds → vs.length ≤ 2 → BrMid ts p l 2 vs p'
inductive BrJ (w : World) (R : RD) (ts : List (Str × Str)) (p : Nat) (pl : Addr) (j : Nat) (m : Str → Option Value) : List (Addr × Obj) → Prop
  | mk {l : List (Addr × Obj)} {its : List Value} {k' p' : Nat} {t' : Tok} : BrN R pl m → Off R pl l → BrMid ts p l j its p' → BrJ w R ts p pl j m ((R.dx, rdD w R (p' : Nat) t') :: (R.x, rdX R.dx) :: (pl, listOf (List.toArray its) k') :: (l ++ []))
theorem bh1 {l : List (Addr × Obj)} {v : Value} {q p' : Nat} (h : BodyPost one1 q v l p') : p' = q ∧ RepN (fun a o => (a, o) ∈ l) v (.tup [.tup [.str (Str.ofString "continue")]]) := by
  obtain ⟨a, b, t, rfl, rfl, rfl⟩ := h
  exact ⟨rfl, .tup (.head _) (.cons (.tup (.tail _ (.head _)) (.cons (.str _ _) .nil)) .nil)⟩
theorem bh2 {l : List (Addr × Obj)} {v : Value} {q p' : Nat} (h : BodyPost two2 q v l p') : p' = q ∧ RepN (fun a o => (a, o) ∈ l) v (.tup [.tup [.str (Str.ofString "continue")], .tup [.str (Str.ofString "continue")]]) := by
  obtain ⟨a, b, t, rfl, rfl, rfl⟩ := h
  exact ⟨rfl, .tup (.head _) (.cons (.tup (.tail _ (.head _)) (.cons (.str _ _) .nil)) (.cons (.tup (.tail _ (.head _)) (.cons (.str _ _) .nil)) .nil))⟩
theorem wg {p : Nat} {u : Str} (h : wordAt (ts.drop p) 0 u = true) : ∃ k u, (ts.drop p)[0]? = some (k, u) := ⟨_, _, word_get h⟩
theorem brs_for {kt : Addr} {k1 k2 : Tok} {ko : Nat} {h1 : Heap} {tk1 : Nat} {px : Pos} {body : List Stmt} (hbody : body = brB) (hN1 : wordAt (ts.drop (p)) 0 (Str.ofString "OVERFLOW") = false) (hO1 : wordAt (ts.drop (p)) 0 (Str.ofString "ON") = true → wordAt (ts.drop (p)) 1 (Str.ofString "OVERFLOW") = true) (hB1 : wordAt (ts.drop (p)) 0 (Str.ofString "ON") = true → wordAt (ts.drop (p + 1 + 1)) 0 (Str.ofString "CONTINUE") = true) (hB2 : wordAt (ts.drop (p)) 0 (Str.ofString "ON") = true → wordAt (ts.drop (p + 1 + 1 + 1)) 0 (Str.ofString "CONTINUE") = false) (ha1 : wordAt (ts.drop (p)) 0 (Str.ofString "ON") = false → wordAt (ts.drop (p)) 0 (Str.ofString "NOT") = true → wordAt (ts.drop (p)) 1 (Str.ofString "OVERFLOW") = true) (ha2 : wordAt (ts.drop (p)) 0 (Str.ofString "ON") = false → wordAt (ts.drop (p)) 0 (Str.ofString "NOT") = true → wordAt (ts.drop (p)) 1 (Str.ofString "ON") = false) (ha3 : wordAt (ts.drop (p)) 0 (Str.ofString "ON") = false → wordAt (ts.drop (p)) 0 (Str.ofString "NOT") = true → wordAt (ts.drop (p + 1 + 1)) 0 (Str.ofString "CONTINUE") = true) (ha4 : wordAt (ts.drop (p)) 0 (Str.ofString "ON") = false → wordAt (ts.drop (p)) 0 (Str.ofString "NOT") = true → wordAt (ts.drop (p + 1 + 1 + 1)) 0 (Str.ofString "CONTINUE") = true) (ha5 : wordAt (ts.drop (p)) 0 (Str.ofString "ON") = false → wordAt (ts.drop (p)) 0 (Str.ofString "NOT") = true → wordAt (ts.drop (p + 1 + 1 + 1 + 1)) 0 (Str.ofString "CONTINUE") = false) (hb1 : wordAt (ts.drop (p)) 0 (Str.ofString "ON") = true → wordAt (ts.drop (p + 1 + 1 + 1)) 0 (Str.ofString "NOT") = true → wordAt (ts.drop (p + 1 + 1 + 1)) 1 (Str.ofString "OVERFLOW") = true) (hb2 : wordAt (ts.drop (p)) 0 (Str.ofString "ON") = true → wordAt (ts.drop (p + 1 + 1 + 1)) 0 (Str.ofString "NOT") = true → wordAt (ts.drop (p + 1 + 1 + 1)) 1 (Str.ofString "ON") = false) (hb3 : wordAt (ts.drop (p)) 0 (Str.ofString "ON") = true → wordAt (ts.drop (p + 1 + 1 + 1)) 0 (Str.ofString "NOT") = true → wordAt (ts.drop (p + 1 + 1 + 1 + 1 + 1)) 0 (Str.ofString "CONTINUE") = true) (hb4 : wordAt (ts.drop (p)) 0 (Str.ofString "ON") = true → wordAt (ts.drop (p + 1 + 1 + 1)) 0 (Str.ofString "NOT") = true → wordAt (ts.drop (p + 1 + 1 + 1 + 1 + 1 + 1)) 0 (Str.ofString "CONTINUE") = true) (hb5 : wordAt (ts.drop (p)) 0 (Str.ofString "ON") = true → wordAt (ts.drop (p + 1 + 1 + 1)) 0 (Str.ofString "NOT") = true → wordAt (ts.drop (p + 1 + 1 + 1 + 1 + 1 + 1 + 1)) 0 (Str.ofString "CONTINUE") = false) (hC : Cx w R vs ts ⟨none, dp, fr, gd, un⟩ L g 23) (X' : (K w.params).In g) (T' : Top pr loose mean mg mb g)
    (hkg : g.get? kt = some (tupO [.str (Str.ofString "over") k1, .str (Str.ofString "not over") k2])) (hN : BrN R pl m)
    (hxd : R.x ≠ R.dx) (hpd : pl ≠ R.dx) (hpx : pl ≠ R.x)
    (F9 : Fr g L h1 m) (N9 : News g L h1 ((R.dx, rdD w R p t) :: (R.x, rdX R.dx) :: (pl, listOf (List.toArray []) ko) :: []))
    (done : ∀ h' tk' m' us ds l (p' : Nat) t' k', BrAt ts p ds p' → RepA (fun a o => (a, o) ∈ l) us ds → us.length ≤ 2 → Off R pl l → BrN R pl m' → Fr g L h' m' → News g L h' ((R.dx, rdD w R p' t') :: (R.x, rdX R.dx) :: (pl, listOf (List.toArray us) k') :: l) → Q .next { s with heap := h', toks := tk' }) :
    ForAt w ⟨none, dp, fr, gd, un⟩ (fun _ _ => False) Q s (envOf (Str.ofString "branches_here") (f 41).scope L 272 (Value.ref 271)) g L (.Name (Str.ofString "key") px) body (.ref kt) { s with heap := h1, toks := tk1 } := by
  subst hbody
  refine ⟨_, _, m, _, BrJ w R ts p pl, it_btup (items := [.str (Str.ofString "over") k1, .str (Str.ofString "not over") k2]) rfl hkg, ⟨_, _, rfl⟩, F9, N9, BrJ.mk (l := []) (its := []) hN Off.nil .zero, fun i v m₁ news₁ h₁ tk₁ I oI hi9 hP hJ F1 N1 ne => ?_, fun h' tk' m' news' F' N' hJ => ?_⟩
  · obtain @⟨l, its, k', p', t', j1, j5, j6⟩ := hJ
    have hOI : Off R pl ((I, oI) :: (l ++ [])) := by
      have := j5.app (Off.nil (R := R) (pl := pl))
      exact ⟨List.forall_mem_cons.mpr ⟨Ne.symm ne.1, this.d⟩, List.forall_mem_cons.mpr ⟨Ne.symm ne.2.1, this.x⟩, List.forall_mem_cons.mpr ⟨Ne.symm ne.2.2.1, this.p⟩⟩
    have hset : ∀ v, BrN R pl (fun y => if y = Str.ofString "key" then v else m₁ y) := fun v => j1.set (by decide) (by decide) (by decide)
    have lift : ∀ {l' : List (Addr × Obj)} {v : Value} {d : D}, RepN (fun a o => (a, o) ∈ l) v d → RepN (fun a o => (a, o) ∈ l' ++ l) v d := fun h => h.mono fun _ _ z => List.mem_append_right _ z
    have up : ∀ {l' : List (Addr × Obj)} {v : Value} {d : D}, RepN (fun a o => (a, o) ∈ l') v d → RepN (fun a o => (a, o) ∈ l' ++ l) v d := fun h => h.mono fun _ _ z => List.mem_append_left _ z
    cases j6 with
    | zero =>
      have hv := Option.some.inj hP
      subst hv
      refine wpAny_assign_Name (storeX_L (cl := []) F1 N1 (fun h' F2 N2 => ?_) rfl rfl)
      refine br_turn (tl := (I, oI) :: (l ++ [])) (its := List.toArray []) (K0 := Str.ofString "over") (q := p + 1 + 1 + 1) (k := k') (pl := pl) (p := p) (t := t') hC X' T' (fun t => open_over_c w R vs ts p t _ hO1 hN1) wg (fun e => wg (word_nx (hO1 e))) (fun e t => (bhere1_c w R vs ts (p + 1 + 1) t (hB1 e) (hB2 e)).mono fun _ _ _ => bh1) (hset _) mset_eq hxd hpd hpx hOI (Nat.le_of_ble_eq_true rfl) F2 (news_sub0 N2 permI)
        (fun e t2 h3 tk3 m3 hN3 F3 N3 => .next h3 tk3 _ ((R.dx, rdD w R (p : Nat) t2) :: (R.x, rdX R.dx) :: (pl, listOf (List.toArray []) k') :: (l ++ [])) F3 (news_sub0 N3 permI') ne (BrJ.mk (its := []) hN3 j5 (.no e)))
        (fun e v' l' t2 h3 tk3 m3 off hol rep hN3 F3 N3 => .next h3 tk3 _ ((R.dx, rdD w R ((p + 1 + 1 + 1 : Nat) : Int) t2) :: (R.x, rdX R.dx) :: (pl, listOf (List.toArray [v']) (k' + 1)) :: (l' ++ l ++ [])) F3 (news_sub0 N3 permJ) (ne_turn ne off) (BrJ.mk (its := [v']) hN3 (hol.app j5) (.on e (up rep))))
    | no hno =>
      have hv := Option.some.inj hP
      subst hv
      refine wpAny_assign_Name (storeX_L (cl := []) F1 N1 (fun h' F2 N2 => ?_) rfl rfl)
      refine br_turn (tl := (I, oI) :: (l ++ [])) (its := List.toArray []) (K0 := Str.ofString "not over") (q := p + 1 + 1 + 1 + 1) (k := k') (pl := pl) (p := p) (t := t') hC X' T' (fun t => open_not_c w R vs ts p t _ (ha1 hno) (ha2 hno)) wg (fun e => wg (word_nx (ha1 hno e))) (fun e t => (bhere2_c w R vs ts (p + 1 + 1) t (ha3 hno e) (ha4 hno e) (ha5 hno e)).mono fun _ _ _ => bh2) (hset _) mset_eq hxd hpd hpx hOI (Nat.le_of_ble_eq_true rfl) F2 (news_sub0 N2 permI)
        (fun e t2 h3 tk3 m3 hN3 F3 N3 => .next h3 tk3 _ ((R.dx, rdD w R (p : Nat) t2) :: (R.x, rdX R.dx) :: (pl, listOf (List.toArray []) k') :: (l ++ [])) F3 (news_sub0 N3 permI') ne (BrJ.mk (its := []) hN3 j5 (.two (.nn hno e) .nil (Nat.zero_le _))))
        (fun e v' l' t2 h3 tk3 m3 off hol rep hN3 F3 N3 => .next h3 tk3 _ ((R.dx, rdD w R ((p + 1 + 1 + 1 + 1 : Nat) : Int) t2) :: (R.x, rdX R.dx) :: (pl, listOf (List.toArray [v']) (k' + 1)) :: (l' ++ l ++ [])) F3 (news_sub0 N3 permJ) (ne_turn ne off) (BrJ.mk (its := [v']) hN3 (hol.app j5) (.two (.nt hno e) (.cons (up rep) .nil) (Nat.le_of_ble_eq_true rfl))))
    | @on v0 hon rep0 =>
      have hv := Option.some.inj hP
      subst hv
      refine wpAny_assign_Name (storeX_L (cl := []) F1 N1 (fun h' F2 N2 => ?_) rfl rfl)
      refine br_turn (tl := (I, oI) :: (l ++ [])) (its := List.toArray [v0]) (K0 := Str.ofString "not over") (q := p + 1 + 1 + 1 + 1 + 1 + 1 + 1) (k := k') (pl := pl) (p := p + 1 + 1 + 1) (t := t') hC X' T' (fun t => open_not_c w R vs ts (p + 1 + 1 + 1) t _ (hb1 hon) (hb2 hon)) wg (fun e => wg (word_nx (hb1 hon e))) (fun e t => (bhere2_c w R vs ts (p + 1 + 1 + 1 + 1 + 1) t (hb3 hon e) (hb4 hon e) (hb5 hon e)).mono fun _ _ _ => bh2) (hset _) mset_eq hxd hpd hpx hOI (Nat.le_of_ble_eq_true rfl) F2 (news_sub0 N2 permI)
        (fun e t2 h3 tk3 m3 hN3 F3 N3 => .next h3 tk3 _ ((R.dx, rdD w R ((p + 1 + 1 + 1 : Nat) : Int) t2) :: (R.x, rdX R.dx) :: (pl, listOf (List.toArray [v0]) k') :: (l ++ [])) F3 (news_sub0 N3 permI') ne (BrJ.mk (its := [v0]) hN3 j5 (.two (.on hon e) (.cons rep0 .nil) (Nat.le_of_ble_eq_true rfl))))
        (fun e v' l' t2 h3 tk3 m3 off hol rep hN3 F3 N3 => .next h3 tk3 _ ((R.dx, rdD w R ((p + 1 + 1 + 1 + 1 + 1 + 1 + 1 : Nat) : Int) t2) :: (R.x, rdX R.dx) :: (pl, listOf (List.toArray [v0, v']) (k' + 1)) :: (l' ++ l ++ [])) F3 (news_sub0 N3 permJ) (ne_turn ne off) (BrJ.mk (its := [v0, v']) hN3 (hol.app j5) (.two (.ot hon e) (.cons (lift rep0) (.cons (up rep) .nil)) (Nat.le_of_ble_eq_true rfl))))
    | two _ _ _ => exact absurd hi9 (Nat.lt_irrefl 2)
  · obtain @⟨l, its, k', p', t', j1, j5, j6⟩ := hJ
    rw [List.append_nil] at N'
    have e : (List.toArray [Value.str (Str.ofString "over") k1, .str (Str.ofString "not over") k2]).size = 2 := rfl
    rw [e] at j6
    cases j6 with
    | two a b c => exact done _ _ _ _ _ l _ _ _ a b c j5 j1 F' N'
end
theorem row38 : True := by
  k_with "exec For Name Name cons nil" => ((fail_if_success k_extra "off23"); k_dflt (refine' For_go (h₀ := g) (L := L') ?_ ?zs9 ?ze9; (case zs9 => intro _; rfl); (case ze9 => exact PassesOwn.never)))
  k_with "ForAt" => ((fail_if_success k_extra "off23"); k_dflt ((rename News _ _ _ _ => N9); (rename Fr _ _ _ _ => F9); have N8 := news_sub0 N9 perm3r; (refine' brs_for ?yb hN1 hO1 hB1 hB2 ha1 ha2 ha3 ha4 ha5 hb1 hb2 hb3 hb4 hb5 hC X' T' hkg ⟨rfl, rfl, rfl⟩ hne ?pd ?px F9 N8 ?yd); (case yb => rfl); (case pd => exact Nat.ne_of_gt (by omega)); (case px => exact Nat.ne_of_gt (by omega)); clear N8 N9 F9; intro h9 tk9 m9 us9 ds9 l9 p9 t9 kk9 hra hrp hus hol hN F9 N9; (try dsimp only); (try k_fold)))
  k_with "call type:tuple" => ((fail_if_success k_extra "off23"); k_dflt ((rename News _ _ _ _ => N9); (rename Fr _ _ _ _ => F9); refine' kde_tupleOf (zs := us9) F9 N9 (News.isList N9 (List.Mem.tail _ (List.Mem.tail _ (List.Mem.head _)))) ?k4 ?k5 ?_; (case k4 => exact Nat.le_trans hus (Nat.le_of_ble_eq_true rfl)); (case k5 => exact rfl); clear F9 N9; intro D9 h9 F9 N9 l1; (try dsimp only); (try k_fold)))
  trivial
theorem branches_c (w : World) (R : RD) (vs : List Value) (ts : List (Str × Str)) (p : Nat) (t : Tok) (kt : Addr) (k1 k2 : Tok) (hN1 : wordAt (ts.drop (p)) 0 (Str.ofString "OVERFLOW") = false) (hO1 : wordAt (ts.drop (p)) 0 (Str.ofString "ON") = true → wordAt (ts.drop (p)) 1 (Str.ofString "OVERFLOW") = true) (hB1 : wordAt (ts.drop (p)) 0 (Str.ofString "ON") = true → wordAt (ts.drop (p + 1 + 1)) 0 (Str.ofString "CONTINUE") = true) (hB2 : wordAt (ts.drop (p)) 0 (Str.ofString "ON") = true → wordAt (ts.drop (p + 1 + 1 + 1)) 0 (Str.ofString "CONTINUE") = false) (ha1 : wordAt (ts.drop (p)) 0 (Str.ofString "ON") = false → wordAt (ts.drop (p)) 0 (Str.ofString "NOT") = true → wordAt (ts.drop (p)) 1 (Str.ofString "OVERFLOW") = true) (ha2 : wordAt (ts.drop (p)) 0 (Str.ofString "ON") = false → wordAt (ts.drop (p)) 0 (Str.ofString "NOT") = true → wordAt (ts.drop (p)) 1 (Str.ofString "ON") = false) (ha3 : wordAt (ts.drop (p)) 0 (Str.ofString "ON") = false → wordAt (ts.drop (p)) 0 (Str.ofString "NOT") = true → wordAt (ts.drop (p + 1 + 1)) 0 (Str.ofString "CONTINUE") = true) (ha4 : wordAt (ts.drop (p)) 0 (Str.ofString "ON") = false → wordAt (ts.drop (p)) 0 (Str.ofString "NOT") = true → wordAt (ts.drop (p + 1 + 1 + 1)) 0 (Str.ofString "CONTINUE") = true) (ha5 : wordAt (ts.drop (p)) 0 (Str.ofString "ON") = false → wordAt (ts.drop (p)) 0 (Str.ofString "NOT") = true → wordAt (ts.drop (p + 1 + 1 + 1 + 1)) 0 (Str.ofString "CONTINUE") = false) (hb1 : wordAt (ts.drop (p)) 0 (Str.ofString "ON") = true → wordAt (ts.drop (p + 1 + 1 + 1)) 0 (Str.ofString "NOT") = true → wordAt (ts.drop (p + 1 + 1 + 1)) 1 (Str.ofString "OVERFLOW") = true) (hb2 : wordAt (ts.drop (p)) 0 (Str.ofString "ON") = true → wordAt (ts.drop (p + 1 + 1 + 1)) 0 (Str.ofString "NOT") = true → wordAt (ts.drop (p + 1 + 1 + 1)) 1 (Str.ofString "ON") = false) (hb3 : wordAt (ts.drop (p)) 0 (Str.ofString "ON") = true → wordAt (ts.drop (p + 1 + 1 + 1)) 0 (Str.ofString "NOT") = true → wordAt (ts.drop (p + 1 + 1 + 1 + 1 + 1)) 0 (Str.ofString "CONTINUE") = true) (hb4 : wordAt (ts.drop (p)) 0 (Str.ofString "ON") = true → wordAt (ts.drop (p + 1 + 1 + 1)) 0 (Str.ofString "NOT") = true → wordAt (ts.drop (p + 1 + 1 + 1 + 1 + 1 + 1)) 0 (Str.ofString "CONTINUE") = true) (hb5 : wordAt (ts.drop (p)) 0 (Str.ofString "ON") = true → wordAt (ts.drop (p + 1 + 1 + 1)) 0 (Str.ofString "NOT") = true → wordAt (ts.drop (p + 1 + 1 + 1 + 1 + 1 + 1 + 1)) 0 (Str.ofString "CONTINUE") = false)  :
    RCallK w R vs ts p t 272 24 [.ref R.x, .ref 605, .ref kt] kt (tupO [.str (Str.ofString "over") k1, .str (Str.ofString "not over") k2]) fun v l p' => ∃ ds, RepL l v (.tup ds) ∧ BrAt ts p ds p' := by
  intro s hT hkt A A₀ env outer base h₀ L m pr loose mean mg mb Q E hH hA hf hk B F X N T hd hu hR
  w_on
  w_top on
  have hx0 := (N _ (.head _)).1
  have hd0 := (N _ (.tail _ (.head _))).1
  refine' enter [(Str.ofString "reader", .ref R.x), (Str.ofString "read_body", .ref 605), (Str.ofString "keys", .ref kt)] ?k1 ?k2 ?k3 ?k4 ?k5 ?kA ?kF ?kK ?k6 ?k7 ?k8 ?k9 ?kB ?_ ?c2 ?c3 ?c4 ?c5
  walk_at "my_enter"
  walk_at "my_in"
  have hkg : g.get? kt = some (tupO [.str (Str.ofString "over") k1, .str (Str.ofString "not over") k2]) := hg kt _ hkt (by
    intro hm
    simp only [rdL, List.map_cons, List.map_nil, List.mem_cons, List.not_mem_nil, or_false] at hm
    rcases hm with rfl | rfl
    · rw [hkt] at hx0; cases hx0
    · rw [hkt] at hd0; simp at hd0)
  k_steps
  all_goals (rename News _ _ _ _ => N9; rename Fr _ _ _ _ => F9)
  all_goals (refine' rep_end (d := .tup ds9) ?rr (fun l nw rp => hR _ l _ _ _ _ (end_R rfl hx0 hg F9 (News.get N9 (.tail _ (.tail _ (.head _)))) (News.get N9 (.tail _ (.head _)))) nw ⟨_, rp, hra⟩))
  exact RepN.tup (new_of rfl hg N9 (.head _) (Nat.ne_of_gt (l1 _ (.tail _ (.head _)))) (Nat.ne_of_gt (l1 _ (.head _)))) (hrp.mono fun a o hm => new_of rfl hg N9 (.tail _ (.tail _ (.tail _ (.tail _ hm)))) (hol.x _ hm) (hol.d _ hm))

end
theorem off23 : True := by
  k_with "off23" => skip
  trivial
section
theorem is_number_c (w : World) (R : RD) (vs : List Value) (ts : List (Str × Str)) (p : Nat) (t : Tok) (hp : signAt (ts.drop p) 0 (Str.ofString "+") = false) (hm : signAt (ts.drop p) 0 (Str.ofString "-") = false) :
    PCall w R vs ts p t 485 8 [.ref R.x] fun v _ => v = .bool (kindAt (ts.drop p) 0 (Str.ofString "number")) := by
  walk_at "my_open"
  refine' enter [(Str.ofString "self", .ref R.x)] ?k1 ?k2 ?k3 ?k4 ?k5 ?kA ?kF ?kK ?k6 ?k7 ?k8 ?k9 ?kB ?_ ?c2 ?c3 ?c4 ?c5
  walk_at "my_enter"
  walk_at "my_in"
  k_steps
  all_goals walk_at "my_endP"
  all_goals rfl

end
theorem row39 : True := by
  k_with "ct" => (exact is_number_c _ _ _ _ _ _ (by with_reducible assumption) (by with_reducible assumption))
  trivial
section
theorem row40 : True := by
  k_with "binaryOp Add str str" => ((fail_if_success k_extra "off25"); k_dflt ((refine SBL.add ?_ (by first | (have h7 : (Str.ofString " ").length = 1 := rfl; simp only [sizeLine] at *; omega)); intro _ _ _)))
  trivial
theorem begins_lit_c (w : World) (R : RD) (vs : List Value) (ts : List (Str × Str)) (p : Nat) (t : Tok) (hp : signAt (ts.drop p) 0 (Str.ofString "+") = false) (hm : signAt (ts.drop p) 0 (Str.ofString "-") = false) (hkn : kindAt (ts.drop p) 0 (Str.ofString "number") = false) (hkl : kindAt (ts.drop p) 0 (Str.ofString "literal") = true) :
    PCall w R vs ts p t 279 10 [.ref R.x] fun v _ => v = .bool true := by
  walk_at "my_open"
  refine' enter [(Str.ofString "reader", .ref R.x)] ?k1 ?k2 ?k3 ?k4 ?k5 ?kA ?kF ?kK ?k6 ?k7 ?k8 ?k9 ?kB ?_ ?c2 ?c3 ?c4 ?c5
  walk_at "my_enter"
  walk_at "my_in"
  k_steps
  all_goals walk_at "my_endP"
  all_goals rfl

end
theorem off25 : True := by
  k_with "off25" => skip
  trivial
section
noncomputable def theFW : Str := match PySem.Challenge.pw_pq0621_01.main.body[36]? with | some (Stmt.Assign _ (Expr.Constant (Const.str s) _ _) _) => s | _ => default
theorem fw_space : (!(Builtin.Str.occurrences theFW (Str.ofString " " ++ Str.ofString "SPACE" ++ Str.ofString " ") 0 theFW.length 1).isEmpty) = true := by decide +kernel
theorem beg_end {l : List (Str × Str)} {k u : Str} (h : l[0]? = some (k, u)) (he : l[0]? = some (Str.ofString "word", Str.ofString "SPACE")) : Value.bool (!(Builtin.Str.occurrences theFW (Str.ofString " " ++ u ++ Str.ofString " ") 0 theFW.length 1).isEmpty) = .bool true := by
  rw [h] at he
  cases he
  rw [fw_space]
theorem row41 : True := by
  k_with "binaryOp Add str str" => ((fail_if_success k_extra "off26"); k_dflt ((refine SBL.add ?_ (by first | (have h7 : (Str.ofString " ").length = 1 := rfl; simp only [sizeLine] at *; omega)); intro _ _ _)))
  trivial
theorem begins_word_c (w : World) (R : RD) (vs : List Value) (ts : List (Str × Str)) (p : Nat) (t : Tok) (hp : signAt (ts.drop p) 0 (Str.ofString "+") = false) (hm : signAt (ts.drop p) 0 (Str.ofString "-") = false) (hkn : kindAt (ts.drop p) 0 (Str.ofString "number") = false) (hkl : kindAt (ts.drop p) 0 (Str.ofString "literal") = false) (hn : nameAt (ts.drop p) 0 = false) (hw : kindAt (ts.drop p) 0 (Str.ofString "word") = true) (he : (ts.drop p)[0]? = some (Str.ofString "word", Str.ofString "SPACE")) :
    PCall w R vs ts p t 279 10 [.ref R.x] fun v _ => v = .bool true := by
  walk_at "my_open"
  refine' enter [(Str.ofString "reader", .ref R.x)] ?k1 ?k2 ?k3 ?k4 ?k5 ?kA ?kF ?kK ?k6 ?k7 ?k8 ?k9 ?kB ?_ ?c2 ?c3 ?c4 ?c5
  walk_at "my_enter"
  walk_at "my_in"
  k_steps
  all_goals walk_at "my_endP"
  exact beg_end (by with_reducible assumption) he

end
theorem off26 : True := by
  k_with "off26" => skip
  trivial
section
section
variable {prog : Program} {w : World} {A : Around} {E : Value → Shared → Prop} {s : Shared} {h₀ : Heap} {L : Addr} {m : Str → Option Value} {env : Env}
open LCg in
/-- a comprehension over a text's signs, its list stored under a name -/
theorem Assign_ListComp_S {elt iter : Expr} {x y : Str} {px py : Pos} {scope : Scope} {cl : List (Str × Addr)} {pos spos : Pos} {Q : Flow → Shared → Prop} (F₀ : Fr h₀ L s.heap m) (hLe : env.locals = L)
    (hsw : swapsWith (.ListComp elt [⟨.Name x px, iter, [], 0⟩] scope pos) (some (.Name y py)) spos.line env = pure true)
    (hclos : closureFor scope env = pure cl) (hcell : ∀ z ∈ scope.names, z.2 ≠ .cell) (hkind : scope.kind = .function)
    (hnames : ∀ z ∈ scope.names, z.2 = .local → scope.names.lookup z.1 = some .local) (hx : scope.names.lookup x = some .local)
    (hy : env.kindOf y = some .local) (hp : (env.scope.kind == .class || (env.scope.kind == .module && env.locals != env.globals)) = false)
    (h : wpAny (model prog w) A (eval iter env) (fun xv s₁ => ∃ tx t news, xv = .str tx t ∧ A.handled = none ∧ tx.cps.all (· < 128) = true ∧ Fr h₀ L s₁.heap m ∧ News h₀ L s₁.heap news ∧ tx.cps.size ≤ sizeLine ∧
      ∀ s₂ : Shared, (∃ h, s₂ = { s₁ with heap := h }) → CompRest prog w A h₀ L m env elt x scope cl s₂ (fun _ => True) (SignAt tx) (FinA h₀ L m s₂ y Q) tx.cps.size 0 [] news) E s)
    (hs : ∀ x, foldedSetIterable iter env x = pure x := by intro _; rfl) :
    wpAny (model prog w) A (exec (.Assign [.Name y py] (.ListComp elt [⟨.Name x px, iter, [], 0⟩] scope pos) spos) env) Q E s := by
  subst hLe
  rw [exec_Assign_Name_used _ _ _ _ hsw]
  refine wpAny_bind (wpAny_standAt (wpAny_bind ?_))
  show wpAny _ A (do let _ ← comprehension (.ListComp elt [⟨.Name x px, iter, [], 0⟩] scope pos) scope env _ (newList []) false (eval iter env) (some (assign (.Name y py) env))) _ _ s
  refine wpAny_bind (wpAny_mono (wpAny_comprehension_free (use := some (assign (.Name y py) env)) (Q := fun _ s' => Q .next s') rfl hs hclos hkind hnames
    (wpAny_mono h (fun xv s₁ h₁ => ?_) fun _ _ e => e)) (fun _ s' hq => wpAny_pure (wpAny_pure hq)) fun _ _ e => e)
  obtain ⟨tx, t, news, rfl, hh, ha, F, N, hsz, R⟩ := h₁
  refine wpAny_pyIter_ascii ha ?_
  refine block_U (Walks.strAscii hh s₁.heap.objs.size tx t) hsz (fun i h st => by obtain ⟨o, e, _⟩ := st; exact ⟨o, e⟩) (fun i h h' o nw st e e' _ _ _ => by obtain ⟨o', q, r⟩ := st; rw [e] at q; cases q; exact ⟨o, e', r⟩) hcell hkind hx
    ⟨_, Heap.get?_push_size _ rfl, rfl, rfl⟩ (fun b hb => ?_) (F.keeps fun _ _ e => Heap.get?_push_of_some _ e) (N.grown fun _ _ e => Heap.get?_push_of_some _ e) (Nat.ne_of_lt F.ns.lt) (next_is_new F) (fun p hp => Nat.ne_of_lt (Heap.lt_size (N p hp).1)) trivial (R _ ⟨_, rfl⟩) ?_
  · rw [List.mem_singleton.mp hb]
    show s₁.heap.objs.size < (s₁.heap.push _).objs.size
    rw [Heap.size_push]; exact Nat.lt_succ_self _
  · intro D C h' tk m' ys news' F' N' o1 hn hC₀ hD₀ hCL hDL hCD offC fin
    show wpAny _ A (assign (.Name y py) env (.ref D)) _ _ _
    refine wpAny_assign_Name (wpAny_storeName_local hy F'.ns (fun h₂ hn₂ hs₂ => ?_) hp)
    have hL₀ : h₀.get? env.locals = none := Heap.get?_none_of_le F'.above
    have F₂ : Fr h₀ env.locals h₂ (fun z => if z = y then some (.ref D) else m z) := ⟨hn₂, fun b o e => hs₂.extBut b o (fun q => by rw [q, hL₀] at e; cases e) (F'.keep b o e), F'.above⟩
    refine ⟨m', hn.sameBut hs₂ hCL, fun h'' hs'' => fin D h'' _ (F₂.change hs'' hCL hC₀) (fun p hp => ?_) o1⟩
    have z : h₂.get? p.1 = some p.2 := hs₂.extBut _ _ (N' p hp).2.1 (N' p hp).1
    refine ⟨hs''.extBut _ _ ?_ z, (N' p hp).2⟩
    rcases List.mem_cons.mp hp with rfl | hp
    · exact Ne.symm hCD
    · exact offC p hp
end
theorem comma1 : (Str.ofString ",").cps.size = 1 := by decide +kernel
theorem comma0 {c : Nat} (h : (Str.ofString ",").cps[0]? = some c) : c = 44 := by
  have : (Str.ofString ",").cps[0]? = some 44 := by decide +kernel
  rw [this] at h; exact (Option.some.inj h).symm
theorem comma2 (t : Tok) : IntsAre [Value.int (((Str.ofString ",").cps.getD 0 0 : Nat) : Int) t] [44] := by
  rw [show ((Str.ofString ",").cps.getD 0 0 : Nat) = 44 by decide +kernel]
  exact .cons _ _ .nil
theorem comma3 : byteArr [44] = #[44] := by decide +kernel
theorem row42 : True := by
  k_with "call type:bytes" => ((fail_if_success k_extra "off27"); k_dflt ((rename News _ _ _ _ => lN'); (rename Fr _ _ _ _ => lF'); refine call_bytes_ints (ns := [44]) ⟨_, lN'.get (by k_mem), rfl, _, rfl⟩ (comma2 _) (by decide) (by exact Nat.le_of_ble_eq_true rfl) rfl ?_; intro h9 t9 k9 hk9; have F9 := lF'.keeps hk9; have N9 := lN'.grown hk9; clear lF' lN' hk9; try dsimp only))
  k_with "exec Assign cons ListComp" => ((fail_if_success k_extra "off27"); k_dflt ((refine Assign_ListComp_S (F₀ := by k_asm) (by rfl) (by with_unfolding_all rfl) (by rfl) (by decide) (by rfl) (by decide) (by rfl) (by rfl) (by rfl) ?_); walk1; refine ⟨_, _, _, rfl, rfl, by decide +kernel, by k_asm, by k_asm, by exact Nat.le_of_ble_eq_true rfl, ?_⟩; (rintro _ ⟨g9, rfl⟩); rw [comma1]; refine LCg.CompRest.succ ?_; intro v' I' oI' C' oC' D' m' h' tk' E' hv' hC' hx' F' N' off' ne'; obtain ⟨c9, t9', hc9, rfl⟩ := hv'; obtain rfl := comma0 hc9; simp only [LCg.Off3, and_true] at off'; (first | obtain ⟨⟨_, _, _⟩, ⟨_, _, _⟩, _, _, _⟩ := off' | obtain ⟨⟨_, _, _⟩, _, _, _⟩ := off')))
  trivial
theorem octext_c (w : World) (R : RD) (vs : List Value) (ts : List (Str × Str)) (p : Nat) (t : Tok) (tk : Tok) :
    PCall w R vs ts p t 347 8 [.str (Str.ofString ",") tk] fun v _ => ∃ b, v = .bytes #[44] b := by
  walk_at "my_open"
  refine' enter [(Str.ofString "text", .str (Str.ofString ",") tk)] ?k1 ?k2 ?k3 ?k4 ?k5 ?kA ?kF ?kK ?k6 ?k7 ?k8 ?k9 ?kB ?_ ?c2 ?c3 ?c4 ?c5
  walk_at "my_enter"
  walk_at "my_in"
  k_steps
  all_goals walk_at "my_endP"
  all_goals exact ⟨_, rfl⟩

end
theorem off27 : True := by
  k_with "off27" => skip
  trivial
section
section
variable {w : World} {R : RD} {vs : List Value} {ts : List (Str × Str)} {p q : Nat} {t : Tok} {h₀ : Heap} {L : Addr} {m : Str → Option Value} {news : List (Addr × Obj)} {s : Shared} {f : Addr} {n M : Nat} {args : List Value} {A : Around} {Q E : Value → Shared → Prop} {news' : Tok → List (Addr × Obj)}
theorem oct_use {k1 kd u : Str} {tu : Tok} (C : Cx w R vs ts A L h₀ M) (F : Fr h₀ L s.heap m) (N : News h₀ L s.heap news) (m1 : (R.x, rdX R.dx) ∈ news) (m2 : (R.dx, rdD w R p t) ∈ news) (e : u = Str.ofString ",") (hn : 8 ≤ M)
    (h : ∀ b h' tk', Fr h₀ L h' m → News h₀ L h' news → Q (.bytes #[44] b) { s with heap := h', toks := tk' }) : wpAny (model rw.prog w) A (call (.ref 347) [.str u tu]) Q E s := by
  subst e
  refine (octext_c w R vs ts p t tu).use C F N m1 m2 hn fun v h' tk' F' N' e => ?_
  obtain ⟨b, rfl⟩ := e
  exact h b _ _ F' N'
/-- peek where the token is known -/
theorem peek_known {kd u : Str} (k : Nat) (C : Cx w R vs ts A L h₀ M) (F : Fr h₀ L s.heap m) (N : News h₀ L s.heap news) (m1 : (R.x, rdX R.dx) ∈ news) (m2 : (R.dx, rdD w R p t) ∈ news) (H : PCall w R vs ts p t 370 2 args fun v _ => v = pk vs (p + k)) (hn : 2 ≤ M)
    (he : (ts.drop p)[k]? = some (kd, u)) (h : ∀ x, TokAt w h₀ x kd u (p + k) → ∀ h' tk', Fr h₀ L h' m → News h₀ L h' news → Q (.ref x) { s with heap := h', toks := tk' }) :
    wpAny (model rw.prog w) A (call (.ref 370) args) Q E s :=
  peek_use k C F N m1 m2 H hn (fun e => (no_both e he).elim) fun kd' u' x e _ T1 h' tk' F' N' => by
    rw [he] at e
    cases e
    exact h x T1 h' tk' F' N'
/-- one pair comes back -/
noncomputable def TwoPost (x0 x1 : Tok → Value) (q : Nat) (v : Value) (l : List (Addr × Obj)) (p' : Nat) : Prop := ∃ a t0 t1, v = .ref a ∧ l = [(a, tupO [x0 t0, x1 t1])] ∧ p' = q
theorem RCall.use2 {x0 x1 : Tok → Value} (C : Cx w R vs ts A L h₀ M) (F : Fr h₀ L s.heap m) (N : News h₀ L s.heap news) (m1 : (R.x, rdX R.dx) ∈ news) (m2 : (R.dx, rdD w R p t) ∈ news) (H : RCall w R vs ts p t f n args (TwoPost x0 x1 q)) (hn : n ≤ M)
    (U : ∀ t', Upd R.dx (rdD w R p t) (rdD w R (q : Nat) t') news (news' t'))
    (h : ∀ a t0 t1 h' tk' t', Fr h₀ L h' m → News h₀ L h' ((a, tupO [x0 t0, x1 t1]) :: news' t') → AllNe a news → Q (.ref a) { s with heap := h', toks := tk' }) :
    wpAny (model rw.prog w) A (call (.ref f) args) Q E s := H.use C F N m1 m2 hn fun v l h' tk' p' t' F' N' ne e => by
  obtain ⟨a, t0, t1, rfl, rfl, rfl⟩ := e
  exact h a t0 t1 _ _ t' F' (N' _ (U t')) (allNe_of fun r hr => ne r hr _ (.head _))
/-- a bytes object comes back -/
theorem RCall.useY (C : Cx w R vs ts A L h₀ M) (F : Fr h₀ L s.heap m) (N : News h₀ L s.heap news) (m1 : (R.x, rdX R.dx) ∈ news) (m2 : (R.dx, rdD w R p t) ∈ news) (H : RCall w R vs ts p t f n args fun v _ p' => (∃ b, v = .bytes #[44] b) ∧ p' = q) (hn : n ≤ M)
    (U : ∀ t', Upd R.dx (rdD w R p t) (rdD w R (q : Nat) t') news (news' t'))
    (h : ∀ b h' tk' t', Fr h₀ L h' m → News h₀ L h' (news' t') → Q (.bytes #[44] b) { s with heap := h', toks := tk' }) :
    wpAny (model rw.prog w) A (call (.ref f) args) Q E s := H.use C F N m1 m2 hn fun v l h' tk' p' t' F' N' _ e => by
  obtain ⟨⟨b, rfl⟩, rfl⟩ := e
  exact h b _ _ t' F' fun q hq => N' _ (U t') q (List.mem_append_right _ hq)
theorem kind_at {l : List (Str × Str)} {i : Nat} {k u v : Str} {b : Bool} (h : l[i]? = some (k, u)) (e : (k == v) = b) : kindAt l i v = b := by unfold kindAt; rw [h]; exact e
theorem word_at {l : List (Str × Str)} {i : Nat} {k u v : Str} {b : Bool} (h : l[i]? = some (k, u)) (e : (k == Str.ofString "word" && u == v) = b) : wordAt l i v = b := by unfold wordAt; rw [h]; exact e
theorem sign_at {l : List (Str × Str)} {i : Nat} {k u v : Str} {b : Bool} (h : l[i]? = some (k, u)) (e : (k == Str.ofString "sign" && u == v) = b) : signAt l i v = b := by unfold signAt; rw [h]; exact e
end
theorem row43 : True := by
  k_with "call ref" => ((fail_if_success k_extra "off28"); k_dflt ((with_reducible show wpAny _ _ (call (Value.ref 347) _) _ _ _); refine' oct_use (k1 := Str.ofString ",") (kd := Str.ofString ",") ?C ?F ?N ?m1 ?m2 ?e ?hn ?_; (case C => with_reducible assumption); (case F => k_asm); (case N => k_asm); (case m1 => k_mem); (case m2 => k_mem); (case e => exact rfl); (case hn => exact Nat.le_of_ble_eq_true rfl); intro b9 h9 tk9 F9 N9; k_sweep; (try dsimp only); (try k_fold)))
  k_with "call ref" => ((fail_if_success k_extra "off28"); k_dflt (((with_reducible show wpAny _ _ (call (Value.ref 370) _) _ _ _); (first | refine' peek_known _ ?C ?F ?N ?m1 ?m2 (peek_c _ _ _ _ _ _ _ _ _ (.inl rfl)) ?hn ?he ?_ | refine' peek_known 0 ?C ?F ?N ?m1 ?m2 (peek_c _ _ _ _ _ _ 0 _ _ (.inr ⟨rfl, rfl, rfl⟩)) ?hn ?he ?_); (case he => with_reducible assumption); (case C => with_reducible assumption); (case F => k_asm); (case N => k_asm); (case m1 => k_mem); (case m2 => k_mem); (case hn => exact Nat.le_of_ble_eq_true rfl); intro x9 hx9 h9 tk9 F9 N9; have hu9 := tok_len hx9; k_sweep; (try dsimp only); (try k_fold))))
  trivial
theorem octets_c (w : World) (R : RD) (vs : List Value) (ts : List (Str × Str)) (p : Nat) (t : Tok) (he : (ts.drop p)[0]? = some (Str.ofString "literal", Str.ofString ",")) (hk : kindAt (ts.drop p) 0 (Str.ofString "literal") = true) :
    RCall w R vs ts p t 513 10 [.ref R.x] fun v _ p' => (∃ b, v = .bytes #[44] b) ∧ p' = p + 1 := by
  walk_at "my_open"
  refine' enter [(Str.ofString "self", .ref R.x)] ?k1 ?k2 ?k3 ?k4 ?k5 ?kA ?kF ?kK ?k6 ?k7 ?k8 ?k9 ?kB ?_ ?c2 ?c3 ?c4 ?c5
  walk_at "my_enter"
  walk_at "my_in"
  k_steps
  all_goals walk_at "my_endR"
  all_goals exact ⟨⟨_, rfl⟩, rfl⟩

end
theorem off28 : True := by
  k_with "off28" => skip
  trivial
theorem row44 : True := by
  k_with "call ref" => (k_dflt (((with_reducible show wpAny _ _ (call (Value.ref 370) _) _ _ _); (first | refine' peek_known _ ?C ?F ?N ?m1 ?m2 (peek_c _ _ _ _ _ _ _ _ _ (.inl rfl)) ?hn ?he ?_ | refine' peek_known 0 ?C ?F ?N ?m1 ?m2 (peek_c _ _ _ _ _ _ 0 _ _ (.inr ⟨rfl, rfl, rfl⟩)) ?hn ?he ?_); (case he => with_reducible assumption); (case C => with_reducible assumption); (case F => k_asm); (case N => k_asm); (case m1 => k_mem); (case m2 => k_mem); (case hn => exact Nat.le_of_ble_eq_true rfl); intro x9 hx9 h9 tk9 F9 N9; have hu9 := tok_len hx9; k_sweep; (try dsimp only); (try k_fold))))
  k_with "call ref" => (k_dflt ((with_reducible show wpAny _ _ (call (Value.ref 513) _) _ _ _); refine' RCall.useY ?C ?F ?N ?m1 ?m2 ?ct ?hn ?uu ?_; (case C => with_reducible assumption); (case F => k_asm); (case N => k_asm); (case m1 => k_mem); (case m2 => k_mem); (case ct => exact octets_c _ _ _ _ _ _ (by with_reducible assumption) (by with_reducible assumption)); (case hn => exact Nat.le_of_ble_eq_true rfl); (case uu => intro t9; k_upd); intro b9 h9 tk9 t9 F9 N9; k_sweep; (try dsimp only); (try k_fold)))
  trivial
section
theorem topNotIn_K {prog : Program} {w : World} {A : Around} {E : Value → Shared → Prop} {s : Shared} {h₀ : Heap} {L a : Addr} {m : Str → Option Value} {KK : Frag} {es : Array DictEntry} {n : Nat} {x : Str} {t : Tok} {r : Option Value} {Q : Value → Shared → Prop} (F : Fr h₀ L s.heap m) (X₀ : KK.In h₀) (hl : KK.lookup a = some ⟨.type "dict", none, .dict es n, #[]⟩) (hk : KeysLit w.params es.toList) (e : nsIn KK a x = some r) (lo : (a == sysModules) = false)
    (h : Q (.bool (!r.isSome)) { s with toks := s.toks + 1 }) : wpAny (model prog w) A (compareOp .NotIn (.str x t) (.ref a)) Q E s :=
  wpAny_notIn_of (strKind_is prog w x t) lo (mapOf_K (prog := prog) (X₀.keeps F.keep) hl hk) (by rw [find_K hl e]; exact h)
theorem row45 : True := by
  k_with "compareOp NotIn str ref" => ((fail_if_success k_extra "off29"); k_dflt (refine' topNotIn_K ?F ?X ?l ?k ?e ?o ?_; (case F => k_asm); (case X => k_asm); (case l => k_is); (case k => k_keys); (case e => k_is); (case o => decide)))
  k_with "my_end2" => ((fail_if_success k_extra "off29"); (refine' hR _ [(_, tupO [_, _])] _ _ _ _ ?ee ?nn ⟨_, _, _, rfl, rfl, rfl⟩; (case ee => exact end_R rfl hx0 hg (by assumption) (News.get (by assumption) (by k_mem)) (News.get (by assumption) (by k_mem))); (case nn => walk_at "my_new")))
  trivial
noncomputable abbrev figX0 (t : Tok) : Value := .str (Str.ofString "figure") t
noncomputable abbrev figX1 (t : Tok) : Value := .str (Str.ofString "SPACE") t
noncomputable abbrev txtX0 (t : Tok) : Value := .str (Str.ofString "text") t
noncomputable abbrev txtX1 (t : Tok) : Value := .bytes #[44] t
theorem figure_c (w : World) (R : RD) (vs : List Value) (ts : List (Str × Str)) (p : Nat) (t : Tok) (he : (ts.drop p)[0]? = some (Str.ofString "word", Str.ofString "SPACE")) (hk : kindAt (ts.drop p) 0 (Str.ofString "word") = true) :
    RCall w R vs ts p t 174 8 [.ref R.x] (TwoPost figX0 figX1 (p + 1)) := by
  walk_at "my_open"
  refine' enter [(Str.ofString "reader", .ref R.x)] ?k1 ?k2 ?k3 ?k4 ?k5 ?kA ?kF ?kK ?k6 ?k7 ?k8 ?k9 ?kB ?_ ?c2 ?c3 ?c4 ?c5
  walk_at "my_enter"
  walk_at "my_in"
  k_steps
  all_goals walk_at "my_end2"

end
theorem off29 : True := by
  k_with "off29" => skip
  trivial
theorem row46 : True := by
  k_with "my_end2" => ((refine' hR _ [(_, tupO [_, _])] _ _ _ _ ?ee ?nn ⟨_, _, _, rfl, rfl, rfl⟩; (case ee => exact end_R rfl hx0 hg (by assumption) (News.get (by assumption) (by k_mem)) (News.get (by assumption) (by k_mem))); (case nn => walk_at "my_new")))
  k_with "c2" => (exact figure_c _ _ _ _ _ _ (by with_reducible assumption) (by with_reducible assumption))
  k_with "call ref" => (k_dflt ((refine' RCall.use2 ?C ?F ?N ?m1 ?m2 ?ct ?hn ?uu ?_; (case C => with_reducible assumption); (case F => k_asm); (case N => k_asm); (case m1 => k_mem); (case m2 => k_mem); (case ct => walk_at "c2"); (case hn => exact Nat.le_of_ble_eq_true rfl); (case uu => intro t9; k_upd); intro a9 ta9 tb9 h9 tk9 t9 F9 N9 n1; k_sweep; (try dsimp only); (try k_fold))))
  trivial
section
theorem operand_lit_c (w : World) (R : RD) (vs : List Value) (ts : List (Str × Str)) (p : Nat) (t : Tok) (tx : Value) (hp : signAt (ts.drop p) 0 (Str.ofString "+") = false) (hm : signAt (ts.drop p) 0 (Str.ofString "-") = false) (hkn : kindAt (ts.drop p) 0 (Str.ofString "number") = false) (hkl : kindAt (ts.drop p) 0 (Str.ofString "literal") = true)
    (he : (ts.drop p)[0]? = some (Str.ofString "literal", Str.ofString ",")) : RCall w R vs ts p t 181 14 [.ref R.x, tx] (TwoPost txtX0 txtX1 (p + 1)) := by
  walk_at "my_open"
  refine' enter [(Str.ofString "reader", .ref R.x), (Str.ofString "read_expr", tx)] ?k1 ?k2 ?k3 ?k4 ?k5 ?kA ?kF ?kK ?k6 ?k7 ?k8 ?k9 ?kB ?_ ?c2 ?c3 ?c4 ?c5
  walk_at "my_enter"
  walk_at "my_in"
  k_steps
  all_goals walk_at "my_end2"
theorem operand_word_c (w : World) (R : RD) (vs : List Value) (ts : List (Str × Str)) (p : Nat) (t : Tok) (tx : Value) (hp : signAt (ts.drop p) 0 (Str.ofString "+") = false) (hm : signAt (ts.drop p) 0 (Str.ofString "-") = false) (hkn : kindAt (ts.drop p) 0 (Str.ofString "number") = false) (hkl : kindAt (ts.drop p) 0 (Str.ofString "literal") = false)
    (hw : kindAt (ts.drop p) 0 (Str.ofString "word") = true) (ha : wordAt (ts.drop p) 0 (Str.ofString "ALL") = false)
    (he : (ts.drop p)[0]? = some (Str.ofString "word", Str.ofString "SPACE")) : RCall w R vs ts p t 181 14 [.ref R.x, tx] (TwoPost figX0 figX1 (p + 1)) := by
  walk_at "my_open"
  refine' enter [(Str.ofString "reader", .ref R.x), (Str.ofString "read_expr", tx)] ?k1 ?k2 ?k3 ?k4 ?k5 ?kA ?kF ?kK ?k6 ?k7 ?k8 ?k9 ?kB ?_ ?c2 ?c3 ?c4 ?c5
  walk_at "my_enter"
  walk_at "my_in"
  k_steps
  all_goals walk_at "my_end2"

end
theorem row47 : True := by
  k_with "ct" => (first | exact begins_lit_c _ _ _ _ _ _ (by with_reducible assumption) (by with_reducible assumption) (by with_reducible assumption) (by with_reducible assumption) | exact begins_word_c _ _ _ _ _ _ (by with_reducible assumption) (by with_reducible assumption) (by with_reducible assumption) (by with_reducible assumption) (by with_reducible assumption) (by with_reducible assumption) (by with_reducible assumption) | fail "begins")
  k_with "c2" => (first | exact operand_lit_c _ _ _ _ _ _ _ (by with_reducible assumption) (by with_reducible assumption) (by with_reducible assumption) (by with_reducible assumption) (by with_reducible assumption) | exact operand_word_c _ _ _ _ _ _ _ (by with_reducible assumption) (by with_reducible assumption) (by with_reducible assumption) (by with_reducible assumption) (by with_reducible assumption) (by with_reducible assumption) (by with_reducible assumption) | fail "operand")
  trivial
section
theorem operandh_lit_c (w : World) (R : RD) (vs : List Value) (ts : List (Str × Str)) (p : Nat) (t : Tok) (hp : signAt (ts.drop p) 0 (Str.ofString "+") = false) (hm : signAt (ts.drop p) 0 (Str.ofString "-") = false) (hkn : kindAt (ts.drop p) 0 (Str.ofString "number") = false) (hkl : kindAt (ts.drop p) 0 (Str.ofString "literal") = true)
    (he : (ts.drop p)[0]? = some (Str.ofString "literal", Str.ofString ",")) : RCall w R vs ts p t 300 16 [.ref R.x] (TwoPost txtX0 txtX1 (p + 1)) := by
  walk_at "my_open"
  refine' enter [(Str.ofString "reader", .ref R.x)] ?k1 ?k2 ?k3 ?k4 ?k5 ?kA ?kF ?kK ?k6 ?k7 ?k8 ?k9 ?kB ?_ ?c2 ?c3 ?c4 ?c5
  walk_at "my_enter"
  walk_at "my_in"
  k_steps
  all_goals walk_at "my_end2"
theorem operandh_word_c (w : World) (R : RD) (vs : List Value) (ts : List (Str × Str)) (p : Nat) (t : Tok) (hp : signAt (ts.drop p) 0 (Str.ofString "+") = false) (hm : signAt (ts.drop p) 0 (Str.ofString "-") = false) (hkn : kindAt (ts.drop p) 0 (Str.ofString "number") = false) (hkl : kindAt (ts.drop p) 0 (Str.ofString "literal") = false) (hn : nameAt (ts.drop p) 0 = false)
    (hw : kindAt (ts.drop p) 0 (Str.ofString "word") = true) (ha : wordAt (ts.drop p) 0 (Str.ofString "ALL") = false)
    (he : (ts.drop p)[0]? = some (Str.ofString "word", Str.ofString "SPACE")) : RCall w R vs ts p t 300 16 [.ref R.x] (TwoPost figX0 figX1 (p + 1)) := by
  walk_at "my_open"
  refine' enter [(Str.ofString "reader", .ref R.x)] ?k1 ?k2 ?k3 ?k4 ?k5 ?kA ?kF ?kK ?k6 ?k7 ?k8 ?k9 ?kB ?_ ?c2 ?c3 ?c4 ?c5
  walk_at "my_enter"
  walk_at "my_in"
  k_steps
  all_goals walk_at "my_end2"

end
theorem row48 : True := by
  k_with "c2" => (first | exact operandh_lit_c _ _ _ _ _ _ (by with_reducible assumption) (by with_reducible assumption) (by with_reducible assumption) (by with_reducible assumption) (by with_reducible assumption) | exact operandh_word_c _ _ _ _ _ _ (by with_reducible assumption) (by with_reducible assumption) (by with_reducible assumption) (by with_reducible assumption) (by with_reducible assumption) (by with_reducible assumption) (by with_reducible assumption) (by with_reducible assumption) | fail "operandh")
  trivial
section
theorem texth_lit_c (w : World) (R : RD) (vs : List Value) (ts : List (Str × Str)) (p : Nat) (t : Tok) (hp : signAt (ts.drop p) 0 (Str.ofString "+") = false) (hm : signAt (ts.drop p) 0 (Str.ofString "-") = false) (hkn : kindAt (ts.drop p) 0 (Str.ofString "number") = false) (hkl : kindAt (ts.drop p) 0 (Str.ofString "literal") = true)
    (he : (ts.drop p)[0]? = some (Str.ofString "literal", Str.ofString ",")) : RCall w R vs ts p t 307 18 [.ref R.x] (TwoPost txtX0 txtX1 (p + 1)) := by
  walk_at "my_open"
  refine' enter [(Str.ofString "reader", .ref R.x)] ?k1 ?k2 ?k3 ?k4 ?k5 ?kA ?kF ?kK ?k6 ?k7 ?k8 ?k9 ?kB ?_ ?c2 ?c3 ?c4 ?c5
  walk_at "my_enter"
  walk_at "my_in"
  k_steps
  all_goals walk_at "my_end2"
theorem texth_word_c (w : World) (R : RD) (vs : List Value) (ts : List (Str × Str)) (p : Nat) (t : Tok) (hp : signAt (ts.drop p) 0 (Str.ofString "+") = false) (hm : signAt (ts.drop p) 0 (Str.ofString "-") = false) (hkn : kindAt (ts.drop p) 0 (Str.ofString "number") = false) (hkl : kindAt (ts.drop p) 0 (Str.ofString "literal") = false) (hn : nameAt (ts.drop p) 0 = false)
    (hw : kindAt (ts.drop p) 0 (Str.ofString "word") = true) (ha : wordAt (ts.drop p) 0 (Str.ofString "ALL") = false)
    (he : (ts.drop p)[0]? = some (Str.ofString "word", Str.ofString "SPACE")) : RCall w R vs ts p t 307 18 [.ref R.x] (TwoPost figX0 figX1 (p + 1)) := by
  walk_at "my_open"
  refine' enter [(Str.ofString "reader", .ref R.x)] ?k1 ?k2 ?k3 ?k4 ?k5 ?kA ?kF ?kK ?k6 ?k7 ?k8 ?k9 ?kB ?_ ?c2 ?c3 ?c4 ?c5
  walk_at "my_enter"
  walk_at "my_in"
  k_steps
  all_goals walk_at "my_end2"

end
theorem row49 : True := by
  k_with "c2" => (first | exact texth_lit_c _ _ _ _ _ _ (by with_reducible assumption) (by with_reducible assumption) (by with_reducible assumption) (by with_reducible assumption) (by with_reducible assumption) | exact texth_word_c _ _ _ _ _ _ (by with_reducible assumption) (by with_reducible assumption) (by with_reducible assumption) (by with_reducible assumption) (by with_reducible assumption) (by with_reducible assumption) (by with_reducible assumption) (by with_reducible assumption) | fail "texth")
  trivial
section
noncomputable def marksD : D := .tup [.tup [.tup [.str (Str.ofString "text"), .bytes #[44]], .bool false], .tup [.tup [.str (Str.ofString "figure"), .str (Str.ofString "SPACE")], .bool true]]
theorem delim_no_c (w : World) (R : RD) (vs : List Value) (ts : List (Str × Str)) (p : Nat) (t : Tok) (h0 : wordAt (ts.drop p) 0 (Str.ofString "DELIMITED") = false) :
    RCall w R vs ts p t 321 24 [.ref R.x] fun v l p' => RepL l v (.tup []) ∧ p' = p := by
  walk_at "my_open"
  refine' enter [(Str.ofString "reader", .ref R.x)] ?k1 ?k2 ?k3 ?k4 ?k5 ?kA ?kF ?kK ?k6 ?k7 ?k8 ?k9 ?kB ?_ ?c2 ?c3 ?c4 ?c5
  walk_at "my_enter"
  walk_at "my_in"
  k_steps
  all_goals (refine' rep_end (d := .tup []) ?rr (fun l nw rp => hR _ l _ _ _ _ (end_R rfl hx0 hg (by assumption) (News.get (by assumption) (by k_mem)) (News.get (by assumption) (by k_mem))) nw ⟨rp, rfl⟩); (case rr => walk_at "my_rep"))
/-- DELIMITED BY ',' OR ALL SPACE stands at p -/
structure MarksAt (ts : List (Str × Str)) (p : Nat) : Prop where
  a : wordAt (ts.drop p) 0 (Str.ofString "DELIMITED") = true
  b : wordAt (ts.drop (p + 1)) 0 (Str.ofString "BY") = true
  c : wordAt (ts.drop (p + 1 + 1)) 0 (Str.ofString "ALL") = false
  p1 : signAt (ts.drop (p + 1 + 1)) 0 (Str.ofString "+") = false
  m1 : signAt (ts.drop (p + 1 + 1)) 0 (Str.ofString "-") = false
  kn1 : kindAt (ts.drop (p + 1 + 1)) 0 (Str.ofString "number") = false
  kl1 : kindAt (ts.drop (p + 1 + 1)) 0 (Str.ofString "literal") = true
  e1 : (ts.drop (p + 1 + 1))[0]? = some (Str.ofString "literal", Str.ofString ",")
  d : wordAt (ts.drop (p + 1 + 1 + 1)) 0 (Str.ofString "OR") = true
  e : wordAt (ts.drop (p + 1 + 1 + 1 + 1)) 0 (Str.ofString "ALL") = true
  p2 : signAt (ts.drop (p + 1 + 1 + 1 + 1 + 1)) 0 (Str.ofString "+") = false
  m2 : signAt (ts.drop (p + 1 + 1 + 1 + 1 + 1)) 0 (Str.ofString "-") = false
  kn2 : kindAt (ts.drop (p + 1 + 1 + 1 + 1 + 1)) 0 (Str.ofString "number") = false
  kl2 : kindAt (ts.drop (p + 1 + 1 + 1 + 1 + 1)) 0 (Str.ofString "literal") = false
  n2 : nameAt (ts.drop (p + 1 + 1 + 1 + 1 + 1)) 0 = false
  w2 : kindAt (ts.drop (p + 1 + 1 + 1 + 1 + 1)) 0 (Str.ofString "word") = true
  a2 : wordAt (ts.drop (p + 1 + 1 + 1 + 1 + 1)) 0 (Str.ofString "ALL") = false
  e2 : (ts.drop (p + 1 + 1 + 1 + 1 + 1))[0]? = some (Str.ofString "word", Str.ofString "SPACE")
  f : wordAt (ts.drop (p + 1 + 1 + 1 + 1 + 1 + 1)) 0 (Str.ofString "OR") = false
theorem row50 : True := by
  k_with "compareOp Eq ref ref" => ((fail_if_success k_extra "off33"); k_dflt (refine' SeqAt.eq_list_lengthsAt ?k1 ?k2 ?k3 ?k4 ?_; (case k1 => exact News.isList (by k_asm) (by k_mem)); (case k2 => exact News.isList (by k_asm) (by k_mem)); (case k3 => exact rfl); (case k4 => exact Nat.lt_of_le_of_lt (Nat.le_add_right _ 64) hu9)))
  k_with "my_rep" => ((fail_if_success k_extra "off33"); exact RepN.bytes _ _)
  trivial
theorem delim_c (w : World) (R : RD) (vs : List Value) (ts : List (Str × Str)) (p : Nat) (t : Tok) (H : MarksAt ts p) :
    RCall w R vs ts p t 321 24 [.ref R.x] fun v l p' => RepL l v marksD ∧ p' = p + 6 := by
  obtain ⟨ha, hb, hc, hp1, hm1, hkn1, hkl1, he1, hd1, he', hp2, hm2, hkn2, hkl2, hn2, hw2, ha2, he2, hf⟩ := H
  walk_at "my_open"
  refine' enter [(Str.ofString "reader", .ref R.x)] ?k1 ?k2 ?k3 ?k4 ?k5 ?kA ?kF ?kK ?k6 ?k7 ?k8 ?k9 ?kB ?_ ?c2 ?c3 ?c4 ?c5
  walk_at "my_enter"
  walk_at "my_in"
  have hu9 : un + 64 < cLine := by have := hC.u; simp only at this; omega
  k_steps
  all_goals (refine' rep_end (d := marksD) ?rr (fun l nw rp => hR _ l _ _ _ _ (end_R rfl hx0 hg (by assumption) (News.get (by assumption) (by k_mem)) (News.get (by assumption) (by k_mem))) nw ⟨rp, rfl⟩); (case rr => (unfold marksD; walk_at "my_rep")))

end
theorem off33 : True := by
  k_with "off33" => skip
  trivial
section
/-- a fault's object, its arguments' tuple at t, its dict -/
noncomputable abbrev exO (t : Addr) (dd : Option Addr) : Obj := ⟨.ref 72, dd, .fields #[.ref t, .none, .none, .none, .bool false, .none], #[]⟩
noncomputable abbrev bm72 : List Value := [.ref 47, .type "Exception", .type "BaseException", .type "object"]
section
open PySem Sem
variable {prog : Program} {w : World} {A : Around} {E : Value → Shared → Prop} {h : Heap} {g : Array GenState} {d : Drawn} {t : Nat} {os : OsState}
theorem cls72 (X : (K w.params).In h) : ∃ nm q bs sub col dd k0 k1 k2 k3 k5, h.get? 72 = some (excClassObj nm q 72 71 bs bm72 true [] sub false col dd k0 k1 k2 k3 k5 "Exception.__new__") :=
  ⟨_, _, _, _, _, _, _, _, _, _, _, X 72 _ (by k_is)⟩
variable {nm q : Str} {bs : List Value} {sub : List Value} {col : Option Bool} {dd : Option Addr} {k0 k1 k2 k3 k5 : Option Value}
theorem exc_check_new {M : Model} {rest : List Value} {Q : Unit → Shared → Prop} (hC : h.get? 72 = some (excClassObj nm q 72 71 bs bm72 true [] sub false col dd k0 k1 k2 k3 k5 "Exception.__new__"))
    (hq : Q () ⟨h, g, d, t, os⟩) : wpAny M A (checkBuiltinCall "Exception.__new__" ⟨.ref 72 :: rest, []⟩) Q E ⟨h, g, d, t, os⟩ := by
  have hcont : (Value.ref 72 :: bm72).contains (.type "Exception") = true := by decide +kernel
  have F := PySem.F.excBase_Exception
  have hstar := F.noStar
  simp only [checkBuiltinCall, F.newKind, F.newSplit, F.newRow]
  repeat (first | refine wpAny_loadPart_at hC ?_ | (refine wpAny_isSubtype_exc hC ?_; rw [hcont]) | refine wpAny_staticBase_exc hC ?_ | refine wpAny_madeBy_exc hC ?_ | simp only [bne_self_eq_false, Bool.false_eq_true, if_false] | wp_step)
  exact hq
theorem exc_new {R : Result → Shared → Prop} {rest : List Value} (hC : h.get? 72 = some (excClassObj nm q 72 71 bs bm72 true [] sub false col dd k0 k1 k2 k3 k5 "Exception.__new__"))
    (hq : R (.ok (.ret (.ref (h.objs.size + 1)))) ⟨(h.push (tupO rest)).push (exO h.objs.size none), g, d, t, os⟩) (hrest : rest.length ≤ sizeLine) :
    codeAny (model prog w) A (.builtin "Exception.__new__" ⟨.ref 72 :: rest, []⟩) R ⟨h, g, d, t, os⟩ := by
  have F := PySem.F.excBase_Exception
  have hends := F.ends
  have hcB : (Value.ref 72 :: bm72).contains (.type "Exception") = true := by decide +kernel
  have hcA : (Value.ref 72 :: bm72).contains (.type "AttributeError") = false := by decide +kernel
  have hcN : (Value.ref 72 :: bm72).contains (.type "NameError") = false := by decide +kernel
  refine codeAny_builtinAt F.entry ?_
  unfold Builtin.«BaseException.__new__»
  refine PySem.wpAt_bind ?_
  show PySem.wpAt _ _ _ (stack >>= _) _ _ _
  refine PySem.wpAt_bind (PySem.wpAt_stack fun p below => PySem.wpAt_of_wpAny ?_)
  wp_walk
  refine PySem.wpAt_of_wpAny ?_
  rw [F.owner]
  repeat (first | with_reducible refine wpAny_madeHere_exc F.canon hC ?_ | with_reducible refine wpAny_loadPart_at hC ?_ | (with_reducible refine wpAny_isSubtype_exc hC ?_; first | rw [hcB] | rw [hcA] | rw [hcN]) | wp_step)
  show R _ _
  rw [Heap.size_push]
  exact hq
theorem exc_type_call {rest : List Value} {Q : Fin → Shared → Prop} (X : (K w.params).In h)
    (hq : wpAny (model prog w) A (call (.ref 37) (.ref (h.objs.size + 1) :: rest)) (fun r s' => r = .none ∧ Q (.done (.ret (.ref (h.objs.size + 1)))) s') E ⟨(h.push (tupO rest)).push (exO h.objs.size none), g, d, t, os⟩) (hrest : rest.length ≤ sizeLine) :
    wpAny (model prog w) A (Builtin.«type.__call__» ⟨.ref 72 :: rest, []⟩) Q E ⟨h, g, d, t, os⟩ := by
  obtain ⟨nm, q, bs, sub, col, dd, k0, k1, k2, k3, k5, hC⟩ := cls72 X
  repeat (first | with_reducible refine wpAny_loadPart_at hC ?_ | with_reducible refine wpAny_madeBy_exc hC ?_ | wp_step)
  refine codeAny_call_builtin_code (Code.quiet_builtin _ PySem.F.excBase_Exception.quiet) (exc_check_new hC ?_)
  refine exc_new hC ?_ hrest
  show wpAny _ _ _ _ _ _
  have up : ∀ b o, h.get? b = some o → ((h.push (tupO rest)).push (exO h.objs.size none)).get? b = some o := fun b o e => Heap.get?_push_of_some _ (Heap.get?_push_of_some _ e)
  have hC₁ := up _ _ hC
  have hget : ((h.push (tupO rest)).push (exO h.objs.size none)).get? (h.objs.size + 1) = some (exO h.objs.size none) := by heap_get
  have hcC : (Value.ref 72 :: bm72).contains (.ref 72) = true := by decide +kernel
  unfold isInstance
  repeat (first | with_reducible refine wpAny_loadPart_at hget ?_ | (with_reducible refine wpAny_isSubtype_exc hC₁ ?_; rw [hcC]) | wp_step)
  show wpAny _ _ (typeLookup (.ref 72) _) _ _ _
  refine (looks_findIn (X.keeps up) (r := some (.ref 37)) (by k_is)).here ?_
  refine wpAny_holding (wpAny_bind ((bind_fn (X.keeps up) _ (by k_is)).here ?_))
  refine wpAny_bind (wpAny_mono hq (fun r s' hr => ?_) fun _ _ x => x)
  obtain ⟨rfl, hQ⟩ := hr
  wp_walk
  exact hQ
theorem exc_call {rest : List Value} {Q : Value → Shared → Prop} (X : (K w.params).In h)
    (hq : wpAny (model prog w) (A.under (.builtin "type.__call__" ⟨.ref 72 :: rest, []⟩)) (call (.ref 37) (.ref (h.objs.size + 1) :: rest)) (fun r s' => r = .none ∧ Q (.ref (h.objs.size + 1)) s') E ⟨(h.push (tupO rest)).push (exO h.objs.size none), g, d, t, os⟩) (hrest : rest.length ≤ sizeLine) :
    wpAny (model prog w) A (call (.ref 72) rest) Q E ⟨h, g, d, t, os⟩ := by
  obtain ⟨nm, q, bs, sub, col, dd, k0, k1, k2, k3, k5, hC⟩ := cls72 X
  have f1 := tc_lookup
  have f2 := tc_bind (.ref 72)
  have hT : (⟨h, g, d, t, os⟩ : Shared).TypeIs (.ref 72) "type" := ⟨_, hC, rfl⟩
  refine wpAny_call (codeAny_of_tree ?_)
  show wpAny _ _ (callAny (.ref 72) _) _ _ _
  repeat (any_goals (first | assumption | with_reducible refine wpAny_loadPart_at hC ?_ | wp_step))
  refine ⟨rfl, ?_⟩
  refine codeAny_call_builtin_at (Code.quiet_builtin _ (by decide +kernel)) entry_typeCall (wpAny_check_type_call_sub hC (exc_type_call X hq hrest))
end

end
section
noncomputable abbrev emD : Obj := { cls := .type "dict", data := .dict #[] }
section
open PySem Sem
variable {w : World} {A : Around} {E : Value → Shared → Prop} {s : Shared} {g : Heap} {L e t d : Addr} {m : Str → Option Value} {post : List (Addr × Obj)} {R : Result → Shared → Prop}
theorem news_out {news : List (Addr × Obj)} {h : Heap} {o : Obj} {h' : Heap} (F : Fr g L h m) (N : News g L h news) (k : ∀ b o, h.get? b = some o → h'.get? b = some o) {a : Addr} (ha : h'.get? a = some o) (hn : h.get? a = none) : News g L h' ((a, o) :: news) := fun q hq => by
  rcases List.mem_cons.mp hq with rfl | hq
  · refine ⟨ha, fun z => ?_, ?_⟩
    · obtain ⟨oL, es, ep, hL, r⟩ := F.ns
      rw [show a = L from z, hL] at hn; cases hn
    · cases q : g.get? a with
      | none => rfl
      | some o' => have := F.keep _ _ q; rw [hn] at this; cases this
  · exact ⟨k _ _ (N q hq).1, (N q hq).2⟩
/-- Exception.__init__(self, what) -/
theorem excinit_call {rest : List Value} {Q : Value → Shared → Prop} (F : Fr g L s.heap m) (X : (K w.params).In g) (N : News g L s.heap ((e, exO t none) :: post)) (hp : ∀ q ∈ post, q.1 ≠ e) (hz : rest.length ≤ sizeLine)
    (h : ∀ t' h', Fr g L h' m → News g L h' ((e, exO t' none) :: (t', tupO rest) :: post) → t' ≠ e → (∀ q ∈ post, q.1 ≠ t') → Q .none { s with heap := h' }) :
    wpAny (model rw.prog w) A (call (.builtin "Exception.__init__") (.ref e :: rest)) Q E s := by
  obtain ⟨hh, gg, dr, tk, os⟩ := s
  have he := (N _ (.head _)).1
  obtain ⟨nm, q, bs, sub, col, dd, k0, k1, k2, k3, k5, hC⟩ := cls72 (X.keeps F.keep)
  have FB := PySem.F.excBase_Exception
  have hchk : ∀ (A' : Around) (E' : Value → Shared → Prop) (Q' : Unit → Shared → Prop), Q' () ⟨hh, gg, dr, tk, os⟩ → wpAny (model rw.prog w) A' (checkBuiltinCall "Exception.__init__" ⟨.ref e :: rest, []⟩) Q' E' ⟨hh, gg, dr, tk, os⟩ := by
    intro A' E' Q' hq
    have hcB : (Value.ref 72 :: bm72).contains (.type "Exception") = true := by decide +kernel
    have hshort := FB.noStar
    simp only [checkBuiltinCall, FB.initKind, FB.initSplit, FB.initRow]
    repeat (first | (with_reducible refine wpAny_loadPart_at he ?_) | with_reducible refine wpAny_loadPart_at hC ?_ | (with_reducible refine wpAny_isSubtype_exc hC ?_; rw [hcB]) | wp_step)
    refine wpAny_onRaise ?_
    rw [show ∀ (a b : String) (n : Nat), Bind.check ⟨.positional, "*", "Exception", .self, [⟨"args", .varPos, false⟩]⟩ a b n (List.map (fun x => x.fst) ({ pos := Value.ref e :: rest } : Args).kw) = pure () from
      fun a b n => check_star_args _ _ _ _ _ _]
    exact wpAny_pure hq
  refine wpAny_call (codeAny_call_builtin FB.init.plain FB.initEntry (hchk _ _ _ ?_))
  wp_walk
  have N1 : News g L (hh.push (tupO rest)) ((e, exO t none) :: (hh.objs.size, tupO rest) :: post) := fun r hr => by
    have P := N.push F (tupO rest)
    rcases List.mem_cons.mp hr with rfl | hr
    · exact P _ (.tail _ (.head _))
    · rcases List.mem_cons.mp hr with rfl | hr
      · exact P _ (.head _)
      · exact P _ (.tail _ (.tail _ hr))
  have hes : hh.objs.size ≠ e := Nat.ne_of_gt (Heap.lt_size he)
  have U := news_upd (pre := []) (f := Obj.mapFields fun x => x.setIfInBounds 0 (Value.ref hh.objs.size)) (o' := exO hh.objs.size none) (F.push (tupO rest)) N1 (fun _ z => nomatch z) (fun r hr => by
    rcases List.mem_cons.mp hr with rfl | hr
    · exact hes
    · exact hp r hr) rfl rfl
  exact h _ _ U.1 U.2 hes fun r hr => Nat.ne_of_lt (Heap.lt_size (N r (.tail _ hr)).1)
theorem exc_osa {x : Addr} {ox : Obj} {od : Option Obj} {name : Str} {tk : Tok} {v : Value} (X : (K w.params).In s.heap) (I : InstAt s.heap x ox 72 od) (ht : findIn (K w.params) (.ref 72) name = some none)
    (h : wpAny (model rw.prog w) A.in1 (Builtin.ObjectAttr.storeInOwnDict (.ref x) (.ref 72) (.str name tk) name v false)
      (fun fin s' => match fin with | .done f => R (.ok f) s' | .again c' => c'.quiet = true ∧ codeAny (model rw.prog w) A c' R s') (fun e s' => R (.error e) s') s) :
    codeAny (model rw.prog w) A (.call (.builtin "object.__setattr__") ⟨[.ref x, .str name tk, v], []⟩) R s := by
  have SF := PySem.F.store_object
  have hm : Looks (model rw.prog w) s.heap (mroOf (.ref 72)) (.ref 72 :: bm72) := (looks_clsIn X (C := 72) (by k_is)).andThen .now
  have sub : Looks (model rw.prog w) s.heap (isInstance (.ref x) (.type "object")) true := I.type.andThen (looks_mroIn X (by k_is))
  refine codeAny_call_builtin SF.slot.plain SF.entry (@check_slot (model rw.prog w) _ _ s "object.__setattr__" "object" "__setattr__" (.ref x) [.str name tk, v] [] _ SF.kind SF.split sub (SF.args (.ref x) (.str name tk) v) ?_)
  have L3 : Looks (model rw.prog w) s.heap (Builtin.ObjectAttr.storeTaker? none) none := .now
  rw [osa_eq, refuse_eq]
  refine wpAny_bind (wpAny_bind (I.type.here (wpAny_bind (hm.here ?_))))
  rw [refuseLoop_ref, refuseLoop_ref, PySem.F.store_Exception.passes]
  exact wpAny_pure (wpAny_bind (I.type.here (wpAny_bind ((looks_findIn X ht).here (wpAny_bind (L3.here h))))))
theorem exc_put {dx : Addr} {od od' : Obj} {name : Str} {tk : Tok} {v : Value} {pre post : List (Addr × Obj)} {es : List DictEntry} {n : Nat} {Q : Fin → Shared → Prop} (F : Fr g L s.heap m) (N : News g L s.heap (pre ++ (dx, od) :: post))
    (hl : (lookIn name od).isSome = true) (h1 : ∀ p ∈ pre, p.1 ≠ dx) (h2 : ∀ p ∈ post, p.1 ≠ dx)
    (e : Obj.putName name (PyData.keyHash w.params name) (.str name s.toks) v od = od') (e' : od'.data = .dict es.toArray n) (hz : es.length ≤ 1000)
    (h : ∀ h', Fr g L h' m → News g L h' (pre ++ (dx, od') :: post) → Q (.done (.ret .none)) { s with heap := h', toks := s.toks + 1 }) :
    wpAny (model rw.prog w) A (Builtin.ObjectAttr.storeInDict dx (.str name tk) name v) Q E s := by
  obtain ⟨U1, U2⟩ := news_upd (f := Obj.putName name (PyData.keyHash w.params name) (.str name s.toks) v) F N h1 h2 e (by obtain ⟨_, _, dd, _⟩ := od'; cases e'; rfl)
  have D := (N (dx, od) (by simp)).1
  have D' := (U2 (dx, od') (by simp)).1
  refine wpAny_bind (wpAny_pure (wpAny_bind ?_))
  unfold nsSet
  refine wpAny_bind (wpAny_bind (wpAny_askSetting (wpAny_pure (wpAny_bind (wpAny_mkText (wpAny_bind (wpAny_loadPart D ?_)))))))
  unfold lookIn at hl
  split at hl
  · rename_i es₀ n₀ q
    rw [q]
    dsimp only
    have c : (!es₀.any (·.key.isStr name) && es₀.any (·.refKey)) = false := by
      rw [← Array.any_toList, ← Array.any_toList]
      split at hl
      · rename_i en he
        rw [List.any_eq_true.mpr ⟨en, List.mem_of_find?_eq_some he, List.find?_some he⟩]; rfl
      · split at hl
        · cases hl
        · rename_i z; rw [Bool.not_eq_true] at z; rw [z, Bool.and_false]
    rw [aRefKeyMayBeTheName_at, c]
    refine wpAny_updatePart D ?_
    refine wpAny_bind (wpAny_lookBehind D' (by rw [e']; exact pastItsLine_dict (by rw [List.size_toArray, sizeLine_eq]; omega)) ?_)
    exact wpAny_pure (h _ U1 U2)
  · cases hl
/-- the first store: the dict is made -/
theorem exc_set1 {name : Str} {v : Value} {Q : Unit → Shared → Prop} (F : Fr g L s.heap m) (X : (K w.params).In g) (N : News g L s.heap ((e, exO t none) :: post)) (hp : ∀ q ∈ post, q.1 ≠ e)
    (hn : findIn (K w.params) (.ref 72) name = some none)
    (h : ∀ d h' tk tk', Fr g L h' m → News g L h' ((e, exO t (some d)) :: (d, dictOf [⟨PyData.keyHash w.params name, .str name tk, v⟩] 1) :: post) → d ≠ e → (∀ q ∈ post, q.1 ≠ d) → Q () { s with heap := h', toks := tk' }) :
    wpAny (model rw.prog w) A (setAttr (.ref e) name v) Q E s := by
  obtain ⟨hh, gg, dr, tk0, os⟩ := s
  have he : hh.get? e = some (exO t none) := (N _ (.head _)).1
  have XX : (K w.params).In hh := X.keeps F.keep
  have I : InstAt hh e (exO t none) 72 none := ⟨he, rfl, rfl, trivial⟩
  refine set_plain XX I (by k_is) ?_
  refine exc_osa (s := ⟨hh, gg, dr, tk0 + 1, os⟩) XX I hn ?_
  refine wpAny_bind (wpAny_pure (wpAny_bind (wpAny_bind (wpAny_loadPart he (wpAny_bind ((looks_clsIn XX (C := 72) (by k_is)).here ?_))))))
  dsimp only
  rw [if_neg (by decide), if_neg (by decide)]
  refine wpAny_bind (wpAny_alloc (wpAny_bind ?_))
  have N1 : News g L (hh.push emD) ((e, exO t none) :: (hh.objs.size, emD) :: post) := fun r hr => by
    have P := N.push F emD
    rcases List.mem_cons.mp hr with rfl | hr
    · exact P _ (.tail _ (.head _))
    · rcases List.mem_cons.mp hr with rfl | hr
      · exact P _ (.head _)
      · exact P _ (.tail _ (.tail _ hr))
  have hes : hh.objs.size ≠ e := Nat.ne_of_gt (Heap.lt_size he)
  have U := news_upd (pre := []) (f := fun o => { o with dict := some hh.objs.size }) (o' := exO t (some hh.objs.size)) (F.push emD) N1 (fun _ z => nomatch z) (fun r hr => by
    rcases List.mem_cons.mp hr with rfl | hr
    · exact hes
    · exact hp r hr) rfl rfl
  have hpd : ∀ q ∈ post, q.1 ≠ hh.objs.size := fun r hr => Nat.ne_of_lt (Heap.lt_size (N r (.tail _ hr)).1)
  refine wpAny_update (N1 _ (.head _)).1 (wpAny_pure ?_)
  exact exc_put (pre := [(e, exO t (some hh.objs.size))]) (es := [⟨PyData.keyHash w.params name, .str name (tk0 + 1), v⟩]) (n := 1) U.1 U.2 rfl (fun r hr => by rw [List.mem_singleton.mp hr]; exact Ne.symm hes) hpd rfl rfl (Nat.le_of_ble_eq_true rfl) fun h' F' N' => h _ _ _ _ F' N' hes hpd
/-- a store behind it -/
theorem exc_set2 {d : Addr} {es es' : List DictEntry} {n n' : Nat} {name : Str} {v : Value} {Q : Unit → Shared → Prop} (F : Fr g L s.heap m) (X : (K w.params).In g) (N : News g L s.heap ((e, exO t (some d)) :: (d, dictOf es n) :: post)) (hde : d ≠ e) (hp : ∀ q ∈ post, q.1 ≠ d)
    (hn : findIn (K w.params) (.ref 72) name = some none) (hl : (lookIn name (dictOf es n)).isSome = true) (hz : es'.length ≤ 999)
    (eo : ∀ tk, Obj.putName name (PyData.keyHash w.params name) (.str name tk) v (dictOf es n) = dictOf (es' ++ [⟨PyData.keyHash w.params name, .str name tk, v⟩]) n')
    (h : ∀ h' tk tk', Fr g L h' m → News g L h' ((e, exO t (some d)) :: (d, dictOf (es' ++ [⟨PyData.keyHash w.params name, .str name tk, v⟩]) n') :: post) → Q () { s with heap := h', toks := tk' }) :
    wpAny (model rw.prog w) A (setAttr (.ref e) name v) Q E s := by
  obtain ⟨hh, gg, dr, tk0, os⟩ := s
  have he : hh.get? e = some (exO t (some d)) := (N _ (.head _)).1
  have hd : hh.get? d = some (dictOf es n) := (N _ (.tail _ (.head _))).1
  have XX : (K w.params).In hh := X.keeps F.keep
  have I : InstAt hh e (exO t (some d)) 72 (some (dictOf es n)) := ⟨he, rfl, rfl, hd⟩
  refine set_plain XX I (by k_is) ?_
  refine exc_osa (s := ⟨hh, gg, dr, tk0 + 1, os⟩) XX I hn ?_
  refine wpAny_bind (wpAny_pure (wpAny_bind (wpAny_bind (wpAny_loadPart he (wpAny_bind ((looks_clsIn XX (C := 72) (by k_is)).here ?_))))))
  dsimp only
  rw [if_neg (by decide)]
  refine wpAny_pure ?_
  exact exc_put (pre := [(e, exO t (some d))]) (es := es' ++ [⟨PyData.keyHash w.params name, .str name (tk0 + 1), v⟩]) (n := n') F N hl (fun r hr => by rw [List.mem_singleton.mp hr]; exact Ne.symm hde) hp (eo _) rfl (by rw [List.length_append]; simp; omega) fun h' F' N' => h _ _ _ F' N'
end

end
section
theorem pn_nil {a : Addr} : ∀ r ∈ ([] : List (Addr × Obj)), r.1 ≠ a := fun _ z => nomatch z
theorem pn_cons {a : Addr} {q : Addr × Obj} {l : List (Addr × Obj)} (h : q.1 ≠ a) (k : ∀ r ∈ l, r.1 ≠ a) : ∀ r ∈ q :: l, r.1 ≠ a := fun r hr => by
  rcases List.mem_cons.mp hr with rfl | hr
  · exact h
  · exact k r hr
theorem meta_exc : typeOf (.type "Exception") = pure (.type "type") := by kernel_rfl
theorem row51 : True := by
  k_with "pne" => ((fail_if_success k_extra "off36"); first | exact pn_nil | (refine pn_cons (by (try dsimp only); first | with_reducible assumption | exact Ne.symm (by with_reducible assumption)) ?_; walk_at "pne"))
  k_with "getMethod type:Exception" => ((fail_if_success k_extra "off36"); k_dflt (refine' method_type ?F ?X ?m (by decide +kernel) ?e ?h ?_; (case F => k_asm); (case X => k_asm); (case m => exact meta_exc); (case e => k_dflt k_is); (case h => k_handed)))
  k_with "call builtin:Exception.__init__" => ((fail_if_success k_extra "off36"); k_dflt (refine' excinit_call ?F ?X ?N ?hp ?hz ?_; (case F => k_asm); (case X => k_asm); (case N => k_asm); (case hp => walk_at "pne"); (case hz => exact Nat.le_of_ble_eq_true rfl); intro t9 h9 F9 N9 ne9 np9; have ne8 := np9 _ (.head _); clear np9))
  k_with "setAttr ref" => ((fail_if_success k_extra "off36"); k_dflt (refine' exc_set1 ?F ?X ?N ?hp ?hn ?_; (case F => k_asm); (case X => k_asm); (case N => k_asm); (case hp => walk_at "pne"); (case hn => k_is); intro d9 h9 tka9 tkb9 F9 N9 ne9 np9; have ne8 := np9 _ (.head _); have ne7 := np9 _ (.tail _ (.head _)); clear np9))
  k_with "setAttr ref" => ((fail_if_success k_extra "off36"); k_dflt (refine' exc_set2 (es' := [_]) (n' := 2) ?F ?X ?N ?hde ?hp ?hn ?hl ?hz ?eo ?_; (case F => k_asm); (case X => k_asm); (case N => k_asm); (case hde => with_reducible assumption); (case hp => walk_at "pne"); (case hn => k_is); (case hl => exact rfl); (case hz => exact Nat.le_of_ble_eq_true rfl); (case eo => intro _; exact rfl); intro h9 tka9 tkb9 F9 N9))
  trivial
/-- a made fault: its object, its dict -/
noncomputable abbrev faD (w : World) (what : Str) (tw : Tok) (ta : Addr) (a b : Tok) : Obj :=
  dictOf [⟨PyData.keyHash w.params (Str.ofString "what"), .str (Str.ofString "what") a, .str what tw⟩, ⟨PyData.keyHash w.params (Str.ofString "at"), .str (Str.ofString "at") b, .ref ta⟩] 2
theorem init_c (w : World) (e t ta : Addr) (what : Str) (tw : Tok) (s : Shared) (hte : t ≠ e) :
    Meets w 37 3 [(e, exO t none), (t, tupO [.str what tw, .ref ta])] s [.ref e, .str what tw, .ref ta] fun Q _ => ∀ h' tk' t2 d a b, (∀ x o, s.heap.get? x = some o → x ≠ e → h'.get? x = some o) →
      h'.get? e = some (exO t2 (some d)) → h'.get? d = some (faD w what tw ta a b) → s.heap.get? d = none → h'.get? t2 = some (tupO [.str what tw]) → s.heap.get? t2 = none → Q .none { s with heap := h', toks := tk' } := by
  intro A A₀ env outer base h₀ L m pr loose mean mg mb Q E hH hA hf hk B F X N T hd hu hR
  w_on
  w_top on
  have he0 := (N _ (.head _)).1
  have ht0 := (N _ (.tail _ (.head _))).1
  refine' enter [(Str.ofString "self", .ref e), (Str.ofString "what", .str what tw), (Str.ofString "at", .ref ta)] ?k1 ?k2 ?k3 ?k4 ?k5 ?kA ?kF ?kK ?k6 ?k7 ?k8 ?k9 ?kB ?_ ?c2 ?c3 ?c4 ?c5
  walk_at "my_enter"
  intro g L' h' tk₁ hg F' N' B' X' T' l1
  clear B X T N F
  k_steps
  all_goals (
    rename News g _ _ _ => NN; rename Fr g _ _ _ => FF
    have fresh : ∀ q, g.get? q = none → q ≠ e → q ≠ t → s.heap.get? q = none := fun q hq n1 n2 => by
      cases z : s.heap.get? q with
      | none => rfl
      | some o => have := hg q o z (by simp [n1, n2]); rw [hq] at this; cases this
    have keep : ∀ x o, s.heap.get? x = some o → x ≠ e → (_ : Heap).get? x = some o := fun x o hx n1 => by
      by_cases n2 : x = t
      · subst n2; rw [ht0] at hx; cases hx; exact (NN _ (.tail _ (.tail _ (.tail _ (.head _))))).1
      · exact FF.keep _ _ (hg x o hx (by simp [n1, n2]))
    exact hR _ _ _ _ _ _ keep (NN _ (.head _)).1 (NN _ (.tail _ (.head _))).1 (fresh _ (NN _ (.tail _ (.head _))).2.2 (by with_reducible assumption) (Ne.symm (by with_reducible assumption))) (NN _ (.tail _ (.tail _ (.head _)))).1 (fresh _ (NN _ (.tail _ (.tail _ (.head _)))).2.2 (by with_reducible assumption) (Ne.symm (by with_reducible assumption))))

end
theorem off36 : True := by
  k_with "off36" => skip
  trivial
section
section
open PySem Sem
theorem dict_mapFields (f : Array Value → Array Value) (o : Obj) : (Obj.mapFields f o).dict = o.dict := by
  unfold Obj.mapFields
  split <;> rfl
/-- a fault under way, its dict kept: e's trace ends in an entry whose flight is fl -/
inductive HoldD (base : Heap) (l : List Env) (e d : Addr) (fl : Value) (h : Heap) : Prop
  | mk (hkb : base.StaysIn h) (hen : base.get? e = none) (hl : h.FunFrames base l) (oe : Obj) (vs : Array Value) (T : Addr) (oT : Obj) (ts : Array Value) : h.get? e = some oe → (oe.cls = .ref 72 ∧ oe.dict = some d) → oe.data = .fields vs → vs[1]? = some (.ref T) → base.get? T = none → T ≠ e → h.get? T = some oT → oT.data = .fields ts → ts[3]? = some fl → HoldD base l e d fl h
variable {M : Model} {A : Around} {E : Value → Shared → Prop} {s : Shared} {base : Heap} {env : Env} {outer : List Env} {L e d : Addr} {Q : Unit → Shared → Prop}
theorem hold_entry {oe : Obj} {vs : Array Value} {head : Value} {hadNext : Bool} (hfr : A.frames = some (env :: outer)) (hl : s.heap.FunFrames base (env :: outer)) (hf : env.frame = some L)
    (he : s.heap.get? e = some oe) (hkb : base.StaysIn s.heap) (hen : base.get? e = none) (hd : oe.data = .fields vs) (hsz : 1 < vs.size) (hc : oe.cls = .ref 72 ∧ oe.dict = some d)
    (h : ∀ h', HoldD base (env :: outer) e d (rawInt L) h' → s.heap.UpToSlots h' → Q () { s with heap := h' }) :
    wpAny M A (do let a ← frameOf env; let pl ← entryPlaceOf L hadNext; let b ← EntryCells.newEntry head a .none (rawInt L) .none pl; setField (.ref e) 1 b) Q E s := by
  have hene : e ∉ (env :: outer).filterMap (·.frame) := fun hm => by
    obtain ⟨_, o, ho, hnf⟩ := hl.mem hm
    rw [he] at ho; cases ho; exact hnf vs hd
  refine wpAny_bind (wpAny_frameOf_fun hfr hl hf fun h₁ hs₁ => ?_)
  refine wpAny_bind (wpAny_entryPlaceOf fun pl hpl => ?_)
  unfold EntryCells.newEntry newFields
  refine wpAny_bind (wpAny_newObj_type ?_ (hpl.sizeOk5 _ _ _ _ _))
  generalize hTo : ({ cls := .type "traceback", dict := none, data := .fields ([head, .ref L, .none, rawInt L, .none] ++ (if pl.isEmpty then List.replicate 6 Value.none else pl)).toArray } : Obj) = To
  have he₁ : h₁.get? e = some oe := (hs₁.2.1 e hene).trans he
  have kb₁ : base.StaysIn h₁ := fun b o hbo => (hs₁.2.1 b fun hm => by rw [(hl.mem hm).1] at hbo; cases hbo).trans (hkb b o hbo)
  have he₂ := Heap.get?_push_of_some (h := h₁) To he₁
  have hTe : h₁.objs.size ≠ e := Nat.ne_of_gt (Heap.lt_size he₁)
  refine wpAny_setField he₂ hd hsz (h _ ?_ ?_)
  all_goals
    have keep : ∀ b o, b ≠ e → h₁.get? b = some o → ((h₁.push To).update e (Obj.mapFields (·.setIfInBounds 1 (Value.ref h₁.objs.size)))).get? b = some o := fun b o hbe hb => by
      rw [Heap.get?_update_other _ _ (Ne.symm hbe)]
      exact Heap.get?_push_of_some _ hb
    have noRec : ∀ b o, s.heap.get? b = some o → (∀ vs, o.data ≠ .fields vs) → b ≠ e := fun b o hb hnf q => by
      rw [q, he] at hb; cases hb; exact hnf vs hd
  · have hd₃ := Obj.data_mapFields hd (·.setIfInBounds 1 (Value.ref h₁.objs.size))
    have he₃ := Heap.get?_update_self (Obj.mapFields (·.setIfInBounds 1 (Value.ref h₁.objs.size))) he₂ (Obj.isFreed_of_fields hd₃)
    refine ⟨fun b o hbo => keep b o (fun q => by rw [q, hen] at hbo; cases hbo) (kb₁ b o hbo), hen, hl.of_keeps fun b o hb hnf => ?_,
      _, _, h₁.objs.size, To, _, he₃, ⟨(Obj.cls_mapFields _ _).trans hc.1, (dict_mapFields _ _).trans hc.2⟩, hd₃, by simp [hsz], kb₁.fresh, hTe, ?_, by rw [← hTo], ?_⟩
    · obtain ⟨sl, hs⟩ := hs₁.2.2 b o hb
      exact ⟨_, keep b _ (noRec b o hb hnf) hs, rfl⟩
    · rw [Heap.get?_update_other _ _ (Ne.symm hTe)]
      exact Heap.get?_push_size h₁ (by rw [← hTo]; rfl)
    · first | (simp; done) | (rcases hpl with rfl | ⟨_, _, _, _, _, _, _, rfl⟩ <;> simp)
  · intro b o hb hnf
    obtain ⟨sl, hs⟩ := hs₁.2.2 b o hb
    exact ⟨sl, keep b _ (noRec b o hb hnf) hs⟩
/-- the first frame that notes it -/
theorem hold_first {t : Addr} (hfr : A.frames = some (env :: outer)) (hl : s.heap.FunFrames base (env :: outer)) (hf : env.frame = some L)
    (he : s.heap.get? e = some (exO t (some d))) (hkb : base.StaysIn s.heap) (hen : base.get? e = none)
    (h : ∀ h', HoldD base (env :: outer) e d (rawInt L) h' → s.heap.UpToSlots h' → Q () { s with heap := h' }) : wpAny M A (noteFrame (.ref e) env) Q E s := by
  unfold noteFrame
  simp only [hf]
  refine wpAny_bind (wpAny_field he rfl (x := .none) rfl ?_)
  rw [if_neg (by decide)]
  exact hold_entry hfr hl hf he hkb hen rfl (Nat.le_of_ble_eq_true rfl) ⟨rfl, rfl⟩ h
/-- a frame notes what comes out of a call -/
theorem hold_note (hfr : A.frames = some (env :: outer)) (hf : env.frame = some L) (H : HoldD base (env :: outer) e d .none s.heap)
    (h : ∀ h', HoldD base (env :: outer) e d (rawInt L) h' → s.heap.UpToSlots h' → Q () { s with heap := h' }) : wpAny M A (noteFrame (.ref e) env) Q E s := by
  obtain ⟨hkb, hen, hl, oe, vs, T, oT, ts, he, hc, hd, h1, hnT, hTe, hT, hdT, h3⟩ := H
  unfold noteFrame
  simp only [hf]
  refine wpAny_bind (wpAny_field he hd h1 ?_)
  rw [if_pos (show (Value.ref T != Value.none) = true from by simp)]
  refine wpAny_bind (wpAny_field hT hdT h3 ?_)
  rw [if_neg (show ¬ ((Value.none == rawInt L) = true) from by simp [rawInt])]
  refine wpAny_bind (wpAny_setField hT hdT (Array.getElem?_eq_some_iff.mp h3).1 ?_)
  have other : ∀ b, b ≠ T → (s.heap.update T (Obj.mapFields (·.setIfInBounds 3 Value.none))).get? b = s.heap.get? b := fun b hb => Heap.get?_update_other _ _ (Ne.symm hb)
  have noRec : ∀ b o, s.heap.get? b = some o → (∀ vs, o.data ≠ .fields vs) → b ≠ T := fun b o hb hnf q => by
    rw [q, hT] at hb; cases hb; exact hnf ts hdT
  refine hold_entry hfr (hl.of_keeps fun b o hb hnf => ⟨o, (other b (noRec b o hb hnf)).trans hb, rfl⟩) hf ((other e (Ne.symm hTe)).trans he)
    (fun b o hbo => (other b fun q => by rw [q, hnT] at hbo; cases hbo).trans (hkb b o hbo)) hen hd (Array.getElem?_eq_some_iff.mp h1).1 hc
    fun h' H' U => h h' H' fun b o hb hnf => U b o ((other b (noRec b o hb hnf)).trans hb) hnf
theorem hold_again {l : List Env} (hf : env.frame = some L) (H : HoldD base l e d (rawInt L) s.heap) (h : Q () s) : wpAny M A (noteFrame (.ref e) env) Q E s := by
  obtain ⟨hkb, hen, hl, oe, vs, T, oT, ts, he, hc, hd, h1, hnT, hTe, hT, hdT, h3⟩ := H
  unfold noteFrame
  simp only [hf]
  refine wpAny_bind (wpAny_field he hd h1 ?_)
  rw [if_pos (show (Value.ref T != Value.none) = true from by simp)]
  refine wpAny_bind (wpAny_field hT hdT h3 ?_)
  rw [if_pos (show (rawInt L == rawInt L) = true from by simp)]
  exact wpAny_pure h
theorem hold_flight {l : List Env} {fl : Value} {fr : Option Addr} (H : HoldD base l e d fl s.heap)
    (h : ∀ h', HoldD base l e d (fr.elim .none fun f => rawInt f) h' → s.heap.UpToSlots h' → Q () { s with heap := h' }) : wpAny M A (setFlight (.ref e) fr) Q E s := by
  obtain ⟨hkb, hen, hl, oe, vs, T, oT, ts, he, hc, hd, h1, hnT, hTe, hT, hdT, h3⟩ := H
  have hsz3 : 3 < ts.size := (Array.getElem?_eq_some_iff.mp h3).1
  have other : ∀ b, b ≠ T → (s.heap.update T (Obj.mapFields (·.setIfInBounds 3 (fr.elim Value.none fun f => rawInt f)))).get? b = s.heap.get? b :=
    fun b hb => Heap.get?_update_other _ _ (Ne.symm hb)
  have noRec : ∀ b o, s.heap.get? b = some o → (∀ vs, o.data ≠ .fields vs) → b ≠ T := fun b o hb hnf q => by
    rw [q, hT] at hb; cases hb; exact hnf ts hdT
  unfold setFlight
  refine wpAny_bind (wpAny_field he hd h1 ?_)
  rw [if_pos (show (Value.ref T != Value.none) = true from by simp)]
  refine wpAny_setField hT hdT hsz3 (h _ ⟨fun b o hbo => (other b fun q => by rw [q, hnT] at hbo; cases hbo).trans (hkb b o hbo), hen,
    hl.of_keeps fun b o hb hnf => ⟨o, (other b (noRec b o hb hnf)).trans hb, rfl⟩, oe, vs, T, _, _, (other e (Ne.symm hTe)).trans he, hc, hd, h1, hnT, hTe,
    Heap.get?_update_self _ hT (Obj.isFreed_of_fields (Obj.data_mapFields hdT _)), Obj.data_mapFields hdT _, by simp [hsz3]⟩ fun b o hb hnf => ⟨o.slots, (other b (noRec b o hb hnf)).trans hb⟩)
theorem HoldD.drop {fl : Value} {h : Heap} (H : HoldD base (env :: outer) e d fl h) : HoldD base outer e d fl h := by
  obtain ⟨a, b, ⟨_, _, c⟩, oe, vs, T, oT, ts, r1, r2, r3, r4, r5, r6, r7, r8, r9⟩ := H
  exact ⟨a, b, c, oe, vs, T, oT, ts, r1, r2, r3, r4, r5, r6, r7, r8, r9⟩
/-- it leaves a frame -/
theorem hold_leave {fl : Value} (hfr : A.frames = some (env :: outer)) (hf : env.frame = some L) (hfl : fl = .none ∨ fl = rawInt L) (H : HoldD base (env :: outer) e d fl s.heap)
    (h : ∀ h', HoldD base outer e d .none h' → s.heap.UpToSlots h' → Q () { s with heap := h' }) : wpAny M A (leaving env (.ref e)) Q E s := by
  unfold leaving
  rcases hfl with rfl | rfl
  · exact wpAny_bind (hold_note hfr hf H fun h₁ H₁ U₁ => hold_flight (s := { s with heap := h₁ }) H₁ fun h₂ H₂ U₂ => h h₂ H₂.drop (U₁.trans U₂))
  · exact wpAny_bind (hold_again hf H (hold_flight H fun h₂ H₂ U₂ => h h₂ H₂.drop U₂))
/-- it goes through a loop's or a block's own code -/
theorem hold_through {fl : Value} {E' : Value → Shared → Prop} (hfr : A.frames = some (env :: outer)) (hf : env.frame = some L) (hfl : fl = .none ∨ fl = rawInt L) (H : HoldD base (env :: outer) e d fl s.heap)
    (h : ∀ h', HoldD base (env :: outer) e d (rawInt L) h' → s.heap.UpToSlots h' → E' (.ref e) { s with heap := h' }) : notedBy M A env (cameBackBy M A env E') (.ref e) s := by
  have back : ∀ h₁, HoldD base (env :: outer) e d (rawInt L) h₁ → s.heap.UpToSlots h₁ → cameBackBy M A env E' (.ref e) { s with heap := h₁ } := fun h₁ H₁ U₁ => by
    unfold cameBackBy
    have H₁' := H₁
    obtain ⟨hkb, hen, hl, oe, vs, T, oT, ts, he, hc, hd, h1, _, _, _, _, _⟩ := H₁
    refine wpAny_bind (wpAny_field (s := { s with heap := h₁ }) he hd h1 ?_)
    rw [if_neg (show ¬ ((Value.ref T == Value.none) = true) from by simp), hf]
    exact hold_flight (s := { s with heap := h₁ }) H₁' fun h₂ H₂ U₂ => h h₂ H₂ (U₁.trans U₂)
  unfold notedBy
  rcases hfl with rfl | rfl
  · exact hold_note hfr hf H back
  · exact hold_again hf H (back s.heap H (Heap.UpToSlots.refl _))
end

end
section
theorem news_of {g h h' : Heap} {L : Addr} {m : Str → Option Value} {news l : List (Addr × Obj)} (F : Fr g L h m) (N : News g L h news) (k : ∀ b o, h.get? b = some o → h'.get? b = some o) (nw : New h h' l) : News g L h' (l ++ news) := fun q hq => by
  rcases List.mem_append.mp hq with hq | hq
  · obtain ⟨ha, hn⟩ := nw q hq
    refine ⟨ha, fun z => ?_, ?_⟩
    · obtain ⟨oL, es, ep, hL, r⟩ := F.ns
      rw [z, hL] at hn; cases hn
    · cases z : g.get? q.1 with
      | none => rfl
      | some o' => have := F.keep _ _ z; rw [hn] at this; cases this
  · exact ⟨k _ _ (N q hq).1, (N q hq).2⟩
noncomputable abbrev faL (w : World) (what : Str) (tw : Tok) (ta e d t2 : Addr) (a b : Tok) : List (Addr × Obj) := [(e, exO t2 (some d)), (d, faD w what tw ta a b), (t2, tupO [.str what tw])]
theorem exc_use {w : World} {R : RD} {vs : List Value} {ts : List (Str × Str)} {h₀ : Heap} {L : Addr} {m : Str → Option Value} {news : List (Addr × Obj)} {s : Shared} {M : Nat} {A : Around} {Q E : Value → Shared → Prop} {what : Str} {tw : Tok} {ta : Addr} (C : Cx w R vs ts A L h₀ M) (F : Fr h₀ L s.heap m) (N : News h₀ L s.heap news) (hn : 5 ≤ M)
    (h : ∀ e d t2 a b h' tk', Fr h₀ L h' m → News h₀ L h' (faL w what tw ta e d t2 a b ++ news) → AllNe e news → AllNe d news → AllNe t2 news → Q (.ref e) { s with heap := h', toks := tk' }) :
    wpAny (model rw.prog w) A (call (.ref 72) [.str what tw, .ref ta]) Q E s := by
  obtain ⟨⟨A₀, env, outer, base, pr, loose, mean, mg, mb, hH, hA, hf, hk, B, T⟩, X, hT, hd, hu⟩ := C
  obtain ⟨hh, gg, dr, tk, os⟩ := s
  have XX : (K w.params).In hh := X.keeps F.keep
  have up : ∀ b o, hh.get? b = some o → ((hh.push (tupO [.str what tw, .ref ta])).push (exO hh.objs.size none)).get? b = some o := fun b o e => Heap.get?_push_of_some _ (Heap.get?_push_of_some _ e)
  refine exc_call XX ?_ (Nat.le_of_ble_eq_true rfl)
  have N2 : News h₀ L ((hh.push (tupO [.str what tw, .ref ta])).push (exO hh.objs.size none)) [(hh.objs.size + 1, exO hh.objs.size none), (hh.objs.size, tupO [.str what tw, .ref ta])] := by
    have P := (News.nil.push F (tupO [.str what tw, .ref ta])).push (F.push _) (exO hh.objs.size none)
    rwa [Heap.size_push] at P
  have frs : (A.under (.builtin "type.__call__" ⟨.ref 72 :: [.str what tw, .ref ta], []⟩)).frames = some (env :: outer) := hA
  have un : (A.under (.builtin "type.__call__" ⟨.ref 72 :: [.str what tw, .ref ta], []⟩)).units ≤ A.units + 8 := Nat.add_le_add_left (Nat.le_of_ble_eq_true (by rfl)) _
  have dp : (A.under (.builtin "type.__call__" ⟨.ref 72 :: [.str what tw, .ref ta], []⟩)).depth = A.depth + 1 := rfl
  refine init_c w (hh.objs.size + 1) hh.objs.size ta what tw ⟨(hh.push (tupO [.str what tw, .ref ta])).push (exO hh.objs.size none), gg, dr, tk, os⟩ (Nat.ne_of_lt (Nat.lt_succ_self _)) _ _ _ _ _ _ _ _ _ _ _ _ _ _ _ hH frs hf hk B ((F.push _).push _) X N2 T (by rw [dp]; omega) (by omega) ?_
  intro h' tk' t2 d a b kp he hd' hdn ht2 ht2n
  refine ⟨rfl, ?_⟩
  have kp' : ∀ x o, hh.get? x = some o → h'.get? x = some o := fun x o hx => kp x o (up x o hx) (Nat.ne_of_lt (Nat.lt_succ_of_lt (Heap.lt_size hx)))
  have none_of : ∀ {q : Addr}, ((hh.push (tupO [.str what tw, .ref ta])).push (exO hh.objs.size none)).get? q = none → hh.get? q = none := fun {q} hq => by
    cases z : hh.get? q with
    | none => rfl
    | some o => rw [up q o z] at hq; cases hq
  have en : hh.get? (hh.objs.size + 1) = none := Heap.get?_none_of_le (Nat.le_succ _)
  have ne_of : ∀ {q : Addr}, hh.get? q = none → AllNe q news := fun {q} hq => allNe_of fun r hr e => by have := (N r hr).1; rw [e, hq] at this; cases this
  refine h _ d t2 a b h' tk' (F.keeps kp') (news_of F N kp' ?_) (ne_of en) (ne_of (none_of hdn)) (ne_of (none_of ht2n))
  exact new_cons ⟨he, en⟩ (new_cons ⟨hd', none_of hdn⟩ (new_cons ⟨ht2, none_of ht2n⟩ new_nil))
theorem truthy_g {w : World} {R : RD} {vs : List Value} {ts : List (Str × Str)} {prog : Program} {A : Around} {E : Value → Shared → Prop} {s : Shared} {g : Heap} {L : Addr} {m : Str → Option Value} {Q : Bool → Shared → Prop} (F : Fr g L s.heap m) (hT : Toks w g R vs ts) (hne : 0 < ts.length) (h : Q true { s with toks := s.toks + 1 + 1 }) :
    wpAny (model prog w) A (truthy (.ref R.tl)) Q E s := by
  have h2 := hT.2.1
  have h3 := hT.2.2.1
  refine wpAny_truthy_list (stays_list F.keep hT.1) (by simp only [List.size_toArray]; omega) ?_
  have e : (!vs.toArray.isEmpty) = true := by
    cases vs with
    | nil => simp at h2; omega
    | cons a r => simp
  rw [e]; exact h
theorem row52 : True := by
  k_with "truthy ref" => ((fail_if_success k_extra "off38"); k_dflt (refine truthy_g (by assumption) (Cx.T (by assumption)) (by omega) ?_))
  k_with "call builtin:len" => ((fail_if_success k_extra "off38"); k_dflt (refine len_g (by assumption) (Cx.T (by assumption)) ?_; intro _))
  trivial
theorem item_min {w : World} {R : RD} {vs : List Value} {ts : List (Str × Str)} {prog : Program} {A : Around} {E : Value → Shared → Prop} {s : Shared} {g : Heap} {L : Addr} {m : Str → Option Value} {value slice : Expr} {k : Int} {u : Tok} {p : Nat} {x0 : Addr} {Q : Value → Shared → Prop} (F : Fr g L s.heap m) (hT : Toks w g R vs ts) (hk : k = (p : Int)) (hp : p < ts.length) (e0 : pk vs p = .ref x0)
    (h : Q (.ref x0) s)
    (hs : subscripted slice false (.ref R.tl) (.int k u) = operate [.ref R.tl, .int k u] (getItem (.ref R.tl) (.int k u))) :
    wpAny (model prog w) A (subscriptTail value slice (.ref R.tl) (.int k u)) Q E s := item_g F hT p hk hp (by rw [e0]; exact h) hs
theorem row53 : True := by
  k_with "subscriptTail" => ((fail_if_success k_extra "off38"); k_dflt (refine' item_min ?F ?T ?hk ?hp ?e0 ?_ ?hs; (case F => assumption); (case T => exact Cx.T (by assumption)); (case hk => exact if_neg (by omega)); (case hp => assumption); (case e0 => assumption); (case hs => with_unfolding_all rfl); (try dsimp only)))
  trivial
theorem tok_at0 {w : World} {prog : Program} {A : Around} {E : Value → Shared → Prop} {s : Shared} {g : Heap} {L : Addr} {m : Str → Option Value} {x d ta : Addr} {kd u : Str} {a b c e f g' : Tok} {expr : Bool} {Q : Value → Shared → Prop} (F : Fr g L s.heap m) (X : (K w.params).In g) (h1 : g.get? x = some (tkX d)) (h2 : g.get? d = some (tkD w kd u ta a b c e f g'))
    (k1 : plainGet (K w.params) 546 (Str.ofString "at") = true) (k2 : hasDictIn (K w.params) 546 = true) {attr : Option Value} (k3 : findIn (K w.params) (.ref 546) (Str.ofString "at") = some attr) (k4 : noGet (K w.params) attr = true)
    (h : Q (.ref ta) { s with toks := s.toks + 1 }) : wpAny (model prog w) A (getAttr (.ref x) (Str.ofString "at") expr) Q E s :=
  get_own F X (tok_inst F h1 h2) k1 k2 k3 k4 rfl rfl h
theorem row54 : True := by
  k_with "getAttr ref" => ((fail_if_success k_extra "off38"); k_dflt ((with_reducible show wpAny _ _ (getAttr _ (Str.ofString "at") _) _ _ _); refine' tok_at0 ?F ?X ?h1 ?h2 ?k1 ?k2 ?k3 ?k4 ?_; (case F => k_asm); (case X => k_asm); (case h1 => with_reducible assumption); (case h2 => with_reducible assumption); (case k1 => k_is); (case k2 => k_is); (case k3 => k_is); (case k4 => k_is)))
  k_with "call ref" => ((fail_if_success k_extra "off38"); k_dflt ((with_reducible show wpAny _ _ (call (Value.ref 72) _) _ _ _); refine' exc_use ?C ?F ?N ?hn ?_; (case C => with_reducible assumption); (case F => k_asm); (case N => k_asm); (case hn => exact Nat.le_of_ble_eq_true rfl); intro e9 d9 u9 ea9 eb9 h9 tk9 F9 N9 n1 n2 n3; simp only [List.cons_append, List.nil_append] at N9; k_sweep; (try dsimp only); (try k_fold)))
  trivial
/-- token i's place is told by the tuple at ta -/
inductive TaOf (w : World) (h : Heap) (vs : List Value) (p : Nat) (ta : Addr) : Prop
  | mk (x d : Addr) (kd u : Str) (a b c e f g : Tok) (n : Nat) (y z : Tok) : pk vs p = .ref x → h.get? x = some (tkX d) → h.get? d = some (tkD w kd u ta a b c e f g) → h.get? ta = some ⟨.type "tuple", none, .seq #[.int ((p : Nat) + 1) y, .int 12 z] n, #[]⟩ → TaOf w h vs p ta
theorem TaOf.keep {w : World} {h h' : Heap} {vs : List Value} {p : Nat} {ta : Addr} (T : TaOf w h vs p ta) (k : KeepAll h h') : TaOf w h' vs p ta := by
  obtain ⟨x, d, kd, u, a, b, c, e, f, g, n, y, z, h0, h1, h2, h3⟩ := T
  exact ⟨x, d, kd, u, a, b, c, e, f, g, n, y, z, h0, k _ _ h1, k _ _ h2, k _ _ h3⟩
theorem TaOf.base {w : World} {R : RD} {h g : Heap} {vs : List Value} {p : Nat} {ta : Addr} {q : Int} {t : Tok} (T : TaOf w h vs p ta) (hx : h.get? R.x = some (rdX R.dx)) (hd : h.get? R.dx = some (rdD w R q t)) (k : ∀ b o, h.get? b = some o → b ∉ (rdL w R q t).map (·.1) → g.get? b = some o) : TaOf w g vs p ta := by
  obtain ⟨x, d, kd, u, a, b, c, e, f, g', n, y, z, h0, h1, h2, h3⟩ := T
  have k' : ∀ b o, h.get? b = some o → b ≠ R.x → b ≠ R.dx → g.get? b = some o := fun b o e n1 n2 => k b o e (by simp [n1, n2])
  refine ⟨x, d, kd, u, a, b, c, e, f, g', n, y, z, h0, k' _ _ h1 ?_ ?_, k' _ _ h2 ?_ ?_, k' _ _ h3 ?_ ?_⟩ <;> intro e <;> subst e <;> simp_all
theorem Toks.ta {w : World} {R : RD} {h : Heap} {vs : List Value} {ts : List (Str × Str)} (T : Toks w h R vs ts) {p : Nat} (hp : p < ts.length) : ∃ ta, TaOf w h vs p ta := by
  rcases hz : ts[p] with ⟨kd0, u0⟩
  obtain ⟨x0, e0, d0, ta0, a1, b1, c1, e1, f1, g1, n1, y1, z1, t1, t2, t3, t4⟩ := T.2.2.2 p kd0 u0 (by rw [List.getElem?_eq_getElem hp, hz])
  exact ⟨ta0, x0, d0, kd0, u0, a1, b1, c1, e1, f1, g1, n1, y1, z1, e0, t1, t2, t3⟩
/-- Reader.fault makes the fault and hands it out -/
noncomputable def FCall (w : World) (R : RD) (vs : List Value) (ts : List (Str × Str)) (p : Nat) (t : Tok) (what : Str) (tw : Tok) (ta : Addr) : Prop :=
  ∀ s, Toks w s.heap R vs ts → TaOf w s.heap vs p ta → Meets w 384 12 (rdL w R p t) s [.ref R.x, .str what tw] fun Q _ => ∀ e d t2 a b h' tk', KeepAll s.heap h' → New s.heap h' (faL w what tw ta e d t2 a b) → Q (.ref e) { s with heap := h', toks := tk' }
theorem fault_c (w : World) (R : RD) (vs : List Value) (ts : List (Str × Str)) (p : Nat) (t : Tok) (what : Str) (tw : Tok) (ta : Addr) (hq : p < ts.length) : FCall w R vs ts p t what tw ta := by
  intro s hT hTa A A₀ env outer base h₀ L m pr loose mean mg mb Q E hH hA hf hk B F X N T hd hu hR
  w_on
  w_top on
  have hx0 := (N _ (.head _)).1
  have hd0 := (N _ (.tail _ (.head _))).1
  refine' enter [(Str.ofString "self", .ref R.x), (Str.ofString "what", .str what tw)] ?k1 ?k2 ?k3 ?k4 ?k5 ?kA ?kF ?kK ?k6 ?k7 ?k8 ?k9 ?kB ?_ ?c2 ?c3 ?c4 ?c5
  walk_at "my_enter"
  walk_at "my_in"
  obtain ⟨x0, d0, kd0, u0, a1, b1, c1, e1, f1, g1, n1, y1, z1, e0, g2, g3, g4⟩ := hTa.base hx0 hd0 hg
  k_steps
  all_goals (refine' hR _ _ _ _ _ _ _ (end_P rfl hx0 hd0 hg (by assumption) (News.get (by assumption) (by k_mem)) (News.get (by assumption) (by k_mem))) ?nn; (case nn => walk_at "my_new"))

end
theorem off38 : True := by
  k_with "off38" => skip
  trivial
section
section
open PySem Sem
variable {M : Model} {prog : Program} {w : World} {A : Around} {E : Value → Shared → Prop} {s : Shared}
noncomputable def RaiseAt (w : World) (E : Value → Shared → Prop) (v : Value) (s₁ : Shared) : Prop := ∃ e t d, v = .ref e ∧ (K w.params).In s₁.heap ∧ s₁.heap.get? e = some (exO t (some d)) ∧ E (.ref e) s₁
theorem raise_made {env : Env} {x : Sem Value} {Q : Flow → Shared → Prop} (hh : A.handled = none) (h : wpAny M A x (RaiseAt w E) E s) : wpAny M A (raiseStmt env (some x) none) Q E s := by
  have hcB : (Value.ref 72 :: bm72).contains (.type "BaseException") = true := by decide +kernel
  unfold raiseStmt
  refine wpAny_bind (wpAny_mono h (fun v s₁ h₁ => ?_) fun _ _ x => x)
  obtain ⟨e, t, d, rfl, X, he, hE⟩ := h₁
  obtain ⟨nm, q, bs, sub, col, dd, k0, k1, k2, k3, k5, hC⟩ := cls72 X
  obtain ⟨hp, g, dr, tk, os⟩ := s₁
  dsimp only at he hC
  repeat (first | with_reducible refine wpAny_loadPart_at he ?_ | with_reducible refine wpAny_loadPart_at hC ?_ | (with_reducible refine wpAny_isSubtype_exc hC ?_; rw [hcB]) | wp_step)
  exact wpAny_raiseNew_none hh hE
theorem Raise_made {x : Expr} {pos : Pos} {env : Env} {Q : Flow → Shared → Prop} (hh : A.handled = none) (h : wpAny (model prog w) A (eval x env) (RaiseAt w E) E s) : wpAny (model prog w) A (exec (.Raise (some x) none pos) env) Q E s := by
  rw [arm_exec_Raise]
  exact wpAny_bind (wpAny_standAt (raise_made hh (wpAny_bind (wpAny_mono h (fun v s₁ h₁ => wpAny_bind (wpAny_standAt (wpAny_pure h₁))) fun _ _ x => x))))
end
theorem cx_inE {α : Type} {w : World} {R : RD} {vs : List Value} {ts : List (Str × Str)} {g : Heap} {L : Addr} {tree : Sem α} {A : Around} {env : Env} {outer : List Env} {base : Heap} {pr : Program} {loose : List Str} {mean : ExcName → Option Value} {mg mb : Str → Option Value} {n : Nat} {q : Str} {scope : Scope} {f : Addr} {cd : Value} {Q : α → Shared → Prop} {E EE : Value → Shared → Prop} {s : Shared}
    (hH : A.handled = none) (hA : A.frames = some (env :: outer)) (B : Below A base (env :: outer) g) (T : Top pr loose mean mg mb g) (X : (K w.params).In g) (hG : Toks w g R vs ts) (hd : A.depth + (n + 1) < recursionLimit) (hu : A.units + 8 * (n + 1) < cLine) (hk : scope.kind = .function)
    (hE : ∀ er s', EE er s' → E er s')
    (h : ∀ dp fr gd un, fr = some (envOf q scope L f cd :: env :: outer) → Cx w R vs ts ⟨none, dp, fr, gd, un⟩ L g n → wpAny (model rw.prog w) ⟨none, dp, fr, gd, un⟩ tree Q EE s) : wpAny (model rw.prog w) (A.deeper (envOf q scope L f cd)) tree Q E s := by
  have e : A.deeper (envOf q scope L f cd) = ⟨none, A.depth + 1, A.frames.map (envOf q scope L f cd :: ·), A.guards, A.units + 3⟩ := by
    unfold Around.deeper; rw [hH]
  have C : Cx w R vs ts (A.deeper (envOf q scope L f cd)) L g n := ⟨⟨_, _, _, _, _, _, _, _, _, hH, Around.frames_deeper hA, rfl, hk, B, T⟩, X, hG, budget_d hd, budget_u hu⟩
  rw [e] at C ⊢
  exact wpAny_mono (h _ _ _ _ (by rw [hA]; rfl) C) (fun _ _ x => x) hE
/-- a fault flies: what the heap H (at a call) had, the hidden heap has; the fault's dict is kept -/
inductive FlyB (R : RD) (H : Heap) (l : List Env) (e d : Addr) (fl : Value) (fa : Obj) (h' B : Heap) : Prop
  | mk (n1 : H.get? d = none) (n2 : H.get? e = none) (n3 : d ≠ R.x ∧ d ≠ R.dx ∧ e ≠ R.x ∧ e ≠ R.dx) (b1 : ∀ x o, H.get? x = some o → x ≠ R.x → x ≠ R.dx → x ∉ l.filterMap (·.frame) → B.get? x = some o)
    (b2 : ∀ x o, H.get? x = some o → x ≠ R.x → x ≠ R.dx → (∀ vs, o.data ≠ .fields vs) → ∃ sl, h'.get? x = some { o with slots := sl }) (b3 : B.get? d = some fa) (b4 : HoldD B l e d fl h') : FlyB R H l e d fl fa h' B
noncomputable def Fly (R : RD) (H : Heap) (l : List Env) (e d : Addr) (fl : Value) (fa : Obj) (h' : Heap) : Prop := ∃ B, FlyB R H l e d fl fa h' B
theorem FlyB.out {R : RD} {H g : Heap} {env : Env} {outer : List Env} {L e d : Addr} {fl fl' : Value} {fa : Obj} {h h' B : Heap} (hf : env.frame = some L) (hL : g.objs.size ≤ L) (hg : ∀ b o, H.get? b = some o → b ≠ R.x → b ≠ R.dx → g.get? b = some o)
    (Y : FlyB R g (env :: outer) e d fl fa h B) (hB : HoldD B outer e d fl' h') (U : h.UpToSlots h') : FlyB R H outer e d fl' fa h' B := by
  obtain ⟨n1, n2, n3, b1, b2, b3, b4⟩ := Y
  have up : ∀ x, g.get? x = none → x ≠ R.x → x ≠ R.dx → H.get? x = none := fun x hx a b => by
    cases z : H.get? x with
    | none => rfl
    | some o => have := hg x o z a b; rw [hx] at this; cases this
  refine ⟨up _ n1 n3.1 n3.2.1, up _ n2 n3.2.2.1 n3.2.2.2, n3, fun x o hx a b hn => b1 x o (hg x o hx a b) a b fun hm => ?_, fun x o hx a b hv => ?_, b3, hB⟩
  · rw [List.filterMap_cons, hf] at hm
    rcases List.mem_cons.mp hm with z | hm
    · exact absurd (Nat.lt_of_lt_of_le (Heap.lt_size (hg x o hx a b)) hL) (by rw [z]; exact Nat.lt_irrefl _)
    · exact hn hm
  · obtain ⟨sl, h1⟩ := b2 x o (hg x o hx a b) a b hv
    obtain ⟨sl', h2⟩ := U x _ h1 hv
    exact ⟨sl', h2⟩
theorem FlyB.move {R : RD} {H : Heap} {l : List Env} {e d : Addr} {fl fl' : Value} {fa : Obj} {h h' B : Heap} (Y : FlyB R H l e d fl fa h B) (hB : HoldD B l e d fl' h') (U : h.UpToSlots h') : FlyB R H l e d fl' fa h' B := by
  obtain ⟨n1, n2, n3, b1, b2, b3, b4⟩ := Y
  exact ⟨n1, n2, n3, b1, fun x o hx a b hv => by
    obtain ⟨sl, h1⟩ := b2 x o hx a b hv
    obtain ⟨sl', h2⟩ := U x _ h1 hv
    exact ⟨sl', h2⟩, b3, hB⟩
theorem FlyB.hold {R : RD} {H : Heap} {l : List Env} {e d : Addr} {fl : Value} {fa : Obj} {h B : Heap} (Y : FlyB R H l e d fl fa h B) : HoldD B l e d fl h := by
  obtain ⟨_, _, _, _, _, _, b⟩ := Y
  exact b
noncomputable def TCall (w : World) (R : RD) (vs : List Value) (ts : List (Str × Str)) (p : Int) (t : Tok) (f : Addr) (n : Nat) (args : List Value) (i : Nat) (ta : Addr) (what : Str) : Prop :=
  ∀ s, Toks w s.heap R vs ts → TaOf w s.heap vs i ta → ∀ (A A₀ : Around) (env : Env) (outer : List Env) (base h₀ : Heap) (L : Addr) (m : Str → Option Value)
    (pr : Program) (loose : List Str) (mean : ExcName → Option Value) (mg mb : Str → Option Value) (Q E : Value → Shared → Prop),
    A.handled = none → A.frames = some (env :: outer) → env.frame = some L → env.scope.kind = .function →
    Below A₀ base outer h₀ → Fr h₀ L s.heap m → (K w.params).In h₀ → News h₀ L s.heap (rdL w R p t) → Top pr loose mean mg mb h₀ → A.depth + n < recursionLimit → A.units + 8 * n < cLine →
    (∀ e d tw a b h' tk', Fly R s.heap (env :: outer) e d .none (faD w what tw ta a b) h' → E (.ref e) { s with heap := h', toks := tk' }) →
    wpAny (model rw.prog w) A (call (.ref f) args) Q E s
/-- a fault that was made and is being raised in this frame -/
noncomputable def Made (w : World) (R : RD) (g : Heap) (L : Addr) (s : Shared) (ta : Addr) (what : Str) (er : Value) (s' : Shared) : Prop :=
  ∃ e d t2 tw a b h1 tk1 m1, er = .ref e ∧ s' = { s with heap := h1, toks := tk1 } ∧ Fr g L h1 m1 ∧ News g L h1 (faL w what tw ta e d t2 a b) ∧ (d ≠ R.x ∧ d ≠ R.dx ∧ e ≠ R.x ∧ e ≠ R.dx) ∧ d ≠ e
theorem fault_use {w : World} {R : RD} {vs : List Value} {ts : List (Str × Str)} {p : Nat} {t : Tok} {h₀ : Heap} {L : Addr} {m : Str → Option Value} {s s0 : Shared} {M : Nat} {A : Around} {E : Value → Shared → Prop} {what : Str} {tw : Tok} {ta : Addr} {news : List (Addr × Obj)} (C : Cx w R vs ts A L h₀ M) (F : Fr h₀ L s.heap m) (N : News h₀ L s.heap news)
    (m1 : (R.x, rdX R.dx) ∈ news) (m2 : (R.dx, rdD w R p t) ∈ news) (hq : p < ts.length) (hta : TaOf w h₀ vs p ta) (hn : 12 ≤ M) (hs : ∃ h1 tk1, s = { s0 with heap := h1, toks := tk1 }) :
    wpAny (model rw.prog w) A (call (.ref 384) [.ref R.x, .str what tw]) (RaiseAt w (Made w R h₀ L s0 ta what)) E s := by
  obtain ⟨⟨A₀, env, outer, base, pr, loose, mean, mg, mb, hH, hA, hf, hk, B, T⟩, X, hT, hd, hu⟩ := C
  have N' : News h₀ L s.heap (rdL w R p t) := fun q hq => by
    rcases List.mem_cons.mp hq with rfl | hq
    · exact N _ m1
    · rcases List.mem_cons.mp hq with rfl | hq
      · exact N _ m2
      · cases hq
  have hx := (N _ m1).1
  have hdx := (N _ m2).1
  refine fault_c w R vs ts p t what tw ta hq s (hT.keepAll F.keep) (hta.keep F.keep) _ _ _ _ _ _ _ _ _ _ _ _ _ _ _ hH hA hf hk B F X N' T (by omega) (by omega) fun e d t2 a b h' tk' k nw => ?_
  have NN := news_of F (News.nil : News h₀ L s.heap []) k nw
  have ne : ∀ {q x : Addr} {o : Obj}, s.heap.get? q = none → s.heap.get? x = some o → q ≠ x := fun h1 h2 z => by rw [z, h2] at h1; cases h1
  have nd := (nw _ (.tail _ (.head _))).2
  have nE := (nw _ (.head _)).2
  have hed : d ≠ e := fun z => by
    have a1 := (nw _ (.head _)).1
    have a2 := (nw _ (.tail _ (.head _))).1
    dsimp only at a1 a2
    rw [z, a1] at a2
    simp [dictOf] at a2
  refine ⟨e, t2, d, rfl, X.keeps (F.keeps k).keep, (NN _ (.head _)).1, e, d, t2, tw, a, b, h', tk', m, rfl, ?_, F.keeps k, by rwa [List.append_nil] at NN, ⟨ne nd hx, ne nd hdx, ne nE hx, ne nE hdx⟩, hed⟩
  obtain ⟨h1, tk1, rfl⟩ := hs
  rfl
/-- the raised fault leaves its first frame -/
theorem made_leave {w : World} {R : RD} {g H base : Heap} {L : Addr} {s : Shared} {ta : Addr} {what : Str} {outer : List Env} {A : Around} {E : Value → Shared → Prop} (B : Below A base outer g) {n : Str} {sc : Scope} {f : Addr} {cd : Value} (hk : sc.kind = .function) {M : Model} (hg : ∀ b o, H.get? b = some o → b ≠ R.x → b ≠ R.dx → g.get? b = some o)
    (h : ∀ e d tw a b h' tk', Fly R H outer e d .none (faD w what tw ta a b) h' → E (.ref e) { s with heap := h', toks := tk' }) : ∀ er s', Made w R g L s ta what er s' →
    wpAny M (A.deeper (envOf n sc L f cd)) (leaving (envOf n sc L f cd) er) (fun _ s'' => E er s'') (fun e' s'' => E e' s'') s' := by
  rintro er s' ⟨e, d, t2, tw, a, b, h1, tk1, m1, rfl, rfl, F, N, n3, hed⟩
  have B' := B.push (name := n) (a := f) (cd := cd) F hk
  have he := (N _ (.head _)).1
  have hd := (N _ (.tail _ (.head _))).1
  have gE := (N _ (.head _)).2
  have gD := (N _ (.tail _ (.head _))).2
  have fm : ∀ x, x ∈ (envOf n sc L f cd :: outer).filterMap (·.frame) → ∃ o, h1.get? x = some o ∧ ∀ vs, o.data ≠ .fields vs := fun x hx => (B'.frames.mem hx).2
  -- the hidden heap: all but e and the frames
  have B1 : (hideAll h1 (e :: (envOf n sc L f cd :: outer).filterMap (·.frame))).StaysIn h1 := fun b o q => of_hideAll _ q
  have dn : d ∉ (envOf n sc L f cd :: outer).filterMap (·.frame) := fun hm => by
    rw [List.filterMap_cons] at hm
    rcases List.mem_cons.mp (show d ∈ L :: outer.filterMap (·.frame) from hm) with z | hm
    · exact gD.1 z
    · obtain ⟨o, ho, _⟩ := (B.frames.mem hm).2
      rw [gD.2] at ho; cases ho
  have hfr := funFrames_hide (as := e :: (envOf n sc L f cd :: outer).filterMap (·.frame)) B'.frames fun env he b hb => List.mem_cons_of_mem _ (List.mem_filterMap.mpr ⟨env, he, hb⟩)
  unfold leaving
  refine wpAny_bind (hold_first (t := t2) B'.stack hfr rfl he B1 (hideAll_none _ (.head _)) fun h2 H2 U2 => hold_flight (s := { s with heap := h2, toks := tk1 }) H2 fun h3 H3 U3 => ?_)
  have Y : FlyB R g (envOf n sc L f cd :: outer) e d .none (faD w what tw ta a b) h3 _ := ⟨gD.2, gE.2, n3, fun x o hx n1 n2 hn => hideAll_get _ (F.keep x o hx) fun hm => by
      rcases List.mem_cons.mp hm with z | hm
      · have := gE.2; rw [← z, hx] at this; cases this
      · exact hn hm, fun x o hx n1 n2 hv => (U2.trans U3) x o (F.keep x o hx) hv, hideAll_get _ hd fun hm => by
      rcases List.mem_cons.mp hm with z | hm
      · exact hed z
      · exact dn hm, H3⟩
  exact h e d tw a b h3 tk1 ⟨_, Y.out rfl F.above hg H3.drop (Heap.UpToSlots.refl _)⟩
/-- a fault on its way through a frame -/
noncomputable def Thru (w : World) (R : RD) (g : Heap) (l : List Env) (L : Addr) (s : Shared) (ta : Addr) (what : Str) (er : Value) (s' : Shared) : Prop :=
  ∃ e d fl tw a b h1 tk1, er = .ref e ∧ s' = { s with heap := h1, toks := tk1 } ∧ (fl = .none ∨ fl = rawInt L) ∧ Fly R g l e d fl (faD w what tw ta a b) h1
theorem thru_leave {w : World} {R : RD} {g H base : Heap} {L : Addr} {s : Shared} {ta : Addr} {what : Str} {outer : List Env} {A : Around} {E : Value → Shared → Prop} (B : Below A base outer g) (hL : g.objs.size ≤ L) {n : Str} {sc : Scope} {f : Addr} {cd : Value} {M : Model} (hg : ∀ b o, H.get? b = some o → b ≠ R.x → b ≠ R.dx → g.get? b = some o)
    (h : ∀ e d tw a b h' tk', Fly R H outer e d .none (faD w what tw ta a b) h' → E (.ref e) { s with heap := h', toks := tk' }) : ∀ er s', Thru w R g (envOf n sc L f cd :: outer) L s ta what er s' →
    wpAny M (A.deeper (envOf n sc L f cd)) (leaving (envOf n sc L f cd) er) (fun _ s'' => E er s'') (fun e' s'' => E e' s'') s' := by
  rintro er s' ⟨e, d, fl, tw, a, b, h1, tk1, rfl, rfl, hfl, Y⟩
  obtain ⟨B', Y⟩ := Y
  exact hold_leave (Around.frames_deeper B.stack) rfl hfl Y.hold fun h2 H2 U2 => h e d tw a b h2 tk1 ⟨_, Y.out rfl hL hg H2 U2⟩
/-- through a loop's or a block's own code -/
theorem thru_through {w : World} {R : RD} {g : Heap} {L : Addr} {s s' : Shared} {ta : Addr} {what : Str} {env : Env} {outer : List Env} {A : Around} {E : Value → Shared → Prop} {M : Model} {er : Value} (hfr : A.frames = some (env :: outer)) (hf : env.frame = some L)
    (X : Thru w R g (env :: outer) L s ta what er s') (h : ∀ er s'', Thru w R g (env :: outer) L s ta what er s'' → E er s'') : notedBy M A env (cameBackBy M A env E) er s' := by
  obtain ⟨e, d, fl, tw, a, b, h1, tk1, rfl, rfl, hfl, B, Y⟩ := X
  exact hold_through hfr hf hfl Y.hold fun h2 H2 U2 => h _ _ ⟨e, d, _, tw, a, b, h2, tk1, rfl, rfl, .inr rfl, B, Y.move H2 U2⟩
theorem row55 : True := by
  k_with "exec Raise some none" => ((fail_if_success k_extra "off39"); k_dflt (refine Raise_made rfl ?_))
  trivial
theorem thru_passes {w : World} {R : RD} {g : Heap} {L : Addr} {s : Shared} {ta : Addr} {what : Str} {n : Str} {sc : Scope} {f : Addr} {cd : Value} {outer : List Env} {A : Around} {M : Model} (hfr : A.frames = some (envOf n sc L f cd :: outer)) : PassesOwn M A (envOf n sc L f cd) (Thru w R g (envOf n sc L f cd :: outer) L s ta what) :=
  fun _ _ h => thru_through hfr rfl h fun _ _ x => x
theorem refuse_c (w : World) (R : RD) (vs : List Value) (ts : List (Str × Str)) (p : Int) (t : Tok) (i : Nat) (ti : Tok) (what : Str) (tw : Tok) (ta : Addr) (hi : i < ts.length) : TCall w R vs ts p t 293 16 [.ref R.x, .int (i : Nat) ti, .str what tw] i ta what := by
  intro s hT hTa A A₀ env outer base h₀ L m pr loose mean mg mb Q E hH hA hf hk B F X N T hd hu hR
  w_on
  w_top on
  have hx0 := (N _ (.head _)).1
  have hd0 := (N _ (.tail _ (.head _))).1
  refine' enter [(Str.ofString "reader", .ref R.x), (Str.ofString "mark", .int (i : Nat) ti), (Str.ofString "what", .str what tw)] ?k1 ?k2 ?k3 ?k4 ?k5 ?kA ?kF ?kK ?k6 ?k7 ?k8 ?k9 ?kB ?_ ?c2 ?c3 ?c4 ?c5
  walk_at "my_enter"
  intro g L' h' tk₁ hg F' N' B' X' T' l1
  have hG := hT.base rfl hx0 hd0 hg
  have hne := R.ne
  have hta := hTa.base hx0 hd0 hg
  have hg' : ∀ b o, s.heap.get? b = some o → b ≠ R.x → b ≠ R.dx → g.get? b = some o := fun b o e n1 n2 => hg b o e (by simp [n1, n2])
  refine cx_inE hH hA B' T' X' hG hd hu rfl (made_leave (ta := ta) (what := what) (s := s) B' rfl hg' hR) ?_
  clear hR hg'
  intro dp fr gd un hfr hC
  try dsimp only
  try k_fold
  k_steps
  all_goals (refine' fault_use hC (by k_asm) (by k_asm) ?m1 ?m2 hi hta ?hn ⟨_, _, rfl⟩; (case m1 => k_mem); (case m2 => k_mem); (case hn => exact Nat.le_of_ble_eq_true rfl))
theorem FlyB.mono {R : RD} {H H' : Heap} {l : List Env} {e d : Addr} {fl : Value} {fa : Obj} {h B : Heap} (Y : FlyB R H' l e d fl fa h B) (k : ∀ b o, H.get? b = some o → H'.get? b = some o) : FlyB R H l e d fl fa h B := by
  obtain ⟨n1, n2, n3, b1, b2, b3, b4⟩ := Y
  have up : ∀ x, H'.get? x = none → H.get? x = none := fun x hx => by
    cases z : H.get? x with
    | none => rfl
    | some o => have := k x o z; rw [hx] at this; cases this
  exact ⟨up _ n1, up _ n2, n3, fun x o hx => b1 x o (k x o hx), fun x o hx => b2 x o (k x o hx), b3, b4⟩
/-- a call that throws, from a frame's own view -/
theorem TCall.use {w : World} {R : RD} {vs : List Value} {ts : List (Str × Str)} {p : Int} {t : Tok} {f : Addr} {n : Nat} {args : List Value} {i : Nat} {ta : Addr} {what : Str} (K : TCall w R vs ts p t f n args i ta what) {h₀ : Heap} {L : Addr} {m : Str → Option Value} {s s0 : Shared} {M : Nat} {A : Around} {E : Value → Shared → Prop} {Q : Value → Shared → Prop} {news : List (Addr × Obj)} {env : Env} {outer : List Env}
    (C : Cx w R vs ts A L h₀ M) (hfr : A.frames = some (env :: outer)) (F : Fr h₀ L s.heap m) (N : News h₀ L s.heap news) (m1 : (R.x, rdX R.dx) ∈ news) (m2 : (R.dx, rdD w R p t) ∈ news) (hta : TaOf w h₀ vs i ta) (hn : n ≤ M) (hs : ∃ h1 tk1, s = { s0 with heap := h1, toks := tk1 })
    (h : ∀ er s', Thru w R h₀ (env :: outer) L s0 ta what er s' → E er s') : wpAny (model rw.prog w) A (call (.ref f) args) Q E s := by
  obtain ⟨⟨A₀, env1, outer1, base, pr, loose, mean, mg, mb, hH, hA, hf, hk, B, T⟩, X, hT, hd, hu⟩ := C
  have he := hfr.symm.trans hA
  cases he
  have N' : News h₀ L s.heap (rdL w R p t) := fun q hq => by
    rcases List.mem_cons.mp hq with rfl | hq
    · exact N _ m1
    · rcases List.mem_cons.mp hq with rfl | hq
      · exact N _ m2
      · cases hq
  refine K s (hT.keepAll F.keep) (hta.keep F.keep) _ _ _ _ _ _ _ _ _ _ _ _ _ _ _ hH hA hf hk B F X N' T (by omega) (by omega) fun e d tw a b h' tk' ⟨B', Y⟩ => h _ _ ⟨e, d, _, tw, a, b, h', tk', rfl, ?_, .inl rfl, B', Y.mono F.keep⟩
  obtain ⟨h1, tk1, rfl⟩ := hs
  rfl

end
theorem off39 : True := by
  k_with "off39" => skip
  trivial
section
theorem row56 : True := by
  k_with "t_open" => ((fail_if_success k_extra "off40"); (intro s hT hTa A A₀ env outer base h₀ L m pr loose mean mg mb Q E hH hA hf hk B F X N T hd hu hR; w_on; w_top on; have hx0 := (N _ (.head _)).1; have hd0 := (N _ (.tail _ (.head _))).1))
  k_with "t_in" => ((fail_if_success k_extra "off40"); (intro g L' h' tk₁ hg F' N' B' X' T' l1; have hG := hT.base rfl hx0 hd0 hg; have hne := R.ne; have hta := hTa.base hx0 hd0 hg; have hg' : ∀ b o, s.heap.get? b = some o → b ≠ R.x → b ≠ R.dx → g.get? b = some o := (fun b o e n1 n2 => hg b o e (by simp [n1, n2])); refine cx_inE hH hA B' T' X' hG hd hu rfl (thru_leave (s := s) B' F'.above hg' hR) ?_; clear hT hTa F N B X T l1 hR hg' B' hd hu hA hf hk hH; intro dp fr gd un hfr hC; have hPO := thru_passes (w := w) (R := R) (g := g) (s := s) (ta := ta) (what := whatD) (A := ⟨none, dp, fr, gd, un⟩) (M := model rw.prog w) hfr; try dsimp only; try k_fold))
  trivial
noncomputable abbrev whatD : Str := Str.ofString "without DELIMITED BY nothing delimits"
noncomputable abbrev rowE (L : Addr) : Env := envOf (Str.ofString "unstrung_row") (f 50).scope L 328 (Value.ref 327)
section
variable {w : World} {R : RD} {vs : List Value} {ts : List (Str × Str)} {p : Nat} {t tW : Tok} {W : Str} {pl ta : Addr} {dp un : Nat} {fr : Option (List Env)} {outer : List Env} {gd : Option (List Code)} {tl : List (Addr × Obj)} {g : Heap} {L : Addr} {m : Str → Option Value} {s s0 : Shared} {Q : Flow → Shared → Prop} {pr : Program} {loose : List Str} {mean : ExcName → Option Value} {mg mb : Str → Option Value} {h : Heap} {tk : Nat}
theorem row57 : True := by
  k_with "mlook" => ((fail_if_success k_extra "off40"); first | with_reducible assumption | with_reducible exact mset_eq | (refine mset_ne (by decide) ?_; walk_at "mlook"))
  k_with "lname" => ((fail_if_success k_extra "off40"); (refine' nameX_L (cl := []) F9 ?zl9 ?_ ?za9 ?zb9; (case zb9 => rfl); (case za9 => rfl); (case zl9 => walk_at "mlook"); (try dsimp only)))
  k_with "eval Name" => ((fail_if_success k_extra "off40"); k_dflt ((rename Fr _ _ _ _ => F9); first
  | ((with_reducible show wpAny _ _ (eval (Expr.Name (Str.ofString "reader") _) _) _ _ _); walk_at "lname")
  | ((with_reducible show wpAny _ _ (eval (Expr.Name (Str.ofString "word") _) _) _ _ _); walk_at "lname")
  | ((with_reducible show wpAny _ _ (eval (Expr.Name (Str.ofString "mark") _) _) _ _ _); walk_at "lname")
  | ((with_reducible show wpAny _ _ (eval (Expr.Name (Str.ofString "is_delimited") _) _) _ _ _); walk_at "lname")
  | fail "own"))
  k_with "call ref" => ((fail_if_success k_extra "off40"); k_dflt ((with_reducible show wpAny _ _ (call (Value.ref 413) _) _ _ _); (rename Fr _ _ _ _ => F9); (rename News _ _ _ _ => N9); refine' skip_use hC F9 N9 (List.Mem.tail _ (List.Mem.head _)) (List.Mem.head _) ?q1 ?q2 ?hn ?uu ?_ ?_; (case hn => exact Nat.le_of_ble_eq_true rfl); (case q1 => exact hsp); (case q2 => exact hsz); (case uu => (intro t9; exact Upd.head hup)); all_goals (clear F9 N9; intro ew h9 tk9 t9 F9 N9; first | exact (no_tf ew hW).elim | ((try dsimp only); (try k_fold)))))
  k_with "call ref" => ((fail_if_success k_extra "off40"); k_dflt ((with_reducible show wpAny _ _ (call (Value.ref 293) _) _ _ _); (rename Fr _ _ _ _ => F9); (rename News _ _ _ _ => N9); refine' TCall.use (what := whatD) (s0 := s0) (refuse_c _ _ _ _ _ _ _ _ _ _ _ hi) hC hfr F9 N9 (List.Mem.tail _ (List.Mem.head _)) (List.Mem.head _) hta ?hn ⟨_, _, rfl⟩ ?_; (case hn => exact Nat.le_of_ble_eq_true rfl); intro er9 s9 Y9))
  k_with "storeName" => ((fail_if_success k_extra "off40"); k_dflt ((rename Fr _ _ _ _ => F9); (rename News _ _ _ _ => N9); refine' storeX_L (cl := []) F9 N9 ?_ ?za9 ?zb9; (case zb9 => rfl); (case za9 => rfl); k_whole; clear F9 N9; intro h9 F9 N9; (try dsimp only); (try k_fold)))
  trivial
/-- the turn that faults -/
theorem rowf_turn (hC : Cx w R vs ts ⟨none, dp, fr, gd, un⟩ L g 17) (hfr : fr = some (rowE L :: outer)) (X' : (K w.params).In g) (T' : Top pr loose mean mg mb g) (hsp : Txt.split W (Str.ofString " ") = [W]) (hsz : W.length + 2 ≤ sizeLine) (hW : wordAt (ts.drop p) 0 W = true) (hi : p < ts.length) (hta : TaOf w g vs p ta)
    (mr : m (Str.ofString "reader") = some (.ref R.x)) (mw : m (Str.ofString "word") = some (.str W tW)) (md : m (Str.ofString "is_delimited") = some (.bool false))
    (hup : ∀ q ∈ (R.x, rdX R.dx) :: tl, q.1 ≠ R.dx) (F9 : Fr g L h m) (N9 : News g L h ((R.dx, rdD w R p t) :: (R.x, rdX R.dx) :: tl)) :
    wpAny (model rw.prog w) ⟨none, dp, fr, gd, un⟩ (execs rowB (rowE L)) Q (Thru w R g (rowE L :: outer) L s0 ta whatD) { s0 with heap := h, toks := tk } := by
  w_on
  w_top on
  show wpAny _ _ (execs (_ :: _) _) _ _ _
  k_steps
  all_goals exact Y9
/-- what the faulting rows' loop keeps -/
inductive RowFJ (w : World) (R : RD) (p : Nat) (pl : Addr) (v : Prop) (tl : List (Addr × Obj)) (j : Nat) (m : Str → Option Value) : List (Addr × Obj) → Prop
  | mk {l : List (Addr × Obj)} {its : List Value} {k' : Nat} {t' : Tok} : m (Str.ofString "reader") = some (.ref R.x) → m (Str.ofString "parts") = some (.ref pl) → m (Str.ofString "is_delimited") = some (.bool false) → Off R pl l → (j = 0 ∧ its = [] ∨ j = 1 ∧ v) →
    RowFJ w R p pl v tl j m ((R.dx, rdD w R (p : Nat) t') :: (R.x, rdX R.dx) :: (pl, listOf (List.toArray its) k') :: (l ++ tl))
theorem rowf_for {hS : Heap} {tkS : Nat} {k1 : Nat} {px : Pos} {body : List Stmt} {tu : Addr} {tka tkb : Tok} (hbody : body = rowB) (h12 : wordAt (ts.drop p) 0 (Str.ofString "DELIMITER") = true ∨ wordAt (ts.drop p) 0 (Str.ofString "DELIMITER") = false ∧ wordAt (ts.drop p) 0 (Str.ofString "COUNT") = true)
    (hC : Cx w R vs ts ⟨none, dp, fr, gd, un⟩ L g 17) (hfr : fr = some (rowE L :: outer)) (X' : (K w.params).In g) (T' : Top pr loose mean mg mb g) (hi : p < ts.length) (hta : TaOf w g vs p ta)
    (mr : m (Str.ofString "reader") = some (.ref R.x)) (mp : m (Str.ofString "parts") = some (.ref pl)) (md : m (Str.ofString "is_delimited") = some (.bool false))
    (hxd : R.x ≠ R.dx) (hpd : pl ≠ R.dx) (hpx : pl ≠ R.x) (hO : Off R pl tl) (hT : (tu, tupO [.str (Str.ofString "DELIMITER") tka, .str (Str.ofString "COUNT") tkb]) ∈ tl)
    (F9 : Fr g L h m) (N9 : News g L h ((R.dx, rdD w R (p : Nat) t) :: (R.x, rdX R.dx) :: (pl, listOf (List.toArray []) k1) :: tl)) :
    ForAt w ⟨none, dp, fr, gd, un⟩ (Thru w R g (rowE L :: outer) L s0 ta whatD) Q { s0 with heap := hS, toks := tkS } (rowE L) g L (.Name (Str.ofString "word") px) body (.ref tu) { s0 with heap := h, toks := tk } := by
  subst hbody
  refine ⟨_, _, m, _, RowFJ w R p pl (wordAt (ts.drop p) 0 (Str.ofString "DELIMITER") = false ∧ wordAt (ts.drop p) 0 (Str.ofString "COUNT") = true) tl,
    it_tup (items := [.str (Str.ofString "DELIMITER") tka, .str (Str.ofString "COUNT") tkb]) rfl (fun j m news h => ?_), ⟨_, _, rfl⟩, F9, N9, RowFJ.mk (l := []) (its := []) mr mp md Off.nil (.inl ⟨rfl, rfl⟩), fun i v m₁ news₁ h₁ tk₁ I oI hi9 hP hJ F1 N1 ne => ?_, fun h' tk' m' news' F' N' hJ => ?_⟩
  · cases h
    exact .tail _ (.tail _ (.tail _ (List.mem_append_right _ hT)))
  · obtain @⟨l, its, k', t', j1, j2, j3, j5, j6⟩ := hJ
    have hOI : Off R pl ((I, oI) :: (l ++ tl)) := by
      have := j5.app hO
      exact ⟨List.forall_mem_cons.mpr ⟨Ne.symm ne.1, this.d⟩, List.forall_mem_cons.mpr ⟨Ne.symm ne.2.1, this.x⟩, List.forall_mem_cons.mpr ⟨Ne.symm ne.2.2.1, this.p⟩⟩
    have hup : ∀ o, ∀ q ∈ (R.x, rdX R.dx) :: (pl, o) :: (I, oI) :: (l ++ tl), q.1 ≠ R.dx := fun o => List.forall_mem_cons.mpr ⟨hxd, List.forall_mem_cons.mpr ⟨hpd, hOI.d⟩⟩
    rcases j6 with ⟨rfl, rfl⟩ | ⟨rfl, h1, h2⟩
    · have hv := Option.some.inj hP
      subst hv
      refine wpAny_assign_Name (storeX_L (cl := []) F1 N1 (fun h' F2 N2 => ?_) rfl rfl)
      rcases h12 with h1 | h12
      · exact rowf_turn (tl := (pl, _) :: (I, oI) :: (l ++ tl)) hC hfr X' T' (by decide +kernel) (Nat.le_of_ble_eq_true rfl) h1 hi hta (by walk_at "mlook") mset_eq (by walk_at "mlook") (hup _) F2 (news_sub0 N2 permI)
      · refine wpAny_mono (row_turn (tl := (I, oI) :: (l ++ tl)) (its := List.toArray []) (W := Str.ofString "DELIMITER") (u := Str.ofString "G") (flag := false) (k := k') (pl := pl) (p := p) (t := t') hC X' T' (by decide +kernel) (Nat.le_of_ble_eq_true rfl) (fun z => (no_tf h12.1 z).elim) (fun z => (no_tf h12.1 z).elim) (fun z => (no_tf h12.1 z).elim) (by walk_at "mlook") mset_eq (by walk_at "mlook") (by walk_at "mlook") hxd hpd hpx hOI (Nat.le_of_ble_eq_true rfl) F2 (news_sub0 N2 permI) ?_) (fun _ _ z => z) (fun _ _ z => z.elim)
        intro o v' l' p'' t'' h3 tk3 tm ta off hol rep F3 N3
        cases ta with
        | no _ => exact .next h3 tk3 _ ((R.dx, rdD w R (p : Nat) t'') :: (R.x, rdX R.dx) :: (pl, listOf (List.toArray [v']) (k' + 1)) :: (l' ++ l ++ tl)) F3 (news_sub0 N3 permJ) (ne_turn ne off) (RowFJ.mk (its := [v']) (by walk_at "mlook") (by walk_at "mlook") (by walk_at "mlook") (hol.app j5) (.inr ⟨rfl, h12⟩))
        | inn z => exact (no_tf h12.1 z).elim
        | bare z => exact (no_tf h12.1 z).elim
    · have hv := Option.some.inj hP
      subst hv
      refine wpAny_assign_Name (storeX_L (cl := []) F1 N1 (fun h' F2 N2 => ?_) rfl rfl)
      exact rowf_turn (tl := (pl, _) :: (I, oI) :: (l ++ tl)) hC hfr X' T' (by decide +kernel) (Nat.le_of_ble_eq_true rfl) h2 hi hta (by walk_at "mlook") mset_eq (by walk_at "mlook") (hup _) F2 (news_sub0 N2 permI)
  · obtain @⟨l, its, k', t', j1, j2, j3, j5, j6⟩ := hJ
    rcases j6 with ⟨h, _⟩ | ⟨h, _⟩ <;> cases h
end
theorem row58 : True := by
  k_with "exec For Name Tuple cons nil" => ((fail_if_success k_extra "off40"); k_dflt (refine' For_go (h₀ := g) (L := L') ?_ ?zs9 ?ze9; (case zs9 => intro _; rfl); (case ze9 => exact hPO)))
  k_with "ForAt" => ((fail_if_success k_extra "off40"); k_dflt ((rename News _ _ _ _ => N9); (rename Fr _ _ _ _ => F9); have N8 := news_sub0 N9 perm8; have hO9 := off5 (r := rdL w R ((p : Nat) : Int) t) N9 (by assumption) (by assumption) (by assumption) ⟨_, List.Mem.head _⟩ ⟨_, List.Mem.tail _ (List.Mem.head _)⟩ (by assumption) (by assumption) (by assumption); refine' rowf_for ?yb h12 hC hfr X' T' hi hta ?m1 ?m2 ?m3 hne hO9.2.1 hO9.2.2 hO9.1 (List.Mem.head _) F9 N8; (case yb => rfl); (case m1 => rfl); (case m2 => rfl); (case m3 => rfl)))
  trivial
/-- a row that may have no phrase, and has one -/
theorem rowf_c (w : World) (R : RD) (vs : List Value) (ts : List (Str × Str)) (p : Nat) (t : Tok) (g0 : Str) (ta : Addr) (hG0 : RefAt ts p g0) (hi : p + 1 < ts.length) (h12 : wordAt (ts.drop (p + 1)) 0 (Str.ofString "DELIMITER") = true ∨ wordAt (ts.drop (p + 1)) 0 (Str.ofString "DELIMITER") = false ∧ wordAt (ts.drop (p + 1)) 0 (Str.ofString "COUNT") = true) :
    TCall w R vs ts p t 328 18 [.ref R.x, .bool false] (p + 1) ta whatD := by
  walk_at "t_open"
  refine' enter [(Str.ofString "reader", .ref R.x), (Str.ofString "is_delimited", .bool false)] ?k1 ?k2 ?k3 ?k4 ?k5 ?kA ?kF ?kK ?k6 ?k7 ?k8 ?k9 ?kB ?_ ?c2 ?c3 ?c4 ?c5
  walk_at "my_enter"
  walk_at "t_in"
  k_steps

end
theorem off40 : True := by
  k_with "off40" => skip
  trivial
theorem row59 : True := by
  k_with "t_open" => ((intro s hT hTa A A₀ env outer base h₀ L m pr loose mean mg mb Q E hH hA hf hk B F X N T hd hu hR; w_on; w_top on; have hx0 := (N _ (.head _)).1; have hd0 := (N _ (.tail _ (.head _))).1))
  k_with "t_in" => ((intro g L' h' tk₁ hg F' N' B' X' T' l1; have hG := hT.base rfl hx0 hd0 hg; have hne := R.ne; have hta := hTa.base hx0 hd0 hg; have hg' : ∀ b o, s.heap.get? b = some o → b ≠ R.x → b ≠ R.dx → g.get? b = some o := (fun b o e n1 n2 => hg b o e (by simp [n1, n2])); refine cx_inE hH hA B' T' X' hG hd hu rfl (thru_leave (s := s) B' F'.above hg' hR) ?_; clear hT hTa F N B X T l1 hR hg' B' hd hu hA hf hk hH; intro dp fr gd un hfr hC; have hPO := thru_passes (w := w) (R := R) (g := g) (s := s) (ta := ta) (what := whatD) (A := ⟨none, dp, fr, gd, un⟩) (M := model rw.prog w) hfr; try dsimp only; try k_fold))
  trivial
section
/-- the phrases that the law draws from -/
inductive Ph | g2 | d1 | d2 | c1 | c2 | p1 | p2 | t1 | t2 | ov | nv | eu | wt
noncomputable def Ph.place : Ph → Nat
  | .g2 => 0 | .d1 => 1 | .d2 => 1 | .c1 => 2 | .c2 => 2 | .p1 => 3 | .p2 => 3 | .t1 => 4 | .t2 => 4 | .ov => 5 | .nv => 6 | .eu => 7 | .wt => 8
noncomputable def Ph.words : Ph → List Str
  | .g2 => [Str.ofString "G2"]
  | .d1 => [Str.ofString "DELIMITER", Str.ofString "IN", Str.ofString "D"]
  | .d2 => [Str.ofString "DELIMITER", Str.ofString "D2"]
  | .c1 => [Str.ofString "COUNT", Str.ofString "IN", Str.ofString "C"]
  | .c2 => [Str.ofString "COUNT", Str.ofString "C2"]
  | .p1 => [Str.ofString "WITH", Str.ofString "POINTER", Str.ofString "P"]
  | .p2 => [Str.ofString "POINTER", Str.ofString "P2"]
  | .t1 => [Str.ofString "TALLYING", Str.ofString "IN", Str.ofString "T"]
  | .t2 => [Str.ofString "TALLYING", Str.ofString "T2"]
  | .ov => [Str.ofString "ON", Str.ofString "OVERFLOW", Str.ofString "CONTINUE"]
  | .nv => [Str.ofString "NOT", Str.ofString "OVERFLOW", Str.ofString "CONTINUE", Str.ofString "CONTINUE"]
  | .eu => [Str.ofString "END-UNSTRING"]
  | .wt => [Str.ofString "WITH", Str.ofString "TEST"]
/-- the name a phrase brings -/
noncomputable def Ph.what : Ph → Str
  | .g2 => Str.ofString "G2" | .d1 => Str.ofString "D" | .d2 => Str.ofString "D2" | .c1 => Str.ofString "C" | .c2 => Str.ofString "C2"
  | .p1 => Str.ofString "P" | .p2 => Str.ofString "P2" | .t1 => Str.ofString "T" | .t2 => Str.ofString "T2"
  | .ov => Str.ofString "" | .nv => Str.ofString "" | .eu => Str.ofString "" | .wt => Str.ofString ""
noncomputable abbrev tkw (u : Str) : Str × Str := (Str.ofString "word", u)
noncomputable def rest : List Ph → List (Str × Str)
  | [] => [(Str.ofString "sign", Str.ofString ".")]
  | φ :: l => φ.words.map tkw ++ rest l
/-- one optional phrase -/
noncomputable def optAt (k : Nat) : List Ph → Option Str × List Ph
  | [] => (none, [])
  | φ :: l => if φ.place = k then (some φ.what, l) else (none, φ :: l)
theorem drop_next {ts : List (Str × Str)} {p : Nat} {a : Str × Str} {r : List (Str × Str)} (h : ts.drop p = a :: r) : ts.drop (p + 1) = r := by
  rw [← List.drop_drop, h]; rfl
theorem wordAt_nil {u : Str} : wordAt (rest []) 0 u = false := by
  have : (Str.ofString "sign" == Str.ofString "word") = false := by decide +kernel
  show (Str.ofString "sign" == Str.ofString "word" && Str.ofString "." == u) = false
  rw [this]; rfl
noncomputable def Ph.all : List Ph := [.g2, .d1, .d2, .c1, .c2, .p1, .p2, .t1, .t2, .ov, .nv, .eu, .wt]
theorem Ph.mem_all (φ : Ph) : φ ∈ Ph.all := by cases φ <;> (repeat first | exact List.Mem.head _ | refine List.Mem.tail _ ?_)
noncomputable def Ph.first (φ : Ph) : Str := φ.words.headD (Str.ofString "")
theorem Ph.words_eq (φ : Ph) : φ.words = φ.first :: φ.words.tail := by cases φ <;> rfl
theorem wordAt_cons {φ : Ph} {l : List Ph} {u : Str} : wordAt (rest (φ :: l)) 0 u = (φ.first == u) := by
  have : (Str.ofString "word" == Str.ofString "word") = true := by decide +kernel
  show wordAt (φ.words.map tkw ++ rest l) 0 u = _
  rw [φ.words_eq]
  show (Str.ofString "word" == Str.ofString "word" && φ.first == u) = _
  rw [this]; rfl
theorem all_of {f : Ph → Bool} (h : Ph.all.all f = true) (φ : Ph) : f φ = true := List.all_eq_true.mp h φ φ.mem_all
/-- no phrase opens with this word -/
theorem never {u : Str} (h : Ph.all.all (fun φ => !(φ.first == u)) = true) : ∀ l, wordAt (rest l) 0 u = false
  | [] => wordAt_nil
  | φ :: l => by
    rw [wordAt_cons]
    have := all_of h φ
    simpa using this
theorem never_of : Ph.all.all (fun φ => !(φ.first == Str.ofString "OF")) = true := by decide +kernel
theorem never_in : Ph.all.all (fun φ => !(φ.first == Str.ofString "IN")) = true := by decide +kernel
theorem rest_first (l : List Ph) : ∃ k u r, rest l = (k, u) :: r ∧ u ≠ Str.ofString "(" := by
  cases l with
  | nil => exact ⟨_, _, _, rfl, by decide +kernel⟩
  | cons φ l => exact ⟨_, φ.first, φ.words.tail.map tkw ++ rest l, by show φ.words.map tkw ++ rest l = _; rw [φ.words_eq]; rfl, by
      have := all_of (f := fun φ => !(φ.first == Str.ofString "(")) (by decide +kernel) φ
      simpa using this⟩
theorem no_paren (l : List Ph) : signAt (rest l) 0 (Str.ofString "(") = false := by
  obtain ⟨k, u, r, e, n⟩ := rest_first l
  rw [e]
  show (k == _ && u == _) = false
  rw [beq_eq_false_iff_ne.mpr n, Bool.and_false]
/-- does p stand somewhere in the list -/
noncomputable def scan (p : List Nat) : List Nat → Bool
  | [] => p.isPrefixOf []
  | c :: r => p.isPrefixOf (c :: r) || scan p r
theorem scan_iff {p : List Nat} : ∀ {l : List Nat}, scan p l = true ↔ ∃ i, p.isPrefixOf (l.drop i) = true
  | [] => ⟨fun h => ⟨0, h⟩, fun ⟨i, h⟩ => by simpa [scan] using h⟩
  | c :: r => by
    unfold scan
    rw [Bool.or_eq_true, scan_iff]
    constructor
    · rintro (h | ⟨i, h⟩)
      · exact ⟨0, h⟩
      · exact ⟨i + 1, h⟩
    · rintro ⟨i, h⟩
      cases i with
      | zero => exact .inl h
      | succ i => exact .inr ⟨i, h⟩
theorem pre_iff {x y : Array Nat} (hy : 0 < y.size) : (∃ i, i + y.size ≤ x.size ∧ (x.extract i (i + y.size) == y) = true) ↔ ∃ i, y.toList.isPrefixOf (x.toList.drop i) = true := by
  have key : ∀ i, (x.extract i (i + y.size)).toList = (x.toList.drop i).take y.size := fun i => by
    rw [Array.toList_extract, List.extract_eq_take_drop, Nat.add_sub_cancel_left]
  constructor
  · rintro ⟨i, h1, h2⟩
    refine ⟨i, List.isPrefixOf_iff_prefix.mpr ?_⟩
    have h3 : x.extract i (i + y.size) = y := eq_of_beq h2
    have h4 := key i
    rw [h3] at h4
    rw [h4]
    exact List.take_prefix _ _
  · rintro ⟨i, h⟩
    have h1 := List.isPrefixOf_iff_prefix.mp h
    have h2 := h1.length_le
    rw [List.length_drop, Array.length_toList, Array.length_toList] at h2
    refine ⟨i, by omega, ?_⟩
    rw [beq_iff_eq]
    apply Array.ext'
    rw [key]
    obtain ⟨r, hr⟩ := h1
    rw [← hr, ← Array.length_toList, List.take_left']
    rfl
noncomputable def inR (u : Str) : Bool := scan ((Str.ofString " " ++ u) ++ Str.ofString " ").cps.toList rN
theorem resv_eq (u : Str) : resv u = inR u := by
  unfold resv inR
  rw [← theR_codes]
  refine Bool.eq_iff_iff.mpr ((PySem.StrLaws.found_iff _ _).trans (Iff.trans (pre_iff ?_) scan_iff.symm))
  show 0 < ((Str.ofString " ").cps ++ u.cps ++ (Str.ofString " ").cps).size
  have : (Str.ofString " ").cps.size = 1 := by decide +kernel
  rw [Array.size_append, this]
  omega
theorem free_names : (["G", "G2", "S", "D", "D2", "C", "C2", "P", "P2", "T", "T2"] : List Str).all (fun u => !inR u) = true := by decide +kernel
theorem taken_names : (["DELIMITER", "COUNT", "WITH", "POINTER", "TALLYING", "ON", "NOT", "END-UNSTRING", "SPACE"] : List Str).all inR = true := by decide +kernel
theorem resv_not {u : Str} (h : u ∈ (["G", "G2", "S", "D", "D2", "C", "C2", "P", "P2", "T", "T2"] : List Str)) : resv u = false := by
  have := List.all_eq_true.mp free_names u h
  rw [resv_eq]
  simpa using this
theorem resv_is {u : Str} (h : u ∈ (["DELIMITER", "COUNT", "WITH", "POINTER", "TALLYING", "ON", "NOT", "END-UNSTRING", "SPACE"] : List Str)) : resv u = true := by
  rw [resv_eq]
  exact List.all_eq_true.mp taken_names u h
theorem what_free {φ : Ph} (h : φ.place ≤ 4) : resv φ.what = false := resv_not (by
  cases φ <;> first | (exact absurd h (by decide)) | simp [Ph.what])
/-- a name in front of more phrases -/
theorem ref_of {ts : List (Str × Str)} {p : Nat} {u : Str} {l : List Ph} (h : ts.drop p = tkw u :: rest l) (hr : resv u = false) : RefAt ts p u := by
  have h1 := drop_next h
  have hw : (Str.ofString "word" == Str.ofString "word") = true := by decide +kernel
  refine ⟨⟨Str.ofString "word", by rw [h]; rfl⟩, ?_, by rw [h1]; exact never never_of l, by rw [h1]; exact never never_in l, by rw [h1]; exact no_paren l⟩
  rw [h]
  show (Str.ofString "word" == Str.ofString "word" && !resv u) = true
  rw [hw, hr]; rfl
/-- a word and then a name, IN between or not, or none of it -/
inductive OptAt (ts : List (Str × Str)) (p : Nat) (u : Str) : Option Str → Nat → Prop
  | no : wordAt (ts.drop p) 0 u = false → OptAt ts p u none p
  | mid {x : Str} : wordAt (ts.drop p) 0 u = true → wordAt (ts.drop (p + 1)) 0 (Str.ofString "IN") = true → RefAt ts (p + 1 + 1) x → OptAt ts p u (some x) (p + 1 + 1 + 1)
  | bare {x : Str} : wordAt (ts.drop p) 0 u = true → wordAt (ts.drop (p + 1)) 0 (Str.ofString "IN") = false → RefAt ts (p + 1) x → OptAt ts p u (some x) (p + 1 + 1)

end
section
theorem tf_no {b : Bool} (a : b = true) (c : b = false) : False := by rw [a] at c; cases c
theorem word_self {u : Str} {r : List (Str × Str)} : wordAt (tkw u :: r) 0 u = true := by
  show (Str.ofString "word" == Str.ofString "word" && u == u) = true
  rw [beq_self_eq_true, beq_self_eq_true]; rfl
theorem word_other {u v : Str} {r : List (Str × Str)} (h : (u == v) = false) : wordAt (tkw u :: r) 0 v = false := by
  show (Str.ofString "word" == Str.ofString "word" && u == v) = false
  rw [h, Bool.and_false]
section
variable {ts : List (Str × Str)} {p p1 p2 q : Nat} {u : Str} {dO dO' : Option Str} {l : List Ph}
theorem OptAt.t (H : OptAt ts p u dO p1) (a : wordAt (ts.drop p) 0 u = true) (b : wordAt (ts.drop (p + 1)) 0 (Str.ofString "IN") = true) : RefAt ts (p + 1 + 1) (dO.getD default) := by
  cases H with
  | no h => exact (tf_no a h).elim
  | mid _ _ r => exact r
  | bare _ h _ => exact (tf_no b h).elim
theorem OptAt.c (H : OptAt ts p u dO p1) (a : wordAt (ts.drop p) 0 u = true) (b : wordAt (ts.drop (p + 1)) 0 (Str.ofString "IN") = false) : RefAt ts (p + 1) (dO.getD default) := by
  cases H with
  | no h => exact (tf_no a h).elim
  | mid _ h _ => exact (tf_no h b).elim
  | bare _ _ r => exact r
theorem RefAt.uniq {u v : Str} (a : RefAt ts q u) (b : RefAt ts q v) : u = v := by
  obtain ⟨k, h⟩ := a.he
  obtain ⟨k', h'⟩ := b.he
  rw [h] at h'
  cases h'; rfl
theorem OptAt.det (H : OptAt ts p u dO p1) (H' : OptAt ts p u dO' p2) : dO = dO' ∧ p1 = p2 := by
  cases H <;> cases H'
  · exact ⟨rfl, rfl⟩
  · rename_i h _ h' _ _; exact (tf_no h' h).elim
  · rename_i h _ h' _ _; exact (tf_no h' h).elim
  · rename_i h _ _ h'; exact (tf_no h h').elim
  · rename_i r _ _ _ r'; exact ⟨congrArg some (RefAt.uniq r r'), rfl⟩
  · rename_i _ h _ _ _ h' _; exact (tf_no h h').elim
  · exact (tf_no (by assumption) (by assumption)).elim
  · rename_i _ h _ _ _ h' _; exact (tf_no h' h).elim
  · rename_i r _ _ _ r'; exact ⟨congrArg some (RefAt.uniq r r'), rfl⟩
theorem opt_mid {x : Str} (h : ts.drop p = tkw u :: tkw (Str.ofString "IN") :: tkw x :: rest l) (hr : resv x = false) : OptAt ts p u (some x) (p + 1 + 1 + 1) ∧ ts.drop (p + 1 + 1 + 1) = rest l := by
  have h1 := drop_next h
  have h2 := drop_next h1
  exact ⟨.mid (by rw [h]; exact word_self) (by rw [h1]; exact word_self) (ref_of h2 hr), drop_next h2⟩
theorem opt_bare {x : Str} (h : ts.drop p = tkw u :: tkw x :: rest l) (hr : resv x = false) (hx : (x == Str.ofString "IN") = false) : OptAt ts p u (some x) (p + 1 + 1) ∧ ts.drop (p + 1 + 1) = rest l := by
  have h1 := drop_next h
  exact ⟨.bare (by rw [h]; exact word_self) (by rw [h1]; exact word_other hx) (ref_of h1 hr), drop_next h1⟩
theorem opt_no {k : Nat} (h : ts.drop p = rest l) (hu : Ph.all.all (fun φ => φ.place == k || !(φ.first == u)) = true) (hp : ∀ φ r, l = φ :: r → φ.place ≠ k) : OptAt ts p u (optAt k l).1 p ∧ ts.drop p = rest (optAt k l).2 := by
  cases l with
  | nil => exact ⟨.no (by rw [h]; exact wordAt_nil), h⟩
  | cons φ r =>
    have hk := hp φ r rfl
    have e : optAt k (φ :: r) = (none, φ :: r) := if_neg hk
    rw [e]
    have := all_of hu φ
    rw [beq_eq_false_iff_ne.mpr hk, Bool.false_or, Bool.not_eq_true'] at this
    exact ⟨.no (by rw [h, wordAt_cons]; exact this), h⟩
theorem at_place {k : Nat} (l : List Ph) : (∃ φ r, l = φ :: r ∧ φ.place = k) ∨ ∀ φ r, l = φ :: r → φ.place ≠ k := by
  cases l with
  | nil => exact .inr fun _ _ e => nomatch e
  | cons φ r => exact if h : φ.place = k then .inl ⟨φ, r, rfl, h⟩ else .inr fun _ _ e => by cases e; exact h
theorem opt_del (h : ts.drop p = rest l) : ∃ p', OptAt ts p (Str.ofString "DELIMITER") (optAt 1 l).1 p' ∧ ts.drop p' = rest (optAt 1 l).2 := by
  rcases at_place (k := 1) l with ⟨φ, r, rfl, hk⟩ | hn
  · cases φ <;> first | (exact absurd hk (by decide)) | exact ⟨_, opt_mid h (what_free (φ := .d1) (by decide))⟩ | exact ⟨_, opt_bare h (what_free (φ := .d2) (by decide)) (by decide +kernel)⟩
  · exact ⟨p, opt_no h (by decide +kernel) hn⟩
theorem opt_cnt (h : ts.drop p = rest l) : ∃ p', OptAt ts p (Str.ofString "COUNT") (optAt 2 l).1 p' ∧ ts.drop p' = rest (optAt 2 l).2 := by
  rcases at_place (k := 2) l with ⟨φ, r, rfl, hk⟩ | hn
  · cases φ <;> first | (exact absurd hk (by decide)) | exact ⟨_, opt_mid h (what_free (φ := .c1) (by decide))⟩ | exact ⟨_, opt_bare h (what_free (φ := .c2) (by decide)) (by decide +kernel)⟩
  · exact ⟨p, opt_no h (by decide +kernel) hn⟩
theorem opt_tal (h : ts.drop p = rest l) : ∃ p', OptAt ts p (Str.ofString "TALLYING") (optAt 4 l).1 p' ∧ ts.drop p' = rest (optAt 4 l).2 := by
  rcases at_place (k := 4) l with ⟨φ, r, rfl, hk⟩ | hn
  · cases φ <;> first | (exact absurd hk (by decide)) | exact ⟨_, opt_mid h (what_free (φ := .t1) (by decide))⟩ | exact ⟨_, opt_bare h (what_free (φ := .t2) (by decide)) (by decide +kernel)⟩
  · exact ⟨p, opt_no h (by decide +kernel) hn⟩
end
/-- a row's two phrases -/
noncomputable def rowParse (l : List Ph) : Option Str × Option Str × List Ph := ((optAt 1 l).1, (optAt 2 (optAt 1 l).2).1, (optAt 2 (optAt 1 l).2).2)
theorem row_l (w : World) (R : RD) (vs : List Value) (ts : List (Str × Str)) (p : Nat) (t : Tok) (g0 : Str) (flag : Bool) (l : List Ph) (e : ts.drop p = tkw g0 :: rest l) (hr : resv g0 = false)
    (hfl : flag = true ∨ ((optAt 1 l).1 = none ∧ (optAt 2 l).1 = none)) :
    RCall w R vs ts p t 328 18 [.ref R.x, .bool flag] fun v o p' => RepL o v (rowD g0 (rowParse l).1 (rowParse l).2.1) ∧ ts.drop p' = rest (rowParse l).2.2 := by
  have e0 := drop_next e
  obtain ⟨q, H1, e1⟩ := opt_del e0
  obtain ⟨p', H2, e2⟩ := opt_cnt e1
  have hD1 := fun a b => H1.t a b
  have hD2 := fun a b => H1.c a b
  have k0 : ∀ {X : Prop}, (∀ q', OptAt ts (p + 1) (Str.ofString "DELIMITER") (optAt 1 l).1 q' → q' = q → X) → X := fun k => k q H1 rfl
  have z0 : wordAt (ts.drop (p + 1)) 0 (Str.ofString "DELIMITER") = false → p + 1 = q := fun a => (OptAt.det (.no a) H1).2
  have z1 : wordAt (ts.drop (p + 1)) 0 (Str.ofString "DELIMITER") = true → wordAt (ts.drop (p + 1 + 1)) 0 (Str.ofString "IN") = true → p + 1 + 1 + 1 + 1 = q := fun a b => (OptAt.det (.mid a b (H1.t a b)) H1).2
  have z2 : wordAt (ts.drop (p + 1)) 0 (Str.ofString "DELIMITER") = true → wordAt (ts.drop (p + 1 + 1)) 0 (Str.ofString "IN") = false → p + 1 + 1 + 1 = q := fun a b => (OptAt.det (.bare a b (H1.c a b)) H1).2
  have hC1 := fun a b c => by have z := z0 a; subst z; exact H2.t b c
  have hC2 := fun a b c => by have z := z0 a; subst z; exact H2.c b c
  have hC3 := fun a a' b c => by have z := z1 a a'; subst z; exact H2.t b c
  have hC4 := fun a a' b c => by have z := z1 a a'; subst z; exact H2.c b c
  have hC5 := fun a a' b c => by have z := z2 a a'; subst z; exact H2.t b c
  have hC6 := fun a a' b c => by have z := z2 a a'; subst z; exact H2.c b c
  refine (row_c w R vs ts p t g0 _ _ flag (ref_of e hr) (fun a => ?_) (fun a b => ?_) hD1 hD2 hC1 hC2 hC3 hC4 hC5 hC6).mono fun v o p'' ⟨dO, cO, rep, ra⟩ => ?_
  · rcases hfl with hfl | ⟨n1, _⟩
    · exact hfl
    · rw [n1] at H1
      cases H1; exact (tf_no a (by assumption)).elim
  · rcases hfl with hfl | ⟨n1, n2⟩
    · exact hfl
    · obtain ⟨_, K, _⟩ := opt_cnt e0
      rw [n2] at K
      cases K; exact (tf_no b (by assumption)).elim
  · have fin : ∀ q' , OptAt ts (p + 1) (Str.ofString "DELIMITER") dO q' → OptAt ts q' (Str.ofString "COUNT") cO p'' → RepL o v (rowD g0 (rowParse l).1 (rowParse l).2.1) ∧ ts.drop p'' = rest (rowParse l).2.2 := fun q' K1 K2 => by
      obtain ⟨a1, a2⟩ := K1.det H1
      subst a2
      obtain ⟨b1, b2⟩ := K2.det H2
      subst b2
      refine ⟨?_, e2⟩
      show RepL o v (rowD g0 (optAt 1 l).1 (optAt 2 (optAt 1 l).2).1)
      rw [← a1, ← b1]
      exact rep
    cases ra with
    | cnn a b => exact fin _ (.no a) (.no b)
    | cni a b c => exact fin _ (.no a) (.mid b c (hC1 a b c))
    | cnc a b c => exact fin _ (.no a) (.bare b c (hC2 a b c))
    | cin a b c => exact fin _ (.mid a b (hD1 a b)) (.no c)
    | cii a b c d => exact fin _ (.mid a b (hD1 a b)) (.mid c d (hC3 a b c d))
    | cic a b c d => exact fin _ (.mid a b (hD1 a b)) (.bare c d (hC4 a b c d))
    | cdn a b c => exact fin _ (.bare a b (hD2 a b)) (.no c)
    | cdi a b c d => exact fin _ (.bare a b (hD2 a b)) (.mid c d (hC5 a b c d))
    | cdc a b c d => exact fin _ (.bare a b (hD2 a b)) (.bare c d (hC6 a b c d))

end
section
theorem first_inv {l : List Ph} {u : Str} (h : wordAt (rest l) 0 u = true) : ∃ φ r, l = φ :: r ∧ (φ.first == u) = true := by
  cases l with
  | nil => exact (tf_no h wordAt_nil).elim
  | cons φ r => rw [wordAt_cons] at h; exact ⟨φ, r, rfl, h⟩
theorem first_on {l : List Ph} (h : wordAt (rest l) 0 (Str.ofString "ON") = true) : ∃ r, l = .ov :: r := by
  obtain ⟨φ, r, rfl, e⟩ := first_inv h
  cases φ <;> first | exact ⟨_, rfl⟩ | exact absurd e (by decide +kernel)
theorem first_not {l : List Ph} (h : wordAt (rest l) 0 (Str.ofString "NOT") = true) : ∃ r, l = .nv :: r := by
  obtain ⟨φ, r, rfl, e⟩ := first_inv h
  cases φ <;> first | exact ⟨_, rfl⟩ | exact absurd e (by decide +kernel)
theorem first_with {l : List Ph} (h : wordAt (rest l) 0 (Str.ofString "WITH") = true) : (∃ r, l = .p1 :: r) ∨ ∃ r, l = .wt :: r := by
  obtain ⟨φ, r, rfl, e⟩ := first_inv h
  cases φ <;> first | exact .inl ⟨_, rfl⟩ | exact .inr ⟨_, rfl⟩ | exact absurd e (by decide +kernel)
theorem first_ptr {l : List Ph} (h : wordAt (rest l) 0 (Str.ofString "POINTER") = true) : ∃ r, l = .p2 :: r := by
  obtain ⟨φ, r, rfl, e⟩ := first_inv h
  cases φ <;> first | exact ⟨_, rfl⟩ | exact absurd e (by decide +kernel)
theorem first_end {l : List Ph} (h : wordAt (rest l) 0 (Str.ofString "END-UNSTRING") = true) : ∃ r, l = .eu :: r := by
  obtain ⟨φ, r, rfl, e⟩ := first_inv h
  cases φ <;> first | exact ⟨_, rfl⟩ | exact absurd e (by decide +kernel)
theorem no_first {l : List Ph} {φ : Ph} {r : List Ph} {u : Str} (h : wordAt (rest l) 0 u = false) (e : l = φ :: r) (k : (φ.first == u) = true) : False := by
  rw [e, wordAt_cons] at h
  exact tf_no k h
section
variable {ts : List (Str × Str)} {p : Nat} {l : List Ph}
theorem at0 {a : Str × Str} {r : List (Str × Str)} {u : Str} (h : ts.drop p = a :: r) (k : wordAt (a :: r) 0 u = true) : wordAt (ts.drop p) 0 u = true := by rw [h]; exact k
theorem at0f {a : Str × Str} {r : List (Str × Str)} {u : Str} (h : ts.drop p = a :: r) (k : wordAt (a :: r) 0 u = false) : wordAt (ts.drop p) 0 u = false := by rw [h]; exact k
theorem opt_none {k : Nat} (hn : ∀ φ r, l = φ :: r → φ.place ≠ k) : optAt k l = (none, l) := by
  cases l with
  | nil => rfl
  | cons φ r => exact if_neg (hn φ r rfl)
theorem never_over : Ph.all.all (fun φ => !(φ.first == Str.ofString "OVERFLOW")) = true := by decide +kernel
theorem never_cont : Ph.all.all (fun φ => !(φ.first == Str.ofString "CONTINUE")) = true := by decide +kernel
theorem no_ptr (h : ts.drop p = rest l) (hn : ∀ φ r, l = φ :: r → φ.place ≠ 3) (hp : ∀ r, l ≠ .p2 :: r) : wordAt (ts.drop p) 0 (Str.ofString "POINTER") = false := by
  cases q : wordAt (ts.drop p) 0 (Str.ofString "POINTER") with
  | false => rfl
  | true => rw [h] at q; obtain ⟨r, e⟩ := first_ptr q; exact absurd e (hp r)
end
theorem ptr_l (w : World) (R : RD) (vs : List Value) (ts : List (Str × Str)) (p : Nat) (t : Tok) (l : List Ph) (h : ts.drop p = rest l) :
    RCall w R vs ts p t 314 16 [.ref R.x] fun v o p' => RepL o v (optD (optAt 3 l).1) ∧ ts.drop p' = rest (optAt 3 l).2 := by
  have P1 : ∀ r, l = .p1 :: r → RefAt ts (p + 1 + 1) (Str.ofString "P") ∧ ts.drop (p + 1 + 1 + 1) = rest r := fun r e => by
    subst e
    have h1 := drop_next (drop_next h)
    exact ⟨ref_of h1 (what_free (φ := .p1) (by decide)), drop_next h1⟩
  have P2 : ∀ r, l = .p2 :: r → RefAt ts (p + 1) (Str.ofString "P2") ∧ ts.drop (p + 1 + 1) = rest r := fun r e => by
    subst e
    have h1 := drop_next h
    exact ⟨ref_of h1 (what_free (φ := .p2) (by decide)), drop_next h1⟩
  have W : ∀ r, l = .wt :: r → wordAt (ts.drop p) 1 (Str.ofString "POINTER") = false := fun r e => by
    subst e
    rw [word_next, drop_next h]
    exact word_other (by decide +kernel)
  have V : ∀ r, l = .p1 :: r → wordAt (ts.drop p) 1 (Str.ofString "POINTER") = true := fun r e => by
    subst e
    rw [word_next, drop_next h]
    exact word_self
  have hW : wordAt (ts.drop p) 0 (Str.ofString "WITH") = true → wordAt (ts.drop p) 1 (Str.ofString "POINTER") = true → ∃ r, l = .p1 :: r := fun a b => by
    rw [h] at a
    rcases first_with a with e | ⟨r, e⟩
    · exact e
    · exact (tf_no b (W r e)).elim
  have hP : wordAt (ts.drop p) 0 (Str.ofString "POINTER") = true → ∃ r, l = .p2 :: r := fun a => first_ptr (h ▸ a)
  have dW : ∀ r, l = .p1 :: r → (optAt 3 l).1.getD default = Str.ofString "P" := fun r e => by subst e; rfl
  have dP : ∀ r, l = .p2 :: r → (optAt 3 l).1.getD default = Str.ofString "P2" := fun r e => by subst e; rfl
  have none_of : (∀ r, l ≠ .p1 :: r) → (∀ r, l ≠ .p2 :: r) → optAt 3 l = (none, l) := fun a b => opt_none fun φ r e k => by
    subst e
    cases φ <;> first | exact absurd k (by decide) | exact a _ rfl | exact b _ rfl
  refine (pointer_c w R vs ts p t ((optAt 3 l).1.getD default) (fun a b => ?_) (fun a => ?_)).mono fun v o p' ⟨dO, rep, pt⟩ => ?_
  · obtain ⟨r, e⟩ := hW a b
    rw [dW r e]; exact (P1 r e).1
  · obtain ⟨r, e⟩ := hP a
    rw [dP r e]; exact (P2 r e).1
  · have n2 : wordAt (ts.drop p) 0 (Str.ofString "POINTER") = false → ∀ r, l ≠ .p2 :: r := fun a r e => no_first (h ▸ a) e (by decide +kernel)
    cases pt with
    | w a b =>
      obtain ⟨r, e⟩ := hW a b
      subst e
      exact ⟨rep, (P1 r rfl).2⟩
    | a a b =>
      obtain ⟨r, e⟩ := hP b
      subst e
      exact ⟨rep, (P2 r rfl).2⟩
    | b a b =>
      obtain ⟨r, e⟩ := hP b
      subst e
      exact ⟨rep, (P2 r rfl).2⟩
    | m a b =>
      rw [none_of (fun r e => no_first (h ▸ a) e (by decide +kernel)) (n2 b)]
      exact ⟨rep, h⟩
    | n a b =>
      rw [none_of (fun r e => tf_no (V r e) a) (n2 b)]
      exact ⟨rep, h⟩
noncomputable def brs : List Ph → List D × List Ph
  | .ov :: .nv :: r => ([ovD, notD], r)
  | .ov :: r => ([ovD], r)
  | .nv :: r => ([notD], r)
  | r => ([], r)
theorem RCallK.mono {w : World} {R : RD} {vs : List Value} {ts : List (Str × Str)} {p : Int} {t : Tok} {f : Addr} {n : Nat} {args : List Value} {kt : Addr} {ko : Obj} {post post' : Value → List (Addr × Obj) → Nat → Prop} (H : RCallK w R vs ts p t f n args kt ko post) (h : ∀ v l p', post v l p' → post' v l p') : RCallK w R vs ts p t f n args kt ko post' :=
  fun s hT hk0 A A₀ env outer base h₀ L m pr loose mean mg mb Q E hH hA hf hk B F X N T hd hu hR =>
    H s hT hk0 A A₀ env outer base h₀ L m pr loose mean mg mb Q E hH hA hf hk B F X N T hd hu fun v l h' tk' p' t' a b c => hR v l h' tk' p' t' a b (h v l p' c)
/-- NOT OVERFLOW CONTINUE CONTINUE stands at q -/
theorem not_at {ts : List (Str × Str)} {q : Nat} {r : List Ph} (h : ts.drop q = rest (.nv :: r)) : wordAt (ts.drop q) 1 (Str.ofString "OVERFLOW") = true ∧ wordAt (ts.drop q) 1 (Str.ofString "ON") = false ∧ wordAt (ts.drop (q + 1 + 1)) 0 (Str.ofString "CONTINUE") = true ∧
    wordAt (ts.drop (q + 1 + 1 + 1)) 0 (Str.ofString "CONTINUE") = true ∧ wordAt (ts.drop (q + 1 + 1 + 1 + 1)) 0 (Str.ofString "CONTINUE") = false ∧ ts.drop (q + 1 + 1 + 1 + 1) = rest r := by
  have h1 := drop_next h
  have h2 := drop_next h1
  have h3 := drop_next h2
  have h4 := drop_next h3
  exact ⟨by rw [word_next, h1]; exact word_self, by rw [word_next, h1]; exact word_other (by decide +kernel), by rw [h2]; exact word_self, by rw [h3]; exact word_self, by rw [h4]; exact never never_cont r, h4⟩
theorem on_at {ts : List (Str × Str)} {q : Nat} {r : List Ph} (h : ts.drop q = rest (.ov :: r)) : wordAt (ts.drop q) 1 (Str.ofString "OVERFLOW") = true ∧ wordAt (ts.drop (q + 1 + 1)) 0 (Str.ofString "CONTINUE") = true ∧
    wordAt (ts.drop (q + 1 + 1 + 1)) 0 (Str.ofString "CONTINUE") = false ∧ ts.drop (q + 1 + 1 + 1) = rest r := by
  have h1 := drop_next h
  have h2 := drop_next h1
  have h3 := drop_next h2
  exact ⟨by rw [word_next, h1]; exact word_self, by rw [h2]; exact word_self, by rw [h3]; exact never never_cont r, h3⟩
theorem br_l (w : World) (R : RD) (vs : List Value) (ts : List (Str × Str)) (p : Nat) (t : Tok) (kt : Addr) (k1 k2 : Tok) (l : List Ph) (h : ts.drop p = rest l) :
    RCallK w R vs ts p t 272 24 [.ref R.x, .ref 605, .ref kt] kt (tupO [.str (Str.ofString "over") k1, .str (Str.ofString "not over") k2]) fun v o p' => RepL o v (.tup (brs l).1) ∧ ts.drop p' = rest (brs l).2 := by
  have hO : wordAt (ts.drop p) 0 (Str.ofString "ON") = true → ∃ r, l = .ov :: r := fun a => first_on (h ▸ a)
  have hN : wordAt (ts.drop p) 0 (Str.ofString "NOT") = true → ∃ r, l = .nv :: r := fun a => first_not (h ▸ a)
  have hON : wordAt (ts.drop p) 0 (Str.ofString "ON") = true → wordAt (ts.drop (p + 1 + 1 + 1)) 0 (Str.ofString "NOT") = true → ∃ r, l = .ov :: .nv :: r ∧ ts.drop (p + 1 + 1 + 1) = rest (.nv :: r) := fun a b => by
    obtain ⟨r, rfl⟩ := hO a
    have e := (on_at h).2.2.2
    rw [e] at b
    obtain ⟨r', rfl⟩ := first_not b
    exact ⟨r', rfl, e⟩
  refine (branches_c w R vs ts p t kt k1 k2 (by rw [h]; exact never never_over l) (fun a => ?_) (fun a => ?_) (fun a => ?_) (fun _ a => ?_) (fun _ a => ?_) (fun _ a => ?_) (fun _ a => ?_) (fun _ a => ?_) (fun a b => ?_) (fun a b => ?_) (fun a b => ?_) (fun a b => ?_) (fun a b => ?_)).mono fun v o p' ⟨ds, rep, br⟩ => ?_
  · obtain ⟨r, rfl⟩ := hO a; exact (on_at h).1
  · obtain ⟨r, rfl⟩ := hO a; exact (on_at h).2.1
  · obtain ⟨r, rfl⟩ := hO a; exact (on_at h).2.2.1
  · obtain ⟨r, rfl⟩ := hN a; exact (not_at h).1
  · obtain ⟨r, rfl⟩ := hN a; exact (not_at h).2.1
  · obtain ⟨r, rfl⟩ := hN a; exact (not_at h).2.2.1
  · obtain ⟨r, rfl⟩ := hN a; exact (not_at h).2.2.2.1
  · obtain ⟨r, rfl⟩ := hN a; exact (not_at h).2.2.2.2.1
  · obtain ⟨r, rfl, e⟩ := hON a b; exact (not_at e).1
  · obtain ⟨r, rfl, e⟩ := hON a b; exact (not_at e).2.1
  · obtain ⟨r, rfl, e⟩ := hON a b; exact (not_at e).2.2.1
  · obtain ⟨r, rfl, e⟩ := hON a b; exact (not_at e).2.2.2.1
  · obtain ⟨r, rfl, e⟩ := hON a b; exact (not_at e).2.2.2.2.1
  · cases br with
    | nn a b =>
      have : brs l = ([], l) := by
        unfold brs
        split
        · exact (no_first (h ▸ a) rfl (by decide +kernel)).elim
        · exact (no_first (h ▸ a) rfl (by decide +kernel)).elim
        · exact (no_first (h ▸ b) rfl (by decide +kernel)).elim
        · rfl
      rw [this]; exact ⟨rep, h⟩
    | on a b =>
      obtain ⟨r, rfl⟩ := hO a
      have e := (on_at h).2.2.2
      have : brs (.ov :: r) = ([ovD], r) := by
        cases r with
        | nil => rfl
        | cons φ r => cases φ <;> first | rfl | (exact (no_first (e ▸ b) rfl (by decide +kernel)).elim)
      rw [this]; exact ⟨rep, e⟩
    | nt a b =>
      obtain ⟨r, rfl⟩ := hN b
      exact ⟨rep, (not_at h).2.2.2.2.2⟩
    | ot a b =>
      obtain ⟨r, rfl, e⟩ := hON a b
      exact ⟨rep, (not_at e).2.2.2.2.2⟩
/-- without marks: the row's fault -/
theorem rowf_l (w : World) (R : RD) (vs : List Value) (ts : List (Str × Str)) (p : Nat) (t : Tok) (g0 : Str) (ta : Addr) (l : List Ph) (e : ts.drop p = tkw g0 :: rest l) (hr : resv g0 = false) (hf : (optAt 1 l).1 ≠ none ∨ (optAt 2 l).1 ≠ none) :
    TCall w R vs ts p t 328 18 [.ref R.x, .bool false] (p + 1) ta whatD := by
  have e0 := drop_next e
  have hi : p + 1 < ts.length := by
    obtain ⟨k, u, r, e1, _⟩ := rest_first l
    have : (ts.drop (p + 1)).length = ((k, u) :: r).length := by rw [e0, e1]
    rw [List.length_drop, List.length_cons] at this
    omega
  obtain ⟨q1, H1, _⟩ := opt_del e0
  obtain ⟨q2, H2, _⟩ := opt_cnt e0
  have n1 : (optAt 1 l).1 ≠ none → wordAt (ts.drop (p + 1)) 0 (Str.ofString "DELIMITER") = true := fun h => by
    revert h H1
    generalize (optAt 1 l).1 = dO
    intro H1 h
    cases H1 with
    | no _ => exact absurd rfl h
    | mid a _ _ => exact a
    | bare a _ _ => exact a
  have n2 : (optAt 2 l).1 ≠ none → wordAt (ts.drop (p + 1)) 0 (Str.ofString "COUNT") = true := fun h => by
    revert h H2
    generalize (optAt 2 l).1 = dO
    intro H2 h
    cases H2 with
    | no _ => exact absurd rfl h
    | mid a _ _ => exact a
    | bare a _ _ => exact a
  cases q : wordAt (ts.drop (p + 1)) 0 (Str.ofString "DELIMITER") with
  | true => exact rowf_c w R vs ts p t g0 ta (ref_of e hr) hi (.inl q)
  | false =>
    refine rowf_c w R vs ts p t g0 ta (ref_of e hr) hi (.inr ⟨q, n2 ?_⟩)
    rcases hf with hf | hf
    · exact (tf_no (n1 hf) q).elim
    · exact hf

end
section
/-- what earlier calls left behind: objects off these addresses, values that tell these -/
structure Deep (as : List Addr) (tl : List (Addr × Obj)) (xs : List (Value × D)) (vr : List Value) (dr : List D) : Prop where
  ne : ∀ a ∈ as, ∀ q ∈ tl, q.1 ≠ a
  rep : ∀ x ∈ xs, RepL tl x.1 x.2
  row : RepA (fun a o => (a, o) ∈ tl) vr dr
theorem Deep.nil {as : List Addr} : Deep as [] [] [] [] := ⟨fun _ _ _ h => (nomatch h), fun _ h => (nomatch h), .nil⟩
section
variable {w : World} {R : RD} {vs : List Value} {ts : List (Str × Str)} {p : Nat} {t : Tok} {h₀ : Heap} {L : Addr} {m : Str → Option Value} {news tl : List (Addr × Obj)} {s : Shared} {f : Addr} {n M : Nat} {args : List Value} {A : Around} {Q E : Value → Shared → Prop} {as : List Addr} {xs : List (Value × D)} {vr : List Value} {dr : List D} {d : D} {r : List (Str × Str)}
/-- explicit objects, then a tail -/
inductive Spl (tl : List (Addr × Obj)) : List (Addr × Obj) → List (Addr × Obj) → Prop
  | nil : Spl tl tl []
  | cons {a : Addr × Obj} {n fr : List (Addr × Obj)} : Spl tl n fr → Spl tl (a :: n) (a :: fr)
theorem Spl.eq {tl n fr : List (Addr × Obj)} (h : Spl tl n fr) : n = fr ++ tl := by
  induction h with
  | nil => rfl
  | cons _ ih => rw [ih]; rfl
theorem RCall.useT1 {news' fr : Nat → Tok → List (Addr × Obj)} (C : Cx w R vs ts A L h₀ M) (F : Fr h₀ L s.heap m) (N : News h₀ L s.heap news) (m1 : (R.x, rdX R.dx) ∈ news) (m2 : (R.dx, rdD w R p t) ∈ news) (H : Meets w f n (rdL w R p t) s args fun Q _ => ∀ v l h' tk' (p' : Nat) t', After w R p' t' s.heap h' → New s.heap h' l → (RepL l v d ∧ ts.drop p' = r) → Q v { s with heap := h', toks := tk' }) (hn : n ≤ M) (P : Deep as tl xs vr dr)
    (U : ∀ (p' : Nat) t', Upd R.dx (rdD w R p t) (rdD w R p' t') news (news' p' t')) (S : ∀ p' t', Spl tl (news' p' t') (fr p' t')) (has : ∀ a ∈ as, ∃ o, (a, o) ∈ news)
    (h : ∀ v p' h' tk' t' tl', ts.drop p' = r → Fr h₀ L h' m → News h₀ L h' (fr p' t' ++ tl') → Deep as tl' ((v, d) :: xs) vr dr → Q v { s with heap := h', toks := tk' }) :
    wpAny (model rw.prog w) A (call (.ref f) args) Q E s :=
  RCall.use1 C F N m1 m2 H hn fun v l h' tk' p' t' F' N' ne ⟨rp, dr⟩ => by
    have e := (S p' t').eq
    refine h v p' h' tk' t' (l ++ tl) dr F' (fun q hq => N' _ (U p' t') q ?_) ⟨fun a ha q hq => ?_, fun x hx => ?_, P.row.mono fun a o hq => List.mem_append_right _ hq⟩
    · rw [e]
      rcases List.mem_append.mp hq with hq | hq
      · exact List.mem_append_right _ (List.mem_append_left _ hq)
      · rcases List.mem_append.mp hq with hq | hq
        · exact List.mem_append_left _ hq
        · exact List.mem_append_right _ (List.mem_append_right _ hq)
    · rcases List.mem_append.mp hq with hq | hq
      · obtain ⟨o, ho⟩ := has a ha
        exact Ne.symm (ne _ ho q hq)
      · exact P.ne a ha q hq
    · rcases List.mem_cons.mp hx with rfl | hx
      · exact rp.mono fun q hq => List.mem_append_left _ hq
      · exact (P.rep x hx).mono fun q hq => List.mem_append_right _ hq
theorem RCall.useT {news' fr : Nat → Tok → List (Addr × Obj)} (C : Cx w R vs ts A L h₀ M) (F : Fr h₀ L s.heap m) (N : News h₀ L s.heap news) (m1 : (R.x, rdX R.dx) ∈ news) (m2 : (R.dx, rdD w R p t) ∈ news) (H : RCall w R vs ts p t f n args fun v l p' => RepL l v d ∧ ts.drop p' = r) (hn : n ≤ M) (P : Deep as tl xs vr dr)
    (U : ∀ (p' : Nat) t', Upd R.dx (rdD w R p t) (rdD w R p' t') news (news' p' t')) (S : ∀ p' t', Spl tl (news' p' t') (fr p' t')) (has : ∀ a ∈ as, ∃ o, (a, o) ∈ news)
    (h : ∀ v p' h' tk' t' tl', ts.drop p' = r → Fr h₀ L h' m → News h₀ L h' (fr p' t' ++ tl') → Deep as tl' ((v, d) :: xs) vr dr → Q v { s with heap := h', toks := tk' }) :
    wpAny (model rw.prog w) A (call (.ref f) args) Q E s := RCall.useT1 C F N m1 m2 (H s (C.T.keepAll F.keep)) hn P U S has h
end
theorem ref_l (w : World) (R : RD) (vs : List Value) (ts : List (Str × Str)) (p : Nat) (t : Tok) (u : Str) (r : List (Str × Str)) (H : RefAt ts p u) (h : ts.drop (p + 1) = r) : RCall w R vs ts p t 286 14 [.ref R.x] fun v l p' => RepL l v (itemD u) ∧ ts.drop p' = r :=
  (ref_here_r w R vs ts p t u H).mono fun v l p' e => by
    obtain ⟨a, b, c, t0, t1, rfl, rfl, rfl⟩ := e
    exact ⟨.tup (.head _) (.cons (.str _ _) (.cons (.str _ _) (.cons (.tup (.tail _ (.head _)) .nil) (.cons (.tup (.tail _ (.tail _ (.head _))) .nil) (.cons .none .nil))))), h⟩
/-- the delimiters' words -/
noncomputable def markToks : Bool → List (Str × Str)
  | true => [tkw (Str.ofString "DELIMITED"), tkw (Str.ofString "BY"), (Str.ofString "literal", Str.ofString ","), tkw (Str.ofString "OR"), tkw (Str.ofString "ALL"), tkw (Str.ofString "SPACE")]
  | false => []
noncomputable def markDs : Bool → D
  | true => marksD
  | false => .tup []
theorem sgn_no {k u v : Str} {r : List (Str × Str)} (h : (k == Str.ofString "sign") = false) : signAt ((k, u) :: r) 0 v = false := by
  show (k == _ && u == v) = false
  rw [h]; rfl
theorem kind_is {k u v : Str} {r : List (Str × Str)} {b : Bool} (h : (k == v) = b) : kindAt ((k, u) :: r) 0 v = b := h
theorem word_lit {k u v : Str} {r : List (Str × Str)} (h : (k == Str.ofString "word") = false) : wordAt ((k, u) :: r) 0 v = false := by
  show (k == _ && u == v) = false
  rw [h]; rfl
theorem delim_l (w : World) (R : RD) (vs : List Value) (ts : List (Str × Str)) (p : Nat) (t : Tok) (cut : Bool) (r : List (Str × Str)) (h : ts.drop p = markToks cut ++ tkw (Str.ofString "INTO") :: r) :
    RCall w R vs ts p t 321 24 [.ref R.x] fun v l p' => RepL l v (markDs cut) ∧ ts.drop p' = tkw (Str.ofString "INTO") :: r := by
  cases cut with
  | false =>
    refine (delim_no_c w R vs ts p t (at0f (r := r) h (word_other (by decide +kernel)))).mono fun v l p' e => ⟨e.1, ?_⟩
    rw [e.2]; exact h
  | true =>
    have h1 := drop_next h
    have h2 := drop_next h1
    have h3 := drop_next h2
    have h4 := drop_next h3
    have h5 := drop_next h4
    have h6 := drop_next h5
    have hs : resv (Str.ofString "SPACE") = true := resv_is (by simp)
    refine (delim_c w R vs ts p t ⟨at0 h word_self, at0 h1 word_self, at0f h2 (word_lit (by decide +kernel)), ?_, ?_, ?_, ?_, ?_, at0 h3 word_self, at0 h4 word_self, ?_, ?_, ?_, ?_, ?_, ?_, at0f h5 (word_other (by decide +kernel)), ?_, at0f h6 (word_other (by decide +kernel))⟩).mono fun v l p' e => ⟨e.1, ?_⟩
    · rw [h2]; exact sgn_no (by decide +kernel)
    · rw [h2]; exact sgn_no (by decide +kernel)
    · rw [h2]; exact kind_is (by decide +kernel)
    · rw [h2]; exact kind_is (by decide +kernel)
    · rw [h2]; rfl
    · rw [h5]; exact sgn_no (by decide +kernel)
    · rw [h5]; exact sgn_no (by decide +kernel)
    · rw [h5]; exact kind_is (by decide +kernel)
    · rw [h5]; exact kind_is (by decide +kernel)
    · rw [h5]
      show (Str.ofString "word" == Str.ofString "word" && !resv (Str.ofString "SPACE")) = false
      rw [hs, Bool.not_true, Bool.and_false]
    · rw [h5]; exact kind_is (by decide +kernel)
    · rw [h5]; rfl
    · rw [e.2]; exact h6
/-- the rows behind the first -/
inductive Rows (cut : Bool) : List Ph → List D → List Ph → Prop
  | done {l : List Ph} : (∀ r, l ≠ .g2 :: r) → Rows cut l [] l
  | row {l : List Ph} {ds : List D} {l' : List Ph} : (cut = true ∨ ((optAt 1 l).1 = none ∧ (optAt 2 l).1 = none)) → Rows cut (rowParse l).2.2 ds l' → Rows cut (.g2 :: l) (rowD (Str.ofString "G2") (rowParse l).1 (rowParse l).2.1 :: ds) l'
inductive RowsF : List Ph → List Ph → Prop
  | here {l : List Ph} : ((optAt 1 l).1 ≠ none ∨ (optAt 2 l).1 ≠ none) → RowsF (.g2 :: l) l
  | next {l l' : List Ph} : (optAt 1 l).1 = none → (optAt 2 l).1 = none → RowsF l l' → RowsF (.g2 :: l) l'
noncomputable def Rows1 (cut : Bool) (l : List Ph) (ds : List D) (l' : List Ph) : Prop := (cut = true ∨ ((optAt 1 l).1 = none ∧ (optAt 2 l).1 = none)) ∧ ∃ ds', ds = rowD (Str.ofString "G") (rowParse l).1 (rowParse l).2.1 :: ds' ∧ Rows cut (rowParse l).2.2 ds' l'
noncomputable def RowsF1 (l l' : List Ph) : Prop := (l' = l ∧ ((optAt 1 l).1 ≠ none ∨ (optAt 2 l).1 ≠ none)) ∨ ((optAt 1 l).1 = none ∧ (optAt 2 l).1 = none ∧ RowsF l l')
theorem rest_len (l : List Ph) : l.length < (rest l).length := by
  induction l with
  | nil => exact Nat.zero_lt_one
  | cons φ r ih =>
    show r.length + 1 < (φ.words.map tkw ++ rest r).length
    rw [φ.words_eq, List.length_append, List.length_map, List.length_cons]
    omega
theorem drop_at {ts : List (Str × Str)} {p : Nat} {l : List Ph} (h : ts.drop p = rest l) : p = ts.length - (rest l).length := by
  have h1 := congrArg List.length h
  have h2 := rest_len l
  rw [List.length_drop] at h1
  omega
theorem optAt_len (k : Nat) (l : List Ph) : (optAt k l).2.length ≤ l.length := by
  cases l with
  | nil => exact Nat.le_refl _
  | cons φ r =>
    show (if φ.place = k then (some φ.what, r) else ((none : Option Str), φ :: r)).2.length ≤ _
    split
    · exact Nat.le_succ _
    · exact Nat.le_refl _
theorem rowParse_len (l : List Ph) : (rowParse l).2.2.length ≤ l.length := Nat.le_trans (optAt_len 2 _) (optAt_len 1 _)
theorem name_g2 {ts : List (Str × Str)} {p : Nat} {r : List (Str × Str)} (h : ts.drop p = tkw (Str.ofString "G2") :: r) : nameAt (ts.drop p) 0 = true := by
  rw [h]
  show (Str.ofString "word" == Str.ofString "word" && !resv (Str.ofString "G2")) = true
  rw [show resv (Str.ofString "G2") = false from what_free (φ := .g2) (by decide), beq_self_eq_true]; rfl
theorem name_not {ts : List (Str × Str)} {p : Nat} {l : List Ph} (h : ts.drop p = rest l) (hn : ∀ r, l ≠ .g2 :: r) : nameAt (ts.drop p) 0 = false := by
  rw [h]
  cases l with
  | nil =>
    show (Str.ofString "sign" == Str.ofString "word" && !resv (Str.ofString ".")) = false
    rw [show (Str.ofString "sign" == Str.ofString "word") = false by decide +kernel]; rfl
  | cons φ r =>
    have hr : resv φ.first = true := by
      cases φ <;> first | (exact absurd rfl (hn r)) | exact resv_is (by simp [Ph.first, Ph.words])
    show nameAt (φ.words.map tkw ++ rest r) 0 = false
    rw [φ.words_eq]
    show (Str.ofString "word" == Str.ofString "word" && !resv φ.first) = false
    rw [hr, Bool.not_true, Bool.and_false]

end
theorem row60 : True := by
  k_with "tails" => (first | exact Spl.nil | (refine' Spl.cons ?_; walk_at "tails"))
  k_with "has" => (first | exact List.forall_mem_nil _ | (refine List.forall_mem_cons.mpr ⟨⟨_, by k_mem⟩, ?_⟩; walk_at "has"))
  trivial
section
theorem tails_news {h₀ h : Heap} {L : Addr} {news : List (Addr × Obj)} {as : List Addr} (N : News h₀ L h news) : ∃ tl, Deep as tl [] [] [] ∧ News h₀ L h (news ++ tl) := ⟨[], Deep.nil, by rwa [List.append_nil]⟩
theorem row61 : True := by
  k_with "use_t" => ((fail_if_success k_extra "off45"); ((case C => with_reducible assumption); (case F => k_asm); (case N => k_asm); (try (case m3 => k_mem)); (case m1 => k_mem); (case m2 => k_mem); (case P => with_reducible assumption); (case hn => exact Nat.le_of_ble_eq_true rfl); (case U => intro p9 t9; k_upd); (case S => intro p9 t9; walk_at "tails"); (case has => walk_at "has"); (try clear hP); (try clear hd9); (try clear hd8); intro v9 p9 h9 tk9 t9 tl9 hd9 F9 N9 hP; simp only [List.cons_append, List.nil_append] at N9; k_sweep; (try dsimp only); (try k_fold)))
  k_with "use_t1" => ((fail_if_success k_extra "off45"); ((case C => with_reducible assumption); (case F => k_asm); (case N => k_asm); (case m1 => k_mem); (case m2 => k_mem); (case P => with_reducible assumption); (case hn => exact Nat.le_of_ble_eq_true rfl); (case U => intro p9 t9; k_upd); (case S => intro p9 t9; walk_at "tails"); (case has => walk_at "has"); (try clear hP); (try clear hd9); (try clear hd8); (try clear hdg); intro hok9 v9 p9 h9 tk9 t9 tl9 hd9 F9 N9 hP; simp only [List.cons_append, List.nil_append] at N9; k_sweep; (try dsimp only); (try k_fold)))
  k_with "k_all" => ((fail_if_success k_extra "off45"); first | exact hP.ne _ (by k_mem) | fail "deep")
  k_with "call ref" => ((fail_if_success k_extra "off45"); k_dflt ((with_reducible show wpAny _ _ (call (Value.ref 286) _) _ _ _); refine' RCall.useT ?C ?F ?N ?m1 ?m2 (ref_l _ _ _ _ _ _ _ _ hS hS2) ?hn ?P ?U ?S ?has ?_; walk_at "use_t"))
  k_with "call ref" => ((fail_if_success k_extra "off45"); k_dflt ((with_reducible show wpAny _ _ (call (Value.ref 321) _) _ _ _); refine' RCall.useT ?C ?F ?N ?m1 ?m2 (delim_l _ _ _ _ _ _ cut _ hd9) ?hn ?P ?U ?S ?has ?_; clear hd9; walk_at "use_t"; have hw9 := at0 hd9 word_self; have hd8 := drop_next hd9; clear hd9))
  trivial
theorem RepA.len {P : Addr → Obj → Prop} : ∀ {vs : List Value} {ds : List D}, RepA P vs ds → vs.length = ds.length
  | _, _, .nil => rfl
  | _, _, .cons _ r => congrArg Nat.succ r.len
theorem rep_tup {P : Addr → Obj → Prop} {v : Value} {ds : List D} (h : RepN P v (.tup ds)) : ∃ a vs, v = .ref a ∧ P a (tupO vs) ∧ RepA P vs ds := by
  cases h with
  | tup a r => exact ⟨_, _, rfl, a, r⟩
/-- a tail of a list -/
inductive Tl (tl : List (Addr × Obj)) : List (Addr × Obj) → Prop
  | nil : Tl tl tl
  | cons {a : Addr × Obj} {n : List (Addr × Obj)} : Tl tl n → Tl tl (a :: n)
theorem Tl.mem {tl n : List (Addr × Obj)} (h : Tl tl n) : ∀ q ∈ tl, q ∈ n := by
  induction h with
  | nil => exact fun _ h => h
  | cons _ ih => exact fun q hq => .tail _ (ih q hq)
theorem row62 : True := by
  k_with "tl" => ((fail_if_success k_extra "off45"); first | exact Tl.nil | (refine' Tl.cons ?_; walk_at "tl"))
  trivial
theorem ne_marks {w : World} {A : Around} {E : Value → Shared → Prop} {s : Shared} {h₀ : Heap} {L D' : Addr} {news tl : List (Addr × Obj)} {as : List Addr} {xs : List (Value × D)} {vr : List Value} {dr : List D} {cut : Bool} {v : Value} {prog : Program} {Q : Value → Shared → Prop} (N : News h₀ L s.heap news) (hP : Deep as tl xs vr dr) (hx : (v, markDs cut) ∈ xs) (S : Tl tl news) (hD : (D', tupO []) ∈ news) (hu : A.units < cLine) (h : Q (.bool cut) s) :
    wpAny (model prog w) A (compareOp .NotEq v (.ref D')) Q E s := by
  have rp := hP.rep _ hx
  obtain ⟨ds, hds, hz⟩ : ∃ ds, markDs cut = .tup ds ∧ (ds.length == 0) = !cut := by cases cut <;> exact ⟨_, rfl, rfl⟩
  rw [show ((v, markDs cut) : Value × D).2 = _ from hds] at rp
  obtain ⟨a, vs, rfl, ha, r⟩ := rep_tup rp
  have hin : (a, tupO vs) ∈ news := S.mem _ ha
  refine (PySem.SeqAt.RcNeAt.tuples (A := A) (s := s) (items := vs.toArray) (items2 := #[]) (e := fun _ => true) ⟨_, (N _ hin).1, rfl, _, rfl⟩ ⟨_, (N _ hD).1, rfl, _, rfl⟩ hu (fun j _ h2 => absurd h2 (Nat.not_lt_zero j))) prog w E Q ?_
  have e : (!((List.range (min vs.toArray.size (#[] : Array Value).size)).all (fun _ => true) && vs.toArray.size == (#[] : Array Value).size)) = cut := by
    rw [show (min vs.toArray.size (#[] : Array Value).size) = 0 from Nat.min_zero _]
    show (!(true && vs.length == 0)) = cut
    rw [r.len, hz]
    cases cut <;> rfl
  rw [e]; exact h
theorem row63 : True := by
  k_with "compareOp NotEq" => ((fail_if_success k_extra "off45"); k_dflt (refine' ne_marks (cut := cut) ?N ?P ?x ?S ?D ?u ?_; (case N => k_asm); (case P => with_reducible assumption); (case x => k_mem); (case S => walk_at "tl"); (case D => k_mem); (case u => exact Nat.lt_of_le_of_lt (Nat.le_add_right _ _) (Cx.u (by assumption)))))
  trivial
section
variable {ts : List (Str × Str)} {p : Nat} {l : List Ph}
theorem tal_mid (h : ts.drop p = rest l) (a : wordAt (ts.drop p) 0 (Str.ofString "TALLYING") = true) (b : wordAt (ts.drop (p + 1)) 0 (Str.ofString "IN") = true) :
    RefAt ts (p + 1 + 1) ((optAt 4 l).1.getD default) ∧ ts.drop (p + 1 + 1 + 1) = rest (optAt 4 l).2 ∧ optD (some ((optAt 4 l).1.getD default)) = optD (optAt 4 l).1 := by
  obtain ⟨p', H, e⟩ := opt_tal h
  have r := H.t a b
  obtain ⟨d, z⟩ := OptAt.det (.mid a b r) H
  subst z
  exact ⟨r, e, congrArg optD d⟩
theorem tal_bare (h : ts.drop p = rest l) (a : wordAt (ts.drop p) 0 (Str.ofString "TALLYING") = true) (b : wordAt (ts.drop (p + 1)) 0 (Str.ofString "IN") = false) :
    RefAt ts (p + 1) ((optAt 4 l).1.getD default) ∧ ts.drop (p + 1 + 1) = rest (optAt 4 l).2 ∧ optD (some ((optAt 4 l).1.getD default)) = optD (optAt 4 l).1 := by
  obtain ⟨p', H, e⟩ := opt_tal h
  have r := H.c a b
  obtain ⟨d, z⟩ := OptAt.det (.bare a b r) H
  subst z
  exact ⟨r, e, congrArg optD d⟩
theorem tal_no (h : ts.drop p = rest l) (a : wordAt (ts.drop p) 0 (Str.ofString "TALLYING") = false) : ts.drop p = rest (optAt 4 l).2 ∧ D.none = optD (optAt 4 l).1 := by
  obtain ⟨p', H, e⟩ := opt_tal h
  obtain ⟨d, z⟩ := OptAt.det (.no a) H
  subst z
  exact ⟨e, congrArg optD d⟩
theorem end_yes (h : ts.drop p = rest l) (a : wordAt (ts.drop p) 0 (Str.ofString "END-UNSTRING") = true) : ts.drop (p + 1) = rest (optAt 7 l).2 := by
  obtain ⟨r, rfl⟩ := first_end (h ▸ a)
  exact drop_next h
theorem end_no (h : ts.drop p = rest l) (a : wordAt (ts.drop p) 0 (Str.ofString "END-UNSTRING") = false) : ts.drop p = rest (optAt 7 l).2 := by
  rw [opt_none (k := 7) (l := l) fun φ r e k => by
    subst e
    cases φ <;> first | exact absurd k (by decide) | exact no_first (h ▸ a) rfl (by decide +kernel)]
  exact h
theorem Deep.cast {as : List Addr} {tl : List (Addr × Obj)} {xs : List (Value × D)} {vr : List Value} {dr : List D} {v : Value} {d d' : D} (P : Deep as tl ((v, d) :: xs) vr dr) (e : d = d') : Deep as tl ((v, d') :: xs) vr dr := e ▸ P
theorem Deep.none {as : List Addr} {tl : List (Addr × Obj)} {xs : List (Value × D)} {vr : List Value} {dr : List D} (P : Deep as tl xs vr dr) : Deep as tl ((Value.none, D.none) :: xs) vr dr := ⟨P.ne, List.forall_mem_cons.mpr ⟨.none, P.rep⟩, P.row⟩
end
theorem RCallK.useT {w : World} {R : RD} {vs : List Value} {ts : List (Str × Str)} {p : Nat} {t : Tok} {h₀ : Heap} {L : Addr} {m : Str → Option Value} {news tl : List (Addr × Obj)} {s : Shared} {f : Addr} {n M : Nat} {args : List Value} {A : Around} {Q E : Value → Shared → Prop} {as : List Addr} {xs : List (Value × D)} {vr : List Value} {dr : List D} {d : D} {r : List (Str × Str)} {news' fr : Nat → Tok → List (Addr × Obj)} {kt : Addr} {ko : Obj} (C : Cx w R vs ts A L h₀ M) (F : Fr h₀ L s.heap m) (N : News h₀ L s.heap news) (m1 : (R.x, rdX R.dx) ∈ news) (m2 : (R.dx, rdD w R p t) ∈ news) (m3 : (kt, ko) ∈ news) (H : RCallK w R vs ts p t f n args kt ko fun v l p' => RepL l v d ∧ ts.drop p' = r) (hn : n ≤ M) (P : Deep as tl xs vr dr)
    (U : ∀ (p' : Nat) t', Upd R.dx (rdD w R p t) (rdD w R p' t') news (news' p' t')) (S : ∀ p' t', Spl tl (news' p' t') (fr p' t')) (has : ∀ a ∈ as, ∃ o, (a, o) ∈ news)
    (h : ∀ v p' h' tk' t' tl', ts.drop p' = r → Fr h₀ L h' m → News h₀ L h' (fr p' t' ++ tl') → Deep as tl' ((v, d) :: xs) vr dr → Q v { s with heap := h', toks := tk' }) :
    wpAny (model rw.prog w) A (call (.ref f) args) Q E s := RCall.useT1 C F N m1 m2 (H s (C.T.keepAll F.keep) (N _ m3).1) hn P U S has h
theorem row64 : True := by
  k_with "call ref" => ((fail_if_success k_extra "off45"); k_dflt ((with_reducible show wpAny _ _ (call (Value.ref 314) _) _ _ _); refine' RCall.useT ?C ?F ?N ?m1 ?m2 (ptr_l _ _ _ _ _ _ _ hd9) ?hn ?P ?U ?S ?has ?_; clear hd9; walk_at "use_t"))
  k_with "call ref" => ((fail_if_success k_extra "off45"); k_dflt ((with_reducible show wpAny _ _ (call (Value.ref 286) _) _ _ _); (first | (have hz9 := tal_mid hd9 (by with_reducible assumption) (by with_reducible assumption); refine' RCall.useT ?C ?F ?N ?m1 ?m2 (ref_l _ _ _ _ _ _ _ _ hz9.1 hz9.2.1) ?hn ?P ?U ?S ?has ?_) | (have hz9 := tal_bare hd9 (by with_reducible assumption) (by with_reducible assumption); refine' RCall.useT ?C ?F ?N ?m1 ?m2 (ref_l _ _ _ _ _ _ _ _ hz9.1 hz9.2.1) ?hn ?P ?U ?S ?has ?_) | fail "tal"); walk_at "use_t"; replace hP := hP.cast hz9.2.2; clear hz9))
  k_with "call ref" => ((fail_if_success k_extra "off45"); k_dflt ((with_reducible show wpAny _ _ (call (Value.ref 272) _) _ _ _); (try (have hz9 := tal_no hd9 (by with_reducible assumption); replace hd9 := hz9.1; replace hP := hP.none.cast hz9.2; clear hz9)); refine' RCallK.useT ?C ?F ?N ?m1 ?m2 ?m3 (br_l _ _ _ _ _ _ _ _ _ _ hd9) ?hn ?P ?U ?S ?has ?_; walk_at "use_t"))
  k_with "call type:tuple" => ((fail_if_success k_extra "off45"); k_dflt (refine' kde_tupleOf (zs := vsr) ?k1 ?k2 ?k3 ?k4 ?k5 ?_; (case k1 => k_asm); (case k2 => k_asm); (case k3 => exact News.isList (by k_asm) (by k_mem)); (case k4 => exact Nat.le_trans hl9 (Nat.le_of_ble_eq_true rfl)); (case k5 => exact rfl); intro D9 h9 F9 N9 l1; (try k_lt l1); k_sweep))
  trivial
theorem res_g : resv (Str.ofString "G") = false := resv_not (by simp)
theorem res_g2 : resv (Str.ofString "G2") = false := resv_not (by simp)
noncomputable abbrev okRow (cut : Bool) (l : List Ph) : Prop := cut = true ∨ ((optAt 1 l).1 = none ∧ (optAt 2 l).1 = none)
noncomputable abbrev badRow (l : List Ph) : Prop := (optAt 1 l).1 ≠ none ∨ (optAt 2 l).1 ≠ none
theorem ok_bad (cut : Bool) (l : List Ph) : okRow cut l ∨ (cut = false ∧ badRow l) := by
  by_cases h1 : (optAt 1 l).1 = none
  · by_cases h2 : (optAt 2 l).1 = none
    · exact .inl (.inr ⟨h1, h2⟩)
    · cases cut
      · exact .inr ⟨rfl, .inr h2⟩
      · exact .inl (.inl rfl)
  · cases cut
    · exact .inr ⟨rfl, .inl h1⟩
    · exact .inl (.inl rfl)
theorem ok_not_bad {cut : Bool} {l : List Ph} (h : okRow cut l) (c : cut = false) (b : badRow l) : False := by
  rcases h with h | ⟨h1, h2⟩
  · rw [h] at c; cases c
  · rcases b with b | b
    · exact b h1
    · exact b h2
theorem row_use {w : World} {R : RD} {vs : List Value} {ts : List (Str × Str)} {p : Nat} {t : Tok} {h₀ : Heap} {L : Addr} {m : Str → Option Value} {news tl : List (Addr × Obj)} {s s0 : Shared} {M : Nat} {A : Around} {Q E : Value → Shared → Prop} {as : List Addr} {xs : List (Value × D)} {vr : List Value} {dr : List D} {news' fr : Nat → Tok → List (Addr × Obj)} {cut : Bool} {g0 : Str} {l : List Ph} {ta : Addr} {env : Env} {outer : List Env}
    (hd : ts.drop p = tkw g0 :: rest l) (hr : resv g0 = false) (hta : cut = false → badRow l → TaOf w h₀ vs (ts.length - (rest l).length) ta) (hfr : A.frames = some (env :: outer)) (hs : ∃ h1 tk1, s = { s0 with heap := h1, toks := tk1 })
    (C : Cx w R vs ts A L h₀ M) (F : Fr h₀ L s.heap m) (N : News h₀ L s.heap news) (m1 : (R.x, rdX R.dx) ∈ news) (m2 : (R.dx, rdD w R p t) ∈ news) (hn : 18 ≤ M) (P : Deep as tl xs vr dr)
    (U : ∀ (p' : Nat) t', Upd R.dx (rdD w R p t) (rdD w R p' t') news (news' p' t')) (S : ∀ p' t', Spl tl (news' p' t') (fr p' t')) (has : ∀ a ∈ as, ∃ o, (a, o) ∈ news)
    (h2 : cut = false → badRow l → ∀ er s', Thru w R h₀ (env :: outer) L s0 ta whatD er s' → E er s')
    (h : okRow cut l → ∀ v p' h' tk' t' tl', ts.drop p' = rest (rowParse l).2.2 → Fr h₀ L h' m → News h₀ L h' (fr p' t' ++ tl') → Deep as tl' ((v, rowD g0 (rowParse l).1 (rowParse l).2.1) :: xs) vr dr → Q v { s with heap := h', toks := tk' }) :
    wpAny (model rw.prog w) A (call (.ref 328) [.ref R.x, .bool cut]) Q E s := by
  rcases ok_bad cut l with hok | ⟨rfl, hb⟩
  · exact RCall.useT C F N m1 m2 (row_l w R vs ts p t g0 cut l hd hr hok) hn P U S has (h hok)
  · refine TCall.use (rowf_l w R vs ts p t g0 ta l hd hr hb) C hfr F N m1 m2 ?_ hn hs (h2 rfl hb)
    rw [drop_at (drop_next hd)]
    exact hta rfl hb
theorem none_rest {l : List Ph} (h1 : (optAt 1 l).1 = none) (h2 : (optAt 2 l).1 = none) : (rowParse l).2.2 = l := by
  have e : ∀ k, (optAt k l).1 = none → optAt k l = (none, l) := fun k h => by
    rcases at_place (k := k) l with ⟨φ, r, rfl, hk⟩ | hn
    · rw [show optAt k (φ :: r) = (some φ.what, r) from if_pos hk] at h; cases h
    · exact opt_none hn
  show (optAt 2 (optAt 1 l).2).2 = l
  rw [e 1 h1]
  show (optAt 2 l).2 = l
  rw [e 2 h2]
/-- what may still come at the rows' loop -/
noncomputable def OutP (cut : Bool) (l0 l : List Ph) (dsr : List D) : Prop := (∃ dsn l3, Rows cut l dsn l3 ∧ Rows1 cut l0 (dsr ++ dsn) l3) ∨ (cut = false ∧ ∃ lf, RowsF l lf ∧ RowsF1 l0 lf)
theorem OutP.first {cut : Bool} {l0 : List Ph} (ho : (∃ ds l3, Rows1 cut l0 ds l3) ∨ (cut = false ∧ ∃ lf, RowsF1 l0 lf)) (h : okRow cut l0) : OutP cut l0 (rowParse l0).2.2 [rowD (Str.ofString "G") (rowParse l0).1 (rowParse l0).2.1] := by
  rcases ho with ⟨ds, l3, hh⟩ | ⟨hc, lf, hh⟩
  · obtain ⟨hok, ds', e, hr⟩ := id hh
    refine .inl ⟨ds', l3, hr, ?_⟩
    rw [e] at hh
    exact hh
  · refine .inr ⟨hc, lf, ?_, hh⟩
    rcases hh with ⟨_, hb⟩ | ⟨h1, h2, hf⟩
    · exact (ok_not_bad h hc hb).elim
    · rw [none_rest h1 h2]; exact hf
theorem OutP.next {cut : Bool} {l0 l : List Ph} {dsr : List D} (ho : OutP cut l0 (.g2 :: l) dsr) (h : okRow cut l) : OutP cut l0 (rowParse l).2.2 (dsr ++ [rowD (Str.ofString "G2") (rowParse l).1 (rowParse l).2.1]) := by
  rcases ho with ⟨dsn, l3, hr, h1⟩ | ⟨hc, lf, hf, h1⟩
  · cases hr with
    | done n => exact absurd rfl (n l)
    | row _ hr' => exact .inl ⟨_, l3, hr', by rw [List.append_assoc]; exact h1⟩
  · cases hf with
    | here b => exact (ok_not_bad h hc b).elim
    | next a b hf' => exact .inr ⟨hc, lf, by rw [none_rest a b]; exact hf', h1⟩
theorem OutP.bad {cut : Bool} {l0 l : List Ph} {dsr : List D} (ho : OutP cut l0 (.g2 :: l) dsr) (hc : cut = false) (h : badRow l) : RowsF1 l0 l := by
  rcases ho with ⟨dsn, l3, hr, h1⟩ | ⟨_, lf, hf, h1⟩
  · cases hr with
    | done n => exact absurd rfl (n l)
    | row hok _ => exact (ok_not_bad hok hc h).elim
  · cases hf with
    | here b => exact h1
    | next a b hf' => exact (ok_not_bad (.inr ⟨a, b⟩) hc h).elim
theorem OutP.end {cut : Bool} {l0 l : List Ph} {dsr : List D} (ho : OutP cut l0 l dsr) (n : ∀ r, l ≠ .g2 :: r) : Rows1 cut l0 dsr l := by
  rcases ho with ⟨dsn, l3, hr, h1⟩ | ⟨_, lf, hf, h1⟩
  · cases hr with
    | done _ => rwa [List.append_nil] at h1
    | row _ _ => exact absurd rfl (n _)
  · cases hf with
    | here _ => exact absurd rfl (n _)
    | next _ _ _ => exact absurd rfl (n _)
/-- what the rows' loop keeps -/
noncomputable def JJ (w : World) (R : RD) (ts : List (Str × Str)) (cut : Bool) (l0 : List Ph) (m0 : Str → Option Value) (lr : Addr) (xs : List (Value × D)) (n : Nat) (m₁ : Str → Option Value) (news₁ : List (Addr × Obj)) : Prop :=
  ∃ (vsr : List Value) (dsr : List D) (k p : Nat) (t : Tok) (tl : List (Addr × Obj)) (l : List Ph), m₁ = m0 ∧ news₁ = (lr, listOf vsr.toArray k) :: (R.x, rdX R.dx) :: (R.dx, rdD w R p t) :: tl ∧ Deep [lr, R.x, R.dx] tl xs vsr dsr ∧
     vsr.length + l.length ≤ 1000 ∧ ts.drop p = rest l ∧ n = l.length ∧ OutP cut l0 l dsr
theorem g2_or (l : List Ph) : (∃ r, l = .g2 :: r) ∨ ∀ r, l ≠ .g2 :: r := by
  cases l with
  | nil => exact .inr fun _ e => nomatch e
  | cons φ r => cases φ <;> first | exact .inl ⟨_, rfl⟩ | exact .inr fun _ e => by cases e
theorem rows_start {w : World} {R : RD} {ts : List (Str × Str)} {cut : Bool} {l0 l : List Ph} {h₀ : Heap} {L lr : Addr} {m : Str → Option Value} {news tl : List (Addr × Obj)} {s : Shared} {A : Around} {Q : Flow → Shared → Prop} {E : Value → Shared → Prop} {xs : List (Value × D)} {v : Value} {k p : Nat} {t : Tok} {rowd : D} {env : Env} {test : Expr} {body : List Stmt} {pos : Pos}
    (F : Fr h₀ L s.heap m) (N : News h₀ L s.heap news) (n1 : (lr, listOf [v].toArray k) ∈ news) (n2 : (R.x, rdX R.dx) ∈ news) (n3 : (R.dx, rdD w R p t) ∈ news) (n4 : Tl tl news) (P : Deep [R.x, R.dx] tl ((v, rowd) :: xs) [] []) (hlr : ∀ q ∈ tl, q.1 ≠ lr)
    (hd : ts.drop p = rest l) (hT : ts.length < 1000) (ho : OutP cut l0 l [rowd]) (hE : PassesOwn (model rw.prog w) A env E)
    (t1 : ∀ (vsr : List Value) (dsr : List D) (k p : Nat) (t : Tok) (tl : List (Addr × Obj)) (r : List Ph) (h₁ : Heap) (tk₁ : Nat), Fr h₀ L h₁ m → News h₀ L h₁ ((lr, listOf vsr.toArray k) :: (R.x, rdX R.dx) :: (R.dx, rdD w R p t) :: tl) → Deep [lr, R.x, R.dx] tl xs vsr dsr → vsr.length + (r.length + 1) ≤ 1000 → ts.drop p = tkw (Str.ofString "G2") :: rest r → OutP cut l0 (.g2 :: r) dsr →
      wpAny (model rw.prog w) A (isTrue test env (eval test env)) (fun b s₂ => if b = true then wpAny (model rw.prog w) A (execs body env) (WhileStep h₀ L s (JJ w R ts cut l0 m lr xs) (r.length + 1)) E s₂ else Q .next s₂) E { s with heap := h₁, toks := tk₁ })
    (t2 : ∀ (vsr : List Value) (dsr : List D) (k p : Nat) (t : Tok) (tl : List (Addr × Obj)) (l : List Ph) (n : Nat) (h₁ : Heap) (tk₁ : Nat), Fr h₀ L h₁ m → News h₀ L h₁ ((lr, listOf vsr.toArray k) :: (R.x, rdX R.dx) :: (R.dx, rdD w R p t) :: tl) → Deep [lr, R.x, R.dx] tl xs vsr dsr → vsr.length ≤ 1000 → ts.drop p = rest l → (∀ r, l ≠ .g2 :: r) → Rows1 cut l0 dsr l →
      wpAny (model rw.prog w) A (isTrue test env (eval test env)) (fun b s₂ => if b = true then wpAny (model rw.prog w) A (execs body env) (WhileStep h₀ L s (JJ w R ts cut l0 m lr xs) n) E s₂ else Q .next s₂) E { s with heap := h₁, toks := tk₁ }) :
    wpAny (model rw.prog w) A (exec (.While test body [] pos) env) Q E s := by
  have hlen : l.length < 1000 := by
    have h1 := rest_len l
    have h2 := congrArg List.length hd
    rw [List.length_drop] at h2
    omega
  refine While_inv (J := JJ w R ts cut l0 m lr xs) (n₀ := l.length) (news := (lr, listOf [v].toArray k) :: (R.x, rdX R.dx) :: (R.dx, rdD w R p t) :: tl) F (fun q hq => ?_) ⟨[v], [rowd], k, p, t, tl, l, rfl, rfl, ⟨fun a ha => ?_, fun x hx => P.rep x (.tail _ hx), .cons (P.rep _ (.head _)) .nil⟩, by show 1 + l.length ≤ 1000; omega, hd, rfl, ho⟩ (fun n m₁ news₁ h₁ tk₁ F₁ N₁ J₁ => ?_) hE
  · rcases List.mem_cons.mp hq with rfl | hq
    · exact N _ n1
    rcases List.mem_cons.mp hq with rfl | hq
    · exact N _ n2
    rcases List.mem_cons.mp hq with rfl | hq
    · exact N _ n3
    · exact N _ (n4.mem _ hq)
  · rcases List.mem_cons.mp ha with rfl | ha
    · exact hlr
    · exact P.ne a ha
  · obtain ⟨vsr, dsr, k', p', t', tl', l', rfl, rfl, P', hl', hd', rfl, ho'⟩ := J₁
    rcases g2_or l' with ⟨r, rfl⟩ | hn
    · exact t1 vsr dsr k' p' t' tl' r h₁ tk₁ F₁ N₁ P' hl' hd' ho'
    · exact t2 vsr dsr k' p' t' tl' l' _ h₁ tk₁ F₁ N₁ P' (by omega) hd' hn (ho'.end hn)
theorem rows_next {w : World} {R : RD} {ts : List (Str × Str)} {cut : Bool} {l0 r : List Ph} {h₀ h' : Heap} {L lr : Addr} {m : Str → Option Value} {news tl : List (Addr × Obj)} {s : Shared} {tk : Nat} {xs : List (Value × D)} {v : Value} {k p : Nat} {t : Tok} {vsr : List Value} {dsr : List D} (F : Fr h₀ L h' m) (N : News h₀ L h' news) (n1 : (lr, listOf (vsr.toArray.push v) k) ∈ news) (n2 : (R.x, rdX R.dx) ∈ news) (n3 : (R.dx, rdD w R p t) ∈ news) (n4 : Tl tl news)
    (P : Deep [lr, R.x, R.dx] tl ((v, rowD (Str.ofString "G2") (rowParse r).1 (rowParse r).2.1) :: xs) vsr dsr) (hl : vsr.length + (r.length + 1) ≤ 1000) (hd : ts.drop p = rest (rowParse r).2.2) (ho : OutP cut l0 (.g2 :: r) dsr) (hok : okRow cut r) :
    WhileStep h₀ L s (JJ w R ts cut l0 m lr xs) (r.length + 1) .next { s with heap := h', toks := tk } := by
  have e : vsr.toArray.push v = (vsr ++ [v]).toArray := by simp
  rw [e] at n1
  have hlen := rowParse_len r
  have app : ∀ {vs : List Value} {ds : List D}, RepA (fun a o => (a, o) ∈ tl) vs ds → ∀ {v : Value} {d : D}, RepN (fun a o => (a, o) ∈ tl) v d → RepA (fun a o => (a, o) ∈ tl) (vs ++ [v]) (ds ++ [d]) := fun {vs ds} h => by
    induction vs generalizing ds with
    | nil => cases h; exact fun x => .cons x .nil
    | cons a r ih => cases h with | cons h1 h2 => exact fun x => .cons h1 (ih h2 x)
  refine WhileStep.intro (news₂ := (lr, listOf (vsr ++ [v]).toArray k) :: (R.x, rdX R.dx) :: (R.dx, rdD w R p t) :: tl) (n' := (rowParse r).2.2.length) F (fun q hq => ?_) (by omega) ⟨vsr ++ [v], _, k, p, t, tl, (rowParse r).2.2, rfl, rfl, ⟨P.ne, fun x hx => P.rep x (.tail _ hx), app P.row (P.rep _ (.head _))⟩, by rw [List.length_append]; show vsr.length + 1 + _ ≤ 1000; omega, hd, rfl, ho.next hok⟩
  rcases List.mem_cons.mp hq with rfl | hq
  · exact N _ n1
  rcases List.mem_cons.mp hq with rfl | hq
  · exact N _ n2
  rcases List.mem_cons.mp hq with rfl | hq
  · exact N _ n3
  · exact N _ (n4.mem _ hq)
theorem row65 : True := by
  k_with "exec While Call cons nil" => ((fail_if_success k_extra "off45"); k_dflt (refine' rows_start ?F ?N ?n1 ?n2 ?n3 ?n4 ?P ?hlr hd9 (Cx.T hC).2.2.1 (OutP.first hout hok9) hPO ?t1 ?t2; (case F => k_asm); (case N => k_asm); (case n1 => k_mem); (case n2 => k_mem); (case n3 => k_mem); (case P => with_reducible assumption); (case n4 => walk_at "tl"); (case hlr => k_all); clear hP hd9 hok9; (case' t1 => (intro vsr dsr k9 p9 t9 tl9 r9 h9 tk9 F9 N9 hP hl9 hdg ho9; have hn9 := name_g2 hdg)); (case' t2 => (intro vsr dsr k9 p9 t9 tl9 l9 n9 h9 tk9 F9 N9 hP hl9 hd9 hng ho9; have hn9 := name_not hd9 hng)); all_goals (k_sweep; (try dsimp only); (try k_fold))))
  k_with "call ref" => ((fail_if_success k_extra "off45"); k_dflt ((with_reducible show wpAny _ _ (call (Value.ref 328) _) _ _ _); (first | refine' row_use hd8 res_g (fun a b => hta _ a (.inl ⟨rfl, b⟩)) hfr ⟨_, _, rfl⟩ ?C ?F ?N ?m1 ?m2 ?hn ?P ?U ?S ?has ?h2 ?_ | refine' row_use hdg res_g2 (fun a b => hta _ a (ho9.bad a b)) hfr ⟨_, _, rfl⟩ ?C ?F ?N ?m1 ?m2 ?hn ?P ?U ?S ?has ?h2 ?_); (case h2 => intro hc9 hb9 er9 s9 Y9; first | exact ⟨⟨hc9, _, .inl ⟨rfl, hb9⟩⟩, Y9⟩ | exact ⟨⟨hc9, _, ho9.bad hc9 hb9⟩, Y9⟩); walk_at "use_t1"))
  trivial
noncomputable def unD (cut : Bool) (ds : List D) (l : List Ph) : D := .tup [.str (Str.ofString "unstring"), itemD (Str.ofString "S"), markDs cut, .tup ds, optD (optAt 3 l).1, optD (optAt 4 (optAt 3 l).2).1, .tup (brs (optAt 4 (optAt 3 l).2).2).1]
noncomputable def endL (l : List Ph) : List Ph := (optAt 7 (brs (optAt 4 (optAt 3 l).2).2).2).2
theorem ref_S {ts : List (Str × Str)} {q : Nat} {cut : Bool} {r : List (Str × Str)} (h : ts.drop q = tkw (Str.ofString "S") :: (markToks cut ++ tkw (Str.ofString "INTO") :: r)) : RefAt ts q (Str.ofString "S") := by
  have h1 := drop_next h
  have hr : resv (Str.ofString "S") = false := resv_not (by simp)
  obtain ⟨u, r', e, n1, n2⟩ : ∃ u r', markToks cut ++ tkw (Str.ofString "INTO") :: r = tkw u :: r' ∧ (u == Str.ofString "OF") = false ∧ (u == Str.ofString "IN") = false := by
    cases cut
    · exact ⟨_, _, rfl, by decide +kernel, by decide +kernel⟩
    · exact ⟨_, _, rfl, by decide +kernel, by decide +kernel⟩
  rw [e] at h1
  refine ⟨⟨Str.ofString "word", by rw [h]; rfl⟩, ?_, at0f h1 (word_other n1), at0f h1 (word_other n2), ?_⟩
  · rw [h]
    show (Str.ofString "word" == Str.ofString "word" && !resv (Str.ofString "S")) = true
    rw [hr, beq_self_eq_true]; rfl
  · rw [h1]
    exact sgn_no (by decide +kernel)
theorem deep_new {R : RD} {h h' g : Heap} {L : Addr} {news tl news0 : List (Addr × Obj)} {as : List Addr} {xs : List (Value × D)} {vr : List Value} {dr : List D} (P : Deep as tl xs vr dr) (hn : news0.map (·.1) = [R.x, R.dx]) (k : ∀ b o, h.get? b = some o → b ∉ news0.map (·.1) → g.get? b = some o) (N : News g L h' news) (S : Tl tl news) (m1 : R.x ∈ as) (m2 : R.dx ∈ as) : ∀ a o, (a, o) ∈ tl → NewAt h h' a o :=
  fun a o hm => new_of (q := (a, o)) hn k N (S.mem _ hm) (P.ne _ m1 _ hm) (P.ne _ m2 _ hm)
theorem row66 : True := by
  k_with "my_rep" => ((fail_if_success k_extra "off45"); first | exact RepN.mono hdn (hP.rep (_, _) (by k_mem)) | exact RepA.mono hdn hP.row | fail "deep")
  trivial
theorem thru_leave2 {C : Prop} {w : World} {R : RD} {g H base : Heap} {L : Addr} {s : Shared} {ta : Addr} {what : Str} {outer : List Env} {A : Around} {E : Value → Shared → Prop} (B : Below A base outer g) (hL : g.objs.size ≤ L) {n : Str} {sc : Scope} {f : Addr} {cd : Value} {M : Model} (hg : ∀ b o, H.get? b = some o → b ≠ R.x → b ≠ R.dx → g.get? b = some o)
    (h : C → ∀ e d tw a b h' tk', Fly R H outer e d .none (faD w what tw ta a b) h' → E (.ref e) { s with heap := h', toks := tk' }) : ∀ er s', (C ∧ Thru w R g (envOf n sc L f cd :: outer) L s ta what er s') →
    wpAny M (A.deeper (envOf n sc L f cd)) (leaving (envOf n sc L f cd) er) (fun _ s'' => E er s'') (fun e' s'' => E e' s'') s' := fun er s' x => thru_leave B hL hg (h x.1) er s' x.2
theorem thru_passes2 {C : Prop} {w : World} {R : RD} {g : Heap} {L : Addr} {s : Shared} {ta : Addr} {what : Str} {n : Str} {sc : Scope} {f : Addr} {cd : Value} {outer : List Env} {A : Around} {M : Model} (hfr : A.frames = some (envOf n sc L f cd :: outer)) : PassesOwn M A (envOf n sc L f cd) (fun er s' => C ∧ Thru w R g (envOf n sc L f cd :: outer) L s ta what er s') :=
  fun _ _ h => thru_through hfr rfl h.2 fun _ _ x => ⟨h.1, x⟩
theorem un_c (w : World) (R : RD) (vs : List Value) (ts : List (Str × Str)) (p : Nat) (t : Tok) (cut : Bool) (l0 : List Ph) (e0 : ts.drop p = tkw (Str.ofString "UNSTRING") :: tkw (Str.ofString "S") :: (markToks cut ++ tkw (Str.ofString "INTO") :: tkw (Str.ofString "G") :: rest l0))
    (s : Shared) (hT : Toks w s.heap R vs ts) (A A₀ : Around) (env : Env) (outer : List Env) (base h₀ : Heap) (L : Addr) (m : Str → Option Value) (pr : Program) (loose : List Str) (mean : ExcName → Option Value) (mg mb : Str → Option Value) (Q E : Value → Shared → Prop)
    (hH : A.handled = none) (hA : A.frames = some (env :: outer)) (hf : env.frame = some L) (hk : env.scope.kind = .function)
    (B : Below A₀ base outer h₀) (F : Fr h₀ L s.heap m) (X : (K w.params).In h₀) (N : News h₀ L s.heap (rdL w R p t)) (T : Top pr loose mean mg mb h₀) (hd : A.depth + 40 < recursionLimit) (hu : A.units + 8 * 40 < cLine)
    (hout : (∃ ds l3, Rows1 cut l0 ds l3) ∨ (cut = false ∧ ∃ lf, RowsF1 l0 lf)) (ta : Addr) (hTa : ∀ l', cut = false → RowsF1 l0 l' → TaOf w s.heap vs (ts.length - (rest l').length) ta)
    (hQ : ∀ ds l3 v o h' tk' (p' : Nat) t', Rows1 cut l0 ds l3 → After w R p' t' s.heap h' → New s.heap h' o → RepL o v (unD cut ds l3) → ts.drop p' = rest (endL l3) → Q v { s with heap := h', toks := tk' })
    (hR : (cut = false ∧ ∃ lf, RowsF1 l0 lf) → ∀ e d tw a b h' tk', Fly R s.heap (env :: outer) e d .none (faD w whatD tw ta a b) h' → E (.ref e) { s with heap := h', toks := tk' }) :
    wpAny (model rw.prog w) A (call (.ref 335) [.ref R.x, .ref 605]) Q E s := by
  w_on
  w_top on
  have hx0 := (N _ (.head _)).1
  have hd0 := (N _ (.tail _ (.head _))).1
  refine' enter [(Str.ofString "reader", .ref R.x), (Str.ofString "read_body", .ref 605)] ?k1 ?k2 ?k3 ?k4 ?k5 ?kA ?kF ?kK ?k6 ?k7 ?k8 ?k9 ?kB ?_ ?c2 ?c3 ?c4 ?c5
  walk_at "my_enter"
  intro g L' h' tk₁ hg F' N' B' X' T' l1
  have hG := hT.base rfl hx0 hd0 hg
  have hne := R.ne
  have hta := fun l' hc hl => (hTa l' hc hl).base hx0 hd0 hg
  have hg' : ∀ b o, s.heap.get? b = some o → b ≠ R.x → b ≠ R.dx → g.get? b = some o := fun b o e n1 n2 => hg b o e (by simp [n1, n2])
  refine cx_inE hH hA B' T' X' hG hd hu rfl (thru_leave2 (s := s) B' F'.above hg' hR) ?_
  clear hT hTa F N B X T l1 hR hg' B' hd hu hA hf hk hH
  intro dp fr gd un hfr hC
  have hPO := thru_passes2 (C := cut = false ∧ ∃ lf, RowsF1 l0 lf) (w := w) (R := R) (g := g) (s := s) (ta := ta) (what := whatD) (A := ⟨none, dp, fr, gd, un⟩) (M := model rw.prog w) hfr
  try dsimp only
  try k_fold
  obtain ⟨tl, hP, N''⟩ := tails_news (as := [R.x, R.dx]) N'
  clear N'
  simp only [List.cons_append, List.nil_append, rdL] at N''
  have hw0 := at0 e0 word_self
  have e1 := drop_next e0
  have hS2 := drop_next e1
  have hS := ref_S e1
  k_steps
  all_goals first | (refine' rows_next ?F ?N ?n1 ?n2 ?n3 ?n4 hP hl9 hd9 ho9 hok9; (case F => k_asm); (case N => k_asm); (case n1 => k_mem); (case n2 => k_mem); (case n3 => k_mem); (case n4 => walk_at "tl")) | skip
  all_goals (refine' rep_end (d := unD cut dsr l9) ?rr (fun l nw rp => hQ dsr l9 _ l _ _ _ _ ho9 (end_R rfl hx0 hg (by assumption) (News.get (by assumption) (by k_mem)) (News.get (by assumption) (by k_mem))) nw rp ?ee); (case ee => first | exact end_yes hd9 (by with_reducible assumption) | exact end_no hd9 (by with_reducible assumption)); (case rr => (have hdn := deep_new hP rfl hg (by assumption) (by walk_at "tl") (by k_mem) (by k_mem); unfold unD; walk_at "my_rep")))

end
theorem off45 : True := by
  k_with "off45" => skip
  trivial
section
/-- what stays while a def of the law's own runs -/
structure Lx (w : World) (A : Around) (L : Addr) (g : Heap) (N : Nat) : Prop where
  ex : ∃ (A₀ : Around) (env : Env) (outer : List Env) (base : Heap) (pr : Program) (loose : List Str) (mean : ExcName → Option Value) (mg mb : Str → Option Value),
    A.handled = none ∧ A.frames = some (env :: outer) ∧ env.frame = some L ∧ env.scope.kind = .function ∧ Below A₀ base outer g ∧ Top pr loose mean mg mb g
  X : (K w.params).In g
  d : A.depth + N < recursionLimit
  u : A.units + 8 * N < cLine
theorem lx_in {α : Type} {w : World} {g : Heap} {L : Addr} {tree : Sem α} {A : Around} {env : Env} {outer : List Env} {base : Heap} {pr : Program} {loose : List Str} {mean : ExcName → Option Value} {mg mb : Str → Option Value} {n : Nat} {q : Str} {scope : Scope} {f : Addr} {cd : Value} {Q : α → Shared → Prop} {E : Value → Shared → Prop} {s : Shared}
    (hH : A.handled = none) (hA : A.frames = some (env :: outer)) (B : Below A base (env :: outer) g) (T : Top pr loose mean mg mb g) (X : (K w.params).In g) (hd : A.depth + (n + 1) < recursionLimit) (hu : A.units + 8 * (n + 1) < cLine) (hk : scope.kind = .function)
    (h : ∀ dp fr gd un, Lx w ⟨none, dp, fr, gd, un⟩ L g n → wpAny (model rw.prog w) ⟨none, dp, fr, gd, un⟩ tree Q (fun _ _ => False) s) : wpAny (model rw.prog w) (A.deeper (envOf q scope L f cd)) tree Q E s := by
  have e : A.deeper (envOf q scope L f cd) = ⟨none, A.depth + 1, A.frames.map (envOf q scope L f cd :: ·), A.guards, A.units + 3⟩ := by
    unfold Around.deeper; rw [hH]
  have C : Lx w (A.deeper (envOf q scope L f cd)) L g n := ⟨⟨_, _, _, _, _, _, _, _, _, hH, Around.frames_deeper hA, rfl, hk, B, T⟩, X, budget_d hd, budget_u hu⟩
  rw [e] at C ⊢
  exact wpAny_mono (h _ _ _ _ C) (fun _ _ x => x) (fun _ _ x => x.elim)
/-- a call that makes objects and changes none -/
noncomputable def LCall (w : World) (P : Heap → Prop) (f : Addr) (n : Nat) (args : List Value) (post : Value → List (Addr × Obj) → Prop) : Prop :=
  ∀ s, P s.heap → Meets w f n [] s args fun Q _ => ∀ v l h' tk', KeepAll s.heap h' → New s.heap h' l → post v l → Q v { s with heap := h', toks := tk' }
section
variable {w : World} {h₀ : Heap} {L : Addr} {m : Str → Option Value} {news : List (Addr × Obj)} {s : Shared} {f : Addr} {n M : Nat} {args : List Value} {A : Around} {Q E : Value → Shared → Prop} {P : Heap → Prop} {post : Value → List (Addr × Obj) → Prop}
theorem LCall.use (C : Lx w A L h₀ M) (F : Fr h₀ L s.heap m) (N : News h₀ L s.heap news) (H : LCall w P f n args post) (hP : P s.heap) (hn : n ≤ M)
    (h : ∀ v l h' tk', Fr h₀ L h' m → News h₀ L h' (l ++ news) → (∀ r ∈ news, ∀ q ∈ l, r.1 ≠ q.1) → post v l → Q v { s with heap := h', toks := tk' }) :
    wpAny (model rw.prog w) A (call (.ref f) args) Q E s := by
  obtain ⟨⟨A₀, env, outer, base, pr, loose, mean, mg, mb, hH, hA, hf, hk, B, T⟩, X, hd, hu⟩ := C
  refine H s hP _ _ _ _ _ _ _ _ _ _ _ _ _ _ _ hH hA hf hk B F X News.nil T (by omega) (by omega) fun v l h' tk' k nw hp => h v l h' tk' (F.keeps k) (news_of F N k nw) (fun r hr q hq e => ?_) hp
  have := (N r hr).1
  rw [e, (nw q hq).2] at this; cases this
theorem end_L {g h h' : Heap} {L : Addr} {m : Str → Option Value} (hg : ∀ b o, h.get? b = some o → b ∉ ([] : List (Addr × Obj)).map (·.1) → g.get? b = some o) (F : Fr g L h' m) : KeepAll h h' := fun b o e => F.keep _ _ (hg b o e (fun z => nomatch z))
theorem new_L {g h h' : Heap} {L : Addr} {news : List (Addr × Obj)} (hg : ∀ b o, h.get? b = some o → b ∉ ([] : List (Addr × Obj)).map (·.1) → g.get? b = some o) (N : News g L h' news) {q : Addr × Obj} (hq : q ∈ news) : h'.get? q.1 = some q.2 ∧ h.get? q.1 = none := by
  refine ⟨(N q hq).1, ?_⟩
  cases e : h.get? q.1 with
  | none => rfl
  | some o =>
    have := hg _ _ e (fun z => nomatch z)
    rw [(N q hq).2.2] at this; cases this
end
theorem row67 : True := by
  k_with "l_open" => ((fail_if_success k_extra "off46"); (intro s hP A A₀ env outer base h₀ L m pr loose mean mg mb Q E hH hA hf hk B F X N T hd hu hR; w_on; w_top on))
  k_with "l_in" => ((fail_if_success k_extra "off46"); (intro g L' h' tk₁ hg F' N' B' X' T' l1; clear F N B X T l1; refine lx_in hH hA B' T' X' hd hu rfl ?_; clear B' hd hu hA hf hk hH; intro dp fr gd un hC; try dsimp only; try k_fold))
  k_with "l_rep" => ((fail_if_success k_extra "off46"); first | exact RepN.none | exact RepN.bool _ | exact RepN.str _ _ | exact RepN.bytes _ _ | exact RepA.nil | (refine RepA.cons ?_ ?_ <;> walk_at "l_rep") | (refine' RepN.tup (new_L (q := (_, tupO _)) hg ?n0 ?n1) ?_; (case n0 => assumption); (case n1 => k_mem); walk_at "l_rep") | fail "l_rep")
  trivial
theorem item_c (w : World) (u : Str) (t : Tok) : LCall w (fun _ => True) 586 3 [.str u t] fun v l => RepL l v (itemD u) := by
  walk_at "l_open"
  refine' enter [(Str.ofString "name", .str u t)] ?k1 ?k2 ?k3 ?k4 ?k5 ?kA ?kF ?kK ?k6 ?k7 ?k8 ?k9 ?kB ?_ ?c2 ?c3 ?c4 ?c5
  walk_at "my_enter"
  walk_at "l_in"
  k_steps
  all_goals (refine' rep_end (d := itemD u) ?rr (fun l nw rp => hR _ l _ _ (end_L hg (by assumption)) nw rp); (case rr => (unfold itemD; walk_at "l_rep")))
/-- entering a def, the code's own form -/
theorem enterC {prog : Program} {w : World} {A A₀ : Around} {s : Shared} {base h₀ : Heap} {env : Env} {outer : List Env} {L : Addr} {m : Str → Option Value} {news : List (Addr × Obj)} {K : Frag} {p : Program} {loose : List Str} {mean : ExcName → Option Value} {mg mb : Str → Option Value}
    {Q E : Value → Shared → Prop} {name qual : Str} {params : Arguments} {body : List Stmt} {scope : Scope} {dV kV doc pm cdv ct oc : Value} {an od : Option Addr} {osl : Array (Option Value)} {f : Addr} {vs : List Value} (binds : List (Str × Value))
    (B : Below A₀ base outer h₀) (F : Fr h₀ L s.heap m) (X₀ : K.In h₀) (N : News h₀ L s.heap news) (T : Top p loose mean mg mb h₀) (hA : A.frames = some (env :: outer)) (hf : env.frame = some L) (hke : env.scope.kind = .function)
    (ho : K.lookup f = some ⟨oc, od, .func (fnOf name qual params body scope dV kV doc pm an cdv ct), osl⟩) (hcd : codeIn K cdv qual = true) (hroom : A.depth < recursionLimit)
    (hbind : BindsTo s (fnOf name qual params body scope dV kV doc pm an cdv ct) ⟨vs, []⟩ binds) (hloc : ∀ y ∈ binds, scope.names.lookup y.1 = some .local)
    (h : ∀ g L' h₁ tk₁, (∀ b o, s.heap.get? b = some o → b ∉ news.map (·.1) → g.get? b = some o) → Fr g L' h₁ (fun y => binds.reverse.lookup y) → News g L' h₁ news → Below A base (env :: outer) g → K.In g → Top p loose mean mg mb g →
      (∀ p ∈ news, p.1 < L') →
      wpAny (model prog w) (A.deeper (envOf qual scope L' f cdv)) (execs body (envOf qual scope L' f cdv))
        (fun fl s' => Q (match fl with | .ret v => v | _ => .none) s')
        (fun e s' => wpAny (model prog w) (A.deeper (envOf qual scope L' f cdv)) (leaving (envOf qual scope L' f cdv) e) (fun _ s'' => E e s'') (fun e' s'' => E e' s'') s')
        { s with heap := h₁, toks := tk₁ })
    (hco : scope.isCoroutine = false) (hgen : scope.isGenerator = false) (hk : scope.kind = .function)
    (hcell : ∀ x ∈ scope.names, x.2 ≠ .cell) : codeAny (model prog w) A (.call (.ref f) ⟨vs, []⟩) (fun r s' => match r with | .ok (.ret v) => Q v s' | .ok _ => False | .error e => E e s') s := by
  obtain ⟨_, BG, st, _⟩ := groundX (R := fun _ _ => True) B F N hA hf hke
  refine codeAny_call_def (fd := fnOf name qual params body scope dV kV doc pm an cdv ct) (body := body) (binds := binds) hroom (X₀.keeps F.keep _ _ ho) rfl (T.nolimit.keeps F.keep) (codeRec_of (X₀.keeps F.keep) hcd) rfl hbind hcell hloc (fun h₁ hns hk₁ => ?_) hco hgen hk
  exact h _ s.heap.objs.size h₁ _ (fun b o e n => hideAll_get _ e n) ⟨hns, fun b o e => hk₁ b o (of_hideAll _ e), Nat.le_of_eq (hideAll_size _ _)⟩
    (fun p hp => ⟨hk₁ _ _ (N p hp).1, Nat.ne_of_lt (Heap.lt_size (N p hp).1), hideAll_none _ (List.mem_map_of_mem hp)⟩) BG (X₀.keeps st) (T.keeps st) (fun p hp => Heap.lt_size (N p hp).1)


noncomputable def MeetsC (w : World) (f : Addr) (n : Nat) (news : List (Addr × Obj)) (s : Shared) (vs : List Value) (R : (Value → Shared → Prop) → (Value → Shared → Prop) → Prop) : Prop :=
  ∀ (A A₀ : Around) (env : Env) (outer : List Env) (base h₀ : Heap) (L : Addr) (m : Str → Option Value)
    (pr : Program) (loose : List Str) (mean : ExcName → Option Value) (mg mb : Str → Option Value) (Q E : Value → Shared → Prop),
    A.handled = none → A.frames = some (env :: outer) → env.frame = some L → env.scope.kind = .function →
    Below A₀ base outer h₀ → Fr h₀ L s.heap m → (K w.params).In h₀ → News h₀ L s.heap news → Top pr loose mean mg mb h₀ → A.depth + n < recursionLimit → A.units + 8 * n < cLine → R Q E →
    codeAny (model rw.prog w) A (.call (.ref f) ⟨vs, []⟩) (fun r s' => match r with | .ok (.ret v) => Q v s' | .ok _ => False | .error e => E e s') s
/-- a token's own __init__ -/
theorem tinit_c (w : World) (x dx ta : Addr) (k u : Str) (t1 t2 : Tok) (s : Shared) (hne : dx ≠ x) :
    MeetsC w 536 3 [(x, tkX dx), (dx, emD)] s [.ref x, .str k t1, .str u t2, .ref ta] fun Q _ => ∀ h' tk' a b c d e f, (∀ y o, s.heap.get? y = some o → y ≠ dx → h'.get? y = some o) → h'.get? dx = some (tkD w k u ta a b c d e f) → Q .none { s with heap := h', toks := tk' } := by
  intro A A₀ env outer base h₀ L m pr loose mean mg mb Q E hH hA hf hk B F X N T hd hu hR
  w_on
  w_top on
  have hx0 := (N _ (.head _)).1
  refine' enterC [(Str.ofString "self", .ref x), (Str.ofString "kind", .str k t1), (Str.ofString "worth", .str u t2), (Str.ofString "at", .ref ta), (Str.ofString "is_in_a", .bool false)] ?k1 ?k2 ?k3 ?k4 ?k5 ?kA ?kF ?kK ?k6 ?k7 ?k8 ?k9 ?kB ?_ ?c2 ?c3 ?c4 ?c5
  walk_at "my_enter"
  intro g L' h' tk₁ hg F' N' B' X' T' l1
  clear B X T N F
  have hn1 : AllNe x [(dx, emD)] := ⟨hne, trivial⟩
  k_steps
  all_goals (refine hR _ _ _ _ _ _ _ _ (fun y o hy n1 => ?_) (News.get (by assumption) (by k_mem)))
  all_goals (
    by_cases n2 : y = x
    · subst n2; rw [hx0] at hy; cases hy; exact News.get (by assumption) (by k_mem)
    · exact Fr.keep (by assumption) _ _ (hg y o hy (by simp [n1, n2])))
/-- the reader's own __init__ -/
theorem rinit_c (w : World) (x dx tl : Addr) (s : Shared) (hne : dx ≠ x) :
    MeetsC w 362 3 [(x, rdX dx), (dx, emD)] s [.ref x, .ref tl] fun Q _ => ∀ h' tk' nd a b c d t, (∀ y o, s.heap.get? y = some o → y ≠ dx → h'.get? y = some o) → h'.get? dx = some (dictOf [⟨PyData.keyHash w.params (Str.ofString "tokens"), .str (Str.ofString "tokens") a, .ref tl⟩, ⟨PyData.keyHash w.params (Str.ofString "at"), .str (Str.ofString "at") b, .int 0 t⟩, ⟨PyData.keyHash w.params (Str.ofString "named"), .str (Str.ofString "named") c, .ref nd⟩] d) → d = 3 → Q .none { s with heap := h', toks := tk' } := by
  intro A A₀ env outer base h₀ L m pr loose mean mg mb Q E hH hA hf hk B F X N T hd hu hR
  w_on
  w_top on
  have hx0 := (N _ (.head _)).1
  refine' enterC [(Str.ofString "self", .ref x), (Str.ofString "tokens", .ref tl), (Str.ofString "at", .int 0 695)] ?k1 ?k2 ?k3 ?k4 ?k5 ?kA ?kF ?kK ?k6 ?k7 ?k8 ?k9 ?kB ?_ ?c2 ?c3 ?c4 ?c5
  walk_at "my_enter"
  intro g L' h' tk₁ hg F' N' B' X' T' l1
  clear B X T N F
  have hn1 : AllNe x [(dx, emD)] := ⟨hne, trivial⟩
  k_steps
  all_goals (refine hR _ _ _ _ _ _ _ _ (fun y o hy n1 => ?_) (News.get (by assumption) (by k_mem)) rfl)
  all_goals (
    by_cases n2 : y = x
    · subst n2; rw [hx0] at hy; cases hy; exact News.get (by assumption) (by k_mem)
    · exact Fr.keep (by assumption) _ _ (hg y o hy (by simp [n1, n2])))
theorem token_c {w : World} {h₀ : Heap} {L : Addr} {m : Str → Option Value} {news : List (Addr × Obj)} {s : Shared} {M : Nat} {A : Around} {Q E : Value → Shared → Prop} {k u : Str} {t1 t2 : Tok} {ta : Addr} (C : Lx w A L h₀ M) (F : Fr h₀ L s.heap m) (N : News h₀ L s.heap news) (hn : 5 ≤ M)
    (h : ∀ x d a b c e f g h' tk', Fr h₀ L h' m → News h₀ L h' ((x, tkX d) :: (d, tkD w k u ta a b c e f g) :: news) → AllNe x news → AllNe d news → Q (.ref x) { s with heap := h', toks := tk' }) :
    wpAny (model rw.prog w) A (call (.ref 546) [.str k t1, .str u t2, .ref ta]) Q E s := by
  obtain ⟨⟨A₀, env, outer, base, pr, loose, mean, mg, mb, hH, hA, hf, hk, B, T⟩, X, hd, hu⟩ := C
  refine wpAny_call (make_K (K := K w.params) (C := 546) (fI := 536) F N (X.keeps F.keep) (by k_is) (by k_is) (by k_is) fun x dx h1 F1 N1 l1 l2 => ?_)
  have frs : (A.under (.builtin "type.__call__" ⟨.ref 546 :: [.str k t1, .str u t2, .ref ta], []⟩)).frames = some (env :: outer) := hA
  have un : (A.under (.builtin "type.__call__" ⟨.ref 546 :: [.str k t1, .str u t2, .ref ta], []⟩)).units ≤ A.units + 8 := Nat.add_le_add_left (Nat.le_of_ble_eq_true (by rfl)) _
  have dp : (A.under (.builtin "type.__call__" ⟨.ref 546 :: [.str k t1, .str u t2, .ref ta], []⟩)).depth = A.depth + 1 := rfl
  have N2 : News h₀ L h1 [(x, tkX dx), (dx, emD)] := fun q hq => N1 q (by
    rcases List.mem_cons.mp hq with rfl | hq
    · exact .head _
    · rcases List.mem_cons.mp hq with rfl | hq
      · exact .tail _ (.head _)
      · cases hq)
  refine codeAny_mono (tinit_c w x dx ta k u t1 t2 { s with heap := h1 } (Nat.ne_of_lt l2) _ _ _ _ _ _ _ _ _ _ _ _ _ (fun v s' => v = .none ∧ Q (.ref x) s') E hH frs hf hk B F1 X N2 T (by rw [dp]; omega) (by omega) ?_) ?_
  · intro h' tk' a b c d e f kp hdx
    have hxn : ∀ y : Addr, dx ≤ y → AllNe y news := fun y hy => allNe_of fun q hq => Nat.ne_of_lt (Nat.lt_of_lt_of_le (l1 q hq) hy)
    have dxg := (N1 _ (.tail _ (.head _))).2
    have hL : L ≠ dx := fun z => dxg.1 z.symm
    have F' : Fr h₀ L h' m := by
      obtain ⟨⟨oL, es, ep, hLo, r⟩, k2, ab⟩ := F1
      exact ⟨⟨oL, es, ep, kp _ _ hLo hL, r⟩, fun b o e => kp _ _ (k2 b o e) (fun z => by have := dxg.2; rw [← z] at this; rw [e] at this; cases this), ab⟩
    refine ⟨rfl, h x dx a b c d e f h' tk' F' (fun q hq => ?_) (hxn x (Nat.le_of_lt l2)) (hxn dx (Nat.le_refl _))⟩
    rcases List.mem_cons.mp hq with rfl | hq
    · have z := N1 _ (.head _)
      exact ⟨kp _ _ z.1 (Nat.ne_of_gt l2), z.2⟩
    · rcases List.mem_cons.mp hq with rfl | hq
      · exact ⟨hdx, dxg⟩
      · have z := N1 q (.tail _ (.tail _ hq))
        exact ⟨kp _ _ z.1 (Nat.ne_of_lt (l1 q hq)), z.2⟩
  · intro r s' z
    rcases r with e | (v | _ | _ | _) <;> exact z
theorem reader_c {w : World} {h₀ : Heap} {L tl : Addr} {m : Str → Option Value} {news : List (Addr × Obj)} {s : Shared} {M : Nat} {A : Around} {Q E : Value → Shared → Prop} (C : Lx w A L h₀ M) (F : Fr h₀ L s.heap m) (N : News h₀ L s.heap news) (hn : 5 ≤ M)
    (h : ∀ R : RD, R.tl = tl → ∀ t h' tk', Fr h₀ L h' m → News h₀ L h' ((R.x, rdX R.dx) :: (R.dx, rdD w R 0 t) :: news) → AllNe R.x news → AllNe R.dx news → Q (.ref R.x) { s with heap := h', toks := tk' }) :
    wpAny (model rw.prog w) A (call (.ref 516) [.ref tl]) Q E s := by
  obtain ⟨⟨A₀, env, outer, base, pr, loose, mean, mg, mb, hH, hA, hf, hk, B, T⟩, X, hd, hu⟩ := C
  refine wpAny_call (make_K (K := K w.params) (C := 516) (fI := 362) F N (X.keeps F.keep) (by k_is) (by k_is) (by k_is) fun x dx h1 F1 N1 l1 l2 => ?_)
  have frs : (A.under (.builtin "type.__call__" ⟨.ref 516 :: [.ref tl], []⟩)).frames = some (env :: outer) := hA
  have un : (A.under (.builtin "type.__call__" ⟨.ref 516 :: [.ref tl], []⟩)).units ≤ A.units + 8 := Nat.add_le_add_left (Nat.le_of_ble_eq_true (by rfl)) _
  have dp : (A.under (.builtin "type.__call__" ⟨.ref 516 :: [.ref tl], []⟩)).depth = A.depth + 1 := rfl
  have N2 : News h₀ L h1 [(x, rdX dx), (dx, emD)] := fun q hq => N1 q (by
    rcases List.mem_cons.mp hq with rfl | hq
    · exact .head _
    · rcases List.mem_cons.mp hq with rfl | hq
      · exact .tail _ (.head _)
      · cases hq)
  refine codeAny_mono (rinit_c w x dx tl { s with heap := h1 } (Nat.ne_of_lt l2) _ _ _ _ _ _ _ _ _ _ _ _ _ (fun v s' => v = .none ∧ Q (.ref x) s') E hH frs hf hk B F1 X N2 T (by rw [dp]; omega) (by omega) ?_) ?_
  · intro h' tk' nd a b c d t kp hdx hd3
    subst hd3
    have hxn : ∀ y : Addr, dx ≤ y → AllNe y news := fun y hy => allNe_of fun q hq => Nat.ne_of_lt (Nat.lt_of_lt_of_le (l1 q hq) hy)
    have dxg := (N1 _ (.tail _ (.head _))).2
    have hL : L ≠ dx := fun z => dxg.1 z.symm
    have F' : Fr h₀ L h' m := by
      obtain ⟨⟨oL, es, ep, hLo, r⟩, k2, ab⟩ := F1
      exact ⟨⟨oL, es, ep, kp _ _ hLo hL, r⟩, fun b o e => kp _ _ (k2 b o e) (fun z => by have := dxg.2; rw [← z] at this; rw [e] at this; cases this), ab⟩
    refine ⟨rfl, h ⟨x, dx, tl, nd, a, b, c, Nat.ne_of_gt l2⟩ rfl t h' tk' F' (fun q hq => ?_) (hxn x (Nat.le_of_lt l2)) (hxn dx (Nat.le_refl _))⟩
    rcases List.mem_cons.mp hq with rfl | hq
    · have z := N1 _ (.head _)
      exact ⟨kp _ _ z.1 (Nat.ne_of_gt l2), z.2⟩
    · rcases List.mem_cons.mp hq with rfl | hq
      · exact ⟨hdx, dxg⟩
      · have z := N1 q (.tail _ (.tail _ hq))
        exact ⟨kp _ _ z.1 (Nat.ne_of_lt (l1 q hq)), z.2⟩
  · intro r s' z
    rcases r with e | (v | _ | _ | _) <;> exact z

end
theorem off46 : True := by
  k_with "off46" => skip
  trivial
theorem row68 : True := by
  k_with "l_open" => ((intro s hP A A₀ env outer base h₀ L m pr loose mean mg mb Q E hH hA hf hk B F X N T hd hu hR; w_on; w_top on))
  k_with "l_in" => ((intro g L' h' tk₁ hg F' N' B' X' T' l1; clear F N B X T l1; refine lx_in hH hA B' T' X' hd hu rfl ?_; clear B' hd hu hA hf hk hH; intro dp fr gd un hC; try dsimp only; try k_fold))
  k_with "l_rep" => (first | exact RepN.none | exact RepN.bool _ | exact RepN.str _ _ | exact RepN.bytes _ _ | exact RepA.nil | (refine RepA.cons ?_ ?_ <;> walk_at "l_rep") | (refine' RepN.tup (new_L (q := (_, tupO _)) hg ?n0 ?n1) ?_; (case n0 => assumption); (case n1 => k_mem); walk_at "l_rep") | fail "l_rep")
  trivial
section
noncomputable def tokD (q : Str × Str) : D := .tup [.str q.1, .str q.2]
section
open LCg
theorem RepA.snoc {P : Addr → Obj → Prop} : ∀ {vs : List Value} {ds : List D}, RepA P vs ds → ∀ {v : Value} {d : D}, RepN P v d → RepA P (vs ++ [v]) (ds ++ [d])
  | _, _, .nil, _, _, h => .cons h .nil
  | _, _, .cons a r, _, _, h => .cons a (r.snoc h)
/-- a comprehension over a list of texts, a pair out of each -/
theorem comp_words {w : World} {A : Around} {h₀ : Heap} {L : Addr} {m : Str → Option Value} {env : Env} {elt : Expr} {x : Str} {scope : Scope} {cl : List (Str × Addr)} {s : Shared} {its : List (Str × Tok)} {ax : Addr} {k0 : Nat} {Fin : List Value → List (Addr × Obj) → Prop}
    (hstep : ∀ (u : Str) (t : Tok) (I : Addr) (oI : Obj) (C : Addr) (oC : Obj) (D : Addr) (ys : List Value) (m₂ : Str → Option Value) (news : List (Addr × Obj)) (h : Heap) (tk : Nat) (E' Post : Value → Shared → Prop), NsObj oC m₂ → m₂ x = some (.str u t) → Fr h₀ L h m → News h₀ L h ((I, oI) :: (C, oC) :: (D, lst ys) :: news) →
      Off3 I C D news → ((@Ne Nat I C) ∧ (@Ne Nat I D) ∧ (@Ne Nat C D)) → (∀ ta tk1 h' tk', Fr h₀ L h' m → News h₀ L h' ((ta, tupO [.str (Str.ofString "word") tk1, .str u t]) :: (I, oI) :: (C, oC) :: (D, lst ys) :: news) → AllLt ta ((I, oI) :: (C, oC) :: (D, lst ys) :: news) → Post (.ref ta) { s with heap := h', toks := tk' }) →
      wpAny (model rw.prog w) A (eval elt (compEnvC scope cl C env)) Post E' { s with heap := h, toks := tk })
    (fin : ∀ ys news, RepA (fun a o => (a, o) ∈ news) ys (its.map fun q => tokD (Str.ofString "word", q.1)) → Fin ys news) :
    ∀ k i ys news, i + k = its.length → (ax, listOf (strValues its).toArray k0) ∈ news → RepA (fun a o => (a, o) ∈ news) ys ((its.take i).map fun q => tokD (Str.ofString "word", q.1)) →
      CompRest rw.prog w A h₀ L m env elt x scope cl s (SrcAt h₀ ax (strValues its).toArray) (fun i v => (strValues its).toArray[i]? = some v) Fin k i ys news
  | 0, i, ys, news, hk, hax, hr => by
    have : its.take i = its := List.take_of_length_le (by omega)
    rw [this] at hr
    exact fin ys news hr
  | k + 1, i, ys, news, hk, hax, hr => CompRest.succ fun v I oI C oC D m₂ h tk E' hv hC hx F N off ne => by
    have hi : i < its.length := by omega
    have e : v = .str its[i].1 its[i].2 := by
      have hv' : (strValues its)[i]? = some v := by simpa using hv
      unfold strValues at hv'
      rw [List.getElem?_map, List.getElem?_eq_getElem hi] at hv'
      exact (Option.some.inj hv').symm
    subst e
    refine hstep _ _ I oI C oC D ys m₂ news h tk E' _ hC hx F N off ne fun ta tk1 h' tk' F' N' lt0 => ?_
    have lt := ktn_ltOf lt0
    refine CompEnd.intro F' N' ((ta, tupO [.str (Str.ofString "word") tk1, .str its[i].1 its[i].2]) :: news) (fun q hq => ?_) ⟨⟨Nat.ne_of_gt (lt _ (.head _)), Nat.ne_of_gt (lt _ (.tail _ (.head _))), Nat.ne_of_gt (lt _ (.tail _ (.tail _ (.head _))))⟩, off⟩ (.inr ⟨_, .tail _ hax, rfl, _, rfl⟩) ?_
    · rcases List.mem_cons.mp hq with rfl | hq
      · exact .tail _ (.head _)
      · rcases List.mem_cons.mp hq with rfl | hq
        · exact .tail _ (.tail _ (.head _))
        · rcases List.mem_cons.mp hq with rfl | hq
          · exact .tail _ (.tail _ (.tail _ (.head _)))
          · rcases List.mem_cons.mp hq with rfl | hq
            · exact .head _
            · exact .tail _ (.tail _ (.tail _ (.tail _ hq)))
    · refine comp_words hstep fin k (i + 1) _ _ (by omega) (.tail _ hax) ?_
      rw [List.take_add_one, List.getElem?_eq_getElem hi]
      show RepA _ _ (List.map _ (its.take i ++ [its[i]]))
      rw [List.map_append]
      exact (RepA.mono (fun a o hm => .tail _ hm) hr).snoc (.tup (.head _) (.cons (.str _ _) (.cons (.str _ _) .nil)))
end
/-- a list of pairs of texts -/
noncomputable def ListD (l : List (Addr × Obj)) (v : Value) (ds : List D) : Prop := ∃ a vs k, v = .ref a ∧ (a, listOf vs.toArray k) ∈ l ∧ RepA (fun a o => (a, o) ∈ l) vs ds
theorem row69 : True := by
  k_with "eval ListComp" => ((fail_if_success k_extra "off47"); k_dflt (refine' LCg.ListComp_U ?F ?c1 ?c2 ?c3 ?c4 ?c5 ?_; (case F => k_asm); (case c1 => with_unfolding_all rfl); (case c2 => decide); (case c3 => rfl); (case c4 => decide); (case c5 => rfl)))
  k_with "compareOp NotEq str str" => ((fail_if_success k_extra "off47"); k_dflt (refine ne_str ?_; rw [hneq]))
  k_with "call builtin:str.split" => ((fail_if_success k_extra "off47"); k_dflt (refine KSpl.split1 (by k_asm) (by k_asm) (by decide) ?_ hsz; intro D9 l9 h9 k9 e9 a9 F9 N9 l1; rw [hsp] at e9; clear a9; try dsimp only))
  trivial
theorem words_c (w : World) (u : Str) (tu : Tok) (ws : List Str) (hsp : Txt.split u (Str.ofString " ") = ws) (hne : u ≠ Str.ofString "") (hsz : u.length + 2 ≤ sizeLine) (hwl : ws.length ≤ sizeLine) : LCall w (fun _ => True) 574 3 [.str u tu] fun v l => ListD l v (ws.map fun x => tokD (Str.ofString "word", x)) := by
  have hneq : (u.cps.toList != (Str.ofString "").cps.toList) = true := by
    rw [bne_iff_ne]
    intro e
    exact hne (by
      have := congrArg List.toArray e
      simp at this
      cases u; simp_all)
  walk_at "l_open"
  refine' enter [(Str.ofString "text", .str u tu)] ?k1 ?k2 ?k3 ?k4 ?k5 ?kA ?kF ?kK ?k6 ?k7 ?k8 ?k9 ?kB ?_ ?c2 ?c3 ?c4 ?c5
  walk_at "my_enter"
  walk_at "l_in"
  k_steps
  · have hl : (strValues l9).toArray.size = l9.length := by simp [strValues]
    have hws : l9.length = ws.length := by rw [← e9, List.length_map]
    refine LCg.CompSrc.ledger rfl F9 N9 (List.Mem.head _) (by rw [hl, hws]; exact hwl) (fun g9 => ?_)
    rw [hl]
    refine comp_words ?hstep ?fin _ 0 [] _ (Nat.zero_add _) (List.Mem.head _) .nil
    case fin =>
      intro ys news hr D h tk F N off
      refine hR _ ((D, LCg.lst ys) :: news) _ _ (end_L hg F) (fun q hq => new_L hg N hq) ⟨D, ys, _, rfl, .head _, ?_⟩
      rw [← e9, List.map_map]
      exact RepA.mono (fun a o hm => .tail _ hm) hr
    case hstep =>
      intro u9 t9 I9 oI C9 oC D8 ys m₂ news h tk E' Post hC9 hx9 F N off ne hP
      clear F9 N9 F' N'
      k_steps
      all_goals exact hP _ _ _ _ (by assumption) (by assumption) (by assumption)
  · rename_i a _ _ _ _ _
    exact absurd (bne_iff_ne.mpr hne) (by rw [a]; decide)

end
theorem off47 : True := by
  k_with "off47" => skip
  trivial
theorem row70 : True := by
  k_with "eval ListComp" => (k_dflt (refine' LCg.ListComp_U ?F ?c1 ?c2 ?c3 ?c4 ?c5 ?_; (case F => k_asm); (case c1 => with_unfolding_all rfl); (case c2 => decide); (case c3 => rfl); (case c4 => decide); (case c5 => rfl)))
  trivial
section
/-- token i stands at v, its objects in the ledger -/
inductive TokIn (w : World) (l : List (Addr × Obj)) (v : Value) (k u : Str) (i : Nat) : Prop
  | mk (x d ta : Addr) (a b c e f g y z : Tok) : v = .ref x → (x, tkX d) ∈ l → (d, tkD w k u ta a b c e f g) ∈ l → (ta, tupO [.int ((i : Nat) + 1) y, .int 12 z]) ∈ l → TokIn w l v k u i
theorem TokIn.mono {w : World} {l l' : List (Addr × Obj)} {v : Value} {k u : Str} {i : Nat} (h : TokIn w l v k u i) (s : ∀ q ∈ l, q ∈ l') : TokIn w l' v k u i := by
  obtain ⟨x, d, ta, a, b, c, e, f, g, y, z, h0, h1, h2, h3⟩ := h
  exact ⟨x, d, ta, a, b, c, e, f, g, y, z, h0, s _ h1, s _ h2, s _ h3⟩
/-- a pair of texts in the heap -/
noncomputable def PairAt (h : Heap) (v : Value) (q : Str × Str) : Prop := ∃ a t1 t2, v = .ref a ∧ h.get? a = some (tupO [.str q.1 t1, .str q.2 t2])
section
open LCg LCp
variable {w : World} {A : Around} {E : Value → Shared → Prop} {s : Shared} {h₀ : Heap} {L : Addr} {m : Str → Option Value} {env : Env}
/-- what the comprehension keeps -/
inductive EnumI (w : World) (s : Shared) (h₀ : Heap) (L : Addr) (m : Str → Option Value) (e it tl0 : Addr) (vs : List Value) (ts : List (Str × Str)) (Cc Dd : Addr) : Nat → Shared → Prop
  | mk {h' : Heap} {tk i : Nat} {ys : List Value} {m' : Str → Option Value} {news' : List (Addr × Obj)} : i ≤ ts.length → ys.length = i → ((∃ old, IsEnum h' e it i old) ∧ h'.IsListIter it tl0 i ∧ h'.IsList tl0 vs.toArray) → Fr h₀ L h' m → h'.Ns Cc m' → News h₀ L h' ((Dd, lst ys) :: news') →
    (∀ q ∈ news', q.1 ≠ e ∧ q.1 ≠ it ∧ q.1 ≠ Cc ∧ q.1 ≠ Dd) → (∀ (j : Nat) k u, j < i → ts[j]? = some (k, u) → TokIn w news' (pk ys j) k u j) → EnumI w s h₀ L m e it tl0 vs ts Cc Dd (ts.length + 1 - i) { s with heap := h', toks := tk }
theorem enum_comp {elt iter : Expr} {xa xb xc : Str} {pa pb pc p1 p2 : Pos} {k1 k2} {scope : Scope} {cl : List (Str × Addr)} {pos : Pos} {Q : Value → Shared → Prop} {tl0 : Addr} {vs : List Value} {ts : List (Str × Str)}
    (_F₀ : Fr h₀ L s.heap m) (hh : A.handled = none) (hclos : closureFor scope env = pure cl) (hcell : ∀ y ∈ scope.names, y.2 ≠ .cell) (hkind : scope.kind = .function) (hnames : ∀ y ∈ scope.names, y.2 = .local → scope.names.lookup y.1 = some .local)
    (hxa : scope.names.lookup xa = some .local) (hxb : scope.names.lookup xb = some .local) (hxc : scope.names.lookup xc = some .local) (hab : xa ≠ xb) (hac : xa ≠ xc) (hbc : xb ≠ xc)
    (hl : h₀.IsList tl0 vs.toArray) (hlen : vs.length = ts.length) (hsz : ts.length ≤ sizeLine) (hp : ∀ (i : Nat) q, ts[i]? = some q → PairAt h₀ (pk vs i) q)
    (hiter : wpAny (model rw.prog w) A (eval iter env) (fun xv s₁ => ∃ e it h1 tk1, s₁ = { s with heap := h1, toks := tk1 } ∧ xv = .ref e ∧ IsEnum h1 e it 0 .none ∧ h1.IsListIter it tl0 0 ∧ e ≠ it ∧ Fr h₀ L h1 m ∧ h₀.get? e = none ∧ h₀.get? it = none ∧ e ≠ L ∧ it ≠ L) E s)
    (hs : ∀ x, foldedSetIterable iter env x = pure x)
    (hstep : ∀ (i : Nat) (k u : Str) (ti t1 t2 : Tok) (C : Addr) (oC : Obj) (m₂ : Str → Option Value) (led : List (Addr × Obj)) (h : Heap) (tk : Nat) (E' Post : Value → Shared → Prop), ts[i]? = some (k, u) → NsObj oC m₂ → m₂ xa = some (.int (i : Nat) ti) → m₂ xb = some (.str k t1) → m₂ xc = some (.str u t2) → Fr h₀ L h m → News h₀ L h ((C, oC) :: led) →
      (∀ v made h' tk', Fr h₀ L h' m → News h₀ L h' (made ++ (C, oC) :: led) → (∀ r ∈ (C, oC) :: led, ∀ q ∈ made, r.1 ≠ q.1) → TokIn w made v k u i → Post v { s with heap := h', toks := tk' }) →
      wpAny (model rw.prog w) A (eval elt (compEnvC scope cl C env)) Post E' { s with heap := h, toks := tk })
    (fin : ∀ D ys news h tk, Fr h₀ L h m → News h₀ L h ((D, lst ys) :: news) → ys.length = ts.length → (∀ (i : Nat) k u, ts[i]? = some (k, u) → TokIn w news (pk ys i) k u i) → Q (.ref D) { s with heap := h, toks := tk }) :
    wpAny (model rw.prog w) A (eval (.ListComp elt [⟨.Tuple [.Name xa pa, .Tuple [.Name xb pb, .Name xc pc] k2 p2] k1 p1, iter, [], 0⟩] scope pos) env) Q E s := by
  rw [eval_ListComp]
  refine wpAny_comprehension_free (use := none) rfl hs hclos hkind hnames (wpAny_mono hiter (fun xv s₁ h₁ => ?_) fun _ _ e => e)
  obtain ⟨e, it, hp1, tk1, rfl, rfl, he0, hit0, hei, F1, heh, hih, heL, hiL⟩ := h₁
  have hls : hp1.IsList tl0 vs.toArray := hl.at fun o e => F1.keep _ o e
  obtain ⟨otl, hotl, hotc⟩ := id hl
  have tlh : ∀ {x : Addr}, h₀.get? x = none → x ≠ tl0 := fun hx z => by rw [z, hotl] at hx; cases hx
  have hvs : vs.toArray.size = ts.length := by rw [List.size_toArray, hlen]
  have D0 := Draws.list (prog := rw.prog) (w := w) (A := A.in1) hh it tl0 (Ne.symm (tlh hih)) vs.toArray
  have W := WalksT.enumerateD D0 e hei (fun hm => by
    rcases List.mem_cons.mp hm with z | hm
    · exact hei z
    · exact tlh heh (List.mem_singleton.mp hm)) (.head _)
  rw [hvs] at W
  refine W.self 0 _ _ _ ⟨⟨_, he0⟩, hit0, hls⟩ ?_
  refine wpAny_newObj_type (wpAny_newFunctionEnv hcell (by intro y hy; simp at hy) (fun h₁ hns₁ hsb₁ => ?_) hkind)
  dsimp only at hns₁ hsb₁ ⊢
  generalize hH2 : hp1.push { cls := .type "list", dict := none, data := .seq ([] : List Value).toArray } = H2 at hns₁ hsb₁ ⊢
  have hC : H2.objs.size = hp1.objs.size + 1 := by rw [← hH2, Heap.size_push]
  generalize hDd : hp1.objs.size = Dd at hC ⊢
  generalize hCc : H2.objs.size = Cc at hC hns₁ hsb₁ ⊢
  have hDC : Dd ≠ Cc := by rw [hC]; exact Nat.ne_of_lt (Nat.lt_succ_self _)
  have below : ∀ b o, hp1.get? b = some o → b ≠ Cc ∧ b ≠ Dd := fun b o hb => by
    have hlt := Heap.lt_size hb
    rw [hDd] at hlt
    exact ⟨by rw [hC]; exact Nat.ne_of_lt (Nat.lt_succ_of_lt hlt), Nat.ne_of_lt hlt⟩
  have old : ∀ b o, hp1.get? b = some o → h₁.get? b = some o := fun b o q => hsb₁.extBut b o (below b o q).1 (Heap.get?_push_of_some _ (hH2 ▸ Heap.get?_push_of_some _ q))
  have hacc : h₁.get? Dd = some (lst []) := hsb₁.extBut _ _ hDC (Heap.get?_push_of_some _ (by rw [← hH2, ← hDd]; exact Heap.get?_push_size _ rfl))
  have nb : ∀ x : Addr, Dd ≤ x → h₀.get? x = none := fun x hx => by
    cases q : h₀.get? x with
    | none => rfl
    | some o => have := Heap.lt_size (F1.keep _ _ q); rw [hDd] at this; exact absurd (Nat.lt_of_lt_of_le this hx) (Nat.lt_irrefl _)
  have hD₀ := nb Dd (Nat.le_refl _)
  have hC₀ := nb Cc (by rw [hC]; exact Nat.le_succ _)
  obtain ⟨oL, _, _, hoL, _⟩ := F1.ns
  have hCL : Cc ≠ L := Ne.symm (below L _ hoL).1
  have hDL : Dd ≠ L := Ne.symm (below L _ hoL).2
  have hCe : e ≠ Cc ∧ e ≠ Dd := below e _ he0
  obtain ⟨oi, hoi, _⟩ := id hit0
  have hCi : it ≠ Cc ∧ it ≠ Dd := below it _ hoi
  have hCt : tl0 ≠ Cc ∧ tl0 ≠ Dd := below tl0 _ (F1.keep _ _ hotl)
  have loop : ∀ s₃ : Shared, s₃ = { s with heap := h₁, toks := tk1 + ([] : List (Str × Value)).length } →
      codeAny (model rw.prog w) A (.compLoop (.ListComp elt [⟨.Tuple [.Name xa pa, .Tuple [.Name xb pb, .Name xc pc] k2 p2] k1 p1, iter, [], 0⟩] scope pos) 0 (.ref e) (.ref Dd) (compEnvC scope cl Cc env)) (compPost (model rw.prog w) A E none Q (.ref Dd) Cc) s₃ := by
    rintro s₃ rfl
    refine codeAny_compLoop_pair
      (EnumI w s h₀ L m e it tl0 vs ts Cc Dd) ?_ (ts.length + 1)
      (EnumI.mk (i := 0) (ys := []) (news' := []) (Nat.zero_le _) rfl ⟨⟨_, old _ _ he0⟩, hit0.at fun o q => old _ o q, hls.at fun o q => old _ o q⟩ (F1.keeps old) hns₁ (fun p hp => ?_) (fun _ h => (nomatch h)) (fun _ _ _ h => absurd h (Nat.not_lt_zero _)))
    · rintro _ _ @⟨h', tk, i, ys, m', news', hi, hyl, hst', F', hn', N', off', made'⟩
      by_cases hlt : i < ts.length
      · refine W.item i _ _ _ hlt hst' fun T vals h₂ tk₂ hPv hTs hT hMid hk₂ => ?_
        obtain ⟨ti, v, hv, rfl⟩ := hPv
        obtain ⟨⟨ek, eu⟩, hq⟩ : ∃ q, ts[i]? = some q := ⟨_, List.getElem?_eq_getElem hlt⟩
        obtain ⟨a1, b1, b2, hva, hpa⟩ := hp i _ hq
        have hve : v = .ref a1 := by
          have : (vs[i]?).getD .none = .ref a1 := hva
          rw [show vs[i]? = some v by simpa using hv] at this
          exact this
        subst hve
        have hwr : ∀ b, b ≠ e → b ≠ it → b ∉ [e, it] := fun b x1 x2 hm => by
          rcases List.mem_cons.mp hm with z | hm
          · exact x1 z
          · exact x2 (List.mem_singleton.mp hm)
        refine W.go _ _ _ i T _ _ _ hMid fun h₃ hst₃ hk₃ => ?_
        have keep3 : ∀ b o, b ≠ e → b ≠ it → h'.get? b = some o → h₃.get? b = some o := fun b o x1 x2 q => hk₃ b o (hwr b x1 x2) (hk₂ b o (hwr b x1 x2) q)
        have hT3 : IsTup h₃ T #[.int (i : Nat) ti, .ref a1] := by
          obtain ⟨oT, hoT, r⟩ := hT
          exact ⟨oT, hk₃ _ _ (W.apart _ _ _ hMid) hoT, r⟩
        have hbase : ∀ b o, h₀.get? b = some o → b ≠ e ∧ b ≠ it ∧ b ≠ Cc ∧ b ≠ Dd := fun b o q => ⟨fun z => (by rw [z, heh] at q; cases q), fun z => (by rw [z, hih] at q; cases q), fun z => (by rw [z, hC₀] at q; cases q), fun z => (by rw [z, hD₀] at q; cases q)⟩
        refine assign_Tuple_tuple hh hT3 rfl rfl fun h₄ he₄ => ?_
        have k4 : ∀ b o, h₃.get? b = some o → h₄.get? b = some o := fun b o q => he₄ b o (Nat.ne_of_lt (Heap.lt_size q)) q
        have hn4 : h₄.Ns Cc m' := hn'.at' fun o q => k4 _ o (keep3 _ o (Ne.symm hCe.1) (Ne.symm hCi.1) q)
        refine assignInOrder_cons (wpAny_assign_Name (wpAny_storeName_local (lookup_relabel_local hxa) hn4 (fun h₅ hn₅ hs₅ => ?_) (by simp [compEnvC, relabel, hkind])))
        have hpa5 : h₅.get? a1 = some (tupO [.str ek b1, .str eu b2]) := hs₅.extBut _ _ (hbase _ _ hpa).2.2.1 (k4 _ _ (keep3 _ _ (hbase _ _ hpa).1 (hbase _ _ hpa).2.1 (F'.keep _ _ hpa)))
        refine assignInOrder_cons (assign_Tuple_tuple (elts := [.Name xb pb, .Name xc pc]) (x1 := k2) (pos := p2) (items := #[.str ek b1, .str eu b2]) hh ⟨_, hpa5, rfl, _, rfl⟩ rfl rfl fun h₆ he₆ => ?_)
        have k6 : ∀ b o, h₅.get? b = some o → h₆.get? b = some o := fun b o q => he₆ b o (Nat.ne_of_lt (Heap.lt_size q)) q
        refine assignInOrder_cons (wpAny_assign_Name (wpAny_storeName_local (lookup_relabel_local hxb) (hn₅.at' fun o q => k6 _ o q) (fun h₇ hn₇ hs₇ => ?_) (by simp [compEnvC, relabel, hkind])))
        refine assignInOrder_cons (wpAny_assign_Name (wpAny_storeName_local (lookup_relabel_local hxc) hn₇ (fun h₈ hn₈ hs₈ => ?_) (by simp [compEnvC, relabel, hkind])))
        refine assignInOrder_nil (assignInOrder_nil ?_)
        have k8 : ∀ b o, b ≠ Cc → h₃.get? b = some o → h₈.get? b = some o := fun b o x q => hs₈.extBut b o x (hs₇.extBut b o x (k6 b o (hs₅.extBut b o x (k4 b o q))))
        have keep8 : ∀ b o, b ≠ e → b ≠ it → b ≠ Cc → h'.get? b = some o → h₈.get? b = some o := fun b o x1 x2 x3 q => k8 b o x3 (keep3 b o x1 x2 q)
        obtain ⟨⟨old', he3⟩, hit3, hls3⟩ := hst₃
        have he8 := k8 _ _ hCe.1 he3
        obtain ⟨oi3, hoi3, ri3⟩ := hit3
        have hi8 := k8 _ _ hCi.1 hoi3
        obtain ⟨oC, heC, hoC⟩ := ns_obj hn₈
        have F8 : Fr h₀ L h₈ m := ⟨F'.ns.at' fun o q => keep8 _ o (Ne.symm heL) (Ne.symm hiL) (Ne.symm hCL) q, fun b o q => keep8 _ _ (hbase _ _ q).1 (hbase _ _ q).2.1 (hbase _ _ q).2.2.1 (F'.keep _ _ q), F'.above⟩
        have N8 : News h₀ L h₈ ((Cc, oC) :: (e, _) :: (it, oi3) :: (Dd, lst ys) :: news') := fun q hq => by
          rcases List.mem_cons.mp hq with rfl | hq
          · exact ⟨heC, hCL, hC₀⟩
          rcases List.mem_cons.mp hq with rfl | hq
          · exact ⟨he8, heL, heh⟩
          rcases List.mem_cons.mp hq with rfl | hq
          · exact ⟨hi8, hiL, hih⟩
          have z := N' q hq
          rcases List.mem_cons.mp hq with rfl | hq
          · exact ⟨keep8 _ _ (Ne.symm hCe.2) (Ne.symm hCi.2) hDC z.1, z.2⟩
          · obtain ⟨o1, o2, o3, o4⟩ := off' q hq
            exact ⟨keep8 _ _ o1 o2 o3 z.1, z.2⟩
        refine hstep i ek eu ti b1 b2 Cc oC _ _ h₈ _ _ _ hq hoC ?_ ?_ ?_ F8 N8 fun v made h₉ tk₉ F9 N9 off9 tok9 => ?_
        · simp [hab, hac]
        · simp [hbc]
        · simp
        have zD := (N9 (Dd, lst ys) (List.mem_append_right _ (.tail _ (.tail _ (.tail _ (.head _)))))).1
        have zC := (N9 (Cc, oC) (List.mem_append_right _ (.head _))).1
        have ze := (N9 (e, _) (List.mem_append_right _ (.tail _ (.head _)))).1
        have zi := (N9 (it, oi3) (List.mem_append_right _ (.tail _ (.tail _ (.head _))))).1
        refine append_at (hsz := by show ys.toArray.size ≤ sizeLine; rw [List.size_toArray, hyl]; exact Nat.le_trans hi hsz) zD fun hA hsA hDA => ?_
        have offm : ∀ q ∈ made, q.1 ≠ e ∧ q.1 ≠ it ∧ q.1 ≠ Cc ∧ q.1 ≠ Dd := fun q hq => ⟨Ne.symm (off9 _ (.tail _ (.head _)) q hq), Ne.symm (off9 _ (.tail _ (.tail _ (.head _))) q hq), Ne.symm (off9 _ (.head _) q hq), Ne.symm (off9 _ (.tail _ (.tail _ (.tail _ (.head _)))) q hq)⟩
        have offa : ∀ q ∈ made ++ news', q.1 ≠ e ∧ q.1 ≠ it ∧ q.1 ≠ Cc ∧ q.1 ≠ Dd := fun q hq => (List.mem_append.mp hq).elim (offm q) (off' q)
        refine ⟨ts.length + 1 - (i + 1), by omega, EnumI.mk (h' := hA) (tk := tk₉) (i := i + 1) (ys := ys ++ [v]) (news' := made ++ news') hlt (by rw [List.length_append, List.length_singleton, hyl]) ⟨⟨_, hsA.extBut _ _ hCe.2 ze⟩, ⟨oi3, hsA.extBut _ _ hCi.2 zi, ri3⟩, hl.at fun o q => hsA.extBut _ _ hCt.2 (F9.keep _ _ q)⟩ (F9.change hsA hDL hD₀)
          ((hoC.ns zC).sameBut hsA (Ne.symm hDC)) (fun p hp => ?_) offa (fun j k u hj hjq => ?_)⟩
        · rcases List.mem_cons.mp hp with rfl | hp
          · exact ⟨hDA.trans (congrArg some (lst_snoc ys v)), hDL, hD₀⟩
          · have z := N9 p (by
              rcases List.mem_append.mp hp with hp | hp
              · exact List.mem_append_left _ hp
              · exact List.mem_append_right _ (.tail _ (.tail _ (.tail _ (.tail _ hp)))))
            exact ⟨hsA.extBut _ _ (offa p hp).2.2.2 z.1, z.2⟩
        · by_cases hji : j = i
          · subst hji
            rw [hq] at hjq
            cases hjq
            have : pk (ys ++ [v]) j = v := by
              unfold pk
              rw [List.getElem?_append_right (by omega), hyl, Nat.sub_self]; rfl
            rw [this]
            exact tok9.mono fun q hq => List.mem_append_left _ hq
          · have : pk (ys ++ [v]) j = pk ys j := by
              unfold pk
              rw [List.getElem?_append_left (by omega)]
            rw [this]
            exact (made' j k u (by omega) hjq).mono fun q hq => List.mem_append_right _ hq
      · obtain rfl : i = ts.length := Nat.le_antisymm hi (Nat.not_lt.mp hlt)
        refine W.done _ _ _ hst' fun h₂ tk₂ hk₂ => ?_
        have hwr : ∀ b, b ≠ e → b ≠ it → b ∉ [e, it] := fun b x1 x2 hm => by
          rcases List.mem_cons.mp hm with z | hm
          · exact x1 z
          · exact x2 (List.mem_singleton.mp hm)
        refine ⟨m', hn'.at' fun o q => hk₂ _ o (hwr _ (Ne.symm hCe.1) (Ne.symm hCi.1)) q, fun h'' hs'' => ?_⟩
        refine fin Dd ys news' h'' tk₂ ?_ (fun p hp => ?_) hyl (fun i k u hq => made' i k u (by
          have := (List.getElem?_eq_some_iff.mp hq).1; exact this) hq)
        · exact ⟨F'.ns.at' fun o q => hs''.extBut _ _ (Ne.symm hCL) (hk₂ _ o (hwr _ (Ne.symm heL) (Ne.symm hiL)) q), fun b o q => hs''.extBut _ _ (fun z => by rw [z, hC₀] at q; cases q) (hk₂ _ _ (hwr _ (fun z => by rw [z, heh] at q; cases q) (fun z => by rw [z, hih] at q; cases q)) (F'.keep _ _ q)), F'.above⟩
        · have z := N' p hp
          rcases List.mem_cons.mp hp with rfl | hp
          · exact ⟨hs''.extBut _ _ hDC (hk₂ _ _ (hwr _ (Ne.symm hCe.2) (Ne.symm hCi.2)) z.1), z.2⟩
          · obtain ⟨o1, o2, o3, o4⟩ := off' p hp
            exact ⟨hs''.extBut _ _ o3 (hk₂ _ _ (hwr _ o1 o2) z.1), z.2⟩
    · rcases List.mem_cons.mp hp with rfl | hp
      · exact ⟨hacc, hDL, hD₀⟩
      · cases hp
  exact codeAny_compStart_list (loop _ rfl) (W.self 0 _ _ _ ⟨⟨_, old _ _ he0⟩, hit0.at fun o q => old _ o q, hls.at fun o q => old _ o q⟩ (loop _ rfl))
end

end
section
/-- the reader over a list of pairs -/
noncomputable def RdPost (w : World) (ts : List (Str × Str)) (v : Value) (l : List (Addr × Obj)) : Prop :=
  ∃ (R : RD) (t : Tok) (ys : List Value) (l' : List (Addr × Obj)), v = .ref R.x ∧ l = (R.x, rdX R.dx) :: (R.dx, rdD w R 0 t) :: (R.tl, LCg.lst ys) :: l' ∧ (∀ q ∈ (R.tl, LCg.lst ys) :: l', q.1 ≠ R.x ∧ q.1 ≠ R.dx) ∧ ys.length = ts.length ∧ ∀ (i : Nat) k u, ts[i]? = some (k, u) → TokIn w l' (pk ys i) k u i
theorem row71 : True := by
  k_with "eval ListComp" => ((fail_if_success k_extra "off49"); k_dflt (refine' enum_comp (vs := vs) (ts := ts) (Q := _) ?F0 ?c0 ?c1 ?c2 ?c3 ?c4 ?c5 ?c6 ?c7 ?c8 ?c9 ?c10 hlb hlen hsz hpb ?hiter ?hs ?hstep ?fin; (case F0 => k_asm); (case c0 => rfl); (case c1 => with_unfolding_all rfl); (case c2 => decide); (case c3 => rfl); (case c4 => decide); (case c5 => rfl); (case c6 => rfl); (case c7 => rfl); (case c8 => decide); (case c9 => decide); (case c10 => decide); (case hs => intro _; rfl); (case' hstep => (intro i9 ek9 eu9 ti9 ta9 tb9 C9 oC9 m9 led9 h9 tk9 E9 Post9 hq9 hN9 hxa9 hxb9 hxc9 F9 N9 hP9; clear F' N')); (case' fin => (intro D9 ys9 news9 h9 tk9 F9 N9 hy9 ht9; clear F' N'))))
  k_with "call ref" => ((fail_if_success k_extra "off49"); k_dflt ((with_reducible show wpAny _ _ (call (Value.ref 516) _) _ _ _); refine' reader_c hC ?F ?N ?hn ?_; (case F => k_asm); (case N => k_asm); (case hn => exact Nat.le_of_ble_eq_true rfl); intro R9 e9 t9 h9 tk9 F9' N9' n1 n2; subst e9))
  k_with "call ref" => ((fail_if_success k_extra "off49"); k_dflt ((with_reducible show wpAny _ _ (call (Value.ref 546) _) _ _ _); refine' token_c hC ?F ?N ?hn ?_; (case F => k_asm); (case N => k_asm); (case hn => exact Nat.le_of_ble_eq_true rfl); intro x9 d9 a9 b9 c9 e9 f9 g9 h9 tk9 F9 N9 n1 n2))
  trivial
theorem enum_call {w : World} {A : Around} {E : Value → Shared → Prop} {s s0 : Shared} {h₀ : Heap} {L tl0 : Addr} {m : Str → Option Value} {its : Array Value} (F : Fr h₀ L s.heap m) (hl : h₀.IsList tl0 its) (hs : ∃ h1 tk1, s = { s0 with heap := h1, toks := tk1 }) :
    wpAny (model rw.prog w) A (call (.type "enumerate") [.ref tl0]) (fun xv s₁ => ∃ e it h1 tk1, s₁ = { s0 with heap := h1, toks := tk1 } ∧ xv = .ref e ∧ IsEnum h1 e it 0 .none ∧ h1.IsListIter it tl0 0 ∧ e ≠ it ∧ Fr h₀ L h1 m ∧ h₀.get? e = none ∧ h₀.get? it = none ∧ e ≠ L ∧ it ≠ L) E s := by
  obtain ⟨hh, tk, rfl⟩ := hs
  refine call_enumerate_list (stays_list F.keep hl) fun h' he hit hsz hk => ?_
  have hL : L < hh.objs.size := F.ns.lt
  have nb : ∀ x : Addr, hh.objs.size ≤ x → h₀.get? x = none := fun x hx => by
    cases q : h₀.get? x with
    | none => rfl
    | some o => have := Heap.lt_size (F.keep _ _ q); exact absurd (Nat.lt_of_lt_of_le this hx) (Nat.lt_irrefl _)
  exact ⟨_, _, h', tk, rfl, rfl, he, hit, Nat.succ_ne_self _, F.keeps hk, nb _ (Nat.le_succ _), nb _ (Nat.le_refl _), Nat.ne_of_gt (Nat.lt_succ_of_lt hL), Nat.ne_of_gt hL⟩
theorem row72 : True := by
  k_with "call type:enumerate" => ((fail_if_success k_extra "off49"); k_dflt (exact enum_call (by k_asm) hlb ⟨_, _, rfl⟩))
  trivial
theorem step_end {w : World} {h₀ h9 : Heap} {L x d ta : Addr} {m : Str → Option Value} {k u : Str} {a b c e f g y z : Tok} {led : List (Addr × Obj)} {i : Nat} {s : Shared} {tk : Nat} {Post : Value → Shared → Prop}
    (F : Fr h₀ L h9 m) (N : News h₀ L h9 ((x, tkX d) :: (d, tkD w k u ta a b c e f g) :: (ta, tupO [.int ((i : Nat) + 1) y, .int 12 z]) :: led)) (n1 : AllNe x ((ta, tupO [.int ((i : Nat) + 1) y, .int 12 z]) :: led)) (n2 : AllNe d ((ta, tupO [.int ((i : Nat) + 1) y, .int 12 z]) :: led)) (n3 : AllLt ta led)
    (h : ∀ v made h' tk', Fr h₀ L h' m → News h₀ L h' (made ++ led) → (∀ r ∈ led, ∀ q ∈ made, r.1 ≠ q.1) → TokIn w made v k u i → Post v { s with heap := h', toks := tk' }) : Post (.ref x) { s with heap := h9, toks := tk } := by
  refine h (.ref x) [(x, tkX d), (d, tkD w k u ta a b c e f g), (ta, tupO [.int ((i : Nat) + 1) y, .int 12 z])] h9 tk F N (fun r hr q hq => ?_) ⟨x, d, ta, a, b, c, e, f, g, y, z, rfl, .head _, .tail _ (.head _), .tail _ (.tail _ (.head _))⟩
  rcases List.mem_cons.mp hq with rfl | hq
  · exact AllNe.get n1.2 hr
  rcases List.mem_cons.mp hq with rfl | hq
  · exact AllNe.get n2.2 hr
  rcases List.mem_cons.mp hq with rfl | hq
  · exact Nat.ne_of_lt (ktn_ltOf n3 r hr)
  · cases hq
theorem lreader_c (w : World) (tl0 : Addr) (vs : List Value) (ts : List (Str × Str)) (hlen : vs.length = ts.length) (hsz : ts.length ≤ sizeLine) : LCall w (fun h => h.IsList tl0 vs.toArray ∧ ∀ (i : Nat) q, ts[i]? = some q → PairAt h (pk vs i) q) 579 12 [.ref tl0] (RdPost w ts) := by
  walk_at "l_open"
  obtain ⟨hl0, hp0⟩ := hP
  refine' enter [(Str.ofString "tokens", .ref tl0)] ?k1 ?k2 ?k3 ?k4 ?k5 ?kA ?kF ?kK ?k6 ?k7 ?k8 ?k9 ?kB ?_ ?c2 ?c3 ?c4 ?c5
  walk_at "my_enter"
  walk_at "l_in"
  have hg' : KeepAll s.heap g := fun b o e => hg b o e (fun z => nomatch z)
  have hlb : g.IsList tl0 vs.toArray := stays_list hg' hl0
  have hpb : ∀ (i : Nat) q, ts[i]? = some q → PairAt g (pk vs i) q := fun i q e => by
    obtain ⟨a, t1, t2, h1, h2⟩ := hp0 i q e
    exact ⟨a, t1, t2, h1, hg' _ _ h2⟩
  k_steps
  · exact hR _ _ _ _ (end_L hg F9') (fun q hq => new_L hg N9' hq) ⟨R9, t9, ys9, news9, rfl, rfl, fun q hq => ⟨AllNe.get n1 hq, AllNe.get n2 hq⟩, hy9, ht9⟩
  · exact step_end (by assumption) (by assumption) n1 n2 (by assumption) hP9

end
theorem off49 : True := by
  k_with "off49" => skip
  trivial
section
section
variable {w : World} {A : Around} {E : Value → Shared → Prop} {Q : Flow → Shared → Prop} {s : Shared} {env : Env} {h₀ : Heap} {L : Addr}
theorem it_base {target : Expr} {pl : Addr} {vs : List Value} {J : Nat → (Str → Option Value) → List (Addr × Obj) → Prop} (hh : A.handled = none) (hl : h₀.IsList pl vs.toArray) :
    ItSrc w A h₀ L target (.ref pl) vs.toArray.size (fun i v => vs.toArray[i]? = some v) J := fun s₁ m news Q E hJ F N h => by
  have hls : s₁.heap.IsList pl vs.toArray := stays_list F.keep hl
  obtain ⟨opl, hopl, _⟩ := id hls
  have ha : pl ≠ s₁.heap.objs.size := Nat.ne_of_lt (Heap.lt_size hopl)
  refine wpAny_pyIter_list hls (h _ _ _ (Walks.list hh _ pl ha vs.toArray) ⟨⟨_, Heap.get?_push_size _ rfl, rfl, rfl⟩, hls.push _⟩ (fun i h' st => ?_) (fun i h1 h2 o j m' news' st e1 e2 F' N' J' => ?_) fun i s' v Q' E' st q => letGo_listiter st.1 q)
  · obtain ⟨⟨o, e, _⟩, _⟩ := st; exact ⟨o, e⟩
  · obtain ⟨⟨o', e, r⟩, _⟩ := st
    rw [e] at e1; cases e1
    exact ⟨⟨_, e2, r⟩, stays_list F'.keep hl⟩
/-- a for over a list of the base, a state kept -/
theorem For_base {target iter : Expr} {body : List Stmt} {pos : Pos} {m : Str → Option Value} {news : List (Addr × Obj)} {pl : Addr} {vs : List Value} (J : Nat → (Str → Option Value) → List (Addr × Obj) → Prop)
    (hh : A.handled = none) (hl : h₀.IsList pl vs.toArray)
    (hit : wpAny (model rw.prog w) A (eval iter env) (fun v s₁ => v = .ref pl ∧ (∃ h1 tk1, s₁ = { s with heap := h1, toks := tk1 }) ∧ Fr h₀ L s₁.heap m ∧ News h₀ L s₁.heap news ∧ J 0 m news) E s)
    (hs : ∀ x, foldedSetIterable iter env x = pure x)
    (step : ∀ i v m₁ news₁ h₁ tk₁ I oI, vs[i]? = some v → J i m₁ news₁ → Fr h₀ L h₁ m₁ → News h₀ L h₁ ((I, oI) :: news₁) → AllNe I news₁ →
      wpAny (model rw.prog w) A (assign target env v) (fun _ s₃ => wpAny (model rw.prog w) A (execs body env) (ForEnd Q s h₀ L I oI (J (i + 1))) E s₃) E { s with heap := h₁, toks := tk₁ })
    (done : ∀ h' tk m' news', Fr h₀ L h' m' → News h₀ L h' news' → J vs.length m' news' → Q .next { s with heap := h', toks := tk })
    (hE : PassesOwn (model rw.prog w) A env E) :
    wpAny (model rw.prog w) A (exec (.For target iter body [] pos) env) Q E s := by
  refine For_go (h₀ := h₀) (L := L) (wpAny_mono hit (fun v s₁ h₁ => ?_) fun _ _ e => e) hs hE
  obtain ⟨rfl, h1, F, N, hJ⟩ := h₁
  exact ⟨_, _, m, news, J, it_base hh hl, h1, F, N, hJ, fun i v m₁ news₁ h₁ tk₁ I oI hi hP => step i v m₁ news₁ h₁ tk₁ I oI (by simpa using hP), fun h' tk m' news' F' N' hJ => done h' tk m' news' F' N' (by simpa using hJ)⟩
end

end
section
/-- what the law's own loop holds -/
structure St where
  rows : List D
  g : Str
  x : Option Str
  y : Option Str
  t3 : Option Str
  t4 : Option Str
  bs : List D
  rank : Nat
noncomputable def stops (k : Nat) (φ : Ph) : Bool := φ.place == 8 || (φ.place == 0 && Nat.blt 2 k) || (Nat.blt 0 φ.place && Nat.ble φ.place k)
noncomputable def St.put (st : St) (φ : Ph) : St := match φ.place with
  | 0 => { st with rows := st.rows ++ [rowD st.g st.x st.y], g := φ.what, x := none, y := none, rank := 0 }
  | 1 => { st with x := some φ.what, rank := 1 }
  | 2 => { st with y := some φ.what, rank := 2 }
  | 3 => { st with t3 := some φ.what, rank := 3 }
  | 4 => { st with t4 := some φ.what, rank := 4 }
  | 5 => { st with bs := st.bs ++ [ovD], rank := 5 }
  | 6 => { st with bs := st.bs ++ [notD], rank := 6 }
  | n => { st with rank := n }
noncomputable def go (cut : Bool) : List Ph → St → St × List Ph × Bool
  | [], st => (st, [], false)
  | φ :: r, st => if stops st.rank φ = true then (st, φ :: r, false) else if ((φ.place == 1 || φ.place == 2) && !cut) = true then (st, φ :: r, true) else go cut r (st.put φ)
noncomputable def dueD (cut : Bool) (st : St) : D := .tup [.str (Str.ofString "unstring"), itemD (Str.ofString "S"), markDs cut, .tup (st.rows ++ [rowD st.g st.x st.y]), optD st.t3, optD st.t4, .tup st.bs]
noncomputable def st0 : St := ⟨[], Str.ofString "G", none, none, none, none, [], 0⟩
section
variable {cut : Bool}
theorem go_stop {φ : Ph} {r : List Ph} {st : St} (h : stops st.rank φ = true) : go cut (φ :: r) st = (st, φ :: r, false) := if_pos h
theorem go_take {φ : Ph} {r : List Ph} {st : St} (h : stops st.rank φ = false) (h2 : ((φ.place == 1 || φ.place == 2) && !cut) = false) : go cut (φ :: r) st = go cut r (st.put φ) := by
  rw [go, if_neg (by rw [h]; exact Bool.false_ne_true), if_neg (by rw [h2]; exact Bool.false_ne_true)]
theorem go7 {rows g x y t3 t4 bs} (l : List Ph) : go cut l ⟨rows, g, x, y, t3, t4, bs, 7⟩ = (⟨rows, g, x, y, t3, t4, bs, 7⟩, l, false) := by
  cases l with
  | nil => rfl
  | cons φ r => exact go_stop (by cases φ <;> rfl)
theorem go6 {rows g x y t3 t4 bs} (l : List Ph) : ∃ k, go cut l ⟨rows, g, x, y, t3, t4, bs, 6⟩ = (⟨rows, g, x, y, t3, t4, bs, k⟩, (optAt 7 l).2, false) := by
  cases l with
  | nil => exact ⟨_, rfl⟩
  | cons φ r =>
    cases φ <;> first | exact ⟨_, go_stop rfl⟩ | exact ⟨_, (go_take rfl rfl).trans (go7 r)⟩
theorem go5 {rows g x y t3 t4 bs} (l : List Ph) : ∃ k, go cut l ⟨rows, g, x, y, t3, t4, bs, 5⟩ = (⟨rows, g, x, y, t3, t4, bs ++ (match l with | .nv :: _ => [notD] | _ => []), k⟩, (optAt 7 (match l with | .nv :: r => r | r => r)).2, false) := by
  cases l with
  | nil => exact ⟨5, by simp [go, optAt]⟩
  | cons φ r =>
    have e := List.append_nil bs
    cases φ <;> first
      | (refine ⟨5, (go_stop rfl).trans ?_⟩; show (St.mk rows g x y t3 t4 bs 5, _, false) = (St.mk rows g x y t3 t4 (bs ++ []) 5, _, false); rw [e]; rfl)
      | (obtain ⟨k, hk⟩ := go6 (cut := cut) (rows := rows) (g := g) (x := x) (y := y) (t3 := t3) (t4 := t4) (bs := bs ++ [notD]) r; exact ⟨k, (go_take rfl rfl).trans hk⟩)
      | exact ⟨7, (go_take rfl rfl).trans ((go7 r).trans (by simp [optAt, Ph.place]))⟩
theorem brs_ov (r : List Ph) : brs (.ov :: r) = (ovD :: (match r with | .nv :: _ => [notD] | _ => []), (match r with | .nv :: r => r | r => r)) := by
  cases r with
  | nil => rfl
  | cons φ r => cases φ <;> rfl
theorem go4 {rows g x y t3 t4} {n : Nat} (hn : n = 2 ∨ n = 3 ∨ n = 4 ∨ n = 0 ∨ n = 1) (l : List Ph) (h : ∀ φ r, l = φ :: r → 5 ≤ φ.place ∨ stops n φ = true) : ∃ k, go cut l ⟨rows, g, x, y, t3, t4, [], n⟩ = (⟨rows, g, x, y, t3, t4, (brs l).1, k⟩, (optAt 7 (brs l).2).2, false) := by
  cases l with
  | nil => exact ⟨_, rfl⟩
  | cons φ r =>
    by_cases hs : stops n φ = true
    · have hb : brs (φ :: r) = ([], φ :: r) ∧ (optAt 7 (φ :: r)) = (none, φ :: r) := by
        rcases hn with rfl | rfl | rfl | rfl | rfl <;> cases φ <;> first | exact ⟨rfl, rfl⟩ | exact absurd hs (by decide)
      rw [hb.1]
      show ∃ k, _ = (_, (optAt 7 (φ :: r)).2, _)
      rw [hb.2]
      exact ⟨n, go_stop hs⟩
    · have h5 := (h φ r rfl).resolve_right hs
      have hs' : stops n φ = false := by simpa using hs
      cases φ <;> first | exact absurd h5 (by decide) | skip
      · obtain ⟨k, hk⟩ := go5 (cut := cut) (rows := rows) (g := g) (x := x) (y := y) (t3 := t3) (t4 := t4) (bs := [ovD]) r
        rw [brs_ov]
        exact ⟨k, (go_take hs' rfl).trans hk⟩
      · obtain ⟨k, hk⟩ := go6 (cut := cut) (rows := rows) (g := g) (x := x) (y := y) (t3 := t3) (t4 := t4) (bs := [notD]) r
        exact ⟨k, (go_take hs' rfl).trans hk⟩
      · exact ⟨7, (go_take hs' rfl).trans (go7 r)⟩
      · exact absurd rfl hs
theorem go3 {rows g x y t3} {n : Nat} (hn : n = 2 ∨ n = 3 ∨ n = 0 ∨ n = 1) (l : List Ph) (h : ∀ φ r, l = φ :: r → 4 ≤ φ.place ∨ stops n φ = true) : ∃ k, go cut l ⟨rows, g, x, y, t3, none, [], n⟩ = (⟨rows, g, x, y, t3, (optAt 4 l).1, (brs (optAt 4 l).2).1, k⟩, (optAt 7 (brs (optAt 4 l).2).2).2, false) := by
  have r1 : ∀ {φ : Ph} {l : List Ph}, stops 4 φ = true ∨ 5 ≤ φ.place := fun {φ l} => by cases φ <;> first | exact .inl rfl | exact .inr (by decide)
  by_cases h4 : ∃ φ r, l = φ :: r ∧ φ.place = 4
  · obtain ⟨φ, r, rfl, hp⟩ := h4
    rw [show optAt 4 (φ :: r) = (some φ.what, r) from if_pos hp]
    obtain ⟨k, hk⟩ := go4 (cut := cut) (rows := rows) (g := g) (x := x) (y := y) (t3 := t3) (t4 := some φ.what) (n := 4) (.inr (.inr (.inl rfl))) r fun φ _ _ => (r1 (φ := φ) (l := [])).symm
    refine ⟨k, (go_take ?_ ?_).trans ?_⟩
    · rcases hn with rfl | rfl | rfl | rfl <;> cases φ <;> first | rfl | exact absurd hp (by decide)
    · cases φ <;> first | rfl | exact absurd hp (by decide)
    · cases φ <;> first | exact absurd hp (by decide) | exact hk
  · rw [show optAt 4 l = (none, l) from opt_none fun φ r e z => h4 ⟨φ, r, e, z⟩]
    refine go4 (by omega) l fun φ r e => ?_
    rcases h φ r e with z | z
    · exact .inl (Nat.lt_of_le_of_ne z (fun q => h4 ⟨φ, r, e, q.symm⟩))
    · exact .inr z
theorem go2 {rows g x y} {n : Nat} (hn : n ≤ 2) (l : List Ph) (h : ∀ φ r, l = φ :: r → 3 ≤ φ.place ∨ stops n φ = true) : ∃ k, go cut l ⟨rows, g, x, y, none, none, [], n⟩ = (⟨rows, g, x, y, (optAt 3 l).1, (optAt 4 (optAt 3 l).2).1, (brs (optAt 4 (optAt 3 l).2).2).1, k⟩, endL l, false) := by
  have r1 : ∀ {φ : Ph}, stops 3 φ = true ∨ 4 ≤ φ.place := fun {φ} => by cases φ <;> first | exact .inl rfl | exact .inr (by decide)
  unfold endL
  by_cases h4 : ∃ φ r, l = φ :: r ∧ φ.place = 3
  · obtain ⟨φ, r, rfl, hp⟩ := h4
    rw [show optAt 3 (φ :: r) = (some φ.what, r) from if_pos hp]
    obtain ⟨k, hk⟩ := go3 (cut := cut) (rows := rows) (g := g) (x := x) (y := y) (t3 := some φ.what) (n := 3) (.inr (.inl rfl)) r fun φ _ _ => (r1 (φ := φ)).symm
    refine ⟨k, (go_take ?_ ?_).trans ?_⟩
    · rcases (show n = 0 ∨ n = 1 ∨ n = 2 by omega) with rfl | rfl | rfl <;> cases φ <;> first | rfl | exact absurd hp (by decide)
    · cases φ <;> first | rfl | exact absurd hp (by decide)
    · cases φ <;> first | exact absurd hp (by decide) | exact hk
  · rw [show optAt 3 l = (none, l) from opt_none fun φ r e z => h4 ⟨φ, r, e, z⟩]
    refine go3 (by omega) l fun φ r e => ?_
    rcases h φ r e with z | z
    · exact .inl (Nat.lt_of_le_of_ne z (fun q => h4 ⟨φ, r, e, q.symm⟩))
    · exact .inr z
/-- one row's own phrases -/
theorem go_row {rows g t3 t4 bs} {l : List Ph} (ok : okRow cut l) : ∃ k, k ≤ 2 ∧ go cut l ⟨rows, g, none, none, t3, t4, bs, 0⟩ = go cut (rowParse l).2.2 ⟨rows, g, (rowParse l).1, (rowParse l).2.1, t3, t4, bs, k⟩ ∧ ∀ φ r, (rowParse l).2.2 = φ :: r → φ ≠ .g2 → 3 ≤ φ.place ∨ stops k φ = true := by
  show ∃ k, k ≤ 2 ∧ go cut l _ = go cut (optAt 2 (optAt 1 l).2).2 ⟨rows, g, (optAt 1 l).1, (optAt 2 (optAt 1 l).2).1, t3, t4, bs, k⟩ ∧ ∀ φ r, (optAt 2 (optAt 1 l).2).2 = φ :: r → φ ≠ .g2 → 3 ≤ φ.place ∨ stops k φ = true
  have q2 : ∀ φ : Ph, φ ≠ .g2 → 3 ≤ φ.place ∨ stops 2 φ = true := fun φ n => by cases φ <;> first | exact absurd rfl n | exact .inl (by decide) | exact .inr rfl
  by_cases h1 : ∃ φ r, l = φ :: r ∧ φ.place = 1
  · obtain ⟨φ, r, rfl, hp⟩ := h1
    have e1 : optAt 1 (φ :: r) = (some φ.what, r) := if_pos hp
    have hc : cut = true := by
      rcases ok with h | ⟨h, _⟩
      · exact h
      · rw [e1] at h; cases h
    subst hc
    rw [e1]
    have t1 : go true (φ :: r) ⟨rows, g, none, none, t3, t4, bs, 0⟩ = go true r ⟨rows, g, some φ.what, none, t3, t4, bs, 1⟩ := by
      refine (go_take ?_ (Bool.and_false _)).trans ?_
      · cases φ <;> first | rfl | exact absurd hp (by decide)
      · cases φ <;> first | exact absurd hp (by decide) | rfl
    by_cases h2 : ∃ φ' r', r = φ' :: r' ∧ φ'.place = 2
    · obtain ⟨φ', r', rfl, hp'⟩ := h2
      rw [show optAt 2 (φ' :: r') = (some φ'.what, r') from if_pos hp']
      refine ⟨2, Nat.le_refl _, t1.trans ((go_take ?_ (Bool.and_false _)).trans ?_), fun ψ _ _ n => q2 ψ n⟩
      · cases φ' <;> first | rfl | exact absurd hp' (by decide)
      · cases φ' <;> first | exact absurd hp' (by decide) | rfl
    · rw [show optAt 2 r = (none, r) from opt_none fun φ r e z => h2 ⟨φ, r, e, z⟩]
      refine ⟨1, by decide, t1, fun ψ r' e n => ?_⟩
      have n2 : ψ.place ≠ 2 := fun z => h2 ⟨ψ, r', e, z⟩
      cases ψ <;> first | exact absurd rfl n | exact absurd rfl n2 | exact .inl (by decide) | exact .inr rfl
  · have e1 : optAt 1 l = (none, l) := opt_none fun φ r e z => h1 ⟨φ, r, e, z⟩
    rw [e1]
    by_cases h2 : ∃ φ' r', l = φ' :: r' ∧ φ'.place = 2
    · obtain ⟨φ', r', rfl, hp'⟩ := h2
      have e2 : optAt 2 (φ' :: r') = (some φ'.what, r') := if_pos hp'
      have hc : cut = true := by
        rcases ok with h | ⟨_, h⟩
        · exact h
        · rw [e2] at h; cases h
      subst hc
      rw [e2]
      refine ⟨2, Nat.le_refl _, (go_take ?_ (Bool.and_false _)).trans ?_, fun ψ _ _ n => q2 ψ n⟩
      · cases φ' <;> first | rfl | exact absurd hp' (by decide)
      · cases φ' <;> first | exact absurd hp' (by decide) | rfl
    · rw [show optAt 2 l = (none, l) from opt_none fun φ r e z => h2 ⟨φ, r, e, z⟩]
      refine ⟨0, by decide, rfl, fun ψ r' e n => ?_⟩
      have n1 : ψ.place ≠ 1 := fun z => h1 ⟨ψ, r', e, z⟩
      have n2 : ψ.place ≠ 2 := fun z => h2 ⟨ψ, r', e, z⟩
      cases ψ <;> first | exact absurd rfl n | exact absurd rfl n2 | exact absurd rfl n1 | exact .inl (by decide) | exact .inr rfl
theorem go_g2 {rows g x y t3 t4 bs} {k : Nat} (hk : k ≤ 2) (l : List Ph) : go cut (.g2 :: l) ⟨rows, g, x, y, t3, t4, bs, k⟩ = go cut l ⟨rows ++ [rowD g x y], Str.ofString "G2", none, none, t3, t4, bs, 0⟩ :=
  (go_take (by rcases (show k = 0 ∨ k = 1 ∨ k = 2 by omega) with rfl | rfl | rfl <;> rfl) rfl)
theorem go_rows {l : List Ph} {ds : List D} {l3 : List Ph} (H : Rows cut l ds l3) : ∀ {rows g x y k}, k ≤ 2 → (∀ φ r, l = φ :: r → φ ≠ .g2 → 3 ≤ φ.place ∨ stops k φ = true) →
    ∃ st, go cut l ⟨rows, g, x, y, none, none, [], k⟩ = (st, endL l3, false) ∧ dueD cut st = unD cut (rows ++ rowD g x y :: ds) l3 := by
  induction H with
  | done n =>
    intro rows g x y k hk hh
    obtain ⟨k', e⟩ := go2 (cut := cut) (rows := rows) (g := g) (x := x) (y := y) hk _ (fun φ r e => hh φ r e (fun z => n r (z ▸ e)))
    exact ⟨_, e, rfl⟩
  | row ok _ ih =>
    intro rows g x y k hk hh
    rw [go_g2 hk]
    obtain ⟨k', hk', e, hh'⟩ := go_row (cut := cut) (rows := rows ++ [rowD g x y]) (g := Str.ofString "G2") (t3 := none) (t4 := none) (bs := []) ok
    rw [e]
    obtain ⟨st, e2, hd⟩ := ih (rows := rows ++ [rowD g x y]) (g := Str.ofString "G2") hk' hh'
    refine ⟨st, e2, hd.trans ?_⟩
    rw [List.append_assoc]; rfl
theorem go_rows1 {l : List Ph} {ds : List D} {l3 : List Ph} (H : Rows1 cut l ds l3) : ∃ st, go cut l st0 = (st, endL l3, false) ∧ dueD cut st = unD cut ds l3 := by
  obtain ⟨ok, ds', rfl, hr⟩ := H
  obtain ⟨k', hk', e, hh'⟩ := go_row (cut := cut) (rows := []) (g := Str.ofString "G") (t3 := none) (t4 := none) (bs := []) ok
  obtain ⟨st, e2, hd⟩ := go_rows hr (rows := []) (g := Str.ofString "G") hk' hh'
  exact ⟨st, e.trans e2, hd⟩
theorem bad_head {l : List Ph} (h : badRow l) : ∃ φ r, l = φ :: r ∧ (φ.place = 1 ∨ φ.place = 2) := by
  rcases h with h | h
  · by_cases h1 : ∃ φ r, l = φ :: r ∧ φ.place = 1
    · obtain ⟨φ, r, e, z⟩ := h1; exact ⟨φ, r, e, .inl z⟩
    · rw [show optAt 1 l = (none, l) from opt_none fun φ r e z => h1 ⟨φ, r, e, z⟩] at h; exact absurd rfl h
  · by_cases h1 : ∃ φ r, l = φ :: r ∧ φ.place = 2
    · obtain ⟨φ, r, e, z⟩ := h1; exact ⟨φ, r, e, .inr z⟩
    · rw [show optAt 2 l = (none, l) from opt_none fun φ r e z => h1 ⟨φ, r, e, z⟩] at h; exact absurd rfl h
theorem go_bad {l : List Ph} (h : badRow l) {rows g x y t3 t4 bs} : ∃ st, go false l ⟨rows, g, x, y, t3, t4, bs, 0⟩ = (st, l, true) := by
  obtain ⟨φ, r, rfl, hp⟩ := bad_head h
  refine ⟨⟨rows, g, x, y, t3, t4, bs, 0⟩, ?_⟩
  have h1 : stops 0 φ = false := by cases φ <;> first | rfl | exact absurd hp (by decide)
  have h2 : ((φ.place == 1 || φ.place == 2) && !false) = true := by cases φ <;> first | rfl | exact absurd hp (by decide)
  rw [go, if_neg (by rw [h1]; exact Bool.false_ne_true), if_pos h2]
theorem go_rowsF {l lf : List Ph} (H : RowsF l lf) : ∀ {rows g x y t3 t4 bs}, ∃ st, go false l ⟨rows, g, x, y, t3, t4, bs, 0⟩ = (st, lf, true) := by
  induction H with
  | here b => intro rows g x y t3 t4 bs; rw [go_g2 (by decide)]; exact go_bad b
  | next _ _ _ ih => intro rows g x y t3 t4 bs; rw [go_g2 (by decide)]; exact ih
theorem go_rowsF1 {l lf : List Ph} (H : RowsF1 l lf) : ∃ st, go false l st0 = (st, lf, true) := by
  rcases H with ⟨rfl, b⟩ | ⟨_, _, h⟩
  · exact go_bad b
  · exact go_rowsF h
theorem rows_tot (cut : Bool) : ∀ (n : Nat) (l : List Ph), l.length ≤ n → (∃ ds l3, Rows cut l ds l3) ∨ (cut = false ∧ ∃ lf, RowsF l lf)
  | 0, l, h => .inl ⟨[], l, .done fun r e => by subst e; exact absurd h (by simp)⟩
  | n + 1, l, h => by
    rcases g2_or l with ⟨r, rfl⟩ | hn
    · have hr : r.length ≤ n := by simpa using h
      rcases ok_bad cut r with ok | ⟨hc, b⟩
      · rcases rows_tot cut n (rowParse r).2.2 (Nat.le_trans (rowParse_len r) hr) with ⟨ds, l3, h3⟩ | ⟨hc, lf, h3⟩
        · exact .inl ⟨_, l3, .row ok h3⟩
        · rcases ok with z | ⟨a, b⟩
          · rw [z] at hc; cases hc
          · rw [none_rest a b] at h3
            exact .inr ⟨hc, lf, .next a b h3⟩
      · exact .inr ⟨hc, r, .here b⟩
    · exact .inl ⟨[], l, .done hn⟩
theorem rows1_tot (cut : Bool) (l : List Ph) : (∃ ds l3, Rows1 cut l ds l3) ∨ (cut = false ∧ ∃ lf, RowsF1 l lf) := by
  rcases ok_bad cut l with ok | ⟨hc, b⟩
  · rcases rows_tot cut _ (rowParse l).2.2 (Nat.le_refl _) with ⟨ds, l3, h⟩ | ⟨hc, lf, h⟩
    · exact .inl ⟨_, l3, ok, ds, rfl, h⟩
    · rcases ok with z | ⟨a, b⟩
      · rw [z] at hc; cases hc
      · rw [none_rest a b] at h
        exact .inr ⟨hc, lf, .inr ⟨a, b, h⟩⟩
  · exact .inr ⟨hc, l, .inl ⟨rfl, b⟩⟩
end

end
section
/-- how deep the tuples are -/
inductive Dp : Nat → D → Prop
  | none {n : Nat} : Dp n .none
  | bool {n : Nat} (b : Bool) : Dp n (.bool b)
  | str {n : Nat} (u : Str) : Dp n (.str u)
  | bytes {n : Nat} (b : Array UInt8) : Dp n (.bytes b)
  | tup {n : Nat} {xs : List D} : (∀ x ∈ xs, Dp n x) → Dp (n + 1) (.tup xs)
theorem RepA.both {P P' : Addr → Obj → Prop} : ∀ {xs ys : List Value} {ds : List D}, RepA P xs ds → RepA P' ys ds → ∀ (j : Nat) (h1 : j < xs.length) (h2 : j < ys.length), ∃ d ∈ ds, RepN P xs[j] d ∧ RepN P' ys[j] d
  | _, _, _, .nil, .nil, _, h, _ => absurd h (Nat.not_lt_zero _)
  | _, _, _, .cons a _, .cons b _, 0, _, _ => ⟨_, .head _, a, b⟩
  | _, _, _, .cons _ r, .cons _ q, j + 1, h1, h2 => by
    obtain ⟨d, hd, x⟩ := r.both q j (Nat.lt_of_succ_lt_succ h1) (Nat.lt_of_succ_lt_succ h2)
    exact ⟨d, .tail _ hd, x⟩
/-- the same tuples are equal -/
theorem rep_eq {P P' : Addr → Obj → Prop} {s : Shared} (hP : ∀ x o, P x o → s.heap.get? x = some o) (hP' : ∀ x o, P' x o → s.heap.get? x = some o) : ∀ (n : Nat) {a b : Value} {d : D} {A : Around}, Dp n d → RepN P a d → RepN P' b d → A.units + n < cLine → SeqAt.EqAt A s a b true := by
  have leaf : ∀ {a b : Value} {d : D} {A : Around}, (∀ xs, d ≠ .tup xs) → RepN P a d → RepN P' b d → SeqAt.EqAt A s a b true := fun hd ha hb => by
    cases ha with
    | none => cases hb; exact SeqAt.EqAt.same _
    | bool b => cases hb; exact SeqAt.EqAt.same _
    | str u t => cases hb with | str _ t2 => exact (beq_self_eq_true u) ▸ SeqAt.EqAt.str_str u t u t2
    | bytes b t => cases hb with | bytes _ t2 => exact fun prog w E Q h => eqBool_bytes (by simpa using h)
    | tup _ _ => exact absurd rfl (hd _)
  intro n
  induction n with
  | zero => exact fun hd ha hb _ => leaf (fun xs e => by subst e; cases hd) ha hb
  | succ n ih =>
    intro a b d A hd ha hb hu
    by_cases ht : ∃ xs, d = .tup xs
    · obtain ⟨xs, rfl⟩ := ht
      cases ha with
      | tup a1 r1 =>
        cases hb with
        | tup a2 r2 =>
          rename_i x1 vs1 x2 vs2
          cases hd with
          | tup hd =>
            by_cases e : x1 = x2
            · subst e; exact SeqAt.EqAt.same _
            · refine SeqAt.EqAt.of_refs e ?_
              have z := SeqAt.RcAt.tuples (A := A) (s := s) (items := vs1.toArray) (items2 := vs2.toArray) (e := fun _ => true) ⟨_, hP _ _ a1, rfl, _, rfl⟩ ⟨_, hP' _ _ a2, rfl, _, rfl⟩ (by omega) fun j h1 h2 => by
                obtain ⟨d, hdm, q1, q2⟩ := r1.both r2 j (by simpa using h1) (by simpa using h2)
                exact ih (hd d hdm) (by simpa using q1) (by simpa using q2) (by show A.units + 1 + n < _; omega)
              have l1 := r1.len
              have l2 := r2.len
              have e2 : ((List.range (min vs1.toArray.size vs2.toArray.size)).all (fun _ => true) && vs1.toArray.size == vs2.toArray.size) = true := by
                simp [l1, l2]
              rwa [e2] at z
    · exact leaf (fun xs e => ht ⟨xs, e⟩) ha hb
theorem rep_rc {P P' : Addr → Obj → Prop} {s : Shared} (hP : ∀ x o, P x o → s.heap.get? x = some o) (hP' : ∀ x o, P' x o → s.heap.get? x = some o) {n : Nat} {a b : Value} {xs : List D} {A : Around} (hd : Dp n (.tup xs)) (ha : RepN P a (.tup xs)) (hb : RepN P' b (.tup xs)) (hu : A.units + n < cLine) : SeqAt.RcAt A s a b true := by
  cases ha with
  | tup a1 r1 =>
    cases hb with
    | tup a2 r2 =>
      rename_i x1 vs1 x2 vs2
      cases hd with
      | tup hd =>
        rename_i n
        have z := SeqAt.RcAt.tuples (A := A) (s := s) (items := vs1.toArray) (items2 := vs2.toArray) (e := fun _ => true) ⟨_, hP _ _ a1, rfl, _, rfl⟩ ⟨_, hP' _ _ a2, rfl, _, rfl⟩ (by omega) fun j h1 h2 => by
          obtain ⟨d, hdm, q1, q2⟩ := r1.both r2 j (by simpa using h1) (by simpa using h2)
          exact rep_eq hP hP' n (hd d hdm) (by simpa using q1) (by simpa using q2) (by show A.units + 1 + n < _; omega)
        have l1 := r1.len
        have l2 := r2.len
        have e2 : ((List.range (min vs1.toArray.size vs2.toArray.size)).all (fun _ => true) && vs1.toArray.size == vs2.toArray.size) = true := by
          simp [l1, l2]
        rwa [e2] at z
theorem dp_item (n : Nat) (u : Str) : Dp (n + 2) (itemD u) := .tup (by simp only [List.forall_mem_cons]; exact ⟨.str _, .str _, .tup (fun _ h => nomatch h), .tup (fun _ h => nomatch h), .none, fun _ h => nomatch h⟩)
theorem dp_opt (n : Nat) : ∀ u : Option Str, Dp (n + 2) (optD u)
  | none => .none
  | some u => dp_item n u
theorem dp_row (n : Nat) (g : Str) (x y : Option Str) : Dp (n + 3) (rowD g x y) := .tup (by simp only [List.forall_mem_cons]; exact ⟨dp_item _ _, dp_opt _ _, dp_opt _ _, fun _ h => nomatch h⟩)
theorem dp_rows {cut : Bool} {l : List Ph} {ds : List D} {l' : List Ph} (H : Rows cut l ds l') (n : Nat) : ∀ d ∈ ds, Dp (n + 3) d := by
  induction H with
  | done _ => exact fun _ h => nomatch h
  | row _ _ ih => exact List.forall_mem_cons.mpr ⟨dp_row _ _ _ _, ih⟩
theorem dp_marks (n : Nat) (cut : Bool) : Dp (n + 4) (markDs cut) := by
  cases cut
  · exact .tup fun _ h => nomatch h
  · unfold markDs marksD
    refine .tup ?_
    simp only [List.forall_mem_cons]
    refine ⟨.tup ?_, .tup ?_, fun _ h => nomatch h⟩ <;> simp only [List.forall_mem_cons]
    · exact ⟨.tup (by simp only [List.forall_mem_cons]; exact ⟨.str _, .bytes _, fun _ h => nomatch h⟩), .bool _, fun _ h => nomatch h⟩
    · exact ⟨.tup (by simp only [List.forall_mem_cons]; exact ⟨.str _, .str _, fun _ h => nomatch h⟩), .bool _, fun _ h => nomatch h⟩
theorem dp_ov (n : Nat) : Dp (n + 3) ovD := .tup (by simp only [List.forall_mem_cons]; exact ⟨.str _, .tup (by simp only [List.forall_mem_cons]; exact ⟨.tup (by simp only [List.forall_mem_cons]; exact ⟨.str _, fun _ h => nomatch h⟩), fun _ h => nomatch h⟩), fun _ h => nomatch h⟩)
theorem dp_not (n : Nat) : Dp (n + 3) notD := .tup (by
  simp only [List.forall_mem_cons]
  have one : Dp (n + 1) (.tup [.str (Str.ofString "continue")]) := .tup (by simp only [List.forall_mem_cons]; exact ⟨.str _, fun _ h => nomatch h⟩)
  exact ⟨.str _, .tup (by simp only [List.forall_mem_cons]; exact ⟨one, one, fun _ h => nomatch h⟩), fun _ h => nomatch h⟩)
theorem dp_brs (n : Nat) (l : List Ph) : ∀ d ∈ (brs l).1, Dp (n + 3) d := by
  unfold brs
  split <;> simp only [List.forall_mem_cons]
  · exact ⟨dp_ov _, dp_not _, fun _ h => nomatch h⟩
  · exact ⟨dp_ov _, fun _ h => nomatch h⟩
  · exact ⟨dp_not _, fun _ h => nomatch h⟩
  · exact fun _ h => nomatch h
theorem dp_un {cut : Bool} {l0 : List Ph} {ds : List D} {l : List Ph} (H : Rows1 cut l0 ds l) : Dp 5 (unD cut ds l) := by
  obtain ⟨_, ds', rfl, hr⟩ := H
  refine .tup ?_
  simp only [List.forall_mem_cons]
  exact ⟨.str _, dp_item _ _, dp_marks _ _, .tup (List.forall_mem_cons.mpr ⟨dp_row _ _ _ _, dp_rows hr 0⟩), dp_opt _ _, dp_opt _ _, .tup (dp_brs 0 _), fun _ h => nomatch h⟩

end
section
noncomputable def Ph.text : Ph → Str
  | .g2 => Str.ofString "G2" | .d1 => Str.ofString "DELIMITER IN D" | .d2 => Str.ofString "DELIMITER D2" | .c1 => Str.ofString "COUNT IN C" | .c2 => Str.ofString "COUNT C2"
  | .p1 => Str.ofString "WITH POINTER P" | .p2 => Str.ofString "POINTER P2" | .t1 => Str.ofString "TALLYING IN T" | .t2 => Str.ofString "TALLYING T2"
  | .ov => Str.ofString "ON OVERFLOW CONTINUE" | .nv => Str.ofString "NOT OVERFLOW CONTINUE CONTINUE" | .eu => Str.ofString "END-UNSTRING" | .wt => Str.ofString "WITH TEST"
/-- what a phrase brings -/
noncomputable def Ph.d : Ph → D
  | .ov => ovD | .nv => notD | φ => .str φ.what
/-- in the ledger or in the base -/
noncomputable def InB (tl : List (Addr × Obj)) (b : Heap) : Addr → Obj → Prop := fun a o => (a, o) ∈ tl ∨ b.get? a = some o
theorem InB.mono {tl tl' : List (Addr × Obj)} {b : Heap} (h : ∀ q ∈ tl, q ∈ tl') : ∀ a o, InB tl b a o → InB tl' b a o := fun _ _ z => z.imp (h _) id
noncomputable abbrev Hp (h : Heap) : Addr → Obj → Prop := fun a o => h.get? a = some o
noncomputable def PhrAt (h : Heap) (v : Value) (φ : Ph) : Prop := ∃ a t0 t1 x, v = .ref a ∧ h.get? a = some (tupO [.int φ.place t0, .str φ.text t1, x]) ∧ RepN (Hp h) x φ.d
noncomputable def PhrsAt (h : Heap) (vs : List Value) (l : List Ph) : Prop := vs.length = l.length ∧ ∀ (i : Nat) (v : Value), vs[i]? = some v → ∃ φ : Ph, l[i]? = some φ ∧ PhrAt h v φ
/-- a row under way: a list in the ledger -/
structure RowIn (tl : List (Addr × Obj)) (b : Heap) (v : Value) (d : D) : Prop where
  ex : ∃ a g t X Y x y k, v = .ref a ∧ (a, listOf [Value.str g t, X, Y].toArray k) ∈ tl ∧ RepN (InB tl b) X (optD x) ∧ RepN (InB tl b) Y (optD y) ∧ d = rowD g x y
inductive RowsIn (tl : List (Addr × Obj)) (b : Heap) : List Value → List D → Prop
  | nil : RowsIn tl b [] []
  | snoc {vs : List Value} {ds : List D} {v : Value} {d : D} : RowsIn tl b vs ds → RowIn tl b v d → RowsIn tl b (vs ++ [v]) (ds ++ [d])
theorem RowIn.mono {tl tl' : List (Addr × Obj)} {b : Heap} {v : Value} {d : D} (h : RowIn tl b v d) (s : ∀ q ∈ tl, q ∈ tl') : RowIn tl' b v d := by
  obtain ⟨a, g, t, X, Y, x, y, k, h0, h1, h2, h3, h4⟩ := h.ex
  exact ⟨a, g, t, X, Y, x, y, k, h0, s _ h1, h2.mono (InB.mono s), h3.mono (InB.mono s), h4⟩
theorem RowsIn.mono {tl tl' : List (Addr × Obj)} {b : Heap} {vs : List Value} {ds : List D} (h : RowsIn tl b vs ds) (s : ∀ q ∈ tl, q ∈ tl') : RowsIn tl' b vs ds := by
  induction h with
  | nil => exact .nil
  | snoc _ r ih => exact .snoc ih (r.mono s)
/-- what the loop of _law_due keeps of its tail -/
structure Dq (b : Heap) (as : List Addr) (tl : List (Addr × Obj)) (vr : List Value) (dr : List D) (xs : List (Value × D)) (vb : List Value) (db : List D) : Prop where
  ne : ∀ a ∈ as, ∀ q ∈ tl, q.1 ≠ a
  rows : RowsIn tl b vr dr
  rep : ∀ x ∈ xs, RepN (InB tl b) x.1 x.2
  brs : RepA (InB tl b) vb db
noncomputable def dueM (plv mkv rv tv bv : Value) (i k : Nat) (ti tk : Tok) (op ot ow : Option Value) : Str → Option Value := fun y =>
  if y = Str.ofString "at" then some (.int i ti) else if y = Str.ofString "rank" then some (.int k tk) else if y = Str.ofString "what" then ow else if y = Str.ofString "text" then ot else if y = Str.ofString "place" then op
  else if y = Str.ofString "branches" then some bv else if y = Str.ofString "told" then some tv else if y = Str.ofString "rows" then some rv else if y = Str.ofString "marks" then some mkv else if y = Str.ofString "phrases" then some plv else none
noncomputable def DuePost (h1 : Heap) (cut : Bool) (l : List Ph) (v : Value) (o : List (Addr × Obj)) : Prop :=
  ∃ r due i ti flag st l', v = .ref r ∧ (r, tupO [due, .int (i : Nat) ti, .bool flag]) ∈ o ∧ go cut l st0 = (st, l', flag) ∧ i + l'.length = l.length ∧ (flag = false → RepN (InB o h1) due (dueD cut st))
/-- the loop's state at phrase i -/
structure DJx (w : World) (b : Heap) (cut : Bool) (l : List Ph) (lr to lb ra : Addr) (tl : List (Addr × Obj)) (vro : List Value) (X Y V3 V4 : Value) (vb : List Value) (oD : Obj) (st : St) (i : Nat) : Prop where
  dict : oD.IsDictOf (PySem.intKind rw.prog w) [((3 : Int), V3), ((4 : Int), V4)]
  dq : Dq b [lr, ra, to, lb] tl vro st.rows [(X, optD st.x), (Y, optD st.y), (V3, optD st.t3), (V4, optD st.t4)] vb st.bs
  n1 : AllNe lr [(ra, emD), (to, emD), (lb, emD)]
  n2 : AllNe ra [(to, emD), (lb, emD)]
  gi : go cut (l.drop i) st = go cut l st0
  s1 : vro.length ≤ i
  s2 : vb.length ≤ i
noncomputable abbrev dueL (lr to lb ra : Addr) (tl : List (Addr × Obj)) (vro : List Value) (g : Str) (tg : Tok) (X Y : Value) (vb : List Value) (oD : Obj) (k1 k2 k3 : Nat) : List (Addr × Obj) :=
  (lr, listOf (vro ++ [Value.ref ra]).toArray k1) :: (ra, listOf [Value.str g tg, X, Y].toArray k2) :: (to, oD) :: (lb, listOf vb.toArray k3) :: tl
inductive DJ (w : World) (b : Heap) (cut : Bool) (l : List Ph) (plv mk : Value) (lr to lb : Addr) (i : Nat) (m₁ : Str → Option Value) (news₁ : List (Addr × Obj)) : Prop
  | mk {ra tl vro X Y V3 V4 vb oD st tg k1 k2 k3 ti tk op ot ow} (e1 : m₁ = dueM plv mk (.ref lr) (.ref to) (.ref lb) i st.rank ti tk op ot ow) (e2 : news₁ = dueL lr to lb ra tl vro st.g tg X Y vb oD k1 k2 k3) (x : DJx w b cut l lr to lb ra tl vro X Y V3 V4 vb oD st i) : DJ w b cut l plv mk lr to lb i m₁ news₁
/-- where a turn of the loop ends -/
inductive DueStep (w : World) (g : Heap) (L : Addr) (s : Shared) (b : Heap) (cut : Bool) (l : List Ph) (plv mk : Value) (lr to lb : Addr) (i : Nat) (I : Addr) (oI : Obj) : Flow → Shared → Prop
  | next {h' tk m₂ news₂} : Fr g L h' m₂ → News g L h' ((I, oI) :: news₂) → AllNe I news₂ → DJ w b cut l plv mk lr to lb (i + 1) m₂ news₂ → DueStep w g L s b cut l plv mk lr to lb i I oI .next { s with heap := h', toks := tk }
  | brk {h' tk news' ra tl vro X Y V3 V4 vb oD st tg k1 k2 k3 ti tr op ot ow} : Fr g L h' (dueM plv mk (.ref lr) (.ref to) (.ref lb) i st.rank ti tr op ot ow) → News g L h' news' → (∀ q ∈ dueL lr to lb ra tl vro st.g tg X Y vb oD k1 k2 k3, q ∈ news') →
      DJx w b cut l lr to lb ra tl vro X Y V3 V4 vb oD st i → go cut l st0 = (st, l.drop i, false) → DueStep w g L s b cut l plv mk lr to lb i I oI .brk { s with heap := h', toks := tk }
  | ret {h' tk m' news' r ti st} : Fr g L h' m' → News g L h' news' → (r, tupO [.none, .int (i : Nat) ti, .bool true]) ∈ news' → go cut l st0 = (st, l.drop i, true) → DueStep w g L s b cut l plv mk lr to lb i I oI (.ret (.ref r)) { s with heap := h', toks := tk }
theorem Dq.off {b : Heap} {as : List Addr} {tl : List (Addr × Obj)} {vr : List Value} {dr : List D} {xs : List (Value × D)} {vb : List Value} {db : List D} (P : Dq b as tl vr dr xs vb db) {I : Addr} (h : ∀ q ∈ tl, q.1 ≠ I) : Dq b (I :: as) tl vr dr xs vb db := ⟨fun a ha => (List.mem_cons.mp ha).elim (fun e => e ▸ h) (P.ne a), P.rows, P.rep, P.brs⟩
theorem due_for {w : World} {A : Around} {E : Value → Shared → Prop} {Q : Flow → Shared → Prop} {s : Shared} {env : Env} {g b : Heap} {L : Addr} {target iter : Expr} {body : List Stmt} {pos : Pos} {m : Str → Option Value} {news : List (Addr × Obj)} {pl lr to lb ra : Addr} {mk : Value} {vs : List Value} {l : List Ph} {cut : Bool} {oD : Obj} {k1 k2 k3 : Nat} {tg ti tk : Tok}
    (F : Fr g L s.heap m) (N : News g L s.heap news) (i1 : (lr, listOf [Value.ref ra].toArray k1) ∈ news) (i2 : (ra, listOf [Value.str (Str.ofString "G") tg, Value.none, Value.none].toArray k2) ∈ news) (i3 : (to, oD) ∈ news) (i4 : (lb, listOf ([] : List Value).toArray k3) ∈ news) (hm : m = dueM (.ref pl) mk (.ref lr) (.ref to) (.ref lb) 0 0 ti tk none none none)
    (hd : oD.IsDictOf (PySem.intKind rw.prog w) [((3 : Int), .none), ((4 : Int), .none)]) (n1 : AllNe lr [(ra, emD), (to, emD), (lb, emD)]) (n2 : AllNe ra [(to, emD), (lb, emD)])
    (hh : A.handled = none) (hl : g.IsList pl vs.toArray) (hp : PhrsAt b vs l) (hbg : KeepAll b g)
    (hit : wpAny (model rw.prog w) A (eval iter env) (fun v s₁ => v = .ref pl ∧ s₁ = s) E s)
    (hs : ∀ x, foldedSetIterable iter env x = pure x)
    (step : ∀ i φ a t0 t1 x9 ra tl vro X Y V3 V4 vb oD st tg k1 k2 k3 ti tk op ot ow h₁ tk₁ I oI, IsTup h₁ a #[.int φ.place t0, .str φ.text t1, x9] → RepN (Hp b) x9 φ.d → go cut l st0 = go cut (φ :: l.drop (i + 1)) st → l.drop i = φ :: l.drop (i + 1) → oD.IsDictOf (PySem.intKind rw.prog w) [((3 : Int), V3), ((4 : Int), V4)] →
      Dq b [I, lr, ra, to, lb] tl vro st.rows [(X, optD st.x), (Y, optD st.y), (V3, optD st.t3), (V4, optD st.t4)] vb st.bs → AllNe lr [(ra, emD), (to, emD), (lb, emD)] → AllNe ra [(to, emD), (lb, emD)] → vro.length ≤ i → vb.length ≤ i → i < l.length →
      Fr g L h₁ (dueM (.ref pl) mk (.ref lr) (.ref to) (.ref lb) i st.rank ti tk op ot ow) → News g L h₁ ((I, oI) :: dueL lr to lb ra tl vro st.g tg X Y vb oD k1 k2 k3) → AllNe I [(lr, emD), (ra, emD), (to, emD), (lb, emD)] →
      wpAny (model rw.prog w) A (assign target env (.ref a)) (fun _ s₃ => wpAny (model rw.prog w) A (execs body env) (DueStep w g L s b cut l (.ref pl) mk lr to lb i I oI) E s₃) E { s with heap := h₁, toks := tk₁ })
    (fin : ∀ i l' ra tl vro X Y V3 V4 vb oD st tg k1 k2 k3 ti tk op ot ow h₁ tk₁ news', go cut l st0 = (st, l', false) → i + l'.length = l.length → DJx w b cut l lr to lb ra tl vro X Y V3 V4 vb oD st i →
      Fr g L h₁ (dueM (.ref pl) mk (.ref lr) (.ref to) (.ref lb) i st.rank ti tk op ot ow) → News g L h₁ news' → (∀ q ∈ dueL lr to lb ra tl vro st.g tg X Y vb oD k1 k2 k3, q ∈ news') → Q .next { s with heap := h₁, toks := tk₁ })
    (rt : ∀ i r ti st h' tk m' news', Fr g L h' m' → News g L h' news' → (r, tupO [.none, .int (i : Nat) ti, .bool true]) ∈ news' → go cut l st0 = (st, l.drop i, true) → i < l.length → Q (.ret (.ref r)) { s with heap := h', toks := tk })
    (hE : PassesOwn (model rw.prog w) A env E) :
    wpAny (model rw.prog w) A (exec (.For target iter body [] pos) env) Q E s := by
  obtain ⟨hvl, hpa⟩ := hp
  have hin : ∀ q ∈ dueL lr to lb ra [] [] (Str.ofString "G") tg .none .none [] oD k1 k2 k3, q ∈ news := by
    simp only [List.forall_mem_cons]
    exact ⟨i1, i2, i3, i4, fun _ h => nomatch h⟩
  refine For_base (J := DJ w b cut l (.ref pl) mk lr to lb) (m := m) (news := dueL lr to lb ra [] [] (Str.ofString "G") tg .none .none [] oD k1 k2 k3) hh hl (wpAny_mono hit (fun v s₁ e => ⟨e.1, ⟨s.heap, s.toks, e.2⟩, e.2 ▸ F, e.2 ▸ fun q hq => N _ (hin q hq), ?_⟩) fun _ _ e => e) hs (fun i v m₁ news₁ h₁ tk₁ I oI hv J F₁ N₁ hI => ?_) (fun h' tk m' news' F' N' J => ?_) hE
  · refine .mk (st := st0) hm rfl ⟨hd, ⟨fun _ _ _ h => (nomatch h), .nil, fun x hx => ?_, .nil⟩, n1, n2, rfl, Nat.le_refl _, Nat.le_refl _⟩
    simp only [List.mem_cons, List.not_mem_nil, or_false] at hx
    rcases hx with rfl | rfl | rfl | rfl <;> exact .none
  · obtain ⟨φ, hφ, hpv⟩ := hpa i v hv
    have hdr : l.drop i = φ :: l.drop (i + 1) := by
      obtain ⟨hi, e⟩ := List.getElem?_eq_some_iff.mp hφ
      rw [← e]; exact List.drop_eq_getElem_cons hi
    have hil : i < l.length := (List.getElem?_eq_some_iff.mp hφ).1
    cases J with
    | mk e1 e2 x =>
      subst e1 e2
      obtain ⟨a9, t0, t1, x9, rfl, ha9, hx9⟩ := hpv
      refine wpAny_mono (step i φ a9 t0 t1 x9 _ _ _ _ _ _ _ _ _ _ _ _ _ _ _ _ _ _ _ h₁ tk₁ I oI ⟨_, F₁.keep _ _ (hbg _ _ ha9), rfl, _, rfl⟩ hx9 (by rw [← hdr]; exact x.gi.symm) hdr x.dict (x.dq.off fun q hq => AllNe.get hI.2.2.2.2 hq) x.n1 x.n2 x.s1 x.s2 hil F₁ N₁ ⟨hI.1, hI.2.1, hI.2.2.1, hI.2.2.2.1, trivial⟩) (fun _ s₃ h3 => wpAny_mono h3 (fun f s' d => ?_) fun _ _ e => e) fun _ _ e => e
      cases d with
      | next F' N' a J' => exact .next _ _ _ _ F' N' a J'
      | brk F' N' hin' x' hg => exact .brk (fin i (l.drop i) _ _ _ _ _ _ _ _ _ _ _ _ _ _ _ _ _ _ _ _ _ _ hg (by rw [List.length_drop]; omega) x' F' N' hin')
      | ret F' N' hr hg => exact .ret (rt i _ _ _ _ _ _ _ F' N' hr hg hil)
  · cases J with
    | mk e1 e2 x =>
      subst e1 e2
      have hg := x.gi
      have e : l.drop vs.length = [] := List.drop_eq_nil_of_le (Nat.le_of_eq hvl.symm)
      rw [e] at hg
      exact fin vs.length [] _ _ _ _ _ _ _ _ _ _ _ _ _ _ _ _ _ _ _ h' tk _ hg.symm (by rw [hvl]; rfl) x F' N' fun _ h => h
theorem dueM_start {plv mkv rv tv bv : Value} {ti tk : Tok} : (fun y => if y = Str.ofString "branches" then some bv else if y = Str.ofString "rank" then some (.int 0 tk) else if y = Str.ofString "at" then some (.int 0 ti) else if y = Str.ofString "told" then some tv else if y = Str.ofString "rows" then some rv else List.lookup y [(Str.ofString "phrases", plv), (Str.ofString "marks", mkv)].reverse) = dueM plv mkv rv tv bv 0 0 ti tk none none none := by
  funext y
  have e : List.lookup y [(Str.ofString "phrases", plv), (Str.ofString "marks", mkv)].reverse = if y = Str.ofString "marks" then some mkv else if y = Str.ofString "phrases" then some plv else none := by
    show List.lookup y [(Str.ofString "marks", mkv), (Str.ofString "phrases", plv)] = _
    simp only [List.lookup]
    by_cases h1 : y = Str.ofString "marks"
    · rw [if_pos h1, show (y == Str.ofString "marks") = true from by rw [h1, beq_self_eq_true]]
    · rw [if_neg h1, show (y == Str.ofString "marks") = false from by rw [beq_eq_false_iff_ne]; exact h1]
      by_cases h2 : y = Str.ofString "phrases"
      · rw [if_pos h2, show (y == Str.ofString "phrases") = true from by rw [h2, beq_self_eq_true]]
      · rw [if_neg h2, show (y == Str.ofString "phrases") = false from by rw [beq_eq_false_iff_ne]; exact h2]
  rw [e]
  unfold dueM
  by_cases h : y ∈ [Str.ofString "branches", Str.ofString "rank", Str.ofString "at", Str.ofString "told", Str.ofString "rows", Str.ofString "what", Str.ofString "text", Str.ofString "place"]
  · simp only [List.mem_cons, List.not_mem_nil, or_false] at h
    rcases h with rfl | rfl | rfl | rfl | rfl | rfl | rfl | rfl <;> rfl
  · simp only [List.mem_cons, List.not_mem_nil, or_false, not_or] at h
    obtain ⟨a1, a2, a3, a4, a5, a6, a7, a8⟩ := h
    simp only [a1, a2, a3, a4, a5, a6, a7, a8, if_false]
theorem dueM_turn {plv mkv rv tv bv : Value} {i k k' : Nat} {ti tk ti' tk' : Tok} {op ot ow : Option Value} {p t x : Value} : (fun y => if y = Str.ofString "at" then some (.int ((i : Int) + 1) ti') else if y = Str.ofString "rank" then some (.int k' tk') else if y = Str.ofString "what" then some x else if y = Str.ofString "text" then some t else if y = Str.ofString "place" then some p else dueM plv mkv rv tv bv i k ti tk op ot ow y) = dueM plv mkv rv tv bv (i + 1) k' ti' tk' (some p) (some t) (some x) := by
  funext y
  unfold dueM
  by_cases h : y ∈ [Str.ofString "rank", Str.ofString "at", Str.ofString "what", Str.ofString "text", Str.ofString "place"]
  · simp only [List.mem_cons, List.not_mem_nil, or_false] at h
    rcases h with rfl | rfl | rfl | rfl | rfl <;> rfl
  · simp only [List.mem_cons, List.not_mem_nil, or_false, not_or] at h
    obtain ⟨a1, a2, a3, a4, a5⟩ := h
    simp only [a1, a2, a3, a4, a5, if_false]
theorem stops_eq (k : Nat) (φ : Ph) : stops k φ = decide (φ.place = 8 ∨ (φ.place = 0 ∧ 2 < k) ∨ (0 < φ.place ∧ φ.place ≤ k)) := by
  unfold stops
  rw [Bool.eq_iff_iff]
  simp only [Bool.or_eq_true, Bool.and_eq_true, beq_iff_eq, Nat.blt_eq, Nat.ble_eq, decide_eq_true_iff]
  omega
theorem stops_of {k : Nat} {φ : Ph} {b : Bool} (h : b = true ↔ (φ.place = 8 ∨ (φ.place = 0 ∧ 2 < k) ∨ (0 < φ.place ∧ φ.place ≤ k))) : b = stops k φ := by
  rw [stops_eq, Bool.eq_iff_iff, decide_eq_true_iff]; exact h
noncomputable abbrev cuts (cut : Bool) (φ : Ph) : Bool := (φ.place == 1 || φ.place == 2) && !cut
theorem what_str {h : Heap} {x : Value} {φ : Ph} (r : RepN (Hp h) x φ.d) (n : φ.place ≠ 5) (n' : φ.place ≠ 6) : ∃ t, x = .str φ.what t := by
  cases φ <;> first | exact absurd rfl n | exact absurd rfl n' | (cases r with | str u t => exact ⟨t, rfl⟩)
theorem what_ov {h : Heap} {x : Value} {φ : Ph} (r : RepN (Hp h) x φ.d) (n : φ.place = 5) : RepN (Hp h) x ovD := by
  cases φ <;> first | exact r | exact absurd n (by decide)
theorem what_nv {h : Heap} {x : Value} {φ : Ph} (r : RepN (Hp h) x φ.d) (n : φ.place = 6) : RepN (Hp h) x notD := by
  cases φ <;> first | exact r | exact absurd n (by decide)
section
variable {w : World} {A : Around} {h₀ : Heap} {L : Addr} {m : Str → Option Value} {news tl fr : List (Addr × Obj)} {s : Shared} {b : Heap} {as : List Addr} {vr : List Value} {dr : List D} {xs : List (Value × D)} {vb : List Value} {db : List D} {M : Nat}
theorem item_use {Q E : Value → Shared → Prop} {u : Str} {t : Tok} (C : Lx w A L h₀ M) (F : Fr h₀ L s.heap m) (N : News h₀ L s.heap news) (hn : 3 ≤ M) (P : Dq b as tl vr dr xs vb db) (S : Spl tl news fr) (has : ∀ a ∈ as, ∃ o, (a, o) ∈ news)
    (h : ∀ v h' tk' tl', Fr h₀ L h' m → News h₀ L h' (fr ++ tl') → Dq b as tl' vr dr ((v, itemD u) :: xs) vb db → Q v { s with heap := h', toks := tk' }) : wpAny (model rw.prog w) A (call (.ref 586) [.str u t]) Q E s :=
  LCall.use C F N (item_c w u t) trivial hn fun v l h' tk' F' N' ne rp => by
    have e := S.eq
    have up : ∀ q ∈ tl, q ∈ l ++ tl := fun q hq => List.mem_append_right _ hq
    refine h v h' tk' (l ++ tl) F' (fun q hq => N' q ?_) ⟨fun a ha q hq => ?_, P.rows.mono up, fun x hx => ?_, P.brs.mono (InB.mono up)⟩
    · rw [e]
      rcases List.mem_append.mp hq with hq | hq
      · exact List.mem_append_right _ (List.mem_append_left _ hq)
      · rcases List.mem_append.mp hq with hq | hq
        · exact List.mem_append_left _ hq
        · exact List.mem_append_right _ (List.mem_append_right _ hq)
    · rcases List.mem_append.mp hq with hq | hq
      · obtain ⟨o, ho⟩ := has a ha
        exact Ne.symm (ne _ ho q hq)
      · exact P.ne a ha q hq
    · rcases List.mem_cons.mp hx with rfl | hx
      · exact RepN.mono (P := fun a o => (a, o) ∈ l) (fun a o hq => Or.inl (List.mem_append_left _ hq)) rp
      · exact (P.rep x hx).mono (InB.mono up)
theorem last_row {Q E : Value → Shared → Prop} {value slice : Expr} {lr ra : Addr} {vro : List Value} {k : Nat} {u : Tok} (N : News h₀ L s.heap news) (hm : (lr, listOf (vro ++ [Value.ref ra]).toArray k) ∈ news) (h : Q (.ref ra) s)
    (hs : subscripted slice false (.ref lr) (.int (-1) u) = operate [.ref lr, .int (-1) u] (getItem (.ref lr) (.int (-1) u)) := by with_unfolding_all rfl) :
    wpAny (model rw.prog w) A (subscriptTail value slice (.ref lr) (.int (-1) u)) Q E s := by
  have hl := PySem.IsL.isList (n := k) (N _ hm).1
  refine tail_any hl.typeIs slot_list_getitem.lookup (wpAny_getItem_list_neg (x := .ref ra) hl (by decide) ?_ (by decide) ?_ h) hs
  · rw [List.size_toArray, List.length_append]; show -((vro.length + 1 : Nat) : Int) ≤ -1; omega
  · rw [List.size_toArray, List.length_append]
    show (vro ++ [Value.ref ra]).toArray[(-1 + ((vro.length + 1 : Nat) : Int)).toNat]? = _
    rw [show (-1 + ((vro.length + 1 : Nat) : Int)).toNat = vro.length by omega]
    simp
theorem row_set1 {Q : Unit → Shared → Prop} {E : Value → Shared → Prop} {ra : Addr} {g X Y v : Value} {k : Nat} {t : Tok} {news' : List (Addr × Obj)} (F : Fr h₀ L s.heap m) (N : News h₀ L s.heap news) (U : Upd ra (listOf [g, X, Y].toArray k) (listOf [g, v, Y].toArray k) news news')
    (h : ∀ h', Fr h₀ L h' m → News h₀ L h' news' → Q () { s with heap := h' }) : wpAny (model rw.prog w) A (setItem (.ref ra) (.int 1 t) v) Q E s := by
  obtain ⟨pre, post, rfl, rfl, a, b⟩ := U.split
  have z := N (ra, listOf [g, X, Y].toArray k) (List.mem_append.mpr (.inr (.head _)))
  exact ki_setAt z.1 (by decide) (by decide) (by decide : (1 : Int) < 3) (h _ (F.change (Heap.SameBut.update ..) z.2.1 z.2.2) (ki_turn _ N a b rfl rfl))
theorem row_set2 {Q : Unit → Shared → Prop} {E : Value → Shared → Prop} {ra : Addr} {g X Y v : Value} {k : Nat} {t : Tok} {news' : List (Addr × Obj)} (F : Fr h₀ L s.heap m) (N : News h₀ L s.heap news) (U : Upd ra (listOf [g, X, Y].toArray k) (listOf [g, X, v].toArray k) news news')
    (h : ∀ h', Fr h₀ L h' m → News h₀ L h' news' → Q () { s with heap := h' }) : wpAny (model rw.prog w) A (setItem (.ref ra) (.int 2 t) v) Q E s := by
  obtain ⟨pre, post, rfl, rfl, a, b⟩ := U.split
  have z := N (ra, listOf [g, X, Y].toArray k) (List.mem_append.mpr (.inr (.head _)))
  exact ki_setAt z.1 (by decide) (by decide) (by decide : (2 : Int) < 3) (h _ (F.change (Heap.SameBut.update ..) z.2.1 z.2.2) (ki_turn _ N a b rfl rfl))
theorem told_set {Q : Unit → Shared → Prop} {E : Value → Shared → Prop} {to : Addr} {oD : Obj} {kvs : List (Int × Value)} {n : Int} {v : Value} {t : Tok} {g : Obj → List (Addr × Obj)} (F : Fr h₀ L s.heap m) (N : News h₀ L s.heap news) (U : UpdF to oD news g) (hd : oD.IsDictOf (PySem.intKind rw.prog w) kvs) (hsz : kvs.length ≤ sizeLine)
    (h : ∀ h' o' tk, Fr h₀ L h' m → News h₀ L h' (g o') → o'.IsDictOf (PySem.intKind rw.prog w) (stored kvs n v) → Q () { s with heap := h', toks := tk }) : wpAny (model rw.prog w) A (setItem (.ref to) (.int n t) v) Q E s :=
  kda_set F N U hd (intKind_is _ _ _ _) hsz fun h' o' F' N' d => h h' o' _ F' N' d
theorem eq_marks {Q E : Value → Shared → Prop} {D' : Addr} {cut : Bool} {v : Value} (N : News h₀ L s.heap news) (rp : RepN (Hp b) v (markDs cut)) (kb : KeepAll b h₀) (F : Fr h₀ L s.heap m) (hD : (D', tupO []) ∈ news) (hu : A.units < cLine) (h : Q (.bool (!cut)) s) :
    wpAny (model rw.prog w) A (compareOp .Eq v (.ref D')) Q E s := by
  obtain ⟨ds, hds, hz⟩ : ∃ ds, markDs cut = .tup ds ∧ (ds.length == 0) = !cut := by cases cut <;> exact ⟨_, rfl, rfl⟩
  rw [hds] at rp
  obtain ⟨a, vs, rfl, ha, r⟩ := rep_tup rp
  refine (PySem.SeqAt.RcAt.tuples (A := A) (s := s) (items := vs.toArray) (items2 := #[]) (e := fun _ => true) ⟨_, F.keep _ _ (kb _ _ ha), rfl, _, rfl⟩ ⟨_, (N _ hD).1, rfl, _, rfl⟩ hu (fun j _ h2 => absurd h2 (Nat.not_lt_zero j))) rw.prog w E Q ?_
  have e : ((List.range (min vs.toArray.size (#[] : Array Value).size)).all (fun _ => true) && vs.toArray.size == (#[] : Array Value).size) = !cut := by
    rw [show (min vs.toArray.size (#[] : Array Value).size) = 0 from Nat.min_zero _]
    show (true && vs.length == 0) = !cut
    rw [r.len, hz, Bool.true_and]
  rw [e]; exact h
end
theorem go_put {cut : Bool} {l r : List Ph} {φ : Ph} {st : St} (h : go cut l st0 = go cut (φ :: r) st) (h1 : stops st.rank φ = false) (h2 : cuts cut φ = false) : go cut l st0 = go cut r (st.put φ) := h.trans (go_take h1 h2)
theorem go_cut {cut : Bool} {l r : List Ph} {φ : Ph} {st : St} (h : go cut l st0 = go cut (φ :: r) st) (h1 : stops st.rank φ = false) (h2 : cuts cut φ = true) : go cut l st0 = (st, φ :: r, true) := by
  rw [h, go, if_neg (by rw [h1]; exact Bool.false_ne_true), if_pos h2]
/-- the end of a turn -/
theorem due_end {w : World} {g b : Heap} {L : Addr} {s : Shared} {cut : Bool} {l : List Ph} {plv mk : Value} {lr to lb : Addr} {i : Nat} {I : Addr} {oI : Obj} {h' : Heap} {tk : Nat} {m₂ : Str → Option Value} {news : List (Addr × Obj)} {st : St}
    {ra : Addr} {tl : List (Addr × Obj)} {vro : List Value} {X Y V3 V4 : Value} {vb : List Value} {oD : Obj} {tg : Tok} {k1 k2 k3 : Nat} {ti tr : Tok} {op ot ow : Option Value} {φ : Ph}
    (F : Fr g L h' m₂) (hm : m₂ = dueM plv mk (.ref lr) (.ref to) (.ref lb) (i + 1) st.rank ti tr op ot ow) (N : News g L h' news) (i0 : (I, oI) ∈ news) (i1 : (lr, listOf (vro ++ [Value.ref ra]).toArray k1) ∈ news) (i2 : (ra, listOf [Value.str st.g tg, X, Y].toArray k2) ∈ news) (i3 : (to, oD) ∈ news) (i4 : (lb, listOf vb.toArray k3) ∈ news) (i5 : ∀ q ∈ tl, q ∈ news)
    (hI : AllNe I [(lr, emD), (ra, emD), (to, emD), (lb, emD)]) (hP : Dq b [I, lr, ra, to, lb] tl vro st.rows [(X, optD st.x), (Y, optD st.y), (V3, optD st.t3), (V4, optD st.t4)] vb st.bs) (hd : oD.IsDictOf (PySem.intKind rw.prog w) [((3 : Int), V3), ((4 : Int), V4)])
    (n1 : AllNe lr [(ra, emD), (to, emD), (lb, emD)]) (n2 : AllNe ra [(to, emD), (lb, emD)]) (hg : go cut l st0 = go cut (l.drop (i + 1)) st) (s1 : vro.length ≤ i + 1) (s2 : vb.length ≤ i + 1) :
    DueStep w g L s b cut l plv mk lr to lb i I oI .next { s with heap := h', toks := tk } := by
  refine .next (news₂ := dueL lr to lb ra tl vro st.g tg X Y vb oD k1 k2 k3) F (fun q hq => ?_) ⟨hI.1, hI.2.1, hI.2.2.1, hI.2.2.2.1, allNe_of fun q hq => hP.ne _ (.head _) q hq⟩ (.mk hm rfl ⟨hd, ⟨fun a ha => hP.ne a (.tail _ ha), hP.rows, hP.rep, hP.brs⟩, n1, n2, hg.symm, s1, s2⟩)
  rcases List.mem_cons.mp hq with rfl | hq
  · exact N _ i0
  rcases List.mem_cons.mp hq with rfl | hq
  · exact N _ i1
  rcases List.mem_cons.mp hq with rfl | hq
  · exact N _ i2
  rcases List.mem_cons.mp hq with rfl | hq
  · exact N _ i3
  rcases List.mem_cons.mp hq with rfl | hq
  · exact N _ i4
  · exact N _ (i5 q hq)
/-- where a test ends -/
inductive TEnd (g : Heap) (L : Addr) (s : Shared) (m : Str → Option Value) (news : List (Addr × Obj)) (c : Bool) : Bool → Shared → Prop
  | mk {b : Bool} {h' : Heap} {tk : Nat} {news' : List (Addr × Obj)} : b = c → Fr g L h' m → News g L h' news' → (∀ q ∈ news, q ∈ news') → TEnd g L s m news c b { s with heap := h', toks := tk }
/-- a test of the program's, its worth known -/
theorem wp_test {w : World} {A : Around} {E : Value → Shared → Prop} {Q : Bool → Shared → Prop} {s : Shared} {g : Heap} {L : Addr} {m : Str → Option Value} {news : List (Addr × Obj)} {t : Sem Bool} (c : Bool) (_F : Fr g L s.heap m) (_N : News g L s.heap news)
    (h1 : wpAny (model rw.prog w) A t (TEnd g L s m news c) E s)
    (h2 : ∀ h' tk, Fr g L h' m → News g L h' news → c = true → Q true { s with heap := h', toks := tk }) (h3 : ∀ h' tk, Fr g L h' m → News g L h' news → c = false → Q false { s with heap := h', toks := tk }) : wpAny (model rw.prog w) A t Q E s :=
  wpAny_mono h1 (fun b s' h => by
    cases h with
    | mk e F' N' hin =>
      subst e
      cases hb : b
      · exact h3 _ _ F' (fun q hq => N' q (hin q hq)) hb
      · exact h2 _ _ F' (fun q hq => N' q (hin q hq)) hb) fun _ _ x => x
theorem sz_row {vro : List Value} {v : Value} {i : Nat} {l : List Ph} (h : vro.length ≤ i) (h2 : i < l.length) (h3 : l.length ≤ 1000) : (vro ++ [v]).toArray.size ≤ sizeLine := by
  rw [List.size_toArray, List.length_append]
  exact Nat.le_trans (show vro.length + 1 ≤ 1000 by omega) (Nat.le_of_ble_eq_true rfl)
theorem sz_br {vb : List Value} {i : Nat} {l : List Ph} (h : vb.length ≤ i) (h2 : i < l.length) (h3 : l.length ≤ 1000) : vb.toArray.size ≤ sizeLine := by
  rw [List.size_toArray]
  exact Nat.le_trans (show vb.length ≤ 1000 by omega) (Nat.le_of_ble_eq_true rfl)
theorem pc0 {φ : Ph} {h : Heap} {x : Value} (r : RepN (Hp h) x φ.d) (z : (φ.place : Int) = 0) : φ.place = 0 ∧ ∃ t, x = .str φ.what t := ⟨by omega, what_str r (by omega) (by omega)⟩
theorem pc12 {φ : Ph} {h : Heap} {x : Value} (r : RepN (Hp h) x φ.d) (z : (φ.place : Int) ≠ 0) (z3 : (φ.place : Int) < 3) : (φ.place = 1 ∧ (φ.place : Int) = 1 ∧ ∃ t, x = .str φ.what t) ∨ (φ.place = 2 ∧ (φ.place : Int) = 2 ∧ ∃ t, x = .str φ.what t) := by
  have g := what_str r (by omega) (by omega)
  rcases (show (φ.place : Int) = 1 ∨ (φ.place : Int) = 2 by omega) with e | e
  · exact .inl ⟨by omega, e, g⟩
  · exact .inr ⟨by omega, e, g⟩
theorem pc34 {φ : Ph} {h : Heap} {x : Value} (r : RepN (Hp h) x φ.d) (z : ¬(φ.place : Int) < 3) (z3 : (φ.place : Int) < 5) : (φ.place = 3 ∧ (φ.place : Int) = 3 ∧ ∃ t, x = .str φ.what t) ∨ (φ.place = 4 ∧ (φ.place : Int) = 4 ∧ ∃ t, x = .str φ.what t) := by
  have g := what_str r (by omega) (by omega)
  rcases (show (φ.place : Int) = 3 ∨ (φ.place : Int) = 4 by omega) with e | e
  · exact .inl ⟨by omega, e, g⟩
  · exact .inr ⟨by omega, e, g⟩
theorem pc56 {φ : Ph} {h : Heap} {x : Value} (r : RepN (Hp h) x φ.d) (z : ¬(φ.place : Int) < 5) (z3 : (φ.place : Int) < 7) : (φ.place = 5 ∧ (φ.place : Int) = 5 ∧ RepN (Hp h) x ovD) ∨ (φ.place = 6 ∧ (φ.place : Int) = 6 ∧ RepN (Hp h) x notD) := by
  rcases (show (φ.place : Int) = 5 ∨ (φ.place : Int) = 6 by omega) with e | e
  · exact .inl ⟨by omega, e, what_ov r (by omega)⟩
  · exact .inr ⟨by omega, e, what_nv r (by omega)⟩
theorem pc7 {k : Nat} {φ : Ph} (hs : stops k φ = false) (z : ¬(φ.place : Int) < 7) : φ.place = 7 ∧ (φ.place : Int) = 7 := by
  cases φ <;> simp_all [Ph.place, stops]

end
section
section
open LCg
variable {w : World} {A : Around} {h₀ : Heap} {L : Addr} {m : Str → Option Value} {env : Env} {elt : Expr} {x : Str} {scope : Scope} {cl : List (Str × Addr)} {s : Shared}
/-- a comprehension over a list, what each item becomes -/
theorem comp_gen {ax : Addr} {base : List (Addr × Obj)} {vs : List Value} {Rl : List (Addr × Obj) → Nat → Value → Prop} {Fin : List Value → List (Addr × Obj) → Prop}
    (src : ∀ news, (∀ q ∈ base, q ∈ news) → SrcAt h₀ ax vs.toArray news)
    (mono : ∀ news news' i v, (∀ q ∈ news, q ∈ news') → Rl news i v → Rl news' i v)
    (hstep : ∀ i v I oI C oC D ys m₂ news h tk (E' Post : Value → Shared → Prop), vs[i]? = some v → NsObj oC m₂ → m₂ x = some v → Fr h₀ L h m → News h₀ L h ((I, oI) :: (C, oC) :: (D, lst ys) :: news) → (∀ q ∈ base, q ∈ news) →
      (∀ v' made h' tk', Fr h₀ L h' m → News h₀ L h' (made ++ ((I, oI) :: (C, oC) :: (D, lst ys) :: news)) → (∀ r ∈ (I, oI) :: (C, oC) :: (D, lst ys) :: news, ∀ q ∈ made, r.1 ≠ q.1) → Rl (made ++ news) i v' → Post v' { s with heap := h', toks := tk' }) →
      wpAny (model rw.prog w) A (eval elt (compEnvC scope cl C env)) Post E' { s with heap := h, toks := tk })
    (fin : ∀ ys news, (∀ q ∈ base, q ∈ news) → ys.length = vs.length → (∀ i v, ys[i]? = some v → Rl news i v) → Fin ys news) :
    ∀ k i ys news, i + k = vs.length → (∀ q ∈ base, q ∈ news) → ys.length = i → (∀ j v, ys[j]? = some v → Rl news j v) →
      CompRest rw.prog w A h₀ L m env elt x scope cl s (SrcAt h₀ ax vs.toArray) (fun i v => vs.toArray[i]? = some v) Fin k i ys news
  | 0, i, ys, news, hk, hb, hl, hr => fin ys news hb (by omega) hr
  | k + 1, i, ys, news, hk, hb, hl, hr => CompRest.succ fun v I oI C oC D m₂ h tk E' hv hC hx F N off ne => by
    refine hstep i v I oI C oC D ys m₂ news h tk E' _ (by simpa using hv) hC hx F N hb fun v' made h' tk' F' N' off' hR => ?_
    refine CompEnd.intro F' N' (made ++ news) (fun q hq => ?_) (Off3.of fun q hq => ?_) (src _ fun q hq => List.mem_append_right _ (hb q hq)) (comp_gen src mono hstep fin k (i + 1) _ _ (by omega) (fun q hq => List.mem_append_right _ (hb q hq)) (by rw [List.length_append, hl]; rfl) fun j v hj => ?_)
    · rcases List.mem_cons.mp hq with rfl | hq
      · exact List.mem_append_right _ (.head _)
      rcases List.mem_cons.mp hq with rfl | hq
      · exact List.mem_append_right _ (.tail _ (.head _))
      rcases List.mem_cons.mp hq with rfl | hq
      · exact List.mem_append_right _ (.tail _ (.tail _ (.head _)))
      rcases List.mem_append.mp hq with hq | hq
      · exact List.mem_append_left _ hq
      · exact List.mem_append_right _ (.tail _ (.tail _ (.tail _ hq)))
    · rcases List.mem_append.mp hq with hq | hq
      · exact ⟨Ne.symm (off' _ (.head _) q hq), Ne.symm (off' _ (.tail _ (.head _)) q hq), Ne.symm (off' _ (.tail _ (.tail _ (.head _))) q hq)⟩
      · exact off.mem q hq
    · rcases Nat.lt_or_ge j ys.length with h1 | h1
      · rw [List.getElem?_append_left h1] at hj
        exact mono news _ _ _ (fun q hq => List.mem_append_right _ hq) (hr j v hj)
      · rw [List.getElem?_append_right h1] at hj
        obtain ⟨h2, h3⟩ := List.getElem?_eq_some_iff.mp hj
        have h4 : j - ys.length = 0 := by simpa using h2
        have e : j = i := by omega
        subst e
        simp only [h4] at h3
        exact h3 ▸ hR
end
theorem repA_of {P : Addr → Obj → Prop} : ∀ {vs : List Value} {ds : List D}, vs.length = ds.length → (∀ (i : Nat) v d, vs[i]? = some v → ds[i]? = some d → RepN P v d) → RepA P vs ds
  | [], [], _, _ => .nil
  | v :: vs, d :: ds, h, r => .cons (r 0 v d rfl rfl) (repA_of (Nat.succ.inj h) fun i v d a b => r (i + 1) v d a b)
noncomputable abbrev turnM (plv mkv rv tv bv : Value) (i k : Nat) (ti tk : Tok) (op ot ow : Option Value) (kk : Int) (t0 ta : Tok) (tx x : Value) : Str → Option Value := fun y =>
  if y = Str.ofString "rank" then some (.int kk t0) else if y = Str.ofString "at" then some (.int ((i : Int) + 1) ta) else if y = Str.ofString "what" then some x else if y = Str.ofString "text" then some tx else if y = Str.ofString "place" then some (.int kk t0)
  else dueM plv mkv rv tv bv i k ti tk op ot ow y
theorem turnM_eq {plv mkv rv tv bv : Value} {i k kk : Nat} {ti tk t0 ta : Tok} {op ot ow : Option Value} {tx x : Value} : turnM plv mkv rv tv bv i k ti tk op ot ow (kk : Nat) t0 ta tx x = dueM plv mkv rv tv bv (i + 1) kk ta t0 (some (.int (kk : Nat) t0)) (some tx) (some x) := by
  funext y
  unfold turnM dueM
  by_cases h : y ∈ [Str.ofString "rank", Str.ofString "at", Str.ofString "what", Str.ofString "text", Str.ofString "place"]
  · simp only [List.mem_cons, List.not_mem_nil, or_false] at h
    rcases h with rfl | rfl | rfl | rfl | rfl <;> rfl
  · simp only [List.mem_cons, List.not_mem_nil, or_false, not_or] at h
    obtain ⟨a1, a2, a3, a4, a5⟩ := h
    simp only [a1, a2, a3, a4, a5, if_false]
/-- a turn of the loop of _law_due: what it begins with -/
structure DT (w : World) (b : Heap) (cut : Bool) (l : List Ph) (lr to lb ra : Addr) (tl : List (Addr × Obj)) (vro : List Value) (xs : List (Value × D)) (vb : List Value) (st : St) (i : Nat) (φ : Ph) (I : Addr) : Prop where
  hgo : go cut l st0 = go cut (φ :: l.drop (i + 1)) st
  hs : stops st.rank φ = false
  hc : cuts cut φ = false
  hP : Dq b [I, lr, ra, to, lb] tl vro st.rows xs vb st.bs
  n1 : AllNe lr [(ra, emD), (to, emD), (lb, emD)]
  n2 : AllNe ra [(to, emD), (lb, emD)]
  n3 : AllNe I [(lr, emD), (ra, emD), (to, emD), (lb, emD)]
  s1 : vro.length ≤ i
  s2 : vb.length ≤ i
section
variable {w : World} {g b : Heap} {L : Addr} {s : Shared} {cut : Bool} {l : List Ph} {pl mk X Y V3 V4 v9 x9 : Value} {lr to lb ra l9 D9 : Addr} {i : Nat} {I : Addr} {oI o9 : Obj} {h' : Heap} {tk tk9 : Nat} {st : St} {tl tl9 : List (Addr × Obj)} {vro vb : List Value} {oD : Obj} {tg ti tr t0 ta t8 : Tok} {k1 k2 k3 kk : Nat} {op ot ow : Option Value} {φ : Ph} {tx : Value} {m₂ : Str → Option Value}
theorem put_eq0 (h : φ.place = 0) : st.put φ = { st with rows := st.rows ++ [rowD st.g st.x st.y], g := φ.what, x := none, y := none, rank := 0 } := by unfold St.put; rw [h]; rfl
theorem put_eq1 (h : φ.place = 1) : st.put φ = { st with x := some φ.what, rank := 1 } := by unfold St.put; rw [h]; rfl
theorem put_eq2 (h : φ.place = 2) : st.put φ = { st with y := some φ.what, rank := 2 } := by unfold St.put; rw [h]; rfl
theorem put_eq3 (h : φ.place = 3) : st.put φ = { st with t3 := some φ.what, rank := 3 } := by unfold St.put; rw [h]; rfl
theorem put_eq4 (h : φ.place = 4) : st.put φ = { st with t4 := some φ.what, rank := 4 } := by unfold St.put; rw [h]; rfl
theorem put_eq5 (h : φ.place = 5) : st.put φ = { st with bs := st.bs ++ [ovD], rank := 5 } := by unfold St.put; rw [h]; rfl
theorem put_eq6 (h : φ.place = 6) : st.put φ = { st with bs := st.bs ++ [notD], rank := 6 } := by unfold St.put; rw [h]; rfl
theorem put_eq7 (h : φ.place = 7) : st.put φ = { st with rank := 7 } := by unfold St.put; rw [h]; rfl
theorem due_n0 (T : DT w b cut l lr to lb ra tl vro [(X, optD st.x), (Y, optD st.y), (V3, optD st.t3), (V4, optD st.t4)] vb st i φ I) (hd : oD.IsDictOf (PySem.intKind rw.prog w) [((3 : Int), V3), ((4 : Int), V4)]) (hp : φ.place = 0)
    (F : Fr g L h' (turnM pl mk (.ref lr) (.ref to) (.ref lb) i st.rank ti tk op ot ow 0 t0 ta tx x9)) (N : News g L h' ((D9, o9) :: (l9, listOf #[.str φ.what t8, .none, .none] k2) :: (I, oI) :: (lr, listOf ((vro ++ [Value.ref ra]).toArray.push (Value.ref l9)) k1) :: (ra, listOf #[.str st.g tg, X, Y] k3) :: (to, oD) :: (lb, listOf vb.toArray kk) :: tl))
    {o1 o2 o3 o4 : Obj} (n4 : AllNe l9 ((I, oI) :: (lr, o1) :: (ra, o2) :: (to, o3) :: (lb, o4) :: tl)) : DueStep w g L s b cut l pl mk lr to lb i I oI .next { s with heap := h', toks := tk9 } := by
  have hg := go_put T.hgo T.hs T.hc
  rw [put_eq0 hp] at hg
  have hr : ∀ q ∈ (ra, listOf #[.str st.g tg, X, Y] k3) :: tl, @Ne Nat q.1 I ∧ @Ne Nat q.1 lr ∧ @Ne Nat q.1 l9 ∧ @Ne Nat q.1 to ∧ @Ne Nat q.1 lb := fun q hq => by
    rcases List.mem_cons.mp hq with rfl | hq
    · exact ⟨T.n3.2.1, T.n1.1, n4.2.2.1, Ne.symm T.n2.1, Ne.symm T.n2.2.1⟩
    · exact ⟨T.hP.ne _ (.head _) q hq, T.hP.ne _ (.tail _ (.head _)) q hq, n4.2.2.2.2.2.get hq, T.hP.ne _ (.tail _ (.tail _ (.tail _ (.head _)))) q hq, T.hP.ne _ (.tail _ (.tail _ (.tail _ (.tail _ (.head _))))) q hq⟩
  have up : ∀ q ∈ tl, q ∈ (ra, listOf #[.str st.g tg, X, Y] k3) :: tl := fun q hq => .tail _ hq
  have rp := fun x hx => (T.hP.rep x hx).mono (InB.mono up)
  refine due_end (φ := φ) (st := { st with rows := st.rows ++ [rowD st.g st.x st.y], g := φ.what, x := none, y := none, rank := 0 }) (ra := l9) (tl := (ra, listOf #[.str st.g tg, X, Y] k3) :: tl) (vro := vro ++ [.ref ra]) (X := .none) (Y := .none) (V3 := V3) (V4 := V4) (tg := t8) F (turnM_eq (kk := 0)) N (.tail _ (.tail _ (.head _))) (k1 := k1) ?_ (.tail _ (.head _)) (.tail _ (.tail _ (.tail _ (.tail _ (.tail _ (.head _)))))) (.tail _ (.tail _ (.tail _ (.tail _ (.tail _ (.tail _ (.head _)))))))
    (fun q hq => ?_) ⟨T.n3.1, Ne.symm n4.1, T.n3.2.2.1, T.n3.2.2.2.1, trivial⟩ ⟨fun a ha q hq => ?_, .snoc (T.hP.rows.mono up) ⟨_, _, _, _, _, _, _, _, rfl, .head _, rp _ (.head _), rp _ (.tail _ (.head _)), rfl⟩, fun x hx => ?_, T.hP.brs.mono (InB.mono up)⟩ hd ⟨Ne.symm n4.2.1, T.n1.2.1, T.n1.2.2.1, trivial⟩ ⟨n4.2.2.2.1, n4.2.2.2.2.1, trivial⟩ hg (by rw [List.length_append]; exact Nat.succ_le_succ T.s1) (Nat.le_succ_of_le T.s2)
  · have e : (vro ++ [Value.ref ra] ++ [Value.ref l9]).toArray = (vro ++ [Value.ref ra]).toArray.push (.ref l9) := by simp
    rw [e]; exact .tail _ (.tail _ (.tail _ (.head _)))
  · rcases List.mem_cons.mp hq with rfl | hq
    · exact .tail _ (.tail _ (.tail _ (.tail _ (.head _))))
    · exact .tail _ (.tail _ (.tail _ (.tail _ (.tail _ (.tail _ (.tail _ hq))))))
  · have z := hr q hq
    simp only [List.mem_cons, List.not_mem_nil, or_false] at ha
    rcases ha with rfl | rfl | rfl | rfl | rfl
    · exact z.1
    · exact z.2.1
    · exact z.2.2.1
    · exact z.2.2.2.1
    · exact z.2.2.2.2
  · rcases List.mem_cons.mp hx with rfl | hx
    · exact .none
    rcases List.mem_cons.mp hx with rfl | hx
    · exact .none
    · exact rp x (.tail _ (.tail _ hx))
/-- a turn that leaves the rows' list as it is -/
theorem due_ns {st' : St} {xs : List (Value × D)} {X' Y' V3' V4' : Value} {vb' : List Value} {oD' : Obj} {kk' : Nat} (T : DT w b cut l lr to lb ra tl9 vro xs vb st i φ I) (hput : st.put φ = st') (e1 : st'.rows = st.rows) (e2 : st'.g = st.g) (ek : st'.rank = kk) (hd : oD'.IsDictOf (PySem.intKind rw.prog w) [((3 : Int), V3'), ((4 : Int), V4')])
    (F : Fr g L h' (turnM pl mk (.ref lr) (.ref to) (.ref lb) i st.rank ti tk op ot ow (kk : Nat) t0 ta tx x9)) (N : News g L h' ((D9, o9) :: (I, oI) :: (lr, listOf (vro ++ [Value.ref ra]).toArray k1) :: (ra, listOf #[.str st.g tg, X', Y'] k2) :: (to, oD') :: (lb, listOf vb'.toArray kk') :: tl9))
    (rp : ∀ x ∈ [(X', optD st'.x), (Y', optD st'.y), (V3', optD st'.t3), (V4', optD st'.t4)], RepN (InB tl9 b) x.1 x.2) (rb : RepA (InB tl9 b) vb' st'.bs) (s2 : vb'.length ≤ i + 1) : DueStep w g L s b cut l pl mk lr to lb i I oI .next { s with heap := h', toks := tk9 } := by
  have hg := go_put T.hgo T.hs T.hc
  rw [hput] at hg
  subst ek
  refine due_end (k2 := k2) (φ := φ) (st := st') (ra := ra) (tl := tl9) (vro := vro) (X := X') (Y := Y') (V3 := V3') (V4 := V4') (tg := tg) F turnM_eq N (.tail _ (.head _)) (.tail _ (.tail _ (.head _))) ?_ (.tail _ (.tail _ (.tail _ (.tail _ (.head _))))) (.tail _ (.tail _ (.tail _ (.tail _ (.tail _ (.head _))))))
    (fun q hq => .tail _ (.tail _ (.tail _ (.tail _ (.tail _ (.tail _ hq)))))) ⟨T.n3.1, T.n3.2.1, T.n3.2.2.1, T.n3.2.2.2.1, trivial⟩ ⟨T.hP.ne, e1 ▸ T.hP.rows, rp, rb⟩ hd T.n1 T.n2 hg (Nat.le_succ_of_le T.s1) s2
  rw [e2]; exact .tail _ (.tail _ (.tail _ (.head _)))
end
theorem news_sub {g h : Heap} {L : Addr} {a b : List (Addr × Obj)} (N : News g L h b) (s : ∀ q ∈ a, q ∈ b) : News g L h a := fun q hq => N q (s q hq)
theorem RowsIn.len {tl : List (Addr × Obj)} {b : Heap} {vs : List Value} {ds : List D} (h : RowsIn tl b vs ds) : vs.length = ds.length := by
  induction h with
  | nil => rfl
  | snoc _ _ ih => simp [ih]
theorem RowsIn.get {tl : List (Addr × Obj)} {b : Heap} {vs : List Value} {ds : List D} (h : RowsIn tl b vs ds) : ∀ (i : Nat) v, vs[i]? = some v → ∃ d, ds[i]? = some d ∧ RowIn tl b v d := by
  induction h with
  | nil => intro i v h; simp at h
  | @snoc vs ds v d r ri ih =>
    intro i x hx
    have e := r.len
    rcases Nat.lt_or_ge i vs.length with h1 | h1
    · rw [List.getElem?_append_left h1] at hx
      obtain ⟨y, hy, z⟩ := ih i x hx
      exact ⟨y, by rw [List.getElem?_append_left (e ▸ h1)]; exact hy, z⟩
    · rw [List.getElem?_append_right h1] at hx
      obtain ⟨h2, h3⟩ := List.getElem?_eq_some_iff.mp hx
      have h4 : i = vs.length := by simp at h2; omega
      subst h4
      refine ⟨d, by rw [e]; simp, ?_⟩
      have : x = v := by simpa using h3.symm
      rw [this]; exact ri
noncomputable def CutRl (b : Heap) (ds : List D) (news : List (Addr × Obj)) (i : Nat) (v : Value) : Prop := ∃ d, ds[i]? = some d ∧ RepN (InB news b) v d
section
open LCg
variable {w : World} {A : Around} {h₀ b : Heap} {L : Addr} {m : Str → Option Value} {env : Env} {elt : Expr} {xn : Str} {scope : Scope} {cl : List (Str × Addr)} {s : Shared} {lr to lb ra : Addr} {tl : List (Addr × Obj)} {vro vb : List Value} {X Y V3 V4 : Value} {oD : Obj} {st : St} {tg : Tok} {k1 k2 k3 : Nat} {as : List Addr} {xs : List (Value × D)}
/-- the comprehension over the rows -/
theorem cut_comp {Fin : Shared → List Value → List (Addr × Obj) → Prop} (hh : A.handled = none) (F : Fr h₀ L s.heap m) (N : News h₀ L s.heap (dueL lr to lb ra tl vro st.g tg X Y vb oD k1 k2 k3)) (hP : Dq b as tl vro st.rows ((X, optD st.x) :: (Y, optD st.y) :: xs) vb st.bs) (hsz : vro.length ≤ 1000)
    (hstep : ∀ a g t X Y k I oI C oC D ys m₂ news h tk (E' Post : Value → Shared → Prop), NsObj oC m₂ → m₂ xn = some (.ref a) → Fr h₀ L h m → (a, listOf [Value.str g t, X, Y].toArray k) ∈ (I, oI) :: (C, oC) :: (D, lst ys) :: news → News h₀ L h ((I, oI) :: (C, oC) :: (D, lst ys) :: news) →
      (∀ T v' made h' tk', Fr h₀ L h' m → News h₀ L h' ((T, tupO [v', X, Y]) :: (made ++ ((I, oI) :: (C, oC) :: (D, lst ys) :: news))) → (∀ r ∈ (I, oI) :: (C, oC) :: (D, lst ys) :: news, ∀ q ∈ (T, tupO [v', X, Y]) :: made, r.1 ≠ q.1) → RepL made v' (itemD g) → Post (.ref T) { s with heap := h', toks := tk' }) →
      wpAny (model rw.prog w) A (eval elt (compEnvC scope cl C env)) Post E' { s with heap := h, toks := tk })
    (fin : ∀ ys news g, (∀ q ∈ dueL lr to lb ra tl vro st.g tg X Y vb oD k1 k2 k3, q ∈ news) → ys.length ≤ 1001 → RepA (InB news b) ys (st.rows ++ [rowD st.g st.x st.y]) → Fin { s with heap := g } ys news) :
    CompSrc rw.prog w A h₀ L m env elt xn scope cl Fin (.ref lr) s := by
  have e1 : (vro ++ [Value.ref ra]).length = vro.length + 1 := by rw [List.length_append]; rfl
  have hrows : RowsIn (dueL lr to lb ra tl vro st.g tg X Y vb oD k1 k2 k3) b (vro ++ [.ref ra]) (st.rows ++ [rowD st.g st.x st.y]) := by
    have up : ∀ q ∈ tl, q ∈ dueL lr to lb ra tl vro st.g tg X Y vb oD k1 k2 k3 := fun q hq => .tail _ (.tail _ (.tail _ (.tail _ hq)))
    exact .snoc (hP.rows.mono up) ⟨_, _, _, _, _, _, _, _, rfl, .tail _ (.head _), (hP.rep _ (.head _)).mono (InB.mono up), (hP.rep _ (.tail _ (.head _))).mono (InB.mono up), rfl⟩
  refine CompSrc.ledger hh F N (.head _) (Nat.le_trans (by rw [List.size_toArray, e1]; exact Nat.succ_le_succ hsz) (Nat.le_of_ble_eq_true (rfl : Nat.ble 1001 sizeLine = true))) fun g => ?_
  refine comp_gen (base := dueL lr to lb ra tl vro st.g tg X Y vb oD k1 k2 k3) (Rl := CutRl b (st.rows ++ [rowD st.g st.x st.y])) (fun news hb => .inr ⟨_, hb _ (.head _), rfl, _, rfl⟩) (fun n n' i v hs => fun ⟨d, h1, h2⟩ => ⟨d, h1, h2.mono (InB.mono hs)⟩) (fun i v I oI C oC D ys m₂ news h tk E' Post hv hC hx F N hb hp => ?_)
    (fun ys news hb hl hr => fin ys news g hb (by omega) (repA_of (by rw [hl, hrows.len]) fun i v d a c => ?_)) _ 0 [] _ (by simp) (fun _ h => h) rfl (fun j v h => by simp at h)
  · obtain ⟨d, hd, ri⟩ := hrows.get i v hv
    obtain ⟨a, g', t, X', Y', x, y, k, rfl, hm, hX, hY, rfl⟩ := ri.ex
    refine hstep a g' t X' Y' k I oI C oC D ys m₂ news h tk E' Post hC hx F (.tail _ (.tail _ (.tail _ (hb _ hm)))) N fun T v' made h' tk' F' N' off rp => hp (.ref T) ((T, tupO [v', X', Y']) :: made) h' tk' F' N' off ⟨_, hd, ?_⟩
    have up : ∀ q ∈ dueL lr to lb ra tl vro st.g tg X Y vb oD k1 k2 k3, q ∈ (T, tupO [v', X', Y']) :: made ++ news := fun q hq => List.mem_append_right _ (hb q hq)
    exact .tup (.inl (.head _)) (.cons (RepN.mono (fun _ _ z => .inl (List.mem_append_left _ (.tail _ z))) rp) (.cons (hX.mono (InB.mono up)) (.cons (hY.mono (InB.mono up)) .nil)))
  · obtain ⟨d', e, z⟩ := hr i v a
    rw [c] at e
    cases e; exact z
/-- tuple() of what the comprehension made -/
theorem due_tup {Q E : Value → Shared → Prop} {news9 : List (Addr × Obj)} {ys : List Value} {ds : List D} {D9 : Addr} {k : Nat} (F : Fr h₀ L s.heap m) (N : News h₀ L s.heap ((D9, listOf ys.toArray k) :: news9)) (hb : ∀ q ∈ dueL lr to lb ra tl vro st.g tg X Y vb oD k1 k2 k3, q ∈ news9) (hsz : ys.length ≤ 1001) (hys : RepA (InB news9 b) ys ds) (hP : Dq b as tl vro st.rows xs vb st.bs)
    (h : ∀ T9 h', Fr h₀ L h' m → News h₀ L h' (dueL lr to lb ra ((T9, tupO ys) :: news9) vro st.g tg X Y vb oD k1 k2 k3) → Dq b [] ((T9, tupO ys) :: news9) [] [] ((.ref T9, .tup ds) :: xs) vb st.bs → Q (.ref T9) { s with heap := h' }) :
    wpAny (model rw.prog w) A (call (.type "tuple") [.ref D9]) Q E s := by
  refine kde_tupleOf (zs := ys) F N (News.isList N (.head _)) (Nat.le_trans hsz (Nat.le_of_ble_eq_true rfl)) rfl fun T9 h' F' N' l1 => h T9 h' F' (fun q hq => ?_) ⟨fun a ha => (nomatch ha), .nil, fun x hx => ?_, hP.brs.mono (InB.mono fun q hq => ?_)⟩
  · rcases List.mem_cons.mp hq with rfl | hq
    · exact N' _ (.tail _ (.tail _ (hb _ (.head _))))
    rcases List.mem_cons.mp hq with rfl | hq
    · exact N' _ (.tail _ (.tail _ (hb _ (.tail _ (.head _)))))
    rcases List.mem_cons.mp hq with rfl | hq
    · exact N' _ (.tail _ (.tail _ (hb _ (.tail _ (.tail _ (.head _))))))
    rcases List.mem_cons.mp hq with rfl | hq
    · exact N' _ (.tail _ (.tail _ (hb _ (.tail _ (.tail _ (.tail _ (.head _)))))))
    rcases List.mem_cons.mp hq with rfl | hq
    · exact N' _ (.head _)
    · exact N' _ (.tail _ (.tail _ hq))
  · rcases List.mem_cons.mp hx with rfl | hx
    · exact .tup (.inl (.head _)) (hys.mono (InB.mono fun q hq => .tail _ hq))
    · exact (hP.rep x hx).mono (InB.mono fun q hq => .tail _ (hb q (.tail _ (.tail _ (.tail _ (.tail _ hq))))))
  · exact .tail _ (hb q (.tail _ (.tail _ (.tail _ (.tail _ hq)))))
end
section
variable {cut : Bool} {φ : Ph} {k : Nat}
theorem st_a (h : (φ.place : Int) = 8) : true = stops k φ := stops_of ⟨fun _ => .inl (by omega), fun _ => rfl⟩
theorem st_b (h : (φ.place : Int) = 0) (h2 : (2 : Int) < k) : true = stops k φ := stops_of ⟨fun _ => .inr (.inl (by omega)), fun _ => rfl⟩
theorem st_c (h : (φ.place : Int) = 0) (h2 : ¬(2 : Int) < k) : false = stops k φ := stops_of ⟨fun z => (nomatch z), fun z => by omega⟩
theorem st_d (h : (φ.place : Int) ≠ 0) (h2 : (φ.place : Int) ≤ k) : true = stops k φ := stops_of ⟨fun _ => .inr (.inr (by omega)), fun _ => rfl⟩
theorem st_e (h0 : (φ.place : Int) ≠ 8) (h : (φ.place : Int) ≠ 0) (h2 : ¬(φ.place : Int) ≤ k) : false = stops k φ := stops_of ⟨fun z => (nomatch z), fun z => by omega⟩
theorem cu_a (h : ([(1 : Int), 2].any fun x => x == (φ.place : Int)) = true) (h2 : cut = true) : false = cuts cut φ := by subst h2; exact (Bool.and_false _).symm
theorem cu_b (h : ([(1 : Int), 2].any fun x => x == (φ.place : Int)) = true) (h2 : cut = false) : true = cuts cut φ := by subst h2; cases φ <;> first | rfl | exact absurd h (by decide)
theorem cu_c (h : ([(1 : Int), 2].any fun x => x == (φ.place : Int)) = false) : false = cuts cut φ := by cases φ <;> first | rfl | exact absurd h (by decide)
end
theorem dueM3 {plv mkv rv tv bv : Value} {i k : Nat} {ti tk : Tok} {op ot ow : Option Value} {p tx x : Value} : (fun y => if y = Str.ofString "what" then some x else if y = Str.ofString "text" then some tx else if y = Str.ofString "place" then some p else dueM plv mkv rv tv bv i k ti tk op ot ow y) = dueM plv mkv rv tv bv i k ti tk (some p) (some tx) (some x) := by
  funext y
  unfold dueM
  by_cases h : y ∈ [Str.ofString "what", Str.ofString "text", Str.ofString "place"]
  · simp only [List.mem_cons, List.not_mem_nil, or_false] at h
    rcases h with rfl | rfl | rfl <;> rfl
  · simp only [List.mem_cons, List.not_mem_nil, or_false, not_or] at h
    obtain ⟨a1, a2, a3⟩ := h
    simp only [a1, a2, a3, if_false]
theorem four {P : Addr → Obj → Prop} {a b c d : Value × D} (ha : RepN P a.1 a.2) (hb : RepN P b.1 b.2) (hc : RepN P c.1 c.2) (hd : RepN P d.1 d.2) : ∀ x ∈ [a, b, c, d], RepN P x.1 x.2 :=
  List.forall_mem_cons.mpr ⟨ha, List.forall_mem_cons.mpr ⟨hb, List.forall_mem_cons.mpr ⟨hc, List.forall_mem_cons.mpr ⟨hd, fun _ h => nomatch h⟩⟩⟩⟩
section
variable {w : World} {g b : Heap} {L : Addr} {s : Shared} {cut : Bool} {l : List Ph} {pl mk X Y V3 V4 v9 x9 : Value} {lr to lb ra D9 : Addr} {i : Nat} {I : Addr} {oI o9 : Obj} {h' : Heap} {tk9 : Nat} {st : St} {tl9 : List (Addr × Obj)} {vro vb : List Value} {oD : Obj} {tg ti tr t0 ta : Tok} {k1 k2 kk : Nat} {op ot ow : Option Value} {φ : Ph} {tx : Value}
noncomputable abbrev xsL (st : St) (X Y V3 V4 : Value) : List (Value × D) := [(X, optD st.x), (Y, optD st.y), (V3, optD st.t3), (V4, optD st.t4)]
noncomputable abbrev endN (D9 I lr ra to lb : Addr) (o9 oI : Obj) (vro : List Value) (g : Str) (tg : Tok) (X Y : Value) (oD : Obj) (vb : Array Value) (k1 k2 kk : Nat) (tl : List (Addr × Obj)) : List (Addr × Obj) :=
  (D9, o9) :: (I, oI) :: (lr, listOf (vro ++ [Value.ref ra]).toArray k1) :: (ra, listOf #[.str g tg, X, Y] k2) :: (to, oD) :: (lb, listOf vb kk) :: tl
theorem due_n1 (T : DT w b cut l lr to lb ra tl9 vro ((v9, itemD φ.what) :: xsL st X Y V3 V4) vb st i φ I) (hp : φ.place = 1) (hd : oD.IsDictOf (PySem.intKind rw.prog w) [((3 : Int), V3), ((4 : Int), V4)])
    (F : Fr g L h' (turnM pl mk (.ref lr) (.ref to) (.ref lb) i st.rank ti tr op ot ow 1 t0 ta tx x9)) (N : News g L h' (endN D9 I lr ra to lb o9 oI vro st.g tg v9 Y oD vb.toArray k1 k2 kk tl9)) : DueStep w g L s b cut l pl mk lr to lb i I oI .next { s with heap := h', toks := tk9 } :=
  due_ns (kk := 1) T (put_eq1 hp) rfl rfl rfl hd F N (four (T.hP.rep _ (.head _)) (T.hP.rep _ (.tail _ (.tail _ (.head _)))) (T.hP.rep _ (.tail _ (.tail _ (.tail _ (.head _))))) (T.hP.rep _ (.tail _ (.tail _ (.tail _ (.tail _ (.head _))))))) T.hP.brs (Nat.le_succ_of_le T.s2)
theorem due_n2 (T : DT w b cut l lr to lb ra tl9 vro ((v9, itemD φ.what) :: xsL st X Y V3 V4) vb st i φ I) (hp : φ.place = 2) (hd : oD.IsDictOf (PySem.intKind rw.prog w) [((3 : Int), V3), ((4 : Int), V4)])
    (F : Fr g L h' (turnM pl mk (.ref lr) (.ref to) (.ref lb) i st.rank ti tr op ot ow 2 t0 ta tx x9)) (N : News g L h' (endN D9 I lr ra to lb o9 oI vro st.g tg X v9 oD vb.toArray k1 k2 kk tl9)) : DueStep w g L s b cut l pl mk lr to lb i I oI .next { s with heap := h', toks := tk9 } :=
  due_ns (kk := 2) T (put_eq2 hp) rfl rfl rfl hd F N (four (T.hP.rep _ (.tail _ (.head _))) (T.hP.rep _ (.head _)) (T.hP.rep _ (.tail _ (.tail _ (.tail _ (.head _))))) (T.hP.rep _ (.tail _ (.tail _ (.tail _ (.tail _ (.head _))))))) T.hP.brs (Nat.le_succ_of_le T.s2)
theorem due_n3 (T : DT w b cut l lr to lb ra tl9 vro ((v9, itemD φ.what) :: xsL st X Y V3 V4) vb st i φ I) (hp : φ.place = 3) (hd : oD.IsDictOf (PySem.intKind rw.prog w) [((3 : Int), v9), ((4 : Int), V4)])
    (F : Fr g L h' (turnM pl mk (.ref lr) (.ref to) (.ref lb) i st.rank ti tr op ot ow 3 t0 ta tx x9)) (N : News g L h' (endN D9 I lr ra to lb o9 oI vro st.g tg X Y oD vb.toArray k1 k2 kk tl9)) : DueStep w g L s b cut l pl mk lr to lb i I oI .next { s with heap := h', toks := tk9 } :=
  due_ns (kk := 3) T (put_eq3 hp) rfl rfl rfl hd F N (four (T.hP.rep _ (.tail _ (.head _))) (T.hP.rep _ (.tail _ (.tail _ (.head _)))) (T.hP.rep _ (.head _)) (T.hP.rep _ (.tail _ (.tail _ (.tail _ (.tail _ (.head _))))))) T.hP.brs (Nat.le_succ_of_le T.s2)
theorem due_n4 (T : DT w b cut l lr to lb ra tl9 vro ((v9, itemD φ.what) :: xsL st X Y V3 V4) vb st i φ I) (hp : φ.place = 4) (hd : oD.IsDictOf (PySem.intKind rw.prog w) [((3 : Int), V3), ((4 : Int), v9)])
    (F : Fr g L h' (turnM pl mk (.ref lr) (.ref to) (.ref lb) i st.rank ti tr op ot ow 4 t0 ta tx x9)) (N : News g L h' (endN D9 I lr ra to lb o9 oI vro st.g tg X Y oD vb.toArray k1 k2 kk tl9)) : DueStep w g L s b cut l pl mk lr to lb i I oI .next { s with heap := h', toks := tk9 } :=
  due_ns (kk := 4) T (put_eq4 hp) rfl rfl rfl hd F N (four (T.hP.rep _ (.tail _ (.head _))) (T.hP.rep _ (.tail _ (.tail _ (.head _)))) (T.hP.rep _ (.tail _ (.tail _ (.tail _ (.head _))))) (T.hP.rep _ (.head _))) T.hP.brs (Nat.le_succ_of_le T.s2)
theorem due_n5 (T : DT w b cut l lr to lb ra tl9 vro (xsL st X Y V3 V4) vb st i φ I) (hp : φ.place = 5) (hx : RepN (Hp b) v9 ovD) (hd : oD.IsDictOf (PySem.intKind rw.prog w) [((3 : Int), V3), ((4 : Int), V4)])
    (F : Fr g L h' (turnM pl mk (.ref lr) (.ref to) (.ref lb) i st.rank ti tr op ot ow 5 t0 ta tx x9)) (N : News g L h' (endN D9 I lr ra to lb o9 oI vro st.g tg X Y oD (vb.toArray.push v9) k1 k2 kk tl9)) : DueStep w g L s b cut l pl mk lr to lb i I oI .next { s with heap := h', toks := tk9 } :=
  due_ns (kk := 5) (vb' := vb ++ [v9]) T (put_eq5 hp) rfl rfl rfl hd F (List.push_toArray vb v9 ▸ N) T.hP.rep (T.hP.brs.snoc (hx.mono fun _ _ => .inr)) (by rw [List.length_append]; exact Nat.succ_le_succ T.s2)
theorem due_n6 (T : DT w b cut l lr to lb ra tl9 vro (xsL st X Y V3 V4) vb st i φ I) (hp : φ.place = 6) (hx : RepN (Hp b) v9 notD) (hd : oD.IsDictOf (PySem.intKind rw.prog w) [((3 : Int), V3), ((4 : Int), V4)])
    (F : Fr g L h' (turnM pl mk (.ref lr) (.ref to) (.ref lb) i st.rank ti tr op ot ow 6 t0 ta tx x9)) (N : News g L h' (endN D9 I lr ra to lb o9 oI vro st.g tg X Y oD (vb.toArray.push v9) k1 k2 kk tl9)) : DueStep w g L s b cut l pl mk lr to lb i I oI .next { s with heap := h', toks := tk9 } :=
  due_ns (kk := 6) (vb' := vb ++ [v9]) T (put_eq6 hp) rfl rfl rfl hd F (List.push_toArray vb v9 ▸ N) T.hP.rep (T.hP.brs.snoc (hx.mono fun _ _ => .inr)) (by rw [List.length_append]; exact Nat.succ_le_succ T.s2)
theorem due_n7 (T : DT w b cut l lr to lb ra tl9 vro (xsL st X Y V3 V4) vb st i φ I) (hp : φ.place = 7) (hd : oD.IsDictOf (PySem.intKind rw.prog w) [((3 : Int), V3), ((4 : Int), V4)])
    (F : Fr g L h' (turnM pl mk (.ref lr) (.ref to) (.ref lb) i st.rank ti tr op ot ow 7 t0 ta tx x9)) (N : News g L h' (endN D9 I lr ra to lb o9 oI vro st.g tg X Y oD vb.toArray k1 k2 kk tl9)) : DueStep w g L s b cut l pl mk lr to lb i I oI .next { s with heap := h', toks := tk9 } :=
  due_ns (kk := 7) T (put_eq7 hp) rfl rfl rfl hd F N T.hP.rep T.hP.brs (Nat.le_succ_of_le T.s2)
theorem due_brk {k3 : Nat} {p : Value} (hgo : go cut l st0 = go cut (φ :: l.drop (i + 1)) st) (hs : stops st.rank φ = true) (hdr : l.drop i = φ :: l.drop (i + 1)) (hP : Dq b [I, lr, ra, to, lb] tl9 vro st.rows (xsL st X Y V3 V4) vb st.bs) (n1 : AllNe lr [(ra, emD), (to, emD), (lb, emD)]) (n2 : AllNe ra [(to, emD), (lb, emD)]) (s1 : vro.length ≤ i) (s2 : vb.length ≤ i) (hd : oD.IsDictOf (PySem.intKind rw.prog w) [((3 : Int), V3), ((4 : Int), V4)])
    (F : Fr g L h' (fun y => if y = Str.ofString "what" then some x9 else if y = Str.ofString "text" then some tx else if y = Str.ofString "place" then some p else dueM pl mk (.ref lr) (.ref to) (.ref lb) i st.rank ti tr op ot ow y)) (N : News g L h' ((I, oI) :: dueL lr to lb ra tl9 vro st.g tg X Y vb oD k1 k2 k3)) : DueStep w g L s b cut l pl mk lr to lb i I oI .brk { s with heap := h', toks := tk9 } := by
  rw [dueM3] at F
  exact .brk F N (fun q hq => .tail _ hq) ⟨hd, ⟨fun a ha => hP.ne a (.tail _ ha), hP.rows, hP.rep, hP.brs⟩, n1, n2, by rw [hdr]; exact hgo.symm, s1, s2⟩ (by rw [hdr]; exact hgo.trans (go_stop hs))
end
theorem due_fin {b : Heap} {cut : Bool} {st : St} {tl o : List (Addr × Obj)} {mk v9 T X Y V3 V4 : Value} {vb : List Value} {U9 B9 : Addr} {tk : Tok} (hm : RepN (Hp b) mk (markDs cut)) (hP : Dq b [] tl [] [] [(v9, itemD (Str.ofString "S")), (T, D.tup (st.rows ++ [rowD st.g st.x st.y])), (X, optD st.x), (Y, optD st.y), (V3, optD st.t3), (V4, optD st.t4)] vb st.bs)
    (i1 : (U9, tupO [.str (Str.ofString "unstring") tk, v9, mk, T, V3, V4, .ref B9]) ∈ o) (i2 : (B9, tupO vb) ∈ o) (up : ∀ q ∈ tl, q ∈ o) : RepN (InB o b) (.ref U9) (dueD cut st) :=
  have rp := fun x hx => (hP.rep x hx).mono (InB.mono up)
  .tup (.inl i1) (.cons (.str _ _) (.cons (rp _ (.head _)) (.cons (hm.mono fun _ _ => .inr) (.cons (rp _ (.tail _ (.head _))) (.cons (rp _ (.tail _ (.tail _ (.tail _ (.tail _ (.head _)))))) (.cons (rp _ (.tail _ (.tail _ (.tail _ (.tail _ (.tail _ (.head _))))))) (.cons (.tup (.inl i2) (hP.brs.mono (InB.mono up))) .nil)))))))
theorem off_cons {made led : List (Addr × Obj)} {T : Addr} {o : Obj} (l : ∀ p ∈ made ++ led, p.1 < T) (ne : ∀ r ∈ led, ∀ q ∈ made, r.1 ≠ q.1) : ∀ r ∈ led, ∀ q ∈ (T, o) :: made, r.1 ≠ q.1 := fun r hr q hq => by
  rcases List.mem_cons.mp hq with rfl | hq
  · exact Nat.ne_of_lt (l r (List.mem_append_right _ hr))
  · exact ne r hr q hq
section
variable {w : World} {dp un : Nat} {fr : Option (List Env)} {gd : Option (List Code)} {g : Heap} {L : Addr} {m : Str → Option Value} {s : Shared} {Q : Flow → Shared → Prop} {news : List (Addr × Obj)}
theorem row73 : True := by
  k_with "mlook" => ((fail_if_success k_extra "off54"); first | with_reducible assumption | with_reducible exact mset_eq | (refine mset_ne (by decide) ?_; walk_at "mlook"))
  k_with "lname" => ((fail_if_success k_extra "off54"); (refine' nameX_L (cl := []) F9 ?zl9 ?_ ?za9 ?zb9; (case zb9 => rfl); (case za9 => rfl); (case zl9 => walk_at "mlook"); (try dsimp only)))
  k_with "eval Name" => ((fail_if_success k_extra "off54"); k_dflt ((rename Fr _ _ _ _ => F9); walk_at "lname"))
  trivial
/-- the last line of a turn of _law_due -/
theorem due_rank {st : Stmt} {rest : List Stmt} {k i : Int} {t1 t2 : Tok} (hst : (forB ((f 68).body[2]?)).drop 3 = st :: rest) (hk : m (Str.ofString "place") = some (.int k t1)) (hi : m (Str.ofString "at") = some (.int i t2))
    (F9 : Fr g L s.heap m) (N9 : News g L s.heap news)
    (hQ : ∀ D9 o9 u h' tk', Fr g L h' (fun y => if y = Str.ofString "rank" then some (.int k t1) else if y = Str.ofString "at" then some (.int (i + 1) u) else m y) → News g L h' ((D9, o9) :: news) → Q .next { s with heap := h', toks := tk' }) :
    wpAny (model rw.prog w) ⟨none, dp, fr, gd, un⟩ (exec st (envOf (Str.ofString "_law_due") (f 68).scope L 598 (Value.ref 597))) (fun f0 s' => match f0 with | .next => wpAny (model rw.prog w) ⟨none, dp, fr, gd, un⟩ (execs rest (envOf (Str.ofString "_law_due") (f 68).scope L 598 (Value.ref 597))) Q (fun _ _ => False) s' | f0 => Q f0 s') (fun _ _ => False) s := by
  have h0 : (forB ((f 68).body[2]?)).drop 3 = _ :: _ := rfl
  rw [h0] at hst
  obtain ⟨rfl, rfl⟩ := List.cons.inj hst
  clear hst h0
  w_on
  w_top on
  k_steps
  all_goals (rename News _ _ _ _ => N9; rename Fr _ _ _ _ => F9; exact hQ _ _ _ _ _ F9 N9)
end

end
theorem off54 : True := by
  k_with "off54" => skip
  trivial
section
theorem row74 : True := by
  k_with "tails" => ((fail_if_success k_extra "off55"); first | with_reducible exact Spl.nil | (with_reducible apply Spl.cons; walk_at "tails"))
  k_with "has" => ((fail_if_success k_extra "off55"); first | exact List.forall_mem_nil _ | (refine List.forall_mem_cons.mpr ⟨⟨_, by k_mem⟩, ?_⟩; walk_at "has"))
  k_with "tl" => ((fail_if_success k_extra "off55"); first | with_reducible exact Tl.nil | (with_reducible apply Tl.cons; walk_at "tl"))
  k_with "k_all" => ((fail_if_success k_extra "off55"); first | exact hP.ne _ (by k_mem) | fail "deep")
  trivial
theorem const_any {w : World} {A : Around} {E Q : Value → Shared → Prop} {s : Shared} {env : Env} {n : Int} {k pos} (h : ∀ t tk, Q (.int n t) { heap := s.heap, gens := s.gens, drawn := s.drawn, toks := tk, os := s.os }) : wpAny (model rw.prog w) A (eval (.Constant (.int n) k pos) env) Q E s := wpAny_Constant_int (h _ _)
theorem row75 : True := by
  k_with "eval Constant int" => ((fail_if_success k_extra "off55"); k_dflt (refine const_any ?_; intro t9 tk9; (try dsimp only); (try k_fold)))
  k_with "newList" => ((fail_if_success k_extra "off55"); k_dflt (refine' newList_K ?k1 ?k2 ?_; (case k1 => k_asm); (case k2 => k_asm); k_whole; intro l9 h9 F9 N9 l1; have n4 := allNe_of (fun q hq => Nat.ne_of_lt (l1 q hq)); (try k_lt l1); k_sweep; (try dsimp only); (try k_fold)))
  k_with "storeName" => ((fail_if_success k_extra "off55"); k_dflt (refine' storeX_L ?F ?N ?_ ?za9 ?zb9; (case F => k_asm); (case N => k_asm); (case za9 => rfl); (case zb9 => rfl); k_whole; intro h9 F9 N9; k_sweep; (try dsimp only); (try k_fold)))
  k_with "exec For" => ((fail_if_success k_extra "off55"); k_dflt (refine' due_for (vs := vs) (b := s.heap) (mk := mk) (l := l) (cut := cut) ?F ?N ?i1 ?i2 ?i3 ?i4 ?hm ?hd ?n1 ?n2 rfl hlb hp hg' ?hit ?hs ?step ?fin ?rt ?hE; (case F => exact F9); (case N => exact N9); (case hm => exact dueM_start); (case hd => (rename Obj.IsDictOf _ _ _ => hd9; exact hd9)); (case i4 => exact List.Mem.head _); (case i3 => k_mem); (case i1 => k_mem); (case i2 => k_mem); (case n1 => exact ⟨by k_ne, by k_ne, by k_ne, trivial⟩); (case n2 => exact ⟨by k_ne, by k_ne, trivial⟩); (case hit => exact nameX_L F9 rfl ⟨rfl, rfl⟩); (case hs => intro _; rfl); (case hE => exact PassesOwn.never); (case' step => (intro i9 φ9 a9 t0 t1 x9 ra tl vro X9 Y9 V3 V4 vb oD st tg k1 k2 k3 ti9 tk9 op ot ow h9 tk9 I9 oI9 hT9 hx9 hgo hdr hdD hP n1 n2 s1 s2 hil F9 N9 n3)); (case' fin => (intro i9 l9 ra tl vro X9 Y9 V3 V4 vb oD st tg k1 k2 k3 ti9 tk9 op ot ow h9 tk9 news9 hgo hlen9 hx F9 N9 hin9; (replace N9 := news_sub N9 hin9); clear hin9; obtain ⟨hdD, hP, n1, n2, hgi, s1, s2⟩ := hx; clear hgi)); (case' rt => (intro i9 r9 ti9 st h9 tk9 m9 news9 F9 N9 hr9 hgo hil))))
  k_with "newTuple" => ((fail_if_success k_extra "off55"); k_dflt (refine' kup_newTuple ?F ?N ?_ ?z; (case F => k_asm); (case N => k_asm); (case z => exact Nat.le_of_ble_eq_true rfl); intro D9 h9 F9 N9 l1; (try (have hmark := hm8; clear hmark; have l8 := l1)); (try k_lt l1); k_sweep; (try dsimp only); (try k_fold)))
  k_with "isTrue BoolOp" => ((fail_if_success k_extra "off55"); k_dflt ((with_reducible show wpAny _ _ (PySem.isTrue (Expr.BoolOp BoolOp.Or _ _) _ _) _ _ _); have hmark := hgo; clear hmark; refine' wp_test (stops st.rank φ9) ?F ?N ?t1 ?t2 ?t3; (case F => exact F9); (case N => exact N9); (case' t1 => (clear hgo hdr hdD hP n1 n2 s1 s2 hil n3 hx9 hT9)); (case' t2 => (clear F9 N9; intro h9 tk9 F9 N9 hs9; (try dsimp only); (try k_fold))); (case' t3 => (clear F9 N9; intro h9 tk9 F9 N9 hs9; (try dsimp only); (try k_fold)))))
  k_with "isTrue BoolOp" => ((fail_if_success k_extra "off55"); k_dflt ((with_reducible show wpAny _ _ (PySem.isTrue (Expr.BoolOp BoolOp.And (Expr.Compare _ [CmpOp.In] _ _ :: _) _) _ _) _ _ _); have hmark := hgo; clear hmark; refine' wp_test (cuts cut φ9) ?F ?N ?u1 ?u2 ?u3; (case F => exact F9); (case N => exact N9); (case' u1 => (clear hgo hdr hdD hP n1 n2 s1 s2 hil n3 hx9 hT9)); (case' u2 => (clear F9 N9; intro h9 tk9 F9 N9 hc9; (try dsimp only); (try k_fold))); (case' u3 => (clear F9 N9; intro h9 tk9 F9 N9 hc9; (try dsimp only); (try k_fold)))))
  k_with "compareOp Eq" => ((fail_if_success k_extra "off55"); k_dflt (refine' eq_marks (cut := cut) (b := s.heap) ?N hm hg' ?F ?D ?u ?_; (case N => exact N9); (case F => exact F9); (case D => k_mem); (case u => exact Nat.lt_of_le_of_lt (Nat.le_add_right _ _) hC.u)))
  k_with "exec Expr" => ((fail_if_success k_extra "off55"); k_dflt (first
  | ((with_reducible show wpAny _ _ (exec (Stmt.Expr (Expr.Call (Expr.Attribute (Expr.Name (Str.ofString "rows") _) _ _) _ _ _) _) _) _ _ _); rename (φ9.place : Int) = 0 => hp9; obtain ⟨hp8, t8, hx8⟩ := pc0 hx9 hp9; subst hx8; rw [hp9] at F9)
  | ((with_reducible show wpAny _ _ (exec (Stmt.Expr (Expr.Call (Expr.Attribute (Expr.Name (Str.ofString "branches") _) _ _) _ _ _) _) _) _ _ _); rename ¬(φ9.place : Int) < 5 => z5; rename (φ9.place : Int) < 7 => z7; (rcases pc56 hx9 z5 z7 with ⟨hp8, hp9, hx8⟩ | ⟨hp8, hp9, hx8⟩) <;> (rw [hp9] at F9))
  | fail "own"))
  k_with "exec Assign cons Call" => ((fail_if_success k_extra "off55"); k_dflt ((with_reducible show wpAny _ _ (exec (Stmt.Assign [Expr.Subscript _ _ _] _ _) _) _ _ _); first
  | (rename (φ9.place : Int) < 3 => z3; rename (φ9.place : Int) ≠ 0 => z0; (rcases pc12 hx9 z0 z3 with ⟨hp8, hp9, t8, rfl⟩ | ⟨hp8, hp9, t8, rfl⟩) <;> (rw [hp9] at F9))
  | (rename ¬(φ9.place : Int) < 3 => z3; rename (φ9.place : Int) < 5 => z5; (rcases pc34 hx9 z3 z5 with ⟨hp8, hp9, t8, rfl⟩ | ⟨hp8, hp9, t8, rfl⟩) <;> (rw [hp9] at F9))
  | fail "own"))
  k_with "call ref" => ((fail_if_success k_extra "off55"); k_dflt (refine' item_use hC ?F ?N ?hn hP ?S ?has ?_; (case F => exact F9); (case N => exact N9); (case hn => exact Nat.le_of_ble_eq_true rfl); (case S => walk_at "tails"); (case has => walk_at "has"); clear hP F9 N9; intro v9 h9 tk9 tl9 F9 N9 hP; (simp only [List.cons_append, List.nil_append] at N9); (try dsimp only); (try k_fold)))
  k_with "call builtin:list.append" => ((fail_if_success k_extra "off55"); k_dflt ((show wpAny _ _ (call (Value.builtin _) [Value.ref _, _]) _ _ _); (refine' append_K ?k1 ?k2 ?k3 ?_ ?z; (case k1 => exact F9); (case k2 => exact N9); (case k3 => k_upd); (case z => first | exact sz_row s1 hil hlen | exact sz_br s2 hil hlen)); clear F9 N9; intro h9 F9 N9; (try dsimp only); (try k_fold)))
  k_with "subscriptTail Name UnaryOp ref int" => ((fail_if_success k_extra "off55"); k_dflt ((with_reducible show wpAny _ _ (subscriptTail _ _ (Value.ref _) (Value.int (-1) _)) _ _ _); refine' last_row ?N ?m ?_ ?hs; (case N => exact N9); (case m => exact List.Mem.tail _ (List.Mem.head _)); (case hs => with_unfolding_all rfl)))
  k_with "setItem ref int" => ((fail_if_success k_extra "off55"); k_dflt ((first | ((with_reducible show wpAny _ _ (setItem (Value.ref _) (Value.int 1 _) _) _ _ _); refine' row_set1 ?F ?N ?U ?_; (case F => exact F9); (case N => exact N9); (case U => k_upd); clear F9 N9; intro h9 F9 N9) | ((with_reducible show wpAny _ _ (setItem (Value.ref _) (Value.int 2 _) _) _ _ _); refine' row_set2 ?F ?N ?U ?_; (case F => exact F9); (case N => exact N9); (case U => k_upd); clear F9 N9; intro h9 F9 N9) | (refine' told_set ?F ?N ?U hdD ?z ?_; (case F => exact F9); (case N => exact N9); (case U => k_updF); (case z => exact Nat.le_of_ble_eq_true rfl); clear F9 N9; intro h9 oD9 tk9 F9 N9 hdD; (try dsimp only at N9))); (try dsimp only); (try k_fold)))
  k_with "exec Assign cons Tuple" => ((fail_if_success k_extra "off55"); k_dflt ((with_reducible show wpAny _ _ (exec (Stmt.Assign [Expr.Tuple [_, _] _ _] (Expr.Tuple _ _ _) _) _) _ _ _); (try (rename ¬(φ9.place : Int) < 7 => z7; obtain ⟨hp8, hp9⟩ := pc7 hs9 z7; rw [hp9] at F9)); refine' due_rank rfl ?rk ?ri F9 N9 ?_; (case rk => exact rfl); (case ri => exact rfl); clear F9 N9; intro D9 o9 u9 h9 tk9 F9 N9))
  k_with "CompSrc" => ((fail_if_success k_extra "off55"); k_dflt (refine' cut_comp rfl F9 N9 hP ?hsz ?cs ?cf; (case hsz => exact Nat.le_trans s1 (Nat.le_trans (Nat.le.intro hlen9) hlen)); (case' cs => (clear F9 N9 hP hdD n1 n2 s1 s2 hgo; intro a8 g8 t8 X8 Y8 k8 I8 oI8 C8 oC8 D8 ys8 m8 news8 h9 tk9 E8 Post8 hq8 hN8 F9 hm8 N9 hP8; (try dsimp only); (try k_fold))); (case' cf => (intro ys8 news8 g8 hb8 hyl8 hyr8; unfold LCg.FinE; clear F9 N9; intro D8 h9 tk9 F9 N9 off8; (try dsimp only); (try k_fold)))))
  k_with "call type:tuple" => ((fail_if_success k_extra "off55"); k_dflt (first | (refine' due_tup F9 N9 hb8 hyl8 hyr8 hP ?_; clear hb8 hyl8 hyr8 hP F9 N9; intro T9 h9 F9 N9 hP; (try dsimp only); (try k_fold)) | (refine' kde_tupleOf (zs := vb) F9 N9 (News.isList N9 (by k_mem)) ?k4 ?k5 ?_; (case k4 => exact Nat.le_trans s2 (Nat.le_trans (Nat.le_trans (Nat.le.intro hlen9) hlen) (Nat.le_of_ble_eq_true rfl))); (case k5 => exact rfl); clear F9 N9; intro D9 h9 F9 N9 l1; (try dsimp only); (try k_fold))))
  k_with "subscriptTail" => ((fail_if_success k_extra "off55"); k_dflt (first
  | ((with_reducible show wpAny _ _ (subscriptTail _ _ (Value.ref _) (Value.int 0 _)) _ _ _); refine' item_led (k := 0) N9 hm8 ?hk ?hx ?_ ?hs; (case hk => decide); (case hx => exact rfl); (case hs => with_unfolding_all rfl))
  | ((with_reducible show wpAny _ _ (subscriptTail _ _ (Value.ref _) (Value.int 1 _)) _ _ _); refine' item_led (k := 1) N9 hm8 ?hk ?hx ?_ ?hs; (case hk => decide); (case hx => exact rfl); (case hs => with_unfolding_all rfl))
  | ((with_reducible show wpAny _ _ (subscriptTail _ _ (Value.ref _) (Value.int 2 _)) _ _ _); refine' item_led (k := 2) N9 hm8 ?hk ?hx ?_ ?hs; (case hk => decide); (case hx => exact rfl); (case hs => with_unfolding_all rfl))
  | ((with_reducible show wpAny _ _ (subscriptTail _ _ (Value.ref _) (Value.int _ _)) _ _ _); have hmark := hlen9; clear hmark; refine' kda_item (knd := PySem.intKind _ _) N9 ?m hdD (intKind_is _ _ _ _) ?l ?_; (case m => k_mem); (case l => exact rfl))
  | fail "row"))
  k_with "call ref" => ((fail_if_success k_extra "off55"); k_dflt (have hmark := hm8; clear hmark; refine' LCall.use hC F9 N9 (item_c _ _ _) trivial ?hn ?_; (case hn => exact Nat.le_of_ble_eq_true rfl); clear F9 N9; intro v9 l9 h9 tk9 F9 N9 ne9 rp9; (replace hm8 := List.mem_append_right l9 hm8); (try dsimp only); (try k_fold)))
  k_with "tend" => ((fail_if_success k_extra "off55"); (refine TEnd.mk ?_ (by assumption) (by assumption) (Tl.mem (by walk_at "tl")); first | exact st_a (by assumption) | exact st_b (by assumption) (by assumption) | exact st_c (by assumption) (by assumption) | exact st_d (by assumption) (by assumption) | exact st_e (by assumption) (by assumption) (by assumption) | exact cu_a (by assumption) (by assumption) | exact cu_b (by assumption) (by assumption) | exact cu_c (by assumption) | fail "tend"))
  k_with "turn" => ((fail_if_success k_extra "off55"); first
  | exact due_n0 ⟨hgo, hs9, hc9, hP, n1, n2, n3, s1, s2⟩ hdD hp8 (by assumption) (by assumption) n4
  | exact due_n1 ⟨hgo, hs9, hc9, hP, n1, n2, n3, s1, s2⟩ hp8 hdD (by assumption) (by assumption)
  | exact due_n2 ⟨hgo, hs9, hc9, hP, n1, n2, n3, s1, s2⟩ hp8 hdD (by assumption) (by assumption)
  | exact due_n3 ⟨hgo, hs9, hc9, hP, n1, n2, n3, s1, s2⟩ hp8 hdD (by assumption) (by assumption)
  | exact due_n4 ⟨hgo, hs9, hc9, hP, n1, n2, n3, s1, s2⟩ hp8 hdD (by assumption) (by assumption)
  | exact due_n5 ⟨hgo, hs9, hc9, hP, n1, n2, n3, s1, s2⟩ hp8 hx8 hdD (by assumption) (by assumption)
  | exact due_n6 ⟨hgo, hs9, hc9, hP, n1, n2, n3, s1, s2⟩ hp8 hx8 hdD (by assumption) (by assumption)
  | exact due_n7 ⟨hgo, hs9, hc9, hP, n1, n2, n3, s1, s2⟩ hp8 hdD (by assumption) (by assumption)
  | fail "turn")
  trivial
theorem due_c (w : World) (h1 : Heap) (pl : Addr) (mk : Value) (vs : List Value) (l : List Ph) (cut : Bool) (hl : h1.IsList pl vs.toArray) (hp : PhrsAt h1 vs l) (hm : RepN (Hp h1) mk (markDs cut)) (hlen : l.length ≤ 1000) :
    LCall w (fun h => h = h1) 598 8 [.ref pl, mk] (DuePost h1 cut l) := by
  walk_at "l_open"
  subst hP
  refine' enter [(Str.ofString "phrases", .ref pl), (Str.ofString "marks", mk)] ?k1 ?k2 ?k3 ?k4 ?k5 ?kA ?kF ?kK ?k6 ?k7 ?k8 ?k9 ?kB ?_ ?c2 ?c3 ?c4 ?c5
  walk_at "my_enter"
  intro g L' h' tk₁ hg F' N' B' X' T' l1
  clear F N B X T l1
  have hz : (f 68).scope.kind = .function := rfl
  have hd1 : A.depth + (7 + 1) < recursionLimit := hd
  have hu1 : A.units + 8 * (7 + 1) < cLine := hu
  with_reducible refine lx_in hH hA B' T' X' hd1 hu1 hz ?_
  clear B' hd hu hA hf hk hH hd1 hu1 hz
  intro dp fr gd un hC
  try dsimp only
  try k_fold
  have hg' : KeepAll s.heap g := fun b o e => hg b o e (fun z => nomatch z)
  have hlb : g.IsList pl vs.toArray := stays_list hg' hl
  k_steps
  all_goals first
    | exact hR _ _ _ _ (end_L hg F9) (fun q hq => new_L hg N9 hq) ⟨_, .none, i9, ti9, true, st, _, rfl, hr9, hgo, by rw [List.length_drop]; exact Nat.add_sub_of_le (Nat.le_of_lt hil), fun h => nomatch h⟩
    | walk_at "turn"
    | walk_at "tend"
    | exact due_brk hgo hs9 hdr hP n1 n2 s1 s2 hdD F9 N9
    | exact DueStep.ret F9 N9 (.head _) (by rw [hdr]; exact go_cut hgo hs9 hc9)
    | exact hP8 D9 v9 l9 h9 _ F9 N9 (off_cons l8 ne9) rp9
    | exact hR _ _ _ _ (end_L hg F9) (fun q hq => new_L hg N9 hq) ⟨_, _, i9, ti9, false, st, l9, rfl, .head _, hgo, hlen9, fun _ => due_fin hm hP (.tail _ (.head _)) (.tail _ (.tail _ (.head _))) (Tl.mem (by walk_at "tl"))⟩
    | skip

end
theorem off55 : True := by
  k_with "off55" => skip
  trivial
section
/-- a list of pairs of texts, in the ledger or the base -/
noncomputable def TL (b : Heap) (tl : List (Addr × Obj)) (v : Value) (ts : List (Str × Str)) : Prop := ∃ a vs k, v = .ref a ∧ (a, listOf vs.toArray k) ∈ tl ∧ RepA (InB tl b) vs (ts.map tokD)
theorem TL.mono {b : Heap} {tl tl' : List (Addr × Obj)} {v : Value} {ts : List (Str × Str)} (h : TL b tl v ts) (s : ∀ q ∈ tl, q ∈ tl') : TL b tl' v ts := by
  obtain ⟨a, vs, k, h0, h1, h2⟩ := h
  exact ⟨a, vs, k, h0, s _ h1, h2.mono (InB.mono s)⟩
/-- what _law_right keeps of its tail -/
structure Tq (b : Heap) (as : List Addr) (tl : List (Addr × Obj)) (xs : List (Value × D)) (ys : List (Value × List (Str × Str))) : Prop where
  ne : ∀ a ∈ as, ∀ q ∈ tl, q.1 ≠ a
  rep : ∀ x ∈ xs, RepN (InB tl b) x.1 x.2
  tok : ∀ y ∈ ys, TL b tl y.1 y.2
theorem Tq.grow {b : Heap} {as : List Addr} {tl : List (Addr × Obj)} {xs : List (Value × D)} {ys : List (Value × List (Str × Str))} (P : Tq b as tl xs ys) (l : List (Addr × Obj)) (h : ∀ a ∈ as, ∀ q ∈ l, q.1 ≠ a) : Tq b as (l ++ tl) xs ys :=
  ⟨fun a ha q hq => (List.mem_append.mp hq).elim (h a ha q) (P.ne a ha q), fun x hx => (P.rep x hx).mono (InB.mono fun _ h => List.mem_append_right _ h), fun y hy => (P.tok y hy).mono fun _ h => List.mem_append_right _ h⟩
theorem Tq.put {b : Heap} {as : List Addr} {tl : List (Addr × Obj)} {xs : List (Value × D)} {ys : List (Value × List (Str × Str))} {v : Value} {ts : List (Str × Str)} (P : Tq b as tl xs ys) (h : TL b tl v ts) : Tq b as tl xs ((v, ts) :: ys) := ⟨P.ne, P.rep, List.forall_mem_cons.mpr ⟨h, P.tok⟩⟩
theorem Tq.drop {b : Heap} {as : List Addr} {tl : List (Addr × Obj)} {xs : List (Value × D)} {ys zs : List (Value × List (Str × Str))} (P : Tq b as tl xs ys) (s : ∀ y ∈ zs, y ∈ ys) : Tq b as tl xs zs := ⟨P.ne, P.rep, fun y hy => P.tok y (s y hy)⟩
theorem repA_app {P : Addr → Obj → Prop} : ∀ {vs ws : List Value} {ds es : List D}, RepA P vs ds → RepA P ws es → RepA P (vs ++ ws) (ds ++ es)
  | _, _, _, _, .nil, h => h
  | _, _, _, _, .cons a r, h => .cons a (repA_app r h)
noncomputable def WordsOk (u : Str) (ws : List Str) : Prop := Txt.split u (Str.ofString " ") = ws ∧ u ≠ Str.ofString "" ∧ u.length + 2 ≤ sizeLine ∧ ws.length ≤ sizeLine
theorem wok1 : WordsOk (Str.ofString "UNSTRING S") [Str.ofString "UNSTRING", Str.ofString "S"] := ⟨by decide +kernel, by decide +kernel, by decide +kernel, by decide +kernel⟩
theorem wok2 : WordsOk (Str.ofString "DELIMITED BY") [Str.ofString "DELIMITED", Str.ofString "BY"] := ⟨by decide +kernel, by decide +kernel, by decide +kernel, by decide +kernel⟩
theorem wok3 : WordsOk (Str.ofString "OR ALL SPACE") [Str.ofString "OR", Str.ofString "ALL", Str.ofString "SPACE"] := ⟨by decide +kernel, by decide +kernel, by decide +kernel, by decide +kernel⟩
theorem wok4 : WordsOk (Str.ofString "INTO G") [Str.ofString "INTO", Str.ofString "G"] := ⟨by decide +kernel, by decide +kernel, by decide +kernel, by decide +kernel⟩
section
variable {w : World} {A : Around} {h₀ b : Heap} {L : Addr} {m : Str → Option Value} {news tl fr : List (Addr × Obj)} {s : Shared} {as : List Addr} {xs : List (Value × D)} {ys : List (Value × List (Str × Str))} {M : Nat} {Q E : Value → Shared → Prop}
theorem words_use {u : Str} {tu : Tok} {ws : List Str} (C : Lx w A L h₀ M) (F : Fr h₀ L s.heap m) (N : News h₀ L s.heap news) (hn : 3 ≤ M) (P : Tq b as tl xs ys) (S : Spl tl news fr) (has : ∀ a ∈ as, ∃ o, (a, o) ∈ news)
    (hw : WordsOk u ws)
    (h : ∀ a h' tk' tl', Fr h₀ L h' m → News h₀ L h' (fr ++ tl') → Tq b as tl' xs ((.ref a, ws.map tkw) :: ys) → Q (.ref a) { s with heap := h', toks := tk' }) : wpAny (model rw.prog w) A (call (.ref 574) [.str u tu]) Q E s :=
  LCall.use C F N (words_c w u tu ws hw.1 hw.2.1 hw.2.2.1 hw.2.2.2) trivial hn fun v l h' tk' F' N' ne rp => by
    obtain ⟨a9, vs, k, rfl, h1, h2⟩ := rp
    have e := S.eq
    have P' := P.grow l fun a ha q hq => by
      obtain ⟨o, ho⟩ := has a ha
      exact Ne.symm (ne _ ho q hq)
    refine h a9 h' tk' (l ++ tl) F' (fun q hq => N' q ?_) (P'.put ?_)
    · rw [e]
      rcases List.mem_append.mp hq with hq | hq
      · exact List.mem_append_right _ (List.mem_append_left _ hq)
      · rcases List.mem_append.mp hq with hq | hq
        · exact List.mem_append_left _ hq
        · exact List.mem_append_right _ (List.mem_append_right _ hq)
    · refine ⟨a9, vs, k, rfl, List.mem_append_left _ h1, ?_⟩
      rw [List.map_map]
      exact h2.mono fun a o hq => .inl (List.mem_append_left _ hq)
theorem add_use {x y : Value} {t1 t2 : List (Str × Str)} (F : Fr h₀ L s.heap m) (N : News h₀ L s.heap news) (P : Tq b as tl xs ys) (S : Spl tl news fr) (has : ∀ a ∈ as, ∃ o, (a, o) ∈ news) (hx : (x, t1) ∈ ys) (hy : (y, t2) ∈ ys) (hz : t1.length + t2.length ≤ 1000)
    (h : ∀ a h' tl', (∀ q ∈ tl, q ∈ tl') → Fr h₀ L h' m → News h₀ L h' (fr ++ tl') → Tq b as tl' xs ((.ref a, t1 ++ t2) :: ys) → Q (.ref a) { s with heap := h' }) : wpAny (model rw.prog w) A (binaryOp .Add x y) Q E s := by
  have e := S.eq
  obtain ⟨a1, vs1, k1, e1, m1, r1⟩ := P.tok _ hx
  obtain ⟨a2, vs2, k2, e2, m2, r2⟩ := P.tok _ hy
  dsimp only at e1 e2 r1 r2
  subst e1 e2
  have up : ∀ q ∈ tl, q ∈ news := fun q hq => by rw [e]; exact List.mem_append_right _ hq
  have l1 := r1.len
  have l2 := r2.len
  rw [List.length_map] at l1 l2
  refine add_lists F N (PySem.IsL.isList (n := k1) (N _ (up _ m1)).1) (PySem.IsL.isList (n := k2) (N _ (up _ m2)).1) (fun h' F' N' => ?_) (hsz := Nat.le_trans (by rw [l1, l2]; exact hz) (Nat.le_of_ble_eq_true (rfl : Nat.ble 1000 sizeLine = true)))
  refine h s.heap.objs.size h' ([(s.heap.objs.size, listOf (vs1 ++ vs2).toArray 0)] ++ tl) (fun _ h => List.mem_append_right _ h) F' (fun q hq => N' q ?_) ((P.grow _ fun a ha q hq => ?_).put ⟨_, _, _, rfl, .head _, ?_⟩)
  · rcases List.mem_append.mp hq with hq | hq
    · exact .tail _ (by rw [e]; exact List.mem_append_left _ hq)
    · rcases List.mem_cons.mp hq with rfl | hq
      · exact .head _
      · exact .tail _ (up q hq)
  · obtain ⟨o, ho⟩ := has a ha
    rcases List.mem_cons.mp hq with rfl | hq
    · exact Nat.ne_of_gt (Heap.lt_size (N _ ho).1)
    · exact nomatch hq
  · rw [List.map_append]
    exact repA_app (r1.mono (InB.mono fun _ h => List.mem_append_right _ h)) (r2.mono (InB.mono fun _ h => List.mem_append_right _ h))
/-- a list of one written pair -/
theorem pair_use {T : Addr} {k u : Str} {t1 t2 : Tok} (F : Fr h₀ L s.heap m) (N : News h₀ L s.heap news) (P : Tq b as tl xs ys) (S : Spl tl news ((T, tupO [.str k t1, .str u t2]) :: fr)) (has : ∀ a ∈ as, ∃ o, (a, o) ∈ news) (hT : ∀ a ∈ as, T ≠ a)
    (h : ∀ a h' tl', (∀ q ∈ tl, q ∈ tl') → Fr h₀ L h' m → News h₀ L h' (fr ++ tl') → Tq b as tl' xs ((.ref a, [(k, u)]) :: ys) → Q (.ref a) { s with heap := h' }) : wpAny (model rw.prog w) A (newList [.ref T]) Q E s := by
  have e := S.eq
  refine newList_K F N fun l h' F' N' lt => ?_
  refine h l h' ([(l, listOf [Value.ref T].toArray 0), (T, tupO [.str k t1, .str u t2])] ++ tl) (fun _ h => List.mem_append_right _ h) F' (fun q hq => N' q ?_) ((P.grow _ fun a ha q hq => ?_).put ⟨_, _, _, rfl, .head _, ?_⟩)
  · rcases List.mem_append.mp hq with hq | hq
    · exact .tail _ (by rw [e]; exact .tail _ (List.mem_append_left _ hq))
    · rcases List.mem_cons.mp hq with rfl | hq
      · exact .head _
      rcases List.mem_cons.mp hq with rfl | hq
      · exact .tail _ (by rw [e]; exact .head _)
      · exact .tail _ (by rw [e]; exact .tail _ (List.mem_append_right _ hq))
  · obtain ⟨o, ho⟩ := has a ha
    rcases List.mem_cons.mp hq with rfl | hq
    · exact Nat.ne_of_gt (lt _ ho)
    rcases List.mem_cons.mp hq with rfl | hq
    · exact hT a ha
    · exact nomatch hq
  · exact .cons (.tup (.inl (.tail _ (.head _))) (.cons (.str _ _) (.cons (.str _ _) .nil))) .nil
end
theorem split_text (φ : Ph) : Txt.split φ.text (Str.ofString " ") = φ.words := by cases φ <;> decide +kernel
theorem text_ne (φ : Ph) : φ.text ≠ Str.ofString "" := by cases φ <;> decide +kernel
theorem text_len (φ : Ph) : φ.text.length + 2 ≤ 1000 := by cases φ <;> decide +kernel
theorem words_len (φ : Ph) : φ.words.length ≤ 4 := by cases φ <;> decide
theorem wokP (φ : Ph) : WordsOk φ.text φ.words := ⟨split_text φ, text_ne φ, Nat.le_trans (text_len φ) (Nat.le_of_ble_eq_true rfl), Nat.le_trans (words_len φ) (Nat.le_of_ble_eq_true rfl)⟩

end
section
noncomputable def wl : List Ph → List (Str × Str)
  | [] => []
  | φ :: l => φ.words.map tkw ++ wl l
noncomputable abbrev dot : Str × Str := (Str.ofString "sign", Str.ofString ".")
theorem rest_wl : ∀ l, rest l = wl l ++ [dot]
  | [] => rfl
  | φ :: l => by show _ ++ rest l = _; rw [rest_wl l, ← List.append_assoc]; rfl
theorem wl_app : ∀ a b, wl (a ++ b) = wl a ++ wl b
  | [], _ => rfl
  | φ :: a, b => by show _ ++ wl (a ++ b) = _; rw [wl_app a b, ← List.append_assoc]; rfl
theorem wl_len : ∀ l, (wl l).length ≤ 4 * l.length
  | [] => Nat.le_refl _
  | φ :: l => by
    have h := wl_len l
    have h2 := words_len φ
    show (φ.words.map tkw ++ wl l).length ≤ 4 * (l.length + 1)
    rw [List.length_append, List.length_map]; omega
noncomputable def hdT (cut : Bool) : List (Str × Str) := tkw (Str.ofString "UNSTRING") :: tkw (Str.ofString "S") :: (markToks cut ++ [tkw (Str.ofString "INTO"), tkw (Str.ofString "G")])
theorem hdT_len (cut : Bool) : (hdT cut).length ≤ 10 := by cases cut <;> decide
noncomputable def posA (cut : Bool) (l : List Ph) (j : Nat) : Nat := (hdT cut ++ wl (l.take j)).length
theorem go_suf {cut : Bool} : ∀ {l : List Ph} {st st' : St} {l' : List Ph} {fl : Bool}, go cut l st = (st', l', fl) → ∃ k, l' = l.drop k ∧ k ≤ l.length
  | [], _, _, _, _, h => by cases h; exact ⟨0, rfl, Nat.le_refl _⟩
  | φ :: r, st, _, _, _, h => by
    unfold go at h
    split at h
    · cases h; exact ⟨0, rfl, Nat.zero_le _⟩
    · split at h
      · cases h; exact ⟨0, rfl, Nat.zero_le _⟩
      · obtain ⟨k, e, hk⟩ := go_suf h
        exact ⟨k + 1, e, Nat.succ_le_succ hk⟩
theorem go_at {cut : Bool} {l : List Ph} {st st' : St} {l' : List Ph} {fl : Bool} {i : Nat} (h : go cut l st = (st', l', fl)) (hi : i + l'.length = l.length) : l' = l.drop i ∧ i ≤ l.length := by
  obtain ⟨k, e, hk⟩ := go_suf h
  have : l'.length = l.length - k := by rw [e, List.length_drop]
  have : k = i := by omega
  subst this
  exact ⟨e, hk⟩
theorem all_eq {cut : Bool} {l : List Ph} (i : Nat) : hdT cut ++ wl l ++ [dot] = hdT cut ++ wl (l.take i) ++ rest (l.drop i) := by
  rw [rest_wl]
  conv => lhs; rw [← List.take_append_drop i l]
  rw [wl_app]; simp
theorem pos_eq {cut : Bool} {l : List Ph} (i : Nat) : (hdT cut ++ wl l ++ [dot]).length - (rest (l.drop i)).length = posA cut l i := by
  rw [all_eq i, List.length_append, Nat.add_sub_cancel]; rfl
theorem pos_of {cut : Bool} {l : List Ph} {i p : Nat} (h : (hdT cut ++ wl l ++ [dot]).drop p = rest (l.drop i)) : p = posA cut l i := by
  have h1 := congrArg List.length h
  have h2 := rest_len (l.drop i)
  have h3 := pos_eq (cut := cut) (l := l) i
  rw [List.length_drop] at h1
  omega
theorem e0_of (cut : Bool) (l : List Ph) : (hdT cut ++ wl l ++ [dot]).drop 0 = tkw (Str.ofString "UNSTRING") :: tkw (Str.ofString "S") :: (markToks cut ++ tkw (Str.ofString "INTO") :: tkw (Str.ofString "G") :: rest l) := by
  rw [rest_wl]; simp [hdT]
/-- the places that were told -/
noncomputable def Bg (cut : Bool) (l : List Ph) (bvs : List Value) (i : Nat) : Prop := bvs.length = i + 1 ∧ ∀ j, j ≤ i → ∃ t, bvs[j]? = some (.int (posA cut l j : Nat) t)
theorem Bg.put {cut : Bool} {l : List Ph} {bvs : List Value} {i : Nat} {t : Tok} (h : Bg cut l bvs i) : Bg cut l (bvs ++ [.int (posA cut l (i + 1) : Nat) t]) (i + 1) := by
  refine ⟨by rw [List.length_append, h.1]; rfl, fun j hj => ?_⟩
  rcases Nat.lt_or_ge i j with h1 | h1
  · obtain rfl : j = i + 1 := by omega
    refine ⟨t, ?_⟩
    rw [List.getElem?_append_right (by rw [h.1]; exact Nat.le_refl _), h.1, Nat.sub_self]; rfl
  · obtain ⟨t', e⟩ := h.2 j h1
    exact ⟨t', by rw [List.getElem?_append_left (by rw [h.1]; omega)]; exact e⟩
noncomputable def rtM (pv cv mv tv bv : Value) (op ot ow : Option Value) : Str → Option Value := fun y =>
  if y = Str.ofString "tokens" then some tv else if y = Str.ofString "what" then ow else if y = Str.ofString "text" then ot else if y = Str.ofString "place" then op
  else if y = Str.ofString "begins" then some bv else if y = Str.ofString "marks" then some mv else if y = Str.ofString "is_cut" then some cv else if y = Str.ofString "phrases" then some pv else none
theorem rtM_turn {pv cv mv tv bv : Value} {op ot ow : Option Value} {p t x tv' : Value} : (fun y => if y = Str.ofString "tokens" then some tv' else if y = Str.ofString "what" then some x else if y = Str.ofString "text" then some t else if y = Str.ofString "place" then some p else rtM pv cv mv tv bv op ot ow y) = rtM pv cv mv tv' bv (some p) (some t) (some x) := by
  funext y
  unfold rtM
  by_cases h : y ∈ [Str.ofString "tokens", Str.ofString "what", Str.ofString "text", Str.ofString "place"]
  · simp only [List.mem_cons, List.not_mem_nil, or_false] at h
    rcases h with rfl | rfl | rfl | rfl <;> rfl
  · simp only [List.mem_cons, List.not_mem_nil, or_false, not_or] at h
    obtain ⟨a1, a2, a3, a4⟩ := h
    simp only [a1, a2, a3, a4, if_false]
noncomputable abbrev tkAt (cut : Bool) (l : List Ph) (i : Nat) : List (Str × Str) := hdT cut ++ wl (l.take i)
inductive RJ (g : Heap) (cut : Bool) (l : List Ph) (pv cv mk : Value) (bg : Addr) (i : Nat) (m₁ : Str → Option Value) (news₁ : List (Addr × Obj)) : Prop
  | mk {tl tv bvs k op ot ow} (e1 : m₁ = rtM pv cv mk (.ref tv) (.ref bg) op ot ow) (e2 : news₁ = (bg, listOf bvs.toArray k) :: tl) (P : Tq g [bg] tl [(mk, markDs cut)] [(.ref tv, tkAt cut l i)]) (H : Bg cut l bvs i) : RJ g cut l pv cv mk bg i m₁ news₁
inductive RStep (g : Heap) (L : Addr) (s : Shared) (cut : Bool) (l : List Ph) (pv cv mk : Value) (bg : Addr) (i : Nat) (I : Addr) (oI : Obj) : Flow → Shared → Prop
  | next {h' tk tl tv bvs k op ot ow} : Fr g L h' (rtM pv cv mk (.ref tv) (.ref bg) op ot ow) → News g L h' ((I, oI) :: (bg, listOf bvs.toArray k) :: tl) → @Ne Nat bg I → Tq g [I, bg] tl [(mk, markDs cut)] [(.ref tv, tkAt cut l (i + 1))] → Bg cut l bvs (i + 1) →
      RStep g L s cut l pv cv mk bg i I oI .next { s with heap := h', toks := tk }
theorem right_for {w : World} {A : Around} {E : Value → Shared → Prop} {Q : Flow → Shared → Prop} {s : Shared} {env : Env} {g : Heap} {L : Addr} {target iter : Expr} {body : List Stmt} {pos : Pos} {m : Str → Option Value} {news tl : List (Addr × Obj)} {pl bg tv : Addr} {mk cv : Value} {vs : List Value} {l : List Ph} {cut : Bool} {k : Nat} {tn : Tok} {op ot ow : Option Value}
    (F : Fr g L s.heap m) (N : News g L s.heap news) (i1 : (bg, listOf [Value.int ((hdT cut).length : Nat) tn].toArray k) ∈ news) (i2 : ∀ q ∈ tl, q ∈ news) (P : Tq g [bg] tl [(mk, markDs cut)] [(.ref tv, hdT cut)]) (hm : m = rtM (.ref pl) cv mk (.ref tv) (.ref bg) op ot ow)
    (hh : A.handled = none) (hl : g.IsList pl vs.toArray) (hp : PhrsAt g vs l)
    (hit : wpAny (model rw.prog w) A (eval iter env) (fun v s₁ => v = .ref pl ∧ s₁ = s) E s)
    (hs : ∀ x, foldedSetIterable iter env x = pure x)
    (step : ∀ i (φ : Ph) a t0 t1 x9 tl tv bvs k op ot ow h₁ tk₁ I oI, IsTup h₁ a #[.int φ.place t0, .str φ.text t1, x9] → tkAt cut l (i + 1) = tkAt cut l i ++ φ.words.map tkw → i < l.length → Tq g [I, bg] tl [(mk, markDs cut)] [(.ref tv, tkAt cut l i)] → Bg cut l bvs i →
      Fr g L h₁ (rtM (.ref pl) cv mk (.ref tv) (.ref bg) op ot ow) → News g L h₁ ((I, oI) :: (bg, listOf bvs.toArray k) :: tl) → AllNe I [(bg, emD)] →
      wpAny (model rw.prog w) A (assign target env (.ref a)) (fun _ s₃ => wpAny (model rw.prog w) A (execs body env) (RStep g L s cut l (.ref pl) cv mk bg i I oI) E s₃) E { s with heap := h₁, toks := tk₁ })
    (fin : ∀ tl tv bvs k op ot ow h₁ tk₁, Tq g [bg] tl [(mk, markDs cut)] [(.ref tv, hdT cut ++ wl l)] → Bg cut l bvs l.length → Fr g L h₁ (rtM (.ref pl) cv mk (.ref tv) (.ref bg) op ot ow) → News g L h₁ ((bg, listOf bvs.toArray k) :: tl) → Q .next { s with heap := h₁, toks := tk₁ })
    (hE : PassesOwn (model rw.prog w) A env E) :
    wpAny (model rw.prog w) A (exec (.For target iter body [] pos) env) Q E s := by
  obtain ⟨hvl, hpa⟩ := hp
  have N0 : News g L s.heap ((bg, listOf [Value.int ((hdT cut).length : Nat) tn].toArray k) :: tl) := fun q hq => by
    rcases List.mem_cons.mp hq with rfl | hq
    · exact N _ i1
    · exact N _ (i2 q hq)
  refine For_base (J := RJ g cut l (.ref pl) cv mk bg) (m := m) (news := (bg, listOf [Value.int ((hdT cut).length : Nat) tn].toArray k) :: tl) hh hl (wpAny_mono hit (fun v s₁ e => ⟨e.1, ⟨s.heap, s.toks, e.2⟩, e.2 ▸ F, e.2 ▸ N0, ?_⟩) fun _ _ e => e) hs (fun i v m₁ news₁ h₁ tk₁ I oI hv J F₁ N₁ hI => ?_) (fun h' tk m' news' F' N' J => ?_) hE
  · refine .mk hm rfl (P.drop fun y hy => ?_) ⟨rfl, fun j hj => ?_⟩
    · rcases List.mem_cons.mp hy with rfl | hy
      · show (Value.ref tv, hdT cut ++ []) ∈ _
        rw [List.append_nil]; exact .head _
      · exact nomatch hy
    · obtain rfl : j = 0 := by omega
      exact ⟨tn, by show _ = some (Value.int (((hdT cut ++ []).length : Nat) : Int) tn); rw [List.append_nil]; rfl⟩
  · obtain ⟨φ, hφ, hpv⟩ := hpa i v hv
    obtain ⟨hil, hφ'⟩ := List.getElem?_eq_some_iff.mp hφ
    have ht : tkAt cut l (i + 1) = tkAt cut l i ++ φ.words.map tkw := by
      show hdT cut ++ wl (l.take (i + 1)) = hdT cut ++ wl (l.take i) ++ _
      rw [List.take_add_one, hφ, wl_app, List.append_assoc]
      show _ = hdT cut ++ (wl (l.take i) ++ _)
      simp [wl]
    cases J with
    | mk e1 e2 P' H =>
      subst e1 e2
      obtain ⟨a9, t0, t1, x9, rfl, ha9, hx9⟩ := hpv
      refine wpAny_mono (step i φ a9 t0 t1 x9 _ _ _ _ _ _ _ h₁ tk₁ I oI ⟨_, F₁.keep _ _ ha9, rfl, _, rfl⟩ ht hil ⟨fun a ha q hq => ?_, P'.rep, P'.tok⟩ H F₁ N₁ ⟨hI.1, trivial⟩) (fun _ s₃ h3 => wpAny_mono h3 (fun f s' d => ?_) fun _ _ e => e) fun _ _ e => e
      · rcases List.mem_cons.mp ha with rfl | ha
        · exact AllNe.get hI.2 hq
        · exact P'.ne a ha q hq
      · cases d with
        | next F' N' n1 P'' H' => exact .next _ _ _ _ F' N' (⟨n1, allNe_of fun q hq => P''.ne _ (.head _) q hq⟩) (.mk rfl rfl ⟨fun a ha => P''.ne a (.tail _ ha), P''.rep, P''.tok⟩ H')
  · cases J with
    | mk e1 e2 P' H =>
      subst e1 e2
      rw [hvl] at P' H
      refine fin _ _ _ _ _ _ _ h' tk (P'.drop fun y hy => ?_) H F' N'
      rcases List.mem_cons.mp hy with rfl | hy
      · show (_, hdT cut ++ wl l) ∈ [(_, hdT cut ++ wl (l.take l.length))]
        rw [List.take_length]; exact .head _
      · exact nomatch hy

end
section
mutual
theorem RepN.monoT {P P' : Addr → Obj → Prop} (h : ∀ a vs, P a (tupO vs) → P' a (tupO vs)) : ∀ {v : Value} {d : D}, RepN P v d → RepN P' v d
  | _, _, .none => .none
  | _, _, .bool b => .bool b
  | _, _, .str u t => .str u t
  | _, _, .bytes b t => .bytes b t
  | _, _, .tup a r => .tup (h _ _ a) (RepA.monoT h r)
theorem RepA.monoT {P P' : Addr → Obj → Prop} (h : ∀ a vs, P a (tupO vs) → P' a (tupO vs)) : ∀ {v : List Value} {d : List D}, RepA P v d → RepA P' v d
  | _, _, .nil => .nil
  | _, _, .cons a r => .cons (RepN.monoT h a) (RepA.monoT h r)
end
theorem rep_split {h g : Heap} {L : Addr} {m : Str → Option Value} {v : Value} {d : D} (F : Fr g L h m) (r : RepN (Hp h) v d) : ∃ lf, News g L h lf ∧ RepN (InB lf g) v d := by
  obtain ⟨l, hl, r'⟩ := r.list
  refine ⟨l.filter fun q => (g.get? q.1).isNone && (q.1 != L), fun q hq => ?_, RepN.monoT (fun a vs hm => ?_) r'⟩
  · rw [List.mem_filter, Bool.and_eq_true] at hq
    exact ⟨hl q hq.1, bne_iff_ne.mp hq.2.2, Option.isNone_iff_eq_none.mp hq.2.1⟩
  · have e1 := hl _ hm
    cases e : g.get? a with
    | some o =>
      have e2 := F.keep _ _ e
      rw [show h.get? a = some (tupO vs) from e1] at e2
      exact .inr (e.trans e2.symm)
    | none =>
      refine .inl (List.mem_filter.mpr ⟨hm, ?_⟩)
      have n : a ≠ L := fun z => by
        obtain ⟨o, es, ep, ho, hd, _⟩ := F.ns
        rw [← z, show h.get? a = some (tupO vs) from e1] at ho
        cases ho; cases hd
      simp only [e, Option.isNone_none, Bool.true_and]
      exact bne_iff_ne.mpr n
theorem PhrsAt.keep {h h' : Heap} {vs : List Value} {l : List Ph} (H : PhrsAt h vs l) (k : KeepAll h h') : PhrsAt h' vs l :=
  ⟨H.1, fun i v hv => by
    obtain ⟨φ, e, a, t0, t1, x, h0, h1, h2⟩ := H.2 i v hv
    exact ⟨φ, e, a, t0, t1, x, h0, k _ _ h1, h2.mono fun _ _ z => k _ _ z⟩⟩
theorem inB_hp {g h : Heap} {L : Addr} {m : Str → Option Value} {news tl : List (Addr × Obj)} (F : Fr g L h m) (N : News g L h news) (up : ∀ q ∈ tl, q ∈ news) : ∀ a o, InB tl g a o → Hp h a o := fun a o z => z.elim (fun q => (N _ (up _ q)).1) (F.keep a o)
theorem repA_get {P : Addr → Obj → Prop} : ∀ {vs : List Value} {ds : List D}, RepA P vs ds → ∀ (i : Nat) d, ds[i]? = some d → ∃ v, vs[i]? = some v ∧ RepN P v d
  | _, _, .nil, _, _, h => by simp at h
  | _, _, .cons (v := v) a _, 0, _, h => by cases h; exact ⟨v, rfl, a⟩
  | _, _, .cons _ r, i + 1, d, h => repA_get r i d h
section
variable {w : World} {A : Around} {h₀ : Heap} {L : Addr} {m : Str → Option Value} {news tl : List (Addr × Obj)} {s : Shared} {as : List Addr} {xs : List (Value × D)} {ys : List (Value × List (Str × Str))} {M : Nat} {Q E : Value → Shared → Prop}
theorem LCall.useK {f : Addr} {n : Nat} {args : List Value} {P : Heap → Prop} {post : Value → List (Addr × Obj) → Prop} (C : Lx w A L h₀ M) (F : Fr h₀ L s.heap m) (N : News h₀ L s.heap news) (H : LCall w P f n args post) (hP : P s.heap) (hn : n ≤ M)
    (h : ∀ v l h' tk', KeepAll s.heap h' → Fr h₀ L h' m → News h₀ L h' (l ++ news) → (∀ r ∈ news, ∀ q ∈ l, r.1 ≠ q.1) → post v l → Q v { s with heap := h', toks := tk' }) :
    wpAny (model rw.prog w) A (call (.ref f) args) Q E s := by
  obtain ⟨⟨A₀, env, outer, base, pr, loose, mean, mg, mb, hH, hA, hf, hk, B, T⟩, X, hd, hu⟩ := C
  refine H s hP _ _ _ _ _ _ _ _ _ _ _ _ _ _ _ hH hA hf hk B F X News.nil T (by omega) (by omega) fun v l h' tk' k nw hp => h v l h' tk' k (F.keeps k) (news_of F N k nw) (fun r hr q hq e => ?_) hp
  have := (N r hr).1
  rw [e, (nw q hq).2] at this; cases this
theorem due_use {fr : List (Addr × Obj)} {pl : Addr} {mk : Value} {vs : List Value} {l : List Ph} {cut : Bool} (C : Lx w A L h₀ M) (F : Fr h₀ L s.heap m) (N : News h₀ L s.heap news) (hn : 8 ≤ M) (P : Tq h₀ as tl ((mk, markDs cut) :: xs) ys) (S : Spl tl news fr) (hl : h₀.IsList pl vs.toArray) (hp : PhrsAt h₀ vs l) (hlen : l.length ≤ 1000)
    (h : ∀ r due (i : Nat) ti flag st l' h' tk' tl', go cut l st0 = (st, l', flag) → i + l'.length = l.length → Fr h₀ L h' m → News h₀ L h' ((r, tupO [due, .int i ti, .bool flag]) :: (fr ++ tl')) → Tq h₀ [] tl' ((mk, markDs cut) :: xs) ys → (flag = false → RepN (InB tl' h₀) due (dueD cut st)) → Q (.ref r) { s with heap := h', toks := tk' }) :
    wpAny (model rw.prog w) A (call (.ref 598) [.ref pl, mk]) Q E s :=
  have e := S.eq
  have up : ∀ q ∈ tl, q ∈ news := fun q hq => by rw [e]; exact List.mem_append_right _ hq
  LCall.useK C F N (due_c w s.heap pl mk vs l cut (stays_list F.keep hl) (hp.keep F.keep) ((P.rep _ (.head _)).mono (inB_hp F N up)) hlen) rfl hn fun v o h' tk' k F' N' ne hd => by
    obtain ⟨r, due, i, ti, flag, st, l', rfl, hr, hgo, hi, hrep⟩ := hd
    have hr' := N' _ (List.mem_append_left _ hr)
    have add : ∀ {ld}, News h₀ L h' ld → News h₀ L h' ((r, tupO [due, .int i ti, .bool flag]) :: (fr ++ (ld ++ tl))) := fun {ld} Nl q hq => by
      rcases List.mem_cons.mp hq with rfl | hq
      · exact hr'
      rcases List.mem_append.mp hq with hq | hq
      · exact N' q (List.mem_append_right _ (by rw [e]; exact List.mem_append_left _ hq))
      · exact (List.mem_append.mp hq).elim (Nl q) fun z => N' q (List.mem_append_right _ (up _ z))
    have P' : ∀ ld, Tq h₀ [] (ld ++ tl) ((mk, markDs cut) :: xs) ys := fun ld => Tq.grow (as := []) ⟨fun _ h => (nomatch h), P.rep, P.tok⟩ ld fun a h => (nomatch h)
    cases flag with
    | true => exact h r due i ti true st l' h' tk' ([] ++ tl) hgo hi F' (add News.nil) (P' []) fun z => nomatch z
    | false =>
      have r1 : RepN (Hp h') due (dueD cut st) := by
        refine (hrep rfl).monoT fun a vs z => z.elim (fun q => (N' _ (List.mem_append_left _ q)).1) fun q => k _ _ q
      obtain ⟨lf, Nl, r2⟩ := rep_split F' r1
      exact h r due i ti false st l' h' tk' (lf ++ tl) hgo hi F' (add Nl) (P' lf) fun _ => r2.mono (InB.mono fun _ h => List.mem_append_left _ h)
/-- the tokens' facts over a tail -/
structure TkI (w : World) (R : RD) (tl : List (Addr × Obj)) (ys : List Value) (ts : List (Str × Str)) : Prop where
  hl : (R.tl, LCg.lst ys) ∈ tl
  len : ys.length = ts.length
  tok : ∀ (i : Nat) k u, ts[i]? = some (k, u) → TokIn w tl (pk ys i) k u i
theorem lreader_use {fr : List (Addr × Obj)} {tl0 : Addr} {ts : List (Str × Str)} (C : Lx w A L h₀ M) (F : Fr h₀ L s.heap m) (N : News h₀ L s.heap news) (hn : 12 ≤ M) (P : Tq h₀ as tl xs ys) (S : Spl tl news fr) (hx : (.ref tl0, ts) ∈ ys) (hsz : ts.length < 1000)
    (h : ∀ (R : RD) t ys' h' tk' tl', Fr h₀ L h' m → News h₀ L h' ((R.x, rdX R.dx) :: (R.dx, rdD w R 0 t) :: (fr ++ tl')) → (∀ q ∈ fr ++ tl', q.1 ≠ R.x ∧ q.1 ≠ R.dx) → (∀ q ∈ tl, q ∈ tl') → TkI w R tl' ys' ts → Q (.ref R.x) { s with heap := h', toks := tk' }) :
    wpAny (model rw.prog w) A (call (.ref 579) [.ref tl0]) Q E s := by
  have e0 := S.eq
  have up : ∀ q ∈ tl, q ∈ news := fun q hq => by rw [e0]; exact List.mem_append_right _ hq
  obtain ⟨a, vs, k, e, hm, r⟩ := P.tok _ hx
  cases e
  have len : vs.length = ts.length := by rw [r.len, List.length_map]
  have r' := r.mono (inB_hp F N up)
  refine LCall.use C F N (lreader_c w tl0 vs ts len (Nat.le_trans (Nat.le_of_lt hsz) (Nat.le_of_ble_eq_true (rfl : Nat.ble 1000 sizeLine = true)))) ⟨PySem.IsL.isList (n := k) (N _ (up _ hm)).1, fun i q hq => ?_⟩ hn fun v l h' tk' F' N' ne hd => ?_
  · obtain ⟨v, hv, rn⟩ := repA_get r' i (tokD q) (by rw [List.getElem?_map, hq]; rfl)
    have e : pk vs i = v := by unfold pk; rw [hv]; rfl
    rw [e]
    cases rn with
    | tup ha ra => cases ra with | cons r1 r2 => cases r1 with | str u t => cases r2 with | cons r3 r4 => cases r3 with | str u2 t2 => cases r4 with | nil => exact ⟨_, _, _, rfl, ha⟩
  · obtain ⟨R, t, ys', l', rfl, rfl, n1, hl, ht⟩ := hd
    have mv : ∀ q ∈ fr ++ (((R.tl, LCg.lst ys') :: l') ++ tl), q ∈ (R.tl, LCg.lst ys') :: l' ∨ q ∈ news := fun q hq => by
      rcases List.mem_append.mp hq with hq | hq
      · exact .inr (by rw [e0]; exact List.mem_append_left _ hq)
      · exact (List.mem_append.mp hq).imp id (up q)
    refine h R t ys' h' tk' (((R.tl, LCg.lst ys') :: l') ++ tl) F' (fun q hq => N' q ?_) (fun q hq => ?_) (fun q hq => List.mem_append_right _ hq) ⟨.head _, hl, fun i k u e => (ht i k u e).mono fun q hq => .tail _ (List.mem_append_left _ hq)⟩
    · rcases List.mem_cons.mp hq with rfl | hq
      · exact .head _
      rcases List.mem_cons.mp hq with rfl | hq
      · exact .tail _ (.head _)
      · rcases mv q hq with hq | hq
        · exact .tail _ (.tail _ (List.mem_append_left _ hq))
        · exact List.mem_append_right _ hq
    · rcases mv q hq with hq | hq
      · exact n1 q hq
      · exact ⟨ne q hq _ (.head _), ne q hq _ (.tail _ (.head _))⟩
end
theorem short_head (cut : Bool) : ∀ q ∈ hdT cut, q.2.length ≤ 1000 := by cases cut <;> decide +kernel
theorem short_ph (φ : Ph) : ∀ q ∈ φ.words.map tkw, q.2.length ≤ 1000 := by cases φ <;> decide +kernel
theorem short_wl : ∀ (l : List Ph), ∀ q ∈ wl l, q.2.length ≤ 1000
  | [], _, h => nomatch h
  | φ :: l, q, h => (List.mem_append.mp h).elim (short_ph φ q) (short_wl l q)
theorem short_all (cut : Bool) (l : List Ph) (i : Nat) (k u : Str) (h : (hdT cut ++ wl l ++ [dot])[i]? = some (k, u)) : u.length ≤ 1000 := by
  have hm := List.mem_of_getElem? h
  rcases List.mem_append.mp hm with hm | hm
  · rcases List.mem_append.mp hm with hm | hm
    · exact short_head cut _ hm
    · exact short_wl l _ hm
  · rcases List.mem_cons.mp hm with e | hm
    · cases e; decide +kernel
    · exact nomatch hm
theorem all_len (cut : Bool) (l : List Ph) (h : l.length ≤ 50) : (hdT cut ++ wl l ++ [dot]).length < 1000 := by
  have h1 := hdT_len cut
  have h2 := wl_len l
  simp only [List.length_append, List.length_cons, List.length_nil]; omega
theorem toks_of {w : World} {h₀ h : Heap} {L : Addr} {R : RD} {ys : List Value} {tl news : List (Addr × Obj)} {cut : Bool} {l : List Ph} (N : News h₀ L h news) (up : ∀ q ∈ tl, q ∈ news) (T : TkI w R tl ys (hdT cut ++ wl l ++ [dot])) (hsz : l.length ≤ 50) : Toks w h R ys (hdT cut ++ wl l ++ [dot]) := by
  refine ⟨PySem.IsL.isList (n := ys.length) (N _ (up _ T.hl)).1, T.len, all_len cut l hsz, fun i k u e => ?_⟩
  obtain ⟨x, d, ta, a, b, c, e', f, g, y, z, h0, h1, h2, h3⟩ := T.tok i k u e
  exact ⟨x, h0, d, ta, a, b, c, e', f, g, _, y, z, (N _ (up _ h1)).1, (N _ (up _ h2)).1, (N _ (up _ h3)).1, short_all cut l i k u e⟩
/-- a token's place, its tuple in the ledger -/
theorem ta_of {w : World} {h₀ h : Heap} {L : Addr} {ys : List Value} {tl news : List (Addr × Obj)} {ts : List (Str × Str)} {i : Nat} {R : RD} (N : News h₀ L h news) (up : ∀ q ∈ tl, q ∈ news) (hi : i < ts.length) (T : TkI w R tl ys ts) :
    ∃ ta y z, TaOf w h ys i ta ∧ (ta, tupO [.int ((i : Nat) + 1) y, .int 12 z]) ∈ tl := by
  rcases hz : ts[i] with ⟨k, u⟩
  obtain ⟨x, d, ta, a, b, c, e', f, g, y, z, h0, h1, h2, h3⟩ := T.tok i k u (by rw [List.getElem?_eq_getElem hi, hz])
  exact ⟨ta, y, z, ⟨x, d, k, u, a, b, c, e', f, g, _, y, z, h0, (N _ (up _ h1)).1, (N _ (up _ h2)).1, (N _ (up _ h3)).1⟩, h3⟩

end
section
theorem un_use {w : World} {R : RD} {ys : List Value} {ts : List (Str × Str)} {t : Tok} {cut : Bool} {l0 : List Ph} {A : Around} {env : Env} {outer : List Env} {g : Heap} {L : Addr} {m : Str → Option Value} {M : Nat} {s : Shared} {rs : List (Addr × Obj)} {Q E : Value → Shared → Prop} {ta : Addr} (C : Lx w A L g M) (hfr : A.frames = some (env :: outer)) (F : Fr g L s.heap m)
    (N : News g L s.heap ((R.x, rdX R.dx) :: (R.dx, rdD w R 0 t) :: rs)) (ne : ∀ q ∈ rs, q.1 ≠ R.x ∧ q.1 ≠ R.dx) (hT : Toks w s.heap R ys ts) (e0 : ts.drop 0 = tkw (Str.ofString "UNSTRING") :: tkw (Str.ofString "S") :: (markToks cut ++ tkw (Str.ofString "INTO") :: tkw (Str.ofString "G") :: rest l0))
    (hout : (∃ ds l3, Rows1 cut l0 ds l3) ∨ (cut = false ∧ ∃ lf, RowsF1 l0 lf)) (hTa : ∀ l', cut = false → RowsF1 l0 l' → TaOf w s.heap ys (ts.length - (rest l').length) ta) (hn : 40 ≤ M)
    (hQ : ∀ ds l3 v o h' tk' (p' : Nat) t', Rows1 cut l0 ds l3 → ts.drop p' = rest (endL l3) → Fr g L h' m → News g L h' ((R.x, rdX R.dx) :: (R.dx, rdD w R p' t') :: (o ++ rs)) → RepL o v (unD cut ds l3) → Q v { s with heap := h', toks := tk' })
    (hE : (cut = false ∧ ∃ lf, RowsF1 l0 lf) → ∀ e d tw a b h' tk', Fly R s.heap (env :: outer) e d .none (faD w whatD tw ta a b) h' → E (.ref e) { s with heap := h', toks := tk' }) : wpAny (model rw.prog w) A (call (.ref 335) [.ref R.x, .ref 605]) Q E s := by
  obtain ⟨⟨A₀, env1, outer1, base, pr, loose, mean, mg, mb, hH, hA, hf, hk, B, T⟩, X, hd, hu⟩ := C
  have he := hfr.symm.trans hA
  cases he
  have N' : News g L s.heap (rdL w R ((0 : Nat) : Int) t) := fun q hq => by
    rcases List.mem_cons.mp hq with rfl | hq
    · exact N _ (.head _)
    · rcases List.mem_cons.mp hq with rfl | hq
      · exact N _ (.tail _ (.head _))
      · cases hq
  have hdx := N _ (.tail _ (.head _))
  have hL0 : L ≠ R.dx := fun e => hdx.2.1 e.symm
  have hLs : ∃ o, s.heap.get? L = some o := by obtain ⟨o, es, ep, hL, r⟩ := F.ns; exact ⟨_, hL⟩
  refine un_c w R ys ts 0 t cut l0 e0 s hT A A₀ _ _ base g L m pr loose mean mg mb Q E hH hA hf hk B F X N' T (by omega) (by omega) hout ta hTa (fun ds l3 v o h' tk' p' t' hr k nw rp e => hQ ds l3 v o h' tk' p' t' hr e ?_ (fun q hq => ?_) rp) hE
  · obtain ⟨⟨oL, es, ep, hL, r⟩, k2, ab⟩ := F
    refine ⟨⟨oL, es, ep, k.1 _ _ hL hL0, r⟩, fun b o e => k.1 _ _ (k2 b o e) fun q => ?_, ab⟩
    have := hdx.2.2
    rw [← q, e] at this; cases this
  · rcases List.mem_cons.mp hq with rfl | hq
    · have z := N _ (.head _)
      exact ⟨k.1 _ _ z.1 R.ne, z.2⟩
    rcases List.mem_cons.mp hq with rfl | hq
    · exact ⟨k.2, hdx.2⟩
    rcases List.mem_append.mp hq with hq | hq
    · have Z := nw q hq
      refine ⟨Z.1, fun e => ?_, ?_⟩
      · obtain ⟨o, ho⟩ := hLs; have := Z.2; rw [e, ho] at this; cases this
      · cases e : g.get? q.1 with
        | none => rfl
        | some o => have := F.keep _ _ e; rw [Z.2] at this; cases this
    · have z := N q (.tail _ (.tail _ hq))
      exact ⟨k.1 _ _ z.1 (ne q hq).2, z.2⟩
theorem ns_main (w : World) : nsOkIn (K w.params) mainGlobals = true := by kernel_rfl
theorem fault_name {w : World} {M : Model} {A : Around} {E : Value → Shared → Prop} {s : Shared} {h₀ : Heap} {L a : Addr} {m : Str → Option Value} {n : Str} {sc : Scope} {cd : Value} {np : Pos} {Q : Value → Shared → Prop} (F : Fr h₀ L s.heap m) (X : (K w.params).In h₀) (h : Q (.ref 72) s) (hk : sc.kind = .function) (hx : (envOf n sc L a cd).kindOf (Str.ofString "GrammarFault") = some .globalImplicit) :
    wpAny M A (eval (.Name (Str.ofString "GrammarFault") np) (envOf n sc L a cd)) Q E s :=
  ld_global_at F (.of_isNs (isNs_of_in X (ns_main w))) (mg_of X (.of_isNs (isNs_of_in X (ns_main w))) (by k_is)) h hk hx (by decide)
theorem bm72_base : bm72.contains (.type "BaseException") = true := by decide +kernel
/-- the law's own clause takes the fault -/
theorem caught_r {w : World} {R : RD} {g H : Heap} {A : Around} {name n : Str} {scope : Scope} {a L L1 e d : Addr} {cd : Value} {outer : List Env} {m : Str → Option Value} {news : List (Addr × Obj)} {fa : Obj} {s : Shared} {b₀ : Stmt} {suite : List Stmt} {pos np : Pos} {hs : List ExceptHandler} {Q : Flow → Shared → Prop} {E : Value → Shared → Prop}
    (hfr : A.frames = some (envOf name scope L a cd :: outer)) (hL1 : outer.filterMap (·.frame) = [L1]) (gL1 : ∃ o, g.get? L1 = some o ∧ ∀ vs, o.data ≠ .fields vs) (X : (K w.params).In g) (hKL : ∀ a o, (K w.params).lookup a = some o → a ≠ L1) (F : Fr g L H m) {oX oD : Obj} (N : News g L H ((R.x, oX) :: (R.dx, oD) :: news)) (nR : ∀ q ∈ news, q.1 ≠ R.x ∧ q.1 ≠ R.dx)
    (Y : Fly R H (envOf name scope L a cd :: outer) e d .none fa s.heap) (hk : scope.kind = .function) (hc : (envOf name scope L a cd).kindOf (Str.ofString "GrammarFault") = some .globalImplicit) (hl : (envOf name scope L a cd).kindOf n = some .local)
    (k : ∀ g2 h' tk oe oL E', (∀ b o, g.get? b = some o → b ≠ L1 → g2.get? b = some o) → (K w.params).In g2 → Fr g2 L h' (fun y => if y = n then some (.ref e) else m y) → News g2 L h' ((e, oe) :: (d, fa) :: (L1, oL) :: news) → (oe.cls = .ref 72 ∧ oe.dict = some d ∧ notCls oe = true) → (∀ o, H.get? L1 = some o → ∃ sl, oL = { o with slots := sl }) →
      wpAny (model rw.prog w) (A.mark (some (.ref e))) (execs (b₀ :: suite) (envOf name scope L a cd)) (fun f s₄ => wpAny (model rw.prog w) A (do bindName (envOf name scope L a cd) n .none; unbindBehindTheSuite (envOf name scope L a cd) n pos) (fun _ s₅ => Q f s₅) E s₄) E' { s with heap := h', toks := tk }) :
    wpAny (model rw.prog w) A (noteFrame (.ref e) (envOf name scope L a cd)) (fun _ s₂ => wpAny (model rw.prog w) A (setFlight (.ref e) none) (fun _ s₃ =>
        wpAny (model rw.prog w) A (handleBy (.ref e) (envOf name scope L a cd) (.ExceptHandler (some (.Name (Str.ofString "GrammarFault") np)) (some n) (b₀ :: suite) pos :: hs)) Q E s₃) E s₂) E s := by
  obtain ⟨Bh, n1, n2, n3, b1, b2, b3, HD⟩ := Y
  obtain ⟨o1, ho1, hf1⟩ := gL1
  have hLL : (envOf name scope L a cd :: outer).filterMap (·.frame) = [L, L1] := by rw [List.filterMap_cons]; show L :: outer.filterMap _ = _; rw [hL1]
  have neL : ∀ {b o}, g.get? b = some o → b ≠ L := fun h z => Nat.lt_irrefl _ (Nat.lt_of_lt_of_le (z ▸ Heap.lt_size h) F.above)
  -- the hidden base
  have gsub : ∀ b o, (hideAll g [L1]).get? b = some o → g.get? b = some o ∧ b ≠ L1 := fun b o q => ⟨of_hideAll _ q, fun z => by
    have := hideAll_none [L1] (h := g) (b := b) (by rw [z]; exact .head _)
    rw [q] at this; cases this⟩
  have gsup : ∀ b o, g.get? b = some o → b ≠ L1 → (hideAll g [L1]).get? b = some o := fun b o q n => hideAll_get _ q fun hm => by
    rcases List.mem_cons.mp hm with z | hm
    · exact n z
    · exact nomatch hm
  have stay : ∀ b o, H.get? b = some o → b ≠ R.x → b ≠ R.dx → b ≠ L → b ≠ L1 → Bh.get? b = some o := fun b o q r1 r2 r3 r4 => b1 b o q r1 r2 (by rw [hLL]; simp [r3, r4])
  have X2 : (K w.params).In (hideAll g [L1]) := fun a o q => gsup _ _ (X a o q) (hKL a o q)
  obtain ⟨oL0, es0, ep0, hL0, hd0, r0⟩ := F.ns
  have zx := N _ (.head _)
  have zd := N _ (.tail _ (.head _))
  have hF1 : H.get? L1 = some o1 := F.keep _ _ ho1
  have L1x : L1 ≠ R.x ∧ L1 ≠ R.dx := ⟨fun z => by (have := zx.2.2; rw [← z, ho1] at this; cases this), fun z => by (have := zd.2.2; rw [← z, ho1] at this; cases this)⟩
  have gx : ∀ {b o}, g.get? b = some o → b ≠ R.x ∧ b ≠ R.dx := fun h => ⟨fun z => by (have := zx.2.2; rw [← z, h] at this; cases this), fun z => by (have := zd.2.2; rw [← z, h] at this; cases this)⟩
  obtain ⟨slL, hsL⟩ := b2 L oL0 hL0 (Ne.symm zx.2.1) (Ne.symm zd.2.1) (fun vs z => by rw [hd0] at z; cases z)
  obtain ⟨sl1, hs1⟩ := b2 L1 o1 hF1 L1x.1 L1x.2 hf1
  have ndL : ∀ vs, ({ oL0 with slots := slL } : Obj).data ≠ .fields vs := fun vs z => by rw [show ({ oL0 with slots := slL } : Obj).data = oL0.data from rfl, hd0] at z; cases z
  have nd1 : ∀ vs, ({ o1 with slots := sl1 } : Obj).data ≠ .fields vs := hf1
  -- what a later heap holds
  have fr : ∀ h', Bh.StaysIn h' → s.heap.UpToSlots h' → Fr (hideAll g [L1]) L h' m := fun h' k U => by
    obtain ⟨sl, hl⟩ := U L _ hsL ndL
    refine ⟨⟨_, es0, ep0, hl, hd0, r0⟩, fun b o q => ?_, Nat.le_trans (Nat.le_of_eq (hideAll_size _ _)) F.above⟩
    obtain ⟨q1, q2⟩ := gsub b o q
    exact k _ _ (stay b o (F.keep _ _ q1) (gx q1).1 (gx q1).2 (neL q1) q2)
  have nw : ∀ h', HoldD Bh (envOf name scope L a cd :: outer) e d .none h' → s.heap.UpToSlots h' → ∃ oe oL, News (hideAll g [L1]) L h' ((e, oe) :: (d, fa) :: (L1, oL) :: news) ∧ (oe.cls = .ref 72 ∧ oe.dict = some d ∧ notCls oe = true) ∧ ∀ o, H.get? L1 = some o → ∃ sl, oL = { o with slots := sl } := fun h' HD' U => by
    obtain ⟨hkb, hen, hl, oe, vs, T, oT, ts, he, hc2, hdt, _, _, _, _, _, _⟩ := HD'
    obtain ⟨sl, hl1⟩ := U L1 _ hs1 nd1
    have gn : ∀ {b}, H.get? b = none → (hideAll g [L1]).get? b = none := fun {b} hb => by
      cases q : (hideAll g [L1]).get? b with
      | none => rfl
      | some o => have := F.keep _ _ (gsub b o q).1; rw [hb] at this; cases this
    have nL : ∀ {b}, H.get? b = none → b ≠ L := fun hb z => by rw [z, hL0] at hb; cases hb
    refine ⟨oe, { o1 with slots := sl }, fun q hq => ?_, ⟨hc2.1, hc2.2, by unfold notCls; rw [hdt]⟩, fun o ho => ⟨sl, ?_⟩⟩
    · rcases List.mem_cons.mp hq with rfl | hq
      · exact ⟨he, nL n2, gn n2⟩
      rcases List.mem_cons.mp hq with rfl | hq
      · exact ⟨hkb _ _ b3, nL n1, gn n1⟩
      rcases List.mem_cons.mp hq with rfl | hq
      · exact ⟨hl1, neL ho1, hideAll_none [L1] (.head _)⟩
      · have z := N q (.tail _ (.tail _ hq))
        have q1 : q.1 ≠ L1 := fun y => by have := z.2.2; rw [y, ho1] at this; cases this
        refine ⟨hkb _ _ (stay _ _ z.1 (nR q hq).1 (nR q hq).2 z.2.1 q1), z.2.1, ?_⟩
        cases w1 : (hideAll g [L1]).get? q.1 with
        | none => rfl
        | some o => have := (gsub _ _ w1).1; rw [z.2.2] at this; cases this
    · rw [hF1] at ho; cases ho; rfl
  refine hold_note hfr rfl HD fun h2 H2 U2 => hold_flight (s := { s with heap := h2 }) H2 fun h3 H3 U3 => ?_
  have U23 := U2.trans U3
  have F3 := fr h3 H3.1 U23
  refine wpAny_handleBy_cons (codeAny_handlers_test (fault_name F3 X2 ?_ hk hc)) (by intro q; cases q)
  obtain ⟨nm, q, bs, sub, col, dd, k0, k1, k2, k3, k5, hC⟩ := cls72 (X2.keeps F3.keep)
  obtain ⟨oe, he, hoc⟩ : ∃ oe, h3.get? e = some oe ∧ oe.cls = .ref 72 := by
    obtain ⟨_, _, _, oe, vs, T, oT, ts, he, hc2, r⟩ := H3
    exact ⟨oe, he, hc2.1⟩
  refine wpAny_excMatches_sub_self hC he hoc bm72_base (codeAny_handlers_suite_as (hold_flight (s := { s with heap := h3 }) H3 fun h4 H4 U4 => ?_))
  have U24 := U23.trans U4
  obtain ⟨oe4, oL4, N4, c1, c3⟩ := nw h4 H4 U24
  exact stN (fr h4 H4.1 U24) N4 (fun h5 F5 N5 => k _ h5 _ oe4 oL4 _ gsup X2 F5 N5 c1 c3) hk hl
theorem lx_inF {α : Type} {w : World} {g : Heap} {L : Addr} {tree : Sem α} {A : Around} {env : Env} {outer : List Env} {base : Heap} {pr : Program} {loose : List Str} {mean : ExcName → Option Value} {mg mb : Str → Option Value} {n : Nat} {q : Str} {scope : Scope} {f : Addr} {cd : Value} {Q : α → Shared → Prop} {E : Value → Shared → Prop} {s : Shared}
    (hH : A.handled = none) (hA : A.frames = some (env :: outer)) (B : Below A base (env :: outer) g) (T : Top pr loose mean mg mb g) (X : (K w.params).In g) (hd : A.depth + (n + 1) < recursionLimit) (hu : A.units + 8 * (n + 1) < cLine) (hk : scope.kind = .function)
    (h : ∀ dp fr gd un, fr = some (envOf q scope L f cd :: env :: outer) → Lx w ⟨none, dp, fr, gd, un⟩ L g n → wpAny (model rw.prog w) ⟨none, dp, fr, gd, un⟩ tree Q (fun _ _ => False) s) : wpAny (model rw.prog w) (A.deeper (envOf q scope L f cd)) tree Q E s := by
  have e : A.deeper (envOf q scope L f cd) = ⟨none, A.depth + 1, A.frames.map (envOf q scope L f cd :: ·), A.guards, A.units + 3⟩ := by
    unfold Around.deeper; rw [hH]
  have C : Lx w (A.deeper (envOf q scope L f cd)) L g n := ⟨⟨_, _, _, _, _, _, _, _, _, hH, Around.frames_deeper hA, rfl, hk, B, T⟩, X, budget_d hd, budget_u hu⟩
  rw [e] at C ⊢
  exact wpAny_mono (h _ _ _ _ (by rw [hA]; rfl) C) (fun _ _ x => x) (fun _ _ x => x.elim)
/-- the call from _law_right -/
theorem un_use2 {w : World} {R : RD} {ys : List Value} {t : Tok} {cut : Bool} {l : List Ph} {A : Around} {env : Env} {outer : List Env} {g : Heap} {L : Addr} {m : Str → Option Value} {M : Nat} {s : Shared} {fr tl rs : List (Addr × Obj)} {Q E : Value → Shared → Prop} {st : St} {l' : List Ph} {flag : Bool} {i : Nat} (C : Lx w A L g M) (hfr : A.frames = some (env :: outer)) (F : Fr g L s.heap m)
    (N : News g L s.heap ((R.x, rdX R.dx) :: (R.dx, rdD w R 0 t) :: rs)) (S : Spl tl rs fr) (ne : ∀ q ∈ fr ++ tl, q.1 ≠ R.x ∧ q.1 ≠ R.dx) (T : TkI w R tl ys (hdT cut ++ wl l ++ [dot])) (hsz : l.length ≤ 50) (hgo : go cut l st0 = (st, l', flag)) (hi : i + l'.length = l.length) (hn : 40 ≤ M)
    (hQ : ∀ v h' tk' tl' t', flag = false → (∀ q ∈ tl, q ∈ tl') → Fr g L h' m → News g L h' ((R.x, rdX R.dx) :: (R.dx, rdD w R (posA cut l i : Nat) t') :: (fr ++ tl')) → RepL tl' v (dueD cut st) → Dp 5 (dueD cut st) → Q v { s with heap := h', toks := tk' })
    (hE : ∀ e d tw ta y z a b h' tk', flag = true → (ta, tupO [.int ((posA cut l i : Nat) + 1) y, .int 12 z]) ∈ tl → Fly R s.heap (env :: outer) e d .none (faD w whatD tw ta a b) h' → E (.ref e) { s with heap := h', toks := tk' }) : wpAny (model rw.prog w) A (call (.ref 335) [.ref R.x, .ref 605]) Q E s := by
  have e := S.eq
  have up : ∀ q ∈ tl, q ∈ (R.x, rdX R.dx) :: (R.dx, rdD w R 0 t) :: rs := fun q hq => .tail _ (.tail _ (by rw [e]; exact List.mem_append_right _ hq))
  obtain ⟨e1, hil⟩ := go_at hgo hi
  have hp := pos_eq (cut := cut) (l := l) i
  have hlt : posA cut l i < (hdT cut ++ wl l ++ [dot]).length := by
    rw [all_eq i, List.length_append]
    have := rest_len (l.drop i)
    show (hdT cut ++ wl (l.take i)).length < _
    omega
  obtain ⟨ta, y, z, h1, h2⟩ := ta_of N up hlt T
  refine un_use (ta := ta) C hfr F N (by rw [e]; exact ne) (toks_of N up T hsz) (e0_of cut l) (rows1_tot cut l) (fun lf hc hf => ?_) hn (fun ds l3 v o h' tk' p' t' hr hd F' N' rp => ?_) fun hF e9 d tw a b h' tk' Y => ?_
  · subst hc
    obtain ⟨st2, e2⟩ := go_rowsF1 hf
    rw [hgo] at e2
    cases e2
    rw [e1, hp]; exact h1
  · obtain ⟨st2, e2, e3⟩ := go_rows1 hr
    rw [hgo] at e2
    cases e2
    rw [e1] at hd
    have ep := pos_of hd
    subst ep
    refine hQ v h' tk' (o ++ tl) t' rfl (fun q hq => List.mem_append_right _ hq) F' (fun q hq => N' q ?_) (e3 ▸ RepN.mono (fun _ _ h => List.mem_append_left _ h) rp) (e3 ▸ dp_un hr)
    rcases List.mem_cons.mp hq with rfl | hq
    · exact .head _
    rcases List.mem_cons.mp hq with rfl | hq
    · exact .tail _ (.head _)
    refine .tail _ (.tail _ ?_)
    rw [e]
    rcases List.mem_append.mp hq with hq | hq
    · exact List.mem_append_right _ (List.mem_append_left _ hq)
    rcases List.mem_append.mp hq with hq | hq
    · exact List.mem_append_left _ hq
    · exact List.mem_append_right _ (List.mem_append_right _ hq)
  · obtain ⟨hc, lf, hf⟩ := hF
    subst hc
    obtain ⟨st2, e2⟩ := go_rowsF1 hf
    rw [hgo] at e2
    cases e2
    exact hE e9 d tw ta y z a b h' tk' rfl h2 Y
section
variable {w : World} {A : Around} {E Q : Value → Shared → Prop} {s : Shared} {g : Heap} {L : Addr} {m : Str → Option Value} {news tl : List (Addr × Obj)}
theorem eq_due {cut : Bool} {st : St} {v due : Value} {tl1 : List (Addr × Obj)} (F : Fr g L s.heap m) (N : News g L s.heap news) (u1 : ∀ q ∈ tl, q ∈ news) (u2 : ∀ q ∈ tl1, q ∈ tl) (r1 : RepL tl v (dueD cut st)) (r2 : RepN (InB tl1 g) due (dueD cut st)) (hd : Dp 5 (dueD cut st)) (hu : A.units + 5 < cLine) (h : Q (.bool true) s) :
    wpAny (model rw.prog w) A (compareOp .Eq v due) Q E s :=
  rep_rc (fun x o z => (N _ (u1 _ z)).1) (fun x o z => z.elim (fun q => (N _ (u1 _ (u2 _ q))).1) (F.keep x o)) hd r1 r2 hu rw.prog w E Q h
theorem eq_pos {ta T : Addr} {p q : Int} {y z y' z' : Tok} (N : News g L s.heap news) (m1 : (ta, tupO [.int p y, .int q z]) ∈ news) (m2 : (T, tupO [.int p y', .int q z']) ∈ news) (hu : A.units < cLine) (h : Q (.bool true) s) :
    wpAny (model rw.prog w) A (compareOp .Eq (.ref ta) (.ref T)) Q E s := by
  refine (PySem.SeqAt.RcAt.tuples (A := A) (s := s) (items := #[.int p y, .int q z]) (items2 := #[.int p y', .int q z']) (e := fun _ => true) ⟨_, (N _ m1).1, rfl, _, rfl⟩ ⟨_, (N _ m2).1, rfl, _, rfl⟩ hu fun j h1 h2 => ?_) rw.prog w E Q h
  match j, h1 with
  | 0, _ => exact (by simpa using SeqAt.EqAt.int_int p y p y')
  | 1, _ => exact (by simpa using SeqAt.EqAt.int_int q z q z')
theorem bg_item {cut : Bool} {l : List Ph} {bvs : List Value} {i k : Nat} {bg : Addr} {u : Tok} {value slice : Expr} (N : News g L s.heap news) (m1 : (bg, listOf bvs.toArray k) ∈ news) (H : Bg cut l bvs l.length) (hi : i ≤ l.length) (hsz : l.length ≤ 50) (h : ∀ t, Q (.int (posA cut l i : Nat) t) s)
    (hs : subscripted slice false (.ref bg) (.int (i : Int) u) = operate [.ref bg, .int (i : Int) u] (getItem (.ref bg) (.int (i : Int) u)) := by with_unfolding_all rfl) :
    wpAny (model rw.prog w) A (subscriptTail value slice (.ref bg) (.int (i : Nat) u)) Q E s := by
  obtain ⟨t, e⟩ := H.2 i hi
  exact item_led N m1 (Nat.le_trans hi (Nat.le_trans hsz (by decide))) (by simpa using e) (h t) hs
end
section
open PySem Sem
variable {w : World} {A : Around} {E : Value → Shared → Prop} {e d ta : Addr} {oe : Obj} {what : Str} {tw a b : Tok} {expr : Bool}
theorem exc_at {s : Shared} {Q : Value → Shared → Prop} (X : (K w.params).In s.heap) (he : s.heap.get? e = some oe) (c1 : oe.cls = .ref 72) (c2 : oe.dict = some d) (c3 : notCls oe = true) (hd : s.heap.get? d = some (faD w what tw ta a b)) (h : Q (.ref ta) { s with toks := s.toks + 1 }) : wpAny (model rw.prog w) A (getAttr (.ref e) (Str.ofString "at") expr) Q E s := by
  obtain ⟨hh, gg, dr, tk0, os⟩ := s
  have I : InstAt hh e oe 72 (some (faD w what tw ta a b)) := ⟨he, c1, c3, by rw [c2]; exact hd⟩
  have L0 := I.type (M := model rw.prog w)
  have L1 := looks_findIn (M := model rw.prog w) (K := K w.params) (h := hh) X (t := .ref 72) (name := "__getattribute__") (by k_is)
  have L2 := looks_findIn (M := model rw.prog w) (K := K w.params) (h := hh) X (t := .ref 72) (name := "__getattr__") (by k_is)
  have L3 := looks_find (M := model rw.prog w) X I (findObj_own (name := Str.ofString "at") (by k_is) (by k_is) (by k_is) rfl)
  have f3 := PySem.F.attrBase_Exception.ga.bind (.ref e)
  have hx0 : (expr && onTheHeap (Value.builtin "BaseException.__getattribute__")) = false := by cases expr <;> rfl
  have hx2 : (Value.builtin "BaseException.__getattribute__" == Value.builtin "object.__getattribute__") = false := by decide +kernel
  have hx1 : (onTheHeap (Value.ref 72) && Value.builtin "BaseException.__getattribute__" == Value.builtin "object.__getattribute__") = false := by rw [hx2]; rfl
  obtain ⟨nm, q, bs, sub, col, dd, k0, k1, k2, k3, k5, hC⟩ := cls72 X
  unfold getAttr getAttrBy
  refine wpAny_bind (wpAny_mkText (wpAny_holding (wpAny_bind (L0.at (wpAny_bind (L1.at ?_))))))
  dsimp only
  rw [hx1, if_neg Bool.false_ne_true]
  unfold getAttrByItsOwn hookBefore
  rw [if_pos (show onTheHeap (Value.ref 72) = true from rfl)]
  refine wpAny_bind (L2.at ?_)
  unfold callGetattribute
  rw [hx0, if_neg Bool.false_ne_true]
  unfold boundAndCalled
  repeat (any_goals (first | assumption | wp_step))
  have hk : builtinKind "BaseException.__getattribute__" = some .slot := by decide +kernel
  have hsplit : splitId "BaseException.__getattribute__" = some ("BaseException", "__getattribute__") := by decide +kernel
  have hcB : (Value.ref 72 :: bm72).contains (.type "BaseException") = true := by decide +kernel
  have hb := F.args_bexc_ga (.ref e) (.str (Str.ofString "at") tk0)
  refine codeAny_call_builtin PySem.F.attrBase_Exception.ga.plain F.entry_bexc_ga ?_
  simp only [checkBuiltinCall, hk, hsplit, List.singleton_append]
  refine wpAny_bind ?_
  unfold isInstance
  repeat (first | (with_reducible refine L3.at ?_) | (with_reducible refine wpAny_loadPart_at he ?_; rw [c1]) | (with_reducible refine wpAny_isSubtype_exc hC ?_; rw [hcB]) | wp_step)
  exact h
end
theorem odd_at {w : World} {A : Around} {E Q : Value → Shared → Prop} {s : Shared} {g : Heap} {L : Addr} {m : Str → Option Value} {news : List (Addr × Obj)} {e d ta : Addr} {oe : Obj} {what : Str} {tw a b : Tok} {expr : Bool} (F : Fr g L s.heap m) (X : (K w.params).In g) (N : News g L s.heap news) (m1 : (e, oe) ∈ news) (c : oe.cls = .ref 72 ∧ oe.dict = some d ∧ notCls oe = true) (m2 : (d, faD w what tw ta a b) ∈ news) (h : Q (.ref ta) { s with toks := s.toks + 1 }) : wpAny (model rw.prog w) A (getAttr (.ref e) (Str.ofString "at") expr) Q E s :=
  exc_at (X.keeps F.keep) (N _ m1).1 c.1 c.2.1 c.2.2 (N _ m2).1 h

end
section
/-- marks, told either way -/
inductive MEnd (g : Heap) (L : Addr) (s : Shared) (m : Str → Option Value) (cut : Bool) : Value → Shared → Prop
  | mk {h' tk tl mk} : Fr g L h' m → News g L h' tl → RepN (InB tl g) mk (markDs cut) → MEnd g L s m cut mk { s with heap := h', toks := tk }
theorem wp_marks {w : World} {A : Around} {E Q : Value → Shared → Prop} {s : Shared} {g : Heap} {L : Addr} {m : Str → Option Value} {cut : Bool} {t : Sem Value} (_F : Fr g L s.heap m) (h1 : wpAny (model rw.prog w) A t (MEnd g L s m cut) E s)
    (h2 : ∀ mk h' tk tl, Fr g L h' m → News g L h' tl → Tq g [] tl [(mk, markDs cut)] [] → Q mk { s with heap := h', toks := tk }) : wpAny (model rw.prog w) A t Q E s :=
  wpAny_mono h1 (fun v s' h => by
    cases h with
    | mk F N r => exact h2 _ _ _ _ F N ⟨fun _ h => (nomatch h), List.forall_mem_cons.mpr ⟨r, fun _ h => nomatch h⟩, fun _ h => nomatch h⟩) fun _ _ x => x
noncomputable abbrev hd0 (cut : Bool) : List (Str × Str) := tkw (Str.ofString "UNSTRING") :: tkw (Str.ofString "S") :: markToks cut
theorem hd0_eq (cut : Bool) : hd0 cut ++ [Str.ofString "INTO", Str.ofString "G"].map tkw = hdT cut := by cases cut <;> rfl
/-- the tokens, with the delimiters or without -/
inductive IEnd (g : Heap) (L : Addr) (s : Shared) (m : Str → Option Value) (cut : Bool) (mk : Value) : Flow → Shared → Prop
  | mk {h' tk tl a m2} : m2 = (fun y => if y = Str.ofString "tokens" then some (Value.ref a) else m y) → Fr g L h' m2 → News g L h' tl → Tq g [] tl [(mk, markDs cut)] [(.ref a, hd0 cut)] → IEnd g L s m cut mk .next { s with heap := h', toks := tk }
theorem wp_ifcut {w : World} {A : Around} {E : Value → Shared → Prop} {Q : Flow → Shared → Prop} {s : Shared} {g : Heap} {L a0 : Addr} {m : Str → Option Value} {cut : Bool} {mk : Value} {t : Sem Flow} (_F : Fr g L s.heap (fun y => if y = Str.ofString "tokens" then some (Value.ref a0) else m y)) (h1 : wpAny (model rw.prog w) A t (IEnd g L s m cut mk) E s)
    (h2 : ∀ a h' tk tl, Fr g L h' (fun y => if y = Str.ofString "tokens" then some (Value.ref a) else m y) → News g L h' tl → Tq g [] tl [(mk, markDs cut)] [(.ref a, hd0 cut)] → Q .next { s with heap := h', toks := tk }) : wpAny (model rw.prog w) A t Q E s :=
  wpAny_mono h1 (fun v s' h => by
    cases h with
    | mk e F N P => subst e; exact h2 _ _ _ _ F N P) fun _ _ x => x
theorem two_tok {m : Str → Option Value} {a b : Value} : (fun y => if y = Str.ofString "tokens" then some a else if y = Str.ofString "tokens" then some b else m y) = (fun y => if y = Str.ofString "tokens" then some a else m y) := by
  funext y
  by_cases h : y = Str.ofString "tokens"
  · rw [if_pos h, if_pos h]
  · rw [if_neg h, if_neg h, if_neg h]
theorem Tq.as1 {b : Heap} {tl : List (Addr × Obj)} {xs : List (Value × D)} {ys : List (Value × List (Str × Str))} (P : Tq b [] tl xs ys) {a : Addr} (h : ∀ q ∈ tl, q.1 < a) : Tq b [a] tl xs ys := ⟨fun x hx q hq => (List.mem_cons.mp hx).elim (fun e => e ▸ Nat.ne_of_lt (h q hq)) (fun hx => nomatch hx), P.rep, P.tok⟩
theorem len_use {w : World} {A : Around} {E Q : Value → Shared → Prop} {s : Shared} {g b : Heap} {L a : Addr} {news tl : List (Addr × Obj)} {as : List Addr} {xs : List (Value × D)} {ys : List (Value × List (Str × Str))} {ts : List (Str × Str)} (N : News g L s.heap news) (P : Tq b as tl xs ys) (up : ∀ q ∈ tl, q ∈ news) (hx : (.ref a, ts) ∈ ys) (hz : ts.length ≤ 1000) (h : ∀ tk, Q (.int (ts.length : Nat) tk) { s with toks := s.toks + 1 + 1 }) :
    wpAny (model rw.prog w) A (call (.builtin "len") [.ref a]) Q E s := by
  obtain ⟨a', vs, k, e, hm, r⟩ := P.tok _ hx
  cases e
  have len : vs.length = ts.length := by rw [r.len, List.length_map]
  refine Calls.call_len_list (PySem.IsL.isList (n := k) (N _ (up _ hm)).1) ?_ ?_
  · simp only [List.size_toArray, len]; omega
  · simp only [List.size_toArray, len]; exact h _
theorem tok2 {g h : Heap} {L : Addr} {m : Str → Option Value} {a b : Value} (F : Fr g L h (fun y => if y = Str.ofString "tokens" then some a else if y = Str.ofString "tokens" then some b else m y)) : Fr g L h (fun y => if y = Str.ofString "tokens" then some a else m y) := two_tok ▸ F
theorem rt_start {pv cv mv tv bv : Value} : (fun y => if y = Str.ofString "begins" then some bv else if y = Str.ofString "tokens" then some tv else if y = Str.ofString "marks" then some mv else List.lookup y [(Str.ofString "phrases", pv), (Str.ofString "is_cut", cv)].reverse) = rtM pv cv mv tv bv none none none := by
  funext y
  unfold rtM
  by_cases h : y ∈ [Str.ofString "tokens", Str.ofString "what", Str.ofString "text", Str.ofString "place", Str.ofString "begins", Str.ofString "marks", Str.ofString "is_cut", Str.ofString "phrases"]
  · simp only [List.mem_cons, List.not_mem_nil, or_false] at h
    rcases h with rfl | rfl | rfl | rfl | rfl | rfl | rfl | rfl <;> rfl
  · simp only [List.mem_cons, List.not_mem_nil, or_false, not_or] at h
    obtain ⟨a1, a2, a3, a4, a5, a6, a7, a8⟩ := h
    have e : List.lookup y [(Str.ofString "phrases", pv), (Str.ofString "is_cut", cv)].reverse = none := by
      show List.lookup y [(Str.ofString "is_cut", cv), (Str.ofString "phrases", pv)] = _
      simp only [List.lookup, beq_eq_false_iff_ne.mpr a7, beq_eq_false_iff_ne.mpr a8]
    simp only [a1, a2, a3, a4, a5, a6, a7, a8, if_false, e]
/-- the end of a turn -/
theorem rt_end {g : Heap} {L : Addr} {s : Shared} {cut : Bool} {l : List Ph} {pv cv mk : Value} {tv bg I a : Addr} {oI : Obj} {i k : Nat} {h' : Heap} {tk : Nat} {bvs : List Value} {tl : List (Addr × Obj)} {ys : List (Value × List (Str × Str))} {op ot ow : Option Value} {p t x : Value} {φ : Ph} {tn : Tok}
    (F : Fr g L h' (fun y => if y = Str.ofString "tokens" then some (.ref a) else if y = Str.ofString "what" then some x else if y = Str.ofString "text" then some t else if y = Str.ofString "place" then some p else rtM pv cv mk (.ref tv) (.ref bg) op ot ow y)) (N : News g L h' ((I, oI) :: (bg, listOf (bvs.toArray.push (.int ((tkAt cut l i ++ φ.words.map tkw).length : Nat) tn)) k) :: tl))
    (ht : tkAt cut l (i + 1) = tkAt cut l i ++ φ.words.map tkw) (hI : AllNe I [(bg, emD)]) (P : Tq g [I, bg] tl [(mk, markDs cut)] ((.ref a, tkAt cut l i ++ φ.words.map tkw) :: ys)) (H : Bg cut l bvs i) : RStep g L s cut l pv cv mk bg i I oI .next { s with heap := h', toks := tk } := by
  rw [rtM_turn] at F
  rw [← ht, List.push_toArray] at N
  rw [← ht] at P
  exact .next F N hI.1 (P.drop fun y hy => by
    rcases List.mem_cons.mp hy with rfl | hy
    · exact .head _
    · exact nomatch hy) H.put
theorem at_len {cut : Bool} {l : List Ph} {i : Nat} {φ : Ph} (h : l.length ≤ 50) : (tkAt cut l i ++ φ.words.map tkw).length ≤ 1000 ∧ (tkAt cut l i).length + (φ.words.map tkw).length ≤ 1000 := by
  have h1 := hdT_len cut
  have h2 := wl_len (l.take i)
  have h3 := words_len φ
  have h4 : (l.take i).length ≤ l.length := by rw [List.length_take]; exact Nat.min_le_right _ _
  simp only [List.length_append, List.length_map]; omega
theorem fin_len {cut : Bool} {l : List Ph} (h : l.length ≤ 50) : (hdT cut ++ wl l).length + [dot].length ≤ 1000 := by
  have h1 := all_len cut l h
  rw [List.length_append] at h1
  omega

end
section
theorem row76 : True := by
  k_with "tails" => ((fail_if_success k_extra "off61"); first | with_reducible exact Spl.nil | (with_reducible apply Spl.cons; walk_at "tails"))
  k_with "has" => ((fail_if_success k_extra "off61"); first | exact List.forall_mem_nil _ | (refine List.forall_mem_cons.mpr ⟨⟨_, by k_mem⟩, ?_⟩; walk_at "has"))
  k_with "tl" => ((fail_if_success k_extra "off61"); first | with_reducible exact Tl.nil | (with_reducible apply Tl.cons; walk_at "tl"))
  k_with "k_all" => ((fail_if_success k_extra "off61"); first | exact hP.ne _ (by k_mem) | fail "deep")
  k_with "brep" => ((fail_if_success k_extra "off61"); first | exact RepN.none | exact RepN.bool _ | exact RepN.str _ _ | exact RepN.bytes _ _ | exact RepA.nil | (refine RepA.cons ?_ ?_ <;> walk_at "brep") | (refine' RepN.tup (Or.inl ?n1) ?_; (case n1 => k_mem); walk_at "brep") | fail "brep")
  k_with "eval IfExp" => ((fail_if_success k_extra "off61"); k_dflt (refine' wp_marks (cut := cut) F' ?wm1 ?wm2; (case' wm1 => (cases cut)); (case' wm2 => (clear F' N'; intro mk9 h9 tk9 tl9 F9 N9 hP; (try dsimp only); (try k_fold)))))
  k_with "exec If" => ((fail_if_success k_extra "off61"); k_dflt ((with_reducible show wpAny _ _ (exec (Stmt.If (Expr.Name _ _) _ _ _) _) _ _ _); refine' wp_ifcut (cut := cut) (mk := mk9) F9 ?wi1 ?wi2; (case' wi1 => (cases cut)); (case' wi2 => (clear F9 N9 hP; intro a9 h9 tk9 tl9 F9 N9 hP; (try dsimp only); (try k_fold)))))
  k_with "call ref" => ((fail_if_success k_extra "off61"); k_dflt ((with_reducible show wpAny _ _ (call (Value.ref 574) _) _ _ _); (rename Fr _ _ _ _ => F9); (rename News _ _ _ _ => N9); (first
  | ((with_reducible show wpAny _ _ (call _ [Value.str (Str.ofString "UNSTRING S") _]) _ _ _); refine' words_use hC F9 N9 ?wn hP ?wS ?wh wok1 ?_)
  | ((with_reducible show wpAny _ _ (call _ [Value.str (Str.ofString "DELIMITED BY") _]) _ _ _); refine' words_use hC F9 N9 ?wn hP ?wS ?wh wok2 ?_)
  | ((with_reducible show wpAny _ _ (call _ [Value.str (Str.ofString "OR ALL SPACE") _]) _ _ _); refine' words_use hC F9 N9 ?wn hP ?wS ?wh wok3 ?_)
  | ((with_reducible show wpAny _ _ (call _ [Value.str (Str.ofString "INTO G") _]) _ _ _); refine' words_use hC F9 N9 ?wn hP ?wS ?wh wok4 ?_)
  | ((with_reducible show wpAny _ _ (call _ [Value.str (Ph.text _) _]) _ _ _); refine' words_use hC F9 N9 ?wn hP ?wS ?wh (wokP φ9) ?_)); (case wn => exact Nat.le_of_ble_eq_true rfl); (case wS => walk_at "tails"); (case wh => walk_at "has"); clear F9 N9 hP; intro a9 h9 tk9 tl9 F9 N9 hP; (simp only [List.cons_append, List.nil_append] at N9); (try dsimp only); (try k_fold)))
  k_with "binaryOp Add ref ref" => ((fail_if_success k_extra "off61"); k_dflt ((rename Fr _ _ _ _ => F9); (rename News _ _ _ _ => N9); refine' add_use F9 N9 hP ?wS ?wh ?wx ?wy ?wz ?_; (case wS => walk_at "tails"); (case wh => walk_at "has"); (case wx => k_mem); (case wy => k_mem); (case wz => first | exact Nat.le_of_ble_eq_true rfl | exact (at_len hlen).2 | exact fin_len hlen | (exact Nat.le_trans (Nat.add_le_add_right (hd0_len cut) _) (Nat.le_of_ble_eq_true rfl))); clear F9 N9 hP; intro a9 h9 tl9 hs9 F9 N9 hP; (try (replace hdue := fun z => (hdue z).mono (InB.mono hs9))); clear hs9; (simp only [List.cons_append, List.nil_append] at N9); (try dsimp only); (try k_fold)))
  k_with "newList" => ((fail_if_success k_extra "off61"); k_dflt ((rename Fr _ _ _ _ => F9); (rename News _ _ _ _ => N9); first
  | ((with_reducible show wpAny _ _ (newList [Value.ref _]) _ _ _); refine' pair_use F9 N9 hP ?wS ?wh ?wT ?_; (case wS => walk_at "tails"); (case wh => walk_at "has"); (case wT => first | exact List.forall_mem_nil _ | exact fun _ h => nomatch h); clear F9 N9 hP; intro a9 h9 tl9 hs9 F9 N9 hP; (try (replace hdue := fun z => (hdue z).mono (InB.mono hs9))); clear hs9; (simp only [List.cons_append, List.nil_append] at N9); (try dsimp only); (try k_fold))
  | ((with_reducible show wpAny _ _ (newList [Value.int _ _]) _ _ _); refine' newList_K F9 N9 ?_ ?wz; (case wz => exact Nat.le_of_ble_eq_true rfl); clear F9 N9; intro bg9 h9 F9 N9 l1; (replace hP := Tq.as1 hP l1); clear l1; (try dsimp only); (try k_fold))))
  k_with "storeName" => ((fail_if_success k_extra "off61"); k_dflt ((rename Fr _ _ _ _ => F9); (rename News _ _ _ _ => N9); refine' storeX_L ?wF ?wN ?_ ?za9 ?zb9; (case wF => k_asm); (case wN => k_asm); (case za9 => rfl); (case zb9 => rfl); k_whole; clear F9 N9; intro h9 F9 N9; (try (replace F9 := tok2 F9)); (try dsimp only); (try k_fold)))
  k_with "newTuple" => ((fail_if_success k_extra "off61"); k_dflt ((rename Fr _ _ _ _ => F9); (rename News _ _ _ _ => N9); refine' kup_newTuple ?wF ?wN ?_ ?wz; (case wF => k_asm); (case wN => k_asm); (case wz => exact Nat.le_of_ble_eq_true rfl); clear F9 N9; intro D9 h9 F9 N9 l1; (try dsimp only); (try k_fold)))
  k_with "call builtin:len" => ((fail_if_success k_extra "off61"); k_dflt ((rename Fr _ _ _ _ => F9); (rename News _ _ _ _ => N9); refine' len_use N9 hP (Tl.mem (by walk_at "tl")) ?wx ?wz ?_; (case wx => k_mem); (case wz => first | exact Nat.le_of_ble_eq_true rfl | exact (at_len hlen).1 | exact hd_len cut); intro t9; (try dsimp only); (try k_fold)))
  k_with "exec For" => ((fail_if_success k_extra "off61"); k_dflt ((rename Fr _ _ _ _ => F9); (rename News _ _ _ _ => N9); refine' right_for (mk := mk9) (l := l) (cut := cut) (vs := vs) F9 N9 ?wa (Tl.mem (by walk_at "tl")) (Tq.drop hP (List.forall_mem_cons.mpr ⟨List.Mem.head _, List.forall_mem_nil _⟩)) rt_start rfl hlb hpb ?wb ?wc ?wd ?we ?wf; (case wa => exact List.Mem.head _); (case wb => exact nameX_L F9 rfl ⟨rfl, rfl⟩); (case wc => intro _; rfl); (case wf => exact PassesOwn.never); (case' wd => (clear F9 N9 hP; intro i9 φ9 p9 t0 t1 x9 tl9 tv9 bvs9 k9 op ot ow h9 tk9 I9 oI9 hT9 ht9 hil hP hB F9 N9 n3)); (case' we => (clear F9 N9 hP; intro tl9 tv9 bvs9 k9 op ot ow h9 tk9 hP hB F9 N9)); all_goals ((try dsimp only); (try k_fold))))
  k_with "call builtin:list.append" => ((fail_if_success k_extra "off61"); k_dflt ((show wpAny _ _ (call (Value.builtin _) [Value.ref _, _]) _ _ _); (rename Fr _ _ _ _ => F9); (rename News _ _ _ _ => N9); (refine' append_K F9 N9 ?wu ?_ ?wz; (case wu => k_upd); (case wz => exact bg_size hB hil hlen)); clear F9 N9; intro h9 F9 N9; (try dsimp only); (try k_fold)))
  k_with "call ref" => ((fail_if_success k_extra "off61"); k_dflt ((with_reducible show wpAny _ _ (call (Value.ref 598) _) _ _ _); (rename Fr _ _ _ _ => F9); (rename News _ _ _ _ => N9); refine' due_use hC F9 N9 ?wn hP ?wS hlb hpb ?wl ?_; (case wn => exact Nat.le_of_ble_eq_true rfl); (case wS => walk_at "tails"); (case wl => exact Nat.le_trans hlen (Nat.le_of_ble_eq_true rfl)); clear F9 N9 hP; intro r9 due9 i9 ti9 fl9 st9 l9 h9 tk9 tl9 hgo hi9 F9 N9 hP hdue; (simp only [List.cons_append, List.nil_append] at N9); (try dsimp only); (try k_fold)))
  k_with "call ref" => ((fail_if_success k_extra "off61"); k_dflt ((with_reducible show wpAny _ _ (call (Value.ref 579) _) _ _ _); (rename Fr _ _ _ _ => F9); (rename News _ _ _ _ => N9); refine' lreader_use hC F9 N9 ?wn hP ?wS ?wx (all_len cut l hlen) ?_; (case wn => exact Nat.le_of_ble_eq_true rfl); (case wS => walk_at "tails"); (case wx => k_mem); clear F9 N9 hP; intro R9 tt9 ys9 h9 tk9 tlr F9 N9 ne9 hsub9 hTk; (simp only [List.cons_append, List.nil_append] at N9); (try dsimp only); (try k_fold)))
  k_with "call ref" => ((fail_if_success k_extra "off61"); k_dflt ((with_reducible show wpAny _ _ (call (Value.ref 335) _) _ _ _); (rename Fr _ _ _ _ => F9); (rename News _ _ _ _ => N9); refine' un_use2 hC hfr F9 N9 ?wS ne9 hTk hlen hgo hi9 ?wn ?yq ?ye; (case wn => exact Nat.le_of_ble_eq_true rfl); (case wS => walk_at "tails"); (case' yq => (clear F9 N9; intro v9 h9 tk9 tlu tu9 hfl hsub8 F9 N9 hrp hdp; subst hfl; (simp only [List.cons_append, List.nil_append] at N9))); (case' ye => (intro e9 d9 tw9 ta9 y9 z9 a9 b9 h8 tk8 hfl hta9 hY; subst hfl; refine' caught_r hfr hL1 hgL X' hKL F9 N9 ne9 hY rfl rfl rfl ?_; have kp9 := F9.keep; clear F9 N9; intro g2 h9 tk9 oe9 oL9 E9 hs2 X2 F9 N9 hc9 hL8; have hL9 := fun o ho => hL8 o (kp9 _ _ (hg' _ o ho)); clear hL8 kp9)); all_goals ((try dsimp only); (try k_fold))))
  k_with "subscriptTail Name Name ref int" => ((fail_if_success k_extra "off61"); k_dflt ((rename Fr _ _ _ _ => F9); (rename News _ _ _ _ => N9); refine' bg_item N9 ?wm hB (Nat.le.intro hi9) hlen ?_ ?ws; (case wm => k_mem); (case ws => with_unfolding_all rfl); intro t9; (try dsimp only); (try k_fold)))
  k_with "getAttr ref" => ((fail_if_success k_extra "off61"); k_dflt ((rename Fr _ _ _ _ => F9); (rename News _ _ _ _ => N9); refine' odd_at F9 X2 N9 ?vm hc9 ?vd ?_; (case vm => k_mem); (case vd => k_mem); (try dsimp only); (try k_fold)))
  k_with "compareOp Eq" => ((fail_if_success k_extra "off61"); k_dflt ((rename Fr _ _ _ _ => F9); (rename News _ _ _ _ => N9); first | (refine' eq_pos N9 (Tl.mem (by walk_at "tl") _ hta9) ?wm ?wu ?_; (case wm => k_mem); (case wu => exact Nat.lt_of_le_of_lt (Nat.le_add_right _ _) hC.u)) | (refine' eq_due (tl := tlu) F9 N9 (Tl.mem (by walk_at "tl")) (fun q hq => hsub8 q (hsub9 q hq)) hrp (hdue rfl) hdp ?wu ?_; (case wu => exact Nat.lt_of_le_of_lt (Nat.add_le_add_left (Nat.le_of_ble_eq_true rfl) _) hC.u)) | fail "eq"))
  trivial
theorem bg_size {cut : Bool} {l : List Ph} {bvs : List Value} {i : Nat} (H : Bg cut l bvs i) (hi : i < l.length) (hlen : l.length ≤ 50) : bvs.toArray.size ≤ sizeLine := Nat.le_trans (by rw [List.size_toArray, H.1]; omega) (Nat.le_of_ble_eq_true (rfl : Nat.ble 51 sizeLine = true))
theorem hd0_len (cut : Bool) : (hd0 cut).length ≤ 8 := by cases cut <;> decide
theorem hd_len (cut : Bool) : (hd0 cut ++ [Str.ofString "INTO", Str.ofString "G"].map tkw).length ≤ 1000 := by cases cut <;> decide
theorem right_c (w : World) (pl : Addr) (vs : List Value) (l : List Ph) (cut : Bool) (hlen : l.length ≤ 50) (s : Shared) (hl : s.heap.IsList pl vs.toArray) (hp : PhrsAt s.heap vs l) (A A₀ : Around) (env : Env) (outer : List Env) (base h₀ : Heap) (L : Addr) (m : Str → Option Value) (pr : Program) (loose : List Str) (mean : ExcName → Option Value) (mg mb : Str → Option Value) (Q E : Value → Shared → Prop)
    (hH : A.handled = none) (hA : A.frames = some (env :: outer)) (hf : env.frame = some L) (hk : env.scope.kind = .function)
    (B : Below A₀ base outer h₀) (F : Fr h₀ L s.heap m) (X : (K w.params).In h₀) (T : Top pr loose mean mg mb h₀) (hd : A.depth + 45 < recursionLimit) (hu : A.units + 8 * 45 < cLine) (ho : outer.filterMap (·.frame) = []) (hKL : ∀ a o, (K w.params).lookup a = some o → a ≠ L)
    (hQ : ∀ h' tk', (∀ b o, s.heap.get? b = some o → b ≠ L → h'.get? b = some o) → (∀ o, s.heap.get? L = some o → ∃ sl, h'.get? L = some { o with slots := sl }) → Q (.bool true) { s with heap := h', toks := tk' }) :
    wpAny (model rw.prog w) A (call (.ref 612) [.ref pl, .bool cut]) Q E s := by
  have N : News h₀ L s.heap [] := News.nil
  w_on
  w_top on
  refine' enter [(Str.ofString "phrases", .ref pl), (Str.ofString "is_cut", .bool cut)] ?k1 ?k2 ?k3 ?k4 ?k5 ?kA ?kF ?kK ?k6 ?k7 ?k8 ?k9 ?kB ?_ ?c2 ?c3 ?c4 ?c5
  walk_at "my_enter"
  intro g L' h' tk₁ hg F' N' B' X' T' l1
  have hg' : KeepAll s.heap g := fun b o e => hg b o e (fun z => nomatch z)
  have hgL : ∃ o, g.get? L = some o ∧ ∀ vs, o.data ≠ .fields vs := by
    obtain ⟨o, es, ep, hoL, hdL, _⟩ := F.ns
    exact ⟨o, hg' _ _ hoL, fun vs z => by rw [hdL] at z; cases z⟩
  have hlb : g.IsList pl vs.toArray := stays_list hg' hl
  have hpb : PhrsAt g vs l := hp.keep hg'
  have hd1 : A.depth + (44 + 1) < recursionLimit := hd
  have hu1 : A.units + 8 * (44 + 1) < cLine := hu
  have hL1 : (env :: outer).filterMap (·.frame) = [L] := by rw [List.filterMap_cons, hf, ho]
  clear F N B X T l1 hl hp
  refine lx_inF hH hA B' T' X' hd1 hu1 rfl ?_
  clear B' hd hu hA hf hk hH hd1 hu1 ho
  intro dp fr gd un hfr hC
  try dsimp only
  try k_fold
  k_steps
  all_goals first
    | exact hQ _ _ (fun b o e n => Fr.keep (by assumption) _ _ (hs2 _ _ (hg' _ _ e) n)) (fun o e => by
        obtain ⟨sl, e2⟩ := hL9 o e
        exact ⟨sl, e2 ▸ News.get (by assumption) (by k_mem)⟩)
    | (rw [beq_self_eq_true]; exact hQ _ _ (fun b o e _ => F9.keep _ _ (hg' _ _ e)) fun o e => ⟨o.slots, F9.keep _ _ (hg' _ _ e)⟩)
    | exact rt_end F9 N9 ht9 n3 hP hB
    | exact IEnd.mk rfl F9 N9 hP
    | exact IEnd.mk rfl F9 N9 (Tq.drop hP (List.forall_mem_cons.mpr ⟨List.Mem.head _, List.forall_mem_nil _⟩))
    | (refine MEnd.mk F9 N9 ?_; unfold markDs; (try unfold marksD); walk_at "brep")
    | skip

end
theorem off61 : True := by
  k_with "off61" => skip
  trivial
section
/-- the phrases' tuples in the ledger -/
inductive PhrsIn (l : List (Addr × Obj)) : List Value → List Ph → Prop
  | nil : PhrsIn l [] []
  | cons {a : Addr} {t0 t1 : Tok} {x : Value} {vs : List Value} {φ : Ph} {φs : List Ph} : (a, tupO [.int φ.place t0, .str φ.text t1, x]) ∈ l → RepN (fun a o => (a, o) ∈ l) x φ.d → PhrsIn l vs φs → PhrsIn l (.ref a :: vs) (φ :: φs)
theorem PhrsIn.len {l : List (Addr × Obj)} {vs : List Value} {φs : List Ph} (h : PhrsIn l vs φs) : vs.length = φs.length := by
  induction h with
  | nil => rfl
  | cons _ _ _ ih => simp [ih]
theorem PhrsIn.get {l : List (Addr × Obj)} {vs : List Value} {φs : List Ph} (h : PhrsIn l vs φs) : ∀ (i : Nat) (φ : Ph), φs[i]? = some φ → ∃ v a t0 t1 x, vs[i]? = some v ∧ v = .ref a ∧ (a, tupO [.int φ.place t0, .str φ.text t1, x]) ∈ l ∧ RepN (fun a o => (a, o) ∈ l) x φ.d := by
  induction h with
  | nil => intro i φ e; simp at e
  | cons h1 h2 _ ih =>
    intro i φ e
    cases i with
    | zero => cases e; exact ⟨_, _, _, _, _, rfl, rfl, h1, h2⟩
    | succ i => exact ih i φ e
theorem PhrsIn.mono {l l' : List (Addr × Obj)} {vs : List Value} {φs : List Ph} (h : PhrsIn l vs φs) (s : ∀ q ∈ l, q ∈ l') : PhrsIn l' vs φs := by
  induction h with
  | nil => exact .nil
  | cons h1 h2 _ ih => exact .cons (s _ h1) (h2.mono fun _ _ z => s _ z) ih
theorem row77 : True := by
  k_with "prep" => ((fail_if_success k_extra "off62"); first | exact RepN.none | exact RepN.bool _ | exact RepN.str _ _ | exact RepN.bytes _ _ | exact RepA.nil | (refine RepA.cons ?_ ?_ <;> walk_at "prep") | (refine' RepN.tup ?n1 ?_; (case n1 => k_mem); walk_at "prep") | fail "prep")
  k_with "phrs" => ((fail_if_success k_extra "off62"); first | exact PhrsIn.nil | (refine' PhrsIn.cons ?n1 ?n2 ?_; (case n1 => k_mem); (case n2 => (try unfold Ph.d); (first | exact RepN.str _ _ | (try unfold ovD); (try unfold notD); walk_at "prep")); walk_at "phrs") | fail "phrs")
  k_with "newList" => ((fail_if_success k_extra "off62"); k_dflt (refine' newList_K ?wF ?wN ?_ ?wz; (case wF => k_asm); (case wN => k_asm); (case wz => exact Nat.le_of_ble_eq_true rfl); intro l9 h9 F9 N9 l1; (try dsimp only); (try k_fold)))
  k_with "newTuple" => ((fail_if_success k_extra "off62"); k_dflt (refine' kup_newTuple ?wF ?wN ?_ ?wz; (case wF => k_asm); (case wN => k_asm); (case wz => exact Nat.le_of_ble_eq_true rfl); intro D9 h9 F9 N9 _; (try clear F N); (try dsimp only); (try k_fold)))
  trivial
/-- a written tuple of a number and two texts -/
theorem lit3 {w : World} {A : Around} {E Q : Value → Shared → Prop} {env : Env} {h₀ h : Heap} {L : Addr} {m : Str → Option Value} {news : List (Addr × Obj)} {ge : Array GenState} {dr : Drawn} {tk : Nat} {os : OsState} {n : Int} {a b : Str} {k0 k1 k2 kk p0 p1 p2 pos} (F : Fr h₀ L h m) (N : News h₀ L h news)
    (hq : ∀ D t0 t1 t2 h' tk', Fr h₀ L h' m → News h₀ L h' ((D, tupO [.int n t0, .str a t1, .str b t2]) :: news) → Q (.ref D) ⟨h', ge, dr, tk', os⟩) :
    wpAny (model rw.prog w) A (eval (.Tuple [.Constant (.int n) k0 p0, .Constant (.str a) k1 p1, .Constant (.str b) k2 p2] kk pos) env) Q E ⟨h, ge, dr, tk, os⟩ := by
  w_on
  k_steps
  all_goals exact hq _ _ _ _ _ _ (by assumption) (by assumption)
theorem row78 : True := by
  k_with "eval Tuple cons" => ((fail_if_success k_extra "off62"); k_dflt ((with_reducible show wpAny _ _ (eval (Expr.Tuple [Expr.Constant (Const.int _) _ _, Expr.Constant (Const.str _) _ _, Expr.Constant (Const.str _) _ _] _ _) _) _ _ _); refine' lit3 (h := _) ?wF ?wN ?_; (case wF => k_asm); (case wN => k_asm); intro D9 t09 t19 t29 h9 tk9 F9 N9; (try clear F N); (try dsimp only); (try k_fold)))
  trivial
theorem phrases_c (w : World) : LCall w (fun _ => True) 593 3 [] fun v l => ∃ a vs k, v = .ref a ∧ (a, listOf vs.toArray k) ∈ l ∧ PhrsIn l vs Ph.all := by
  walk_at "l_open"
  refine' enter [] ?k1 ?k2 ?k3 ?k4 ?k5 ?kA ?kF ?kK ?k6 ?k7 ?k8 ?k9 ?kB ?_ ?c2 ?c3 ?c4 ?c5
  walk_at "my_enter"
  walk_at "l_in"
  k_steps
  all_goals refine hR _ _ _ _ (end_L hg F9) (fun q hq => new_L hg N9 hq) ⟨l9, _, _, rfl, .head _, ?_⟩
  all_goals (unfold Ph.all; walk_at "phrs")

end
theorem off62 : True := by
  k_with "off62" => skip
  trivial
section
/-- the cells of a pen -/
noncomputable def Cells (ns : List Int) : Prop := ns.length ≤ 30 ∧ ∀ n ∈ ns, 0 ≤ n ∧ n < 2 * 10 ^ 40
noncomputable abbrev penO (cs : Addr) (turn : Nat) (rest : Int) (t1 t2 : Tok) (k : Nat) : Obj := listOf #[.ref cs, .int turn t1, .int rest t2] k
theorem bits_of {a : Int} {n : Nat} (h0 : 0 ≤ a) (h : a < 2 ^ n) : Builtin.Int.intBits a ≤ n + 1 := by
  unfold Builtin.Int.intBits
  split
  · exact Nat.zero_le _
  · rename_i hne
    have hne' : a.natAbs ≠ 0 := fun z => hne (by simp [Int.natAbs_eq_zero.mp z])
    have : a.natAbs < 2 ^ n := by
      have e := Int.natAbs_of_nonneg h0
      have : ((a.natAbs : Nat) : Int) < ((2 ^ n : Nat) : Int) := by rw [e]; simpa using h
      exact Int.ofNat_lt.mp this
    exact Nat.succ_le_succ (Nat.le_of_lt ((Nat.log2_lt hne').mpr this))
section
variable {w : World} {A : Around} {E : Value → Shared → Prop} {s : Shared} {g : Heap} {L : Addr} {m : Str → Option Value} {news : List (Addr × Obj)} {cs : Addr} {cvs : List Value} {ns : List Int}
theorem cell_item {Q : Value → Shared → Prop} {value slice : Expr} {i : Nat} {u : Tok} (F : Fr g L s.heap m) (hl : g.IsList cs cvs.toArray) (hi : IntsAre cvs ns) (hc : Cells ns) (hlt : ((i : Nat) : Int) < ((cvs.length : Nat) : Int)) (h : ∀ c t, 0 ≤ c → c < 2 * 10 ^ 40 → Q (.int c t) s)
    (hs : subscripted slice false (.ref cs) (.int (i : Int) u) = operate [.ref cs, .int (i : Int) u] (getItem (.ref cs) (.int (i : Int) u)) := by with_unfolding_all rfl) :
    wpAny (model rw.prog w) A (subscriptTail value slice (.ref cs) (.int (i : Nat) u)) Q E s := by
  have hL := stays_list F.keep hl
  have len := hi.length
  have hi' : i < ns.length := by omega
  obtain ⟨t, e⟩ := hi.get i ns[i] (List.getElem?_eq_getElem hi')
  have hn := hc.2 _ (List.getElem_mem hi')
  have h30 := hc.1
  refine tail_any hL.typeIs slot_list_getitem.lookup (wpAny_getItem_list (x := .int ns[i] t) hL (by omega) (by omega) ?_ (h _ _ hn.1 hn.2)) hs
  simpa using e
theorem it0 {Q : Value → Shared → Prop} {value slice : Expr} {pn : Addr} {x y z : Value} {k : Nat} {u : Tok} (N : News g L s.heap news) (hm : (pn, listOf #[x, y, z] k) ∈ news) (h : Q x s) (hs : subscripted slice false (.ref pn) (.int 0 u) = operate [.ref pn, .int 0 u] (getItem (.ref pn) (.int 0 u)) := by with_unfolding_all rfl) : wpAny (model rw.prog w) A (subscriptTail value slice (.ref pn) (.int 0 u)) Q E s :=
  item_led (k := 0) N hm (by decide) rfl h hs
theorem it1 {Q : Value → Shared → Prop} {value slice : Expr} {pn : Addr} {x y z : Value} {k : Nat} {u : Tok} (N : News g L s.heap news) (hm : (pn, listOf #[x, y, z] k) ∈ news) (h : Q y s) (hs : subscripted slice false (.ref pn) (.int 1 u) = operate [.ref pn, .int 1 u] (getItem (.ref pn) (.int 1 u)) := by with_unfolding_all rfl) : wpAny (model rw.prog w) A (subscriptTail value slice (.ref pn) (.int 1 u)) Q E s :=
  item_led (k := 1) N hm (by decide) rfl h hs
theorem it2 {Q : Value → Shared → Prop} {value slice : Expr} {pn : Addr} {x y z : Value} {k : Nat} {u : Tok} (N : News g L s.heap news) (hm : (pn, listOf #[x, y, z] k) ∈ news) (h : Q z s) (hs : subscripted slice false (.ref pn) (.int 2 u) = operate [.ref pn, .int 2 u] (getItem (.ref pn) (.int 2 u)) := by with_unfolding_all rfl) : wpAny (model rw.prog w) A (subscriptTail value slice (.ref pn) (.int 2 u)) Q E s :=
  item_led (k := 2) N hm (by decide) rfl h hs
theorem len_base {Q : Value → Shared → Prop} (F : Fr g L s.heap m) (hl : g.IsList cs cvs.toArray) (hz : cvs.length ≤ 1000) (h : ∀ tk, Q (.int (cvs.length : Nat) tk) { s with toks := s.toks + 1 + 1 }) : wpAny (model rw.prog w) A (call (.builtin "len") [.ref cs]) Q E s :=
  Calls.call_len_list (stays_list F.keep hl) (by simp only [List.size_toArray]; omega) (by simp only [List.size_toArray]; exact h _)
theorem pow_base {Q : Value → Shared → Prop} {a : Int} {t u : Tok} (h0 : 0 ≤ a) (h1 : a < 2 ^ 200) (h : ∀ tk, Q (.int (a ^ 7) s.toks) { s with toks := tk }) : wpAny (model rw.prog w) A (binaryOp .Pow (.int a t) (.int 7 u)) Q E s := by
  refine pow_int (by decide) ?_ (h _)
  have := bits_of h0 h1
  omega
end
theorem big_small {c : Int} {turn : Nat} (h0 : 0 ≤ c) (h1 : c < 2 * 10 ^ 40) (ht : turn ≤ 1000) : 0 ≤ c + 2 * (turn : Int) + 5 ∧ c + 2 * (turn : Int) + 5 < 2 ^ 200 := by
  have : (2 * 10 ^ 40 + 2005 : Int) < 2 ^ 200 := by decide
  omega
theorem pow_pos {a b : Int} (h : 0 ≤ a) : 0 ≤ a ^ 7 + b.fmod 1000003 := Int.add_nonneg (Int.pow_nonneg h) (by rw [Int.fmod_eq_emod_of_nonneg _ (by decide)]; exact Int.emod_nonneg _ (by decide))
theorem dig_ok {a many : Int} (h : 0 < many) : 0 ≤ a.fmod many ∧ a.fmod many < many := by
  rw [Int.fmod_eq_emod_of_nonneg _ (Int.le_of_lt h)]
  exact ⟨Int.emod_nonneg _ (Int.ne_of_gt h), Int.emod_lt_of_pos _ h⟩
theorem rest_ok {a many : Int} (h0 : 0 ≤ a) (h : 0 < many) : 0 ≤ a.fdiv many := by
  rw [Int.fdiv_eq_ediv_of_nonneg _ (Int.le_of_lt h)]
  exact Int.ediv_nonneg h0 (Int.le_of_lt h)
theorem row79 : True := by
  k_with "subscriptTail" => ((fail_if_success k_extra "off63"); k_dflt ((rename Fr _ _ _ _ => F9); (rename News _ _ _ _ => N9); first
  | ((with_reducible show wpAny _ _ (subscriptTail _ _ (Value.ref _) (Value.int 0 _)) _ _ _); refine' it0 N9 ?vm ?_ ?vs; (case vm => k_mem); (case vs => with_unfolding_all rfl); (try dsimp only); (try k_fold))
  | ((with_reducible show wpAny _ _ (subscriptTail _ _ (Value.ref _) (Value.int 1 _)) _ _ _); refine' it1 N9 ?vm ?_ ?vs; (case vm => k_mem); (case vs => with_unfolding_all rfl); (try dsimp only); (try k_fold))
  | ((with_reducible show wpAny _ _ (subscriptTail _ _ (Value.ref _) (Value.int 2 _)) _ _ _); refine' it2 N9 ?vm ?_ ?vs; (case vm => k_mem); (case vs => with_unfolding_all rfl); (try dsimp only); (try k_fold))
  | (refine' cell_item F9 hlb hi hc ?vl ?_ ?vt; (case vl => assumption); (case vt => with_unfolding_all rfl); intro c9 t9 hc9 hc8)
  | fail "draw"))
  k_with "subscriptTail Name Constant ref int" => ((fail_if_success k_extra "off63"); walk_at "subscriptTail")
  k_with "setItem ref int" => ((fail_if_success k_extra "off63"); k_dflt ((rename Fr _ _ _ _ => F9); (rename News _ _ _ _ => N9); (first | ((with_reducible show wpAny _ _ (setItem (Value.ref _) (Value.int 1 _) _) _ _ _); refine' row_set1 F9 N9 ?wU ?_) | ((with_reducible show wpAny _ _ (setItem (Value.ref _) (Value.int 2 _) _) _ _ _); refine' row_set2 F9 N9 ?wU ?_)); (case wU => k_upd); clear F9 N9; intro h9 F9 N9; (try dsimp only); (try k_fold)))
  k_with "call builtin:len" => ((fail_if_success k_extra "off63"); k_dflt ((rename Fr _ _ _ _ => F9); refine' len_base F9 hlb ?wz ?_; (case wz => exact Nat.le_trans (Nat.le_of_eq hi.length) (Nat.le_trans hc.1 (Nat.le_of_ble_eq_true rfl))); intro t9; (try dsimp only); (try k_fold)))
  k_with "call builtin:sum" => ((fail_if_success k_extra "off63"); k_dflt ((rename Fr _ _ _ _ => F9); (rename News _ _ _ _ => N9); refine' sumK rfl F9 N9 (stays_list F9.keep hlb) hi ?_; clear F9 N9; intro h9 tk9 t9 F9 N9; (try dsimp only); (try k_fold)))
  k_with "binaryOp Pow int int" => ((fail_if_success k_extra "off63"); k_dflt (refine' pow_base ?wa ?wb ?_; (case wa => first | exact (big_small hc9 hc8 ht).1 | exact (big_small (Int.le_refl 0) (by decide) ht).1); (case wb => first | exact (big_small hc9 hc8 ht).2 | exact (big_small (Int.le_refl 0) (by decide) ht).2); intro tk9; (try dsimp only); (try k_fold)))
  k_with "binaryOp Mod int int" => ((fail_if_success k_extra "off63"); k_dflt (refine' mod_int' ?wa ?_; (case wa => first | exact Int.ne_of_gt hm | decide); (try dsimp only); (try k_fold)))
  k_with "binaryOp FloorDiv int int" => ((fail_if_success k_extra "off63"); k_dflt (refine' floordiv_int ?wa ?_ ?wb; (case wa => exact Int.ne_of_gt hm); (case wb => exact Or.inl (PyProof.noPylong_small (by omega))); (try dsimp only); (try k_fold)))
  trivial
section
variable {w : World} {dp un : Nat} {fr : Option (List Env)} {gd : Option (List Code)} {g : Heap} {L pn cs : Addr} {m : Str → Option Value} {s : Shared} {Q : Flow → Shared → Prop} {many : Int} {tm : Tok}
theorem row80 : True := by
  k_with "mlook" => ((fail_if_success k_extra "off63"); first | with_reducible assumption | with_reducible exact mset_eq | (refine mset_ne (by decide) ?_; walk_at "mlook"))
  k_with "lname" => ((fail_if_success k_extra "off63"); (refine' nameX_L (cl := []) F9 ?zl9 ?_ ?za9 ?zb9; (case zb9 => rfl); (case za9 => rfl); (case zl9 => walk_at "mlook"); (try dsimp only)))
  k_with "eval Name" => ((fail_if_success k_extra "off63"); k_dflt ((rename Fr _ _ _ _ => F9); walk_at "lname"))
  k_with "storeName" => ((fail_if_success k_extra "off63"); k_dflt ((rename Fr _ _ _ _ => F9); (rename News _ _ _ _ => N9); refine' storeX_L (cl := []) F9 N9 ?_ ?za9 ?zb9; (case zb9 => rfl); (case za9 => rfl); k_whole; clear F9 N9; intro h9 F9 N9; (try dsimp only); (try k_fold)))
  trivial
/-- the last lines of _law_draw -/
theorem draw_tail {st : Stmt} {rest : List Stmt} {turn k : Nat} {c : Int} {t1 t2 : Tok} (hst : (f 62).body.drop 1 = st :: rest) (hm : 0 < many) (hm2 : many ≤ 13) (hc : 0 ≤ c) (hp : m (Str.ofString "pen") = some (.ref pn)) (hy : m (Str.ofString "many") = some (.int many tm))
    (F9 : Fr g L s.heap m) (N9 : News g L s.heap [(pn, penO cs turn c t1 t2 k)])
    (hQ : ∀ d td rest' t2' h' tk' m', 0 ≤ d → d < many → 0 ≤ rest' → Fr g L h' m' → News g L h' [(pn, penO cs turn rest' t1 t2' k)] → Q (.ret (.int d td)) { s with heap := h', toks := tk' }) :
    wpAny (model rw.prog w) ⟨none, dp, fr, gd, un⟩ (exec st (envOf (Str.ofString "_law_draw") (f 62).scope L 562 (Value.ref 561))) (fun f0 s' => match f0 with | .next => wpAny (model rw.prog w) ⟨none, dp, fr, gd, un⟩ (execs rest (envOf (Str.ofString "_law_draw") (f 62).scope L 562 (Value.ref 561))) Q (fun _ _ => False) s' | f0 => Q f0 s') (fun _ _ => False) s := by
  have h0 : (f 62).body.drop 1 = _ :: _ := rfl
  rw [h0] at hst
  obtain ⟨rfl, rfl⟩ := List.cons.inj hst
  clear hst h0
  w_on
  w_top on
  k_steps
  all_goals (rename News _ _ _ _ => N9; rename Fr _ _ _ _ => F9; exact hQ _ _ _ _ _ _ _ (dig_ok hm).1 (dig_ok hm).2 (rest_ok hc hm) F9 N9)
end
theorem row81 : True := by
  k_with "exec Assign cons BinOp" => ((fail_if_success k_extra "off63"); k_dflt ((with_reducible show wpAny _ _ (exec (Stmt.Assign [Expr.Name (Str.ofString "digit") _] _ _) _) _ _ _); (rename Fr _ _ _ _ => F9); (rename News _ _ _ _ => N9); refine' draw_tail rfl hm hm2 ?dc ?d1 ?d2 F9 N9 ?_; (case d1 => exact rfl); (case d2 => exact rfl); (case dc => first | exact hr | exact hc9 | exact pow_pos (big_small hc9 hc8 ht).1 | exact pow_pos (big_small (Int.le_refl 0) (by decide) ht).1); clear F9 N9; intro d9 td9 re9 t29 h9 tk9 m9 hd0 hd1 hr9 F9 N9))
  trivial
theorem draw_c (w : World) (pn cs : Addr) (cvs : List Value) (ns : List Int) (turn : Nat) (rest many : Int) (t1 t2 tm : Tok) (k : Nat) (hi : IntsAre cvs ns) (hc : Cells ns) (hm : 0 < many) (hm2 : many ≤ 13) (ht : turn ≤ 1000) (hr : 0 ≤ rest) (hne : cs ≠ pn) (s : Shared) (hl : s.heap.IsList cs cvs.toArray) :
    Meets w 562 4 [(pn, penO cs turn rest t1 t2 k)] s [.ref pn, .int many tm] fun Q _ => ∀ (d : Int) td (turn' : Nat) (rest' : Int) t1' t2' h' tk', 0 ≤ d → d < many → turn' ≤ turn + 1 → 0 ≤ rest' → Keep pn s.heap h' → h'.get? pn = some (penO cs turn' rest' t1' t2' k) → Q (.int d td) { s with heap := h', toks := tk' } := by
  intro A A₀ env outer base h₀ L m pr loose mean mg mb Q E hH hA hf hk B F X N T hd hu hR
  w_on
  w_top on
  refine' enter [(Str.ofString "pen", .ref pn), (Str.ofString "many", .int many tm)] ?k1 ?k2 ?k3 ?k4 ?k5 ?kA ?kF ?kK ?k6 ?k7 ?k8 ?k9 ?kB ?_ ?c2 ?c3 ?c4 ?c5
  walk_at "my_enter"
  intro g L' h' tk₁ hg F' N' B' X' T' l1
  have hlb : g.IsList cs cvs.toArray := by
    obtain ⟨o, ho, r⟩ := hl
    exact ⟨o, hg _ _ ho (by simp [hne]), r⟩
  clear F N B X T l1
  refine lx_in hH hA B' T' X' hd hu rfl ?_
  clear B' hd hu hA hf hk hH
  intro dp fr gd un hC
  try dsimp only
  try k_fold
  k_steps
  all_goals first
    | exact hR _ _ _ _ _ _ _ _ hd0 hd1 (Nat.le_refl _) hr9 (fun b o e n => Fr.keep F9 _ _ (hg _ _ e (by simp [n]))) (News.get N9 (.head _))
    | exact hR _ _ _ _ _ _ _ _ hd0 hd1 (Nat.le_succ _) hr9 (fun b o e n => Fr.keep F9 _ _ (hg _ _ e (by simp [n]))) (News.get N9 (.head _))

end
theorem off63 : True := by
  k_with "off63" => skip
  trivial
section
theorem cell_ok (n : Int) : 0 ≤ (if n < 0 then -n else n).fmod (10 ^ Int.toNat 40) + 10 ^ Int.toNat 40 * (if decide (n < 0) = true then 1 else 0) ∧ (if n < 0 then -n else n).fmod (10 ^ Int.toNat 40) + 10 ^ Int.toNat 40 * (if decide (n < 0) = true then 1 else 0) < 2 * 10 ^ 40 := by
  have e : (10 : Int) ^ Int.toNat 40 = 10000000000000000000000000000000000000000 := by decide
  have e2 : (2 * 10 ^ 40 : Int) = 20000000000000000000000000000000000000000 := by decide
  rw [e, e2, Int.fmod_eq_emod_of_nonneg _ (by decide)]
  have h1 := Int.emod_nonneg (if n < 0 then -n else n) (b := 10000000000000000000000000000000000000000) (by decide)
  have h2 := Int.emod_lt_of_pos (if n < 0 then -n else n) (b := 10000000000000000000000000000000000000000) (by decide)
  split <;> omega
theorem cells_ok (ns : List Int) : Cells (List.map (fun n => (if n < 0 then -n else n).fmod (10 ^ Int.toNat 40) + 10 ^ Int.toNat 40 * (if decide (n < 0) = true then 1 else 0)) (ns.take 30)) :=
  ⟨by rw [List.length_map, List.length_take]; exact Nat.min_le_left _ _, fun n hn => by
    obtain ⟨k, _, rfl⟩ := List.mem_map.mp hn
    exact cell_ok k⟩
theorem pen_c (w : World) (sc : Addr) (vs : List Value) (ns : List Int) (hi : IntsAre vs ns) (hlen : vs.length ≤ 63) : LCall w (fun h => h.IsList sc vs.toArray) 555 4 [.ref sc] fun v l => ∃ pn cs cvs cns t1 t2 k k', v = .ref pn ∧ (pn, penO cs 0 0 t1 t2 k) ∈ l ∧ (cs, listOf cvs.toArray k') ∈ l ∧ IntsAre cvs cns ∧ Cells cns ∧ cs ≠ pn := by
  walk_at "l_open"
  refine' enter [(Str.ofString "script", .ref sc)] ?k1 ?k2 ?k3 ?k4 ?k5 ?kA ?kF ?kK ?k6 ?k7 ?k8 ?k9 ?kB ?_ ?c2 ?c3 ?c4 ?c5
  walk_at "my_enter"
  intro g L' h' tk₁ hg F' N' B' X' T' l1
  have hlb : g.IsList sc vs.toArray := stays_list (fun b o e => hg b o e (fun z => nomatch z)) hP
  clear F N B X T l1
  refine lx_in hH hA B' T' X' hd hu rfl ?_
  clear B' hd hu hA hf hk hH
  intro dp fr gd un hC
  try dsimp only
  try k_fold
  k_steps
  all_goals (rename News _ _ _ _ => N9; rename _ ∧ _ => l9; exact hR _ _ _ _ (end_L hg (by assumption)) (fun q hq => new_L hg N9 hq) ⟨_, _, _, _, _, _, _, _, rfl, .head _, .tail _ (.head _), by assumption, cells_ok ns, Nat.ne_of_lt l9.1⟩)

end
section
/-- a phrase's tuple in the ledger -/
noncomputable def PhIn (led : List (Addr × Obj)) (v : Value) : Prop := ∃ φ a t0 t1 x, v = .ref a ∧ (a, tupO [.int (Ph.place φ) t0, .str φ.text t1, x]) ∈ led ∧ RepN (fun a o => (a, o) ∈ led) x φ.d
theorem PhIn.mono {led led' : List (Addr × Obj)} {v : Value} (h : PhIn led v) (s : ∀ q ∈ led, q ∈ led') : PhIn led' v := by
  obtain ⟨φ, a, t0, t1, x, h0, h1, h2⟩ := h
  exact ⟨φ, a, t0, t1, x, h0, s _ h1, h2.mono fun _ _ z => s _ z⟩
theorem phrs_of {h : Heap} {led : List (Addr × Obj)} (up : ∀ q ∈ led, h.get? q.1 = some q.2) : ∀ {vs : List Value}, (∀ v ∈ vs, PhIn led v) → ∃ l, PhrsAt h vs l
  | [], _ => ⟨[], rfl, fun i v e => by simp at e⟩
  | v :: vs, hv => by
    obtain ⟨l, h1, h2⟩ := phrs_of up (vs := vs) fun v hm => hv v (.tail _ hm)
    obtain ⟨φ, a, t0, t1, x, h3, h4, h5⟩ := hv v (.head _)
    refine ⟨φ :: l, congrArg Nat.succ h1, fun i u e => ?_⟩
    cases i with
    | zero => cases e; exact ⟨φ, rfl, a, t0, t1, x, h3, up _ h4, h5.mono fun a o z => up _ z⟩
    | succ i => exact h2 i u e
section
variable {w : World} {A : Around} {E Q : Value → Shared → Prop} {s : Shared} {g : Heap} {L : Addr} {m : Str → Option Value} {news led : List (Addr × Obj)} {M : Nat}
theorem right_use {env1 : Env} {pl : Addr} {vs : List Value} {k : Nat} {cut : Bool} (C : Lx w A L g M) (hfr : A.frames = some [env1]) (F : Fr g L s.heap m) (N : News g L s.heap news) (hn : 45 ≤ M) (up : ∀ q ∈ led, q ∈ news) (hp : ∀ v ∈ vs, PhIn led v) (hlen : vs.length ≤ 50) (hl : (pl, listOf vs.toArray k) ∈ news)
    (h : ∀ h' tk', Fr g L h' m → News g L h' news → Q (.bool true) { s with heap := h', toks := tk' }) : wpAny (model rw.prog w) A (call (.ref 612) [.ref pl, .bool cut]) Q E s := by
  have hKL : ∀ a o, (K w.params).lookup a = some o → a ≠ L := fun a o e z => Nat.lt_irrefl _ (Nat.lt_of_lt_of_le (z ▸ Heap.lt_size (C.X a o e)) F.above)
  obtain ⟨⟨A₀, env, outer, base, pr, loose, mean, mg, mb, hH, hA, hf, hk, B, T⟩, X, hd, hu⟩ := C
  have he := hfr.symm.trans hA
  cases he
  obtain ⟨l, hl'⟩ := phrs_of (h := s.heap) (fun q hq => (N q (up q hq)).1) hp
  refine right_c w pl vs l cut (by rw [← hl'.1]; exact hlen) s (PySem.IsL.isList (n := k) (N _ hl).1) hl' A A₀ _ _ base g L m pr loose mean mg mb Q E hH hA hf hk B F X T (by omega) (by omega) rfl hKL fun h' tk' k1 k2 => h h' tk' ?_ fun q hq => ⟨k1 _ _ (N q hq).1 (N q hq).2.1, (N q hq).2⟩
  obtain ⟨oL, es, ep, hL, hd', r⟩ := F.ns
  obtain ⟨sl, e⟩ := k2 oL hL
  exact ⟨⟨_, es, ep, e, hd', r⟩, fun b o e => k1 _ _ (F.keep b o e) (Nat.ne_of_lt (Nat.lt_of_lt_of_le (Heap.lt_size e) F.above)), F.above⟩
theorem draw_use {pn cs : Addr} {cvs : List Value} {ns : List Int} {turn k k' : Nat} {rest many : Int} {t1 t2 tm : Tok} (C : Lx w A L g M) (F : Fr g L s.heap m) (N : News g L s.heap news) (hn : 4 ≤ M) (m1 : (pn, penO cs turn rest t1 t2 k) ∈ news) (m2 : (cs, listOf cvs.toArray k') ∈ news) (hi : IntsAre cvs ns) (hc : Cells ns) (hm : 0 < many) (hm2 : many ≤ 13) (ht : turn ≤ 1000) (hr : 0 ≤ rest) (hne : cs ≠ pn)
    (h : ∀ (d : Int) td (turn' : Nat) (rest' : Int) t1' t2' h' tk', 0 ≤ d → d < many → turn' ≤ turn + 1 → 0 ≤ rest' → Fr g L h' m → (∀ news', Upd pn (penO cs turn rest t1 t2 k) (penO cs turn' rest' t1' t2' k) news news' → News g L h' news') → Q (.int d td) { s with heap := h', toks := tk' }) :
    wpAny (model rw.prog w) A (call (.ref 562) [.ref pn, .int many tm]) Q E s := by
  obtain ⟨⟨A₀, env, outer, base, pr, loose, mean, mg, mb, hH, hA, hf, hk, B, T⟩, X, hd, hu⟩ := C
  have hpn := N _ m1
  have hL0 : L ≠ pn := fun e => hpn.2.1 e.symm
  refine draw_c w pn cs cvs ns turn rest many t1 t2 tm k hi hc hm hm2 ht hr hne s (PySem.IsL.isList (n := k') (N _ m2).1) _ _ _ _ _ _ _ _ _ _ _ _ _ _ _ hH hA hf hk B F X (fun q hq => ?_) T (by omega) (by omega) fun d td turn' rest' t1' t2' h' tk' h1 h2 h3 h4 kp hg => h d td turn' rest' t1' t2' h' tk' h1 h2 h3 h4 ?_ fun news' U => ?_
  · rcases List.mem_cons.mp hq with rfl | hq
    · exact hpn
    · cases hq
  · obtain ⟨⟨oL, es, ep, hL, r⟩, k2, ab⟩ := F
    refine ⟨⟨oL, es, ep, kp _ _ hL hL0, r⟩, fun b o e => kp _ _ (k2 b o e) fun q => ?_, ab⟩
    have := hpn.2.2
    rw [← q, e] at this; cases this
  · obtain ⟨pre, post, rfl, rfl, a1, a2⟩ := U.split
    intro q hq
    rcases List.mem_append.mp hq with hq | hq
    · have := N q (List.mem_append_left _ hq)
      exact ⟨kp _ _ this.1 (a1 q hq), this.2⟩
    · rcases List.mem_cons.mp hq with rfl | hq
      · exact ⟨hg, hpn.2⟩
      · have := N q (List.mem_append_right _ (.tail _ hq))
        exact ⟨kp _ _ this.1 (a2 q hq), this.2⟩
/-- one of the written phrases -/
theorem ev_item {ev : Addr} {evs : List Value} {k : Nat} {n : Int} {u : Tok} {value slice : Expr} (N : News g L s.heap news) (up : ∀ q ∈ led, q ∈ news) (hE : (ev, listOf evs.toArray k) ∈ led) (hP : PhrsIn led evs Ph.all) (h0 : 0 ≤ n) (h1 : n < 13) (h : ∀ v, PhIn led v → Q v s)
    (hs : subscripted slice false (.ref ev) (.int n u) = operate [.ref ev, .int n u] (getItem (.ref ev) (.int n u)) := by with_unfolding_all rfl) : wpAny (model rw.prog w) A (subscriptTail value slice (.ref ev) (.int n u)) Q E s := by
  have hl : Ph.all.length = 13 := rfl
  have hi : n.toNat < Ph.all.length := by omega
  obtain ⟨v, a, t0, t1, x, e, rfl, h2, h3⟩ := hP.get n.toNat _ (List.getElem?_eq_getElem hi)
  have hL : s.heap.IsList ev evs.toArray := PySem.IsL.isList (n := k) (N _ (up _ hE)).1
  exact tail_any hL.typeIs slot_list_getitem.lookup (wpAny_getItem_list (x := .ref a) hL h0 (by omega) (by simpa using e) (h _ ⟨_, a, t0, t1, x, rfl, h2, h3⟩)) hs
end
/-- an order: a list of places -/
noncomputable def OrdAt (led : List (Addr × Obj)) (v : Value) : Prop := ∃ a vs k, v = .ref a ∧ (a, listOf (List.toArray vs) k) ∈ led ∧ vs.length ≤ 50 ∧ ∀ u ∈ vs, ∃ n t, u = .int n t ∧ 0 ≤ n ∧ n < 13
theorem ord_nil : ∀ u ∈ ([] : List Value), ∃ n t, u = .int n t ∧ 0 ≤ n ∧ n < 13 := fun _ h => nomatch h
theorem ord_cons {n : Int} {t : Tok} {vs : List Value} (h0 : 0 ≤ n) (h1 : n < 13) (h : ∀ u ∈ vs, ∃ n t, u = .int n t ∧ 0 ≤ n ∧ n < 13) : ∀ u ∈ Value.int n t :: vs, ∃ n t, u = .int n t ∧ 0 ≤ n ∧ n < 13 :=
  List.forall_mem_cons.mpr ⟨⟨n, t, rfl, h0, h1⟩, h⟩
noncomputable def OrdRl (led : List (Addr × Obj)) (_ : List (Addr × Obj)) (_ : Nat) (v : Value) : Prop := PhIn led v

end
section
section
open LCg
variable {w : World} {A : Around} {h₀ : Heap} {L : Addr} {m : Str → Option Value} {env : Env} {elt : Expr} {x : Str} {scope : Scope} {cl : List (Str × Addr)} {s : Shared}
/-- the phrases of an order -/
theorem law_comp {a : Addr} {led news : List (Addr × Obj)} {vs : List Value} {k : Nat} {Fin : Shared → List Value → List (Addr × Obj) → Prop} (hh : A.handled = none) (F : Fr h₀ L s.heap m) (N : News h₀ L s.heap news) (up : ∀ q ∈ led, q ∈ news)
    (hO : (a, listOf vs.toArray k) ∈ led) (hlen : vs.length ≤ 50) (hvs : ∀ u ∈ vs, ∃ n t, u = .int n t ∧ 0 ≤ n ∧ n < 13)
    (hstep : ∀ I oI C oC D ys m₂ news₂ h tk (E' Post : Value → Shared → Prop) n t, 0 ≤ n → n < 13 → NsObj oC m₂ → m₂ x = some (.int n t) → Fr h₀ L h m → News h₀ L h ((I, oI) :: (C, oC) :: (D, lst ys) :: news₂) → (∀ q ∈ led, q ∈ news₂) →
      (∀ v, PhIn led v → Post v { s with heap := h, toks := tk }) → wpAny (model rw.prog w) A (eval elt (compEnvC scope cl C env)) Post E' { s with heap := h, toks := tk })
    (fin : ∀ ys news' g, (∀ q ∈ led, q ∈ news') → ys.length = vs.length → (∀ v ∈ ys, PhIn led v) → Fin { s with heap := g } ys news') : CompSrc rw.prog w A h₀ L m env elt x scope cl Fin (.ref a) s := by
  refine CompSrc.ledger hh F N (up _ hO) (Nat.le_trans (by rw [List.size_toArray]; exact hlen) (Nat.le_of_ble_eq_true (rfl : Nat.ble 50 sizeLine = true))) fun g => ?_
  refine comp_gen (base := led) (Rl := fun _ _ v => PhIn led v) (fun news hb => .inr ⟨_, hb _ hO, rfl, _, rfl⟩) (fun n n' i v hs h => h) (fun i v I oI C oC D ys m₂ news h tk E' Post hv hC hx F N hb hp => ?_) (fun ys news hb hl hr => ?_) vs.toArray.size 0 [] news (by simp) up rfl (fun j v e => by simp at e)
  · obtain ⟨n, t, rfl, h0, h1⟩ := hvs v (List.mem_of_getElem? hv)
    exact hstep I oI C oC D ys m₂ news h tk E' Post n t h0 h1 hC hx F N hb fun v hv => hp v [] h tk F N (fun r hr q hq => nomatch hq) hv
  · exact fin ys news g hb hl fun v hv => by
      obtain ⟨i, hi⟩ := List.mem_iff_getElem?.mp hv
      exact hr i v hi
end
theorem every_store {M : Model} {A : Around} {g : Heap} {L c : Addr} {m : Str → Option Value} {s : Shared} {E : Value → Shared → Prop} {cn : Str} {cs : Scope} {a : Addr} {ccd : Value} {cl : List (Str × Addr)} {x : Str} {v : Value} {Q : Unit → Shared → Prop} {oc : Obj} {l : List (Addr × Obj)} (F : Fr g L s.heap m) (N : News g L s.heap (l ++ [(c, oc)])) (off : ∀ r ∈ [(c, oc)], ∀ q ∈ l, r.1 ≠ q.1) (hc : cl.lookup x = some c) (hd : oc.data = .cell none)
    (h : ∀ h' oc', Fr g L h' m → News g L h' ((c, oc') :: l) → oc'.data = .cell (some v) → Q () { s with heap := h' })
    (hk : cs.kind = .function) (hx : (envX cn cs L a ccd cl).kindOf x = some .cell) : wpAny M A (storeName (envX cn cs L a ccd cl) x v) Q E s :=
  storeX_C F (news_sub (a := (c, oc) :: l) N fun q hq => by
    rcases List.mem_cons.mp hq with rfl | hq
    · exact List.mem_append_right _ (.head _)
    · exact List.mem_append_left _ hq) hc (UpdF.head fun p hp => (Ne.symm (off _ (.head _) p hp))) hd (fun h' o' F' N' hd' => h h' o' F' N' hd') hk hx
/-- what the law keeps of its phrases -/
structure Kept (led : List (Addr × Obj)) (c : Addr) (oc : Obj) (ev : Addr) (evs : List Value) (ke : Nat) : Prop where
  cell : (c, oc) ∈ led
  data : oc.data = .cell (some (.ref ev))
  list : (ev, listOf evs.toArray ke) ∈ led
  phr : PhrsIn led evs Ph.all
theorem Kept.mono {led led' : List (Addr × Obj)} {c ev : Addr} {oc : Obj} {evs : List Value} {ke : Nat} (H : Kept led c oc ev evs ke) (s : ∀ q ∈ led, q ∈ led') : Kept led' c oc ev evs ke := ⟨s _ H.cell, H.data, s _ H.list, H.phr.mono s⟩
section
variable {w : World} {A : Around} {E : Value → Shared → Prop} {Q : Flow → Shared → Prop} {s : Shared} {env : Env} {g : Heap} {L : Addr}
theorem orders_for {c ev tu sc : Addr} {oc : Obj} {evs items : List Value} {ke : Nat} {news led : List (Addr × Obj)} {m : Str → Option Value} {target : Expr} {body : List Stmt} {h1 : Heap} {tk1 : Nat} (hh : A.handled = none) (F : Fr g L h1 m) (N : News g L h1 news) (hT : (tu, tupO items) ∈ news) (hO : ∀ v ∈ items, OrdAt news v) (hs : m (Str.ofString "script") = some (.ref sc)) (hk : Kept led c oc ev evs ke) (up : ∀ q ∈ led, q ∈ news)
    (step : ∀ led' v m₁ news₁ h₁ tk₁ I oI, Kept led' c oc ev evs ke → OrdAt led' v → m₁ (Str.ofString "script") = some (.ref sc) → (∀ q ∈ led', q ∈ news₁) → Fr g L h₁ m₁ → News g L h₁ ((I, oI) :: news₁) → AllNe I news₁ →
      wpAny (model rw.prog w) A (assign target env v) (fun _ s₃ => wpAny (model rw.prog w) A (execs body env) (fun f s' => match f with
        | .next => ∃ h' tk m₂, s' = { s with heap := h', toks := tk } ∧ Fr g L h' m₂ ∧ News g L h' ((I, oI) :: news₁) ∧ m₂ (Str.ofString "script") = some (.ref sc)
        | .cont => False
        | .brk => Q .next s'
        | .ret v => Q (.ret v) s') E s₃) E { s with heap := h₁, toks := tk₁ })
    (done : ∀ led' h' tk m' news', Kept led' c oc ev evs ke → m' (Str.ofString "script") = some (.ref sc) → (∀ q ∈ led', q ∈ news') → Fr g L h' m' → News g L h' news' → Q .next { s with heap := h', toks := tk }) :
    ForAt w A E Q s env g L target body (.ref tu) { s with heap := h1, toks := tk1 } := by
  refine ⟨_, _, m, news, fun _ m news' => m (Str.ofString "script") = some (.ref sc) ∧ ∀ q ∈ news, q ∈ news', it_tup (items := items) hh (fun j m n h => h.2 _ hT), ⟨_, _, rfl⟩, F, N, ⟨hs, fun q hq => hq⟩, fun i v m₁ news₁ h₁ tk₁ I oI hi hP hJ F1 N1 ne => ?_, fun h' tk m' news' F' N' J => done news _ _ _ _ (hk.mono up) J.1 J.2 F' N'⟩
  refine wpAny_mono (step news v m₁ news₁ h₁ tk₁ I oI (hk.mono up) (hO v (List.mem_of_getElem? (by simpa using hP))) hJ.1 hJ.2 F1 N1 ne) (fun _ s₂ h₃ => wpAny_mono h₃ (fun f s₃ h₄ => ?_) fun _ _ e => e) fun _ _ e => e
  cases f with
  | next =>
    obtain ⟨h', tk, m₂, rfl, F2, N2, hs2⟩ := h₄
    exact .next _ _ _ _ F2 N2 ne ⟨hs2, hJ.2⟩
  | cont => exact h₄.elim
  | brk => exact .brk h₄
  | ret v => exact .ret h₄
end
noncomputable def stmtAt : Option Stmt → Stmt
  | some s => s
  | none => .Pass default
noncomputable abbrev lawE (L a c : Addr) (cd : Value) : Env := envX (Str.ofString "law") (f 71).scope L a cd [(Str.ofString "every", c)]
noncomputable abbrev lawA (dp un : Nat) (gd : Option (List Code)) (L a c : Addr) (cd : Value) : Around := ⟨none, dp, some [envX (Str.ofString "law") (f 71).scope L a cd [(Str.ofString "every", c)]], gd, un⟩

end
theorem row82 : True := by
  k_with "mlook" => (first | with_reducible assumption | with_reducible exact mset_eq | (refine mset_ne (by decide) ?_; walk_at "mlook"))
  k_with "eval Constant int" => (k_dflt (refine' const_any ?_; intro t9 tk9; (try dsimp only)))
  k_with "eval Name" => (k_dflt ((rename News _ _ _ _ => N9); first
  | ((with_reducible show wpAny _ _ (eval (Expr.Name (Str.ofString "every") _) (compEnvC _ _ _ _)) _ _ _); refine' lcf_cell N9 ?zc9 ?zm9 ?zd9 ?_ ?za9 ?zb9; (case zb9 => rfl); (case za9 => rfl); (case zc9 => rfl); (case zm9 => exact up9 _ hK.cell); (case zd9 => exact hK.data); (try dsimp only))
  | ((with_reducible show wpAny _ _ (eval (Expr.Name (Str.ofString "every") _) (envX _ _ _ _ _ _)) _ _ _); refine' nameX_C N9 ?zc9 ?zm9 ?zd9 ?_ ?za9 ?zb9; (case zb9 => rfl); (case za9 => rfl); (case zc9 => rfl); (case zm9 => first | exact hK.cell | exact up9 _ hK.cell | exact List.Mem.tail _ (List.Mem.tail _ (hup _ hK.cell))); (case zd9 => exact hK.data); (try dsimp only))
  | fail "own"))
  k_with "eval Name" => (k_dflt ((rename Fr _ _ _ _ => F9); first
  | ((with_reducible show wpAny _ _ (eval (Expr.Name (Str.ofString "order") _) (envX _ _ _ _ _ _)) _ _ _); walk_at "lname")
  | ((with_reducible show wpAny _ _ (eval (Expr.Name (Str.ofString "script") _) (envX _ _ _ _ _ _)) _ _ _); walk_at "lname")
  | ((with_reducible show wpAny _ _ (eval (Expr.Name (Str.ofString "pen") _) (envX _ _ _ _ _ _)) _ _ _); walk_at "lname")
  | ((with_reducible show wpAny _ _ (eval (Expr.Name (Str.ofString "phrases") _) (envX _ _ _ _ _ _)) _ _ _); walk_at "lname")
  | ((with_reducible show wpAny _ _ (eval (Expr.Name (Str.ofString "begin") _) (envX _ _ _ _ _ _)) _ _ _); walk_at "lname")
  | ((with_reducible show wpAny _ _ (eval (Expr.Name (Str.ofString "is_cut") _) (envX _ _ _ _ _ _)) _ _ _); walk_at "lname")
  | fail "own"))
  k_with "lname" => ((refine' nameX_L F9 ?zl9 ?_ ?za9 ?zb9; (case zb9 => rfl); (case za9 => rfl); (case zl9 => walk_at "mlook"); (try dsimp only)))
  k_with "subscriptTail Name Constant ref int" => (walk_at "evitem")
  k_with "subscriptTail" => (walk_at "evitem")
  k_with "evitem" => (k_dflt ((rename News _ _ _ _ => N9); refine' ev_item N9 ?zup hK.list hK.phr ?zh0 ?zh1 ?_ ?zh2; (case zup => first | exact up9 | exact fun q hq => List.Mem.tail _ (List.Mem.tail _ (hup q hq))); (case zh0 => first | decide | assumption | omega | (split <;> omega)); (case zh1 => first | decide | assumption | omega | (split <;> omega)); (case zh2 => with_unfolding_all rfl); intro v9 hv9; (try dsimp only)))
  trivial
section
noncomputable def lawT1 : List Stmt := forB ((f 71).body[1]?)
theorem row83 : True := by
  k_with "CompSrc" => ((fail_if_success k_extra "off68"); k_dflt ((rename Fr _ _ _ _ => F9); (rename News _ _ _ _ => N9); refine' law_comp rfl F9 N9 up9 hOl hol hov ?cs ?cf; (case' cs => (clear F9 N9 up9 hor hQ; intro I9 oI9 C9 oC9 D9 ys9 m9 news9 h9 tk9 E9 Post9 n9 t9 h0 h1 hNs9 hx9 F9 N8 up8 hP9; have up9 : ∀ q ∈ news, q ∈ (I9, oI9) :: (C9, oC9) :: (D9, LCg.lst ys9) :: news9 := fun q hq => List.Mem.tail _ (List.Mem.tail _ (List.Mem.tail _ (up8 q hq))); have N9 := N8; clear N8 up8)); (case' cf => (clear F9 N9 up9; intro ys8 news8 g8 up8 hl8 hys8; unfold LCg.FinE; intro D8 h9 tk9 F9 N9 off8; have up9 : ∀ q ∈ news, q ∈ (D8, LCg.lst ys8) :: news8 := fun q hq => List.Mem.tail _ (up8 q hq); have hl9 := hl8 ▸ hol; clear up8 hl8)); all_goals ((try dsimp only); (try k_fold))))
  k_with "call ref" => ((fail_if_success k_extra "off68"); k_dflt ((with_reducible show wpAny _ _ (call (Value.ref 612) _) _ _ _); (rename Fr _ _ _ _ => F9); (rename News _ _ _ _ => N9); refine' right_use (led := news) hC rfl F9 N9 ?wn ?zu9 ?zp9 ?zl9 ?zm9 ?_; (case wn => exact Nat.le_of_ble_eq_true rfl); (case zm9 => exact List.Mem.head _); (case zu9 => exact up9); (case zl9 => exact hl9); (case zp9 => exact hys8); clear F9 N9; intro h9 tk9 F9 N9; (try dsimp only); (try k_fold)))
  trivial
section
variable {w : World} {g : Heap} {L a c ev : Addr} {cd : Value} {oc : Obj} {evs : List Value} {ke dp un : Nat} {gd : Option (List Code)} {s : Shared} {pr : Program} {loose : List Str} {mean : ExcName → Option Value} {mg mb m : Str → Option Value} {Q : Flow → Shared → Prop} {news : List (Addr × Obj)} {v : Value}
/-- an order, tried -/
theorem law_t1 (X' : (K w.params).In g) (T' : Top pr loose mean mg mb g) (hC : Lx w (lawA dp un gd L a c cd) L g 46) (hK : Kept news c oc ev evs ke) (hO : OrdAt news v) (hor : m (Str.ofString "order") = some v) (F9 : Fr g L s.heap m) (N9 : News g L s.heap news)
    (hQ : ∀ h' tk', Fr g L h' m → News g L h' news → Q .next { s with heap := h', toks := tk' }) : wpAny (model rw.prog w) (lawA dp un gd L a c cd) (execs lawT1 (lawE L a c cd)) Q (fun _ _ => False) s := by
  obtain ⟨ao, ovs, ok, rfl, hOl, hol, hov⟩ := hO
  have up9 : ∀ q ∈ news, q ∈ news := fun q hq => hq
  dsimp only [lawE, lawA] at hC ⊢
  w_on
  w_top on
  k_steps
  all_goals (rename News _ _ _ _ => N9; first | exact hQ _ _ (by assumption) (news_sub N9 up9) | exact hP9 _ hv9)
end

end
theorem off68 : True := by
  k_with "off68" => skip
  trivial
section
noncomputable def lawS3 : Stmt := stmtAt ((f 71).body[2]?)
theorem row84 : True := by
  k_with "newList" => ((fail_if_success k_extra "off69"); k_dflt ((rename Fr _ _ _ _ => F9); (rename News _ _ _ _ => N9); refine' newList_K ?wF ?wN ?_ ?wz; (case wF => with_reducible exact F9); (case wN => with_reducible exact N9); (case wz => exact Nat.le_of_ble_eq_true rfl); clear F9 N9; intro o9 h9 F9 N9 l1; (try clear l1); (try dsimp only)))
  k_with "call ref" => ((fail_if_success k_extra "off69"); k_dflt ((with_reducible show wpAny _ _ (call (Value.ref 612) _) _ _ _); (rename Fr _ _ _ _ => F9); (rename News _ _ _ _ => N9); refine' right_use (led := news) hC rfl F9 N9 ?wn ?zu9 ?zp9 ?zl9 ?zm9 ?_; (case wn => exact Nat.le_of_ble_eq_true rfl); (case zm9 => exact List.Mem.head _); (case zu9 => exact fun q hq => List.Mem.tail _ hq); (case zl9 => exact Nat.le_of_ble_eq_true rfl); (case zp9 => exact List.forall_mem_cons.mpr ⟨by assumption, List.forall_mem_cons.mpr ⟨by assumption, List.forall_mem_nil _⟩⟩); clear F9 N9; intro h9 tk9 F9 N8; have N9 := news_sub (a := news) N8 (fun q hq => List.Mem.tail _ hq); clear N8; (try dsimp only); (try k_fold)))
  trivial
section
variable {w : World} {g : Heap} {L a c ev : Addr} {cd : Value} {oc : Obj} {evs : List Value} {ke dp un : Nat} {gd : Option (List Code)} {s : Shared} {pr : Program} {loose : List Str} {mean : ExcName → Option Value} {mg mb m : Str → Option Value} {Q : Flow → Shared → Prop} {news : List (Addr × Obj)} {v : Value}
/-- two orders without delimiters -/
theorem law_two (X' : (K w.params).In g) (T' : Top pr loose mean mg mb g) (hC : Lx w (lawA dp un gd L a c cd) L g 46) (hK : Kept news c oc ev evs ke) (F9 : Fr g L s.heap m) (N9 : News g L s.heap news)
    (hQ : ∀ h' tk', Fr g L h' m → News g L h' news → Q .next { s with heap := h', toks := tk' }) : wpAny (model rw.prog w) (lawA dp un gd L a c cd) (exec lawS3 (lawE L a c cd)) Q (fun _ _ => False) s := by
  have up9 : ∀ q ∈ news, q ∈ news := fun q hq => hq
  dsimp only [lawE, lawA] at hC ⊢
  show wpAny _ _ (exec (.If _ _ _ _) _) _ _ _
  w_on
  w_top on
  k_steps
  all_goals exact hQ _ _ (by assumption) (by assumption)
end

end
theorem off69 : True := by
  k_with "off69" => skip
  trivial
section
noncomputable def lawT5 : List Stmt := forB ((f 71).body[4]?)
noncomputable def lawT53 : List Stmt := forB (lawT5[2]?)
theorem row85 : True := by
  k_with "call ref" => ((fail_if_success k_extra "off70"); k_dflt ((with_reducible show wpAny _ _ (call (Value.ref 562) _) _ _ _); (rename Fr _ _ _ _ => F9); (rename News _ _ _ _ => N9); refine' draw_use hC F9 N9 ?zn9 ?zm1 ?zm2 hi hc ?zq0 ?zq1 ?zt9 ?zr9 hne ?_; (case zn9 => exact Nat.le_of_ble_eq_true rfl); (case zm1 => exact List.Mem.tail _ (List.Mem.head _)); (case zm2 => exact List.Mem.tail _ (List.Mem.tail _ hcs)); (case zq0 => decide); (case zq1 => decide); (case zt9 => omega); (case zr9 => assumption); clear F9 N9; intro d9 td9 turn9 rest9 t19 t29 h9 tk9 hd0 hd1 ht9 hr9 F9 N8; have N9 := N8 _ (Upd.tail hap (Upd.head hpt)); clear N8; (try dsimp only); (try k_fold)))
  k_with "storeName" => ((fail_if_success k_extra "off70"); k_dflt ((rename Fr _ _ _ _ => F9); (rename News _ _ _ _ => N9); refine' storeX_L F9 N9 ?_ ?za9 ?zb9; (case zb9 => rfl); (case za9 => rfl); k_whole; clear F9 N9; intro h9 F9 N9; (try dsimp only); (try k_fold)))
  k_with "call builtin:list.append" => ((fail_if_success k_extra "off70"); k_dflt ((show wpAny _ _ (call (Value.builtin _) [Value.ref _, _]) _ _ _); (rename Fr _ _ _ _ => F9); (rename News _ _ _ _ => N9); (refine' append_K F9 N9 ?zu9 ?_ ?zz9; (case zu9 => exact Upd.head (List.forall_mem_cons.mpr ⟨Ne.symm hap, hat⟩)); (case zz9 => exact hpl)); clear F9 N9; intro h9 F9 N9; (try dsimp only)))
  trivial
section
variable {w : World} {g : Heap} {L a c ev pn pa cs : Addr} {cd : Value} {oc : Obj} {evs cvs phs : List Value} {cns : List Int} {ke dp un turn k k1 k2 : Nat} {rest b : Int} {t1 t2 tb : Tok} {gd : Option (List Code)} {s : Shared} {pr : Program} {loose : List Str} {mean : ExcName → Option Value} {mg mb m : Str → Option Value} {Q : Flow → Shared → Prop} {tl led : List (Addr × Obj)}
/-- a phrase, drawn -/
theorem law_t53 (X' : (K w.params).In g) (T' : Top pr loose mean mg mb g) (hC : Lx w (lawA dp un gd L a c cd) L g 46) (hK : Kept led c oc ev evs ke) (hup : ∀ q ∈ led, q ∈ tl) (hi : IntsAre cvs cns) (hc : Cells cns) (hne : cs ≠ pn) (hcs : (cs, listOf cvs.toArray k1) ∈ tl) (ht : turn + 2 ≤ 1000) (hr : 0 ≤ rest)
    (hap : pa ≠ pn) (hpt : ∀ q ∈ tl, q.1 ≠ pn) (hat : ∀ q ∈ tl, q.1 ≠ pa) (hp : m (Str.ofString "pen") = some (.ref pn)) (ha : m (Str.ofString "phrases") = some (.ref pa)) (hb : m (Str.ofString "begin") = some (.int b tb)) (hb0 : 0 ≤ b) (hb1 : b < 13) (hpl : phs.toArray.size ≤ sizeLine)
    (F9 : Fr g L s.heap m) (N9 : News g L s.heap ((pa, listOf phs.toArray k2) :: (pn, penO cs turn rest t1 t2 k) :: tl))
    (hQ : ∀ h' tk' b' tb' turn' rest' t1' t2' v, 0 ≤ b' → b' < 13 → turn' ≤ turn + 2 → 0 ≤ rest' → PhIn led v → Fr g L h' (fun y => if y = Str.ofString "begin" then some (.int b' tb') else m y) → News g L h' ((pa, listOf (phs ++ [v]).toArray (k2 + 1)) :: (pn, penO cs turn' rest' t1' t2' k) :: tl) → Q .next { s with heap := h', toks := tk' }) :
    wpAny (model rw.prog w) (lawA dp un gd L a c cd) (execs lawT53 (lawE L a c cd)) Q (fun _ _ => False) s := by
  dsimp only [lawE, lawA] at hC ⊢
  w_on
  w_top on
  k_steps
  all_goals (rename News _ _ _ _ => N9; rename Fr _ _ _ _ => F9; rw [List.push_toArray] at N9; exact hQ _ _ _ _ _ _ _ _ _ (by first | assumption | (split <;> omega)) (by first | omega | (split <;> omega)) (by omega) (by assumption) hv9 F9 N9)
end

end
theorem off70 : True := by
  k_with "off70" => skip
  trivial
section
section
variable {w : World} {g : Heap} {L a c ev pn pa cs r : Addr} {cd : Value} {oc : Obj} {evs cvs : List Value} {cns : List Int} {ke dp un turn k k1 k2 : Nat} {rest b n : Int} {t1 t2 tb u0 u1 u2 : Tok} {gd : Option (List Code)} {s : Shared} {pr : Program} {loose : List Str} {mean : ExcName → Option Value} {mg mb m : Str → Option Value} {Q : Flow → Shared → Prop} {tl led : List (Addr × Obj)} {cut : Bool}
/-- what the steps' loop keeps -/
inductive StepJ (led tl : List (Addr × Obj)) (cs pn pa : Addr) (cut : Bool) (turn k j : Nat) (m : Str → Option Value) : List (Addr × Obj) → Prop
  | mk {b : Int} {tb : Tok} {phs : List Value} {k2 turn' : Nat} {rest' : Int} {t1' t2' : Tok} : m (Str.ofString "pen") = some (.ref pn) → m (Str.ofString "phrases") = some (.ref pa) → m (Str.ofString "is_cut") = some (.bool cut) → m (Str.ofString "begin") = some (.int b tb) → 0 ≤ b → b < 13 → phs.length = j → (∀ v ∈ phs, PhIn led v) → turn' ≤ turn + 2 * j → 0 ≤ rest' →
    StepJ led tl cs pn pa cut turn k j m ((pa, listOf (List.toArray phs) k2) :: (pn, penO cs turn' rest' t1' t2' k) :: tl)
theorem steps_for {px : Pos} {body : List Stmt} {h1 : Heap} {tk1 : Nat} (hbody : body = lawT53) (X' : (K w.params).In g) (T' : Top pr loose mean mg mb g) (hC : Lx w (lawA dp un gd L a c cd) L g 46) (hK : Kept led c oc ev evs ke) (hup : ∀ q ∈ led, q ∈ tl) (hi : IntsAre cvs cns) (hc : Cells cns) (hne : cs ≠ pn) (hcs : (cs, listOf cvs.toArray k1) ∈ tl) (ht : turn + 20 ≤ 1000) (hr : 0 ≤ rest)
    (hrng : (r, ({ cls := .type "range", data := .fields #[.int 0 u0, .int n u1, .int 1 u2] } : Obj)) ∈ tl) (hn0 : 0 ≤ n) (hn1 : n ≤ 9)
    (hap : pa ≠ pn) (hpt : ∀ q ∈ tl, q.1 ≠ pn) (hat : ∀ q ∈ tl, q.1 ≠ pa) (hp : m (Str.ofString "pen") = some (.ref pn)) (ha : m (Str.ofString "phrases") = some (.ref pa)) (hb : m (Str.ofString "begin") = some (.int 0 tb)) (hcut : m (Str.ofString "is_cut") = some (.bool cut))
    (F9 : Fr g L h1 m) (N9 : News g L h1 ((pa, listOf (List.toArray []) k2) :: (pn, penO cs turn rest t1 t2 k) :: tl))
    (done : ∀ h' tk' m' phs k2 turn' rest' t1' t2', turn' ≤ turn + 18 → 0 ≤ rest' → phs.length ≤ 50 → (∀ v ∈ phs, PhIn led v) → m' (Str.ofString "pen") = some (.ref pn) → m' (Str.ofString "phrases") = some (.ref pa) → m' (Str.ofString "is_cut") = some (.bool cut) →
      Fr g L h' m' → News g L h' ((pa, listOf (List.toArray phs) k2) :: (pn, penO cs turn' rest' t1' t2' k) :: tl) → Q .next { s with heap := h', toks := tk' }) :
    ForAt w (lawA dp un gd L a c cd) (fun _ _ => False) Q s (lawE L a c cd) g L (.Name (Str.ofString "step") px) body (.ref r) { s with heap := h1, toks := tk1 } := by
  subst hbody
  refine ⟨n.toNat, _, m, _, StepJ led tl cs pn pa cut turn k,
    it_rng (t := u0) (u := u1) (v := u2) rfl hn0 (Int.le_trans hn1 (by decide)) (fun j m news h => ?_), ⟨_, _, rfl⟩, F9, N9, StepJ.mk (phs := []) hp ha hcut hb (by decide) (by decide) rfl (fun v hv => nomatch hv) (Nat.le_refl _) hr, fun i v m₁ news₁ h₁ tk₁ I oI hi9 hP hJ F1 N1 ne => ?_, fun h' tk' m' news' F' N' hJ => ?_⟩
  · cases h
    exact .tail _ (.tail _ hrng)
  · obtain @⟨b, tb, phs, k2, turn', rest', t1', t2', j1, j2, j3, j4, j5, j6, j8, j9, j10, j11⟩ := hJ
    obtain ⟨n', tk', rfl⟩ := hP
    refine wpAny_assign_Name (storeX_L F1 N1 (fun h' F2 N2 => ?_) rfl rfl)
    have hi10 : i < 9 := by omega
    refine law_t53 (tl := (I, oI) :: tl) (cs := cs) (b := b) (tb := tb) (phs := phs) (turn := turn') (rest := rest') (t1 := t1') (t2 := t2') (k := k) (k2 := k2) X' T' hC hK (fun q hq => .tail _ (hup q hq)) hi hc hne (.tail _ hcs) (by omega) j11 hap (List.forall_mem_cons.mpr ⟨Ne.symm ne.2.1, hpt⟩) (List.forall_mem_cons.mpr ⟨Ne.symm ne.1, hat⟩) (by walk_at "mlook") (by walk_at "mlook") (by walk_at "mlook") j5 j6 ?_ F2 (news_sub N2 ?_) ?_
    · rw [List.size_toArray, j8]
      exact Nat.le_trans (Nat.le_of_lt hi10) (Nat.le_of_ble_eq_true rfl)
    · intro q hq
      rcases List.mem_cons.mp hq with rfl | hq
      · exact .tail _ (.head _)
      · rcases List.mem_cons.mp hq with rfl | hq
        · exact .tail _ (.tail _ (.head _))
        · rcases List.mem_cons.mp hq with rfl | hq
          · exact .head _
          · exact .tail _ (.tail _ (.tail _ hq))
    · intro h3 tk3 b' tb' turn3 rest3 t13 t23 v b0 b1 tn r0 hv F3 N3
      refine .next h3 tk3 _ ((pa, listOf (List.toArray (phs ++ [v])) (k2 + 1)) :: (pn, penO cs turn3 rest3 t13 t23 k) :: tl) F3 (news_sub N3 ?_) ne (.mk (by walk_at "mlook") (by walk_at "mlook") (by walk_at "mlook") mset_eq b0 b1 ?_ ?_ (by omega) r0)
      · intro q hq
        rcases List.mem_cons.mp hq with rfl | hq
        · exact .tail _ (.tail _ (.head _))
        · rcases List.mem_cons.mp hq with rfl | hq
          · exact .head _
          · rcases List.mem_cons.mp hq with rfl | hq
            · exact .tail _ (.head _)
            · exact .tail _ (.tail _ (.tail _ hq))
      · rw [List.length_append, j8]; rfl
      · intro u hu
        rcases List.mem_append.mp hu with hu | hu
        · exact j9 u hu
        · rw [List.mem_singleton.mp hu]; exact hv
  · obtain @⟨b, tb, phs, k2, turn', rest', t1', t2', j1, j2, j3, j4, j5, j6, j8, j9, j10, j11⟩ := hJ
    exact done _ _ _ phs k2 turn' rest' t1' t2' (by omega) j11 (by omega) j9 j1 j2 j3 F' N'
end

end
section
theorem row86 : True := by
  k_with "call ref" => ((fail_if_success k_extra "off72"); k_dflt ((with_reducible show wpAny _ _ (call (Value.ref 562) _) _ _ _); (rename Fr _ _ _ _ => F9); (rename News _ _ _ _ => N9); refine' draw_use hC F9 N9 ?zn9 ?zm1 ?zm2 hi hc ?zq0 ?zq1 ?zt9 ?zr9 hne ?_; (case zn9 => exact Nat.le_of_ble_eq_true rfl); (case zm1 => walk_at "pmem"); (case zm2 => walk_at "cmem"); (case zq0 => decide); (case zq1 => decide); (case zt9 => omega); (case zr9 => assumption); clear F9 N9; intro d9 td9 turn9 rest9 t19 t29 h9 tk9 hd0 hd1 ht9 hr9 F9 N8; (first | have N9 := N8 _ (Upd.head hpt) | have N9 := N8 _ (Upd.tail (Nat.ne_of_gt (by (try dsimp only); omega)) (Upd.tail (Nat.ne_of_gt (by (try dsimp only); omega)) (Upd.head hpt)))); clear N8; (try dsimp only); (try k_fold)))
  k_with "pmem" => ((fail_if_success k_extra "off72"); first | exact List.Mem.head _ | (refine List.Mem.tail _ ?_; walk_at "pmem"))
  k_with "cmem" => ((fail_if_success k_extra "off72"); first | exact hcs | (refine List.Mem.tail _ ?_; walk_at "cmem"))
  k_with "storeName" => ((fail_if_success k_extra "off72"); k_dflt ((rename Fr _ _ _ _ => F9); (rename News _ _ _ _ => N9); refine' storeX_L F9 N9 ?_ ?za9 ?zb9; (case zb9 => rfl); (case za9 => rfl); k_whole; clear F9 N9; intro h9 F9 N9; (try dsimp only); (try k_fold)))
  k_with "newList" => ((fail_if_success k_extra "off72"); k_dflt ((rename Fr _ _ _ _ => F9); (rename News _ _ _ _ => N9); refine' newList_K ?wF ?wN ?_ ?wz; (case wF => with_reducible exact F9); (case wN => with_reducible exact N9); (case wz => exact Nat.le_of_ble_eq_true rfl); clear F9 N9; intro pa h9 F9 N9 lpa; have lp9 : pn < pa := lpa _ (List.Mem.head _); (try dsimp only)))
  k_with "exec For Name Call cons nil" => ((fail_if_success k_extra "off72"); k_dflt (refine' For_go (h₀ := g) (L := L) ?_ ?zs9 ?ze9; (case zs9 => intro _; rfl); (case ze9 => exact PassesOwn.never)))
  trivial
theorem perm4 {α : Type} {a b c d : α} {l : List α} : ∀ q ∈ a :: b :: c :: d :: l, q ∈ c :: d :: a :: b :: l := fun q hq => by
  rcases List.mem_cons.mp hq with rfl | hq
  · exact .tail _ (.tail _ (.head _))
  · rcases List.mem_cons.mp hq with rfl | hq
    · exact .tail _ (.tail _ (.tail _ (.head _)))
    · rcases List.mem_cons.mp hq with rfl | hq
      · exact .head _
      · rcases List.mem_cons.mp hq with rfl | hq
        · exact .tail _ (.head _)
        · exact .tail _ (.tail _ (.tail _ (.tail _ hq)))
theorem perm5 {α : Type} {a b c d : α} {l : List α} : ∀ q ∈ b :: l, q ∈ a :: b :: c :: d :: l := fun q hq => by
  rcases List.mem_cons.mp hq with rfl | hq
  · exact .tail _ (.head _)
  · exact .tail _ (.tail _ (.tail _ (.tail _ hq)))
theorem row87 : True := by
  k_with "ForAt" => ((fail_if_success k_extra "off72"); k_dflt ((rename IsRange _ _ _ _ _ _ _ _ => hr8); (rename IntsAre _ _ => hi); (rename News _ _ _ _ => N8); (rename Fr _ _ _ _ => F8); (rename News _ _ h9 _ => N7); (rename Fr _ _ h9 _ => F7); have hlt := fun q hq => Heap.lt_size (N7 q hq).1; have N9 := news_range F7 N8 hr8; (refine' steps_for (cs := cs) (turn := turn9) (n := 1 + d9) ?yb X' T' hC hK (fun q hq => List.Mem.tail _ (List.Mem.tail _ (hup q hq))) hi hc hne (List.Mem.tail _ (List.Mem.tail _ hcs)) ?yt hr9 (List.Mem.head _) ?y0 ?y1 (Nat.ne_of_gt lp9) ?pt ?at9 ?m1 ?m2 ?m3 ?m4 F8 (news_sub N9 perm4) ?yd); (case yb => rfl); (case yt => omega); (case y0 => omega); (case y1 => omega); (case pt => exact List.forall_mem_cons.mpr ⟨Nat.ne_of_gt (hlt _ (List.Mem.tail _ (List.Mem.tail _ (List.Mem.head _)))), List.forall_mem_cons.mpr ⟨Nat.ne_of_gt (by (try dsimp only); omega), hpt⟩⟩); (case at9 => exact List.forall_mem_cons.mpr ⟨Nat.ne_of_gt (hlt _ (List.Mem.tail _ (List.Mem.head _))), List.forall_mem_cons.mpr ⟨Nat.ne_of_gt (by (try dsimp only); omega), fun q hq => Nat.ne_of_lt (lpa q (List.Mem.tail _ hq))⟩⟩); (case m1 => walk_at "mlook"); (case m2 => walk_at "mlook"); (case m3 => walk_at "mlook"); (case m4 => walk_at "mlook"); clear hlt N9 N8 F8 N7 F7; intro h9 tk9 m9 phs9 kk9 turn8 rest8 t18 t28 hT8 hr8 hl8 hphs hp8 ha8 hcut8 F9 N9; (try dsimp only); (try k_fold)))
  k_with "call ref" => ((fail_if_success k_extra "off72"); k_dflt ((with_reducible show wpAny _ _ (call (Value.ref 612) _) _ _ _); (rename Fr _ _ _ _ => F9); (rename News _ _ _ _ => N9); refine' right_use (led := led) hC rfl F9 N9 ?wn ?zu9 hphs hl8 (List.Mem.head _) ?_; (case wn => exact Nat.le_of_ble_eq_true rfl); (case zu9 => exact fun q hq => List.Mem.tail _ (List.Mem.tail _ (List.Mem.tail _ (List.Mem.tail _ (hup q hq))))); clear F9 N9; intro h9 tk9 F9 N9; (try dsimp only); (try k_fold)))
  trivial
section
variable {w : World} {g : Heap} {L a c ev pn cs : Addr} {cd : Value} {oc : Obj} {evs cvs : List Value} {cns : List Int} {ke dp un turn k k1 : Nat} {rest : Int} {t1 t2 : Tok} {gd : Option (List Code)} {s : Shared} {pr : Program} {loose : List Str} {mean : ExcName → Option Value} {mg mb m : Str → Option Value} {Q : Flow → Shared → Prop} {tl led : List (Addr × Obj)}
/-- one turn of drawn phrases -/
theorem law_t5 (X' : (K w.params).In g) (T' : Top pr loose mean mg mb g) (hC : Lx w (lawA dp un gd L a c cd) L g 46) (hK : Kept led c oc ev evs ke) (hup : ∀ q ∈ led, q ∈ tl) (hi : IntsAre cvs cns) (hc : Cells cns) (hne : cs ≠ pn) (hcs : (cs, listOf cvs.toArray k1) ∈ tl) (ht : turn + 20 ≤ 900) (hr : 0 ≤ rest)
    (hpt : ∀ q ∈ tl, q.1 ≠ pn) (hp : m (Str.ofString "pen") = some (.ref pn)) (F9 : Fr g L s.heap m) (N9 : News g L s.heap ((pn, penO cs turn rest t1 t2 k) :: tl))
    (hQ : ∀ h' tk' m' turn' rest' t1' t2', turn' ≤ turn + 20 → 0 ≤ rest' → m' (Str.ofString "pen") = some (.ref pn) → Fr g L h' m' → News g L h' ((pn, penO cs turn' rest' t1' t2' k) :: tl) → Q .next { s with heap := h', toks := tk' }) :
    wpAny (model rw.prog w) (lawA dp un gd L a c cd) (execs lawT5 (lawE L a c cd)) Q (fun _ _ => False) s := by
  dsimp only [lawE, lawA] at hC ⊢
  w_on
  w_top on
  k_steps
  all_goals (rename Fr _ _ _ _ => F9; rename News _ _ _ _ => N9; exact hQ _ _ _ turn8 rest8 t18 t28 (by omega) hr8 hp8 F9 (news_sub N9 perm5))
end

end
theorem off72 : True := by
  k_with "off72" => skip
  trivial
section
theorem nbeq {a b : Nat} (h : a ≠ b) : (!(Nat.beq a b)) = true := by
  cases e : Nat.beq a b with
  | false => rfl
  | true => exact absurd (Nat.eq_of_beq_eq_true e) h
theorem perm2 {α : Type} {a b : α} {l : List α} : ∀ q ∈ a :: b :: l, q ∈ b :: a :: l := fun q hq => by
  rcases List.mem_cons.mp hq with rfl | hq
  · exact .tail _ (.head _)
  · rcases List.mem_cons.mp hq with rfl | hq
    · exact .head _
    · exact .tail _ (.tail _ hq)
section
variable {w : World} {g : Heap} {L a c ev pn cs r : Addr} {cd : Value} {oc : Obj} {evs cvs : List Value} {cns : List Int} {ke dp un k k1 : Nat} {t1 t2 u0 u1 u2 : Tok} {gd : Option (List Code)} {s : Shared} {pr : Program} {loose : List Str} {mean : ExcName → Option Value} {mg mb m : Str → Option Value} {Q : Flow → Shared → Prop} {tl led : List (Addr × Obj)}
/-- what the turns' loop keeps -/
inductive TurnJ (tl : List (Addr × Obj)) (cs pn : Addr) (k j : Nat) (m : Str → Option Value) : List (Addr × Obj) → Prop
  | mk {turn' : Nat} {rest' : Int} {t1' t2' : Tok} : m (Str.ofString "pen") = some (.ref pn) → turn' ≤ 20 * j → 0 ≤ rest' → TurnJ tl cs pn k j m ((pn, penO cs turn' rest' t1' t2' k) :: tl)
theorem turns_for {px : Pos} {body : List Stmt} {h1 : Heap} {tk1 : Nat} (hbody : body = lawT5) (X' : (K w.params).In g) (T' : Top pr loose mean mg mb g) (hC : Lx w (lawA dp un gd L a c cd) L g 46) (hK : Kept led c oc ev evs ke) (hup : ∀ q ∈ led, q ∈ tl) (hi : IntsAre cvs cns) (hc : Cells cns) (hne : cs ≠ pn) (hcs : (cs, listOf cvs.toArray k1) ∈ tl)
    (hrng : (r, ({ cls := .type "range", data := .fields #[.int 0 u0, .int 3 u1, .int 1 u2] } : Obj)) ∈ tl) (hpt : ∀ q ∈ tl, q.1 ≠ pn) (hp : m (Str.ofString "pen") = some (.ref pn)) (F9 : Fr g L h1 m) (N9 : News g L h1 ((pn, penO cs 0 0 t1 t2 k) :: tl))
    (done : ∀ h' tk' m' news', Fr g L h' m' → News g L h' news' → Q .next { s with heap := h', toks := tk' }) :
    ForAt w (lawA dp un gd L a c cd) (fun _ _ => False) Q s (lawE L a c cd) g L (.Name (Str.ofString "turn") px) body (.ref r) { s with heap := h1, toks := tk1 } := by
  subst hbody
  refine ⟨(3 : Int).toNat, _, m, _, TurnJ tl cs pn k,
    it_rng (t := u0) (u := u1) (v := u2) rfl (by decide) (by decide) (fun j m news h => ?_), ⟨_, _, rfl⟩, F9, N9, TurnJ.mk hp (Nat.le_refl _) (Int.le_refl _), fun i v m₁ news₁ h₁ tk₁ I oI hi9 hP hJ F1 N1 ne => ?_, fun h' tk' m' news' F' N' hJ => done _ _ _ _ F' N'⟩
  · cases h
    exact .tail _ hrng
  · obtain @⟨turn', rest', t1', t2', j1, j2, j3⟩ := hJ
    obtain ⟨n', tk', rfl⟩ := hP
    have hi3 : i < 3 := hi9
    refine wpAny_assign_Name (storeX_L F1 N1 (fun h' F2 N2 => ?_) rfl rfl)
    refine law_t5 (tl := (I, oI) :: tl) (cs := cs) (turn := turn') (rest := rest') (t1 := t1') (t2 := t2') (k := k) X' T' hC hK (fun q hq => .tail _ (hup q hq)) hi hc hne (.tail _ hcs) (by omega) j3 (List.forall_mem_cons.mpr ⟨Ne.symm ne.1, hpt⟩) (mset_ne (by decide) j1) F2 (news_sub N2 perm2) ?_
    intro h3 tk3 m3 turn3 rest3 t13 t23 tn r0 hp3 F3 N3
    exact .next h3 tk3 m3 ((pn, penO cs turn3 rest3 t13 t23 k) :: tl) F3 (news_sub N3 perm2) ne (.mk hp3 (by omega) r0)
/-- the pen, taken out of the ledger -/
theorem pen_split {h : Heap} {l news : List (Addr × Obj)} {o : Obj} (hm : (pn, o) ∈ l) (off : ∀ r ∈ news, ∀ q ∈ l, r.1 ≠ q.1) (N : News g L h (l ++ news)) :
    ∃ tl, News g L h ((pn, o) :: tl) ∧ (∀ q ∈ tl, q.1 ≠ pn) ∧ (∀ q ∈ news, q ∈ tl) ∧ ∀ q ∈ l, q.1 ≠ pn → q ∈ tl := by
  refine ⟨(l ++ news).filter (fun q => !(Nat.beq q.1 pn)), news_sub N fun q hq => ?_, fun q hq => ?_, fun q hq => ?_, fun q hq h => ?_⟩
  · rcases List.mem_cons.mp hq with rfl | hq
    · exact List.mem_append_left _ hm
    · exact (List.mem_filter.mp hq).1
  · have := (List.mem_filter.mp hq).2
    intro e
    rw [e] at this
    simp at this
  · refine List.mem_filter.mpr ⟨List.mem_append_right _ hq, ?_⟩
    exact nbeq (off q hq _ hm)
  · refine List.mem_filter.mpr ⟨List.mem_append_left _ hq, ?_⟩
    exact nbeq h
end

end
section
section
variable {w : World} {E : Value → Shared → Prop} {Q : Flow → Shared → Prop} {s : Shared} {g : Heap} {L a c ev tu sc : Addr} {cd : Value} {oc : Obj} {evs : List Value} {ke dp un : Nat} {gd : Option (List Code)} {pr : Program} {loose : List Str} {mean : ExcName → Option Value} {mg mb m : Str → Option Value} {led news : List (Addr × Obj)}
theorem OrdAt.mono {v : Value} (h : OrdAt led v) (s : ∀ q ∈ led, q ∈ news) : OrdAt news v := by
  obtain ⟨a, vs, k, e, h1, h2⟩ := h
  exact ⟨a, vs, k, e, s _ h1, h2⟩
theorem orders_go {items : List Value} {px : Pos} {body : List Stmt} {h1 : Heap} {tk1 : Nat} (hbody : body = lawT1) (X' : (K w.params).In g) (T' : Top pr loose mean mg mb g) (hC : Lx w (lawA dp un gd L a c cd) L g 46) (F : Fr g L h1 m) (N : News g L h1 news) (hT : (tu, tupO items) ∈ news) (hO : ∀ v ∈ items, OrdAt news v) (hs : m (Str.ofString "script") = some (.ref sc)) (hk : Kept led c oc ev evs ke) (up : ∀ q ∈ led, q ∈ news)
    (done : ∀ led' h' tk m' news', Kept led' c oc ev evs ke → m' (Str.ofString "script") = some (.ref sc) → (∀ q ∈ led', q ∈ news') → Fr g L h' m' → News g L h' news' → Q .next { s with heap := h', toks := tk }) :
    ForAt w (lawA dp un gd L a c cd) (fun _ _ => False) Q s (lawE L a c cd) g L (.Name (Str.ofString "order") px) body (.ref tu) { s with heap := h1, toks := tk1 } := by
  subst hbody
  refine orders_for rfl F N hT hO hs hk up (fun led' v m₁ news₁ h₁ tk₁ I oI hK' hO' hsc' up' F1 N1 ne => ?_) done
  refine wpAny_assign_Name (storeX_L F1 N1 (fun h' F2 N2 => ?_) rfl rfl)
  exact law_t1 X' T' hC (hK'.mono fun q hq => .tail _ (up' q hq)) (hO'.mono fun q hq => .tail _ (up' q hq)) mset_eq F2 N2 fun h3 tk3 F3 N3 => ⟨_, _, _, rfl, F3, N3, mset_ne (by decide) hsc'⟩
end
theorem row88 : True := by
  k_with "ords" => ((fail_if_success k_extra "off74"); first | exact List.forall_mem_nil _ | (refine List.forall_mem_cons.mpr ⟨⟨_, _, _, rfl, by k_mem, Nat.le_of_ble_eq_true rfl, by (repeat (refine ord_cons (by decide) (by decide) ?_)); exact ord_nil⟩, ?_⟩; walk_at "ords"))
  k_with "call ref" => ((fail_if_success k_extra "off74"); k_dflt ((with_reducible show wpAny _ _ (call (Value.ref 593) _) _ _ _); (rename Fr _ _ _ _ => F9); (rename News _ _ _ _ => N9); refine' LCall.use hC F9 N9 (phrases_c w) trivial ?wn ?_; (case wn => exact Nat.le_of_ble_eq_true rfl); clear F9 N9; intro v9 l9 h9 tk9 F9 N9 off9 hp9; obtain ⟨ev, evs, ke, hv9, hev, hph⟩ := hp9; subst hv9; (try dsimp only); (try k_fold)))
  k_with "call ref" => ((fail_if_success k_extra "off74"); k_dflt ((with_reducible show wpAny _ _ (call (Value.ref 555) _) _ _ _); (rename Fr _ _ _ _ => F9); (rename News _ _ _ _ => N9); refine' LCall.use hC F9 N9 (pen_c w sc vs ns hI hlen) (stays_list F9.keep hL) ?wn ?_; (case wn => exact Nat.le_of_ble_eq_true rfl); clear F9 N9; intro v9 l9 h9 tk9 F9 N9 off9 hp9; obtain ⟨pn, cs, cvs, cns, t1, t2, k, k1, hv9, hm1, hm2, hi, hc, hne⟩ := hp9; subst hv9; obtain ⟨tl, N8, hpt, hpu, hpl⟩ := pen_split hm1 off9 N9; have hcs := hpl _ hm2 hne; have up8 : ∀ q ∈ led, q ∈ tl := fun q hq => hpu q (up9 q hq); clear N9 off9 hm1 hm2 hpu hpl; have N9 := N8; clear N8; (try dsimp only); (try k_fold)))
  k_with "storeName" => ((fail_if_success k_extra "off74"); k_dflt ((rename Fr _ _ _ _ => F9); (rename News _ _ _ _ => N9); first
  | (refine' storeX_L ?wF ?wN ?_ ?za9 ?zb9; (case zb9 => rfl); (case za9 => rfl); (case wF => k_asm); (case wN => k_asm); k_whole; clear F9 N9; intro h9 F9 N9; (try dsimp only); (try k_fold))
  | (refine' every_store F9 N9 off9 ?zc9 hoc ?_ ?za9 ?zb9; (case zc9 => rfl); (case za9 => rfl); (case zb9 => rfl); clear F9 N9 off9; clear hoc; intro h9 oc9 F9 N9 hoc; (have hK : Kept ((c, oc9) :: l9) c oc9 ev evs ke := ⟨List.Mem.head _, hoc, List.Mem.tail _ hev, hph.mono fun _ hq => List.Mem.tail _ hq⟩); clear hev hph hoc; generalize ((c, oc9) :: l9) = led at N9 hK; (try dsimp only); (try k_fold))))
  k_with "exec For Name Tuple cons nil" => ((fail_if_success k_extra "off74"); walk_at "forgo")
  k_with "exec For Name Call cons nil" => ((fail_if_success k_extra "off74"); walk_at "forgo")
  k_with "forgo" => ((fail_if_success k_extra "off74"); k_dflt (refine' For_go (h₀ := g) (L := L) ?_ ?zs9 ?ze9; (case zs9 => intro _; rfl); (case ze9 => exact PassesOwn.never)))
  k_with "newList" => ((fail_if_success k_extra "off74"); k_dflt ((rename Fr _ _ _ _ => F9); (rename News _ _ _ _ => N9); refine' newList_K ?wF ?wN ?_ ?wz; (case wF => with_reducible exact F9); (case wN => with_reducible exact N9); (case wz => exact Nat.le_of_ble_eq_true rfl); clear F9 N9; intro o9 h9 F9 N9 l1; (try clear l1); (try dsimp only)))
  k_with "newTuple" => ((fail_if_success k_extra "off74"); k_dflt ((rename Fr _ _ _ _ => F9); (rename News _ _ _ _ => N9); refine' kup_newTuple F9 N9 ?_ ?wz; (case wz => exact Nat.le_of_ble_eq_true rfl); clear F9 N9; intro D9 h9 F9 N9 l1; clear l1; (try dsimp only); (try k_fold)))
  k_with "ForAt" => ((fail_if_success k_extra "off74"); k_dflt ((rename Fr _ _ _ _ => F9); (rename News _ _ _ _ => N9); refine' orders_go (led := led) (sc := sc) ?yb X' T' hC F9 N9 (List.Mem.head _) ?yo rfl hK ?yu ?yd; (case yb => rfl); (case yo => walk_at "ords"); (case yu => (intro q hq; (iterate 9 (refine List.Mem.tail _ ?_)); exact hq)); clear F9 N9 hK; intro led h9 tk9 m9 news9 hK hsc up9 F9 N9; (try dsimp only); (try k_fold)))
  k_with "ForAt" => ((fail_if_success k_extra "off74"); k_dflt ((rename IsRange _ _ _ _ _ _ _ _ => hr8); (rename IntsAre cvs cns => hi); (rename News _ _ _ _ => N8); (rename Fr _ _ _ _ => F8); (rename News _ _ h9 _ => N7); (rename Fr _ _ h9 _ => F7); have hlt := fun q hq => Heap.lt_size (N7 q hq).1; have N9 := news_range F7 N8 hr8; (refine' turns_for (cs := cs) ?xb9 X' T' hC hK (fun q hq => List.Mem.tail _ (up8 q hq)) hi hc hne (List.Mem.tail _ hcs) (List.Mem.head _) ?xt9 ?xm9 F8 (news_sub N9 perm2) ?xd9); (case xb9 => rfl); (case xt9 => exact List.forall_mem_cons.mpr ⟨Nat.ne_of_gt (hlt _ (List.Mem.head _)), hpt⟩); (case xm9 => walk_at "mlook"); clear hlt N9 N8 F8 N7 F7; intro h9 tk9 m9 news9 F9 N9; (try dsimp only); (try k_fold)))
  k_with "exec If" => ((fail_if_success k_extra "off74"); k_dflt ((rename Fr _ _ _ _ => F9); (rename News _ _ _ _ => N9); refine' law_two X' T' hC (hK.mono up9) F9 N9 ?_; clear F9 N9; intro h9 tk9 F9 N9; (try dsimp only); (try k_fold)))
  trivial
theorem law_b (w : World) {g : Heap} {L a c sc : Addr} {cd : Value} {oc : Obj} {vs : List Value} {ns : List Int} {dp un : Nat} {gd : Option (List Code)} {s : Shared} {pr : Program} {loose : List Str} {mean : ExcName → Option Value} {mg mb : Str → Option Value} {Q : Flow → Shared → Prop} (X' : (K w.params).In g) (T' : Top pr loose mean mg mb g) (hC : Lx w (lawA dp un gd L a c cd) L g 46) (F' : Fr g L s.heap (fun y => if y = Str.ofString "script" then some (.ref sc) else none)) (N' : News g L s.heap [(c, oc)]) (hoc : oc.data = .cell none) (hL : g.IsList sc vs.toArray) (hI : IntsAre vs ns) (hlen : vs.length ≤ 63)
    (hQ : ∀ h' tk' m' news', Fr g L h' m' → News g L h' news' → Q (.ret (.bool true)) { s with heap := h', toks := tk' }) :
    wpAny (model rw.prog w) (lawA dp un gd L a c cd) (execs (f 71).body (lawE L a c cd)) Q (fun _ _ => False) s := by
  dsimp only [lawE, lawA] at hC ⊢
  w_on
  w_top on
  k_steps
  all_goals (rename Fr _ _ _ _ => F9; rename News _ _ _ _ => N9; exact hQ _ _ _ _ F9 N9)

end
theorem off74 : True := by
  k_with "off74" => skip
  trivial
/-- the law entered -/
theorem law_enter (w : World) {s₁ : Shared} {fa sc : Addr} {o : Obj} {pm cd doc : Value} {pr : Program} {loose : List Str} {mean : ExcName → Option Value} {mg mb : Str → Option Value} {vs : List Value} {ns : List Int} {R : Result → Shared → Prop}
    (ho : s₁.heap.get? fa = some o) (hd : o.data = .func (docDef (Str.ofString "law") (f 71).par (f 71).body (f 71).scope pm cd doc)) (hcd : s₁.heap.CodeRec cd (Str.ofString "law")) (T : Top pr loose mean mg mb s₁.heap) (X : (K w.params).In s₁.heap)
    (hL : s₁.heap.IsList sc vs.toArray) (hI : IntsAre vs ns) (hlen : vs.length ≤ 63)
    (hR : ∀ h' tk' m' L', Fr s₁.heap L' h' m' → R (.ok (.ret (.bool true))) { s₁ with heap := h', toks := tk' }) : codeAny (model rw.prog w) callerA (.call (.ref fa) ⟨[.ref sc], []⟩) R s₁ := by
  have K0 := below_caller (Top.heap T)
  refine call_cellsN (binds := [(Str.ofString "script", .ref sc)]) (by decide) ho hd T.nolimit hcd rfl (fun x hx => .inl ?_) (by decide) fun h₁ tk cells F N C => ?_
  · cases hx with
    | head => rfl
    | tail _ h => cases h
  obtain ⟨oc, rfl, hoc⟩ := C.one
  have F1 : Fr s₁.heap s₁.heap.objs.size h₁ (fun y => if y = Str.ofString "script" then some (.ref sc) else none) := F
  refine wpAny_mono (law_b w (Q := fun f s' => R (.ok (.ret (match f with | .ret v => v | _ => .none))) s') X T ?_ F1 N hoc hL hI hlen fun h' tk' m' news' F' N' => ?_) (fun _ _ h => h) (fun _ _ h => h.elim)
  · exact ⟨⟨callerA, _, [], s₁.heap, pr, loose, mean, mg, mb, rfl, rfl, rfl, rfl, K0, T⟩, X, (by show callerA.depth + 1 + 46 < recursionLimit; decide), (by show callerA.units + 3 + 8 * 46 < cLine; decide)⟩
  · exact hR h' tk' m' _ F'
theorem walk0 : WalkO q0 loose0 (fun _ _ => True) (InK K) rw.row.toRowW d0 [] (fun f vs => PySem.call f vs) := by
  w_on
  intro w s₀ s₁ mg mb G Y fa o pm cd doc dV kV ho hd hcd hD hmg hg args vals as hpre hlay hrd hwl hlo
  have KX : (K w.params).In s₁.heap := Y
  refine Ground.open G ?_
  intro T B D TE TW
  wrow_args hpre hlay hrd hwl hlo
  rename IntsAre _ _ => hI
  rename Heap.IsList _ _ _ => hL
  rename ¬ _ < _ => hcond
  have e1 := Dflts.none hD rfl
  have e2 := Dflts.noKw hD
  subst e1 e2
  have hlen := IntsAre.length hI
  refine wpAny_call (law_enter w ho hd hcd T KX hL hI (by omega) fun h' tk' m' L' F' => ?_)
  refine (goodW_bool (s' := { s₁ with heap := h', toks := tk' }) F' hg (raisesW_false ?_) ?_).toG
  · wrow_none_raised
  · wrow_post
theorem final : PySem.Challenge.rw_pq0621_01.Holds := head0 walk0 prom0
end Mine
theorem PySem.Challenge.cw_pq0621_01_holds : PySem.Challenge.rw_pq0621_01.Holds :=
  Mine.final
