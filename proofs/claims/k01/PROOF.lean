import PyProof.Rows.All
import Wide.All
import OpenK.AllK
import Wide.FinOn
import KE.KStateDown
import KE.KExcSuper
import HandS.ForMost
import HandS.Defaults
import HandS.Head0
import HandS.Head1
import HandS.Head2
import HandS.HeadEnd
import HandS.HeadHook1
import HandS.HeadHook2
import HandS.HeadHook3
import HandS.HeadHook4
import HandS.HeadWalk
import HandS.ForExc
import HandS.IsInst
import HandS.Flow
import HandS.ExcInit
import HandS.Wide
import HandS.Lambda
import HandS.ExcValue
import HandS.WideBits
import HandS.Star
import HandS.Text
import HandS.Walk
import HandS.Exc
import HandS.Comp
import HandS.WordsExc
import KE.KSuper
import HandS.ExcField
import HandS.ExcIs
import KE.KExcIs
import HandS.TryOnly
import PyProof.ReprRoads
import PyProof.ReprLen
import HandS.Style
import HandS.Zip
import HandS.TupAny
import HandS.EndTab
import PyProof.ListStr
import HandS.Conv
import HandS.List
import PyProof.Rows.StrSigns2
import PySem.Challenge.RW_owntrees_k01_errors_made
section
set_option Elab.async false
set_option linter.all false
set_option maxRecDepth 100000
set_option maxHeartbeats 0
namespace DX
open PySem PySem.Spec PyProof.Rows L2
/-- what is looked at of an error class of the text -/
def iniOf (K : PySem.W.Frag) (x : Str) : Addr := He.ma K (He.ga K x) "__init__"
def cloOf (K : PySem.W.Frag) (x : Str) : Addr := match K.lookup (iniOf K x) with
  | some ⟨_, _, .func fd, _⟩ => (match fd.closure with
    | [(_, c)] => c
    | _ => 0)
  | _ => 0
def cellB (K : PySem.W.Frag) (c C : Addr) : Bool := match K.lookup c with
  | some ⟨_, _, .cell (some v), _⟩ => v == .ref C
  | _ => false
def errB (K : PySem.W.Frag) (x : Str) : Bool :=
  PySem.W.excInitIn K (He.ga K x) He.veBase "ValueError.__new__" && PySem.W.hasDictIn K (He.ga K x)
    && He.eqO (PySem.W.findIn K (.ref (He.ga K x)) "__setattr__") (some (some (.builtin "object.__setattr__")))
    && decide (PySem.W.subIn K (.ref (He.ga K x)) (.type "BaseException") = some true)
    && decide (PySem.W.typeIn K (.ref (He.ga K x)) = some (.type "type")) && PySem.W.keepIn K (.ref (He.ga K x))
    && He.eqO (PySem.W.findIn K (.ref (He.ga K x)) "__init__") (some (some (.ref (iniOf K x))))
    && decide (PySem.W.typeIn K (.ref (iniOf K x)) = some (.type "function"))
    && cellB K (cloOf K x) (He.ga K x)
    && He.eqO (PySem.W.ks_superIn K (He.ga K x) (He.ga K x) "__init__") (some (some (.builtin "ValueError.__init__")))
    && He.eqO (PySem.W.findIn K (.ref (He.ga K x)) "value") (some none)
    && He.eqO (PySem.W.findIn K (.ref (He.ga K x)) "__getattribute__") (some (some (.builtin "BaseException.__getattribute__")))
    && He.eqO (PySem.W.findIn K (.ref (He.ga K x)) "__getattr__") (some none)
    && He.eqO (PySem.W.findIn K (.ref (He.ga K x)) "__class__") (some (some (.builtin "object.__class__")))
end DX
namespace Hd
open PySem PySem.Spec PyProof.Rows L2
def top (i : Nat) : Stmt := PySem.Challenge.pw_owntrees_k01_errors_made.main.body.getD i (.Pass ⟨0, 0, 0, 0⟩)
abbrev s__law_mixed : Stmt := top 39
def d__law_mixed : He.DefD := ⟨("_law_mixed", none), "_law_mixed", "_law_mixed", defArgs s__law_mixed, defBody s__law_mixed, defScope s__law_mixed, [], []⟩
abbrev s__law_draw : Stmt := top 40
def d__law_draw : He.DefD := ⟨("_law_draw", none), "_law_draw", "_law_draw", defArgs s__law_draw, defBody s__law_draw, defScope s__law_draw, [], []⟩
abbrev s__law_one_of : Stmt := top 41
def d__law_one_of : He.DefD := ⟨("_law_one_of", none), "_law_one_of", "_law_one_of", defArgs s__law_one_of, defBody s__law_one_of, defScope s__law_one_of, [], []⟩
abbrev s__law_word : Stmt := top 42
def d__law_word : He.DefD := ⟨("_law_word", none), "_law_word", "_law_word", defArgs s__law_word, defBody s__law_word, defScope s__law_word, [], []⟩
abbrev s__law_purse : Stmt := top 43
def d__law_purse : He.DefD := ⟨("_law_purse", none), "_law_purse", "_law_purse", defArgs s__law_purse, defBody s__law_purse, defScope s__law_purse, [], []⟩
abbrev s__law_purses : Stmt := top 44
def d__law_purses : He.DefD := ⟨("_law_purses", none), "_law_purses", "_law_purses", defArgs s__law_purses, defBody s__law_purses, defScope s__law_purses, [], []⟩
abbrev s__law_first : Stmt := top 45
def d__law_first : He.DefD := ⟨("_law_first", none), "_law_first", "_law_first", defArgs s__law_first, defBody s__law_first, defScope s__law_first, [], []⟩
abbrev s__law_called : Stmt := top 46
def d__law_called : He.DefD := ⟨("_law_called", none), "_law_called", "_law_called", defArgs s__law_called, defBody s__law_called, defScope s__law_called, [], []⟩
abbrev s__law_bare : Stmt := top 47
def d__law_bare : He.DefD := ⟨("_law_bare", none), "_law_bare", "_law_bare", defArgs s__law_bare, defBody s__law_bare, defScope s__law_bare, [], []⟩
abbrev s__law_code : Stmt := top 48
def d__law_code : He.DefD := ⟨("_law_code", none), "_law_code", "_law_code", defArgs s__law_code, defBody s__law_code, defScope s__law_code, [], []⟩
abbrev s__law_is_error : Stmt := top 49
def d__law_is_error : He.DefD := ⟨("_law_is_error", none), "_law_is_error", "_law_is_error", defArgs s__law_is_error, defBody s__law_is_error, defScope s__law_is_error, [], []⟩
abbrev s__law_right : Stmt := top 50
def d__law_right : He.DefD := ⟨("_law_right", none), "_law_right", "_law_right", defArgs s__law_right, defBody s__law_right, defScope s__law_right, [], []⟩
abbrev s_law : Stmt := top 51
def d_law : He.DefD := ⟨("law", none), "law", "law", defArgs s_law, defBody s_law, defScope s_law, [], []⟩
def fn0 : List He.DefD := [d__law_mixed, d__law_draw, d__law_one_of, d__law_word, d__law_purse, d__law_purses, d__law_first, d__law_called, d__law_bare, d__law_code, d__law_is_error, d__law_right, d_law]
def fn : List He.DefD := fn0
def fa0 : List He.Fa := [.glo "_law_mixed", .glo "_law_draw", .glo "_law_one_of", .glo "_law_word", .glo "_law_purse", .glo "_law_purses", .glo "_law_first", .glo "_law_called", .glo "_law_bare", .glo "_law_code", .glo "_law_is_error", .glo "_law_right", .glo "law", .glo "CutError", .glo "InvalidText", .glo "InvalidWord", .glo "InvalidNumber", .glo "InvalidSigns", .glo "InvalidGap", .glo "InvalidGround", .glo "InvalidWindow", .glo "InvalidOrder", .glo "InvalidRounds", .glo "InvalidSets", .glo "InvalidPlace", .glo "InvalidCuts", .glo "InvalidPieces", .glo "InvalidTold", .glo "InvalidRule", .glo "InvalidRing"]
def fa1 : List He.Fa := [.glo "InvalidView", .glo "InvalidTwin", .glo "InvalidEdit", .glo "InvalidName", .glo "InvalidHistory", .glo "InvalidStore", .glo "InvalidParcel", .glo "InvalidDesk", .glo "InvalidRecord", .glo "InvalidScript", .glo "InvalidPaper", .glo "InvalidLine", .glo "InvalidNode", .glo "InvalidNodes", .glo "InvalidTree", .glo "InvalidShelf", .glo "InvalidBundle", .glo "Refused", .glo "NothingToUndo", .glo "NothingToRedo", .free "ValueError", .free "all", .free "dict", .free "int", .free "isinstance", .free "len", .free "list", .free "max", .free "min", .free "range"]
def fa2 : List He.Fa := [.free "repr", .free "sum", .free "super", .free "tuple", .free "str", .free "bool", .free "zip"]
def fa : List He.Fa := fa0 ++ fa1 ++ fa2
def loose0 : List PySem.Str := ["CutError", "InvalidText", "InvalidWord", "InvalidNumber", "InvalidSigns", "InvalidGap", "InvalidGround", "InvalidWindow", "InvalidOrder", "InvalidRounds", "InvalidSets", "InvalidPlace", "InvalidCuts", "InvalidPieces", "InvalidTold", "InvalidRule", "InvalidRing", "InvalidView", "InvalidTwin", "InvalidEdit", "InvalidName", "InvalidHistory", "InvalidStore", "InvalidParcel", "InvalidDesk", "InvalidRecord", "InvalidScript", "InvalidPaper", "InvalidLine", "InvalidNode"]
def loose1 : List PySem.Str := ["InvalidNodes", "InvalidTree", "InvalidShelf", "InvalidBundle", "Refused", "NothingToUndo", "NothingToRedo", "_law_mixed", "_law_draw", "_law_one_of", "_law_word", "_law_purse", "_law_purses", "_law_first", "_law_called", "_law_bare", "_law_code", "_law_is_error", "_law_right"]
def loose : List PySem.Str := loose0 ++ loose1
def tf : List He.Defn := []
abbrev R : PySem.W.OpenRow := PySem.W.OpenLaw.row PySem.Challenge.rw_owntrees_k01_errors_made
def errs0 : List PySem.Str := ["InvalidText", "InvalidWord", "InvalidNumber", "InvalidSigns", "InvalidGap", "InvalidGround", "InvalidWindow", "InvalidOrder", "InvalidRounds", "InvalidSets", "InvalidPlace", "InvalidCuts", "InvalidPieces", "InvalidTold", "InvalidRule", "InvalidRing", "InvalidView", "InvalidTwin", "InvalidEdit", "InvalidName", "InvalidHistory", "InvalidStore", "InvalidParcel", "InvalidDesk", "InvalidRecord", "InvalidScript", "InvalidPaper", "InvalidLine", "InvalidNode", "InvalidNodes"]
def errs1 : List PySem.Str := ["InvalidTree", "InvalidShelf", "InvalidBundle", "Refused"]
def errs : List PySem.Str := errs0 ++ errs1
abbrev s_InvalidText_init : Stmt := inClass (top 2) 0
abbrev s_InvalidWord_init : Stmt := inClass (top 3) 0
abbrev s_InvalidNumber_init : Stmt := inClass (top 4) 0
abbrev s_InvalidSigns_init : Stmt := inClass (top 5) 0
abbrev s_InvalidGap_init : Stmt := inClass (top 6) 0
abbrev s_InvalidGround_init : Stmt := inClass (top 7) 0
abbrev s_InvalidWindow_init : Stmt := inClass (top 8) 0
abbrev s_InvalidOrder_init : Stmt := inClass (top 9) 0
abbrev s_InvalidRounds_init : Stmt := inClass (top 10) 0
abbrev s_InvalidSets_init : Stmt := inClass (top 11) 0
abbrev s_InvalidPlace_init : Stmt := inClass (top 12) 0
abbrev s_InvalidCuts_init : Stmt := inClass (top 13) 0
abbrev s_InvalidPieces_init : Stmt := inClass (top 14) 0
abbrev s_InvalidTold_init : Stmt := inClass (top 15) 0
abbrev s_InvalidRule_init : Stmt := inClass (top 16) 0
abbrev s_InvalidRing_init : Stmt := inClass (top 17) 0
abbrev s_InvalidView_init : Stmt := inClass (top 18) 0
abbrev s_InvalidTwin_init : Stmt := inClass (top 19) 0
abbrev s_InvalidEdit_init : Stmt := inClass (top 20) 0
abbrev s_InvalidName_init : Stmt := inClass (top 21) 0
abbrev s_InvalidHistory_init : Stmt := inClass (top 22) 0
abbrev s_InvalidStore_init : Stmt := inClass (top 23) 0
abbrev s_InvalidParcel_init : Stmt := inClass (top 24) 0
abbrev s_InvalidDesk_init : Stmt := inClass (top 25) 0
abbrev s_InvalidRecord_init : Stmt := inClass (top 26) 0
abbrev s_InvalidScript_init : Stmt := inClass (top 27) 0
abbrev s_InvalidPaper_init : Stmt := inClass (top 28) 0
abbrev s_InvalidLine_init : Stmt := inClass (top 29) 0
abbrev s_InvalidNode_init : Stmt := inClass (top 30) 0
abbrev s_InvalidNodes_init : Stmt := inClass (top 31) 0
abbrev s_InvalidTree_init : Stmt := inClass (top 32) 0
abbrev s_InvalidShelf_init : Stmt := inClass (top 33) 0
abbrev s_InvalidBundle_init : Stmt := inClass (top 34) 0
abbrev s_Refused_init : Stmt := inClass (top 35) 0
abbrev lawAt : Nat := 51
end Hd
end
section
set_option Elab.async false
set_option linter.all false
set_option maxRecDepth 100000
/-! DLa: data in the heap, frames of data, what an expression, a statement does to them. -/
namespace DL
open PySem PySem.Spec PyProof.Rows L2

/-- data -/
inductive D where
  | non | bl (b : Bool) | int (i : Int) | str (s : Str)
  | lst (xs : List D) | tup (xs : List D) | dct (ks : List Key) (xs : List D)
  | exc (C : Addr) (v : D) | fn (a : Addr)
  deriving Inhabited

/-- at a: an exception of the class at C, its own dict at dx -/
def exV (a C dx : Addr) : HO := .ext fun h => ∃ (ob : Obj) (vs : Array Value), h.get? a = some ob ∧ ob.cls = .ref C ∧ ob.dict = some dx ∧ ob.data = .fields vs
/-- at dx: an exception's dict -/
def XdAt (F : Hp) (dx : Addr) (fs : List (Str × V)) : Prop := F dx = some (.xd fs) ∨ F dx = some (exd dx fs)
mutual
/-- in the heap F the value stands for the data -/
inductive Rp (F : Hp) : V → D → Prop where
  | non : Rp F .non .non
  | bl (b : Bool) : Rp F (.bl b) (.bl b)
  | int (i : Int) : Rp F (.int i) (.int i)
  | str (s : Str) : Rp F (.str s) (.str s)
  | lst {a : Addr} {vs : List V} {ds : List D} : F a = some (.lst vs) → RpA F vs ds → Rp F (.ref a) (.lst ds)
  | tup {a : Addr} {vs : List V} {ds : List D} : F a = some (.tup vs) → RpA F vs ds → Rp F (.ref a) (.tup ds)
  | dct {a : Addr} {kvs : List (Key × V)} {ds : List D} {ks : List Key} : F a = some (.dK kvs) → kvs.map (·.1) = ks → RpA F (kvs.map (·.2)) ds → Rp F (.ref a) (.dct ks ds)
  | exc {a dx C : Addr} {v : V} {d : D} : F a = some (exV a C dx) → XdAt F dx [("value", v)] → Rp F v d → Rp F (.ref a) (.exc C d)
  | exn {a C : Addr} : F a = some (ExO (.ref C) a) → Rp F (.ref a) (.exc C (.exc C .non))
  | fn (a : Addr) : Rp F (.ref a) (.fn a)
inductive RpA (F : Hp) : List V → List D → Prop where
  | nil : RpA F [] []
  | cons {v : V} {vs : List V} {d : D} {ds : List D} : Rp F v d → RpA F vs ds → RpA F (v :: vs) (d :: ds)
end
/-- all that the one heap knows the other knows too -/
def Ex (F F' : Hp) : Prop := ∀ a o, F a = some o → F' a = some o
theorem Ex.refl (F : Hp) : Ex F F := fun _ _ h => h
theorem Ex.trans {F F1 F2 : Hp} (a : Ex F F1) (b : Ex F1 F2) : Ex F F2 := fun x o h => b x o (a x o h)
theorem Ex.new {F : Hp} {p : Addr} {o : HO} (h : F p = none) : Ex F (upd F p o) := fun a u e => by
  rw [upd_ne (ne_of_none e h)]; exact e
theorem Ex.none {F F' : Hp} (e : Ex F F') {p : Addr} (h : F' p = none) : F p = none := by
  cases q : F p with
  | none => rfl
  | some o => rw [e p o q] at h; cases h

section
variable {F F' : Hp}
mutual
theorem Rp.ex (e : Ex F F') : ∀ {v : V} {d : D}, Rp F v d → Rp F' v d
  | _, _, .non => .non
  | _, _, .bl b => .bl b
  | _, _, .int i => .int i
  | _, _, .str s => .str s
  | _, _, .lst h r => .lst (e _ _ h) (RpA.ex e r)
  | _, _, .tup h r => .tup (e _ _ h) (RpA.ex e r)
  | _, _, .dct h k r => .dct (e _ _ h) k (RpA.ex e r)
  | _, _, .exc h1 h2 r => .exc (e _ _ h1) (h2.imp (e _ _) (e _ _)) (Rp.ex e r)
  | _, _, .exn h => .exn (e _ _ h)
  | _, _, .fn a => .fn a
theorem RpA.ex (e : Ex F F') : ∀ {vs : List V} {ds : List D}, RpA F vs ds → RpA F' vs ds
  | _, _, .nil => .nil
  | _, _, .cons r t => .cons (Rp.ex e r) (RpA.ex e t)
end
theorem RpA.length : ∀ {vs : List V} {ds : List D}, RpA F vs ds → vs.length = ds.length
  | _, _, .nil => rfl
  | _, _, .cons _ t => congrArg Nat.succ (RpA.length t)
theorem RpA.get : ∀ {vs : List V} {ds : List D} {i : Nat} {d : D}, RpA F vs ds → ds[i]? = some d → ∃ v, vs[i]? = some v ∧ Rp F v d
  | _, _, _, _, .nil, h => by simp at h
  | _, _, 0, _, .cons r _, h => by simp at h; subst h; exact ⟨_, rfl, r⟩
  | _, _, i + 1, _, .cons _ t, h => by
    obtain ⟨v, h1, h2⟩ := RpA.get (i := i) t (by simpa using h)
    exact ⟨v, by simpa using h1, h2⟩
theorem RpA.getV : ∀ {vs : List V} {ds : List D} {i : Nat} {v : V}, RpA F vs ds → vs[i]? = some v → ∃ d, ds[i]? = some d ∧ Rp F v d
  | _, _, _, _, .nil, h => by simp at h
  | _, _, 0, _, .cons r _, h => by simp at h; subst h; exact ⟨_, rfl, r⟩
  | _, _, i + 1, _, .cons _ t, h => by
    obtain ⟨v, h1, h2⟩ := RpA.getV (i := i) t (by simpa using h)
    exact ⟨v, by simpa using h1, h2⟩
theorem RpA.append : ∀ {vs ws : List V} {ds es : List D}, RpA F vs ds → RpA F ws es → RpA F (vs ++ ws) (ds ++ es)
  | _, _, _, _, .nil, h => h
  | _, _, _, _, .cons r t, h => .cons r (RpA.append t h)
theorem RpA.drop : ∀ {vs : List V} {ds : List D} (n : Nat), RpA F vs ds → RpA F (vs.drop n) (ds.drop n)
  | _, _, 0, r => r
  | _, _, _ + 1, .nil => .nil
  | _, _, n + 1, .cons _ t => RpA.drop n t
theorem RpA.take : ∀ {vs : List V} {ds : List D} (n : Nat), RpA F vs ds → RpA F (vs.take n) (ds.take n)
  | _, _, 0, _ => .nil
  | _, _, _ + 1, .nil => .nil
  | _, _, n + 1, .cons r t => .cons r (RpA.take n t)
theorem RpA.set {v : V} {d : D} (r : Rp F v d) : ∀ {vs : List V} {ds : List D} (i : Nat), RpA F vs ds → RpA F (vs.set i v) (ds.set i d)
  | _, _, _, .nil => .nil
  | _, _, 0, .cons _ t => .cons r t
  | _, _, i + 1, .cons q t => .cons q (RpA.set r i t)
theorem RpA.rev : ∀ {vs : List V} {ds : List D}, RpA F vs ds → RpA F vs.reverse ds.reverse
  | _, _, .nil => .nil
  | _, _, .cons r t => by simp only [List.reverse_cons]; exact (RpA.rev t).append (.cons r .nil)
theorem RpA.ints : ∀ {ns : List Int}, RpA F (ns.map V.int) (ns.map D.int)
  | [] => .nil
  | _ :: _ => .cons (.int _) RpA.ints
end

/-! ### data as PySem's -/
mutual
def D.py : D → PyData
  | .non => .none
  | .bl b => .bool b
  | .int i => .int i
  | .str s => .str s
  | .lst xs => .list (D.pyA xs)
  | .tup xs => .tuple (D.pyA xs)
  | .dct _ _ => .dict []
  | .exc _ _ => .dict []
  | .fn _ => .dict []
def D.pyA : List D → List PyData
  | [] => []
  | d :: ds => d.py :: D.pyA ds
end
mutual
/-- of plain data, its texts as they may stand -/
def D.ok : D → Bool
  | .non => true
  | .bl _ => true
  | .int _ => true
  | .str s => PyData.strOk s
  | .lst xs => D.okA xs
  | .tup xs => D.okA xs
  | .dct _ _ => false
  | .exc _ _ => false
  | .fn _ => false
def D.okA : List D → Bool
  | [] => true
  | d :: ds => d.ok && D.okA ds
end
mutual
def D.dep : D → Nat
  | .lst xs => D.depA xs + 1
  | .tup xs => D.depA xs + 1
  | _ => 0
def D.depA : List D → Nat
  | [] => 0
  | d :: ds => max d.dep (D.depA ds)
end
section
variable {F H : Hp} {K : PySem.W.Frag}
mutual
theorem Rp.dp (e : Ex F H) : ∀ {d : D} {v : V}, d.ok = true → Rp F v d → Dp K H v d.py
  | .non, _, _, .non => .non
  | .bl b, _, _, .bl _ => .bl b
  | .int i, _, _, .int _ => .int i
  | .str s, _, _, .str _ => .str s
  | .lst xs, _, h, .lst q r => .lst (SqL.of (e _ _ q)) (RpA.dp e (by simpa [D.ok] using h) r)
  | .tup xs, _, h, .tup q r => .tup (SqT.of (e _ _ q)) (RpA.dp e (by simpa [D.ok] using h) r)
  | .dct _ _, _, h, _ => by simp [D.ok] at h
  | .exc _ _, _, h, _ => by simp [D.ok] at h
  | .fn _, _, h, _ => by simp [D.ok] at h
theorem RpA.dp (e : Ex F H) : ∀ {ds : List D} {vs : List V}, D.okA ds = true → RpA F vs ds → DpAll K H vs (D.pyA ds)
  | [], _, _, .nil => .nil
  | d :: ds, _, h, .cons r t => by
    have h' := h
    simp only [D.okA, Bool.and_eq_true] at h'
    exact .cons (Rp.dp e h'.1 r) (RpA.dp e h'.2 t)
end
end
mutual
theorem D.py_can : ∀ d : D, d.ok = true → d.py.canLay0 = true
  | .non, _ => by simp [D.py, PyData.canLay0]
  | .bl _, _ => by simp [D.py, PyData.canLay0]
  | .int _, _ => by simp [D.py, PyData.canLay0]
  | .str s, h => by simpa [D.py, PyData.canLay0, D.ok] using h
  | .lst xs, h => by simpa [D.py, PyData.canLay0] using D.py_canA xs (by simpa [D.ok] using h)
  | .tup xs, h => by simpa [D.py, PyData.canLay0] using D.py_canA xs (by simpa [D.ok] using h)
  | .dct _ _, h => by simp [D.ok] at h
  | .exc _ _, h => by simp [D.ok] at h
  | .fn _, h => by simp [D.ok] at h
theorem D.py_canA : ∀ ds : List D, D.okA ds = true → PyData.canLayAll0 (D.pyA ds) = true
  | [], _ => by simp [D.pyA, PyData.canLayAll0]
  | d :: ds, h => by
    simp only [D.okA, Bool.and_eq_true] at h
    simp only [D.pyA, PyData.canLayAll0, Bool.and_eq_true]
    exact ⟨D.py_can d h.1, D.py_canA ds h.2⟩
end
mutual
theorem D.py_dep : ∀ d : D, d.ok = true → d.py.depth = d.dep
  | .non, _ => by simp [D.py, PyData.depth, D.dep]
  | .bl _, _ => by simp [D.py, PyData.depth, D.dep]
  | .int _, _ => by simp [D.py, PyData.depth, D.dep]
  | .str s, h => by simp [D.py, PyData.depth, D.dep]
  | .lst xs, h => by simp only [D.py, PyData.depth, D.dep, D.py_depA xs (by simpa [D.ok] using h)]
  | .tup xs, h => by simp only [D.py, PyData.depth, D.dep, D.py_depA xs (by simpa [D.ok] using h)]
  | .dct _ _, h => by simp [D.ok] at h
  | .exc _ _, h => by simp [D.ok] at h
  | .fn _, h => by simp [D.ok] at h
theorem D.py_depA : ∀ ds : List D, D.okA ds = true → PyData.depthAll (D.pyA ds) = D.depA ds
  | [], _ => by simp [D.pyA, PyData.depthAll, D.depA]
  | d :: ds, h => by
    simp only [D.okA, Bool.and_eq_true] at h
    simp only [D.pyA, PyData.depthAll, D.depA, D.py_dep d h.1, D.py_depA ds h.2]
end
/-- data that may be compared -/
def D.sh (d : D) : Prop := d.ok = true ∧ d.dep ≤ 64
theorem D.sh.py {d : D} (h : d.sh) : SeqAt.shaped d.py = true := by
  unfold SeqAt.shaped
  rw [D.py_can d h.1, D.py_dep d h.1, Bool.true_and]
  exact decide_eq_true h.2
/-- == of data -/
def D.eqv (d e : D) : Bool := PyData.eqv d.py e.py

/-! ### frames -/
/-- what a name of the frame stands for: nothing that is known; data; a list of its own of such; a value -/
inductive DV where
  | un | d (x : D) | ow (xs : List D) | raw (v : V) | pr (P : Hp → V → Prop)
  deriving Inhabited
def At (F H : Hp) : Option V → DV → Prop
  | _, .un => True
  | o, .d x => ∃ v, o = some v ∧ Rp F v x
  | o, .ow xs => ∃ p vs, o = some (.ref p) ∧ F p = none ∧ H p = some (.lst vs) ∧ RpA F vs xs
  | o, .raw v => o = some v
  | o, .pr P => ∃ v, o = some v ∧ ∀ F', Ex F F' → P F' v
/-- the tables of code objects that are known -/
class TL where
  T : List (Addr × Str)
theorem tabs_upd {T : List (Addr × Str)} {H : Hp} {p : Addr} {o : HO} (h : LamX.Tabs T H) (n : H p = none ∨ ∃ xs, H p = some (.lst xs)) : LamX.Tabs T (upd H p o) := fun q hq => by
  obtain ⟨ps, h1, h2, h3⟩ := h q hq
  have key : ∀ {a : Addr} {u : HO}, H a = some u → (∀ xs, u ≠ .lst xs) → upd H p o a = some u := fun {a u} e nl => by
    rw [upd_ne]
    · exact e
    · rintro rfl
      rcases n with n | ⟨xs, n⟩
      · rw [n] at e; cases e
      · rw [n] at e; exact nl xs (Option.some.inj e).symm
  refine ⟨ps, key h1 (fun _ h => nomatch h), h2, fun pos cv hc => ?_⟩
  obtain ⟨c, e1, e2⟩ := h3 pos cv hc
  exact ⟨c, e1, key e2 (fun xs z => by unfold LamX.CodeO at z; cases z)⟩
variable [TL]
/-- the frame σ in the heap H stands for δ; F: what of the heap stays as it is -/
structure Rs (F H : Hp) (σ : L2.St) (δ : List DV) : Prop where
  sub : Ex F H
  len : σ.length = δ.length
  at_ : ∀ (i : Nat) (x : DV), δ[i]? = some x → ∃ o, σ[i]? = some o ∧ At F H o x
  ap : ∀ (i j : Nat) (xs ys : List D) (o : Option V), i ≠ j → δ[i]? = some (.ow xs) → δ[j]? = some (.ow ys) → σ[i]? = some o → σ[j]? ≠ some o
  tb : LamX.Tabs TL.T H
  nt : ∀ a ps, F a ≠ some (.tbl ps)
theorem nt_upd {F : Hp} {p : Addr} {o : HO} (h : ∀ a ps, F a ≠ some (.tbl ps)) (ho : ∀ ps, o ≠ .tbl ps) : ∀ a ps, upd F p o a ≠ some (.tbl ps) := fun a ps z => by
  by_cases q : a = p
  · subst q; rw [upd_same] at z; exact ho ps (Option.some.inj z)
  · rw [upd_ne q] at z; exact h a ps z
/-- the frame's own lists -/
def Own (σ : L2.St) (δ : List DV) (a : Addr) : Prop := ∃ (i : Nat) (xs : List D), δ[i]? = some (.ow xs) ∧ σ[i]? = some (some (.ref a))
/-- nothing, or a table of code objects -/
def Fre (H : Hp) (a : Addr) : Prop := ∀ o, H a = some o → ∃ ps, o = .tbl ps
theorem Fre.of {H : Hp} {a : Addr} (h : H a = none) : Fre H a := fun o e => by rw [h] at e; cases e
theorem Fre.not {H : Hp} {a : Addr} {o : HO} (f : Fre H a) (e : H a = some o) (h : ∀ ps, o ≠ .tbl ps) : False := let ⟨ps, z⟩ := f o e; h ps z
theorem Fre.lst {H : Hp} {a : Addr} {xs : List V} (f : Fre H a) (e : H a = some (.lst xs)) : False := f.not e fun _ h => nomatch h
/-- from the heaps F, H to F', H': what was kept is kept; all else but what O owns is as it was; what is kept anew is new -/
structure Go (O O' : Addr → Prop) (F H F' H' : Hp) : Prop where
  ff : Ex F F'
  keep : ∀ a o, H a = some o → ¬ O a → (∀ ps, o ≠ .tbl ps) → H' a = some o
  new : ∀ a o, F' a = some o → F a = some o ∨ Fre H a ∨ O a
  there : ∀ a, Fre H' a → Fre H a
  own : ∀ a, O' a → O a ∨ Fre H a
theorem Go.refl (O : Addr → Prop) (F H : Hp) : Go O O F H F H := ⟨.refl F, fun _ _ h _ _ => h, fun _ _ h => .inl h, fun _ h => h, fun _ h => .inl h⟩
theorem Go.trans {O O1 O2 : Addr → Prop} {F H F1 H1 F2 H2 : Hp} (g : Go O O1 F H F1 H1) (k : Go O1 O2 F1 H1 F2 H2) : Go O O2 F H F2 H2 where
  ff := g.ff.trans k.ff
  keep := fun a o h n nt => k.keep a o (g.keep a o h n nt) (fun z => (g.own a z).elim n fun q => q.not h nt) nt
  new := fun a o h => by
    rcases k.new a o h with q | q | q
    · exact g.new a o q
    · exact .inr (.inl (g.there a q))
    · rcases g.own a q with q | q
      · exact .inr (.inr q)
      · exact .inr (.inl q)
  there := fun a h => g.there a (k.there a h)
  own := fun a h => (k.own a h).elim (g.own a) fun q => .inr (g.there a q)
theorem Rs.own {F H : Hp} {σ : L2.St} {δ : List DV} (r : Rs F H σ δ) {a : Addr} (h : Own σ δ a) : F a = none ∧ ∃ vs xs, H a = some (.lst vs) ∧ RpA F vs xs := by
  obtain ⟨i, xs, h1, h2⟩ := h
  obtain ⟨o, e, p, vs, q1, q2, q3, q4⟩ := r.at_ i _ h1
  rw [h2] at e
  cases e
  cases q1
  exact ⟨q2, vs, xs, q3, q4⟩
theorem Rs.own_fre {F H : Hp} {σ : L2.St} {δ : List DV} (r : Rs F H σ δ) {a : Addr} (h : Fre H a) : ¬ Own σ δ a := fun z => by
  obtain ⟨_, vs, _, q, _⟩ := r.own z
  exact h.lst q
theorem Rs.own_not {F H : Hp} {σ : L2.St} {δ : List DV} (r : Rs F H σ δ) {a : Addr} (h : H a = none) : ¬ Own σ δ a := r.own_fre (.of h)
theorem Rs.ownF {F H : Hp} {σ : L2.St} {δ : List DV} (r : Rs F H σ δ) {a : Addr} {o : HO} (h : F a = some o) : ¬ Own σ δ a := fun z => by
  rw [(r.own z).1] at h
  cases h
/-- a new object that is to stay -/
theorem Rs.new {F H : Hp} {σ : L2.St} {δ : List DV} (r : Rs F H σ δ) {p : Addr} {o : HO} (h : H p = none) (ho : ∀ ps, o ≠ .tbl ps := by intro _ h; cases h) : Rs (upd F p o) (upd H p o) σ δ := by
  have hF : F p = none := r.sub.none h
  refine ⟨fun a u e => ?_, r.len, fun i x hx => ?_, r.ap, tabs_upd r.tb (.inl h), nt_upd r.nt ho⟩
  · by_cases z : a = p
    · subst z
      rw [upd_same] at e ⊢
      exact e
    · rw [upd_ne z] at e ⊢
      exact r.sub a u e
  · obtain ⟨q, e, k⟩ := r.at_ i x hx
    refine ⟨q, e, ?_⟩
    cases x with
    | un => trivial
    | d x =>
      obtain ⟨v, k1, k2⟩ := k
      exact ⟨v, k1, k2.ex (.new hF)⟩
    | ow xs =>
      obtain ⟨a, vs, k1, k2, k3, k4⟩ := k
      have z : a ≠ p := ne_of_none k3 h
      exact ⟨a, vs, k1, by rw [upd_ne z]; exact k2, by rw [upd_ne z]; exact k3, k4.ex (.new hF)⟩
    | raw v => exact k
    | pr P => obtain ⟨v, k1, k2⟩ := k; exact ⟨v, k1, fun F2 e => k2 F2 ((Ex.new hF).trans e)⟩
theorem Go.new_ {O : Addr → Prop} {F H : Hp} {p : Addr} {o : HO} (h : H p = none) (hF : F p = none) (_ho : True := trivial) : Go O O F H (upd F p o) (upd H p o) := by
  refine ⟨.new hF, fun a u e _ _ => Ex.new h a u e, fun a u e => ?_, fun a n => ?_, fun _ q => .inl q⟩
  · by_cases z : a = p
    · subst z; exact .inr (.inl (.of h))
    · rw [upd_ne z] at e; exact .inl e
  · by_cases z : a = p
    · subst z; exact .of h
    · intro u e; exact n u (by rw [upd_ne z]; exact e)
/-- a new object that may change -/
theorem Rs.newH {F H : Hp} {σ : L2.St} {δ : List DV} (r : Rs F H σ δ) {p : Addr} {o : HO} (h : H p = none) : Rs F (upd H p o) σ δ := by
  refine ⟨r.sub.trans (.new h), r.len, fun i x hx => ?_, r.ap, tabs_upd r.tb (.inl h), r.nt⟩
  obtain ⟨q, e, k⟩ := r.at_ i x hx
  refine ⟨q, e, ?_⟩
  cases x with
  | un => trivial
  | d x => exact k
  | ow xs =>
    obtain ⟨a, vs, k1, k2, k3, k4⟩ := k
    exact ⟨a, vs, k1, k2, by rw [upd_ne (ne_of_none k3 h)]; exact k3, k4⟩
  | raw v => exact k
  | pr P => exact k
theorem Go.newH {O : Addr → Prop} {F H : Hp} {p : Addr} {o : HO} (h : H p = none) : Go O O F H F (upd H p o) := by
  refine ⟨.refl F, fun a u e _ _ => Ex.new h a u e, fun a u e => .inl e, fun a n => ?_, fun _ q => .inl q⟩
  by_cases z : a = p
  · subst z; exact .of h
  · intro u e; exact n u (by rw [upd_ne z]; exact e)
/-- a value that is new: data, or a list of its own -/
def Res (F' H' : Hp) (O : Addr → Prop) (H : Hp) (O' : Addr → Prop) (v : V) : DV → Prop
  | .un => True
  | .d x => Rp F' v x
  | .ow xs => ∃ p vs, v = .ref p ∧ F' p = none ∧ H' p = some (.lst vs) ∧ RpA F' vs xs ∧ ¬ O' p ∧ (Fre H p ∨ O p)
  | .raw w => v = w
  | .pr P => ∀ F2, Ex F' F2 → P F2 v

/-! ### what an expression gives -/
def tD (δ : List DV) (r : DV) (δ' : List DV) : TE := fun σ H Q => ∃ F, Rs F H σ δ ∧ ∀ v F' H', Go (Own σ δ) (Own σ δ') F H F' H' → Rs F' H' σ δ' → Res F' H' (Own σ δ) H (Own σ δ') v r → Q v H'
def tDT (δ : List DV) (b : Bool) (δ' : List DV) : TT := fun σ H Q => ∃ F, Rs F H σ δ ∧ ∀ F' H', Go (Own σ δ) (Own σ δ') F H F' H' → Rs F' H' σ δ' → Q b H'
/-- an argument: data, a value, or the own list of a slot -/
inductive AV where
  | d (x : D) | sl (i : Nat) | raw (v : V) | pr (P : Hp → V → Prop)
def AVr (F : Hp) (σ : L2.St) (v : V) : AV → Prop
  | .d x => Rp F v x
  | .sl i => σ[i]? = some (some v)
  | .raw w => v = w
  | .pr P => ∀ F2, Ex F F2 → P F2 v
abbrev AVs (F : Hp) (σ : L2.St) : List V → List AV → Prop := Paired (AVr F σ)
def tDA (δ : List DV) (as : List AV) (δ' : List DV) : TA := fun σ H Q => ∃ F, Rs F H σ δ ∧ ∀ vs F' H', Go (Own σ δ) (Own σ δ') F H F' H' → Rs F' H' σ δ' → AVs F' σ vs as → Q vs H'
abbrev DE (X : Cx) (δ : List DV) (e : Expr) (r : DV) (δ' : List DV) : Prop := PE X e (tD δ r δ')
abbrev DT (X : Cx) (δ : List DV) (e : Expr) (b : Bool) (δ' : List DV) : Prop := PT X e (tDT δ b δ')
abbrev DA (X : Cx) (δ : List DV) (es : List Expr) (as : List AV) (δ' : List DV) : Prop := PA X es (tDA δ as δ')
theorem _root_.L2.PE.imp {X : Cx} {e : Expr} {t u : TE} (h : PE X e t) (k : ∀ σ H Q, u σ H Q → t σ H Q) : PE X e u := ⟨fun pins s σ H Q I q => h.run pins s σ H Q I (k _ _ _ q)⟩
theorem _root_.L2.PT.imp {X : Cx} {e : Expr} {t u : TT} (h : PT X e t) (k : ∀ σ H Q, u σ H Q → t σ H Q) : PT X e u := ⟨fun pins s σ H Q I q => h.run pins s σ H Q I (k _ _ _ q)⟩
theorem _root_.L2.PA.imp {X : Cx} {e : List Expr} {t u : TA} (h : PA X e t) (k : ∀ σ H Q, u σ H Q → t σ H Q) : PA X e u := ⟨fun pos pins s σ H Q I q => h.run pos pins s σ H Q I (k _ _ _ q)⟩
theorem _root_.L2.PS.imp {X : Cx} {e : Stmt} {t u : TS} (h : PS X e t) (k : ∀ D σ H, u D σ H → t D σ H) : PS X e u := ⟨fun pins s σ H D I q => h.run pins s σ H D I (k _ _ _ q)⟩
theorem _root_.L2.PSs.imp {X : Cx} {e : List Stmt} {t u : TS} (h : PSs X e t) (k : ∀ D σ H, u D σ H → t D σ H) : PSs X e u := ⟨fun pins s σ H D I q => h.run pins s σ H D I (k _ _ _ q)⟩
section
variable {X : Cx} {δ δ1 δ2 δ3 : List DV} {a b c : Expr} {x y z : D} {pos : Pos}
/-- the answer for data -/
theorem tD.fin {δ δ' : List DV} {r : D} {σ : L2.St} {F H F' H' : Hp} {Q : VK} {v : V} (k : ∀ v F' H', Go (Own σ δ) (Own σ δ') F H F' H' → Rs F' H' σ δ' → Res F' H' (Own σ δ) H (Own σ δ') v (.d r) → Q v H')
    (g : Go (Own σ δ) (Own σ δ') F H F' H') (R : Rs F' H' σ δ') (h : Rp F' v r) : Q v H' := k v F' H' g R h
theorem de_frz {e : Expr} {xs : List D} {δ' : List DV} (h : DE X δ e (.ow xs) δ') : DE X δ e (.d (.lst xs)) δ' := h.imp fun σ H Q ⟨F, R, k⟩ => ⟨F, R, fun v F' H' g R' r => by
  obtain ⟨p, vs, rfl, f, hp, ra, no, ho⟩ := r
  have hF : F' p = none := f
  refine k _ (upd F' p (.lst vs)) H' ⟨g.ff.trans (.new hF), g.keep, fun a o e => ?_, g.there, g.own⟩ ⟨fun a o e => ?_, R'.len, fun i x hx => ?_, R'.ap, R'.tb, nt_upd R'.nt (fun _ h => nomatch h)⟩ (.lst upd_same (ra.ex (.new hF)))
  · by_cases z : a = p
    · subst z
      rcases ho with q | q
      · exact .inr (.inl q)
      · exact .inr (.inr q)
    · rw [upd_ne z] at e; exact g.new a o e
  · by_cases z : a = p
    · subst z; rw [upd_same] at e; rw [hp, e]
    · rw [upd_ne z] at e; exact R'.sub a o e
  · obtain ⟨o, e, q⟩ := R'.at_ i x hx
    refine ⟨o, e, ?_⟩
    cases x with
    | un => trivial
    | d x => obtain ⟨v, k1, k2⟩ := q; exact ⟨v, k1, k2.ex (.new hF)⟩
    | ow ys =>
      obtain ⟨b, ws, k1, k2, k3, k4⟩ := q
      have z : b ≠ p := fun z => no ⟨i, ys, hx, by rw [e, k1, z]⟩
      exact ⟨b, ws, k1, by rw [upd_ne z]; exact k2, k3, k4.ex (.new hF)⟩
    | raw v => exact q
    | pr P => obtain ⟨v, k1, k2⟩ := q; exact ⟨v, k1, fun F2 e => k2 F2 ((Ex.new hF).trans e)⟩⟩
end
end DL
end
section
set_option Elab.async false
set_option linter.all false
set_option maxRecDepth 100000
/-! DLb: expressions over frames of data. -/
namespace DL
open PySem PySem.Spec PyProof.Rows L2
variable [TL]

section
variable {X : Cx} {δ δ1 δ2 δ3 : List DV} {a b c e : Expr} {x y z r : D} {pos : Pos} {σ : L2.St} {H : Hp} {F : Hp}

/-- a result told from further back -/
theorem Res.back {O O1 O2 : Addr → Prop} {F H F1 H1 F2 H2 : Hp} {v : V} {ra : DV} (g : Go O O1 F H F1 H1) (r : Res F2 H2 O1 H1 O2 v ra) : Res F2 H2 O H O2 v ra := by
  cases ra with
  | un => trivial
  | d x => exact r
  | raw w => exact r
  | pr P => exact r
  | ow xs =>
    obtain ⟨p, vs, e, h1, h2, h3, h4, h5⟩ := r
    refine ⟨p, vs, e, h1, h2, h3, h4, ?_⟩
    rcases h5 with h5 | h5
    · exact .inl (g.there p h5)
    · exact (g.own p h5).elim .inr .inl

/-! ### in a row -/
theorem one_ {ra : DV} {G : V → Hp → Prop} (h : ∃ F, Rs F H σ δ ∧ ∀ v F' H', Go (Own σ δ) (Own σ δ1) F H F' H' → Rs F' H' σ δ1 → Res F' H' (Own σ δ) H (Own σ δ1) v ra → G v H') : tD δ ra δ1 σ H G := h
theorem two_ {G : V → V → Hp → Prop} (h : ∃ F, Rs F H σ δ ∧ ∀ v u F' H', Go (Own σ δ) (Own σ δ2) F H F' H' → Rs F' H' σ δ2 → Rp F' v x → Rp F' u y → G v u H') :
    tD δ (.d x) δ1 σ H fun v H1 => tD δ1 (.d y) δ2 σ H1 fun u H2 => G v u H2 := by
  obtain ⟨F, R, k⟩ := h
  exact ⟨F, R, fun v F1 H1 g1 R1 r1 => ⟨F1, R1, fun u F2 H2 g2 R2 r2 => k v u F2 H2 (g1.trans g2) R2 (Rp.ex g2.ff r1) r2⟩⟩

/-- an operation of two data: data, the heap as it was | a new list | a new tuple -/
def OpD (r : R2) (x y z : D) : Prop := ∀ (F H : Hp) (v u : V) (Q : VK), Ex F H → Rp F v x → Rp F u y → (∀ w, Rp F w z → Q w H) → r v u H Q
def OpL (r : R2) (x y : D) (zs : List D) : Prop := ∀ (F H : Hp) (v u : V) (Q : VK), Ex F H → HOkL H → Rp F v x → Rp F u y → (∀ p vs, H p = none → RpA F vs zs → Q (.ref p) (upd H p (.lst vs))) → r v u H Q
  where HOkL (_ : Hp) : Prop := True
def OpT (r : R2) (x y : D) (zs : List D) : Prop := ∀ (F H : Hp) (v u : V) (Q : VK), Ex F H → Rp F v x → Rp F u y → (∀ p vs, H p = none → RpA F vs zs → Q (.ref p) (upd H p (.tup vs))) → r v u H Q
theorem op_d {q : R2} (hr : OpD q x y z) {Q : VK} (h : tD δ (.d z) δ2 σ H Q) : tOp q (tD δ (.d x) δ1) (tD δ1 (.d y) δ2) σ H Q := by
  obtain ⟨F, R, k⟩ := h
  exact two_ ⟨F, R, fun v u F' H' g R' r1 r2 => hr F' H' v u Q R'.sub r1 r2 fun w rw => k w F' H' g R' rw⟩
theorem Go.noneH {O O' : Addr → Prop} {F H F' H' : Hp} (g : Go O O' F H F' H') {p : Addr} (h : H' p = none) : Fre H p := g.there p (.of h)
/-- the end at a new object that stays -/
theorem fin_new {Q : VK} {ra : D} {F' H' : Hp} {p : Addr} {o : HO} (k : ∀ v F' H', Go (Own σ δ) (Own σ δ2) F H F' H' → Rs F' H' σ δ2 → Res F' H' (Own σ δ) H (Own σ δ2) v (.d ra) → Q v H')
    (g : Go (Own σ δ) (Own σ δ2) F H F' H') (R : Rs F' H' σ δ2) (hp : H' p = none) (h : Rp (upd F' p o) (.ref p) ra) (ho : ∀ ps, o ≠ .tbl ps := by intro _ h; cases h) : Q (.ref p) (upd H' p o) :=
  k _ _ _ (g.trans (Go.new_ hp (R.sub.none hp))) (R.new hp ho) h
/-- .. at a new list of its own -/
theorem fin_own {Q : VK} {zs : List D} {F' H' : Hp} {p : Addr} {vs : List V} (k : ∀ v F' H', Go (Own σ δ) (Own σ δ2) F H F' H' → Rs F' H' σ δ2 → Res F' H' (Own σ δ) H (Own σ δ2) v (.ow zs) → Q v H')
    (g : Go (Own σ δ) (Own σ δ2) F H F' H') (R : Rs F' H' σ δ2) (hp : H' p = none) (h : RpA F' vs zs) : Q (.ref p) (upd H' p (.lst vs)) :=
  k _ _ _ (g.trans (Go.newH hp)) (R.newH hp) ⟨p, vs, rfl, R.sub.none hp, upd_same, h, R.own_not hp, .inl (g.noneH hp)⟩
theorem op_l {q : R2} {zs : List D} (hr : OpL q x y zs) {Q : VK} (h : tD δ (.ow zs) δ2 σ H Q) : tOp q (tD δ (.d x) δ1) (tD δ1 (.d y) δ2) σ H Q := by
  obtain ⟨F, R, k⟩ := h
  exact two_ ⟨F, R, fun v u F' H' g R' r1 r2 => hr F' H' v u Q R'.sub trivial r1 r2 fun p vs hp ra => fin_own k g R' hp ra⟩
theorem op_t {q : R2} {zs : List D} (hr : OpT q x y zs) {Q : VK} (h : tD δ (.d (.tup zs)) δ2 σ H Q) : tOp q (tD δ (.d x) δ1) (tD δ1 (.d y) δ2) σ H Q := by
  obtain ⟨F, R, k⟩ := h
  exact two_ ⟨F, R, fun v u F' H' g R' r1 r2 => hr F' H' v u Q R'.sub r1 r2 fun p vs hp ra => fin_new k g R' hp (.tup upd_same (ra.ex (.new (R'.sub.none hp))))⟩

/-! ### names, constants -/
theorem de_var {i : Nat} {n : Str} (hN : X.N[i]? = some n) (hv : Vis X.env.scope n) (h : δ[i]? = some (.d x)) (hd : (n == ("__debug__" : Str)) = false := by decide) (hcd : (n == ("__classdict__" : Str)) = false := by decide) : DE X δ (.Name n pos) (.d x) δ :=
  (pe_var (i := i) hN hv hd hcd).imp fun σ H Q ⟨F, R, k⟩ => by
    obtain ⟨o, e, v, q, rv⟩ := R.at_ i _ h
    exact ⟨v, by rw [e, q], k v F H (.refl _ F H) R rv⟩
theorem de_raw {i : Nat} {n : Str} {v : V} (hN : X.N[i]? = some n) (hv : Vis X.env.scope n) (h : δ[i]? = some (.raw v)) (hd : (n == ("__debug__" : Str)) = false := by decide) (hcd : (n == ("__classdict__" : Str)) = false := by decide) : DE X δ (.Name n pos) (.raw v) δ :=
  (pe_var (i := i) hN hv hd hcd).imp fun σ H Q ⟨F, R, k⟩ => by
    obtain ⟨o, e, q⟩ := R.at_ i _ h
    exact ⟨v, by rw [e]; exact congrArg some q, k v F H (.refl _ F H) R rfl⟩
theorem de_pr {i : Nat} {n : Str} {P : Hp → V → Prop} (hN : X.N[i]? = some n) (hv : Vis X.env.scope n) (h : δ[i]? = some (.pr P)) (hd : (n == ("__debug__" : Str)) = false := by decide) (hcd : (n == ("__classdict__" : Str)) = false := by decide) : DE X δ (.Name n pos) (.pr P) δ :=
  (pe_var (i := i) hN hv hd hcd).imp fun σ H Q ⟨F, R, k⟩ => by
    obtain ⟨o, e, v, q1, q2⟩ := R.at_ i _ h
    exact ⟨v, by rw [e, q1], k v F H (.refl _ F H) R q2⟩
/-- a list of the frame's own goes out -/
theorem de_mv {i : Nat} {n : Str} {xs : List D} (hN : X.N[i]? = some n) (hv : Vis X.env.scope n) (h : δ[i]? = some (.ow xs)) (hd : (n == ("__debug__" : Str)) = false := by decide) (hcd : (n == ("__classdict__" : Str)) = false := by decide) : DE X δ (.Name n pos) (.ow xs) (δ.set i .un) :=
  (pe_var (i := i) hN hv hd hcd).imp fun σ H Q ⟨F, R, k⟩ => by
    obtain ⟨o, e, p, vs, q1, q2, q3, q4⟩ := R.at_ i _ h
    have hi : i < δ.length := (List.getElem?_eq_some_iff.mp h).1
    have sub : ∀ a, Own σ (δ.set i .un) a → Own σ δ a ∧ a ≠ p := fun a ⟨j, ys, h1, h2⟩ => by
      by_cases z : i = j
      · subst z; rw [List.getElem?_set_self hi] at h1; cases h1
      · rw [List.getElem?_set_ne z] at h1
        exact ⟨⟨j, ys, h1, h2⟩, fun w => R.ap i j xs ys o z h h1 e (by rw [h2, q1, w])⟩
    refine ⟨.ref p, by rw [e, q1], k _ F H ⟨.refl F, fun _ _ h _ _ => h, fun _ _ h => .inl h, fun _ h => h, fun a h => .inl (sub a h).1⟩ ⟨R.sub, by rw [List.length_set]; exact R.len, fun j x hx => ?_, fun j l ys zs o hj h1 h2 => ?_, R.tb, R.nt⟩
      ⟨p, vs, rfl, q2, q3, q4, fun w => (sub p w).2 rfl, .inr ⟨i, xs, h, by rw [e, q1]⟩⟩⟩
    · by_cases z : i = j
      · subst z; rw [List.getElem?_set_self hi] at hx; cases hx; exact ⟨o, e, trivial⟩
      · rw [List.getElem?_set_ne z] at hx; exact R.at_ j x hx
    · have ne : ∀ {j : Nat} {ys : List D}, (δ.set i .un)[j]? = some (.ow ys) → δ[j]? = some (.ow ys) := fun {j ys} h => by
        by_cases z : i = j
        · subst z; rw [List.getElem?_set_self hi] at h; cases h
        · rw [List.getElem?_set_ne z] at h; exact h
      exact R.ap j l ys zs o hj (ne h1) (ne h2)
theorem de_c {v : V} (h : PE X e (tC v)) (hr : ∀ F, Rp F v x) : DE X δ e (.d x) δ := h.imp fun σ H Q ⟨F, R, k⟩ => k v F H (.refl _ F H) R (hr F)
theorem de_int {i : Int} {j : Nat} : DE X δ (.Constant (.int i) j pos) (.d (.int i)) δ := de_c pe_int fun _ => .int i
theorem de_bl {i : Bool} {j : Nat} : DE X δ (.Constant (.bool i) j pos) (.d (.bl i)) δ := de_c pe_bl fun _ => .bl i
theorem de_non {j : Nat} : DE X δ (.Constant .none j pos) (.d .non) δ := de_c pe_non fun _ => .non
theorem de_str {s : Str} {j : Nat} : DE X δ (.Constant (.str s) j pos) (.d (.str s)) δ := de_c pe_str fun _ => .str s
theorem de_to {r r' : DV} {δ' : List DV} (h : DE X δ e r δ') (hr : r = r') : DE X δ e r' δ' := hr ▸ h

/-! ### operators -/
theorem de_bin {op : Operator} {q : R2} (ho : OpR X (binaryOp op) q) (ha : DE X δ a (.d x) δ1) (hb : DE X δ1 b (.d y) δ2) (hr : OpD q x y z) : DE X δ (.BinOp a op b pos) (.d z) δ2 := (pe_op ho ha hb).imp fun _ _ _ h => op_d hr h
theorem de_binL {op : Operator} {q : R2} {zs : List D} (ho : OpR X (binaryOp op) q) (ha : DE X δ a (.d x) δ1) (hb : DE X δ1 b (.d y) δ2) (hr : OpL q x y zs) : DE X δ (.BinOp a op b pos) (.ow zs) δ2 := (pe_op ho ha hb).imp fun _ _ _ h => op_l hr h
theorem de_binT {op : Operator} {q : R2} {zs : List D} (ho : OpR X (binaryOp op) q) (ha : DE X δ a (.d x) δ1) (hb : DE X δ1 b (.d y) δ2) (hr : OpT q x y zs) : DE X δ (.BinOp a op b pos) (.d (.tup zs)) δ2 := (pe_op ho ha hb).imp fun _ _ _ h => op_t hr h
theorem de_cmp {op : CmpOp} {q : R2} (ho : OpR X (compareOp op) q) (ha : DE X δ a (.d x) δ1) (hb : DE X δ1 b (.d y) δ2) (hr : OpD q x y z) (hm : behindInMarks op b = false) : DE X δ (.Compare a [op] [b] pos) (.d z) δ2 := (pe_cmpR ho ha hb hm).imp fun _ _ _ h => op_d hr h
theorem dt_cmp {k : Bool} {op : CmpOp} {q : R2} (ho : OpR X (compareOp op) q) (ha : DE X δ a (.d x) δ1) (hb : DE X δ1 b (.d y) δ2) (hr : OpD q x y (.bl k)) (hm : behindInMarks op b = false) : DT X δ (.Compare a [op] [b] pos) k δ2 :=
  (pt_cmpR ho ha hb hm).imp fun σ H Q ⟨F, R, k'⟩ => op_d (δ := δ) (δ2 := δ2) hr ⟨F, R, fun v F' H' g R' rv => by
    cases rv
    exact ⟨k, rfl, k' F' H' g R'⟩⟩
theorem opd_ii {g : Int → Int → V} {i j : Int} (hg : ∀ F, Rp F (g i j) z) : OpD (rI0 g) (.int i) (.int j) z := fun F H v u Q _ rv ru k => by
  cases rv; cases ru
  exact ⟨i, j, rfl, rfl, k _ (hg F)⟩
theorem opd_ic {C : Int → Int → Prop} {g : Int → Int → V} {i j : Int} (hc : C i j) (hg : ∀ F, Rp F (g i j) z) : OpD (rI C g) (.int i) (.int j) z := fun F H v u Q _ rv ru k => by
  cases rv; cases ru
  exact ⟨i, j, rfl, rfl, hc, k _ (hg F)⟩
theorem de_add {i j : Int} (ha : DE X δ a (.d (.int i)) δ1) (hb : DE X δ1 b (.d (.int j)) δ2) : DE X δ (.BinOp a .Add b pos) (.d (.int (i + j))) δ2 := de_bin op_add ha hb (opd_ii fun _ => .int _)
theorem de_sub {i j : Int} (ha : DE X δ a (.d (.int i)) δ1) (hb : DE X δ1 b (.d (.int j)) δ2) : DE X δ (.BinOp a .Sub b pos) (.d (.int (i - j))) δ2 := de_bin op_sub ha hb (opd_ii fun _ => .int _)
theorem de_mul {i j : Int} (ha : DE X δ a (.d (.int i)) δ1) (hb : DE X δ1 b (.d (.int j)) δ2) (hc : CMul i j) : DE X δ (.BinOp a .Mult b pos) (.d (.int (i * j))) δ2 := de_bin op_mul ha hb (opd_ic hc fun _ => .int _)
theorem de_mulW {i j : Int} (ha : DE X δ a (.d (.int i)) δ1) (hb : DE X δ1 b (.d (.int j)) δ2) (hc : CMulW i j) : DE X δ (.BinOp a .Mult b pos) (.d (.int (i * j))) δ2 := de_bin op_mulW ha hb (opd_ic hc fun _ => .int _)
theorem de_fdiv {i j : Int} (ha : DE X δ a (.d (.int i)) δ1) (hb : DE X δ1 b (.d (.int j)) δ2) (hc : CDivW i j) : DE X δ (.BinOp a .FloorDiv b pos) (.d (.int (i / j))) δ2 := de_bin op_fdivW ha hb (opd_ic hc fun _ => .int _)
theorem de_mod {i j : Int} (ha : DE X δ a (.d (.int i)) δ1) (hb : DE X δ1 b (.d (.int j)) δ2) (hc : 0 < j) : DE X δ (.BinOp a .Mod b pos) (.d (.int (i % j))) δ2 := de_bin op_mod ha hb (opd_ic hc fun _ => .int _)
theorem de_pow {i j : Int} (ha : DE X δ a (.d (.int i)) δ1) (hb : DE X δ1 b (.d (.int j)) δ2) (hc : CPow i j) : DE X δ (.BinOp a .Pow b pos) (.d (.int (i ^ j.toNat))) δ2 := de_bin op_pow ha hb (opd_ic hc fun _ => .int _)
theorem de_addS {s t : Str} (ha : DE X δ a (.d (.str s)) δ1) (hb : DE X δ1 b (.d (.str t)) δ2) (hl : s.length + t.length ≤ sizeLine) : DE X δ (.BinOp a .Add b pos) (.d (.str (s ++ t))) δ2 := de_bin op_add_str ha hb fun F H v u Q _ rv ru k => by
  cases rv; cases ru
  exact ⟨s, t, rfl, rfl, hl, k _ (.str _)⟩
theorem de_cat {xs ys : List D} (ha : DE X δ a (.d (.lst xs)) δ1) (hb : DE X δ1 b (.d (.lst ys)) δ2) (hl : xs.length + ys.length ≤ sizeLine) : DE X δ (.BinOp a .Add b pos) (.ow (xs ++ ys)) δ2 := de_binL op_cat ha hb fun F H v u Q e _ rv ru k => by
  cases rv with
  | lst h1 r1 =>
    cases ru with
    | lst h2 r2 => exact ⟨_, _, _, _, rfl, rfl, e _ _ h1, e _ _ h2, by rw [r1.length, r2.length]; exact hl, fun p hp => k p _ hp (r1.append r2)⟩
theorem de_catT {xs ys : List D} (ha : DE X δ a (.d (.tup xs)) δ1) (hb : DE X δ1 b (.d (.tup ys)) δ2) (hl : xs.length + ys.length ≤ sizeLine) (hx : xs ≠ []) (hy : ys ≠ []) : DE X δ (.BinOp a .Add b pos) (.d (.tup (xs ++ ys))) δ2 := de_binT op_catT ha hb fun F H v u Q e rv ru k => by
  cases rv with
  | tup h1 r1 =>
    cases ru with
    | tup h2 r2 =>
      rename_i vs1 _ vs2
      have n1 : vs1 ≠ [] := fun z => hx (List.eq_nil_of_length_eq_zero (by rw [← r1.length, z]; rfl))
      have n2 : vs2 ≠ [] := fun z => hy (List.eq_nil_of_length_eq_zero (by rw [← r2.length, z]; rfl))
      exact ⟨_, _, _, _, rfl, rfl, SqT.of (e _ _ h1), SqT.of (e _ _ h2), n1, by rw [r1.length, r2.length]; exact hl, fun z => absurd z n2, fun _ p hp => k p _ hp (r1.append r2)⟩
theorem de_eq {k : Nat} (hr : Room k X.A) (hx : x.sh) (hy : y.sh) (ha : DE X δ a (.d x) δ1) (hb : DE X δ1 b (.d y) δ2) : DE X δ (.Compare a [.Eq] [b] pos) (.d (.bl (x.eqv y))) δ2 := de_cmp (op_eqD hr.units) ha hb (fun F H v u Q e rv ru k =>
  ⟨x.py, y.py, rv.dp e hx.1, ru.dp e hy.1, hx.py, hy.py, k _ (.bl _)⟩) (nomark _)
theorem de_ne {k : Nat} (hr : Room k X.A) (hx : x.sh) (hy : y.sh) (ha : DE X δ a (.d x) δ1) (hb : DE X δ1 b (.d y) δ2) : DE X δ (.Compare a [.NotEq] [b] pos) (.d (.bl (!x.eqv y))) δ2 := de_cmp (op_neD hr.units) ha hb (fun F H v u Q e rv ru k =>
  ⟨x.py, y.py, rv.dp e hx.1, ru.dp e hy.1, hx.py, hy.py, k _ (.bl _)⟩) (nomark _)

theorem dt_ii {k : Bool} {op : CmpOp} {g : Int → Int → Bool} {i j : Int} (ho : OpR X (compareOp op) (rI0 fun i j => .bl (g i j))) (ha : DE X δ a (.d (.int i)) δ1) (hb : DE X δ1 b (.d (.int j)) δ2) (hk : g i j = k) (hm : behindInMarks op b = false) : DT X δ (.Compare a [op] [b] pos) k δ2 :=
  dt_cmp ho ha hb (opd_ii fun _ => by rw [hk]; exact .bl k) hm
theorem dt_lt {k : Bool} {i j : Int} (ha : DE X δ a (.d (.int i)) δ1) (hb : DE X δ1 b (.d (.int j)) δ2) (hk : decide (i < j) = k) : DT X δ (.Compare a [.Lt] [b] pos) k δ2 := dt_ii op_lt ha hb hk (nomark _)
theorem dt_le {k : Bool} {i j : Int} (ha : DE X δ a (.d (.int i)) δ1) (hb : DE X δ1 b (.d (.int j)) δ2) (hk : decide (i ≤ j) = k) : DT X δ (.Compare a [.LtE] [b] pos) k δ2 := dt_ii op_le ha hb hk (nomark _)
theorem dt_gt {k : Bool} {i j : Int} (ha : DE X δ a (.d (.int i)) δ1) (hb : DE X δ1 b (.d (.int j)) δ2) (hk : decide (j < i) = k) : DT X δ (.Compare a [.Gt] [b] pos) k δ2 := dt_ii op_gt ha hb hk (nomark _)
theorem dt_ge {k : Bool} {i j : Int} (ha : DE X δ a (.d (.int i)) δ1) (hb : DE X δ1 b (.d (.int j)) δ2) (hk : decide (j ≤ i) = k) : DT X δ (.Compare a [.GtE] [b] pos) k δ2 := dt_ii op_ge ha hb hk (nomark _)
theorem de_lt {k : Bool} {i j : Int} (ha : DE X δ a (.d (.int i)) δ1) (hb : DE X δ1 b (.d (.int j)) δ2) (hk : decide (i < j) = k) : DE X δ (.Compare a [.Lt] [b] pos) (.d (.bl k)) δ2 := de_cmp op_lt ha hb (opd_ii fun _ => by rw [hk]; exact .bl k) (nomark _)
theorem de_le {k : Bool} {i j : Int} (ha : DE X δ a (.d (.int i)) δ1) (hb : DE X δ1 b (.d (.int j)) δ2) (hk : decide (i ≤ j) = k) : DE X δ (.Compare a [.LtE] [b] pos) (.d (.bl k)) δ2 := de_cmp op_le ha hb (opd_ii fun _ => by rw [hk]; exact .bl k) (nomark _)
theorem de_gt {k : Bool} {i j : Int} (ha : DE X δ a (.d (.int i)) δ1) (hb : DE X δ1 b (.d (.int j)) δ2) (hk : decide (j < i) = k) : DE X δ (.Compare a [.Gt] [b] pos) (.d (.bl k)) δ2 := de_cmp op_gt ha hb (opd_ii fun _ => by rw [hk]; exact .bl k) (nomark _)
theorem de_ge {k : Bool} {i j : Int} (ha : DE X δ a (.d (.int i)) δ1) (hb : DE X δ1 b (.d (.int j)) δ2) (hk : decide (j ≤ i) = k) : DE X δ (.Compare a [.GtE] [b] pos) (.d (.bl k)) δ2 := de_cmp op_ge ha hb (opd_ii fun _ => by rw [hk]; exact .bl k) (nomark _)
theorem dt_eq {k : Bool} {n : Nat} (hr : Room n X.A) (hx : x.sh) (hy : y.sh) (ha : DE X δ a (.d x) δ1) (hb : DE X δ1 b (.d y) δ2) (hk : x.eqv y = k) : DT X δ (.Compare a [.Eq] [b] pos) k δ2 := dt_cmp (op_eqD hr.units) ha hb (fun F H v u Q e rv ru k' =>
  ⟨x.py, y.py, rv.dp e hx.1, ru.dp e hy.1, hx.py, hy.py, k' _ (by show Rp F (.bl (x.eqv y)) _; rw [hk]; exact .bl k)⟩) (nomark _)
theorem dt_ne {k : Bool} {n : Nat} (hr : Room n X.A) (hx : x.sh) (hy : y.sh) (ha : DE X δ a (.d x) δ1) (hb : DE X δ1 b (.d y) δ2) (hk : (!x.eqv y) = k) : DT X δ (.Compare a [.NotEq] [b] pos) k δ2 := dt_cmp (op_neD hr.units) ha hb (fun F H v u Q e rv ru k' =>
  ⟨x.py, y.py, rv.dp e hx.1, ru.dp e hy.1, hx.py, hy.py, k' _ (by show Rp F (.bl (!x.eqv y)) _; rw [hk]; exact .bl k)⟩) (nomark _)
/-- is None -/
def D.isNon : D → Bool
  | .non => true
  | _ => false
theorem Rp.isNon {F : Hp} {v : V} {d : D} (h : Rp F v d) : decide (v = .non) = d.isNon := by
  cases h <;> simp [D.isNon]
theorem de_isN {j : Nat} {p2 : Pos} (ha : DE X δ a (.d x) δ1) : DE X δ (.Compare a [.Is] [.Constant .none j p2] pos) (.d (.bl x.isNon)) δ1 := de_cmp op_isN ha de_non (fun F H v u Q e rv ru k => by
  cases ru
  exact ⟨rfl, k _ (by rw [rv.isNon]; exact .bl _)⟩) (nomark _)
theorem de_notN {j : Nat} {p2 : Pos} (ha : DE X δ a (.d x) δ1) : DE X δ (.Compare a [.IsNot] [.Constant .none j p2] pos) (.d (.bl (!x.isNon))) δ1 := de_cmp op_notN ha de_non (fun F H v u Q e rv ru k => by
  cases ru
  exact ⟨rfl, k _ (by rw [rv.isNon]; exact .bl _)⟩) (nomark _)
theorem dt_isN {j : Nat} {p2 : Pos} {k : Bool} (ha : DE X δ a (.d x) δ1) (hk : x.isNon = k) : DT X δ (.Compare a [.Is] [.Constant .none j p2] pos) k δ1 := dt_cmp op_isN ha de_non (fun F H v u Q e rv ru k' => by
  cases ru
  exact ⟨rfl, k' _ (by rw [rv.isNon, hk]; exact .bl _)⟩) (nomark _)
theorem dt_notN {j : Nat} {p2 : Pos} {k : Bool} (ha : DE X δ a (.d x) δ1) (hk : (!x.isNon) = k) : DT X δ (.Compare a [.IsNot] [.Constant .none j p2] pos) k δ1 := dt_cmp op_notN ha de_non (fun F H v u Q e rv ru k' => by
  cases ru
  exact ⟨rfl, k' _ (by rw [rv.isNon, hk]; exact .bl _)⟩) (nomark _)
/-- s <= t <= u, texts -/
theorem de_chain_le {s t u : Str} (ha : DE X δ a (.d (.str s)) δ) (hb : DE X δ b (.d (.str t)) δ) (hc : DE X δ c (.d (.str u)) δ) (hm : lastMarks [.LtE, .LtE] [b, c] = false := by with_unfolding_all rfl) :
    DE X δ (.Compare a [.LtE, .LtE] [b, c] pos) (.d (.bl (!decide (t.cps.toList < s.cps.toList) && !decide (u.cps.toList < t.cps.toList)))) δ :=
  (pe_chain op_le_str op_le_str ha hb hc hm).imp fun σ H Q ⟨F, R, k⟩ => by
    refine two_ ⟨F, R, fun v w F' H' g R' r1 r2 => ?_⟩
    cases r1; cases r2
    refine ⟨s, t, rfl, rfl, _, rfl, ?_⟩
    refine ite2 (fun q => ?_) fun q => ?_
    · refine ⟨F', R', fun z F2 H2 g2 R2 r3 => ?_⟩
      cases r3
      refine ⟨t, u, rfl, rfl, k _ F2 H2 (g.trans g2) R2 ?_⟩
      rw [q, Bool.true_and]
      exact .bl _
    · refine k _ F' H' g R' ?_
      rw [Bool.eq_false_iff.mpr q, Bool.false_and]
      exact .bl _

/-! ### and, or, not, if -/
variable {rest : List Expr} {p q : Bool}
theorem de_one {op : BoolOp} {r : DV} {δ' : List DV} (h : DE X δ a r δ') : DE X δ (.BoolOp op [a] pos) r δ' := pe_one h
theorem de_and {δ2 : List DV} (ha : DE X δ a (.d (.bl p)) δ1) (hb : p = true → DE X δ1 (.BoolOp .And (b :: rest) pos) (.d (.bl q)) δ2) (he : p = false → δ2 = δ1) : DE X δ (.BoolOp .And (a :: b :: rest) pos) (.d (.bl (p && q))) δ2 := by
  cases p with
  | true => exact (pe_and ha (hb rfl)).imp fun σ H Q ⟨F, R, k⟩ => ⟨F, R, fun v F1 H1 g1 R1 r1 => by
      cases r1
      refine ⟨true, rfl, iteT ⟨F1, R1, fun w F2 H2 g2 R2 r2 => k w F2 H2 (g1.trans g2) R2 (by rw [Bool.true_and]; exact r2)⟩⟩⟩
  | false =>
    rw [he rfl]
    exact (pe_and (tb := fun _ _ _ => False) ha ⟨fun _ _ _ _ _ _ h => h.elim⟩).imp fun σ H Q ⟨F, R, k⟩ => ⟨F, R, fun v F1 H1 g1 R1 r1 => by
      cases r1
      exact ⟨false, rfl, iteF (k _ F1 H1 g1 R1 (by rw [Bool.false_and]; exact .bl _))⟩⟩
theorem de_or {δ2 : List DV} (ha : DE X δ a (.d (.bl p)) δ1) (hb : p = false → DE X δ1 (.BoolOp .Or (b :: rest) pos) (.d (.bl q)) δ2) (he : p = true → δ2 = δ1) : DE X δ (.BoolOp .Or (a :: b :: rest) pos) (.d (.bl (p || q))) δ2 := by
  cases p with
  | false => exact (pe_or ha (hb rfl)).imp fun σ H Q ⟨F, R, k⟩ => ⟨F, R, fun v F1 H1 g1 R1 r1 => by
      cases r1
      refine ⟨false, rfl, iteF ⟨F1, R1, fun w F2 H2 g2 R2 r2 => k w F2 H2 (g1.trans g2) R2 (by rw [Bool.false_or]; exact r2)⟩⟩⟩
  | true =>
    rw [he rfl]
    exact (pe_or (tb := fun _ _ _ => False) ha ⟨fun _ _ _ _ _ _ h => h.elim⟩).imp fun σ H Q ⟨F, R, k⟩ => ⟨F, R, fun v F1 H1 g1 R1 r1 => by
      cases r1
      exact ⟨true, rfl, iteT (k _ F1 H1 g1 R1 (by rw [Bool.true_or]; exact .bl _))⟩⟩
theorem de_not (ha : DE X δ a (.d (.bl p)) δ1) : DE X δ (.UnaryOp .Not a pos) (.d (.bl (!p))) δ1 := (pe_not ha).imp fun σ H Q ⟨F, R, k⟩ => ⟨F, R, fun v F1 H1 g1 R1 r1 => by
  cases r1
  exact ⟨p, rfl, k _ F1 H1 g1 R1 (.bl _)⟩⟩
theorem de_ifT {t : Bool} {ra : DV} (hc : DT X δ c t δ1) (h : t = true) (ha : DE X δ1 a ra δ2) : DE X δ (.IfExp c a b pos) ra δ2 := by
  subst h
  exact (pe_ifExp (tb := fun _ _ _ => False) hc ha ⟨fun _ _ _ _ _ _ h => h.elim⟩).imp fun σ H Q ⟨F, R, k⟩ => ⟨F, R, fun F1 H1 g1 R1 => iteT ⟨F1, R1, fun w F2 H2 g2 R2 r2 => k w F2 H2 (g1.trans g2) R2 (Res.back g1 r2)⟩⟩
theorem de_ifF {t : Bool} {ra : DV} (hc : DT X δ c t δ1) (h : t = false) (hb : DE X δ1 b ra δ2) : DE X δ (.IfExp c a b pos) ra δ2 := by
  subst h
  exact (pe_ifExp (ta := fun _ _ _ => False) hc ⟨fun _ _ _ _ _ _ h => h.elim⟩ hb).imp fun σ H Q ⟨F, R, k⟩ => ⟨F, R, fun F1 H1 g1 R1 => iteF ⟨F1, R1, fun w F2 H2 g2 R2 r2 => k w F2 H2 (g1.trans g2) R2 (Res.back g1 r2)⟩⟩
theorem de_if {t : Bool} {ra rb : DV} (hc : DT X δ c t δ1) (ha : t = true → DE X δ1 a ra δ2) (hb : t = false → DE X δ1 b rb δ2) : DE X δ (.IfExp c a b pos) (if t then ra else rb) δ2 := by
  cases t with
  | true => exact de_ifT hc rfl (ha rfl)
  | false => exact de_ifF hc rfl (hb rfl)
/-! ### tests -/
theorem dt_bl (h : DE X δ e (.d (.bl p)) δ1) (he : ∀ whole, isTrue e X.env whole = (do let v ← whole; standAt e.pos; holding [v] (truthy v)) := by intro _; rfl) : DT X δ e p δ1 := (pt_val h he).imp fun σ H Q ⟨F, R, k⟩ => ⟨F, R, fun v F1 H1 g1 R1 r1 => by
  cases r1
  exact ⟨p, rfl, k F1 H1 g1 R1⟩⟩
theorem dt_not (h : DT X δ a p δ1) : DT X δ (.UnaryOp .Not a pos) (!p) δ1 := (pt_not h).imp fun σ H Q h => h
/-- a test of and, or, whatever stands around -/
abbrev DW (X : Cx) (δ : List DV) (e : Expr) (b : Bool) (δ' : List DV) : Prop := PW X e (tDT δ b δ')
theorem PW.imp {X : Cx} {e : Expr} {t u : TT} (h : PW X e t) (k : ∀ σ H Q, u σ H Q → t σ H Q) : PW X e u := ⟨fun wh pins s σ H Q I q => h.run wh pins s σ H Q I (k _ _ _ q)⟩
theorem dw_and1 (h : DT X δ a p δ1) : DW X δ (.BoolOp .And [a] pos) p δ1 := pw_and1 h
theorem dw_or1 (h : DT X δ a p δ1) : DW X δ (.BoolOp .Or [a] pos) p δ1 := pw_or1 h
theorem dw_and {δ2 : List DV} (ha : DT X δ a p δ1) (hb : p = true → DW X δ1 (.BoolOp .And (b :: rest) pos) q δ2) (he : p = false → δ2 = δ1) : DW X δ (.BoolOp .And (a :: b :: rest) pos) (p && q) δ2 := by
  cases p with
  | true => exact PW.imp (pw_and ha (hb rfl)) fun σ H Q ⟨F, R, k⟩ => ⟨F, R, fun F1 H1 g1 R1 => iteT ⟨F1, R1, fun F2 H2 g2 R2 => k F2 H2 (g1.trans g2) R2⟩⟩
  | false =>
    rw [he rfl]
    exact PW.imp (pw_and (tB' := fun _ _ _ => False) ha ⟨fun _ _ _ _ _ _ _ h => h.elim⟩) fun σ H Q ⟨F, R, k⟩ => ⟨F, R, fun F1 H1 g1 R1 => iteF (k F1 H1 g1 R1)⟩
theorem dw_or {δ2 : List DV} (ha : DT X δ a p δ1) (hb : p = false → DW X δ1 (.BoolOp .Or (b :: rest) pos) q δ2) (he : p = true → δ2 = δ1) : DW X δ (.BoolOp .Or (a :: b :: rest) pos) (p || q) δ2 := by
  cases p with
  | false => exact PW.imp (pw_or ha (hb rfl)) fun σ H Q ⟨F, R, k⟩ => ⟨F, R, fun F1 H1 g1 R1 => iteF ⟨F1, R1, fun F2 H2 g2 R2 => k F2 H2 (g1.trans g2) R2⟩⟩
  | true =>
    rw [he rfl]
    exact PW.imp (pw_or (tB' := fun _ _ _ => False) ha ⟨fun _ _ _ _ _ _ _ h => h.elim⟩) fun σ H Q ⟨F, R, k⟩ => ⟨F, R, fun F1 H1 g1 R1 => iteT (k F1 H1 g1 R1)⟩
theorem dt_w (h : DW X δ e p δ1) : DT X δ e p δ1 := h.pt
/-- data's truth -/
def D.tru : D → Option Bool
  | .non => some false
  | .bl b => some b
  | .int i => some (i != 0)
  | .str s => if s.length ≤ sizeLine then some (s.length != 0) else none
  | .lst xs => some (!xs.isEmpty)
  | .tup xs => some (!xs.isEmpty)
  | _ => none
theorem RpA.emp {F : Hp} {vs : List V} {ds : List D} (h : RpA F vs ds) : vs.isEmpty = ds.isEmpty := by cases h <;> rfl
theorem Rp.tru {F H : Hp} {K : PySem.W.Frag} {v : V} {d : D} {k : Bool} (e : Ex F H) (h : Rp F v d) (hk : d.tru = some k) : TruV K v H k := by
  cases h with
  | non => simpa [D.tru, TruV] using hk.symm
  | bl b => simpa [D.tru, TruV] using hk.symm
  | int i => simpa [D.tru, TruV] using hk.symm
  | str s =>
    simp only [D.tru] at hk
    split at hk
    · rename_i hl
      refine ⟨hl, ?_⟩
      cases hk
      rw [Bool.eq_iff_iff]
      simp
    · cases hk
  | lst h1 r => exact .inl ⟨_, SqL.of (e _ _ h1), by rw [r.emp]; exact (Option.some.inj hk).symm⟩
  | tup h1 r => exact .inr (.inl ⟨_, SqT.of (e _ _ h1), by rw [r.emp]; exact (Option.some.inj hk).symm⟩)
  | dct _ _ _ => cases hk
  | exc _ _ _ => cases hk
  | exn _ => cases hk
  | fn _ => cases hk
theorem dt_tru {k : Bool} (h : DE X δ e (.d x) δ1) (hk : x.tru = some k) (he : ∀ whole, isTrue e X.env whole = (do let v ← whole; standAt e.pos; holding [v] (truthy v)) := by intro _; rfl) : DT X δ e k δ1 := (pt_truth h he).imp fun σ H Q ⟨F, R, k'⟩ => ⟨F, R, fun v F1 H1 g1 R1 r1 =>
  ⟨k, Rp.tru R1.sub r1 hk, k' F1 H1 g1 R1⟩⟩
/-- the truth of a list of the frame's own -/
theorem dt_ow {i : Nat} {n : Str} {xs : List D} (hN : X.N[i]? = some n) (hv : Vis X.env.scope n) (h : δ[i]? = some (.ow xs)) (hd : (n == ("__debug__" : Str)) = false := by decide) (hcd : (n == ("__classdict__" : Str)) = false := by decide) (he : ∀ whole, isTrue (.Name n pos) X.env whole = (do let v ← whole; standAt pos; holding [v] (truthy v)) := by intro _; rfl) :
    DT X δ (.Name n pos) (!xs.isEmpty) δ := (pt_truth (pe_var (i := i) hN hv hd hcd) he).imp fun σ H Q ⟨F, R, k⟩ => by
  obtain ⟨o, e, p, vs, q1, q2, q3, q4⟩ := R.at_ i _ h
  exact ⟨.ref p, by rw [e, q1], _, .inl ⟨_, SqL.of q3, rfl⟩, by rw [q4.emp]; exact k F H (.refl _ F H) R⟩

/-! ### displays, arguments -/
theorem da_nil : DA X δ [] [] δ := pa_nil.imp fun σ H Q ⟨F, R, k⟩ => k [] F H (.refl _ F H) R .nil
theorem AVs.ex {F F' : Hp} {σ : L2.St} (e : Ex F F') : ∀ {vs : List V} {as : List AV}, AVs F σ vs as → AVs F' σ vs as
  | _, _, .nil => .nil
  | _, .d x :: _, .cons r t => .cons (show Rp F' _ x from Rp.ex e r) (AVs.ex e t)
  | _, .sl i :: _, .cons r t => .cons r (AVs.ex e t)
  | _, .raw w :: _, .cons r t => .cons r (AVs.ex e t)
  | _, .pr P :: _, .cons r t => .cons (fun F2 e2 => r F2 (e.trans e2)) (AVs.ex e t)
variable {es : List Expr} {as : List AV}
theorem da_cons (ha : DE X δ e (.d x) δ1) (hr : DA X δ1 es as δ2) (hs : starEach (e :: es) X.env = (false, eval e X.env) :: starEach es X.env := by rfl) : DA X δ (e :: es) (.d x :: as) δ2 := (pa_cons ha hr hs).imp fun σ H Q ⟨F, R, k⟩ => ⟨F, R, fun v F1 H1 g1 R1 r1 => ⟨F1, R1, fun vs F2 H2 g2 R2 r2 => k _ F2 H2 (g1.trans g2) R2 (.cons (show Rp F2 v x from Rp.ex g2.ff r1) r2)⟩⟩
theorem da_raw {w : V} (ha : DE X δ e (.raw w) δ1) (hr : DA X δ1 es as δ2) (hs : starEach (e :: es) X.env = (false, eval e X.env) :: starEach es X.env := by rfl) : DA X δ (e :: es) (.raw w :: as) δ2 := (pa_cons ha hr hs).imp fun σ H Q ⟨F, R, k⟩ => ⟨F, R, fun v F1 H1 g1 R1 r1 => ⟨F1, R1, fun vs F2 H2 g2 R2 r2 => k _ F2 H2 (g1.trans g2) R2 (.cons (show v = w from r1) r2)⟩⟩
theorem da_pr {P : Hp → V → Prop} (ha : DE X δ e (.pr P) δ1) (hr : DA X δ1 es as δ2) (hs : starEach (e :: es) X.env = (false, eval e X.env) :: starEach es X.env := by rfl) : DA X δ (e :: es) (.pr P :: as) δ2 := (pa_cons ha hr hs).imp fun σ H Q ⟨F, R, k⟩ => ⟨F, R, fun v F1 H1 g1 R1 r1 => ⟨F1, R1, fun vs F2 H2 g2 R2 r2 => k _ F2 H2 (g1.trans g2) R2 (.cons (show ∀ F3, Ex F2 F3 → P F3 v from fun F3 e => r1 F3 (g2.ff.trans e)) r2)⟩⟩
theorem da_c {w : V} (ha : PE X e (tC w)) (hr : DA X δ es as δ2) (hs : starEach (e :: es) X.env = (false, eval e X.env) :: starEach es X.env := by rfl) : DA X δ (e :: es) (.raw w :: as) δ2 := (pa_cons ha hr hs).imp fun σ H Q ⟨F, R, k⟩ => ⟨F, R, fun vs F2 H2 g2 R2 r2 => k _ F2 H2 g2 R2 (.cons (show w = w from rfl) r2)⟩
theorem da_sl {i : Nat} {n : Str} {xs : List D} (hN : X.N[i]? = some n) (hv : Vis X.env.scope n) (h : δ[i]? = some (.ow xs)) (hr : DA X δ es as δ2) (hs : starEach (.Name n pos :: es) X.env = (false, eval (.Name n pos) X.env) :: starEach es X.env := by rfl)
    (hd : (n == ("__debug__" : Str)) = false := by decide) (hcd : (n == ("__classdict__" : Str)) = false := by decide) : DA X δ (.Name n pos :: es) (.sl i :: as) δ2 := (pa_cons (pe_var (i := i) hN hv hd hcd) hr hs).imp fun σ H Q ⟨F, R, k⟩ => by
  obtain ⟨o, e, p, vs, q1, q2, q3, q4⟩ := R.at_ i _ h
  have e2 : σ[i]? = some (some (.ref p)) := by rw [e, q1]
  exact ⟨.ref p, e2, F, R, fun vs F2 H2 g2 R2 r2 => k _ F2 H2 g2 R2 (.cons (show σ[i]? = some (some (.ref p)) from e2) r2)⟩
/-- arguments that are data alone -/
def AV.ds : List AV → Option (List D)
  | [] => some []
  | .d x :: r => (AV.ds r).map (x :: ·)
  | _ :: _ => none
theorem AVs.rpA {F : Hp} {σ : L2.St} : ∀ {vs : List V} {as : List AV} {ds : List D}, AVs F σ vs as → AV.ds as = some ds → RpA F vs ds
  | _, _, _, .nil, h => by cases h; exact .nil
  | _, .d x :: as, _, .cons r t, h => by
    obtain ⟨l, h1, rfl⟩ := Option.map_eq_some_iff.mp (show (AV.ds as).map (x :: ·) = some _ from h)
    exact .cons r (AVs.rpA t h1)
  | _, .sl _ :: _, _, .cons _ _, h => by cases h
  | _, .raw _ :: _, _, .cons _ _, h => by cases h
  | _, .pr _ :: _, _, .cons _ _, h => by cases h
theorem de_lst {ds : List D} (h : DA X δ es as δ1) (hd : AV.ds as = some ds) (hl : ds.length ≤ sizeLine) : DE X δ (.List es pos) (.ow ds) δ1 := (pe_lst h).imp fun σ H Q ⟨F, R, k⟩ => ⟨F, R, fun vs F1 H1 g1 R1 r1 => by
  have ra := r1.rpA hd
  exact ⟨by rw [ra.length]; exact hl, fun p hp => fin_own k g1 R1 hp ra⟩⟩
theorem de_tup {ds : List D} {j : Nat} (h : DA X δ es as δ1) (hd : AV.ds as = some ds) (hl : ds.length ≤ sizeLine) : DE X δ (.Tuple es j pos) (.d (.tup ds)) δ1 := (pe_tup h).imp fun σ H Q ⟨F, R, k⟩ => ⟨F, R, fun vs F1 H1 g1 R1 r1 => by
  have ra := r1.rpA hd
  exact ⟨by rw [ra.length]; exact hl, fun p hp => fin_new k g1 R1 hp (.tup upd_same (ra.ex (.new (R1.sub.none hp))))⟩⟩
theorem de_dct0 : DE X δ (.Dict [] [] pos) (.d (.dct [] [])) δ := pe_dnewK.imp fun σ H Q ⟨F, R, k⟩ => fun p hp => fin_new k (.refl _ F H) R hp (.dct upd_same rfl .nil)

/-! ### built-ins by name -/
/-- a call on values that gives data, the heap as it was -/
def CaD (r : List V → Hp → VK → Prop) (as : List AV) (z : D) : Prop := ∀ (F H : Hp) (σ : L2.St) (vs : List V) (Q : VK), Ex F H → AVs F σ vs as → (∀ w, Rp F w z → Q w H) → r vs H Q
def CaL (r : List V → Hp → VK → Prop) (as : List AV) (zs : List D) : Prop := ∀ (F H : Hp) (σ : L2.St) (vs : List V) (Q : VK), Ex F H → AVs F σ vs as → (∀ p us, H p = none → RpA F us zs → Q (.ref p) (upd H p (.lst us))) → r vs H Q
def CaT (r : List V → Hp → VK → Prop) (as : List AV) (zs : List D) : Prop := ∀ (F H : Hp) (σ : L2.St) (vs : List V) (Q : VK), Ex F H → AVs F σ vs as → (∀ p us, H p = none → RpA F us zs → Q (.ref p) (upd H p (.tup us))) → r vs H Q
theorem ca_d {q : List V → Hp → VK → Prop} (hr : CaD q as z) {Q : VK} (h : tD δ (.d z) δ1 σ H Q) : tCB q (tDA δ as δ1) σ H Q := by
  obtain ⟨F, R, k⟩ := h
  exact ⟨F, R, fun vs F1 H1 g1 R1 r1 => hr F1 H1 σ vs Q R1.sub r1 fun w rw => k w F1 H1 g1 R1 rw⟩
theorem ca_l {q : List V → Hp → VK → Prop} {zs : List D} (hr : CaL q as zs) {Q : VK} (h : tD δ (.ow zs) δ1 σ H Q) : tCB q (tDA δ as δ1) σ H Q := by
  obtain ⟨F, R, k⟩ := h
  exact ⟨F, R, fun vs F1 H1 g1 R1 r1 => hr F1 H1 σ vs Q R1.sub r1 fun p us hp ra => fin_own k g1 R1 hp ra⟩
theorem ca_t {q : List V → Hp → VK → Prop} {zs : List D} (hr : CaT q as zs) {Q : VK} (h : tD δ (.d (.tup zs)) δ1 σ H Q) : tCB q (tDA δ as δ1) σ H Q := by
  obtain ⟨F, R, k⟩ := h
  exact ⟨F, R, fun vs F1 H1 g1 R1 r1 => hr F1 H1 σ vs Q R1.sub r1 fun p us hp ra => fin_new k g1 R1 hp (.tup upd_same (ra.ex (.new (R1.sub.none hp))))⟩
end
end DL
end
section
set_option Elab.async false
set_option linter.all false
set_option maxRecDepth 100000
/-! DLc: built-in functions, subscripts, slices over frames of data. -/
namespace DL
open PySem PySem.Spec PyProof.Rows L2
variable [TL]

section
variable {X : Cx} {δ δ1 δ2 δ3 : List DV} {a b c e : Expr} {x y z r : D} {pos p1 p2 : Pos} {σ : L2.St} {H : Hp} {F : Hp} {es : List Expr} {as : List AV}

/-! ### calls of built-ins by name -/
theorem de_bi {n : Str} {id : String} {q : List V → Hp → VK → Prop} (hc : CallR X (.builtin id) q) (hg : Gl X n) (hm : X.mg n = none) (hv : bootBuiltins n = some (.builtin id)) (ha : DA X δ (e :: es) as δ1) (hr : CaD q as z) (hn : n ≠ "__name__" := by decide) (hdb : (n == ("__debug__" : Str)) = false := by decide)
    (he : starEach (e :: es) X.env = (false, eval e X.env) :: starEach es X.env := by rfl) (hpl : (backTo pos (starEach es X.env)).any (·.1) = false := by rfl) : DE X δ (.Call (.Name n p1) (e :: es) [] pos) (.d z) δ1 := (pe_callB hc hg hm hv ha hn hdb he hpl).imp fun _ _ _ h => ca_d hr h
theorem de_biL {n : Str} {id : String} {q : List V → Hp → VK → Prop} {zs : List D} (hc : CallR X (.builtin id) q) (hg : Gl X n) (hm : X.mg n = none) (hv : bootBuiltins n = some (.builtin id)) (ha : DA X δ (e :: es) as δ1) (hr : CaL q as zs) (hn : n ≠ "__name__" := by decide) (hdb : (n == ("__debug__" : Str)) = false := by decide)
    (he : starEach (e :: es) X.env = (false, eval e X.env) :: starEach es X.env := by rfl) (hpl : (backTo pos (starEach es X.env)).any (·.1) = false := by rfl) : DE X δ (.Call (.Name n p1) (e :: es) [] pos) (.ow zs) δ1 := (pe_callB hc hg hm hv ha hn hdb he hpl).imp fun _ _ _ h => ca_l hr h
theorem de_ty {n : Str} {T : String} {q : List V → Hp → VK → Prop} (hc : CallR X (.type T) q) (hg : Gl X n) (hm : X.mg n = none) (hv : bootBuiltins n = some (.type T)) (ha : DA X δ (e :: es) as δ1) (hr : CaD q as z) (hn : n ≠ "__name__" := by decide) (hdb : (n == ("__debug__" : Str)) = false := by decide)
    (he : starEach (e :: es) X.env = (false, eval e X.env) :: starEach es X.env := by rfl) (hpl : (backTo pos (starEach es X.env)).any (·.1) = false := by rfl) : DE X δ (.Call (.Name n p1) (e :: es) [] pos) (.d z) δ1 := (pe_callTy hc hg hm hv ha hn hdb he hpl).imp fun _ _ _ h => ca_d hr h
theorem de_tyL {n : Str} {T : String} {q : List V → Hp → VK → Prop} {zs : List D} (hc : CallR X (.type T) q) (hg : Gl X n) (hm : X.mg n = none) (hv : bootBuiltins n = some (.type T)) (ha : DA X δ (e :: es) as δ1) (hr : CaL q as zs) (hn : n ≠ "__name__" := by decide) (hdb : (n == ("__debug__" : Str)) = false := by decide)
    (he : starEach (e :: es) X.env = (false, eval e X.env) :: starEach es X.env := by rfl) (hpl : (backTo pos (starEach es X.env)).any (·.1) = false := by rfl) : DE X δ (.Call (.Name n p1) (e :: es) [] pos) (.ow zs) δ1 := (pe_callTy hc hg hm hv ha hn hdb he hpl).imp fun _ _ _ h => ca_l hr h
theorem de_tyT {n : Str} {T : String} {q : List V → Hp → VK → Prop} {zs : List D} (hc : CallR X (.type T) q) (hg : Gl X n) (hm : X.mg n = none) (hv : bootBuiltins n = some (.type T)) (ha : DA X δ (e :: es) as δ1) (hr : CaT q as zs) (hn : n ≠ "__name__" := by decide) (hdb : (n == ("__debug__" : Str)) = false := by decide)
    (he : starEach (e :: es) X.env = (false, eval e X.env) :: starEach es X.env := by rfl) (hpl : (backTo pos (starEach es X.env)).any (·.1) = false := by rfl) : DE X δ (.Call (.Name n p1) (e :: es) [] pos) (.d (.tup zs)) δ1 := (pe_callTy hc hg hm hv ha hn hdb he hpl).imp fun _ _ _ h => ca_t hr h

theorem AVs.one {F : Hp} {σ : L2.St} {vs : List V} {x : D} (h : AVs F σ vs [.d x]) : ∃ v, vs = [v] ∧ Rp F v x := by
  cases h with
  | cons r t => cases t; exact ⟨_, rfl, r⟩
theorem AVs.two {F : Hp} {σ : L2.St} {vs : List V} {x y : D} (h : AVs F σ vs [.d x, .d y]) : ∃ v w, vs = [v, w] ∧ Rp F v x ∧ Rp F w y := by
  cases h with
  | cons r t =>
    cases t with
    | cons r2 t => cases t; exact ⟨_, _, rfl, r, r2⟩
/-- len -/
def D.len : D → Option Nat
  | .str s => if s.length ≤ sizeLine then some s.length else none
  | .lst xs => some xs.length
  | .tup xs => some xs.length
  | _ => none
theorem de_len {n : Nat} (hg : Gl X "len") (hm : X.mg "len" = none) (ha : DE X δ a (.d x) δ1) (hl : x.len = some n) (he : starEach [a] X.env = (false, eval a X.env) :: starEach [] X.env := by rfl) : DE X δ (.Call (.Name "len" p1) [a] [] pos) (.d (.int n)) δ1 :=
  de_bi call_len hg hm boot_len (da_cons ha da_nil he) (fun F H σ vs Q ex h k => by
    obtain ⟨v, rfl, r⟩ := h.one
    refine ⟨v, n, rfl, ?_, k _ (.int _)⟩
    cases r with
    | str s =>
      simp only [D.len] at hl
      split at hl
      · rename_i q; cases hl; exact ⟨q, rfl⟩
      · cases hl
    | lst h1 r => cases hl; exact .inl ⟨_, SqL.of (ex _ _ h1), r.length.symm⟩
    | tup h1 r => cases hl; exact .inr ⟨_, SqT.of (ex _ _ h1), r.length.symm⟩
    | _ => cases hl) (he := he)
/-- len of a list of the frame's own -/
theorem de_lenO {i : Nat} {n : Str} {xs : List D} (hg : Gl X "len") (hm : X.mg "len" = none) (hN : X.N[i]? = some n) (hv : Vis X.env.scope n) (h : δ[i]? = some (.ow xs)) (hd : (n == ("__debug__" : Str)) = false := by decide) (hcd : (n == ("__classdict__" : Str)) = false := by decide)
    (he : starEach [Expr.Name n p2] X.env = (false, eval (.Name n p2) X.env) :: starEach [] X.env := by rfl) : DE X δ (.Call (.Name "len" p1) [.Name n p2] [] pos) (.d (.int xs.length)) δ :=
  (pe_callB call_len hg hm boot_len (pa_cons (pe_var (i := i) hN hv hd hcd) pa_nil he) (he := he)).imp fun σ H Q ⟨F, R, k⟩ => by
    obtain ⟨o, e, p, vs, q1, q2, q3, q4⟩ := R.at_ i _ h
    exact ⟨.ref p, by rw [e, q1], .ref p, vs.length, rfl, .inl ⟨_, SqL.of q3, rfl⟩, by rw [q4.length]; exact k _ F H (.refl _ F H) R (.int _)⟩
/-- isinstance: what class data is of -/
def D.cls : D → Value
  | .non => .type "NoneType"
  | .bl _ => .type "bool"
  | .int _ => .type "int"
  | .str _ => .type "str"
  | .lst _ => .type "list"
  | .tup _ => .type "tuple"
  | .dct _ _ => .type "dict"
  | .exc C _ => .ref C
  | .fn _ => .type "function"
def D.plain : D → Bool
  | .exc _ _ => false
  | .fn _ => false
  | _ => true
theorem Rp.tyx {F H : Hp} {K : PySem.W.Frag} {v : V} {d : D} (e : Ex F H) (h : Rp F v d) (hp : d.plain = true) : TyX K H v d.cls := by
  cases h with
  | non => exact .base .non
  | bl b => exact .base (.bl b)
  | int i => exact .base (.int i)
  | str s => exact .base (.str s)
  | lst h1 r => exact .base (.lst (e _ _ h1))
  | tup h1 r => exact .base (.tup (e _ _ h1))
  | dct h1 _ r => exact .base (.dK (e _ _ h1))
  | exc _ _ _ => cases hp
  | exn _ => cases hp
  | fn _ => cases hp
/-- of a built-in class: by names -/
def D.isi (T : String) : D → Bool
  | .bl _ => T == "bool" || T == "int"
  | .int _ => T == "int"
  | .str _ => T == "str"
  | .lst _ => T == "list"
  | .tup _ => T == "tuple"
  | .dct _ _ => T == "dict"
  | _ => false
theorem kit_cls {K : PySem.W.Frag} {T : String} (hT : T = "bool" ∨ T = "int" ∨ T = "str" ∨ T = "list" ∨ T = "tuple" ∨ T = "dict") (hp : x.plain = true) : PySem.W.kitOne K x.cls (.type T) = some (x.isi T) := by
  rcases hT with rfl | rfl | rfl | rfl | rfl | rfl <;> cases x <;> first | (cases hp; done) | (refine kit_ty ?_; simp only [D.isi]; decide +kernel)
theorem de_isi {T : Str} {n : String} (hg : Gl X "isinstance") (hm : X.mg "isinstance" = none) (ha : DE X δ a (.d x) δ1) (hp : x.plain = true) (hg2 : Gl X T) (hm2 : X.mg T = none) (hv : bootBuiltins T = some (.type n)) (hT : n = "bool" ∨ n = "int" ∨ n = "str" ∨ n = "list" ∨ n = "tuple" ∨ n = "dict")
    (hn : T ≠ "__name__" := by decide) (hdb : (T == ("__debug__" : Str)) = false := by decide)
    (he : starEach [a, .Name T p2] X.env = (false, eval a X.env) :: starEach [.Name T p2] X.env := by rfl) (he2 : starEach [Expr.Name T p2] X.env = (false, eval (.Name T p2) X.env) :: starEach [] X.env := by rfl) (hpl : (backTo pos (starEach [Expr.Name T p2] X.env)).any (·.1) = false := by rfl) :
    DE X δ (.Call (.Name "isinstance" p1) [a, .Name T p2] [] pos) (.d (.bl (x.isi n))) δ1 :=
  de_bi call_isi hg hm (by decide +kernel) (da_cons ha (da_c (pe_bltn (v := .ty n) hg2 hm2 hv rfl hn hdb) da_nil he2) he) (fun F H σ vs Q ex h k => by
    cases h with
    | cons r t =>
      cases t with
      | cons r2 t =>
        cases t
        cases (show _ = V.ty n from r2)
        exact ⟨_, _, _, .type n, _, rfl, .ty n, Rp.tyx ex r hp, kit_cls hT hp, k _ (.bl _)⟩) (he := he) (hpl := hpl)
theorem kit_any {K : PySem.W.Frag} {T U : String} (hT : T = "bool" ∨ T = "int" ∨ T = "str" ∨ T = "list" ∨ T = "tuple" ∨ T = "dict") (hU : U = "bool" ∨ U = "int" ∨ U = "str" ∨ U = "list" ∨ U = "tuple" ∨ U = "dict") (hp : x.plain = true) :
    PySem.W.kitAny K x.cls [.type T, .type U] = some (x.isi T || x.isi U) := by
  refine kitAny_cons (kit_cls hT hp) (fun h => ?_) fun h => by rw [h]; rfl
  refine kitAny_cons (kit_cls hU hp) (fun h2 => ?_) fun h2 => by rw [h2]; simp
  rw [h, h2]; exact kitAny_nil
theorem kit_any3 {K : PySem.W.Frag} {T U W : String} (hT : T = "bool" ∨ T = "int" ∨ T = "str" ∨ T = "list" ∨ T = "tuple" ∨ T = "dict") (hU : U = "bool" ∨ U = "int" ∨ U = "str" ∨ U = "list" ∨ U = "tuple" ∨ U = "dict") (hW : W = "bool" ∨ W = "int" ∨ W = "str" ∨ W = "list" ∨ W = "tuple" ∨ W = "dict") (hp : x.plain = true) :
    PySem.W.kitAny K x.cls [.type T, .type U, .type W] = some (x.isi T || x.isi U || x.isi W) := by
  refine kitAny_cons (kit_cls hT hp) (fun h => ?_) fun h => by rw [h]; rfl
  refine kitAny_cons (kit_cls hU hp) (fun h2 => ?_) fun h2 => by rw [h2]; simp
  refine kitAny_cons (kit_cls hW hp) (fun h3 => ?_) fun h3 => by rw [h3]; simp
  rw [h, h2, h3]; exact kitAny_nil
/-- isinstance(x, (T, U)), (T, U, W) -/
theorem de_isT {cs : List V} {us : List Value} {tu : TA} {k : Bool} {j : Nat} (hg : Gl X "isinstance") (hm : X.mg "isinstance" = none) (ha : DE X δ a (.d x) δ1) (hp : x.plain = true) (ht : PA X es tu) (htu : ∀ σ H (Q : List V → Hp → Prop), Q cs H → tu σ H Q) (hl : cs.length ≤ sizeLine) (hcs : Paired ClsV cs us)
    (hk : ∀ K, PySem.W.kitAny K x.cls us = some k) (he : starEach [a, .Tuple es j p2] X.env = (false, eval a X.env) :: starEach [.Tuple es j p2] X.env := by rfl) (he2 : starEach [Expr.Tuple es j p2] X.env = (false, eval (.Tuple es j p2) X.env) :: starEach [] X.env := by rfl) (hpl : (backTo pos (starEach [Expr.Tuple es j p2] X.env)).any (·.1) = false := by rfl) :
    DE X δ (.Call (.Name "isinstance" p1) [a, .Tuple es j p2] [] pos) (.d (.bl k)) δ1 :=
  (pe_callB call_isiT hg hm (by decide +kernel) (pa_cons ha (pa_cons (pe_tup ht) pa_nil he2) he) (he := he) (hpl := hpl)).imp fun σ H Q ⟨F, R, kk⟩ => ⟨F, R, fun v F1 H1 g1 R1 r1 => by
    refine htu σ H1 _ ⟨hl, fun p hp' => ?_⟩
    have hF := R1.sub.none hp'
    refine ⟨_, p, cs, _, us, k, rfl, upd_same, hcs, Rp.tyx (R1.sub.trans (.new hp')) r1 hp, hk _, ?_⟩
    exact kk _ F1 _ (g1.trans (Go.newH hp')) (R1.newH hp') (.bl _)⟩
/-- max(a, b), min(a, b) of ints -/
theorem de_max2 {i j : Int} (hcm : X.calm = true) (hg : Gl X "max") (hm : X.mg "max" = none) (ha : DE X δ a (.d (.int i)) δ1) (hb : DE X δ1 b (.d (.int j)) δ2) (he : starEach [a, b] X.env = (false, eval a X.env) :: starEach [b] X.env := by rfl) (he2 : starEach [b] X.env = (false, eval b X.env) :: starEach [] X.env := by rfl) (hpl : (backTo pos (starEach [b] X.env)).any (·.1) = false := by rfl) :
    DE X δ (.Call (.Name "max" p1) [a, b] [] pos) (.d (.int (max i j))) δ2 :=
  de_bi (call_max2 hcm) hg hm (by decide +kernel) (da_cons ha (da_cons hb da_nil he2) he) (fun F H σ vs Q ex h k => by
    obtain ⟨v, w, rfl, r1, r2⟩ := h.two
    cases r1; cases r2
    refine ⟨i, j, rfl, k _ ?_⟩
    have e : (if j > i then j else i) = max i j := by split <;> omega
    rw [e]; exact .int _) (he := he) (hpl := hpl)
theorem de_min2 {i j : Int} (hcm : X.calm = true) (hg : Gl X "min") (hm : X.mg "min" = none) (ha : DE X δ a (.d (.int i)) δ1) (hb : DE X δ1 b (.d (.int j)) δ2) (he : starEach [a, b] X.env = (false, eval a X.env) :: starEach [b] X.env := by rfl) (he2 : starEach [b] X.env = (false, eval b X.env) :: starEach [] X.env := by rfl) (hpl : (backTo pos (starEach [b] X.env)).any (·.1) = false := by rfl) :
    DE X δ (.Call (.Name "min" p1) [a, b] [] pos) (.d (.int (min i j))) δ2 :=
  de_bi (call_min2 hcm) hg hm (by decide +kernel) (da_cons ha (da_cons hb da_nil he2) he) (fun F H σ vs Q ex h k => by
    obtain ⟨v, w, rfl, r1, r2⟩ := h.two
    cases r1; cases r2
    refine ⟨i, j, rfl, k _ ?_⟩
    have e : (if j < i then j else i) = min i j := by split <;> omega
    rw [e]; exact .int _) (he := he) (hpl := hpl)
/-- int(n) of an int -/
theorem de_intI {i : Int} (hg : Gl X "int") (hm : X.mg "int" = none) (ha : DE X δ a (.d (.int i)) δ1) (he : starEach [a] X.env = (false, eval a X.env) :: starEach [] X.env := by rfl) : DE X δ (.Call (.Name "int" p1) [a] [] pos) (.d (.int i)) δ1 :=
  de_ty call_int1 hg hm (by decide +kernel) (da_cons ha da_nil he) (fun F H σ vs Q ex h k => by
    obtain ⟨v, rfl, r⟩ := h.one
    cases r
    exact .inl ⟨i, rfl, k _ (.int _)⟩) (he := he)
/-- str(n) of an int -/
theorem de_strI {i : Int} (hg : Gl X "str") (hm : X.mg "str" = none) (ha : DE X δ a (.d (.int i)) δ1) (hi : i.natAbs.log2 < 1920) (he : starEach [a] X.env = (false, eval a X.env) :: starEach [] X.env := by rfl) : DE X δ (.Call (.Name "str" p1) [a] [] pos) (.d (.str (Str.ofString (toString i)))) δ1 :=
  de_ty call_str_int hg hm (by decide +kernel) (da_cons ha da_nil he) (fun F H σ vs Q ex h k => by
    obtain ⟨v, rfl, r⟩ := h.one
    cases r
    exact ⟨i, rfl, hi, k _ (.str _)⟩) (he := he)
/-- the ints, the bools of a list of data -/
theorem RpA.toInts {F : Hp} : ∀ {vs : List V} {ns : List Int}, RpA F vs (ns.map D.int) → vs = ns.map V.int
  | _, [], .nil => rfl
  | _, n :: ns, .cons r t => by cases r; rw [RpA.toInts t]; rfl
theorem RpA.toBls {F : Hp} : ∀ {vs : List V} {ns : List Bool}, RpA F vs (ns.map D.bl) → vs = ns.map V.bl
  | _, [], .nil => rfl
  | _, n :: ns, .cons r t => by cases r; rw [RpA.toBls t]; rfl
theorem RpA.toStrs {F : Hp} : ∀ {vs : List V} {ns : List Str}, RpA F vs (ns.map D.str) → vs = ns.map V.str
  | _, [], .nil => rfl
  | _, n :: ns, .cons r t => by cases r; rw [RpA.toStrs t]; rfl
theorem de_sum {ns : List Int} (hcm : X.calm = true) (hg : Gl X "sum") (hm : X.mg "sum" = none) (ha : DE X δ a (.d (.lst (ns.map D.int))) δ1) (he : starEach [a] X.env = (false, eval a X.env) :: starEach [] X.env := by rfl) : DE X δ (.Call (.Name "sum" p1) [a] [] pos) (.d (.int ns.sum)) δ1 :=
  de_bi (cr_sum hcm) hg hm (by decide +kernel) (da_cons ha da_nil he) (fun F H σ vs Q ex h k => by
    obtain ⟨v, rfl, r⟩ := h.one
    cases r with
    | lst h1 r => exact ⟨_, ns, rfl, SqL.of (by rw [← r.toInts]; exact ex _ _ h1), k _ (.int _)⟩) (he := he)
theorem de_all {bs : List Bool} (hcm : X.calm = true) (hg : Gl X "all") (hm : X.mg "all" = none) (ha : DE X δ a (.d (.lst (bs.map D.bl))) δ1) (he : starEach [a] X.env = (false, eval a X.env) :: starEach [] X.env := by rfl) : DE X δ (.Call (.Name "all" p1) [a] [] pos) (.d (.bl (bs.all id))) δ1 :=
  de_bi (cr_all hcm) hg hm (by decide +kernel) (da_cons ha da_nil he) (fun F H σ vs Q ex h k => by
    obtain ⟨v, rfl, r⟩ := h.one
    cases r with
    | lst h1 r => exact ⟨_, bs, rfl, SqL.of (by rw [← r.toBls]; exact ex _ _ h1), k _ (.bl _)⟩) (he := he)
/-- max of a list of ints, not empty -/
theorem de_maxL {ns : List Int} {m : Int} (hcm : X.calm = true) (hg : Gl X "max") (hm : X.mg "max" = none) (ha : DE X δ a (.d (.lst (ns.map D.int))) δ1) (h1 : m ∈ ns) (h2 : ∀ y ∈ ns, y ≤ m) (he : starEach [a] X.env = (false, eval a X.env) :: starEach [] X.env := by rfl) : DE X δ (.Call (.Name "max" p1) [a] [] pos) (.d (.int m)) δ1 :=
  de_bi (cr_max hcm) hg hm (by decide +kernel) (da_cons ha da_nil he) (fun F H σ vs Q ex h k => by
    obtain ⟨v, rfl, r⟩ := h.one
    cases r with
    | lst h0 r => exact ⟨_, ns, rfl, SqL.of (by rw [← r.toInts]; exact ex _ _ h0), List.length_pos_of_mem h1, fun m' h3 h4 => by
        have e : m' = m := by have a := h2 m' h3; have b := h4 m h1; omega
        rw [e]; exact k _ (.int _)⟩) (he := he)
/-- list(..) of a list, a tuple -/
theorem de_list {xs : List D} (hg : Gl X "list") (hm : X.mg "list" = none) (ha : DE X δ a (.d x) δ1) (hx : x = .lst xs ∨ x = .tup xs) (he : starEach [a] X.env = (false, eval a X.env) :: starEach [] X.env := by rfl) : DE X δ (.Call (.Name "list" p1) [a] [] pos) (.ow xs) δ1 :=
  de_tyL call_list_of hg hm (by decide +kernel) (da_cons ha da_nil he) (fun F H σ vs Q ex h k => by
    obtain ⟨v, rfl, r⟩ := h.one
    rcases hx with rfl | rfl
    · cases r with
      | lst h1 r => exact ⟨_, _, rfl, .inl (SqL.of (ex _ _ h1)), fun p hp => k p _ hp r⟩
    · cases r with
      | tup h1 r => exact ⟨_, _, rfl, .inr (SqT.of (ex _ _ h1)), fun p hp => k p _ hp r⟩) (he := he)
/-- tuple(..) of a list -/
theorem de_tuple {xs : List D} (hg : Gl X "tuple") (hm : X.mg "tuple" = none) (ha : DE X δ a (.d (.lst xs)) δ1) (he : starEach [a] X.env = (false, eval a X.env) :: starEach [] X.env := by rfl) : DE X δ (.Call (.Name "tuple" p1) [a] [] pos) (.d (.tup xs)) δ1 :=
  de_tyT call_tuple_of hg hm (by decide +kernel) (da_cons ha da_nil he) (fun F H σ vs Q ex h k => by
    obtain ⟨v, rfl, r⟩ := h.one
    cases r with
    | lst h1 r => exact ⟨_, _, rfl, .inl ⟨SqL.of (ex _ _ h1), fun p hp => k p _ hp r⟩⟩) (he := he)
/-- n.bit_length() -/
theorem de_bits {i : Int} {apos : Pos} (ha : DE X δ a (.d (.int i)) δ1) (h1 : attributeBase a "bit_length" X.env (eval a X.env) = eval a X.env := by rfl) (h2 : (apos.endLine == pos.line) = true := by rfl) : DE X δ (.Call (.Attribute a "bit_length" apos) [] [] pos) (.d (.int (Builtin.Int.intBits i : Nat))) δ1 :=
  (pe_bits ha h1 h2).imp fun σ H Q ⟨F, R, k⟩ => ⟨F, R, fun v F1 H1 g1 R1 r1 => by
    cases r1
    exact ⟨i, rfl, k _ F1 H1 g1 R1 (.int _)⟩⟩
/-- "".join(list of texts) -/
theorem de_join {s : Str} {ts : List Str} {apos : Pos} (ha : DE X δ a (.d (.str s)) δ1) (hb : DE X δ1 b (.d (.lst (ts.map D.str))) δ2) (hl : (ts.map fun x => x.length).sum + ts.length * s.length ≤ 16777216)
    (h0 : starEach [b] X.env = [(false, eval b X.env)] := by rfl) (h1 : attributeBase a "join" X.env (eval a X.env) = eval a X.env := by rfl) (h2 : (apos.endLine == pos.line) = true := by rfl) : DE X δ (.Call (.Attribute a "join" apos) [b] [] pos) (.d (.str (Txt.join s ts))) δ2 :=
  (pe_join ha hb h0 h1 h2).imp fun σ H Q ⟨F, R, k⟩ => ⟨F, R, fun v F1 H1 g1 R1 r1 => by
    cases r1
    refine ⟨⟨s, rfl⟩, F1, R1, fun w F2 H2 g2 R2 r2 => ?_⟩
    cases r2 with
    | lst h3 r => exact ⟨s, _, ts, rfl, rfl, .inl (SqL.of (by rw [← r.toStrs]; exact R2.sub _ _ h3)), hl, k _ F2 H2 (g1.trans g2) R2 (.str _)⟩⟩

/-! ### subscripts -/
theorem atI_len {α : Type} {xs : List α} {ys : List α} (h : xs.length = ys.length) {i : Int} : ixN xs.length i = ixN ys.length i := by rw [h]
theorem RpA.atI {F : Hp} {vs : List V} {ds : List D} {i : Int} {d : D} (h : RpA F vs ds) (hd : L2.atI ds i = some d) : ∃ v, L2.atI vs i = some v ∧ Rp F v d := by
  unfold L2.atI at hd ⊢
  rw [h.length]
  cases q : ixN ds.length i with
  | none => rw [q] at hd; cases hd
  | some j =>
    rw [q] at hd
    exact h.get hd
theorem de_ixT {xs : List D} {i : Int} (ha : DE X δ a (.d (.tup xs)) δ1) (hb : DE X δ1 b (.d (.int i)) δ2) (hi : L2.atI xs i = some z) (hp : PlainIx b := by exact fun _ _ => rfl) : DE X δ (.Subscript a b pos) (.d z) δ2 := (pe_ix ix_tup ha hb hp).imp fun _ _ _ h => op_d (fun F H v u Q e rv ru k => by
  cases ru
  cases rv with
  | tup h1 r =>
    obtain ⟨w, h2, h3⟩ := r.atI hi
    exact ⟨_, _, _, w, rfl, rfl, SqT.of (e _ _ h1), h2, k _ h3⟩) h
theorem de_ixL {xs : List D} {i : Int} (ha : DE X δ a (.d (.lst xs)) δ1) (hb : DE X δ1 b (.d (.int i)) δ2) (hi : L2.atI xs i = some z) (hp : PlainIx b := by exact fun _ _ => rfl) : DE X δ (.Subscript a b pos) (.d z) δ2 := (pe_ix ix_list ha hb hp).imp fun _ _ _ h => op_d (fun F H v u Q e rv ru k => by
  cases ru
  cases rv with
  | lst h1 r =>
    obtain ⟨w, h2, h3⟩ := r.atI hi
    exact ⟨_, _, _, w, rfl, rfl, SqL.of (e _ _ h1), h2, k _ h3⟩) h
/-- an item of a list of the frame's own -/
theorem de_ixO {i : Nat} {n : Str} {xs : List D} {j : Int} (hN : X.N[i]? = some n) (hv : Vis X.env.scope n) (hb : DE X δ b (.d (.int j)) δ1) (h : δ1[i]? = some (.ow xs)) (hi : L2.atI xs j = some z) (h0 : ∃ ys, δ[i]? = some (.ow ys)) (hp : PlainIx b := by exact fun _ _ => rfl) (hd : (n == ("__debug__" : Str)) = false := by decide) (hcd : (n == ("__classdict__" : Str)) = false := by decide) :
    DE X δ (.Subscript (.Name n p2) b pos) (.d z) δ1 := (pe_ix ix_list (pe_var (i := i) hN hv hd hcd) hb hp).imp fun σ H Q ⟨F, R, k⟩ => by
  obtain ⟨ys, h0⟩ := h0
  obtain ⟨o, e, p, vs, q1, q2, q3, q4⟩ := R.at_ i _ h0
  refine ⟨.ref p, by rw [e, q1], F, R, fun w F1 H1 g1 R1 r1 => ?_⟩
  cases r1
  obtain ⟨o', e', p', vs', q1', q2', q3', q4'⟩ := R1.at_ i _ h
  rw [e] at e'; cases e'
  rw [q1] at q1'; cases q1'
  obtain ⟨w, h2, h3⟩ := q4'.atI hi
  exact ⟨_, _, _, w, rfl, rfl, SqL.of q3', h2, k _ F1 H1 g1 R1 h3⟩

/-! ### slices -/
def tDO (δ : List DV) (o : Option Int) (δ' : List DV) : TO := fun σ H Q => ∃ F, Rs F H σ δ ∧ ∀ F' H', Go (Own σ δ) (Own σ δ') F H F' H' → Rs F' H' σ δ' → Q o H'
structure DO (X : Cx) (δ : List DV) (e : Option Expr) (o : Option Int) (δ' : List DV) : Prop where
  run : ∃ t, PO X e t ∧ ∀ σ H Q, tDO δ o δ' σ H Q → t σ H Q
theorem do_none : DO X δ none none δ := ⟨tNoPart, po_none, fun σ H Q ⟨F, R, k⟩ => k F H (.refl _ F H) R⟩
theorem do_some {i : Int} (h : DE X δ e (.d (.int i)) δ1) : DO X δ (some e) (some i) δ1 := ⟨_, po_some h, fun σ H Q ⟨F, R, k⟩ => ⟨F, R, fun v F1 H1 g1 R1 r1 => by
  cases r1
  exact ⟨i, rfl, k F1 H1 g1 R1⟩⟩⟩
def D.cut (xs : List D) (lo hi : Option Int) : List D := (xs.drop (HT.sIx xs.length 0 lo)).take (HT.sIx xs.length xs.length hi - HT.sIx xs.length 0 lo)
theorem RpA.cut {F : Hp} {vs : List V} {ds : List D} (h : RpA F vs ds) (lo hi : Option Int) : RpA F (cutV vs lo hi) (D.cut ds lo hi) := by
  unfold cutV D.cut
  rw [h.length]
  exact (h.drop _).take _
variable {lo hi : Option Expr} {i j : Option Int}
theorem sl_ {q : V → Option Int → Option Int → Hp → VK → Prop} {t u : TO} {G : V → Hp → Prop} (ht : ∀ σ H Q, tDO δ1 i δ2 σ H Q → t σ H Q) (hu : ∀ σ H Q, tDO δ2 j δ3 σ H Q → u σ H Q)
    (h : ∃ F, Rs F H σ δ ∧ ∀ v F' H', Go (Own σ δ) (Own σ δ3) F H F' H' → Rs F' H' σ δ3 → Rp F' v x → q v i j H' G) : tSl q (tD δ (.d x) δ1) t u σ H G := by
  obtain ⟨F, R, k⟩ := h
  exact ⟨F, R, fun v F1 H1 g1 R1 r1 => ht _ _ _ ⟨F1, R1, fun F2 H2 g2 R2 => hu _ _ _ ⟨F2, R2, fun F3 H3 g3 R3 => k v F3 H3 ((g1.trans g2).trans g3) R3 (Rp.ex (g2.ff.trans g3.ff) r1)⟩⟩⟩
theorem de_slL {xs : List D} (ha : DE X δ a (.d (.lst xs)) δ1) (hl : DO X δ1 lo i δ2) (hh : DO X δ2 hi j δ3) : DE X δ (.Subscript a (.Slice lo hi none p2) pos) (.ow (D.cut xs i j)) δ3 := by
  obtain ⟨t, pt, ht⟩ := hl.run
  obtain ⟨u, pu, hu⟩ := hh.run
  refine (pe_slice sl_list ha pt pu).imp fun σ H Q ⟨F, R, k⟩ => sl_ ht hu ⟨F, R, fun v F1 H1 g1 R1 r1 => ?_⟩
  cases r1 with
  | lst h1 r => exact ⟨_, _, rfl, SqL.of (R1.sub _ _ h1), fun p hp => fin_own k g1 R1 hp (r.cut i j)⟩
theorem de_slT {xs : List D} (ha : DE X δ a (.d (.tup xs)) δ1) (hl : DO X δ1 lo i δ2) (hh : DO X δ2 hi j δ3) (hn : ¬(HT.sIx xs.length 0 i = 0 ∧ HT.sIx xs.length xs.length j = xs.length)) : DE X δ (.Subscript a (.Slice lo hi none p2) pos) (.d (.tup (D.cut xs i j))) δ3 := by
  obtain ⟨t, pt, ht⟩ := hl.run
  obtain ⟨u, pu, hu⟩ := hh.run
  refine (pe_slice sl_tup ha pt pu).imp fun σ H Q ⟨F, R, k⟩ => sl_ ht hu ⟨F, R, fun v F1 H1 g1 R1 r1 => ?_⟩
  cases r1 with
  | tup h1 r => exact ⟨_, _, rfl, SqT.of (R1.sub _ _ h1), by rw [r.length]; exact hn, fun p hp => fin_new k g1 R1 hp (.tup upd_same ((r.cut i j).ex (.new (R1.sub.none hp))))⟩
theorem de_slS {s : Str} (ha : DE X δ a (.d (.str s)) δ1) (hl : DO X δ1 lo i δ2) (hh : DO X δ2 hi j δ3) (hs : s.length ≤ sizeLine) : DE X δ (.Subscript a (.Slice lo hi none p2) pos) (.d (.str (cutS s i j))) δ3 := by
  obtain ⟨t, pt, ht⟩ := hl.run
  obtain ⟨u, pu, hu⟩ := hh.run
  refine (pe_slice sl_str ha pt pu).imp fun σ H Q ⟨F, R, k⟩ => sl_ ht hu ⟨F, R, fun v F1 H1 g1 R1 r1 => ?_⟩
  cases r1
  exact ⟨s, rfl, hs, k _ F1 H1 g1 R1 (.str _)⟩
/-- xs * k, a list -/
theorem de_rep {xs : List D} {k : Int} (ha : DE X δ a (.d (.lst xs)) δ1) (hb : DE X δ1 b (.d (.int k)) δ2) (h1 : -(2 ^ 63) ≤ k) (h2 : k < 2 ^ 63) (h3 : xs.length * k.toNat ≤ sizeLine) : DE X δ (.BinOp a .Mult b pos) (.ow (List.replicate k.toNat xs).flatten) δ2 := de_binL op_rep ha hb fun F H v u Q e _ rv ru kk => by
  cases ru
  cases rv with
  | lst q r =>
    refine ⟨_, k, _, rfl, rfl, e _ _ q, by omega, by omega, by rw [r.length]; exact h3, fun p hp => kk p _ hp ?_⟩
    generalize k.toNat = n
    induction n with
    | zero => exact .nil
    | succ n ih => rw [List.replicate_succ, List.replicate_succ, List.flatten_cons, List.flatten_cons]; exact r.append ih
/-- [*xs], (a, *xs): a starred part -/
theorem da_star {xs : List D} {ps : List AV} (ha : DE X δ e (.d x) δ1) (hx : x = .lst xs ∨ x = .tup xs) (hr : DA X δ1 es as δ2) : PA X (.Starred e p2 :: es) (fun σ H Q => ∃ F, Rs F H σ δ ∧ ∀ vs ws F' H', Go (Own σ δ) (Own σ δ2) F H F' H' → Rs F' H' σ δ2 → RpA F' vs xs → AVs F' σ ws as → Q (vs ++ ws) H') :=
  (StX.pa_star ha hr).imp fun σ H Q ⟨F, R, k⟩ => ⟨F, R, fun v F1 H1 g1 R1 r1 => by
    rcases hx with rfl | rfl
    · cases r1 with
      | lst h1 r => exact ⟨_, _, rfl, .inr (SqL.of (R1.sub _ _ h1)), F1, R1, fun ws F2 H2 g2 R2 r2 => k _ ws F2 H2 (g1.trans g2) R2 (r.ex g2.ff) r2⟩
    · cases r1 with
      | tup h1 r => exact ⟨_, _, rfl, .inl (SqT.of (R1.sub _ _ h1)), F1, R1, fun ws F2 H2 g2 R2 r2 => k _ ws F2 H2 (g1.trans g2) R2 (r.ex g2.ff) r2⟩⟩
end
end DL
end
section
set_option Elab.async false
set_option linter.all false
set_option maxRecDepth 100000
/-! DLd: statements over frames of data. -/
namespace DL
open PySem PySem.Spec PyProof.Rows L2
variable [TL]

/-- what stands behind some statements -/
structure Aft (pn : List Nat) (σ : L2.St) (δ : List DV) (F H : Hp) (σ' : L2.St) (δ' : List DV) (F' H' : Hp) : Prop where
  go : Go (Own σ δ) (Own σ' δ') F H F' H'
  rs : Rs F' H' σ' δ'
  pin : ∀ i ∈ pn, σ'[i]? = σ[i]?
theorem Aft.refl {pn : List Nat} {σ : L2.St} {δ : List DV} {F H : Hp} (r : Rs F H σ δ) : Aft pn σ δ F H σ δ F H := ⟨.refl _ F H, r, fun _ _ => rfl⟩
theorem Aft.trans {pn : List Nat} {σ σ1 σ2 : L2.St} {δ δ1 δ2 : List DV} {F H F1 H1 F2 H2 : Hp} (a : Aft pn σ δ F H σ1 δ1 F1 H1) (b : Aft pn σ1 δ1 F1 H1 σ2 δ2 F2 H2) : Aft pn σ δ F H σ2 δ2 F2 H2 :=
  ⟨a.go.trans b.go, b.rs, fun i hi => (b.pin i hi).trans (a.pin i hi)⟩
/-- what this context wants of an exception, as it is -/
def Wx (X : Cx) : WX := fun cls d σ H => ∀ u s', XE X (fun c2 d2 σ2 H2 => c2 = cls ∧ d2 = d ∧ σ2 = σ ∧ H2 = H) u s' → X.xe u s'
theorem takes_wx (X : Cx) : Takes X (Wx X) := fun u s' ⟨a, B, sI, pins, σ, H, cls, d, e, I, nb, up, sky, na, os, ag, w⟩ => w u s' ⟨a, B, sI, pins, σ, H, cls, d, e, I, nb, up, sky, na, os, ag, rfl, rfl, rfl, rfl⟩
theorem Wx.of {X : Cx} {W : WX} (t : Takes X W) {cls : Value} {d : Option Addr} {σ : L2.St} {H : Hp} (h : W cls d σ H) : Wx X cls d σ H := fun u s' x => (t.imp (W' := fun c2 d2 σ2 H2 => c2 = cls ∧ d2 = d ∧ σ2 = σ ∧ H2 = H) fun _ _ _ _ ⟨e1, e2, e3, e4⟩ => by rw [e1, e2, e3, e4]; exact h) u s' x
/-- an exception of the class at C that bears d -/
def tEx (X : Cx) (pn : List Nat) (σ : L2.St) (δ : List DV) (F H : Hp) (C : Addr) (d : D) : Prop := ∀ dx v σ' δ' F' H', Aft pn σ δ F H σ' δ' F' H' → XdAt F' dx [("value", v)] → Rp F' v d → Wx X (.ref C) (some dx) σ' H'
theorem tEx.back {X : Cx} {pn : List Nat} {σ σ1 : L2.St} {δ δ1 : List DV} {F H F1 H1 : Hp} {C : Addr} {d : D} (a : Aft pn σ δ F H σ1 δ1 F1 H1) (h : tEx X pn σ δ F H C d) : tEx X pn σ1 δ1 F1 H1 C d := fun dx v σ' δ' F' H' b => h dx v σ' δ' F' H' (a.trans b)
inductive Out where
  | nx (δ : List DV) | rt (r : DV) (δ : List DV) | bk (δ : List DV) | ct (δ : List DV) | ex (C : Addr) (d : D)
def tS (X : Cx) (pn : List Nat) (δ : List DV) (o : Out) : TS := fun D σ H => ∃ F, Rs F H σ δ ∧ match o with
  | .nx δ' => ∀ σ' F' H', Aft pn σ δ F H σ' δ' F' H' → D.nx σ' H'
  | .rt r δ' => ∀ v σ' F' H', Aft pn σ δ F H σ' δ' F' H' → Res F' H' (Own σ δ) H (Own σ' δ') v r → D.rt v H'
  | .bk δ' => ∀ σ' F' H', Aft pn σ δ F H σ' δ' F' H' → D.bk σ' H'
  | .ct δ' => ∀ σ' F' H', Aft pn σ δ F H σ' δ' F' H' → D.ct σ' H'
  | .ex C d => tEx X pn σ δ F H C d
abbrev DS (X : Cx) (pn : List Nat) (δ : List DV) (st : Stmt) (o : Out) : Prop := PS X st (tS X pn δ o)
abbrev DSs (X : Cx) (pn : List Nat) (δ : List DV) (st : List Stmt) (o : Out) : Prop := PSs X st (tS X pn δ o)
/-- told from further back -/
theorem tS.back {X : Cx} {pn : List Nat} {σ σ1 : L2.St} {δ δ1 : List DV} {F H F1 H1 : Hp} {o : Out} {D : Ends} (a : Aft pn σ δ F H σ1 δ1 F1 H1)
    (k : match o with
      | .nx δ' => ∀ σ' F' H', Aft pn σ δ F H σ' δ' F' H' → D.nx σ' H'
      | .rt r δ' => ∀ v σ' F' H', Aft pn σ δ F H σ' δ' F' H' → Res F' H' (Own σ δ) H (Own σ' δ') v r → D.rt v H'
      | .bk δ' => ∀ σ' F' H', Aft pn σ δ F H σ' δ' F' H' → D.bk σ' H'
      | .ct δ' => ∀ σ' F' H', Aft pn σ δ F H σ' δ' F' H' → D.ct σ' H'
      | .ex C d => tEx X pn σ δ F H C d) : tS X pn δ1 o D σ1 H1 := by
  refine ⟨F1, a.rs, ?_⟩
  cases o with
  | nx δ' => exact fun σ' F' H' b => k σ' F' H' (a.trans b)
  | rt r δ' => exact fun v σ' F' H' b q => k v σ' F' H' (a.trans b) (Res.back a.go q)
  | bk δ' => exact fun σ' F' H' b => k σ' F' H' (a.trans b)
  | ct δ' => exact fun σ' F' H' b => k σ' F' H' (a.trans b)
  | ex C d => exact tEx.back a k

/-! ### a slot stored -/
section
variable {F H : Hp} {σ : L2.St} {δ : List DV} {i : Nat}
theorem own_set {v : Option V} {x : DV} (hx : ∀ xs, x ≠ .ow xs) {a : Addr} (h : Own (σ.set i v) (δ.set i x) a) : Own σ δ a := by
  obtain ⟨j, ys, h1, h2⟩ := h
  by_cases z : i = j
  · subst z
    by_cases hi : i < δ.length
    · rw [List.getElem?_set_self hi] at h1; exact absurd (Option.some.inj h1) (hx ys)
    · rw [List.getElem?_eq_none (by rw [List.length_set]; omega)] at h1; cases h1
  · rw [List.getElem?_set_ne z] at h1 h2
    exact ⟨j, ys, h1, h2⟩
theorem Rs.set_ (r : Rs F H σ δ) {v : Option V} {x : DV} (hx : ∀ xs, x ≠ .ow xs) (h : At F H v x) : Rs F H (σ.set i v) (δ.set i x) := by
  refine ⟨r.sub, by rw [List.length_set, List.length_set]; exact r.len, fun j y hy => ?_, fun j l ys zs o hj h1 h2 h3 => ?_, r.tb, r.nt⟩
  · by_cases z : i = j
    · subst z
      by_cases hi : i < δ.length
      · rw [List.getElem?_set_self hi] at hy
        cases hy
        exact ⟨v, List.getElem?_set_self (by rw [r.len]; exact hi), h⟩
      · rw [List.getElem?_eq_none (by rw [List.length_set]; omega)] at hy; cases hy
    · rw [List.getElem?_set_ne z] at hy ⊢
      exact r.at_ j y hy
  · have ne : ∀ {m : Nat} {ws : List D}, (δ.set i x)[m]? = some (.ow ws) → i ≠ m ∧ δ[m]? = some (.ow ws) := fun {m ws} q => by
      by_cases z : i = m
      · subst z
        by_cases hi : i < δ.length
        · rw [List.getElem?_set_self hi] at q; exact absurd (Option.some.inj q) (hx ws)
        · rw [List.getElem?_eq_none (by rw [List.length_set]; omega)] at q; cases q
      · rw [List.getElem?_set_ne z] at q; exact ⟨z, q⟩
    obtain ⟨z1, q1⟩ := ne h1
    obtain ⟨z2, q2⟩ := ne h2
    rw [List.getElem?_set_ne z1] at h3
    rw [List.getElem?_set_ne z2]
    exact r.ap j l ys zs o hj q1 q2 h3
theorem Aft.set_ {pn : List Nat} (r : Rs F H σ δ) {v : Option V} {x : DV} (hx : ∀ xs, x ≠ .ow xs) (h : At F H v x) (hp : i ∉ pn) : Aft pn σ δ F H (σ.set i v) (δ.set i x) F H :=
  ⟨⟨.refl F, fun _ _ h _ _ => h, fun _ _ h => .inl h, fun _ h => h, fun a h => .inl (own_set hx h)⟩, r.set_ hx h, fun j hj => List.getElem?_set_ne (by rintro rfl; exact hp hj)⟩
/-- a list of the frame's own stored -/
theorem Rs.setO (r : Rs F H σ δ) {p : Addr} {vs : List V} {xs : List D} (h1 : F p = none) (h2 : H p = some (.lst vs)) (h3 : RpA F vs xs) (h4 : ¬ Own σ δ p) : Rs F H (σ.set i (some (.ref p))) (δ.set i (.ow xs)) := by
  refine ⟨r.sub, by rw [List.length_set, List.length_set]; exact r.len, fun j y hy => ?_, fun j l ys zs o hj q1 q2 q3 q4 => ?_, r.tb, r.nt⟩
  · by_cases z : i = j
    · subst z
      by_cases hi : i < δ.length
      · rw [List.getElem?_set_self hi] at hy
        cases hy
        exact ⟨_, List.getElem?_set_self (by rw [r.len]; exact hi), p, vs, rfl, h1, h2, h3⟩
      · rw [List.getElem?_eq_none (by rw [List.length_set]; omega)] at hy; cases hy
    · rw [List.getElem?_set_ne z] at hy ⊢
      exact r.at_ j y hy
  · have self : ∀ {m : Nat} {ws : List D}, (δ.set i (.ow xs))[m]? = some (.ow ws) → i ≠ m → ∃ a us, σ[m]? = some (some (.ref a)) ∧ a ≠ p ∧ δ[m]? = some (.ow ws) ∧ H a = some (.lst us) := fun {m ws} q z => by
      rw [List.getElem?_set_ne z] at q
      obtain ⟨o, e, a, us, k1, k2, k3, k4⟩ := r.at_ m _ q
      exact ⟨a, us, by rw [e, k1], fun w => h4 ⟨m, ws, q, by rw [e, k1, w]⟩, q, k3⟩
    by_cases z1 : i = j
    · subst z1
      have hi : i < δ.length := by
        have := (List.getElem?_eq_some_iff.mp q1).1
        rwa [List.length_set] at this
      rw [List.getElem?_set_self (by rw [r.len]; exact hi)] at q3
      obtain ⟨a, us, k1, k2, _, _⟩ := self q2 hj
      rw [List.getElem?_set_ne hj, k1] at q4
      cases q3
      exact k2 (V.ref.inj (Option.some.inj (Option.some.inj q4)))
    · by_cases z2 : i = l
      · subst z2
        have hi : i < δ.length := by
          have := (List.getElem?_eq_some_iff.mp q2).1
          rwa [List.length_set] at this
        rw [List.getElem?_set_self (by rw [r.len]; exact hi)] at q4
        obtain ⟨a, us, k1, k2, _, _⟩ := self q1 (Ne.symm hj)
        rw [List.getElem?_set_ne (Ne.symm hj), k1] at q3
        cases q3
        exact k2 (V.ref.inj (Option.some.inj (Option.some.inj q4.symm)))
      · rw [List.getElem?_set_ne z1] at q1 q3
        rw [List.getElem?_set_ne z2] at q2 q4
        exact r.ap j l ys zs o hj q1 q2 q3 q4
theorem own_setO {p : Addr} {xs : List D} {a : Addr} (h : Own (σ.set i (some (.ref p))) (δ.set i (.ow xs)) a) : a = p ∨ Own σ δ a := by
  obtain ⟨j, ys, h1, h2⟩ := h
  by_cases z : i = j
  · subst z
    by_cases hi : i < σ.length
    · rw [List.getElem?_set_self hi] at h2; exact .inl (V.ref.inj (Option.some.inj (Option.some.inj h2))).symm
    · rw [List.getElem?_eq_none (by rw [List.length_set]; omega)] at h2; cases h2
  · rw [List.getElem?_set_ne z] at h1 h2
    exact .inr ⟨j, ys, h1, h2⟩
/-- the contents of a list of the frame's own change -/
theorem Rs.mut (r : Rs F H σ δ) {p : Addr} {xs ys : List D} {ws : List V} (h1 : δ[i]? = some (.ow xs)) (h2 : σ[i]? = some (some (.ref p))) (h3 : RpA F ws ys) : Rs F (upd H p (.lst ws)) σ (δ.set i (.ow ys)) := by
  obtain ⟨o, e, p', vs, q1, q2, q3, q4⟩ := r.at_ i _ h1
  rw [h2] at e; cases e; cases q1
  have hi : i < δ.length := (List.getElem?_eq_some_iff.mp h1).1
  have notF : ∀ a o, F a = some o → a ≠ p := fun a o h z => by rw [z, q2] at h; cases h
  refine ⟨fun a o h => by rw [upd_ne (notF a o h)]; exact r.sub a o h, by rw [List.length_set]; exact r.len, fun j y hy => ?_, fun j l as bs o hj k1 k2 k3 => ?_, tabs_upd r.tb (.inr ⟨_, q3⟩), r.nt⟩
  · by_cases z : i = j
    · subst z
      rw [List.getElem?_set_self hi] at hy
      cases hy
      exact ⟨_, h2, p, ws, rfl, q2, upd_same, h3⟩
    · rw [List.getElem?_set_ne z] at hy
      obtain ⟨o, e, k⟩ := r.at_ j y hy
      refine ⟨o, e, ?_⟩
      cases y with
      | un => trivial
      | d x => exact k
      | raw v => exact k
      | pr P => exact k
      | ow zs =>
        obtain ⟨b, us, k1, k2, k3, k4⟩ := k
        have nb : b ≠ p := fun w => r.ap i j xs zs _ z h1 hy h2 (by rw [e, k1, w])
        exact ⟨b, us, k1, k2, by rw [upd_ne nb]; exact k3, k4⟩
  · have ne : ∀ {m : Nat} {ws : List D}, (δ.set i (.ow ys))[m]? = some (.ow ws) → ∃ zs, δ[m]? = some (.ow zs) := fun {m ws} q => by
      by_cases z : i = m
      · subst z; exact ⟨xs, h1⟩
      · rw [List.getElem?_set_ne z] at q; exact ⟨ws, q⟩
    obtain ⟨a1, w1⟩ := ne k1
    obtain ⟨a2, w2⟩ := ne k2
    exact r.ap j l a1 a2 o hj w1 w2 k3
theorem own_same {xs ys : List D} (h1 : δ[i]? = some (.ow xs)) {a : Addr} : Own σ (δ.set i (.ow ys)) a → Own σ δ a := fun ⟨j, zs, q1, q2⟩ => by
  by_cases z : i = j
  · subst z; exact ⟨i, xs, h1, q2⟩
  · rw [List.getElem?_set_ne z] at q1; exact ⟨j, zs, q1, q2⟩
theorem Aft.mut {pn : List Nat} (r : Rs F H σ δ) {p : Addr} {xs ys : List D} {ws : List V} (h1 : δ[i]? = some (.ow xs)) (h2 : σ[i]? = some (some (.ref p))) (h3 : RpA F ws ys) : Aft pn σ δ F H σ (δ.set i (.ow ys)) F (upd H p (.lst ws)) := by
  refine ⟨⟨.refl F, fun a o h n _ => ?_, fun _ _ h => .inl h, fun a h => ?_, fun a h => .inl (own_same h1 h)⟩, r.mut h1 h2 h3, fun _ _ => rfl⟩
  · rw [upd_ne (fun z => n ⟨i, xs, h1, by rw [z]; exact h2⟩)]; exact h
  · by_cases z : a = p
    · exact absurd (by rw [z, upd_same]) (fun e => h.lst (xs := ws) e)
    · intro u e; exact h u (by rw [upd_ne z]; exact e)
end

section
variable {X : Cx} {pn : List Nat} {δ δ1 δ2 δ3 : List DV} {a b c e : Expr} {x y z r : D} {pos p1 p2 : Pos} {st : Stmt} {rest : List Stmt} {o : Out}
theorem dss_nil : DSs X pn δ [] (.nx δ) := pss_nil.imp fun D σ H ⟨F, R, k⟩ => k σ F H (.refl R)
theorem dss_cons (h1 : DS X pn δ st (.nx δ1)) (h2 : DSs X pn δ1 rest o) : DSs X pn δ (st :: rest) o := (pss_cons h1 h2).imp fun D σ H ⟨F, R, k⟩ => ⟨F, R, fun σ' F' H' b => tS.back (D := D) b k⟩
theorem dss_one (h1 : DS X pn δ st o) : DSs X pn δ [st] o := pss_one h1
/-- what stands behind a return, a break, a continue is not come to -/
theorem dss_stop (h1 : DS X pn δ st o) (ho : ∀ δ', o ≠ .nx δ') : DSs X pn δ (st :: rest) o := (pss_cons h1 (pss_never (sts := rest))).imp fun D σ H ⟨F, R, k⟩ => ⟨F, R, by
  cases o with
  | nx δ' => exact absurd rfl (ho δ')
  | rt r δ' => exact k
  | bk δ' => exact k
  | ct δ' => exact k
  | ex C d => exact k⟩
theorem aft_of {σ : L2.St} {F H F' H' : Hp} {δ δ' : List DV} (g : Go (Own σ δ) (Own σ δ') F H F' H') (R : Rs F' H' σ δ') : Aft pn σ δ F H σ δ' F' H' := ⟨g, R, fun _ _ => rfl⟩
theorem ds_set {i : Nat} {n : Str} (hN : X.N.Nodup) (hi : X.N[i]? = some n) (hx : Loc X.env.scope n) (hp : i ∉ pn) (he : DE X δ e (.d x) δ1) (hs : swapsWith e (some (.Name n p1)) pos.line X.env = pure false := by rfl) (hf : X.fn n = true ∨ X.env.scope.names.lookup n = some .local := by first | exact .inl rfl | exact .inr rfl | assumption) :
    DS X pn δ (.Assign [.Name n p1] e pos) (.nx (δ1.set i (.d x))) := (ps_set (i := i) hN hi hx he hs hf).imp fun D σ H ⟨F, R, k⟩ => ⟨F, R, fun v F1 H1 g R1 r => k _ F1 H1 ((aft_of g R1).trans (Aft.set_ R1 (fun _ h => nomatch h) ⟨v, rfl, r⟩ hp))⟩
theorem ds_setR {i : Nat} {n : Str} {r : DV} (hr : (∃ w, r = .raw w) ∨ ∃ P, r = .pr P) (hN : X.N.Nodup) (hi : X.N[i]? = some n) (hx : Loc X.env.scope n) (hp : i ∉ pn) (he : DE X δ e r δ1) (hs : swapsWith e (some (.Name n p1)) pos.line X.env = pure false := by rfl) (hf : X.fn n = true ∨ X.env.scope.names.lookup n = some .local := by first | exact .inl rfl | exact .inr rfl | assumption) :
    DS X pn δ (.Assign [.Name n p1] e pos) (.nx (δ1.set i r)) := (ps_set (i := i) hN hi hx he hs hf).imp fun D σ H ⟨F, R, k⟩ => ⟨F, R, fun v F1 H1 g R1 q => k _ F1 H1 ((aft_of g R1).trans (Aft.set_ R1 (by rcases hr with ⟨w, rfl⟩ | ⟨P, rfl⟩ <;> exact fun _ h => nomatch h) (by
    rcases hr with ⟨w, rfl⟩ | ⟨P, rfl⟩
    · exact congrArg some (show v = w from q)
    · exact ⟨v, rfl, q⟩) hp))⟩
/-- a new list of its own stored -/
theorem aft_setO {σ : L2.St} {F H F1 H1 : Hp} {v : V} {xs : List D} {i : Nat} (g : Go (Own σ δ) (Own σ δ1) F H F1 H1) (R1 : Rs F1 H1 σ δ1) (r : Res F1 H1 (Own σ δ) H (Own σ δ1) v (.ow xs)) (hp : i ∉ pn) : Aft pn σ δ F H (σ.set i (some v)) (δ1.set i (.ow xs)) F1 H1 := by
  obtain ⟨p, vs, rfl, h1, h2, h3, h4, h5⟩ := r
  refine ⟨⟨g.ff, g.keep, g.new, g.there, fun a h => ?_⟩, R1.setO h1 h2 h3 h4, fun j hj => List.getElem?_set_ne (by rintro rfl; exact hp hj)⟩
  rcases own_setO h with rfl | h
  · exact h5.elim .inr .inl
  · exact g.own a h
theorem ds_setO {i : Nat} {n : Str} {xs : List D} (hN : X.N.Nodup) (hi : X.N[i]? = some n) (hx : Loc X.env.scope n) (hp : i ∉ pn) (he : DE X δ e (.ow xs) δ1) (hs : swapsWith e (some (.Name n p1)) pos.line X.env = pure false := by rfl) (hf : X.fn n = true ∨ X.env.scope.names.lookup n = some .local := by first | exact .inl rfl | exact .inr rfl | assumption) :
    DS X pn δ (.Assign [.Name n p1] e pos) (.nx (δ1.set i (.ow xs))) := (ps_set (i := i) hN hi hx he hs hf).imp fun D σ H ⟨F, R, k⟩ => ⟨F, R, fun v F1 H1 g R1 r => k _ F1 H1 (aft_setO g R1 r hp)⟩
theorem ds_ret {r : DV} (he : DE X δ e r δ1) : DS X pn δ (.Return (some e) pos) (.rt r δ1) := (ps_ret he).imp fun D σ H ⟨F, R, k⟩ => ⟨F, R, fun v F1 H1 g R1 q => k v σ F1 H1 (aft_of g R1) q⟩
theorem ds_expr {r : DV} (he : DE X δ e r δ1) (hs : swapsWith e none pos.line X.env = pure false := by rfl) : DS X pn δ (.Expr e pos) (.nx δ1) := (ps_expr he hs).imp fun D σ H ⟨F, R, k⟩ => ⟨F, R, fun v F1 H1 g R1 q => k σ F1 H1 (aft_of g R1)⟩
theorem ds_ifT {t : Bool} {u w : List Stmt} (hc : DT X δ c t δ1) (h : t = true) (ha : DSs X pn δ1 u o) : DS X pn δ (.If c u w pos) o := by
  subst h
  exact (ps_if hc ha (pss_never (sts := w))).imp fun D σ H ⟨F, R, k⟩ => ⟨F, R, fun F1 H1 g R1 => iteT (tS.back (D := D) (aft_of g R1) k)⟩
theorem ds_ifF {t : Bool} {u w : List Stmt} (hc : DT X δ c t δ1) (h : t = false) (hb : DSs X pn δ1 w o) : DS X pn δ (.If c u w pos) o := by
  subst h
  exact (ps_if hc (pss_never (sts := u)) hb).imp fun D σ H ⟨F, R, k⟩ => ⟨F, R, fun F1 H1 g R1 => iteF (tS.back (D := D) (aft_of g R1) k)⟩
theorem ds_if {t : Bool} {u w : List Stmt} (hc : DT X δ c t δ1) (ha : t = true → DSs X pn δ1 u o) (hb : t = false → DSs X pn δ1 w o) : DS X pn δ (.If c u w pos) o := by
  cases t with
  | true => exact ds_ifT hc rfl (ha rfl)
  | false => exact ds_ifF hc rfl (hb rfl)
theorem ds_break : DS X pn δ (.Break pos) (.bk δ) := ps_break.imp fun D σ H ⟨F, R, k⟩ => k σ F H (.refl R)
theorem ds_continue : DS X pn δ (.Continue pos) (.ct δ) := ps_continue.imp fun D σ H ⟨F, R, k⟩ => k σ F H (.refl R)
/-- xs.append(e), xs the frame's own -/
theorem ds_append {i : Nat} {n : Str} {xs : List D} {apos : Pos} (hN : X.N[i]? = some n) (hv : Vis X.env.scope n) (h0 : ∃ ys, δ[i]? = some (.ow ys)) (he : DE X δ e (.d x) δ1) (h : δ1[i]? = some (.ow xs)) (hl : xs.length < sizeLine)
    (hd : (n == ("__debug__" : Str)) = false := by decide) (hcd : (n == ("__classdict__" : Str)) = false := by decide)
    (g1 : attributeBase (.Name n p1) "append" X.env (eval (.Name n p1) X.env) = eval (.Name n p1) X.env := by rfl)
    (g2 : (((((backTo p2 (starEach [e] X.env)).all fun x => !x.fst) && (backToKw p2 (keywordEach [] X.env)).all fun x => x.fst.isSome) && decide (([e].length + ([] : List Keyword).length + if ([] : List Keyword).isEmpty = true then 0 else 1) < 30)) = true) := by rfl)
    (g3 : (apos.endLine == p2.line) = true := by rfl) (g4 : starEach [e] X.env = (false, eval e X.env) :: starEach [] X.env := by rfl) (g5 : ((backTo p2 (starEach [] X.env)).any fun x => x.fst) = false := by rfl)
    (hs : swapsWith (.Call (.Attribute (.Name n p1) "append" apos) [e] [] p2) none pos.line X.env = pure false := by rfl) :
    DS X pn δ (.Expr (.Call (.Attribute (.Name n p1) "append" apos) [e] [] p2) pos) (.nx (δ1.set i (.ow (xs ++ [x])))) :=
  (ps_expr (pe_bm PySem.F.plainAttrs_list PySem.F.slot_list_append PySem.F.type_list_append mt_append (pe_var (i := i) hN hv hd hcd) (pa_cons he pa_nil g4) g1 g2 g3 g4 g5) hs).imp fun D σ H ⟨F, R, k⟩ => by
    obtain ⟨ys, h0⟩ := h0
    obtain ⟨o, e0, p, vs, q1, q2, q3, q4⟩ := R.at_ i _ h0
    refine ⟨.ref p, by rw [e0, q1], .inl ⟨rfl, _, SqL.of q3⟩, F, R, fun v F1 H1 g R1 r1 => ?_⟩
    obtain ⟨o', e', p', vs', q1', q2', q3', q4'⟩ := R1.at_ i _ h
    rw [e0] at e'; cases e'
    rw [q1] at q1'; cases q1'
    exact ⟨p, vs', v, rfl, rfl, q3', by rw [q4'.length]; exact hl, k σ F1 _ ((aft_of g R1).trans (Aft.mut R1 h (by rw [e0, q1]) (q4'.append (.cons r1 .nil))))⟩
/-- xs[j] = e, xs the frame's own -/
theorem ds_setix {i : Nat} {n : Str} {xs : List D} {j : Int} {m : Nat} (hN : X.N[i]? = some n) (hv : Vis X.env.scope n) (he : DE X δ e (.d x) δ1) (h0 : ∃ ys, δ1[i]? = some (.ow ys)) (hj : DE X δ1 b (.d (.int j)) δ2) (h : δ2[i]? = some (.ow xs)) (hm : ixN xs.length j = some m)
    (hd : (n == ("__debug__" : Str)) = false := by decide) (hcd : (n == ("__classdict__" : Str)) = false := by decide)
    (g1 : ∀ (v : Value), assign (Expr.Subscript (.Name n p1) b p2) X.env v = (do
        let ov ← holding [v] (eval (.Name n p1) X.env)
        let iv ← holding [v, ov] (eval b X.env)
        standAt p2
        holding [v, ov, iv] (setItem ov iv v)
        release [v, ov, iv] []) := by intro _; rfl)
    (hs : swapsWithSole [Expr.Subscript (.Name n p1) b p2] e pos.line X.env = pure false := by rfl) (hw : swappedStores [Expr.Subscript (.Name n p1) b p2] e X.env = pure none := by rfl)
    (h1 : (assignEach [Expr.Subscript (.Name n p1) b p2] X.env).map (·.2) = [assign (Expr.Subscript (.Name n p1) b p2) X.env] := by rfl) :
    DS X pn δ (.Assign [.Subscript (.Name n p1) b p2] e pos) (.nx (δ2.set i (.ow (xs.set m x)))) :=
  (ps_asg he (pg_sub (pe_var (i := i) hN hv hd hcd) hj set_list g1) hs hw h1).imp fun D σ H ⟨F, R, k⟩ => ⟨F, R, fun v F1 H1 g R1 r1 => by
    obtain ⟨ys, h0⟩ := h0
    obtain ⟨o, e0, p, vs, q1, q2, q3, q4⟩ := R1.at_ i _ h0
    refine ⟨.ref p, by rw [e0, q1], F1, R1, fun w F2 H2 g2 R2 r2 => ?_⟩
    cases r2
    obtain ⟨o', e', p', vs', q1', q2', q3', q4'⟩ := R2.at_ i _ h
    rw [e0] at e'; cases e'
    rw [q1] at q1'; cases q1'
    exact ⟨p, vs', j, m, rfl, rfl, q3', by rw [q4'.length]; exact hm, k σ F2 _ ((aft_of (g.trans g2) R2).trans (Aft.mut R2 h (by rw [e0, q1]) (RpA.set (Rp.ex g2.ff r1) m q4')))⟩⟩
end
end DL
end
section
set_option Elab.async false
set_option linter.all false
set_option maxRecDepth 100000
/-! DLe: what is walked, targets, loops, comprehensions, over frames of data. -/
namespace DL
open PySem PySem.Spec PyProof.Rows L2
variable [TL]

/-- the i-th of the items comes: it stands, or it is new -/
def YD (F : Hp) (items : List D) : Nat → Hp → V → Hp → Prop := fun i H v H' => ∃ d, items[i]? = some d ∧ ((H' = H ∧ Rp F v d) ∨ ∃ p o, H p = none ∧ H' = upd H p o ∧ (∀ ps, o ≠ .tbl ps) ∧ ∀ F1, Ex F F1 → F1 p = none → Rp (upd F1 p o) v d)
def WkD (J : It) (F : Hp) (items : List D) : Prop := Walk J items.length (fun H => Ex F H) (YD F items)
def tDI (δ : List DV) (items : List D) (δ' : List DV) : TI := fun σ H R => ∃ F, Rs F H σ δ ∧ ∀ J F' H', Go (Own σ δ) (Own σ δ') F H F' H' → Rs F' H' σ δ' → WkD J F' items → R J H'
abbrev DI (X : Cx) (δ : List DV) (tg iter : Expr) (items : List D) (δ' : List DV) : Prop := PI X tg iter (tDI δ items δ')
theorem _root_.L2.PI.imp {X : Cx} {tg e : Expr} {t u : TI} (h : PI X tg e t) (k : ∀ σ H Q, u σ H Q → t σ H Q) : PI X tg e u := ⟨fun pins s σ H Q I q => h.run pins s σ H Q I (k _ _ _ q)⟩
theorem _root_.L2.PG.imp {X : Cx} {tg : Expr} {t u : TG} (h : PG X tg t) (k : ∀ v σ H Q, u v σ H Q → t v σ H Q) : PG X tg u := ⟨fun pins s σ H v w Q I r q => h.run pins s σ H v w Q I r (k _ _ _ _ q)⟩

section
variable {X : Cx} {pn : List Nat} {δ δ1 δ2 δ3 : List DV} {a b c e tg : Expr} {x y z r : D} {pos p1 p2 : Pos} {items : List D}
theorem di_list {xs : List D} (ha : DE X δ e (.d (.lst xs)) δ1) : DI X δ tg e xs δ1 := (pi_list ha).imp fun σ H R ⟨F, Rf, k⟩ => ⟨F, Rf, fun v F1 H1 g R1 r1 => by
  cases r1 with
  | lst h1 ra =>
    refine ⟨_, rfl, ⟨_, SqL.of (R1.sub _ _ h1)⟩, k _ F1 H1 g R1 ?_⟩
    unfold WkD
    rw [← ra.length]
    exact walk_list.mono (fun H' e => SqL.of (e _ _ h1)) fun i H v H' _ _ ⟨e, q⟩ => by
      obtain ⟨d, h2, h3⟩ := ra.getV q
      exact ⟨d, h2, .inl ⟨e, h3⟩⟩⟩
theorem di_tup {xs : List D} (ha : DE X δ e (.d (.tup xs)) δ1) : DI X δ tg e xs δ1 := (pi_tup ha).imp fun σ H R ⟨F, Rf, k⟩ => ⟨F, Rf, fun v F1 H1 g R1 r1 => by
  cases r1 with
  | tup h1 ra =>
    refine ⟨_, rfl, ⟨_, SqT.of (R1.sub _ _ h1)⟩, k _ F1 H1 g R1 ?_⟩
    unfold WkD
    rw [← ra.length]
    exact walk_tup.mono (fun H' e => SqT.of (e _ _ h1)) fun i H v H' _ _ ⟨e, q⟩ => by
      obtain ⟨d, h2, h3⟩ := ra.getV q
      exact ⟨d, h2, .inl ⟨e, h3⟩⟩⟩
/-- the irange from lo on, n of them -/
def irange (lo : Int) (n : Nat) : List D := (List.range n).map fun (k : Nat) => D.int (lo + (k : Int))
theorem irange_len (lo : Int) (n : Nat) : (irange lo n).length = n := by simp [irange]
theorem irange_get {lo : Int} {n j : Nat} (h : j < n) : (irange lo n)[j]? = some (.int (lo + (j : Int))) := by simp [irange, h]
theorem walk_irange {lo : Int} {n : Nat} {F : Hp} : WkD (Itr lo n) F (irange lo n) := by
  unfold WkD
  rw [irange_len]
  refine Walk.mono walk_range (fun _ _ => trivial) fun i H v H' hi _ ⟨e, q⟩ => ⟨_, irange_get hi, .inl ⟨e, by rw [q]; exact .int _⟩⟩
theorem di_range1 {n : Int} (hg : Gl X "range") (hm : X.mg "range" = none) (ha : DE X δ a (.d (.int n)) δ1) (h1 : -(2 ^ 62) ≤ n ∧ n < 2 ^ 62) (hs : starEach [a] X.env = [(false, eval a X.env)] := by rfl) : DI X δ tg (.Call (.Name "range" p1) [a] [] pos) (irange 0 n.toNat) δ1 :=
  (pi_range1 hg hm (pa_cons ha pa_nil hs) hs).imp fun σ H R ⟨F, Rf, k⟩ => ⟨F, Rf, fun v F1 H1 g R1 r1 => by
    cases r1
    exact ⟨n, rfl, h1.1, h1.2, k _ F1 H1 g R1 walk_irange⟩⟩
theorem di_range2 {m n : Int} (hg : Gl X "range") (hm : X.mg "range" = none) (ha : DE X δ a (.d (.int m)) δ1) (hb : DE X δ1 b (.d (.int n)) δ2) (h0 : -(2 ^ 62) ≤ m ∧ m < 2 ^ 62) (h1 : -(2 ^ 62) ≤ n ∧ n < 2 ^ 62) (hs : starEach [a, b] X.env = [(false, eval a X.env), (false, eval b X.env)] := by rfl) (hs2 : starEach [b] X.env = [(false, eval b X.env)] := by rfl) :
    DI X δ tg (.Call (.Name "range" p1) [a, b] [] pos) (irange m (n - m).toNat) δ2 :=
  (pi_range2 hg hm (pa_cons ha (pa_cons hb pa_nil hs2) (by rw [hs, hs2])) hs hs2).imp fun σ H R ⟨F, Rf, k⟩ => ⟨F, Rf, fun v F1 H1 g R1 r1 => ⟨F1, R1, fun w F2 H2 g2 R2 r2 => by
    cases r1; cases r2
    exact ⟨m, n, rfl, ⟨h0.1, h0.2, h1.1, h1.2⟩, k _ F2 H2 (g.trans g2) R2 walk_irange⟩⟩⟩
def sgns (s : Str) : List D := s.cps.toList.map fun c => D.str ⟨#[c]⟩
theorem di_str {s : Str} (ha : DE X δ e (.d (.str s)) δ1) : DI X δ tg e (sgns s) δ1 := (pi_str ha).imp fun σ H R ⟨F, Rf, k⟩ => ⟨F, Rf, fun v F1 H1 g R1 r1 => by
  cases r1
  refine ⟨s, rfl, k _ F1 H1 g R1 ?_⟩
  unfold WkD
  have e : (sgns s).length = s.cps.size := by simp [sgns]
  rw [e]
  refine Walk.mono walk_str (fun _ _ => trivial) fun i H v H' _ _ ⟨e, c, h1, h2⟩ => ⟨.str ⟨#[c]⟩, ?_, .inl ⟨e, by rw [h2]; exact .str _⟩⟩
  simp [sgns, h1]⟩
theorem di_zip {xs ys : List D} {es : List Expr} {kk : Nat} (hg : Gl X "zip") (hm : X.mg "zip" = none) (ha : DE X δ a (.d (.lst xs)) δ1) (hb : DE X δ1 b (.d (.lst ys)) δ2) (hs : starEach [a, b] X.env = (false, eval a X.env) :: starEach [b] X.env := by rfl) (hs2 : starEach [b] X.env = (false, eval b X.env) :: starEach [] X.env := by rfl) (hpl : ((backTo pos (starEach [b] X.env)).any fun x => x.1) = false := by rfl) :
    DI X δ (.Tuple es kk p2) (.Call (.Name "zip" p1) [a, b] [] pos) (List.zipWith (fun x y => D.tup [x, y]) xs ys) δ2 :=
  (pi_zip hg hm (pa_cons ha (pa_cons hb pa_nil hs2) hs) hs hpl).imp fun σ H R ⟨F, Rf, k⟩ => ⟨F, Rf, fun v F1 H1 g R1 r1 => ⟨F1, R1, fun w F2 H2 g2 R2 r2 => by
    replace r1 := Rp.ex g2.ff r1
    cases r1 with
    | lst h1 ra =>
      cases r2 with
      | lst h2 rb =>
        refine ⟨_, _, _, _, rfl, SqL.of (R2.sub _ _ h1), SqL.of (R2.sub _ _ h2), k _ F2 H2 (g.trans g2) R2 ?_⟩
        unfold WkD
        refine Walk.mono (walk_zip (by rw [List.length_zipWith, ra.length, rb.length])) (fun H' e => ⟨SqL.of (e _ _ h1), SqL.of (e _ _ h2)⟩) fun i H v H' _ _ ⟨T, x, y, e1, e2, e3, e4, e5⟩ => ?_
        obtain ⟨dx, k1, k2⟩ := ra.getV e4
        obtain ⟨dy, k3, k4⟩ := rb.getV e5
        refine ⟨.tup [dx, dy], by rw [List.getElem?_zipWith, k1, k3], .inr ⟨T, _, e2, e3, (fun _ h => nomatch h), fun F3 ex hn => ?_⟩⟩
        rw [e1]
        exact .tup upd_same (.cons (k2.ex (ex.trans (.new hn))) (.cons (k4.ex (ex.trans (.new hn))) .nil))⟩⟩
theorem di_enum {xs : List D} {es : List Expr} {kk : Nat} (hg : Gl X "enumerate") (hm : X.mg "enumerate" = none) (ha : DE X δ a (.d (.lst xs)) δ1) (hs : starEach [a] X.env = [(false, eval a X.env)] := by rfl) :
    DI X δ (.Tuple es kk p2) (.Call (.Name "enumerate" p1) [a] [] pos) (List.zipWith (fun x y => D.tup [x, y]) (irange 0 xs.length) xs) δ1 :=
  (pi_enum hg hm (pa_cons ha pa_nil hs) hs).imp fun σ H R ⟨F, Rf, k⟩ => ⟨F, Rf, fun v F1 H1 g R1 r1 => by
    cases r1 with
    | lst h1 ra =>
      refine ⟨_, _, rfl, SqL.of (R1.sub _ _ h1), k _ F1 H1 g R1 ?_⟩
      unfold WkD
      rename_i vs
      have el : (List.zipWith (fun x y => D.tup [x, y]) (irange 0 xs.length) xs).length = vs.length := by rw [List.length_zipWith, irange_len, Nat.min_self, ra.length]
      rw [el]
      refine Walk.mono walk_enum (fun H' e => SqL.of (e _ _ h1)) fun i H v H' hi _ ⟨T, x, y, e1, e2, e3, e4, e5⟩ => ?_
      obtain ⟨dy, k3, k4⟩ := ra.getV e5
      cases e4
      have hi' : i < xs.length := by rw [← ra.length]; exact hi
      refine ⟨.tup [.int (i : Int), dy], by rw [List.getElem?_zipWith, irange_get hi', k3, Int.zero_add], .inr ⟨T, _, e2, e3, (fun _ h => nomatch h), fun F3 ex hn => ?_⟩⟩
      rw [e1]
      exact .tup upd_same (.cons (.int _) (.cons (k4.ex (ex.trans (.new hn))) .nil))⟩

/-! ### targets -/
def tDG (pn : List Nat) (d : D) (δ δ' : List DV) : TG := fun v σ H Q => ∃ F, Rs F H σ δ ∧ Rp F v d ∧ ∀ σ', Aft pn σ δ F H σ' δ' F H → Q σ' H
abbrev DG (X : Cx) (pn : List Nat) (tg : Expr) (d : D) (δ δ' : List DV) : Prop := PG X tg (tDG pn d δ δ')
theorem dg_name {i : Nat} {n : Str} (hN : X.N.Nodup) (hi : X.N[i]? = some n) (hx : Loc X.env.scope n) (hp : i ∉ pn) (hf : X.fn n = true ∨ X.env.scope.names.lookup n = some .local := by first | exact .inl rfl | exact .inr rfl | assumption) : DG X pn (.Name n pos) x δ (δ.set i (.d x)) :=
  (pg_name (i := i) hN hi hx hf).imp fun v σ H Q ⟨F, R, r, k⟩ => k _ (Aft.set_ R (fun _ h => nomatch h) ⟨v, rfl, r⟩ hp)
theorem dg_two {i j : Nat} {n m : Str} {kk : Nat} (hc : X.calm = true) (hN : X.N.Nodup) (hi : X.N[i]? = some n) (hx : Loc X.env.scope n) (hj : X.N[j]? = some m) (hy : Loc X.env.scope m) (hp : i ∉ pn) (hq : j ∉ pn)
    (hf : X.fn n = true ∨ X.env.scope.names.lookup n = some .local := by first | exact .inl rfl | exact .inr rfl | assumption) (hf2 : X.fn m = true ∨ X.env.scope.names.lookup m = some .local := by first | exact .inl rfl | exact .inr rfl | assumption)
    (g1 : (assignEach [Expr.Name m p2] X.env).map (·.2) = assign (.Name m p2) X.env :: (assignEach [] X.env).map (·.2) := by rfl)
    (g2 : (assignEach [Expr.Name n p1, .Name m p2] X.env).map (·.2) = assign (.Name n p1) X.env :: (assignEach [.Name m p2] X.env).map (·.2) := by rfl)
    (g3 : (assignEach [Expr.Name n p1, .Name m p2] X.env).length = 2 := by rfl) (g4 : (assignEach [Expr.Name n p1, .Name m p2] X.env).findIdx? (·.1) = none := by rfl) :
    DG X pn (.Tuple [.Name n p1, .Name m p2] kk pos) (.tup [x, y]) δ ((δ.set i (.d x)).set j (.d y)) :=
  (pg_tup hc (pgs_cons (pg_name (i := i) hN hi hx hf) (pgs_cons (pg_name (i := j) hN hj hy hf2) pgs_nil g1) g2) g3 g4).imp fun v σ H Q ⟨F, R, r, k⟩ => by
    cases r with
    | tup h1 ra =>
      cases ra with
      | cons r1 ra =>
        cases ra with
        | cons r2 ra =>
          cases ra
          have A1 := Aft.set_ (pn := pn) (i := i) (v := some _) (x := .d x) R (fun _ h => nomatch h) ⟨_, rfl, r1⟩ hp
          have A2 := Aft.set_ (pn := pn) (i := j) (v := some _) (x := .d y) A1.rs (fun _ h => nomatch h) ⟨_, rfl, r2⟩ hq
          exact ⟨_, _, rfl, SqT.of (R.sub _ _ h1), rfl, _, _, rfl, _, _, rfl, rfl, k _ (A1.trans A2)⟩

/-! ### for -/
theorem pss_ex {ι : Type} {st : List Stmt} {t : ι → TS} (h : ∀ i, PSs X st (t i)) : PSs X st (fun D σ H => ∃ i, t i D σ H) := ⟨fun pins s σ H D I ⟨i, q⟩ => (h i).run pins s σ H D I q⟩
theorem pg_ex {ι : Type} {t : ι → TG} (h : ∀ i, PG X tg (t i)) : PG X tg (fun v σ H Q => ∃ i, t i v σ H Q) := ⟨fun pins s σ H v w Q I r ⟨i, q⟩ => (h i).run pins s σ H v w Q I r q⟩
theorem pe_ex {ι : Type} {t : ι → TE} (h : ∀ i, PE X e (t i)) : PE X e (fun σ H Q => ∃ i, t i σ H Q) := ⟨fun pins s σ H Q I ⟨i, q⟩ => (h i).run pins s σ H Q I q⟩
theorem pt_ex {ι : Type} {t : ι → TT} (h : ∀ i, PT X e (t i)) : PT X e (fun σ H Q => ∃ i, t i σ H Q) := ⟨fun pins s σ H Q I ⟨i, q⟩ => (h i).run pins s σ H Q I q⟩
theorem pts_ex {ι : Type} {ifs : List Expr} {t : ι → TT} (h : ∀ i, PTs X ifs (t i)) : PTs X ifs (fun σ H Q => ∃ i, t i σ H Q) := ⟨fun pins s σ H Q I ⟨i, q⟩ => (h i).run pins s σ H Q I q⟩
/-- what is new by the turn -/
theorem YD.rs {F H : Hp} {σ : L2.St} {δ : List DV} {F0 : Hp} {i : Nat} {v : V} {H' : Hp} (e : Ex F0 F) (R : Rs F H σ δ) (h : YD F0 items i H v H') : ∃ d F', items[i]? = some d ∧ Aft pn σ δ F H σ δ F' H' ∧ Rp F' v d := by
  obtain ⟨d, h1, h2⟩ := h
  rcases h2 with ⟨rfl, h3⟩ | ⟨p, o, h3, rfl, hnt, h4⟩
  · exact ⟨d, F, h1, .refl R, h3.ex e⟩
  · have hF := R.sub.none h3
    exact ⟨d, upd F p o, h1, ⟨Go.new_ h3 hF, R.new h3 hnt, fun _ _ => rfl⟩, h4 F e hF⟩
/-- a turn's end -/
inductive TO_ where
  | nx | ct
def TO_.out (δ : List DV) : TO_ → Out
  | .nx => .nx δ
  | .ct => .ct δ
/-- the loop's end: all turns, or at the turn m a return, a break -/
inductive LE_ (items : List D) (fr : Nat → List DV) (m : Nat) : Out → Option Out → Prop where
  | all : m = items.length → LE_ items fr m (.nx (fr m)) none
  | rt {r : DV} {δ' : List DV} : m < items.length → LE_ items fr m (.rt r δ') (some (.rt r δ'))
  | bk {δ' : List DV} : m < items.length → LE_ items fr m (.nx δ') (some (.bk δ'))
  | ex {C : Addr} {d : D} : m < items.length → LE_ items fr m (.ex C d) (some (.ex C d))
theorem ds_for_ {iter : Expr} {body : List Stmt} {o : Out} {last : Option Out} (hp : PassesOwn (model X.prog X.w) X.A X.env X.xe) (hc : X.calm = true) (hi : DI X δ tg iter items δ1) (fr tf : Nat → List DV) (m : Nat) (to : Nat → TO_) (h0 : fr 0 = δ1) (hm : m ≤ items.length)
    (hg : ∀ j d, j ≤ m → items[j]? = some d → DG X pn tg d (fr j) (tf j)) (hb : ∀ j d, j < m → items[j]? = some d → DSs X pn (tf j) body ((to j).out (fr (j + 1)))) (he : LE_ items fr m o last) (hl : ∀ d q, last = some q → items[m]? = some d → DSs X pn (tf m) body q)
    (hs : ∀ x, foldedSetIterable iter X.env x = pure x := by intro _; rfl) : DS X pn δ (.For tg iter body [] pos) o := by
  let ιg : Type := { p : Nat × D // p.1 ≤ m ∧ items[p.1]? = some p.2 }
  let ιb : Type := { p : Nat × D × Out // (p.1 < m ∧ items[p.1]? = some p.2.1 ∧ p.2.2 = (to p.1).out (fr (p.1 + 1))) ∨ (p.1 = m ∧ items[m]? = some p.2.1 ∧ last = some p.2.2) }
  have G : PG X tg _ := pg_ex (ι := ιg) fun p => hg p.1.1 p.1.2 p.2.1 p.2.2
  have B : PSs X body (fun D σ H => ∃ p : ιb, tS X pn (tf p.1.1) p.1.2.2 D σ H) := pss_ex (ι := ιb) fun p => by
    rcases p.2 with ⟨h1, h2, h3⟩ | ⟨h1, h2, h3⟩
    · rw [h3]; exact hb _ _ h1 h2
    · rw [h1]; exact hl _ _ h3 h2
  refine (ps_for hp hc hi G B hs).imp fun D σ H ⟨F, R, k⟩ => ⟨F, R, fun J F1 H1 g1 R1 w => ?_⟩
  have A1 : Aft pn σ δ F H σ δ1 F1 H1 := ⟨g1, R1, fun _ _ => rfl⟩
  refine for_it (g := fun v σ H Q => ∃ i : ιg, tDG pn i.1.2 (fr i.1.1) (tf i.1.1) v σ H Q) (tb := fun D σ H => ∃ p : ιb, tS X pn (tf p.1.1) p.1.2.2 D σ H) (D := D) w (fun i σ' H' => i ≤ m ∧ ∃ F', Aft pn σ δ F H σ' (fr i) F' H' ∧ Ex F1 F') ⟨Nat.zero_le _, F1, by rw [h0]; exact A1, .refl _⟩ (fun i σ' H' _ ⟨_, F', A, e⟩ => e.trans A.rs.sub) ?_ ?_
  · rintro i v σ' H' H'' hi ⟨hm', F', A, e⟩ y
    obtain ⟨d, F2, h1, A2, r2⟩ := YD.rs (pn := pn) e A.rs y
    refine ⟨⟨(i, d), hm', h1⟩, F2, A2.rs, r2, fun σ3 A3 => ?_⟩
    have A4 := (A.trans A2).trans A3
    have e4 : Ex F1 F2 := e.trans A2.go.ff
    by_cases hlt : i < m
    · have key : ∀ q : TO_, tS X pn (tf i) (q.out (fr (i + 1))) { D with nx := fun σ' H' => i + 1 ≤ m ∧ ∃ F', Aft pn σ δ F H σ' (fr (i + 1)) F' H' ∧ Ex F1 F', ct := fun σ' H' => i + 1 ≤ m ∧ ∃ F', Aft pn σ δ F H σ' (fr (i + 1)) F' H' ∧ Ex F1 F', bk := D.nx } σ3 H'' := fun q => by
        cases q with
        | nx => exact ⟨F2, A3.rs, fun σ5 F5 H5 A5 => ⟨hlt, F5, A4.trans A5, e4.trans A5.go.ff⟩⟩
        | ct => exact ⟨F2, A3.rs, fun σ5 F5 H5 A5 => ⟨hlt, F5, A4.trans A5, e4.trans A5.go.ff⟩⟩
      exact ⟨⟨(i, d, (to i).out (fr (i + 1))), .inl ⟨hlt, h1, rfl⟩⟩, key (to i)⟩
    · have hmi : i = m := by omega
      subst hmi
      cases he with
      | all q => omega
      | rt q => exact ⟨⟨(i, d, _), .inr ⟨rfl, h1, rfl⟩⟩, F2, A3.rs, fun v5 σ5 F5 H5 A5 r5 => k v5 σ5 F5 H5 (A4.trans A5) (Res.back A4.go r5)⟩
      | bk q => exact ⟨⟨(i, d, _), .inr ⟨rfl, h1, rfl⟩⟩, F2, A3.rs, fun σ5 F5 H5 A5 => k σ5 F5 H5 (A4.trans A5)⟩
      | ex q => exact ⟨⟨(i, d, _), .inr ⟨rfl, h1, rfl⟩⟩, F2, A3.rs, tEx.back A4 k⟩
  · rintro σ' H' ⟨hm', F', A, e⟩
    cases he with
    | all q => subst q; exact k σ' F' H' A
    | rt q => omega
    | bk q => omega
    | ex q => omega
/-- all turns are gone -/
theorem ds_for {iter : Expr} {body : List Stmt} (hp : PassesOwn (model X.prog X.w) X.A X.env X.xe) (hc : X.calm = true) (hi : DI X δ tg iter items δ1) (fr tf : Nat → List DV) (h0 : fr 0 = δ1)
    (hg : ∀ j d, items[j]? = some d → DG X pn tg d (fr j) (tf j)) (hb : ∀ j d, j < items.length → items[j]? = some d → DSs X pn (tf j) body (.nx (fr (j + 1))))
    (hs : ∀ x, foldedSetIterable iter X.env x = pure x := by intro _; rfl) : DS X pn δ (.For tg iter body [] pos) (.nx (fr items.length)) :=
  ds_for_ hp hc hi fr tf items.length (fun _ => .nx) h0 (Nat.le_refl _) (fun j d _ h => hg j d h) hb (.all rfl) (fun _ _ h => nomatch h) hs

/-! ### while -/
theorem ds_while {body : List Stmt} (hp : PassesOwn (model X.prog X.w) X.A X.env X.xe) (fr tf : Nat → List DV) (m : Nat) (h0 : fr 0 = δ) (hc : ∀ j, j ≤ m → DT X (fr j) c (decide (j < m)) (tf j)) (hb : ∀ j, j < m → DSs X pn (tf j) body (.nx (fr (j + 1)))) :
    DS X pn δ (.While c body [] pos) (.nx (tf m)) := by
  have C : PT X c _ := pt_ex (ι := { j : Nat // j ≤ m }) fun j => hc j.1 j.2
  have B : PSs X body _ := pss_ex (ι := { j : Nat // j < m }) fun j => hb j.1 j.2
  refine (ps_while hp C B).imp fun D σ H ⟨F, R, k⟩ => ?_
  refine ⟨fun n σ' H' => n ≤ m ∧ ∃ F', Aft pn σ δ F H σ' (fr (m - n)) F' H', ⟨m, Nat.le_refl _, F, by rw [Nat.sub_self, h0]; exact .refl R⟩, ?_⟩
  rintro n σ' H' ⟨hn, F', A⟩
  refine ⟨⟨m - n, by omega⟩, F', A.rs, fun F2 H2 g2 R2 => ?_⟩
  have A2 : Aft pn σ δ F H σ' (tf (m - n)) F2 H2 := A.trans ⟨g2, R2, fun _ _ => rfl⟩
  by_cases h : 0 < n
  · have hd : decide (m - n < m) = true := decide_eq_true (by omega)
    show (if decide (m - n < m) = true then _ else _)
    rw [if_pos hd]
    refine ⟨fun σ3 H3 => n - 1 ≤ m ∧ ∃ F3, Aft pn σ δ F H σ3 (fr (m - (n - 1))) F3 H3, fun σ3 H3 q => ⟨n - 1, by omega, q⟩, ⟨m - n, by omega⟩, F2, R2, fun σ3 F3 H3 A3 => ⟨by omega, F3, ?_⟩⟩
    have e : m - (n - 1) = m - n + 1 := by omega
    rw [e]
    exact A2.trans A3
  · have hn0 : n = 0 := by omega
    subst hn0
    show (if decide (m - 0 < m) = true then _ else _)
    rw [if_neg (by simp)]
    exact k σ' F2 H2 (by simpa using A2)
end
end DL
end
section
set_option Elab.async false
set_option linter.all false
set_option maxRecDepth 100000
/-! DLf: comprehensions, calls of defs, over frames of data. -/
namespace DL
open PySem PySem.Spec PyProof.Rows L2
variable [TL]

/-! ### the slots of a block's own names -/
def wipeD (δ : List DV) : List Nat → List DV
  | [] => δ
  | v :: vs => (wipeD δ vs).set v .un
def unw (δ δn : List DV) (vs : List Nat) : List DV := δn.mapIdx fun i x => if i ∈ vs then δ.getD i .un else x
def pnv (n : Nat) (vs : List Nat) : List Nat := (List.range n).filter fun i => !vs.contains i
section
variable {F H : Hp} {σ σ2 : L2.St} {δ δ' : List DV} {vs : List Nat}
theorem Rs.wipe (r : Rs F H σ δ) (ws : List Nat) : Rs F H (L2.wipe σ ws) (wipeD δ ws) := by
  induction ws with
  | nil => exact r
  | cons v ws ih => exact ih.set_ (fun _ h => nomatch h) trivial
theorem own_wipe {ws : List Nat} {a : Addr} (h : Own (L2.wipe σ ws) (wipeD δ ws) a) : Own σ δ a := by
  induction ws with
  | nil => exact h
  | cons v ws ih => exact ih (own_set (x := .un) (v := none) (i := v) (fun _ h => nomatch h) h)
theorem wipe_get : ∀ (vs : List Nat) (i : Nat), (L2.wipe σ vs)[i]? = if i ∈ vs ∧ i < σ.length then some none else σ[i]?
  | [], i => by simp [L2.wipe]
  | v :: vs, i => by
    unfold L2.wipe
    by_cases z : v = i
    · subst z
      by_cases hl : v < σ.length
      · rw [List.getElem?_set_self (by rw [wipe_length]; exact hl)]; simp [hl]
      · rw [List.getElem?_eq_none (by rw [List.length_set, wipe_length]; omega), List.getElem?_eq_none (by omega)]; simp [hl]
    · rw [List.getElem?_set_ne z, wipe_get vs i]
      have : i ≠ v := fun q => z q.symm
      simp [this]
theorem wipe_eq (hl : σ2.length = σ.length) (h : ∀ i, i < σ.length → i ∉ vs → σ2[i]? = (L2.wipe σ vs)[i]?) : L2.wipe σ2 vs = L2.wipe σ vs := by
  refine List.ext_getElem? fun i => ?_
  rw [wipe_get, wipe_get, hl]
  by_cases h1 : i ∈ vs ∧ i < σ.length
  · rw [if_pos h1, if_pos h1]
  · rw [if_neg h1, if_neg h1]
    by_cases h2 : i < σ.length
    · have h3 : i ∉ vs := fun z => h1 ⟨z, h2⟩
      rw [h i h2 h3, wipe_get, if_neg h1]
    · rw [List.getElem?_eq_none (by omega), List.getElem?_eq_none (by omega)]
theorem mem_pnv {n i : Nat} : i ∈ pnv n vs ↔ i < n ∧ i ∉ vs := by simp [pnv]
/-- out of the block again -/
theorem unw_get {i : Nat} {x : DV} {δn : List DV} (h : (unw δ δn vs)[i]? = some x) : i < δn.length ∧ ((i ∈ vs ∧ x = δ.getD i .un) ∨ (i ∉ vs ∧ δn[i]? = some x)) := by
  unfold unw at h
  rw [List.getElem?_mapIdx] at h
  obtain ⟨y, h1, h2⟩ := Option.map_eq_some_iff.mp h
  refine ⟨(List.getElem?_eq_some_iff.mp h1).1, ?_⟩
  by_cases z : i ∈ vs
  · rw [if_pos z] at h2; exact .inl ⟨z, h2.symm⟩
  · rw [if_neg z] at h2; exact .inr ⟨z, by rw [h1, h2]⟩
theorem own_unw {δn : List DV} (hn : ∀ v ∈ vs, ∀ xs, δ[v]? ≠ some (.ow xs)) {a : Addr} (h : Own σ (unw δ δn vs) a) : Own (L2.wipe σ vs) δn a := by
  obtain ⟨i, xs, h1, h2⟩ := h
  obtain ⟨hi, ⟨h3, h4⟩ | ⟨h3, h4⟩⟩ := unw_get h1
  · rw [List.getD_eq_getElem?_getD] at h4
    cases q : δ[i]? with
    | none => rw [q] at h4; cases h4
    | some y => rw [q] at h4; exact absurd (by rw [q]; exact congrArg some h4.symm) (hn i h3 xs)
  · exact ⟨i, xs, h4, by rw [wipe_get, if_neg (fun z => h3 z.1)]; exact h2⟩
theorem Rs.unwipe {F1 H1 : Hp} {δn : List DV} (r0 : Rs F H σ δ) (e : Ex F F1) (hn : ∀ v ∈ vs, ∀ xs, δ[v]? ≠ some (.ow xs)) (r : Rs F1 H1 (L2.wipe σ vs) δn) : Rs F1 H1 σ (unw δ δn vs) := by
  have ln : δn.length = σ.length := by rw [← r.len, wipe_length]
  refine ⟨r.sub, by unfold unw; rw [List.length_mapIdx, ln], fun i x h => ?_, fun i j xs ys o hij h1 h2 h3 h4 => ?_, r.tb, r.nt⟩
  · obtain ⟨hi, ⟨h3, h4⟩ | ⟨h3, h4⟩⟩ := unw_get h
    · have hl : i < δ.length := by rw [← r0.len, ← ln]; exact hi
      have q : δ[i]? = some x := by rw [h4, List.getD_eq_getElem?_getD, List.getElem?_eq_getElem hl]; rfl
      obtain ⟨o, k1, k2⟩ := r0.at_ i x q
      refine ⟨o, k1, ?_⟩
      cases x with
      | un => trivial
      | d x => obtain ⟨v, q1, q2⟩ := k2; exact ⟨v, q1, q2.ex e⟩
      | raw v => exact k2
      | pr P => obtain ⟨v, q1, q2⟩ := k2; exact ⟨v, q1, fun F2 e2 => q2 F2 (e.trans e2)⟩
      | ow xs => exact absurd q (hn i h3 xs)
    · obtain ⟨o, k1, k2⟩ := r.at_ i x h4
      rw [wipe_get, if_neg (fun z => h3 z.1)] at k1
      exact ⟨o, k1, k2⟩
  · have key : ∀ {i : Nat} {xs : List D}, (unw δ δn vs)[i]? = some (.ow xs) → i ∉ vs ∧ δn[i]? = some (.ow xs) := fun {i xs} h => by
      obtain ⟨hi, ⟨h3, h4⟩ | h⟩ := unw_get h
      · rw [List.getD_eq_getElem?_getD] at h4
        cases q : δ[i]? with
        | none => rw [q] at h4; cases h4
        | some y => rw [q] at h4; exact absurd (by rw [q]; exact congrArg some h4.symm) (hn i h3 xs)
      · exact h
    obtain ⟨a1, a2⟩ := key h1
    obtain ⟨b1, b2⟩ := key h2
    exact r.ap i j xs ys o hij a2 b2 (by rw [wipe_get, if_neg (fun z => a1 z.1)]; exact h3) (by rw [wipe_get, if_neg (fun z => b1 z.1)]; exact h4)
theorem Rs.other (r : Rs F H σ δ) {p : Addr} {o : HO} (h1 : F p = none) (h2 : ¬ Own σ δ p) (h3 : H p = none ∨ ∃ xs, H p = some (.lst xs)) : Rs F (upd H p o) σ δ := by
  refine ⟨fun a u h => by rw [upd_ne (fun z => by rw [z, h1] at h; cases h)]; exact r.sub a u h, r.len, fun i x h => ?_, r.ap, tabs_upd r.tb h3, r.nt⟩
  obtain ⟨q, e, k⟩ := r.at_ i x h
  refine ⟨q, e, ?_⟩
  cases x with
  | un => trivial
  | d x => exact k
  | raw v => exact k
  | pr P => exact k
  | ow xs =>
    obtain ⟨b, us, k1, k2, k3, k4⟩ := k
    exact ⟨b, us, k1, k2, by rw [upd_ne (fun z => h2 ⟨i, xs, h, by rw [e, k1, z]⟩)]; exact k3, k4⟩
theorem Go.other {O O' : Addr → Prop} {F H F' H' : Hp} (g : Go O O' F H F' H') {p : Addr} {o : HO} (h : Fre H p) : Go O O' F H F' (upd H' p o) :=
  ⟨g.ff, fun a u q n nt => by rw [upd_ne (fun z => by rw [z] at q; exact h.not q nt)]; exact g.keep a u q n nt, g.new, fun a q => by
    by_cases z : a = p
    · rw [z]; exact h
    · exact g.there a fun u e => q u (by rw [upd_ne z]; exact e), g.own⟩
end
theorem Go.wk {O O1 O' O2 : Addr → Prop} {F H F' H' : Hp} (g : Go O O' F H F' H') (h1 : ∀ a, O a → O1 a) (h2 : ∀ a, O2 a → O' a ∨ O1 a ∨ Fre H a) : Go O1 O2 F H F' H' :=
  ⟨g.ff, fun a o q n nt => g.keep a o q (fun z => n (h1 a z)) nt, fun a o q => (g.new a o q).imp id (Or.imp id (h1 a)), g.there, fun a q => by
    rcases h2 a q with q | q | q
    · exact (g.own a q).imp (h1 a) id
    · exact .inl q
    · exact .inr q⟩

section
variable {X : Cx} {δ δ1 δ' : List DV} {elt tg iter : Expr} {ifs : List Expr} {pos : Pos} {items : List D}
/-- what a comprehension's turns give -/
def took (b : Nat → Bool) (r : Nat → D) (n : Nat) : List D := (List.range n).flatMap fun k => if b k then [r k] else []
theorem took_succ (b : Nat → Bool) (r : Nat → D) (n : Nat) : took b r (n + 1) = took b r n ++ if b n then [r n] else [] := by
  unfold took
  rw [List.range_succ, List.flatMap_append]
  simp
theorem took_len (b : Nat → Bool) (r : Nat → D) : ∀ n, (took b r n).length ≤ n
  | 0 => by simp [took]
  | n + 1 => by
    rw [took_succ, List.length_append]
    have h := took_len b r n
    cases b n <;> simp <;> omega
theorem lc_read (vs : List Nat) {σ : L2.St} {H : Hp} {Q : VK}
    (fr tf cf ef : Nat → List DV) (b : Nat → Bool) (r : Nat → D) (h0 : wipeD δ1 vs = fr 0) (hlen : ∀ j, (tf j).length = δ1.length)
    (hw : ∀ j, j < items.length → wipeD (if b j then ef j else cf j) vs = fr (j + 1)) (hsz : items.length < sizeLine)
    (hn : ∀ v ∈ vs, ∀ xs, δ1[v]? ≠ some (.ow xs)) (hu : unw δ1 (fr items.length) vs = δ') (h : tD δ (.ow (took b r items.length)) δ' σ H Q) :
    tLc (tDI δ items δ1) (fun v σ H Q => ∃ p : { p : Nat × D // items[p.1]? = some p.2 }, tDG (pnv δ1.length vs) p.1.2 (fr p.1.1) (tf p.1.1) v σ H Q) (fun σ H Q => ∃ p : { p : Nat × D // items[p.1]? = some p.2 }, tDT (tf p.1.1) (b p.1.1) (cf p.1.1) σ H Q)
      (fun σ H Q => ∃ p : { p : Nat × D // items[p.1]? = some p.2 ∧ b p.1 = true }, tD (cf p.1.1) (.d (r p.1.1)) (ef p.1.1) σ H Q) vs σ H Q := by
  let ι : Type := { p : Nat × D // items[p.1]? = some p.2 }
  let ιe : Type := { p : Nat × D // items[p.1]? = some p.2 ∧ b p.1 = true }
  obtain ⟨F, R, k⟩ := h
  refine ⟨F, R, fun J F1 H1 g1 R1 w D hD => ?_⟩
  have hFD : F1 D = none := R1.sub.none hD
  have noD : ¬ Own (L2.wipe σ vs) (fr 0) D := by rw [← h0]; exact fun z => R1.own_not hD (own_wipe z)
  have hD0 : Fre H D := g1.noneH hD
  refine lc_it (g := fun v σ H Q => ∃ i : ι, tDG (pnv δ1.length vs) i.1.2 (fr i.1.1) (tf i.1.1) v σ H Q) (tt := fun σ H Q => ∃ i : ι, tDT (tf i.1.1) (b i.1.1) (cf i.1.1) σ H Q) (te := fun σ H Q => ∃ i : ιe, tD (cf i.1.1) (.d (r i.1.1)) (ef i.1.1) σ H Q) w
    (fun i H' => ∃ F' acc, Go (Own σ δ) (Own (L2.wipe σ vs) (fr i)) F H F' H' ∧ Rs F' H' (L2.wipe σ vs) (fr i) ∧ F' D = none ∧ H' D = some (.lst acc) ∧ RpA F' acc (took b r i) ∧ Ex F1 F' ∧ ¬ Own (L2.wipe σ vs) (fr i) D)
    ⟨F1, [], ?_, ?_, hFD, upd_same, .nil, .refl _, noD⟩ (fun i H' _ ⟨F', acc, q1, q2, _, _, _, q6, _⟩ => q6.trans q2.sub) ?_ ?_
  · rw [← h0]
    exact (g1.wk (fun _ z => z) (O2 := Own (L2.wipe σ vs) (wipeD δ1 vs)) fun a z => .inl (own_wipe z)).other hD0
  · rw [← h0]
    exact (R1.wipe vs).other hFD (by rw [h0]; exact noD) (.inl hD)
  · rintro i v H' H'' hi ⟨F', acc, q1, q2, q3, q4, q5, q6, q7⟩ y
    obtain ⟨d, F2, h1, A2, r2⟩ := YD.rs (pn := []) q6 q2 y
    have hFD2 : F2 D = none := by
      cases z : F2 D with
      | none => rfl
      | some o =>
        rcases A2.go.new D o z with z | z | z
        · rw [q3] at z; cases z
        · exact (z.lst q4).elim
        · exact absurd z q7
    have hHD2 : H'' D = some (.lst acc) := A2.go.keep D _ q4 q7 (fun _ h => nomatch h)
    refine ⟨⟨(i, d), h1⟩, F2, A2.rs, r2, fun σ2 A3 => ?_⟩
    have ln : (L2.wipe σ vs).length = δ1.length := by rw [wipe_length, R1.len]
    have l2 : σ2.length = σ.length := by rw [A3.rs.len, hlen, ← R1.len]
    have hwip : L2.wipe σ2 vs = L2.wipe σ vs := wipe_eq l2 fun j hj hv => by
      exact A3.pin j (mem_pnv.mpr ⟨by rw [← R1.len]; exact hj, hv⟩)
    have gA : Go (Own σ δ) (Own σ2 (tf i)) F H F2 H'' := q1.trans (A2.go.trans A3.go)
    have no3 : ¬ Own σ2 (tf i) D := fun z => by
      rcases A3.go.own D z with z | z
      · rcases A2.go.own D z with z | z
        · exact q7 z
        · exact z.lst q4
      · exact z.lst hHD2
    refine ⟨hwip, ⟨(i, d), h1⟩, F2, A3.rs, fun F3 H3 g3 R3 => ?_⟩
    have no4 : ¬ Own σ2 (cf i) D := fun z => by
      rcases g3.own D z with z | z
      · exact no3 z
      · exact z.lst hHD2
    have hFD3 : F3 D = none := by
      cases z : F3 D with
      | none => rfl
      | some o =>
        rcases g3.new D o z with z | z | z
        · rw [hFD2] at z; cases z
        · exact (z.lst hHD2).elim
        · exact absurd z no3
    have hHD3 : H3 D = some (.lst acc) := g3.keep D _ hHD2 no3 (fun _ h => nomatch h)
    have ex3 : Ex F' F3 := A2.go.ff.trans g3.ff
    have hwi := hw i hi
    have step : ∀ (F4 H4 : Hp) (δe : List DV), Go (Own σ δ) (Own σ2 δe) F H F4 H4 → Rs F4 H4 σ2 δe → wipeD δe vs = fr (i + 1) → ¬ Own σ2 δe D → Go (Own σ δ) (Own (L2.wipe σ vs) (fr (i + 1))) F H F4 H4 ∧ Rs F4 H4 (L2.wipe σ vs) (fr (i + 1)) ∧ ¬ Own (L2.wipe σ vs) (fr (i + 1)) D := fun F4 H4 δe g R e no => by
      rw [← e, ← hwip]
      exact ⟨g.wk (fun _ z => z) fun a z => .inl (own_wipe z), R.wipe vs, fun z => no (own_wipe z)⟩
    by_cases hb : b i = true
    · rw [if_pos hb] at hwi
      show (if b i = true then _ else _)
      rw [if_pos hb]
      refine ⟨⟨(i, d), h1, hb⟩, F3, R3, fun u F4 H4 g4 R4 r4 => ?_⟩
      have no5 : ¬ Own σ2 (ef i) D := fun z => by
        rcases g4.own D z with z | z
        · exact no4 z
        · exact z.lst hHD3
      have hFD4 : F4 D = none := by
        cases z : F4 D with
        | none => rfl
        | some o =>
          rcases g4.new D o z with z | z | z
          · rw [hFD3] at z; cases z
          · exact (z.lst hHD3).elim
          · exact absurd z no4
      have hHD4 : H4 D = some (.lst acc) := g4.keep D _ hHD3 no4 (fun _ h => nomatch h)
      obtain ⟨k1, k2, k3⟩ := step F4 H4 (ef i) (gA.trans (g3.trans g4)) R4 hwi no5
      have lacc : acc.length < sizeLine := by
        have := took_len b r i
        rw [q5.length]
        omega
      refine ⟨acc, hHD4, lacc, F4, acc ++ [u], k1.other hD0, k2.other hFD4 k3 (.inr ⟨_, hHD4⟩), hFD4, upd_same, ?_, (q6.trans ex3).trans g4.ff, k3⟩
      rw [took_succ, if_pos hb]
      exact (q5.ex (ex3.trans g4.ff)).append (.cons r4 .nil)
    · rw [if_neg hb] at hwi
      show (if b i = true then _ else _)
      rw [if_neg hb]
      obtain ⟨k1, k2, k3⟩ := step F3 H3 (cf i) (gA.trans g3) R3 hwi no4
      refine ⟨F3, acc, k1, k2, hFD3, hHD3, ?_, q6.trans ex3, k3⟩
      rw [took_succ, if_neg hb, List.append_nil]
      exact q5.ex ex3
  · rintro H' ⟨F', acc, q1, q2, q3, q4, q5, q6, q7⟩
    rw [← hu] at k
    have no : ¬ Own σ (unw δ1 (fr items.length) vs) D := fun z => q7 (own_unw hn z)
    refine k _ F' H' (q1.wk (fun _ z => z) fun a z => .inl (own_unw hn z)) (R1.unwipe q6 hn q2) ⟨D, acc, rfl, q3, q4, q5, no, .inl hD0⟩
theorem de_lc_ {scope : Scope} {own : List (Str × Nat)} (hc : X.calm = true) (hN : X.N.Nodup) (hi : DI X δ tg iter items δ1) (ok : BlkOk X.N X.env.scope scope own)
    (fr tf cf ef : Nat → List DV) (b : Nat → Bool) (r : Nat → D) (h0 : wipeD δ1 (own.map (·.2)) = fr 0) (hlen : ∀ j, (tf j).length = δ1.length)
    (hg : ∀ (s : Shared) (H : Hp) (C : Addr) (cl : List (Str × Addr)) (fp : List Addr) (j : Nat) (d : D), items[j]? = some d → DG (X.blk s H scope (compEnvC scope cl C X.env) fp) (pnv δ1.length (own.map (·.2))) tg d (fr j) (tf j))
    (ht : ∀ (s : Shared) (H : Hp) (C : Addr) (cl : List (Str × Addr)) (fp : List Addr) (j : Nat) (d : D), items[j]? = some d → PTs (X.blk s H scope (compEnvC scope cl C X.env) fp) ifs (tDT (tf j) (b j) (cf j)))
    (he : ∀ (s : Shared) (H : Hp) (C : Addr) (cl : List (Str × Addr)) (fp : List Addr) (j : Nat) (d : D), items[j]? = some d → b j = true → DE (X.blk s H scope (compEnvC scope cl C X.env) fp) (cf j) elt (.d (r j)) (ef j))
    (hw : ∀ j, j < items.length → wipeD (if b j then ef j else cf j) (own.map (·.2)) = fr (j + 1)) (hsz : items.length < sizeLine)
    (hn : ∀ v ∈ own.map (·.2), ∀ xs, δ1[v]? ≠ some (.ow xs)) (hu : unw δ1 (fr items.length) (own.map (·.2)) = δ')
    (hs : ∀ x, foldedSetIterable iter X.env x = pure x := by intro _; rfl) :
    DE X δ (.ListComp elt [⟨tg, iter, ifs, 0⟩] scope pos) (.ow (took b r items.length)) δ' :=
  (pe_lc hc hN hi ok (fun s H C cl fp => pg_ex (ι := { p : Nat × D // items[p.1]? = some p.2 }) fun p => hg s H C cl fp p.1.1 p.1.2 p.2) (fun s H C cl fp => pts_ex (ι := { p : Nat × D // items[p.1]? = some p.2 }) fun p => ht s H C cl fp p.1.1 p.1.2 p.2)
    (fun s H C cl fp => pe_ex (ι := { p : Nat × D // items[p.1]? = some p.2 ∧ b p.1 = true }) fun p => he s H C cl fp p.1.1 p.1.2 p.2.1 p.2.2) hs).imp fun σ H Q h => lc_read _ fr tf cf ef b r h0 hlen hw hsz hn hu h
/-- name = [..] -/
theorem ds_setLc_ {scope : Scope} {pn : List Nat} {i : Nat} {y : Str} {py spos : Pos} (hy : X.N[i]? = some y) (hyl : X.env.scope.names.lookup y = some .local) (hp : i ∉ pn) (hsw : swapsWith (.ListComp elt [⟨tg, iter, ifs, 0⟩] scope pos) (some (.Name y py)) spos.line X.env = pure true)
    {own : List (Str × Nat)} (hc : X.calm = true) (hN : X.N.Nodup) (hi : DI X δ tg iter items δ1) (ok : BlkOk X.N X.env.scope scope own)
    (fr tf cf ef : Nat → List DV) (b : Nat → Bool) (r : Nat → D) (h0 : wipeD δ1 (own.map (·.2)) = fr 0) (hlen : ∀ j, (tf j).length = δ1.length)
    (hg : ∀ (s : Shared) (H : Hp) (C : Addr) (cl : List (Str × Addr)) (fp : List Addr) (j : Nat) (d : D), items[j]? = some d → DG (X.blk s H scope (compEnvC scope cl C X.env) fp) (pnv δ1.length (own.map (·.2))) tg d (fr j) (tf j))
    (ht : ∀ (s : Shared) (H : Hp) (C : Addr) (cl : List (Str × Addr)) (fp : List Addr) (j : Nat) (d : D), items[j]? = some d → PTs (X.blk s H scope (compEnvC scope cl C X.env) fp) ifs (tDT (tf j) (b j) (cf j)))
    (he : ∀ (s : Shared) (H : Hp) (C : Addr) (cl : List (Str × Addr)) (fp : List Addr) (j : Nat) (d : D), items[j]? = some d → b j = true → DE (X.blk s H scope (compEnvC scope cl C X.env) fp) (cf j) elt (.d (r j)) (ef j))
    (hw : ∀ j, j < items.length → wipeD (if b j then ef j else cf j) (own.map (·.2)) = fr (j + 1)) (hsz : items.length < sizeLine)
    (hn : ∀ v ∈ own.map (·.2), ∀ xs, δ1[v]? ≠ some (.ow xs)) (hu : unw δ1 (fr items.length) (own.map (·.2)) = δ')
    (hs : ∀ x, foldedSetIterable iter X.env x = pure x := by intro _; rfl) :
    DS X pn δ (.Assign [.Name y py] (.ListComp elt [⟨tg, iter, ifs, 0⟩] scope pos) spos) (.nx (δ'.set i (.ow (took b r items.length)))) :=
  (ps_setLc hc hN hy hyl hsw hi ok (fun s H C cl fp => pg_ex (ι := { p : Nat × D // items[p.1]? = some p.2 }) fun p => hg s H C cl fp p.1.1 p.1.2 p.2) (fun s H C cl fp => pts_ex (ι := { p : Nat × D // items[p.1]? = some p.2 }) fun p => ht s H C cl fp p.1.1 p.1.2 p.2)
    (fun s H C cl fp => pe_ex (ι := { p : Nat × D // items[p.1]? = some p.2 ∧ b p.1 = true }) fun p => he s H C cl fp p.1.1 p.1.2 p.2.1 p.2.2) hs).imp fun D σ H ⟨F, R, k⟩ => lc_read _ fr tf cf ef b r h0 hlen hw hsz hn hu ⟨F, R, fun v F1 H1 g R1 q => k _ F1 H1 (aft_setO g R1 q hp)⟩
theorem pts_yes {δ : List DV} : PTs X [] (tDT δ true δ) := ⟨fun pins s σ H Q I ⟨F, R, k⟩ => (pts_nil (X := X)).run pins s σ H Q I (k F H (.refl _ F H) R)⟩
theorem pts_of {c : Expr} {t : Bool} (h : DT X δ c t δ') : PTs X [c] (tDT δ t δ') := pts_one h
end
end DL
end
section
set_option Elab.async false
set_option linter.all false
set_option maxRecDepth 100000
/-! DLg: what a def promises over frames of data; calls of defs. -/
namespace DL
open PySem PySem.Spec PyProof.Rows L2
variable [TL]

abbrev RelD := List DV → DV → List DV → Prop
abbrev RelX := List DV → Addr → D → Prop
abbrev noX : RelX := fun _ _ _ => False
/-- a def's promise: of such arguments this comes back and they stand so; or such an error flies -/
def spD (R : RelD) (RX : RelX) : Sp := fun vs H Q E =>
  (∃ args r args', R args r args' ∧ ∃ F, Rs F H (vs.map some) args ∧ ∀ v F' H', Go (Own (vs.map some) args) (Own (vs.map some) args') F H F' H' → Rs F' H' (vs.map some) args' → Res F' H' (Own (vs.map some) args) H (Own (vs.map some) args') v r → Q v H') ∨
  ∃ args C d, RX args C d ∧ ∃ F, Rs F H (vs.map some) args ∧ ∀ dx v F' H', Go (Own (vs.map some) args) (Own (vs.map some) args) F H F' H' → Rs F' H' (vs.map some) args → XdAt F' dx [("value", v)] → Rp F' v d → E (.ref C) (some dx) H'
/-- how the own lists among the arguments stand at the end -/
def Wb (pn : List Nat) (args args' δ' : List DV) : Prop := args'.length = args.length ∧ ∀ k x, args[k]? = some x → (∃ xs ys, x = .ow xs ∧ args'[k]? = some (.ow ys) ∧ δ'[k]? = some (.ow ys) ∧ k ∈ pn) ∨ ((∀ xs, x ≠ .ow xs) ∧ args'[k]? = some x)
def noOw : List DV → Bool
  | [] => true
  | .ow _ :: _ => false
  | _ :: r => noOw r
theorem noOw_get : ∀ {l : List DV} {k : Nat} {x : DV}, noOw l = true → l[k]? = some x → ∀ xs, x ≠ .ow xs
  | [], _, _, _, h => by simp at h
  | .ow _ :: _, _, _, h, _ => by cases h
  | .un :: r, 0, x, h, e => by simp at e; subst e; exact fun _ h => nomatch h
  | .d _ :: r, 0, x, h, e => by simp at e; subst e; exact fun _ h => nomatch h
  | .raw _ :: r, 0, x, h, e => by simp at e; subst e; exact fun _ h => nomatch h
  | .pr _ :: r, 0, x, h, e => by simp at e; subst e; exact fun _ h => nomatch h
  | .un :: r, k + 1, x, h, e => noOw_get (l := r) (k := k) h (by simpa using e)
  | .d _ :: r, k + 1, x, h, e => noOw_get (l := r) (k := k) h (by simpa using e)
  | .raw _ :: r, k + 1, x, h, e => noOw_get (l := r) (k := k) h (by simpa using e)
  | .pr _ :: r, k + 1, x, h, e => noOw_get (l := r) (k := k) h (by simpa using e)
theorem wb_no {args δ' : List DV} (h : noOw args = true) : Wb [] args args δ' := ⟨rfl, fun k x e => .inr ⟨noOw_get h e, e⟩⟩
theorem wb_one {xs ys : List D} {r δ' : List DV} (h : noOw r = true) (h0 : δ'[0]? = some (.ow ys)) : Wb [0] (.ow xs :: r) (.ow ys :: r) δ' := ⟨rfl, fun k x e => by
  cases k with
  | zero => simp at e; exact .inl ⟨xs, ys, e.symm, rfl, h0, by simp⟩
  | succ k => exact .inr ⟨noOw_get (l := r) (k := k) h (by simpa using e), e⟩⟩

section
variable {F H F' H' : Hp} {vs : List V} {args args' δ' : List DV} {σ' : L2.St} {N ps : List Str} {pn : List Nat}
/-- the frame at a def's entry -/
abbrev ent (args : List DV) (n : Nat) : List DV := args ++ List.replicate n .un
theorem start_get {k : Nat} (h : k < vs.length) : (L2.start N vs)[k]? = (vs.map some)[k]? := by
  unfold L2.start
  rw [List.getElem?_append_left (by simpa using h)]
theorem Rs.enter (r : Rs F H (vs.map some) args) {n : Nat} (hn : N.length - vs.length = n) : Rs F H (L2.start N vs) (ent args n) := by
  have hl : vs.length = args.length := by have := r.len; simpa using this
  have key : ∀ {k : Nat} {xs : List D}, (ent args n)[k]? = some (.ow xs) → k < vs.length ∧ args[k]? = some (.ow xs) := fun {k xs} h => by
    by_cases hk : k < args.length
    · rw [List.getElem?_append_left hk] at h
      exact ⟨by omega, h⟩
    · rw [List.getElem?_append_right (by omega), List.getElem?_replicate] at h
      split at h <;> cases h
  refine ⟨r.sub, by unfold L2.start; simp [hl, ← hn], fun k x h => ?_, fun i j xs ys o hij h1 h2 h3 h4 => ?_, r.tb, r.nt⟩
  · by_cases hk : k < args.length
    · rw [List.getElem?_append_left hk] at h
      obtain ⟨o, e, q⟩ := r.at_ k x h
      exact ⟨o, by rw [start_get (by omega)]; exact e, q⟩
    · rw [List.getElem?_append_right (by omega), List.getElem?_replicate] at h
      split at h
      · cases h
        rename_i hlt
        refine ⟨none, ?_, trivial⟩
        unfold L2.start
        rw [List.getElem?_append_right (by simp; omega), List.getElem?_replicate, if_pos (by simp; omega)]
      · cases h
  · obtain ⟨a1, a2⟩ := key h1
    obtain ⟨b1, b2⟩ := key h2
    rw [start_get a1] at h3
    rw [start_get b1] at h4
    exact r.ap i j xs ys o hij a2 b2 h3 h4
theorem own_enter {n : Nat} {a : Addr} : Own (L2.start N vs) (ent args n) a → vs.length = args.length → Own (vs.map some) args a := fun ⟨k, xs, h1, h2⟩ hl => by
  by_cases hk : k < args.length
  · rw [List.getElem?_append_left hk] at h1
    rw [start_get (by omega)] at h2
    exact ⟨k, xs, h1, h2⟩
  · rw [List.getElem?_append_right (by omega), List.getElem?_replicate] at h1
    split at h1 <;> cases h1
/-- back from the body -/
theorem leave_ {n : Nat} (r : Rs F H (vs.map some) args) (hn : N.length - vs.length = n) (A : Aft pn (L2.start N vs) (ent args n) F H σ' δ' F' H') (W : Wb pn args args' δ') :
    Go (Own (vs.map some) args) (Own (vs.map some) args') F H F' H' ∧ Rs F' H' (vs.map some) args' ∧ ∀ a, Own (vs.map some) args' a → Own σ' δ' a := by
  have hl : vs.length = args.length := by have := r.len; simpa using this
  obtain ⟨w1, w2⟩ := W
  have nth : ∀ {k : Nat} {y : DV}, args'[k]? = some y → ∃ x, args[k]? = some x := fun {k y} h => by
    have hk : k < args.length := by rw [← w1]; exact (List.getElem?_eq_some_iff.mp h).1
    exact ⟨_, List.getElem?_eq_getElem hk⟩
  have own : ∀ {k : Nat} {ys : List D}, args'[k]? = some (.ow ys) → (∃ xs, args[k]? = some (.ow xs)) ∧ δ'[k]? = some (.ow ys) ∧ σ'[k]? = (vs.map some)[k]? := fun {k ys} h => by
    obtain ⟨x, e⟩ := nth h
    have hk : k < args.length := (List.getElem?_eq_some_iff.mp e).1
    rcases w2 k x e with ⟨xs, ys', rfl, h1, h2, h3⟩ | ⟨h1, h2⟩
    · rw [h] at h1; cases h1
      refine ⟨⟨xs, e⟩, h2, ?_⟩
      rw [A.pin k h3, start_get (by omega)]
    · rw [h] at h2; exact absurd (Option.some.inj h2).symm (h1 ys)
  have oo : ∀ a, Own (vs.map some) args' a → Own σ' δ' a := fun a ⟨k, ys, h1, h2⟩ => by
    obtain ⟨_, q2, q3⟩ := own h1
    exact ⟨k, ys, q2, by rw [q3]; exact h2⟩
  refine ⟨⟨A.go.ff, fun a o h n nt => A.go.keep a o h (fun z => n (own_enter z hl)) nt, fun a o h => (A.go.new a o h).imp id (Or.imp id fun z => own_enter z hl), A.go.there, fun a ⟨k, ys, h1, h2⟩ => ?_⟩, ⟨A.rs.sub, ?_, fun k y h => ?_, fun i j xs ys o hij h1 h2 h3 h4 => ?_, A.rs.tb, A.rs.nt⟩, oo⟩
  · obtain ⟨⟨xs, q1⟩, _, _⟩ := own h1
    exact .inl ⟨k, xs, q1, h2⟩
  · rw [w1]; simpa using hl
  · obtain ⟨x, e⟩ := nth h
    rcases w2 k x e with ⟨xs, ys', rfl, h1, h2, h3⟩ | ⟨h1, h2⟩
    · rw [h] at h1; cases h1
      obtain ⟨o, q1, q2⟩ := A.rs.at_ k _ h2
      obtain ⟨_, _, q3⟩ := own h
      exact ⟨o, by rw [← q3]; exact q1, q2⟩
    · rw [h] at h2; cases h2
      obtain ⟨o, q1, q2⟩ := r.at_ k _ e
      refine ⟨o, q1, ?_⟩
      cases y with
      | un => trivial
      | d x => obtain ⟨v, k1, k2⟩ := q2; exact ⟨v, k1, k2.ex A.go.ff⟩
      | raw v => exact q2
      | pr P => obtain ⟨v, k1, k2⟩ := q2; exact ⟨v, k1, fun F2 e2 => k2 F2 (A.go.ff.trans e2)⟩
      | ow xs => exact absurd rfl (h1 xs)
  · obtain ⟨⟨xs', q1⟩, _, _⟩ := own h1
    obtain ⟨⟨ys', q2⟩, _, _⟩ := own h2
    exact r.ap i j xs' ys' o hij q1 q2 h3 h4
end

/-- a def keeps its promise -/
def Out.ret (r : DV) (δ' : List DV) (o : Out) : Prop := o = .rt r δ' ∨ (o = .nx δ' ∧ r = .d .non)
section
variable {P : Program} {w : World} {K : PySem.W.Frag} {mg : Str → Option Value} {base : Heap} {x qual : Str} {params : Arguments} {body : List Stmt} {scope : Scope} {dvs : List V} {kws : List (Str × V)} {f : Addr} {fd : FuncData} {N ps : List Str} {k : Nat} {R : RelD} {RX : RelX}
theorem Go.frame {O O' : Addr → Prop} {F H F' H' : Hp} {σ : L2.St} {δ : List DV} (R : Rs F H σ δ) (g : Go O O' F H F' H') (ho : ∀ a, ¬ O a) (e : Ex F' H') (tb : LamX.Tabs TL.T H') (nt : ∀ a ps, F' a ≠ some (.tbl ps)) : Go (Own σ δ) (Own σ δ) F H F' H' ∧ Rs F' H' σ δ := by
  refine ⟨⟨g.ff, fun a o h _ nt => g.keep a o h (ho a) nt, fun a o h => (g.new a o h).imp id (Or.imp id fun z => absurd z (ho a)), g.there, fun a h => .inl h⟩, e, R.len, fun k x h => ?_, R.ap, tb, nt⟩
  obtain ⟨o, e, q⟩ := R.at_ k x h
  refine ⟨o, e, ?_⟩
  cases x with
  | un => trivial
  | d x => obtain ⟨v, k1, k2⟩ := q; exact ⟨v, k1, k2.ex g.ff⟩
  | raw v => exact q
  | pr P => obtain ⟨v, k1, k2⟩ := q; exact ⟨v, k1, fun F2 e2 => k2 F2 (g.ff.trans e2)⟩
  | ow xs =>
    obtain ⟨p, us, k1, k2, k3, k4⟩ := q
    refine ⟨p, us, k1, ?_, g.keep p _ k3 (ho p) (fun _ h => nomatch h), k4.ex g.ff⟩
    cases z : F' p with
    | none => rfl
    | some o =>
      rcases g.new p o z with z | z | z
      · rw [k2] at z; cases z
      · exact (z.lst k3).elim
      · exact absurd z (ho p)
theorem noOw_own {l : List DV} (h : noOw l = true) {σ : L2.St} {a : Addr} : ¬ Own σ l a := fun ⟨_, xs, h1, _⟩ => noOw_get h h1 xs rfl
theorem fn_rel (F : FunD K x qual params body scope dvs kws f fd) (S : FnScope N ps scope) (hl : ∀ args r args', R args r args' → args.length = ps.length) (hlx : ∀ args C d, RX args C d → args.length = ps.length ∧ noOw args = true)
    (hb : ∀ (cdv : Value) (A : Around) (outer : List Env) (s : Shared) (H : Hp) (E : XK), Room k (A.deeper (envOfC qual scope s.heap.objs.size f cdv)) → ∀ args r args', R args r args' →
      ∃ pn δ' o, DSs (cxOf (L2.CX P w) P w K mg base N qual scope f cdv A outer s H E) pn (ent args (N.length - ps.length)) body o ∧ Out.ret r δ' o ∧ Wb pn args args' δ')
    (hx : ∀ (cdv : Value) (A : Around) (outer : List Env) (s : Shared) (H : Hp) (E : XK), Room k (A.deeper (envOfC qual scope s.heap.objs.size f cdv)) → ∀ args C d, RX args C d →
      DSs (cxOf (L2.CX P w) P w K mg base N qual scope f cdv A outer s H E) [] (ent args (N.length - ps.length)) body (.ex C d)) :
    FnOk P w K mg base (L2.CX P w) (k + 1) f fd ps (spD R RX) := by
  have len : ∀ vs H Q E, spD R RX vs H Q E → vs.length = ps.length := fun vs H Q E h => by
    rcases h with ⟨args, r, args', hR, F, r1, _⟩ | ⟨args, C, d, hR, F, r1, _⟩
    · rw [← hl _ _ _ hR]; simpa using r1.len
    · rw [← (hlx _ _ _ hR).1]; simpa using r1.len
  refine F.ok S len fun cdv A outer s H vs Q E hr h => ?_
  have hlen := len _ _ _ _ h
  rcases h with ⟨args, r, args', hR, F, r1, kk⟩ | ⟨args, C, d, hR, F, r1, kk⟩
  · obtain ⟨pn, δ', o, ds, ho, W⟩ := hb cdv A outer s H E hr args r args' hR
    have en : N.length - vs.length = N.length - ps.length := by rw [hlen]
    have hl' : vs.length = args.length := by simpa using r1.len
    refine ⟨_, ds, F, r1.enter en, ?_⟩
    rcases ho with rfl | ⟨rfl, rfl⟩
    · intro v σ' F' H' A' r'
      obtain ⟨g, R', oo⟩ := leave_ r1 en A' W
      refine kk v F' H' g R' ?_
      cases r with
      | un => trivial
      | d x => exact r'
      | raw v => exact r'
      | pr P => exact r'
      | ow xs =>
        obtain ⟨p, us, e, h1, h2, h3, h4, h5⟩ := r'
        exact ⟨p, us, e, h1, h2, h3, fun z => h4 (oo p z), h5.imp id fun z => own_enter z hl'⟩
    · intro σ' F' H' A'
      obtain ⟨g, R', oo⟩ := leave_ r1 en A' W
      exact kk .non F' H' g R' .non
  · have ds := hx cdv A outer s H E hr args C d hR
    have en : N.length - vs.length = N.length - ps.length := by rw [hlen]
    have hl' : vs.length = args.length := by simpa using r1.len
    have no := (hlx _ _ _ hR).2
    refine ⟨_, ds, F, r1.enter en, fun dx v σ' δ' F' H' A' hxd hv => ?_⟩
    have noE : ∀ a, ¬ Own (L2.start N vs) (ent args (N.length - ps.length)) a := fun a z => noOw_own no (own_enter z hl')
    obtain ⟨g, R'⟩ := Go.frame r1 A'.go noE A'.rs.sub A'.rs.tb A'.rs.nt
    exact Wx.of (takes_of (X := cxOf (L2.CX P w) P w K mg base N qual scope f cdv A outer s H E) rfl rfl rfl rfl) (kk dx v F' H' g R' hxd hv)
/-- .. a def that raises nothing -/
theorem fn_rel0 (F : FunD K x qual params body scope dvs kws f fd) (S : FnScope N ps scope) (hl : ∀ args r args', R args r args' → args.length = ps.length)
    (hb : ∀ (cdv : Value) (A : Around) (outer : List Env) (s : Shared) (H : Hp) (E : XK), Room k (A.deeper (envOfC qual scope s.heap.objs.size f cdv)) → ∀ args r args', R args r args' →
      ∃ pn δ' o, DSs (cxOf (L2.CX P w) P w K mg base N qual scope f cdv A outer s H E) pn (ent args (N.length - ps.length)) body o ∧ Out.ret r δ' o ∧ Wb pn args args' δ') :
    FnOk P w K mg base (L2.CX P w) (k + 1) f fd ps (spD R noX) := fn_rel F S hl (fun _ _ _ h => h.elim) hb fun _ _ _ _ _ _ _ _ _ _ h => h.elim
end

/-! ### a def as it is called -/
structure FD (P : Program) (w : World) (K : PySem.W.Frag) (mg : Str → Option Value) (base : Heap) (k : Nat) (x : Str) (ps : List Str) (R : RelD) (RX : RelX) : Prop where
  ex : ∃ f fd, FnOk P w K mg base (L2.CX P w) k f fd ps (spD R RX) ∧ mg x = some (.ref f) ∧ PySem.W.keepIn K (.ref f) = true ∧ L2.Binds K fd ps []
theorem FD.mono {P : Program} {w : World} {K : PySem.W.Frag} {mg : Str → Option Value} {base : Heap} {k j : Nat} {x : Str} {ps : List Str} {R R' : RelD} {RX RX' : RelX} (h : FD P w K mg base k x ps R RX) (hj : k ≤ j) (hR : ∀ a r a', R' a r a' → R a r a') (hX : ∀ a C d, RX' a C d → RX a C d) : FD P w K mg base j x ps R' RX' := by
  obtain ⟨f, fd, h1, h2, h3, h4⟩ := h.ex
  refine ⟨f, fd, (h1.mono hj).imp fun vs H Q E q => ?_, h2, h3, h4⟩
  rcases q with ⟨a, r, a', q1, q2⟩ | ⟨a, C, d, q1, q2⟩
  · exact .inl ⟨a, r, a', hR _ _ _ q1, q2⟩
  · exact .inr ⟨a, C, d, hX _ _ _ q1, q2⟩
def AV.dv (δ : List DV) : AV → DV
  | .d x => .d x
  | .sl i => δ.getD i .un
  | .raw v => .raw v
  | .pr P => .pr P
def AV.noSl : List AV → Bool
  | [] => true
  | .sl _ :: _ => false
  | _ :: r => AV.noSl r
section
variable {X : Cx} {δ δ1 δ2 : List DV} {e : Expr} {es : List Expr} {as : List AV} {pos p1 : Pos} {F H : Hp} {σ : L2.St}
theorem AVs.at_ {δ : List DV} : ∀ {vs : List V} {as : List AV} {k : Nat} {y : DV}, AVs F σ vs as → AV.noSl as = true → (as.map (AV.dv δ))[k]? = some y → ∃ v, (vs.map some)[k]? = some (some v) ∧ At F H (some v) y ∧ ∀ xs, y ≠ .ow xs
  | _, _, _, _, .nil, _, h => by simp at h
  | _, .sl _ :: _, _, _, .cons _ _, h, _ => by cases h
  | _, .d x :: _, 0, y, .cons r t, h, e => by simp at e; subst e; exact ⟨_, rfl, ⟨_, rfl, r⟩, fun _ h => nomatch h⟩
  | _, .raw x :: _, 0, y, .cons r t, h, e => by simp at e; subst e; exact ⟨_, rfl, congrArg some r, fun _ h => nomatch h⟩
  | _, .pr x :: _, 0, y, .cons r t, h, e => by simp at e; subst e; exact ⟨_, rfl, ⟨_, rfl, r⟩, fun _ h => nomatch h⟩
  | _, .d x :: as, k + 1, y, .cons r t, h, e => by
    obtain ⟨v, h1, h2⟩ := AVs.at_ (as := as) (k := k) t h (by simpa using e)
    exact ⟨v, by simpa using h1, h2⟩
  | _, .raw x :: as, k + 1, y, .cons r t, h, e => by
    obtain ⟨v, h1, h2⟩ := AVs.at_ (as := as) (k := k) t h (by simpa using e)
    exact ⟨v, by simpa using h1, h2⟩
  | _, .pr x :: as, k + 1, y, .cons r t, h, e => by
    obtain ⟨v, h1, h2⟩ := AVs.at_ (as := as) (k := k) t h (by simpa using e)
    exact ⟨v, by simpa using h1, h2⟩
theorem AVs.len {vs : List V} {as : List AV} (h : AVs F σ vs as) : vs.length = as.length := Paired.length h
theorem AVs.rs {vs : List V} (h : AVs F σ vs as) (hn : AV.noSl as = true) (R : Rs F H σ δ) : Rs F H (vs.map some) (as.map (AV.dv δ)) := by
  refine ⟨R.sub, by simp [h.len], fun k y e => ?_, fun i j xs ys o hij h1 => ?_, R.tb, R.nt⟩
  · obtain ⟨v, h1, h2, _⟩ := AVs.at_ (H := H) h hn e
    exact ⟨_, h1, h2⟩
  · obtain ⟨v, _, _, h3⟩ := AVs.at_ (H := H) h hn h1
    exact absurd rfl (h3 xs)
theorem AVs.noOwn {vs : List V} (h : AVs F σ vs as) (hn : AV.noSl as = true) {a : Addr} : ¬ Own (vs.map some) (as.map (AV.dv δ)) a := fun ⟨k, xs, h1, _⟩ => by
  obtain ⟨v, _, _, h3⟩ := AVs.at_ (H := fun _ => none) h hn h1
  exact h3 xs rfl
/-- the answer of a call without own lists handed in -/
theorem call_fin {R : RelD} {RX : RelX} {vs : List V} {r : DV} {Q : VK} {E : XK} (Rf : Rs F H σ δ) (ra : AVs F σ vs as) (hn : AV.noSl as = true) (hR : R (as.map (AV.dv δ)) r (as.map (AV.dv δ)))
    (k : ∀ v F' H', Go (Own σ δ) (Own σ δ) F H F' H' → Rs F' H' σ δ → Res F' H' (Own σ δ) H (Own σ δ) v r → Q v H') : spD R RX vs H Q E :=
  .inl ⟨_, r, _, hR, F, ra.rs hn Rf, fun v F' H' g R' q => by
    obtain ⟨g2, R2⟩ := Go.frame Rf g (fun a => ra.noOwn hn) R'.sub R'.tb R'.nt
    refine k v F' H' g2 R2 ?_
    cases r with
    | un => trivial
    | d x => exact q
    | raw v => exact q
    | pr P => exact q
    | ow xs =>
      obtain ⟨p, us, e, h1, h2, h3, h4, h5⟩ := q
      have hp : Fre H p := h5.resolve_right (ra.noOwn hn)
      exact ⟨p, us, e, h1, h2, h3, Rf.own_fre hp, .inl hp⟩⟩
theorem de_call {k : Nat} {x : Str} {ps : List Str} {R : RelD} {RX : RelX} {r : DV} (G : FD X.prog X.w X.K X.mg X.base k x ps R RX) (hr : Room k X.A) (hg : Gl X x) (ha : DA X δ (e :: es) as δ1) (hn : AV.noSl as = true) (hR : R (as.map (AV.dv δ1)) r (as.map (AV.dv δ1)))
    (hdb : (x == ("__debug__" : Str)) = false := by decide) (he : starEach (e :: es) X.env = (false, eval e X.env) :: starEach es X.env := by rfl) (hpl : (backTo pos (starEach es X.env)).any (·.1) = false := by rfl) : DE X δ (.Call (.Name x p1) (e :: es) [] pos) r δ1 := by
  obtain ⟨f, fd, h1, h2, h3, h4⟩ := G.ex
  refine (pe_call h1 hr hg h2 h3 h4 .nil passL ha hdb he hpl).imp fun σ H Q ⟨F, Rf, k⟩ => ⟨F, Rf, fun vs F1 H1 g1 R1 ra => ?_⟩
  show spD R RX (vs ++ []) H1 Q E0
  rw [List.append_nil]
  exact call_fin R1 ra hn hR fun v F2 H2 g2 R2 q => k v F2 H2 (g1.trans g2) R2 (Res.back g1 q)
/-- the first argument a list of the frame's own, by its slot -/
theorem de_callP {k i : Nat} {x : Str} {ps : List Str} {R : RelD} {RX : RelX} {r : DV} {xs ys : List D} (G : FD X.prog X.w X.K X.mg X.base k x ps R RX) (hr : Room k X.A) (hg : Gl X x) (ha : DA X δ (e :: es) (.sl i :: as) δ1) (hn : AV.noSl as = true) (hi : δ1[i]? = some (.ow xs))
    (hR : R (.ow xs :: as.map (AV.dv δ1)) r (.ow ys :: as.map (AV.dv δ1)))
    (hdb : (x == ("__debug__" : Str)) = false := by decide) (he : starEach (e :: es) X.env = (false, eval e X.env) :: starEach es X.env := by rfl) (hpl : (backTo pos (starEach es X.env)).any (·.1) = false := by rfl) : DE X δ (.Call (.Name x p1) (e :: es) [] pos) r (δ1.set i (.ow ys)) := by
  obtain ⟨f, fd, h1, h2, h3, h4⟩ := G.ex
  refine (pe_call h1 hr hg h2 h3 h4 .nil passL ha hdb he hpl).imp fun σ H Q ⟨F, Rf, k⟩ => ⟨F, Rf, fun vs F1 H1 g1 R1 ra => ?_⟩
  show spD R RX (vs ++ []) H1 Q E0
  rw [List.append_nil]
  cases ra with
  | @cons v0 _ vs' _ r0 ra =>
  have r0 : σ[i]? = some (some v0) := r0
  obtain ⟨o, e0, p, us, q1, q2, q3, q4⟩ := R1.at_ i _ hi
  rw [r0] at e0
  have ev : v0 = .ref p := by cases e0; exact Option.some.inj q1
  subst ev
  have hil : i < δ1.length := (List.getElem?_eq_some_iff.mp hi).1
  have RA := AVs.rs ra hn R1
  have rs1 : Rs F1 H1 ((V.ref p :: vs').map some) (.ow xs :: as.map (AV.dv δ1)) := by
    refine ⟨R1.sub, by have := RA.len; simp at this ⊢; exact this, fun k y e => ?_, fun k j as1 bs1 o hkj h1 h2 => ?_, R1.tb, R1.nt⟩
    · cases k with
      | zero => simp at e; subst e; exact ⟨_, rfl, p, us, rfl, q2, q3, q4⟩
      | succ k =>
        obtain ⟨o, k1, k2⟩ := RA.at_ k y (by simpa using e)
        exact ⟨o, by simpa using k1, k2⟩
    · have no : ∀ {k : Nat} {as' : List D}, (DV.ow xs :: as.map (AV.dv δ1))[k]? = some (.ow as') → k = 0 := fun {k as'} h => by
        cases k with
        | zero => rfl
        | succ k =>
          obtain ⟨v, _, _, h3⟩ := AVs.at_ (H := H1) (k := k) ra hn (by simpa using h)
          exact absurd rfl (h3 as')
      exact absurd ((no h1).trans (no h2).symm) hkj
  have ownc : ∀ {zs : List D} {a : Addr}, Own ((V.ref p :: vs').map some) (.ow zs :: as.map (AV.dv δ1)) a ↔ a = p := fun {zs a} => by
    constructor
    · rintro ⟨k, ws, h1, h2⟩
      cases k with
      | zero => simp at h2; exact h2.symm
      | succ k =>
        obtain ⟨v, _, _, h3⟩ := AVs.at_ (H := H1) (k := k) ra hn (by simpa using h1)
        exact absurd rfl (h3 ws)
    · rintro rfl
      exact ⟨0, zs, rfl, rfl⟩
  have ownp : Own σ δ1 p := ⟨i, xs, hi, r0⟩
  refine .inl ⟨_, r, _, hR, F1, rs1, fun v F2 H2 g2 R2 q => ?_⟩
  obtain ⟨o2, e2, p2, us2, k1, k2, k3, k4⟩ := R2.at_ 0 (.ow ys) rfl
  have ep : p2 = p := by
    simp at e2
    rw [← e2] at k1
    exact (V.ref.inj (Option.some.inj k1)).symm
  subst ep
  have own' : ∀ a, Own σ (δ1.set i (.ow ys)) a → Own σ δ1 a := fun a => own_same hi
  have G2 : Go (Own σ δ1) (Own σ (δ1.set i (.ow ys))) F1 H1 F2 H2 := ⟨g2.ff, fun a o h n nt => g2.keep a o h (fun z => n (by rw [ownc.mp z]; exact ownp)) nt, fun a o h => (g2.new a o h).imp id (Or.imp id fun z => by rw [ownc.mp z]; exact ownp), g2.there, fun a h => .inl (own' a h)⟩
  have RR : Rs F2 H2 σ (δ1.set i (.ow ys)) := by
    refine ⟨R2.sub, by rw [List.length_set]; exact R1.len, fun k y h => ?_, fun k j as bs o hkj h1 h2 h3 => ?_, R2.tb, R2.nt⟩
    · by_cases z : i = k
      · subst z
        rw [List.getElem?_set_self hil] at h
        cases h
        exact ⟨_, r0, p2, us2, rfl, k2, k3, k4⟩
      · rw [List.getElem?_set_ne z] at h
        obtain ⟨o, e, q⟩ := R1.at_ k y h
        refine ⟨o, e, ?_⟩
        cases y with
        | un => trivial
        | d x => obtain ⟨v, k1, k2⟩ := q; exact ⟨v, k1, k2.ex g2.ff⟩
        | raw v => exact q
        | pr P => obtain ⟨v, k1, k2⟩ := q; exact ⟨v, k1, fun F3 e3 => k2 F3 (g2.ff.trans e3)⟩
        | ow zs =>
          obtain ⟨b, ws, m1, m2, m3, m4⟩ := q
          have nb : b ≠ p2 := fun w => R1.ap i k xs zs _ z hi h r0 (by rw [e, m1, w])
          refine ⟨b, ws, m1, ?_, g2.keep b _ m3 (fun w => nb (ownc.mp w)) (fun _ h => nomatch h), m4.ex g2.ff⟩
          cases w : F2 b with
          | none => rfl
          | some o =>
            rcases g2.new b o w with w | w | w
            · rw [m2] at w; cases w
            · exact (w.lst m3).elim
            · exact absurd (ownc.mp w) nb
    · have ne : ∀ {m : Nat} {ws : List D}, (δ1.set i (.ow ys))[m]? = some (.ow ws) → ∃ zs, δ1[m]? = some (.ow zs) := fun {m ws} q => by
        by_cases z : i = m
        · subst z; exact ⟨xs, hi⟩
        · rw [List.getElem?_set_ne z] at q; exact ⟨ws, q⟩
      obtain ⟨a1, w1⟩ := ne h1
      obtain ⟨a2, w2⟩ := ne h2
      exact R1.ap k j a1 a2 o hkj w1 w2 h3
  refine k v F2 H2 (g1.trans G2) RR (Res.back g1 ?_)
  cases r with
  | un => trivial
  | d x => exact q
  | raw v => exact q
  | pr P => exact q
  | ow zs =>
    obtain ⟨b, ws, e, h1, h2, h3, h4, h5⟩ := q
    have nb : b ≠ p2 := fun z => h4 (ownc.mpr z)
    have hb : Fre H1 b := h5.resolve_right fun z => nb (ownc.mp z)
    exact ⟨b, ws, e, h1, h2, h3, fun z => R1.own_fre hb (own' b z), .inl hb⟩
end
end DL
end
section
set_option Elab.async false
set_option linter.all false
set_option maxRecDepth 100000
set_option maxHeartbeats 2000000
/-! DLx: own errors with super().__init__() and one field. -/
namespace PySem
namespace DLX
open PySem.W PySem.Calls PyProof.Rows PySem.HandSPX
/-! ### the text of __init__ -/
def vA (p1 p2 p3 : Pos) : Arguments := { posonlyargs := [], args := [{ arg := "self", annotation := none, pos := p1 }, { arg := "value", annotation := none, pos := p2 }], vararg := none, kwonlyargs := [], kw_defaults := [], kwarg := none, defaults := [(.Constant .none 0 p3)] }
def vB (p0 p1 p2 p3 p4 q1 q2 q3 q4 : Pos) : List Stmt := [.Expr (.Call (.Attribute (.Call (.Name "super" p0) [] [] p1) "__init__" p2) [] [] p3) p4, .Assign [.Attribute (.Name "self" q1) "value" q2] (.Name "value" q3) q4]
def vS : Scope := { kind := .function, names := [(PySem.Str.ofString "self", .local), (PySem.Str.ofString "value", .local), (PySem.Str.ofString "__class__", .free), (PySem.Str.ofString "super", .globalImplicit)], isGenerator := false, isCoroutine := false, more := [] }
abbrev veB : List Value := [.type "ValueError", .type "Exception", .type "BaseException", .type "object"]
/-- what the written part says of the error x at C and of its __init__ at fI -/
structure ErrT (P : Program) (K : Frag) (x : Str) (C fI : Addr) : Prop where
  oex : L2.OexC K C
  xf : L2.XfC K C
  noV : findIn K (.ref C) "value" = some none
  iC : findIn K (.ref C) "__init__" = some (some (.ref fI))
  tI : typeIn K (.ref fI) = some (.type "function")
  ini : excInitIn K C veB "ValueError.__new__" = true
  sup : ks_superIn K C C "__init__" = some (some (.builtin "ValueError.__init__"))
  opq : nsIn K cStatics "thirdparty.any" = some none
  sub : mroIn K C (.ref C) = some true
  subV : subIn K (.ref C) (.type "ValueError") = some true
  clC : findIn K (.ref C) "__class__" = some (some (.builtin "object.__class__"))
  spC : specialIn K (.builtin "object.__class__") "__get__" = some (some (.builtin "getset_descriptor.__get__"))
  tkC : takesIn K (.builtin "object.__class__") = some true
  moC : mroIn K C (.type "object") = some true
  top : (P.main.scope.names.lookup ("super" : Str)).isSome = false
  fn : ∃ (oc : Value) (od : Option Addr) (Td : Addr) (kV doc pm : Value) (an : Option Addr) (cda : Addr) (ct : Value) (cc : Addr) (osl : Array (Option Value)) (a1 a2 a3 p0 p1 p2 p3 p4 q1 q2 q3 q4 : Pos),
    K.lookup fI = some ⟨oc, od, .func (ksFn "__init__" (x ++ ".__init__") (vA a1 a2 a3) (vB p0 p1 p2 p3 p4 q1 q2 q3 q4) vS (.ref Td) kV doc pm an (.ref cda) ct cc), osl⟩ ∧ (∃ (o : Obj) (it : Value) (n : Nat), K.lookup Td = some o ∧ o.data = .seq #[it] n) ∧ codeIn K (.ref cda) (x ++ ".__init__") = true ∧ (p2.endLine == p3.line) = true ∧
    (∃ (cl : Value) (cld : Option Addr) (csl : Array (Option Value)), K.lookup cc = some ⟨cl, cld, .cell (some (.ref C)), csl⟩) ∧
    ∃ (ccl : Value) (cdd : Option Addr) (vs : Array Value) (ccs : Array (Option Value)) (file : Str) (tf : Tok), K.lookup cda = some ⟨ccl, cdd, .fields vs, ccs⟩ ∧ vs[2]? = some (.str file tf) ∧ ((P.main.file : Str) == file) = true
theorem kept_but {K : Frag} {h h' : Heap} {x : Addr} (X : K.In h) (hx : K.lookup x = none) (k : ∀ b o, b ≠ x → h.get? b = some o → h'.get? b = some o) : K.In h' := fun a o e =>
  k a o (fun z => by rw [z, hx] at e; cases e) (X a o e)
theorem ldC {M : Model} {s : Shared} {name : Str} {scope : Scope} {L a : Addr} {cd : Value} {cl : List (Str × Addr)} {m : Str → Option Value} {x : Str} {pos : Pos} {v : Value} {Q : Value → Shared → Prop} {A : Around} {E : Value → Shared → Prop} (hn : s.heap.Ns L m) (hv : m x = some v) (h : Q v s)
    (hk : scope.kind = .function := by rfl) (hl : (envX name scope L a cd cl).kindOf x = some .local := by rfl) (hd : (x == ("__debug__" : Str)) = false := by decide) :
    wpAny M A (eval (.Name x pos) (envX name scope L a cd cl)) Q E s := wpAny_Name (wpAny_loadName_local hk hl hn hv h) hd
/-- what __init__ leaves of a fresh exception at x -/
structure InitEnd (h h' : Heap) (x C dx t1 : Addr) (v : Value) : Prop where
  keep : ∀ b o, b ≠ x → h.get? b = some o → h'.get? b = some o
  obj : h'.get? x = some { cls := .ref C, dict := some dx, data := .fields #[.ref t1, .none, .none, .none, .bool false, .none] }
  dbig : h.objs.size ≤ dx
  dne : dx ≠ x
  ns : h'.Ns1 dx (fun y => if y = "value" then some v else none)
section
variable {prog : Program} {w : World} {A : Around} {R : Result → Shared → Prop} {s : Shared} {K : Frag} {C fI : Addr} {x : Str} {mg mb : Str → Option Value}
theorem vinit (T : ErrT prog K x C fI) {e t0 : Addr} {v : Value} (X : K.In s.heap) (hg : s.heap.Ns mainGlobals mg) (hb : s.heap.Ns builtinsNs mb) (hbb : ∀ x : Str, x ≠ "__name__" → mb x = bootBuiltins x) (hsm : mg "super" = none) (hlim : s.heap.NoLimit)
    (hx : s.heap.get? e = some (excO C t0)) (hnx : K.lookup e = none) (hroom : A.depth < recursionLimit) {fd : FuncData} {args : Args} (hfd : ∃ o, K.lookup fI = some o ∧ o.data = .func fd) (hbind : BindsTo s fd args [("self", .ref e), ("value", v)])
    (hq : ∀ h' tk dx t1, InitEnd s.heap h' e C dx t1 v → R (.ok (.ret .none)) { s with heap := h', toks := tk }) :
    codeAny (model prog w) A (.call (.ref fI) args) R s := by
  obtain ⟨oc, od, Td, kV, doc, pm, an, cda, ct, cc, osl, a1, a2, a3, p0, p1, p2, p3, p4, q1, q2, q3, q4, ho, _, hcd, hln, ⟨cl, cld, csl, hcell⟩, ccl, cdd, vs, ccs, file, tf, hco, hvs, hfile⟩ := T.fn
  obtain ⟨o', e1, e2⟩ := hfd
  rw [ho] at e1; cases e1; cases e2
  obtain ⟨nm, q, N, bs, bm, sn, sub, ab, col, dd, k0, k1, k2, k3, k5, hC, hbm⟩ := T.oex.cls
  have hcl : clsIn K C = some { name := nm, bases := bs, mro := .ref C :: bm, ns := N, qualname := q, hasDict := true, slotNames := sn, subclasses := sub, abstract := ab, collection := col, hasDel := false } := by unfold clsIn; rw [hC] <;> rfl
  refine ks_codeAny_call_defAt (fd := ksFn "__init__" (x ++ ".__init__") (vA a1 a2 a3) (vB p0 p1 p2 p3 p4 q1 q2 q3 q4) vS (.ref Td) kV doc pm an (.ref cda) ct cc) (body := vB p0 p1 p2 p3 p4 q1 q2 q3 q4) (binds := [("self", .ref e), ("value", v)]) hroom (X _ _ ho) rfl hlim (codeRec_of X hcd) rfl hbind (by show ∀ x ∈ vS.names, x.2 ≠ .cell; decide) (by
    intro y hy
    rcases List.mem_cons.mp hy with rfl | hy
    · rfl
    rcases List.mem_cons.mp hy with rfl | hy
    · rfl
    · cases hy) (fun h₁ hns k => ?_)
  have X₁ : K.In h₁ := X.keeps k
  have hx₁ := k _ _ hx
  have hLe : s.heap.objs.size ≠ e := Nat.ne_of_gt (Heap.lt_size hx)
  have heq : ∀ env : Env, eval (.Call (.Attribute (.Call (.Name "super" p0) [] [] p1) "__init__" p2) [] [] p3) env = (do
      let ov ← attributeBase (.Call (.Name "super" p0) [] [] p1) "__init__" env (eval (.Call (.Name "super" p0) [] [] p1) env)
      standAt p2.atName
      let (f, first) ← holding [ov] (getMethod ov "__init__" (L2.plainOf (.Call (.Name "super" p0) [] [] p1) env))
      callWith p3 f first (backTo p3 (starEach [] env)) []) := fun env => by
    show (attributeBase (.Call (.Name "super" p0) [] [] p1) "__init__" env (eval (.Call (.Name "super" p0) [] [] p1) env) >>= fun ov => standAt p2.atName >>= fun _ => methodCall (.Call (.Name "super" p0) [] [] p1) "__init__" p2 p3 env ov 0 (backTo p3 (starEach [] env)) (backToKw p3 (keywordEach [] env))) = _
    exact congrArg (bind _) (funext fun ov => congrArg (bind _) (funext fun _ => L2.mcall_line rfl hln))
  have X₀ : K.In (hideAll s.heap [e]) := fun b o z => hideAll_get [e] (X b o z) fun hm => by
    rw [List.mem_singleton] at hm
    rw [hm, hnx] at z
    cases z
  have gone : (hideAll s.heap [e]).get? e = none := hideAll_none [e] (List.mem_singleton.mpr rfl)
  have F1 : Fr (hideAll s.heap [e]) s.heap.objs.size h₁ (fun y => ([("self", .ref e), ("value", v)] : List (Str × Value)).reverse.lookup y) := ⟨hns, fun b o z => k b o (of_hideAll [e] z), Nat.le_of_eq (hideAll_size _ _)⟩
  have N1 : News (hideAll s.heap [e]) s.heap.objs.size h₁ [(e, excObj C t0 none .none)] := fun p hp => by
    rw [List.mem_singleton] at hp
    subst hp
    exact ⟨hx₁, Ne.symm hLe, gone⟩
  have I1 : InstAt h₁ e (excObj C t0 none .none) C none := ⟨hx₁, rfl, rfl, trivial⟩
  -- super().__init__()
  refine ks_wpAt_execs_cons (ks_wpAt_Expr_any (ks_wpAt_MethodCall ?_ (heq _)))
  refine ks_wpAt_super_base (of := _) (oc := _) (vs := vs) rfl rfl (by decide) rfl (X₁ _ _ ho) rfl rfl rfl (X₁ _ _ hco) rfl hvs hfile T.top ?_
  refine ks_loadName_global rfl rfl (loadGlobal_builtin (hg.keeps k) hsm (hb.keeps k) ((hbb _ (by decide +kernel)).trans (by kernel_rfl)) ⟨rfl, ?_⟩)
  refine wpAny_loadName_free rfl rfl rfl ⟨_, X₁ _ _ hcell, rfl⟩ ?_
  refine wpAny_loadName_local (v := .ref e) rfl rfl hns rfl ?_
  refine ks_wpAny_isType_cls (X₁ _ _ hC) rfl ⟨rfl, ?_⟩
  refine ks_wpAny_call_super (X₁ _ _ hC) rfl I1.at_ I1.cls (fun c z => by cases z) (looks_mroIn X₁ T.sub) (fun h' z k2 => ?_)
  obtain ⟨F2, N2, l2⟩ := ks_newsPush (s := { s with heap := h₁, toks := s.toks + 2 }) F1 N1 rfl z k2
  have I2 : InstAt h' e (excObj C t0 none .none) C none := ⟨k2 _ _ hx₁, rfl, rfl, trivial⟩
  refine kxs_method kxs_ValueError F2 X₀ N2 (List.mem_cons_self ..) I2 T.opq T.sup T.subV (by decide) (fun q3 h3 F3 N3 l3 => ?_)
  have ne1 : q3 ≠ e := fun z => by have := l3 (e, excObj C t0 none .none) (by simp); rw [z] at this; exact Nat.lt_irrefl _ this
  have ne2 : h₁.objs.size ≠ e := Nat.ne_of_gt (Heap.lt_size hx₁)
  refine kxs_callWith0 N3 (List.mem_cons_self ..) (kxs_call F3 X₀ N3 F.excBase_ValueError T.ini (List.mem_cons_self ..) (.tail ne1 (.tail ne2 (.head (fun p hp => by cases hp)))) (by decide) (fun t4 h4 F4 N4 l4 => ?_))
  have hx4 : h4.get? e = some (excO C t4) := (N4 (e, excObj C t4 none .none) (by simp)).1
  have X4 : K.In h4 := X₀.keeps F4.keep
  -- self.value = value
  show _root_.PySem.wpAt _ _ _ (execs _ _) _ _ _
  refine wpAt_of_wpAny (wpAny_execs_cons (plainObj_wpAny_Assign_Attribute ?_))
  refine ldC (v := v) F4.ns rfl (ldC (v := .ref e) F4.ns rfl ?_)
  refine set_plain X4 (ox := excO C t4) (od := none) ⟨hx4, rfl, rfl, trivial⟩ T.oex.sa ?_
  refine exc_osa X4 hx4 hcl (show refsVE (.ref C :: bm) = true from hbm) rfl T.noV (fun h5 tk5 dx k5 dn dne hx5 hn5 => ?_)
  show wpAny _ _ (execs _ _) _ _ _
  have z4 : s.heap.objs.size < h4.objs.size := F4.ns.lt
  refine wpAny_execs_nil (hq h5 tk5 dx t4 ⟨fun b o hb z => k5 b o hb (F4.keep b o (hideAll_get [e] z fun hm => hb (List.mem_singleton.mp hm))), hx5, Nat.le_of_lt (Nat.lt_of_lt_of_le z4 dn), dne, hn5⟩)
end
end DLX
end PySem
namespace DL
open PySem PySem.Spec PyProof.Rows L2
open PySem.DLX (ErrT)
/-- __init__'s promise -/
def spI (C : Addr) : Sp := fun vs H Q _ => ∃ (a : Addr) (v : V), vs = [.ref a, v] ∧ H a = some (exo a C none) ∧ ∀ dx, H dx = none → dx ≠ a → Q .non (upd (upd H dx (exd dx [("value", v)])) a (exo a C (some dx)))
theorem vinit_ok {P : Program} {w : World} {K : PySem.W.Frag} {mg : Str → Option Value} {base : Heap} {x : Str} {C fI : Addr} {CX : CXT} {fd : FuncData} (T : ErrT P K x C fI) (hfd : ∃ o, K.lookup fI = some o ∧ o.data = .func fd) (hsm : mg "super" = none) : FnOk P w K mg base CX 1 fI fd ["self", "value"] (spI C) := by
  refine ⟨fun vs H Q E h => by obtain ⟨a, v, rfl, _⟩ := h; rfl, fun A outer s H args us vs Q E hr e0 hb hv h => ?_⟩
  obtain ⟨a, v, rfl, ea, k⟩ := h
  cases hv with
  | cons ra rv =>
  rename_i u0 us
  cases rv with
  | cons rv rn =>
  rename_i u us
  cases rn
  cases ra
  have KX : K.In s.heap := e0.mod.kin.keeps fun b o e => (e0.bs b o e).1
  have kp : ∀ b o, base.get? b = some o → s.heap.get? b = some o := fun b o e => (e0.bs b o e).1
  obtain ⟨mb, hb1, hb2⟩ := e0.mod.blt
  obtain ⟨t0, ho⟩ := exo_at e0.hok ea
  have hnx : K.lookup a = none := by
    cases z : K.lookup a with
    | none => rfl
    | some o =>
      have := (e0.bs a o (e0.mod.kin _ _ z)).2
      rw [ea] at this
      cases this
  refine PySem.DLX.vinit T KX (e0.mod.glob.keeps kp) (hb1.keeps kp) hb2 hsm (e0.mod.nolimit.keeps kp) ho hnx hr.depth hfd hb (fun h' tk dx t1 I => ?_)
  have hnd : H dx = none := e0.hok.fresh I.dbig
  have nd : ∀ {b : Addr} {o : Obj}, s.heap.get? b = some o → b ≠ dx := fun {b o} q => Nat.ne_of_lt (Nat.lt_of_lt_of_le (Heap.lt_size q) I.dbig)
  have na : ∀ {b : Addr}, H b = none → b ≠ a := fun {b} n z => by
    rw [z, ea] at n
    cases n
  refine ⟨.non, upd (upd H dx (exd dx [("value", v)])) a (exo a C (some dx)), rfl, e0.bare, ?_, fun b o q => ?_, rfl, k dx hnd I.dne⟩
  · exact {
      keep := fun b o q n _ _ => I.keep b o (na n) q
      slot := fun b o q n _ _ => ⟨o.slots, I.keep b o (na n) q⟩
      free := fun b o q n _ => by rw [upd_ne (na n), upd_ne (nd q)]; exact n
      there := fun b o q _ => by
        by_cases hb : b = a
        · exact ⟨_, by rw [hb]; exact I.obj⟩
        · exact ⟨o, I.keep b o hb q⟩
      tups := fun b xs q => by rw [upd_ne (at_ne ea q exo_tup), upd_ne (ne_of_none q hnd)]; exact q
      frzs := fun b o v q => by rw [upd_ne (at_ne ea q exo_frz), upd_ne (ne_of_none q hnd)]; exact q
      tbls := fun b ps q => ⟨#[], by rw [upd_ne (at_ne ea q exo_tbl), upd_ne (ne_of_none q hnd), q]; simp⟩ }
  · by_cases hb : b = a
    · subst hb
      rw [upd_same] at q
      cases q
      exact exo_ok I.obj
    · rw [upd_ne hb] at q
      by_cases hd : b = dx
      · subst hd
        rw [upd_same] at q
        cases q
        exact exd_ok I.ns (relO_put (fs := []) rv fun g => True.intro)
      · rw [upd_ne hd] at q
        exact (e0.hok b o q).stay (fun c v hc z => I.keep c v (by
            rcases hc with hc | hc
            · rw [hc]
              exact hb
            · exact at_ne ea hc exo_own) z)
          (fun c hc => by rw [upd_ne (at_ne ea hc exo_own), upd_ne (ne_of_none hc hnd)]; exact hc) (fun c xs hc => by rw [upd_ne (at_ne ea hc exo_tup), upd_ne (ne_of_none hc hnd)]; exact hc)
variable [TL]
section
variable {X : Cx} {pn : List Nat} {δ δ1 δ2 : List DV} {a e : Expr} {x : Str} {C fI : Addr} {d : D} {p p1 p2 pos pos2 : Pos}
/-- an error of the text, as it is raised -/
structure Err (P : Program) (K : PySem.W.Frag) (mg : Str → Option Value) (x : Str) (C : Addr) : Prop where
  t : ∃ fI, ErrT P K x C fI
  gC : mg x = some (.ref C)
  sm : mg "super" = none
theorem Err.init {P : Program} {w : World} {K : PySem.W.Frag} {mg : Str → Option Value} {base : Heap} {CX : CXT} (E : Err P K mg x C) : ∃ fI fd, ErrT P K x C fI ∧ FnOk P w K mg base CX 1 fI fd ["self", "value"] (spI C) ∧ L2.Binds K fd ["self", "value"] [] := by
  obtain ⟨fI, T⟩ := E.t
  have T' := T
  obtain ⟨oc, od, Td, kV, doc, pm, an, cda, ct, cc, osl, a1, a2, a3, p0, p1, p2, p3, p4, q1, q2, q3, q4, ho, ⟨o, it, n, lT, oT⟩, _⟩ := T.fn
  exact ⟨fI, _, T', vinit_ok T' ⟨_, ho, rfl⟩ E.sm, fun s us X hl => BindsTo.of_looks fun M => by
    match us, hl with
    | [u1, u2], _ => exact looks_items (k := fun o => _) X lT oT (.of_pure rfl)⟩
theorem ds_raise (E : Err X.prog X.K X.mg x C) (hc : X.calm = true) (hr : Room 2 X.A) (hg : Gl X x) (he : DE X δ e (.d d) δ1) (hdb : (x == ("__debug__" : Str)) = false := by decide)
    (hs : starEach [e] X.env = (false, eval e X.env) :: starEach [] X.env := by rfl) (hpl : (backTo pos (starEach [] X.env)).any (·.1) = false := by rfl) :
    DS X pn δ (.Raise (some (.Call (.Name x p) [e] [] pos)) none pos2) (.ex C d) := by
  obtain ⟨fI, fd, T, F, hb⟩ := E.init (w := X.w) (base := X.base) (CX := CX0)
  refine (ps_raise (pos := pos2) hc (takes_wx X) (pmk_oex (p := p) T.oex T.iC T.tI F hr hb .nil (fun _ _ _ _ _ _ _ z => z.elim) hg E.gC (pa_cons he pa_nil hs) hdb hs hpl)).imp fun D σ H ⟨F0, R0, k⟩ => ?_
  refine ⟨F0, R0, fun v F1 H1 g1 R1 r1 => ⟨by show 1 ≤ 1000; decide, fun a ha => ⟨a, v, rfl, upd_same, fun dx h1 h2 => ⟨rfl, dx, [("value", v)], upd_same, ?_, ?_, ?_⟩⟩⟩⟩
  · rw [upd_ne h2, upd_same]
  · rw [upd_ne h2] at h1; exact h1
  · have hd1 : H1 dx = none := by rw [upd_ne h2] at h1; exact h1
    have eH : upd (del (upd (upd (upd H1 a (exo a C none)) dx (exd dx [("value", v)])) a (exo a C (some dx))) a) dx (.xd [("value", v)]) = upd H1 dx (.xd [("value", v)]) := by
      funext b
      by_cases hb : b = dx
      · rw [hb, upd_same, upd_same]
      · rw [upd_ne hb, upd_ne hb]
        by_cases hba : b = a
        · rw [hba, del_same, ha]
        · rw [del_ne hba, upd_ne hba, upd_ne hb, upd_ne hba]
    rw [eH]
    exact k dx v σ δ1 (upd F1 dx (.xd [("value", v)])) _ ((aft_of g1 R1).trans ⟨Go.new_ hd1 (R1.sub.none hd1), R1.new hd1, fun _ _ => rfl⟩) (.inl upd_same) (r1.ex (.new (R1.sub.none hd1)))
/-- a held error's field -/
theorem exV_at {P : Program} {w : World} {H : Hp} {h : Heap} {a C dx : Addr} (hok : HOk P w H h) (he : H a = some (exV a C dx)) : ∃ (ob : Obj) (vs : Array Value), h.get? a = some ob ∧ ob.cls = .ref C ∧ ob.dict = some dx ∧ ob.data = .fields vs := by
  have x : ObjOk P w H h a (.ext fun h => ∃ (ob : Obj) (vs : Array Value), h.get? a = some ob ∧ ob.cls = .ref C ∧ ob.dict = some dx ∧ ob.data = .fields vs) := hok a _ he
  exact x.1
theorem xdAt_at {P : Program} {w : World} {F H : Hp} {h : Heap} {dx : Addr} {fs : List (Str × V)} (hok : HOk P w H h) (e : Ex F H) (he : XdAt F dx fs) : ∃ mA, h.Ns1 dx mA ∧ ∀ f, RelO (fs.lookup f) (mA f) := by
  rcases he with he | he
  · exact hok dx _ (e _ _ he)
  · exact exd_at hok (e _ _ he)
theorem inst_at {P : Program} {w : World} {F H : Hp} {h : Heap} {a C dx : Addr} {fs : List (Str × V)} (hok : HOk P w H h) (e : Ex F H) (h1 : F a = some (exV a C dx)) (h2 : XdAt F dx fs) :
    ∃ (ob : Obj) (od : Obj), PySem.W.InstAt h a ob C (some od) ∧ ∀ f v, fs.lookup f = some v → ∃ u, RelV v u ∧ PySem.W.lookIn f od = some (some u) := by
  obtain ⟨ob, vs, ho, hc, hd, hdat⟩ := exV_at hok (e _ _ h1)
  obtain ⟨mA, hns, hr⟩ := xdAt_at hok e h2
  obtain ⟨od, ho2, hl⟩ := lookIn_ns hns
  refine ⟨ob, od, ⟨ho, hc, by unfold PySem.W.notCls; rw [hdat] <;> rfl, by rw [hd]; exact ho2⟩, fun f v l => ?_⟩
  obtain ⟨u, hu, ru⟩ := RelO.some_of (v := v) (o := mA f) (by rw [← l]; exact hr f)
  exact ⟨u, ru, by rw [hl, hu]⟩
theorem de_fld (T : Err X.prog X.K X.mg x C) (he : DE X δ e (.d (.exc C d)) δ1) (hnf : d ≠ .exc C .non) (hb : attributeBase e "value" X.env (eval e X.env) = eval e X.env := by rfl) : DE X δ (.Attribute e "value" pos) (.d d) δ1 := by
  obtain ⟨fI, T⟩ := T.t
  refine ⟨fun pins s σ H Q I ⟨F, R, k⟩ => ?_⟩
  refine attr_of hb (thn (he.run pins s σ H (fun v H1 => ∃ F1, Go (Own σ δ) (Own σ δ1) F H F1 H1 ∧ Rs F1 H1 σ δ1 ∧ Rp F1 v (.exc C d)) I ⟨F, R, fun v F1 H1 g R1 r => ⟨F1, g, R1, r⟩⟩) fun u s1 ⟨v, H1, I1, rv, F1, g, R1, r⟩ => ?_)
  cases r with
  | @exc a dx _ v d h1 h2 h3 =>
    obtain rfl : u = Value.ref a := rv
    obtain ⟨ob, od, J, hl⟩ := inst_at I1.hok R1.sub h1 h2
    obtain ⟨u, ru, l⟩ := hl "value" v (by simp [List.lookup])
    exact HandSPX.exc_get I1.kIn J T.xf.ga T.xf.gg T.xf.exC (PySem.W.findObj_own T.xf.hdC T.noV rfl l) (handed_of ru) ⟨v, H1, I1.tok _, ru, k v F1 H1 g R1 h3⟩
  | exn _ => exact absurd rfl hnf
theorem _root_.DL.Rp.exc_ref {F : Hp} {v : V} {C : Addr} {d : D} (r : Rp F v (.exc C d)) : ∃ a, v = .ref a := by
  generalize h : D.exc C d = z at r
  cases r <;> first | exact ⟨_, rfl⟩ | cases h
/-- what an error's class says, so that isinstance asks its objects rightly -/
structure IsT (K : PySem.W.Frag) (C : Addr) : Prop where
  hdC : PySem.W.hasDictIn K C = true
  cls : (PySem.W.clsIn K C).isSome = true
  ga : PySem.W.findIn K (.ref C) "__getattribute__" = some (some (.builtin "BaseException.__getattribute__"))
  gg : PySem.W.findIn K (.ref C) "__getattr__" = some none
  exC : PySem.W.subIn K (.ref C) (.type "BaseException") = some true
  clC : PySem.W.findIn K (.ref C) "__class__" = some (some (.builtin "object.__class__"))
  spC : PySem.W.specialIn K (.builtin "object.__class__") "__get__" = some (some (.builtin "getset_descriptor.__get__"))
  tkC : PySem.W.takesIn K (.builtin "object.__class__") = some true
  moC : PySem.W.mroIn K C (.type "object") = some true
theorem ErrT.isT {P : Program} {K : PySem.W.Frag} {x : Str} {C fI : Addr} (T : ErrT P K x C fI) : IsT K C := ⟨T.xf.hdC, by obtain ⟨cd, hcd, _⟩ := PySem.W.any_some T.xf.hdC; rw [hcd]; rfl, T.xf.ga, T.xf.gg, T.xf.exC, T.clC, T.spC, T.tkC, T.moC⟩
/-- isinstance of an error -/
def rIsX (X : Cx) (C2 : Value) : List V → Hp → VK → Prop := fun xs H Q => ∃ (a C : Addr) (y : V) (b : Bool) (F : Hp) (d : D), xs = [.ref a, y] ∧ (∀ u, RelV y u → u = C2) ∧ IsT X.K C ∧ Ex F H ∧ Rp F (.ref a) (.exc C d) ∧ PySem.W.kitOne X.K (.ref C) C2 = some b ∧ Q (.bl b) H
theorem call_isX {C2 : Value} : CallR X (.builtin "isinstance") (rIsX X C2) := by
  intro pins s σ H xs us Q I r h
  obtain ⟨a, C, y, b, F, d, rfl, hy, T, ex, rp, hk, q⟩ := h
  cases r with
  | cons rx rr =>
    cases rr with
    | cons rt rr =>
      cases rr
      cases rx
      have e2 := hy _ rt
      rw [e2]
      have fin : ∀ {ob : Obj} {od : Option Obj}, PySem.W.InstAt s.heap a ob C od → wpAny (model X.prog X.w) X.A (call (.builtin "isinstance") [.ref a, C2]) (EP X pins σ Q) X.xe s := fun {ob od} J =>
        PySem.W.kia_one (PySem.W.kitx_exc T.cls T.ga T.gg T.exC T.clC T.spC T.tkC T.moC) I.kIn J hk (fun z => nomatch z) fun tk => ⟨.bl b, H, I.kept (t' := tk) fun _ _ z => z, rfl, q⟩
      cases rp with
      | exc h1 h2 h3 =>
        obtain ⟨ob, od, J, _⟩ := inst_at I.hok ex h1 h2
        exact fin J
      | exn h1 =>
        have hx : ObjOk X.prog X.w H s.heap a (ExO (.ref C) a) := I.hok a _ (ex _ _ h1)
        obtain ⟨⟨oe, vs, ho, hz, hd, _⟩, _⟩ := hx
        exact fin (od := none) ⟨ho, hz.1, by unfold PySem.W.notCls; rw [hd] <;> rfl, by rw [hz.2]; trivial⟩
theorem de_isX {C C2 : Addr} {y : Str} {b : Bool} (T : IsT X.K C) (hg : Gl X "isinstance") (hm : X.mg "isinstance" = none) (ha : DE X δ a (.d (.exc C d)) δ1) (hg2 : Gl X y) (hm2 : X.mg y = some (.ref C2)) (hk : PySem.W.kitOne X.K (.ref C) (.ref C2) = some b)
    (hdb : (y == ("__debug__" : Str)) = false := by decide)
    (he : starEach [a, .Name y p2] X.env = (false, eval a X.env) :: starEach [.Name y p2] X.env := by rfl) (he2 : starEach [Expr.Name y p2] X.env = (false, eval (.Name y p2) X.env) :: starEach [] X.env := by rfl) (hpl : (backTo pos (starEach [Expr.Name y p2] X.env)).any (·.1) = false := by rfl) :
    DE X δ (.Call (.Name "isinstance" p1) [a, .Name y p2] [] pos) (.d (.bl b)) δ1 :=
  de_bi (call_isX (C2 := .ref C2)) hg hm (by decide +kernel) (da_cons ha (da_c (pe_glob (v := .ref C2) hg2 hm2 rfl hdb) da_nil he2) he) (fun F H σ vs Q ex h k => by
    cases h with
    | cons r t =>
      cases t with
      | cons r2 t =>
        cases t
        cases (show _ = V.ref C2 from r2)
        have r : Rp F _ (.exc C d) := r
        obtain ⟨a0, rfl⟩ := r.exc_ref
        exact ⟨a0, C, .ref C2, b, F, d, rfl, fun u h => h, T, ex, r, hk, k _ (.bl _)⟩) (he := he) (hpl := hpl)
/-- isinstance of an error, of a built-in class -/
theorem de_isXB {C : Addr} {y : Str} {n : String} {b : Bool} (T : IsT X.K C) (hg : Gl X "isinstance") (hm : X.mg "isinstance" = none) (ha : DE X δ a (.d (.exc C d)) δ1) (hg2 : Gl X y) (hm2 : X.mg y = none) (hv : bootBuiltins y = some (.type n)) (hk : PySem.W.kitOne X.K (.ref C) (.type n) = some b)
    (hn : y ≠ "__name__" := by decide) (hdb : (y == ("__debug__" : Str)) = false := by decide)
    (he : starEach [a, .Name y p2] X.env = (false, eval a X.env) :: starEach [.Name y p2] X.env := by rfl) (he2 : starEach [Expr.Name y p2] X.env = (false, eval (.Name y p2) X.env) :: starEach [] X.env := by rfl) (hpl : (backTo pos (starEach [Expr.Name y p2] X.env)).any (·.1) = false := by rfl) :
    DE X δ (.Call (.Name "isinstance" p1) [a, .Name y p2] [] pos) (.d (.bl b)) δ1 :=
  de_bi (call_isX (C2 := .type n)) hg hm (by decide +kernel) (da_cons ha (da_c (pe_bltn (v := .ty n) hg2 hm2 hv rfl hn hdb) da_nil he2) he) (fun F H σ vs Q ex h k => by
    cases h with
    | cons r t =>
      cases t with
      | cons r2 t =>
        cases t
        cases (show _ = V.ty n from r2)
        have r : Rp F _ (.exc C d) := r
        obtain ⟨a0, rfl⟩ := r.exc_ref
        exact ⟨a0, C, .ty n, b, F, d, rfl, fun u h => h, T, ex, r, hk, k _ (.bl _)⟩) (he := he) (hpl := hpl)
end
end DL
end
section
set_option Elab.async false
set_option linter.all false
set_option maxRecDepth 100000
set_option maxHeartbeats 2000000
/-! DLy: a caught error held; lambdas handed to the def that hears. -/
namespace DL
open PySem PySem.Spec PyProof.Rows L2
/-! ### try: body / except x as n: m = n -/
section
variable {X : Cx} {pins : List (Addr × Obj)} {σ : L2.St} {H : Hp} {s : Shared}
/-- the pinned exception is tracked from now on -/
theorem inv_hold {a C dx : Addr} {oe : Obj} {vs : Array Value} (I : Inv X ((a, oe) :: pins) σ H s) (hc : oe.cls = .ref C) (hd : oe.dict = some dx) (hv : oe.data = .fields vs) (h0 : ∀ o, X.s_0.heap.get? a ≠ some o) (hp : ∀ p ∈ X.pn ++ pins, p.1 ≠ a) :
    Inv X pins σ (upd H a (exV a C dx)) s := by
  have hm : (a, oe) ∈ X.pn ++ (a, oe) :: pins := List.mem_append_right _ (List.mem_cons_self ..)
  obtain ⟨ha, na, nL, nF, nc⟩ := I.pin (a, oe) hm
  have ha : s.heap.get? a = some oe := ha
  have na : H a = none := na
  have ne0 : ∀ {b : Addr} {o : Obj}, X.s_0.heap.get? b = some o → b ≠ a := fun {b o} e z => h0 o (z ▸ e)
  refine ⟨I.ok, I.os, I.bare, ⟨I.base.keep, I.base.slot, fun b o e n hx => ?_, I.base.there, fun b xs e => ?_, fun b o u e => ?_, fun b ps e => ?_⟩, I.loc, I.cell, ?_, fun y c e => ?_, fun p hp' => ?_, fun b u e => ?_, I.len⟩
  · rw [upd_ne (ne0 e)]; exact I.base.free b o e n hx
  · have q := I.base.tups b xs e
    rw [upd_ne (ne_of_none q na)]; exact q
  · have q := I.base.frzs b o u e
    rw [upd_ne (ne_of_none q na)]; exact q
  · obtain ⟨m, q⟩ := I.base.tbls b ps e
    exact ⟨m, by rw [upd_ne (ne_of_none q na)]; exact q⟩
  · rw [upd_ne (Ne.symm nL)]; exact I.free
  · have ne : c ≠ a := fun z => by
      obtain ⟨w', o, e1, e2⟩ := I.cell y c e
      rw [z, ha] at e1; cases e1
      rw [hv] at e2; cases e2
    rw [upd_ne ne]; exact I.freeC y c e
  · have hm' : p ∈ X.pn ++ (a, oe) :: pins := by
      rcases List.mem_append.mp hp' with q | q
      · exact List.mem_append_left _ q
      · exact List.mem_append_right _ (List.mem_cons_of_mem _ q)
    obtain ⟨e, n, r⟩ := I.pin p hm'
    exact ⟨e, by rw [upd_ne (hp p hp')]; exact n, r⟩
  · by_cases hb : b = a
    · subst hb
      rw [upd_same] at e
      cases e
      exact ⟨⟨oe, vs, ha, hc, hd, hv⟩, ⟨oe, ha⟩, fun h1 h2 ⟨ob, ws, a1, a2, a3, a4⟩ st => ⟨ob, ws, st _ a1, a2, a3, a4⟩⟩
    · rw [upd_ne hb] at e
      exact (I.hok b u e).stay (fun c v _ q => q) (fun c q => by rw [upd_ne (ne_of_none q na)]; exact q) fun c xs q => by rw [upd_ne (ne_of_none q na)]; exact q
end
/-- what the clause 'except x as n: m = n' wishes: slot i is n's, j is m's -/
def wHeld (K : PySem.W.Frag) (c : Value) (n i j : Nat) (Wout : WX) (D : Ends) : WX := fun cls d σ H =>
  ∃ b, PySem.W.exmOne K cls c = some b ∧ (b = true → ∃ C dx, cls = .ref C ∧ d = some dx ∧ ∀ a, H a = none → σ.length = n → D.nx (((σ.set i (some (.ref a))).set j (some (.ref a))).set i none) (upd H a (exV a C dx))) ∧ (b = false → Wout cls d σ H)
section
variable {X : Cx} {x n m : Str} {c : Value} {i j : Nat} {body : List Stmt} {np pos pos' p1 p2 p3 : Pos} {tb : WX → TS} {Wout : WX}
theorem ps_try_held (hs : X.stack = X.env :: X.outer) (hex : X.ex = []) (hf : X.env.frame = some X.env.locals) (hN : X.N.Nodup) (hi : X.N[i]? = some n) (hln : X.env.kindOf n = some .local) (hj : X.N[j]? = some m) (hlm : X.env.kindOf m = some .local) (hc : Names X x c) (tk : Takes X Wout)
    (hb : ∀ (W : WX) (pn : List (Addr × Obj)) (xe : Value → Shared → Prop), Takes (X.tr pn xe) W → PassesOwn (model X.prog X.w) X.A X.env xe → PSs (X.tr pn xe) body (tb W))
    (hd : (n == ("__debug__" : Str)) = false := by decide) (hcd : (n == ("__classdict__" : Str)) = false := by decide) (hsw : swapsWith (.Name n p2) (some (.Name m p1)) p3.line X.env = pure false := by rfl) (hil : ∀ σ : L2.St, σ.length = X.N.length → i < σ.length := by intro σ h; rw [h]; decide) :
    PS X (.Try body [.ExceptHandler (some (.Name x np)) (some n) [.Assign [.Name m p1] (.Name n p2) p3] pos'] [] [] pos) (fun D σ H => tb (wHeld X.K c X.N.length i j Wout D) D σ H) := by
  refine ⟨fun pins s σ H D I h => ?_⟩
  have ok := I.ok
  have hfr : X.A.frames = some (X.env :: X.outer) := by rw [ok.frames, hs]
  have hloc : Loc X.env.scope n := .inl hln
  refine wpAny_Try_except ?_
  refine wpAny_mono ((hb (wHeld X.K c X.N.length i j Wout D) (X.pn ++ pins) (fun e s₁ => wpAny (model X.prog X.w) X.A (noteFrame e X.env) (fun _ s₂ => wpAny (model X.prog X.w) X.A (setFlight e none) (fun _ s₃ =>
    wpAny (model X.prog X.w) X.A (handleBy e X.env [.ExceptHandler (some (.Name x np)) (some n) [.Assign [.Name m p1] (.Name n p2) p3] pos']) (SP X pins D) X.xe s₃) X.xe s₂) X.xe s₁) (fun u s' xx => ?_) PassesOwn.looking).run [] s σ H D (I.toTry _) h) (fun f s1 hsp => ?_) (fun e s1 he => he)
  · -- the catch
    obtain ⟨a, B, sI, pins', σ', H', cls, d, rfl, J', nb, up, sky, na, os, ag, b, hb1, hyes, hno⟩ := xx
    have J : Inv X pins σ' H' sI := J'.ofTry ok
    have nB : B.get? a = none := by
      rcases sky with ⟨_, q, _⟩ | q | q
      · exact q
      · exact q.2.1
      · exact q.2.1
    have sky' : Sky B (X.env :: X.outer) a (Zc cls d) X.env.locals s'.heap := by rw [← hs]; exact sky
    show wpAny (model X.prog X.w) X.A (noteFrame (.ref a) X.env) _ _ _
    refine Sky.land Zc.steady hfr hf sky' fun h3 fl3 up3 => ?_
    have J3 : Inv X pins σ' H' { s' with heap := h3 } := J.landed nb fl3.1 (up.trans up3) os ag
    obtain ⟨oe3, vs3, he3, hz3, hd3⟩ := fl3.there
    have notFr : ∀ {h : Heap} {o : Obj} {vs : Array Value}, h.FunFrames B (X.env :: X.outer) → h.get? a = some o → o.data = .fields vs → a ∉ frs (X.env :: X.outer) := fun {h o vs} ff e dd hm => by
      obtain ⟨_, o', e', hnf⟩ := ff.mem hm
      rw [e] at e'; cases e'
      exact hnf _ dd
    have nfr := notFr fl3.2.2.1 he3 hd3
    have nL : a ≠ X.env.locals := fun z => nfr (List.mem_filterMap.mpr ⟨X.env, List.mem_cons_self, by rw [hf, z]⟩)
    have nF : a ∉ X.fs := fun hm => by
      obtain ⟨e, he, q⟩ := List.mem_filterMap.mp hm
      exact nfr (List.mem_filterMap.mpr ⟨e, List.mem_cons_of_mem _ he, q⟩)
    have notI : ∀ o, sI.heap.get? a ≠ some o := fun o e => by
      have := nb a o e (by rw [hs]; exact nfr)
      rw [nB] at this; cases this
    have not0 : ∀ o, X.s_0.heap.get? a ≠ some o := fun o e => by
      obtain ⟨o', e'⟩ := J.base.there a o e (by rw [hex]; simp)
      exact notI o' e'
    have notP : ∀ p ∈ X.pn ++ pins, p.1 ≠ a := fun p hp z => by
      obtain ⟨e, _⟩ := J.pin p hp
      rw [z] at e
      exact notI _ e
    have S3 := J3.suite he3 hd3 na nL nF
    refine wpAny_handleBy_cons (codeAny_handlers_test ?_) (by intro q; cases q)
    have LT : PySem.W.Looks (model X.prog X.w) h3 (typeOf (.ref a)) cls := fun A Q E s k q => wpAny_typeOf_ref (k _ _ he3) (by rw [hz3.1]; exact q)
    have LM := PySem.W.exm_one (M := model X.prog X.w) (J3.kIn) LT hb1
    have test : ∀ {Q : Value → Shared → Prop} {E : Value → Shared → Prop}, Q c { s' with heap := h3 } → wpAny (model X.prog X.w) (X.A.mark (some (.ref a))) (eval (.Name x np) X.env) Q E { s' with heap := h3 } := fun {Q E} q => by
      obtain ⟨hg, hdbg, hm | ⟨hm, hv, hnn⟩⟩ := hc
      · exact ld_glob (X := X.suite a ((a, oe3) :: (X.pn ++ pins))) S3 hg hm q hdbg
      · exact ld_blt (X := X.suite a ((a, oe3) :: (X.pn ++ pins))) S3 hg hm hv q hnn hdbg
    refine test (LM.here ?_)
    cases b with
    | true =>
      obtain ⟨C, dx, ec, ed, hgo⟩ := hyes rfl
      subst ec
      subst ed
      refine codeAny_handlers_suite_as ?_
      refine HandSPX.lands_againZ fl3 fun h4 fl4 up4 => ?_
      have J4 : Inv X pins σ' H' { s' with heap := h4 } := J.landed nb fl4.1 ((up.trans up3).trans up4) os ag
      obtain ⟨oe4, vs4, he4, hz4, hd4⟩ := fl4.there
      have S4 := J4.suite he4 hd4 na nL nF
      refine store_ok (X := X.suite a ((a, oe4) :: (X.pn ++ pins))) (v := .ref a) S4 hN hi hloc rfl (fun s5 S5 => ?_) (.inr hln)
      have hsu : PSs (X.suite a ((a, oe4) :: (X.pn ++ pins))) [.Assign [.Name m p1] (.Name n p2) p3] _ := pss_one (ps_set (i := j) hN hj (.inl hlm) (pe_var (X := X.suite a ((a, oe4) :: (X.pn ++ pins))) (i := i) hi (.inl hln) hd hcd) hsw (.inr hlm))
      have len5 : (σ'.set i (some (.ref a))).length = X.N.length := S5.len
      refine wpAny_mono (hsu.run [] s5 _ H' { nx := fun σ6 H6 => σ6 = (σ'.set i (some (.ref a))).set j (some (.ref a)) ∧ H6 = H', rt := fun _ _ => False, bk := fun _ _ => False, ct := fun _ _ => False } S5 ⟨.ref a, by rw [List.getElem?_set_self (by have := hil _ len5; simpa using this)], rfl, rfl⟩) (fun f s6 hsp => ?_) (fun _ _ z => False.elim z)
      cases f with
      | next =>
        obtain ⟨σ6, H6, S6, rfl, rfl⟩ := hsp
        have S7 : Inv X ((a, oe4) :: pins) _ H6 s6 := ⟨ok, S6.os, S6.bare, S6.base, S6.loc, S6.cell, S6.free, S6.freeC, fun p hp => S6.pin p (by
          rcases List.mem_append.mp hp with q | q
          · exact List.mem_append_left _ (List.mem_cons_of_mem _ (List.mem_append_left _ q))
          · rcases List.mem_cons.mp q with q | q
            · rw [q]; exact List.mem_append_left _ (List.mem_cons_self ..)
            · exact List.mem_append_left _ (List.mem_cons_of_mem _ (List.mem_append_right _ q))), S6.hok, S6.len⟩
        exact gone_ok S7 hN hi hln fun s7 J7 => ⟨_, _, inv_hold J7 hz4.1 hz4.2 hd4 not0 notP, hgo a na J.len⟩
      | ret u =>
        obtain ⟨_, _, _, _, _, z⟩ := hsp
        exact z.elim
      | brk =>
        obtain ⟨_, _, _, z⟩ := hsp
        exact z.elim
      | cont =>
        obtain ⟨_, _, _, z⟩ := hsp
        exact z.elim
    | false =>
      show wpAny _ X.A (handleBy (.ref a) X.env []) _ _ _
      refine wpAny_handleBy_nil ?_
      obtain ⟨k1, k2, k3, oe, vs, T, oT, ts', he, hz, hd, h1, hr⟩ := id fl3
      unfold PySem.passOn
      refine wpAny_bind (wpAny_field he hd h1 ?_)
      rw [if_neg (show ¬ ((Value.ref T == Value.none) = true) from by simp)]
      have fin : wpAny (model X.prog X.w) X.A (setFlight (.ref a) X.env.frame) (fun _ s4 => wpAny (model X.prog X.w) X.A (throw (.ref a) : Sem Flow) (SP X pins D) X.xe s4) X.xe { s' with heap := h3 } := by
        rw [hf]
        refine HandSPX.setFlight_upZ fl3 fun h4 hh4 up4 => wpAny_throw (tk _ _ ?_)
        exact ⟨a, B, sI, pins, σ', H', cls, d, rfl, J, nb, (up.trans up3).trans up4, .inr (.inr (by rw [hs]; exact hh4)), na, os, ag, hno rfl⟩
      first
        | exact wpAny_bind (wpAny_pure (wpAny_bind fin))
        | exact wpAny_bind fin
  · cases f with
    | next =>
      obtain ⟨σ', H', J', q⟩ := hsp
      exact wpAny_execs_nil ⟨σ', H', J'.ofTry ok, q⟩
    | brk =>
      obtain ⟨σ', H', J', q⟩ := hsp
      exact ⟨σ', H', J'.ofTry ok, q⟩
    | cont =>
      obtain ⟨σ', H', J', q⟩ := hsp
      exact ⟨σ', H', J'.ofTry ok, q⟩
    | ret u =>
      obtain ⟨v, σ', H', J', r, q⟩ := hsp
      exact ⟨v, σ', H', J'.ofTry ok, r, q⟩
end

/-! ### what a lambda gives -/
/-- told: the def that hears: None, or the error -/
def TTheard (K : PySem.W.Frag) (CS : Addr) : (XK → Hp → VK → Prop) → Hp → VK → Prop := fun tl H Q =>
  tl (fun cls d H' => ∃ b, PySem.W.exmOne K cls (.ref CS) = some b ∧ (b = true → ∃ C dx, cls = .ref C ∧ d = some dx ∧ ∀ a, H' a = none → Q (.ref a) (upd H' a (exV a C dx))) ∧ (b = false → False)) H (fun _ H' => ∃ v, (some (some V.non) : Option (Option V)) = some (some v) ∧ Q v H')
abbrev heardB (e : Str) (j : Nat) (p1 p2 p3 p4 p5 p6 p7 p8 p9 p10 p11 p12 p13 p14 : Pos) : List Stmt := [.Assign [.Name "caught" p1] (.Constant .none j p2) p3, .Try [.Expr (.Call (.Name "call" p4) [] [] p5) p6] [.ExceptHandler (some (.Name e p7)) (some "error") [.Assign [.Name "caught" p8] (.Name "error" p9) p10] p11] [] [] p12, .Return (some (.Name "caught" p13)) p14]
theorem heard_gives {X : Cx} {x e q : Str} {sg : Scope} {g CS : Addr} {cdv : Value} {j : Nat} {p1 p2 p3 p4 p5 p6 p7 p8 p9 p10 p11 p12 p13 p14 : Pos} (hge : sg.names.lookup e = some .globalImplicit) (hme : X.mg e = some (.ref CS)) (hde : (e == ("__debug__" : Str)) = false)
    (h1 : sg.names.lookup ("caught" : Str) = some .local) (h2 : sg.names.lookup ("error" : Str) = some .local) :
    LamX.GivesTo X ["call", "caught", "error"] x sg g cdv (heardB e j p1 p2 p3 p4 p5 p6 p7 p8 p9 p10 p11 p12 p13 p14) "call" q (TTheard X.K CS) := by
  intro f c' s H Q tl act hc h
  have hgl : Gl (cxOf C8.CX0 X.prog X.w X.K X.mg X.base ["call", "caught", "error"] x sg g cdv X.A X.stack s H C8.E0).nox e := hge
  have nd : ((["call", "caught", "error"] : List Str)).Nodup := by decide +kernel
  refine ⟨_, pss_cons (ps_set (X := (cxOf C8.CX0 X.prog X.w X.K X.mg X.base ["call", "caught", "error"] x sg g cdv X.A X.stack s H C8.E0).nox) (i := 1) nd rfl (.inl h1) pe_non rfl (.inr h1)) (pss_cons (ps_try_held (X := (cxOf C8.CX0 X.prog X.w X.K X.mg X.base ["call", "caught", "error"] x sg g cdv X.A X.stack s H C8.E0).nox) (i := 2) (j := 1) (c := .ref CS) (Wout := fun _ _ _ _ => False)
      (tb := fun W D σ H => ∃ Ech : XK, (∀ cls d σ' H', Ech cls d H' → W cls d σ' H') ∧ σ[0]? = some (some (.ref f)) ∧ H c' = some (LamX.CodeO c' q) ∧ tl Ech H (fun _ H' => D.nx σ H'))
      rfl rfl rfl nd rfl h2 rfl h1 ⟨hgl, hde, .inl hme⟩ LamX.takes0 (fun W pn xe tk _ => ?_) (hil := fun σ h => by rw [h]; exact (by decide : 2 < 3))) (pss_one (ps_ret (pe_var (i := 1) rfl (.inl h1))))), ?_⟩
  · refine ⟨fun pins s' σ H' D I h' => ?_⟩
    obtain ⟨Ech, hW, h1', h2', h3⟩ := h'
    have hp := act W pn xe Ech p4 p5 tk hW
    have hq := pss_one (ps_expr (pos := p6) hp rfl)
    exact hq.run pins s' σ H' D I ⟨h1', h2', h3⟩
  · refine ⟨fun cls d H' => ∃ b, PySem.W.exmOne X.K cls (.ref CS) = some b ∧ (b = true → ∃ C dx, cls = .ref C ∧ d = some dx ∧ ∀ a, H' a = none → Q (.ref a) (upd H' a (exV a C dx))) ∧ (b = false → False), fun cls d σ' H' ⟨b, e1, e2, e3⟩ => ⟨b, e1, fun hb => ?_, fun hb => e3 hb⟩, rfl, hc, ?_⟩
    · obtain ⟨C, dx, a1, a2, a3⟩ := e2 hb
      refine ⟨C, dx, a1, a2, fun a ha hl => ⟨.ref a, ?_, a3 a ha⟩⟩
      match σ', hl with
      | [_, _, _], _ => rfl
    · exact h
variable [TL]
section
variable {X : Cx} {δ δ1 δ2 : List DV} {a e : Expr} {x : Str} {C CS : Addr} {d x0 : D} {p p1 p2 pos pos2 lpos : Pos} {F H H1 : Hp} {σ : L2.St}
theorem Rs.extN (R : Rs F H σ δ) (e : LamX.ExtN H H1) (T1 : LamX.Tabs TL.T H1) : Rs F H1 σ δ := by
  refine ⟨fun a o h => e a o (R.sub a o h) fun ps z => R.nt a ps (by rw [h, z]), R.len, fun i x h => ?_, R.ap, T1, R.nt⟩
  obtain ⟨o, q, k⟩ := R.at_ i x h
  refine ⟨o, q, ?_⟩
  cases x with
  | un => trivial
  | d x => exact k
  | raw v => exact k
  | pr P => exact k
  | ow xs =>
    obtain ⟨p, vs, k1, k2, k3, k4⟩ := k
    exact ⟨p, vs, k1, k2, e _ _ k3 (fun _ z => nomatch z), k4⟩
theorem Go.extN {O : Addr → Prop} (e : LamX.ExtN H H1) : Go O O F H F H1 :=
  ⟨.refl F, fun a o h _ nt => e a o h nt, fun _ _ h => .inl h, fun a h o q => Classical.byContradiction fun z => by
    have nt : ∀ ps, o ≠ .tbl ps := fun ps w => z ⟨ps, w⟩
    exact h.not (e a o q nt) nt, fun _ h => .inl h⟩
/-- an expression that lets an error out -/
def tDX (X : Cx) (δ : List DV) (C : Addr) (d : D) : TE := fun σ H _ => ∃ F, Rs F H σ δ ∧ ∀ dx v F' H', Go (Own σ δ) (Own σ δ) F H F' H' → Rs F' H' σ δ → XdAt F' dx [("value", v)] → Rp F' v d → Wx X (.ref C) (some dx) σ H'
abbrev DX (X : Cx) (δ : List DV) (e : Expr) (C : Addr) (d : D) : Prop := PE X e (tDX X δ C d)
theorem de_callX {k : Nat} {ps : List Str} {R : RelD} {RX : RelX} {es : List Expr} {as : List AV} (G : FD X.prog X.w X.K X.mg X.base k x ps R RX) (hr : Room k X.A) (hg : Gl X x) (ha : DA X δ (e :: es) as δ) (hn : AV.noSl as = true) (hR : RX (as.map (AV.dv δ)) C d)
    (hdb : (x == ("__debug__" : Str)) = false := by decide) (he : starEach (e :: es) X.env = (false, eval e X.env) :: starEach es X.env := by rfl) (hpl : (backTo pos (starEach es X.env)).any (·.1) = false := by rfl) : DX X δ (.Call (.Name x p1) (e :: es) [] pos) C d := by
  obtain ⟨f, fd, h1, h2, h3, h4⟩ := G.ex
  refine (pe_callS (E := WE (Wx X)) h1 hr hg h2 h3 h4 (fun σ => passAt (takes_wx X) σ) ha hdb he hpl).imp fun σ H Q ⟨F, Rf, k⟩ => ⟨F, Rf, fun vs F1 H1 g1 R1 ra => ?_⟩
  refine .inr ⟨_, C, d, hR, F1, ra.rs hn R1, fun dx v F2 H2 g2 R2 hxd hv => ?_⟩
  obtain ⟨g3, R3⟩ := Go.frame R1 g2 (fun a => ra.noOwn hn) R2.sub R2.tb R2.nt
  exact k dx v F2 H2 (g1.trans g3) R3 hxd hv
theorem ds_retX {pn : List Nat} (h : DX X δ e C d) : DS X pn δ (.Return (some e) pos) (.ex C d) := (ps_ret h).imp fun D σ H ⟨F, R, k⟩ => ⟨F, R, fun dx v F' H' g R' hxd hv => k dx v σ δ F' H' (aft_of g R') hxd hv⟩
theorem ds_exprX {pn : List Nat} (h : DX X δ e C d) (hs : swapsWith e none pos.line X.env = pure false := by rfl) : DS X pn δ (.Expr e pos) (.ex C d) := (ps_expr h hs).imp fun D σ H ⟨F, R, k⟩ => ⟨F, R, fun dx v F' H' g R' hxd hv => k dx v σ δ F' H' (aft_of g R') hxd hv⟩
theorem XdAt.ex {F F' : Hp} {dx : Addr} {fs : List (Str × V)} (e : Ex F F') (h : XdAt F dx fs) : XdAt F' dx fs := h.imp (e _ _) (e _ _)
/-- the def that hears, as it stands -/
structure HeardT (K : PySem.W.Frag) (mg : Str → Option Value) (x : Str) (CS : Addr) : Prop where
  ex : ∃ (g : Addr) (oc : Value) (od : Option Addr) (pg : Arguments) (sg : Scope) (dV kV doc pm cdv ct : Value) (an : Option Addr) (osl : Array (Option Value)) (e : Str) (j : Nat) (p1 p2 p3 p4 p5 p6 p7 p8 p9 p10 p11 p12 p13 p14 : Pos),
    mg x = some (.ref g) ∧ PySem.W.keepIn K (.ref g) = true ∧ K.lookup g = some ⟨oc, od, .func (PySem.W.fnOf x x pg (heardB e j p1 p2 p3 p4 p5 p6 p7 p8 p9 p10 p11 p12 p13 p14) sg dV kV doc pm an cdv ct), osl⟩ ∧ PySem.W.codeIn K cdv x = true ∧
    L2.Binds K (PySem.W.fnOf x x pg (heardB e j p1 p2 p3 p4 p5 p6 p7 p8 p9 p10 p11 p12 p13 p14) sg dV kV doc pm an cdv ct) ["call"] [] ∧ FnScope ["call", "caught", "error"] ["call"] sg ∧ Vis sg ("call" : Str) ∧
    sg.names.lookup e = some .globalImplicit ∧ mg e = some (.ref CS) ∧ (e == ("__debug__" : Str)) = false ∧ sg.names.lookup ("caught" : Str) = some .local ∧ sg.names.lookup ("error" : Str) = some .local
/-- the maker's table -/
structure LamT (X : Cx) : Prop where
  ex : ∃ c P, LamX.TabB X.base X.mg c P ∧ X.env.code = .ref c ∧ (P, X.env.qual ++ "<lambda>") ∈ TL.T ∧ ∀ p ∈ TL.T, p.1 = P → p.2 = X.env.qual ++ "<lambda>"
variable {params : Arguments} {body : Expr} {scope : Scope} {k : Nat}
/-- x(lambda: body), body lets an error out -/
theorem de_heardX (Hd : HeardT X.K X.mg x CS) (hg : Gl X x) (LT : LamT X) (hr : Room (k + 2) X.A) (L : LamX.LamS X.env.scope scope) (hk : PySem.W.exmOne X.K (.ref C) (.ref CS) = some true)
    (hbody : ∀ (A : Around) (outer : List Env) (s : Shared) (H : Hp) (E : XK) (f c' : Addr), Room k (A.deeper (LamX.lamEnv X scope s.heap.objs.size f c')) → DX (LamX.lamCx X A outer s H E scope f c') δ body C d)
    (hdef : defaultsOf params X.env = ([], []) := by rfl)
    (hbind : ∀ (q : Str) (cl : List (Str × Addr)) (pm cv ctv : Value), bindArgs (PySem.W.kla_fn "<lambda>" q params body scope cl pm cv ctv) ⟨[], []⟩ = pure [] := by intros; rfl)
    (hdb : (x == ("__debug__" : Str)) = false := by decide) :
    DE X δ (.Call (.Name x p) [.Lambda params body scope lpos] [] pos) (.d (.exc C d)) δ := by
  obtain ⟨g, oc, od, pg, sg, dV, kV, doc, pm, cdv, ct, an, osl, e, j, q1, q2, q3, q4, q5, q6, q7, q8, q9, q10, q11, q12, q13, q14, hm, hkp, lk, hcg, hb, Sg, hva, hge, hme, hde, h1, h2⟩ := Hd.ex
  obtain ⟨c, P, TB, hcode, hmT, hu⟩ := LT.ex
  refine (LamX.pe_lamcall (T := TL.T) (TT := TTheard X.K CS) (t := fun E => fun σ H _ => ∃ F, Rs F H σ δ ∧ ∀ dx v F' H', Go (Own σ δ) (Own σ δ) F H F' H' → Rs F' H' σ δ → XdAt F' dx [("value", v)] → Rp F' v d → E (.ref C) (some dx) H') hg hm hkp lk hcg hb Sg rfl hva (heard_gives hge hme hde h1 h2) TB hcode hmT hu hr L hdef hbind (fun A outer s H E f c' hr' => (hbody A outer s H E f c' hr').imp fun σ H Q ⟨F, R, k⟩ => ⟨F, R, fun dx v F' H' g R' hxd hv => Wx.of (takes_of rfl rfl rfl rfl) (k dx v F' H' g R' hxd hv)⟩) hdb).imp fun σ H Q ⟨F, R, k⟩ => ?_
  refine ⟨R.tb, fun H1 eN T1 => ⟨F, R.extN eN T1, fun dx v F' H' g' R' hxd hv => ⟨true, hk, fun _ => ⟨C, dx, rfl, rfl, fun a ha => ?_⟩, fun z => nomatch z⟩⟩⟩
  have hF : F' a = none := R'.sub.none ha
  exact k (.ref a) _ _ ((Go.extN eN).trans (g'.trans (Go.new_ ha hF))) (R'.new ha (fun _ z => by unfold exV at z; cases z)) (.exc upd_same (hxd.ex (.new hF)) (hv.ex (.new hF)))
/-- x(lambda: body), body comes back -/
theorem de_heardN (Hd : HeardT X.K X.mg x CS) (hg : Gl X x) (LT : LamT X) (hr : Room (k + 2) X.A) (L : LamX.LamS X.env.scope scope)
    (hbody : ∀ (A : Around) (outer : List Env) (s : Shared) (H : Hp) (E : XK) (f c' : Addr), Room k (A.deeper (LamX.lamEnv X scope s.heap.objs.size f c')) → DE (LamX.lamCx X A outer s H E scope f c') δ body (.d d) δ)
    (hdef : defaultsOf params X.env = ([], []) := by rfl)
    (hbind : ∀ (q : Str) (cl : List (Str × Addr)) (pm cv ctv : Value), bindArgs (PySem.W.kla_fn "<lambda>" q params body scope cl pm cv ctv) ⟨[], []⟩ = pure [] := by intros; rfl)
    (hdb : (x == ("__debug__" : Str)) = false := by decide) :
    DE X δ (.Call (.Name x p) [.Lambda params body scope lpos] [] pos) (.d .non) δ := by
  obtain ⟨g, oc, od, pg, sg, dV, kV, doc, pm, cdv, ct, an, osl, e, j, q1, q2, q3, q4, q5, q6, q7, q8, q9, q10, q11, q12, q13, q14, hm, hkp, lk, hcg, hb, Sg, hva, hge, hme, hde, h1, h2⟩ := Hd.ex
  obtain ⟨c, P, TB, hcode, hmT, hu⟩ := LT.ex
  refine (LamX.pe_lamcall (T := TL.T) (TT := TTheard X.K CS) (t := fun _ => tD δ (.d d) δ) hg hm hkp lk hcg hb Sg rfl hva (heard_gives hge hme hde h1 h2) TB hcode hmT hu hr L hdef hbind (fun A outer s H E f c' hr' => hbody A outer s H E f c' hr') hdb).imp fun σ H Q ⟨F, R, k⟩ => ?_
  refine ⟨R.tb, fun H1 eN T1 => ⟨F, R.extN eN T1, fun v F' H' g' R' _ => ?_⟩⟩
  exact ⟨.non, rfl, k .non F' H' ((Go.extN eN).trans g') R' .non⟩
end
end DL
end
section
set_option Elab.async false
set_option linter.all false
set_option maxRecDepth 100000
set_option maxHeartbeats 2000000
/-! DLz: repr of data (no guard stands around). -/
namespace DL
open PySem PySem.Spec PyProof.Rows L2
section
variable {P : Program} {w : World} {F H : Hp} {h : Heap}
mutual
theorem Rp.reads (hok : HOk P w H h) (e : Ex F H) : ∀ {d : D} {v : V} {u : Value}, d.ok = true → Rp F v d → RelV v u → ∃ as, Reads h u d.py as
  | .non, _, u, _, .non, r => by cases (show u = Value.none from r); exact ⟨_, .none⟩
  | .bl b, _, u, _, .bl _, r => by cases (show u = Value.bool b from r); exact ⟨_, .bool b⟩
  | .int i, _, u, _, .int _, r => by obtain ⟨t, rfl⟩ := (show ∃ t, u = Value.int i t from r); exact ⟨_, .int i t⟩
  | .str s, _, u, _, .str _, r => by obtain ⟨t, rfl⟩ := (show ∃ t, u = Value.str s t from r); exact ⟨_, .str s t⟩
  | .lst xs, _, u, k, @Rp.lst _ a vs _ h1 h2, r => by
    cases (show u = Value.ref a from r)
    obtain ⟨_, its, n, rv, ho⟩ := hok _ _ (e _ _ h1)
    obtain ⟨as, ra⟩ := RpA.reads hok e (by simpa [D.ok] using k) h2 rv
    exact ⟨_, .list ho rfl rfl ra⟩
  | .tup xs, _, u, k, @Rp.tup _ a vs _ h1 h2, r => by
    cases (show u = Value.ref a from r)
    obtain ⟨_, its, rv, o, ho, hc, n, hd⟩ := hok _ _ (e _ _ h1)
    obtain ⟨as, ra⟩ := RpA.reads hok e (by simpa [D.ok] using k) h2 rv
    exact ⟨_, .tuple ho hc hd ra⟩
  | .dct _ _, _, _, k, _, _ => by simp [D.ok] at k
  | .exc _ _, _, _, k, _, _ => by simp [D.ok] at k
  | .fn _, _, _, k, _, _ => by simp [D.ok] at k
theorem RpA.reads (hok : HOk P w H h) (e : Ex F H) : ∀ {ds : List D} {vs : List V} {us : List Value}, D.okA ds = true → RpA F vs ds → Vals vs us → ∃ as, ReadsAll h us (D.pyA ds) as
  | [], _, us, _, .nil, r => by cases r; exact ⟨_, .nil⟩
  | d :: ds, _, us, k, .cons q t, r => by
    cases r with
    | cons r1 r2 =>
    have k' := k
    simp only [D.okA, Bool.and_eq_true] at k'
    obtain ⟨as, a⟩ := Rp.reads hok e k'.1 q r1
    obtain ⟨bs, b⟩ := RpA.reads hok e k'.2 t r2
    exact ⟨_, .cons a b⟩
end
end
/-- data that is shown whole -/
structure D.Shows (d : D) : Prop where
  ok : d.ok = true
  dep : d.dep ≤ 64
  sh : d.py.showable = true
  len : d.py.shown.length ≤ sizeLine
def D.rep (d : D) : Str := d.py.shown
section
variable {X : Cx}
/-- repr's reading -/
def rRepr : List V → Hp → VK → Prop := fun xs H Q => ∃ (F : Hp) (v : V) (d : D), xs = [v] ∧ Ex F H ∧ Rp F v d ∧ (d.Shows ∨ d = .dct [] []) ∧ Q (.str d.rep) H
theorem call_reprD {k : Nat} (hg : X.A.guards = some []) (hr : Room k X.A) : CallR X (.builtin "repr") rRepr := by
  intro pins s σ H xs us Q I r h
  obtain ⟨F, v, d, rfl, ex, rp, hs, q⟩ := h
  have un := hr.un
  cases r with
  | cons r0 rn =>
  rename_i u us'
  cases rn
  have fin : ∀ (h' : Heap) (tk u : Nat), (∀ b o, s.heap.get? b = some o → h'.get? b = some o) → EP X pins σ Q (.str d.rep u) { s with heap := h', toks := tk } := fun h' tk u kk => ⟨.str d.rep, H, I.kept (t' := tk) kk, ⟨u, rfl⟩, q⟩
  rcases hs with hs | rfl
  · obtain ⟨as, rd⟩ := rp.reads I.hok ex hs.ok r0
    have hd : d.py.hasDict = false := PyData.hasDict_of_canLay _ (D.py_can _ hs.ok)
    cases rp with
    | non =>
      cases (show u = Value.none from r0)
      exact PySem.P.repr_of_none (fin _ _ _ fun _ _ z => z)
    | bl b =>
      cases (show u = Value.bool b from r0)
      exact PySem.P.repr_of_bool (fin _ _ _ fun _ _ z => z)
    | int i =>
      obtain ⟨t, rfl⟩ := (show ∃ t, u = Value.int i t from r0)
      have z := hs.sh
      exact PySem.P.repr_of_int (by simpa [D.py, PyData.showable] using z) (fin _ _ _ fun _ _ z => z)
    | str x =>
      obtain ⟨t, rfl⟩ := (show ∃ t, u = Value.str x t from r0)
      exact PySem.P.repr_of_str (fin _ _ _ fun _ _ z => z) (by have z := hs.len; simpa [D.py, PyData.shown] using z)
    | @lst a vs ds h1 h2 =>
      cases (show u = Value.ref a from r0)
      exact repr_of_reads' rd hs.sh (PyData.noDict_hsm hd) hg (by rw [D.py_dep _ hs.ok]; have := hs.dep; omega) (fun _ _ z => z) (fun h' u tk kk => fin h' tk u kk) hs.len
    | @tup a vs ds h1 h2 =>
      cases (show u = Value.ref a from r0)
      exact repr_of_reads' rd hs.sh (PyData.noDict_hsm hd) hg (by rw [D.py_dep _ hs.ok]; have := hs.dep; omega) (fun _ _ z => z) (fun h' u tk kk => fin h' tk u kk) hs.len
    | dct _ _ _ => have z := hs.ok; simp [D.ok] at z
    | exc _ _ _ => have z := hs.ok; simp [D.ok] at z
    | exn _ => have z := hs.ok; simp [D.ok] at z
    | fn _ => have z := hs.ok; simp [D.ok] at z
  · cases rp with
    | @dct a kvs ds ks h1 h2 h3 =>
      cases (show u = Value.ref a from r0)
      have e0 : kvs = [] := by
        cases kvs with
        | nil => rfl
        | cons _ _ => cases h2
      subst e0
      obtain ⟨_, nsm, vs, rv, hdo⟩ := I.hok _ _ (ex _ _ h1)
      cases rv
      obtain ⟨o, es, ep, ho, he, hd, _, hes, _⟩ := hdo
      have e1 : es = #[] := by
        apply Array.toList_inj.mp
        generalize es.toList = l at hes
        cases hes
        rfl
      subst e1
      refine repr_of_reads' (d := .dict []) (as := _) (.dict ho (by exact he.1) hd .nil .nil) rfl (fun _ z => ?_) hg (by simp [PyData.depth, PyData.depthKv]; omega) (fun _ _ z => z) (fun h' u tk kk => fin h' tk u kk) (by decide +kernel)
      simp at z
      rw [← z] at nsm
      simp at nsm
end
variable [TL]
section
variable {X : Cx} {δ δ1 : List DV} {a : Expr} {x : D} {p1 pos : Pos} {k : Nat}
theorem de_repr (hG : X.A.guards = some []) (hr : Room k X.A) (hg : Gl X "repr") (hm : X.mg "repr" = none) (ha : DE X δ a (.d x) δ1) (hs : x.Shows ∨ x = .dct [] []) (he : starEach [a] X.env = (false, eval a X.env) :: starEach [] X.env := by rfl) : DE X δ (.Call (.Name "repr" p1) [a] [] pos) (.d (.str x.rep)) δ1 :=
  de_bi (call_reprD hG hr) hg hm (by decide +kernel) (da_cons ha da_nil he) (fun F H σ vs Q ex h k => by
    obtain ⟨v, rfl, rv⟩ := AVs.one h
    exact ⟨F, v, x, rfl, ex, rv, hs, k _ (.str _)⟩) (he := he)
end
end DL
end
section
set_option Elab.async false
set_option linter.all false
set_option maxRecDepth 100000
/-! DLv: the rules by the syntax alone; what they ask of the values stands behind. -/
namespace DL
open PySem PySem.Spec PyProof.Rows L2
variable [TL]

/-- as data -/
def frz : DV → DV
  | .ow xs => .d (.lst xs)
  | r => r
section
variable {X : Cx} {δ δ1 δ2 δ3 δ' : List DV} {a b c e : Expr} {x y z : D} {pos p1 p2 : Pos} {es : List Expr} {as : List AV} {r : DV}
theorem de_frzr (h : DE X δ e r δ') : DE X δ e (frz r) δ' := by
  cases r with
  | ow xs => exact de_frz h
  | _ => exact h
theorem de_fz {x : D} (h : DE X δ e r δ') (hr : frz r = .d x) : DE X δ e (.d x) δ' := hr ▸ de_frzr h
/-! ### names -/
theorem de_v (i : Nat) {n : Str} (hN : X.N[i]? = some n := by rfl) (hv : Vis X.env.scope n := by first | exact Or.inl rfl | exact Or.inr (Or.inl rfl) | exact Or.inr (Or.inr rfl)) (h : δ[i]? = some (.d x) := by rfl) (hd : (n == ("__debug__" : Str)) = false := by decide) (hcd : (n == ("__classdict__" : Str)) = false := by decide) : DE X δ (.Name n pos) (.d x) δ := de_var hN hv h hd hcd
theorem de_vp (i : Nat) {n : Str} {P : Hp → V → Prop} (hN : X.N[i]? = some n := by rfl) (hv : Vis X.env.scope n := by first | exact Or.inl rfl | exact Or.inr (Or.inl rfl) | exact Or.inr (Or.inr rfl)) (h : δ[i]? = some (.pr P) := by rfl) (hd : (n == ("__debug__" : Str)) = false := by decide) (hcd : (n == ("__classdict__" : Str)) = false := by decide) : DE X δ (.Name n pos) (.pr P) δ := de_pr hN hv h hd hcd
theorem de_vm (i : Nat) {n : Str} {xs : List D} (hN : X.N[i]? = some n := by rfl) (hv : Vis X.env.scope n := by first | exact Or.inl rfl | exact Or.inr (Or.inl rfl) | exact Or.inr (Or.inr rfl)) (h : δ[i]? = some (.ow xs) := by rfl) (hd : (n == ("__debug__" : Str)) = false := by decide) (hcd : (n == ("__classdict__" : Str)) = false := by decide) : DE X δ (.Name n pos) (.ow xs) (δ.set i .un) := de_mv hN hv h hd hcd
theorem da_o (i : Nat) {n : Str} {xs : List D} (hr : DA X δ es as δ2) (hN : X.N[i]? = some n := by rfl) (hv : Vis X.env.scope n := by first | exact Or.inl rfl | exact Or.inr (Or.inl rfl) | exact Or.inr (Or.inr rfl)) (h : δ[i]? = some (.ow xs) := by rfl) (hs : starEach (.Name n pos :: es) X.env = (false, eval (.Name n pos) X.env) :: starEach es X.env := by rfl)
    (hd : (n == ("__debug__" : Str)) = false := by decide) (hcd : (n == ("__classdict__" : Str)) = false := by decide) : DA X δ (.Name n pos :: es) (.sl i :: as) δ2 := da_sl hN hv h hr hs hd hcd
/-! ### a + b, a * b -/
inductive AddOk : D → D → DV → Prop where
  | int (i j : Int) : AddOk (.int i) (.int j) (.d (.int (i + j)))
  | str {s t : Str} (h : s.length + t.length ≤ sizeLine) : AddOk (.str s) (.str t) (.d (.str (s ++ t)))
  | lst {xs ys : List D} (h : xs.length + ys.length ≤ sizeLine) : AddOk (.lst xs) (.lst ys) (.ow (xs ++ ys))
  | tup {xs ys : List D} (h : xs.length + ys.length ≤ sizeLine) (hx : xs ≠ []) (hy : ys ≠ []) : AddOk (.tup xs) (.tup ys) (.d (.tup (xs ++ ys)))
theorem de_addR (ha : DE X δ a (.d x) δ1) (hb : DE X δ1 b (.d y) δ2) (h : AddOk x y r) : DE X δ (.BinOp a .Add b pos) r δ2 := by
  cases h with
  | int => exact de_add ha hb
  | str h => exact de_addS ha hb h
  | lst h => exact de_cat ha hb h
  | tup h hx hy => exact de_catT ha hb h hx hy
inductive MulOk : D → D → DV → Prop where
  | int {i j : Int} (h : CMul i j) : MulOk (.int i) (.int j) (.d (.int (i * j)))
  | intW {i j : Int} (h : CMulW i j) : MulOk (.int i) (.int j) (.d (.int (i * j)))
  | lst {xs : List D} {k : Int} (h1 : -(2 ^ 63) ≤ k) (h2 : k < 2 ^ 63) (h3 : xs.length * k.toNat ≤ sizeLine) : MulOk (.lst xs) (.int k) (.ow (List.replicate k.toNat xs).flatten)
theorem de_mulR (ha : DE X δ a (.d x) δ1) (hb : DE X δ1 b (.d y) δ2) (h : MulOk x y r) : DE X δ (.BinOp a .Mult b pos) r δ2 := by
  cases h with
  | int h => exact de_mul ha hb h
  | intW h => exact de_mulW ha hb h
  | lst h1 h2 h3 => exact de_rep ha hb h1 h2 h3
/-! ### subscripts -/
inductive IxOk : D → Int → D → Prop where
  | lst {xs : List D} {i : Int} {d : D} (h : L2.atI xs i = some d) : IxOk (.lst xs) i d
  | tup {xs : List D} {i : Int} {d : D} (h : L2.atI xs i = some d) : IxOk (.tup xs) i d
theorem de_ixR {i : Int} (ha : DE X δ a (.d x) δ1) (hb : DE X δ1 b (.d (.int i)) δ2) (h : IxOk x i z) (hp : PlainIx b := by exact fun _ _ => rfl) : DE X δ (.Subscript a b pos) (.d z) δ2 := by
  cases h with
  | lst h => exact de_ixL ha hb h hp
  | tup h => exact de_ixT ha hb h hp
theorem de_ixo (i : Nat) {n : Str} {xs : List D} {j : Int} (hb : DE X δ b (.d (.int j)) δ) (hi : L2.atI xs j = some z) (hN : X.N[i]? = some n := by rfl) (hv : Vis X.env.scope n := by first | exact Or.inl rfl | exact Or.inr (Or.inl rfl) | exact Or.inr (Or.inr rfl)) (h : δ[i]? = some (.ow xs) := by rfl) (hp : PlainIx b := by exact fun _ _ => rfl) (hd : (n == ("__debug__" : Str)) = false := by decide) (hcd : (n == ("__classdict__" : Str)) = false := by decide) :
    DE X δ (.Subscript (.Name n p2) b pos) (.d z) δ := de_ixO hN hv hb h hi ⟨xs, h⟩ hp hd hcd
/-! ### and, or -/
/-- True and e, False and e -/
def andD (p q : Bool) : D := .bl (p && q)
theorem de_not' {p : Bool} (ha : DE X δ a (.d (.bl p)) δ1) : DE X δ (.UnaryOp .Not a pos) (.d (.bl (!p))) δ1 := de_not ha
end
end DL
end
section
set_option Elab.async false
set_option linter.all false
set_option maxRecDepth 100000
set_option maxHeartbeats 2000000
/-! DLw: comprehensions over data by a function; pairs stored; keyword calls; a list of one's own lent. -/
namespace DL
open PySem PySem.Spec PyProof.Rows L2
variable [TL]
/-! ### comprehensions -/
theorem unw_one {δ : List DV} {i : Nat} (h : δ[i]? = some .un) : unw δ (δ.set i .un) [i] = δ := by
  refine List.ext_getElem? fun k => ?_
  unfold unw
  rw [List.getElem?_mapIdx]
  by_cases z : k = i
  · subst z
    have hl : k < δ.length := (List.getElem?_eq_some_iff.mp h).1
    rw [List.getElem?_set_self hl, h]
    simp [List.getD_eq_getElem?_getD, h]
  · rw [List.getElem?_set_ne (Ne.symm z)]
    cases e : δ[k]? with
    | none => rfl
    | some x => simp [z]
theorem unw_two {δ : List DV} {i j : Nat} (h : δ[i]? = some .un) (h2 : δ[j]? = some .un) : unw δ ((δ.set i .un).set j .un) [i, j] = δ := by
  refine List.ext_getElem? fun k => ?_
  unfold unw
  rw [List.getElem?_mapIdx]
  have hl : i < δ.length := (List.getElem?_eq_some_iff.mp h).1
  have hl2 : j < δ.length := (List.getElem?_eq_some_iff.mp h2).1
  by_cases z : k = i
  · subst z
    by_cases w : j = k
    · subst w
      rw [List.getElem?_set_self (by rw [List.length_set]; exact hl), h]
      simp [List.getD_eq_getElem?_getD, h]
    · rw [List.getElem?_set_ne w, List.getElem?_set_self hl, h]
      simp [List.getD_eq_getElem?_getD, h]
  · by_cases w : k = j
    · subst w
      rw [List.getElem?_set_self (by rw [List.length_set]; exact hl2), h2]
      simp [List.getD_eq_getElem?_getD, h2]
    · rw [List.getElem?_set_ne (Ne.symm w), List.getElem?_set_ne (Ne.symm z)]
      cases e : δ[k]? with
      | none => rfl
      | some x => simp [z, w]
theorem took_map {items : List D} (f : D → D) : took (fun _ => true) (fun j => f (items.getD j .non)) items.length = items.map f := by
  have key : ∀ n, n ≤ items.length → took (fun _ => true) (fun j => f (items.getD j .non)) n = (items.take n).map f := fun n => by
    induction n with
    | zero => intro _; simp [took]
    | succ n ih =>
      intro hn
      rw [took_succ, ih (by omega), List.take_add_one, List.map_append]
      have e : items[n]? = some (items[n]'(by omega)) := List.getElem?_eq_getElem (by omega)
      rw [List.getD_eq_getElem?_getD, e]
      simp
  rw [key _ (Nat.le_refl _), List.take_length]
theorem took_fmap {items : List D} (p : D → Bool) (f : D → D) : took (fun j => p (items.getD j .non)) (fun j => f (items.getD j .non)) items.length = (items.filter p).map f := by
  have key : ∀ n, n ≤ items.length → took (fun j => p (items.getD j .non)) (fun j => f (items.getD j .non)) n = ((items.take n).filter p).map f := fun n => by
    induction n with
    | zero => intro _; simp [took]
    | succ n ih =>
      intro hn
      have e : items[n]? = some (items[n]'(by omega)) := List.getElem?_eq_getElem (by omega)
      rw [took_succ, ih (by omega), List.take_add_one, List.filter_append, List.map_append]
      simp only [List.getD_eq_getElem?_getD, e, Option.getD_some, Option.toList_some, List.filter_cons, List.filter_nil]
      split <;> simp
  rw [key _ (Nat.le_refl _), List.take_length]
theorem getD_of {items : List D} {j : Nat} {d : D} (h : items[j]? = some d) : items.getD j .non = d := by rw [List.getD_eq_getElem?_getD, h]; rfl
section
variable {X : Cx} {δ δ1 : List DV} {elt iter c : Expr} {scope : Scope} {n m : Str} {p q pos p2 : Pos} {items : List D} {i j : Nat} {f : D → D}
/-- [elt for n in iter] -/
theorem de_lcM (i : Nat) (hc : X.calm = true) (hN : X.N.Nodup) (hi : DI X δ (.Name n p) iter items δ1) (ok : BlkOk X.N X.env.scope scope [(n, i)]) (hX : X.N[i]? = some n) (hu : δ1[i]? = some .un) (hloc : ∀ (s : Shared) (H : Hp) (C : Addr) (cl : List (Str × Addr)) (fp : List Addr), Loc (X.blk s H scope (compEnvC scope cl C X.env) fp).env.scope n)
    (hfl : ∀ (s : Shared) (H : Hp) (C : Addr) (cl : List (Str × Addr)) (fp : List Addr), (X.blk s H scope (compEnvC scope cl C X.env) fp).fn n = true ∨ (X.blk s H scope (compEnvC scope cl C X.env) fp).env.scope.names.lookup n = some .local)
    (he : ∀ (s : Shared) (H : Hp) (C : Addr) (cl : List (Str × Addr)) (fp : List Addr) (d : D), d ∈ items → DE (X.blk s H scope (compEnvC scope cl C X.env) fp) (δ1.set i (.d d)) elt (.d (f d)) (δ1.set i (.d d)))
    (hsz : items.length < sizeLine) (hs : ∀ x, foldedSetIterable iter X.env x = pure x := by intro _; rfl) :
    DE X δ (.ListComp elt [⟨.Name n p, iter, [], 0⟩] scope pos) (.ow (items.map f)) δ1 := by
  rw [← took_map f]
  have hil : i < δ1.length := (List.getElem?_eq_some_iff.mp hu).1
  refine de_lc_ (own := [(n, i)]) hc hN hi ok (fun _ => δ1.set i .un) (fun j => δ1.set i (.d (items.getD j .non))) (fun j => δ1.set i (.d (items.getD j .non))) (fun j => δ1.set i (.d (items.getD j .non))) (fun _ => true) (fun j => f (items.getD j .non)) rfl (fun j => by rw [List.length_set])
    (fun s H C cl fp j d e => ?_) (fun s H C cl fp j d e => pts_yes) (fun s H C cl fp j d e _ => ?_) (fun j _ => ?_) hsz (fun v hv xs => ?_) (unw_one hu) hs
  · have := dg_name (X := X.blk s H scope (compEnvC scope cl C X.env) fp) (pn := pnv δ1.length [i]) (δ := δ1.set i .un) (x := d) (pos := p) hN hX (hloc s H C cl fp) (fun z => by have := (mem_pnv.mp z).2; simp at this) (hfl s H C cl fp)
    rw [List.set_set] at this
    rw [getD_of e]
    exact this
  · rw [getD_of e]
    exact he s H C cl fp d (List.mem_of_getElem? e)
  · show (δ1.set i _).set i .un = _
    rw [List.set_set]
  · rw [List.mem_singleton.mp hv, hu]; exact fun h => nomatch (Option.some.inj h)
/-- [elt for n in iter if c] -/
theorem de_lcF (i : Nat) (pr : D → Bool) (hc : X.calm = true) (hN : X.N.Nodup) (hi : DI X δ (.Name n p) iter items δ1) (ok : BlkOk X.N X.env.scope scope [(n, i)]) (hX : X.N[i]? = some n) (hu : δ1[i]? = some .un) (hloc : ∀ (s : Shared) (H : Hp) (C : Addr) (cl : List (Str × Addr)) (fp : List Addr), Loc (X.blk s H scope (compEnvC scope cl C X.env) fp).env.scope n)
    (hfl : ∀ (s : Shared) (H : Hp) (C : Addr) (cl : List (Str × Addr)) (fp : List Addr), (X.blk s H scope (compEnvC scope cl C X.env) fp).fn n = true ∨ (X.blk s H scope (compEnvC scope cl C X.env) fp).env.scope.names.lookup n = some .local)
    (ht : ∀ (s : Shared) (H : Hp) (C : Addr) (cl : List (Str × Addr)) (fp : List Addr) (d : D), d ∈ items → DT (X.blk s H scope (compEnvC scope cl C X.env) fp) (δ1.set i (.d d)) c (pr d) (δ1.set i (.d d)))
    (he : ∀ (s : Shared) (H : Hp) (C : Addr) (cl : List (Str × Addr)) (fp : List Addr) (d : D), d ∈ items → pr d = true → DE (X.blk s H scope (compEnvC scope cl C X.env) fp) (δ1.set i (.d d)) elt (.d (f d)) (δ1.set i (.d d)))
    (hsz : items.length < sizeLine) (hs : ∀ x, foldedSetIterable iter X.env x = pure x := by intro _; rfl) :
    DE X δ (.ListComp elt [⟨.Name n p, iter, [c], 0⟩] scope pos) (.ow ((items.filter pr).map f)) δ1 := by
  rw [← took_fmap pr f]
  have hil : i < δ1.length := (List.getElem?_eq_some_iff.mp hu).1
  refine de_lc_ (own := [(n, i)]) hc hN hi ok (fun _ => δ1.set i .un) (fun j => δ1.set i (.d (items.getD j .non))) (fun j => δ1.set i (.d (items.getD j .non))) (fun j => δ1.set i (.d (items.getD j .non))) (fun j => pr (items.getD j .non)) (fun j => f (items.getD j .non)) rfl (fun j => by rw [List.length_set])
    (fun s H C cl fp j d e => ?_) (fun s H C cl fp j d e => ?_) (fun s H C cl fp j d e hb => ?_) (fun j _ => ?_) hsz (fun v hv xs => ?_) (unw_one hu) hs
  · have := dg_name (X := X.blk s H scope (compEnvC scope cl C X.env) fp) (pn := pnv δ1.length [i]) (δ := δ1.set i .un) (x := d) (pos := p) hN hX (hloc s H C cl fp) (fun z => by have := (mem_pnv.mp z).2; simp at this) (hfl s H C cl fp)
    rw [List.set_set] at this
    rw [getD_of e]
    exact this
  · rw [getD_of e]
    exact pts_of (ht s H C cl fp d (List.mem_of_getElem? e))
  · rw [getD_of e] at hb ⊢
    exact he s H C cl fp d (List.mem_of_getElem? e) hb
  · have ee : (if pr (items.getD j .non) = true then δ1.set i (.d (items.getD j .non)) else δ1.set i (.d (items.getD j .non))) = δ1.set i (.d (items.getD j .non)) := by split <;> rfl
    rw [ee]
    show (δ1.set i _).set i .un = _
    rw [List.set_set]
  · rw [List.mem_singleton.mp hv, hu]; exact fun h => nomatch (Option.some.inj h)
/-- [elt for n, m in iter], pairs -/
theorem de_lcZ {kk : Nat} {ps : List (D × D)} {g : D → D → D} (i j : Nat) (hij : i ≠ j) (hc : X.calm = true) (hN : X.N.Nodup) (hi : DI X δ (.Tuple [.Name n p, .Name m q] kk p2) iter (ps.map fun x => .tup [x.1, x.2]) δ1) (ok : BlkOk X.N X.env.scope scope [(n, i), (m, j)]) (hX : X.N[i]? = some n) (hX2 : X.N[j]? = some m) (hu : δ1[i]? = some .un) (hu2 : δ1[j]? = some .un)
    (hloc : ∀ (s : Shared) (H : Hp) (C : Addr) (cl : List (Str × Addr)) (fp : List Addr), Loc (X.blk s H scope (compEnvC scope cl C X.env) fp).env.scope n ∧ Loc (X.blk s H scope (compEnvC scope cl C X.env) fp).env.scope m)
    (hfl : ∀ (s : Shared) (H : Hp) (C : Addr) (cl : List (Str × Addr)) (fp : List Addr), ((X.blk s H scope (compEnvC scope cl C X.env) fp).fn n = true ∨ (X.blk s H scope (compEnvC scope cl C X.env) fp).env.scope.names.lookup n = some .local) ∧ ((X.blk s H scope (compEnvC scope cl C X.env) fp).fn m = true ∨ (X.blk s H scope (compEnvC scope cl C X.env) fp).env.scope.names.lookup m = some .local))
    (he : ∀ (s : Shared) (H : Hp) (C : Addr) (cl : List (Str × Addr)) (fp : List Addr) (x y : D), (x, y) ∈ ps → DE (X.blk s H scope (compEnvC scope cl C X.env) fp) ((δ1.set i (.d x)).set j (.d y)) elt (.d (g x y)) ((δ1.set i (.d x)).set j (.d y)))
    (hsz : ps.length < sizeLine) (hs : ∀ x, foldedSetIterable iter X.env x = pure x := by intro _; rfl) :
    DE X δ (.ListComp elt [⟨.Tuple [.Name n p, .Name m q] kk p2, iter, [], 0⟩] scope pos) (.ow (ps.map fun x => g x.1 x.2)) δ1 := by
  obtain ⟨gt, hgt⟩ : ∃ gt : D → D, ∀ x y, gt (.tup [x, y]) = g x y := ⟨fun t => match t with | .tup [x, y] => g x y | _ => .non, fun _ _ => rfl⟩
  have e1 : (ps.map fun x => g x.1 x.2) = (ps.map fun x => D.tup [x.1, x.2]).map gt := by rw [List.map_map]; exact List.map_congr_left fun x _ => (hgt _ _).symm
  rw [e1, ← took_map gt]
  have hil : i < δ1.length := (List.getElem?_eq_some_iff.mp hu).1
  have hjl : j < δ1.length := (List.getElem?_eq_some_iff.mp hu2).1
  let it : List D := ps.map fun x => D.tup [x.1, x.2]
  have at_ : ∀ {k : Nat} {d : D}, it[k]? = some d → ∃ x y, (x, y) ∈ ps ∧ d = .tup [x, y] ∧ ps.getD k (.non, .non) = (x, y) := fun {k d} e => by
    rw [List.getElem?_map] at e
    obtain ⟨⟨x, y⟩, h1, h2⟩ := Option.map_eq_some_iff.mp e
    exact ⟨x, y, List.mem_of_getElem? h1, h2.symm, by rw [List.getD_eq_getElem?_getD, h1]; rfl⟩
  refine de_lc_ (own := [(n, i), (m, j)]) (items := it) hc hN hi ok (fun _ => (δ1.set j .un).set i .un) (fun k => (δ1.set i (.d (ps.getD k (.non, .non)).1)).set j (.d (ps.getD k (.non, .non)).2)) (fun k => (δ1.set i (.d (ps.getD k (.non, .non)).1)).set j (.d (ps.getD k (.non, .non)).2)) (fun k => (δ1.set i (.d (ps.getD k (.non, .non)).1)).set j (.d (ps.getD k (.non, .non)).2)) (fun _ => true) (fun k => gt (it.getD k .non)) rfl (fun k => by rw [List.length_set, List.length_set])
    (fun s H C cl fp k d e => ?_) (fun s H C cl fp k d e => pts_yes) (fun s H C cl fp k d e _ => ?_) (fun k _ => ?_) (by rw [List.length_map]; exact hsz) (fun v hv xs => ?_) ?_ hs
  · obtain ⟨x, y, hm, rfl, ep⟩ := at_ e
    have := dg_two (X := X.blk s H scope (compEnvC scope cl C X.env) fp) (pn := pnv δ1.length [i, j]) (δ := (δ1.set j .un).set i .un) (x := x) (y := y) (pos := p2) (p1 := p) (p2 := q) (kk := kk) hc hN hX (hloc s H C cl fp).1 hX2 (hloc s H C cl fp).2 (fun z => by have := (mem_pnv.mp z).2; simp at this) (fun z => by have := (mem_pnv.mp z).2; simp at this) (hfl s H C cl fp).1 (hfl s H C cl fp).2
    have e2 : ((((δ1.set j .un).set i .un).set i (.d x)).set j (.d y)) = (δ1.set i (.d x)).set j (.d y) := by
      rw [List.set_set, List.set_comm _ _ (Ne.symm hij), List.set_set]
    rw [e2] at this
    rw [ep]
    exact this
  · obtain ⟨x, y, hm, rfl, ep⟩ := at_ e
    rw [ep, getD_of e, hgt]
    exact he s H C cl fp x y hm
  · show (((δ1.set i _).set j _).set j .un).set i .un = _
    rw [List.set_set, List.set_comm _ _ (Ne.symm hij), List.set_set, List.set_comm _ _ hij]
  · rcases List.mem_cons.mp hv with z | z
    · rw [z]; show δ1[i]? ≠ _; rw [hu]; exact fun h => nomatch (Option.some.inj h)
    · rw [List.mem_singleton.mp z]; show δ1[j]? ≠ _; rw [hu2]; exact fun h => nomatch (Option.some.inj h)
  · show unw δ1 ((δ1.set j .un).set i .un) [i, j] = δ1
    rw [List.set_comm _ _ (Ne.symm hij)]
    exact unw_two hu hu2
end
end DL
end
section
set_option Elab.async false
set_option linter.all false
set_option maxRecDepth 100000
set_option maxHeartbeats 2000000
/-! DLu: pairs stored; keyword calls; a list of one's own lent. -/
namespace DL
open PySem PySem.Spec PyProof.Rows L2
variable [TL]
section
variable {X : Cx} {pn : List Nat} {δ δ1 δ2 δ3 : List DV} {a b c e : Expr} {x y z r : D} {ra rb : DV} {pos p1 p2 px py pz pt pt2 : Pos} {kt k2 : Nat} {i j l : Nat} {n m o : Str} {σ : L2.St} {F H : Hp}
/-- a result stays through what comes behind it -/
theorem Res.on {O O1 O2 : Addr → Prop} {F H F1 H1 F2 H2 : Hp} {v : V} {ra : DV} (r : Res F1 H1 O H O1 v ra) (g : Go O1 O2 F1 H1 F2 H2) : Res F2 H2 O H O2 v ra := by
  cases ra with
  | un => trivial
  | d x => exact Rp.ex g.ff r
  | raw w => exact r
  | pr P => exact fun F3 e => r F3 (g.ff.trans e)
  | ow xs =>
    obtain ⟨p, vs, e, h1, h2, h3, h4, h5⟩ := r
    refine ⟨p, vs, e, ?_, g.keep p _ h2 h4 (fun _ h => nomatch h), h3.ex g.ff, fun z => (g.own p z).elim h4 fun q => q.lst h2, h5⟩
    cases q : F2 p with
    | none => rfl
    | some o =>
      rcases g.new p o q with w | w | w
      · rw [h1] at w; cases w
      · exact (w.lst h2).elim
      · exact absurd w h4
/-- a result stored -/
theorem aft_store {F1 H1 : Hp} {v : V} (hu : ra ≠ .un) (g : Go (Own σ δ) (Own σ δ1) F H F1 H1) (R1 : Rs F1 H1 σ δ1) (r : Res F1 H1 (Own σ δ) H (Own σ δ1) v ra) (hp : i ∉ pn) : Aft pn σ δ F H (σ.set i (some v)) (δ1.set i ra) F1 H1 := by
  cases ra with
  | un => exact absurd rfl hu
  | d x => exact (aft_of g R1).trans (Aft.set_ R1 (fun _ h => nomatch h) ⟨v, rfl, r⟩ hp)
  | raw w => exact (aft_of g R1).trans (Aft.set_ R1 (fun _ h => nomatch h) (congrArg some (show v = w from r)) hp)
  | pr P => exact (aft_of g R1).trans (Aft.set_ R1 (fun _ h => nomatch h) ⟨v, rfl, r⟩ hp)
  | ow xs => exact aft_setO g R1 r hp
/-- n, m = a, b -/
theorem ds_par2 (hua : ra ≠ .un) (hub : rb ≠ .un) (hc : X.calm = true) (hN : X.N.Nodup) (hi : X.N[i]? = some n) (hj : X.N[j]? = some m) (hij : i ≠ j) (hx : X.env.scope.names.lookup n = some .local) (hy : X.env.scope.names.lookup m = some .local) (hp : i ∉ pn) (hq : j ∉ pn)
    (ha : DE X δ a ra δ1) (hb : DE X δ1 b rb δ2)
    (hw : swappedStores [.Tuple [.Name n px, .Name m py] kt pt] (.Tuple [a, b] k2 pt2) X.env = pure (some [n, m]))
    (hs : swapsWithSole [.Tuple [.Name n px, .Name m py] kt pt] (.Tuple [a, b] k2 pt2) pos.line X.env = pure false := by rfl)
    (hs1 : starEach [a, b] X.env = (false, eval a X.env) :: starEach [b] X.env := by rfl) (hs2 : starEach [b] X.env = (false, eval b X.env) :: starEach [] X.env := by rfl) :
    DS X pn δ (.Assign [.Tuple [.Name n px, .Name m py] kt pt] (.Tuple [a, b] k2 pt2) pos) (.nx ((δ2.set i ra).set j rb)) := by
  refine (ps_par hc hN hi hj hij hx hy (pa_cons ha (pa_cons hb pa_nil hs2) hs1) hw hs).imp fun D σ H ⟨F, R, k⟩ => ⟨F, R, fun v F1 H1 g1 R1 r1 => ⟨F1, R1, fun w F2 H2 g2 R2 r2 => ⟨v, w, rfl, ?_⟩⟩⟩
  have A1 : Aft pn σ δ F H (σ.set i (some v)) (δ2.set i ra) F2 H2 := aft_store hua (g1.trans g2) R2 (Res.on (F := F) r1 g2) hp
  have r2' : Res F2 H2 (Own (σ.set i (some v)) (δ2.set i ra)) H2 (Own (σ.set i (some v)) (δ2.set i ra)) w rb ∨ True := .inr trivial
  -- the second, told from the first's store
  have A2 : Aft pn σ δ F H ((σ.set i (some v)).set j (some w)) ((δ2.set i ra).set j rb) F2 H2 := by
    cases rb with
    | un => exact absurd rfl hub
    | d x => exact A1.trans (Aft.set_ A1.rs (fun _ h => nomatch h) ⟨w, rfl, r2⟩ hq)
    | raw u => exact A1.trans (Aft.set_ A1.rs (fun _ h => nomatch h) (congrArg some (show w = u from r2)) hq)
    | pr P => exact A1.trans (Aft.set_ A1.rs (fun _ h => nomatch h) ⟨w, rfl, r2⟩ hq)
    | ow xs =>
      obtain ⟨p, vs, rfl, h1, h2, h3, h4, h5⟩ := r2
      have no : ¬ Own (σ.set i (some v)) (δ2.set i ra) p := fun z => by
        cases ra with
        | ow ys =>
          obtain ⟨q, us, rfl, k1, k2, k3, k4, k5⟩ := r1
          rcases own_setO z with z | z
          · subst z
            rcases h5 with h5 | h5
            · exact h5.lst k2
            · exact k4 h5
          · exact h4 z
        | un => exact absurd rfl hua
        | d x => exact h4 (own_set (x := .d x) (fun _ h => nomatch h) z)
        | raw x => exact h4 (own_set (x := .raw x) (fun _ h => nomatch h) z)
        | pr x => exact h4 (own_set (x := .pr x) (fun _ h => nomatch h) z)
      have h5' : Fre H p ∨ Own σ δ p := by
        rcases h5 with h5 | h5
        · exact .inl (g1.there p h5)
        · exact (g1.own p h5).elim .inr .inl
      refine ⟨⟨A1.go.ff, A1.go.keep, A1.go.new, A1.go.there, fun q hq' => ?_⟩, A1.rs.setO h1 h2 h3 no, fun k hk => by rw [List.getElem?_set_ne (by rintro rfl; exact hq hk)]; exact A1.pin k hk⟩
      rcases own_setO hq' with rfl | z
      · exact h5'.elim .inr .inl
      · exact A1.go.own q z
  exact k _ F2 H2 A2
/-- n, m, o = a, b, c: data -/
theorem ds_par3 (hc : X.calm = true) (hN : X.N.Nodup) (hi : X.N[i]? = some n) (hj : X.N[j]? = some m) (hl : X.N[l]? = some o) (hij : i ≠ j) (hil : i ≠ l) (hjl : j ≠ l)
    (hx : X.env.scope.names.lookup n = some .local) (hy : X.env.scope.names.lookup m = some .local) (hz : X.env.scope.names.lookup o = some .local) (hp : i ∉ pn) (hq : j ∉ pn) (hr : l ∉ pn)
    (ha : DA X δ [a, b, c] [.d x, .d y, .d z] δ1)
    (hw : swappedStores [.Tuple [.Name n px, .Name m py, .Name o pz] kt pt] (.Tuple [a, b, c] k2 pt2) X.env = pure (some [n, m, o]))
    (hs : swapsWithSole [.Tuple [.Name n px, .Name m py, .Name o pz] kt pt] (.Tuple [a, b, c] k2 pt2) pos.line X.env = pure false := by rfl) :
    DS X pn δ (.Assign [.Tuple [.Name n px, .Name m py, .Name o pz] kt pt] (.Tuple [a, b, c] k2 pt2) pos) (.nx (((δ1.set i (.d x)).set j (.d y)).set l (.d z))) := by
  refine (ps_par3 hc hN hi hj hl hij hil hjl hx hy hz ha hw hs).imp fun D σ H ⟨F, R, k⟩ => ⟨F, R, fun vs F1 H1 g1 R1 r1 => ?_⟩
  cases r1 with
  | cons u r1 =>
  cases r1 with
  | cons v r1 =>
  cases r1 with
  | cons w r1 =>
  cases r1
  refine ⟨_, _, _, rfl, k _ F1 H1 ?_⟩
  have A1 := (aft_of (pn := pn) g1 R1).trans (Aft.set_ (i := i) R1 (x := .d x) (fun _ h => nomatch h) ⟨_, rfl, u⟩ hp)
  have A2 := A1.trans (Aft.set_ (i := j) A1.rs (x := .d y) (fun _ h => nomatch h) ⟨_, rfl, v⟩ hq)
  exact A2.trans (Aft.set_ (i := l) A2.rs (x := .d z) (fun _ h => nomatch h) ⟨_, rfl, w⟩ hr)
end
section
variable {X : Cx} {δ δ1 : List DV} {e : Expr} {x nm : Str} {p p1 pos kpos : Pos} {d : D} {r : DV}
/-- a def as it is called by its one parameter's name -/
structure FDk (P : Program) (w : World) (K : PySem.W.Frag) (mg : Str → Option Value) (base : Heap) (k : Nat) (x nm : Str) (R : RelD) (RX : RelX) : Prop where
  ex : ∃ f fd, FnOk P w K mg base (L2.CX P w) k f fd [nm] (spD R RX) ∧ mg x = some (.ref f) ∧ PySem.W.keepIn K (.ref f) = true ∧ ∀ w, bindArgs fd ⟨[], [(nm, w)]⟩ = pure [(nm, w)]
/-- f(nm = e) -/
theorem de_callK1 {k : Nat} {R : RelD} {RX : RelX} (G : FDk X.prog X.w X.K X.mg X.base k x nm R RX) (hr : Room k X.A) (hg : Gl X x) (he : DE X δ e (.d d) δ1) (hR : R [.d d] r [.d d])
    (hdb : (x == ("__debug__" : Str)) = false := by decide) (hall : (backToKw pos (keywordEach [⟨some nm, e, kpos⟩] X.env)).all (·.1.isSome) = true := by rfl) (hks : (backToKw pos (keywordEach [⟨some nm, e, kpos⟩] X.env)).filterMap (·.1) = [nm] := by rfl)
    (hpl : ((backTo pos (starEach [] X.env)).any (·.1) || (backToKw pos (keywordEach [⟨some nm, e, kpos⟩] X.env)).any (·.1.isNone)) = false := by rfl) :
    DE X δ (.Call (.Name x p1) [] [⟨some nm, e, kpos⟩] pos) r δ1 := by
  obtain ⟨f, fd, h1, h2, h3, hbb⟩ := G.ex
  refine ⟨fun pins s σ H Q I ⟨F, Rf, k⟩ => ?_⟩
  refine wpAny_Call_Name_kw (ld_glob I hg h2 ?_ hdb)
  refine PySem.W.callWith_KW0 (h₀ := X.base) I.ok.mod.kin h3 hall ?_ hpl
  refine thn ((pk_cons (nm := some nm) (kpos := kpos) he pk_nil).run pos pins s σ H (fun vs H1 => ∃ v F1, vs = [v] ∧ Go (Own σ δ) (Own σ δ1) F H F1 H1 ∧ Rs F1 H1 σ δ1 ∧ Rp F1 v d) I ⟨F, Rf, fun v F1 H1 g R1 r1 => ⟨v, F1, rfl, g, R1, r1⟩⟩) fun ws s2 ⟨vs, H1, I1, rv, v, F1, ev, g1, R1, r1⟩ => ⟨I1.kIn, ?_⟩
  subst ev
  rw [hks]
  obtain ⟨u, rfl, rv2⟩ : ∃ u, ws = [u] ∧ RelV v u := by
    cases rv with
    | cons rv rn => cases rn; exact ⟨_, rfl, rv⟩
  show wpAny _ _ (call (.ref f) [] [(nm, u)]) _ _ _
  have hsp : spD R RX [v] H1 (fun v' H2 => Q v' H2) E0 := call_fin (as := [.d d]) (σ := σ) R1 (.cons (show Rp F1 v d from r1) .nil) rfl hR fun v' F2 H2 g2 R2 q => k v' F2 H2 (g1.trans g2) R2 (Res.back g1 q)
  refine wpAny_call (codeAny_mono (h1.run X.A X.stack s2 H1 ⟨[], [(nm, u)]⟩ [u] [v] _ E0 hr I1.env0 (.of_eq (hbb u)) (.cons rv2 .nil) hsp) fun r' s' hq => ?_)
  cases r' with
  | error e => exact passL (X := X) pins σ H1 s2 e s' I1 hq
  | ok fl =>
    cases fl with
    | ret u => exact I1.after hq
    | next => exact False.elim hq
    | brk => exact False.elim hq
    | cont => exact False.elim hq
end
end DL
end
section
set_option Elab.async false
set_option linter.all false
set_option maxRecDepth 100000
/-! DLs: data of a size that fits everywhere. -/
namespace DL
open PySem PySem.Spec PyProof.Rows L2
mutual
def D.wt : D → Nat
  | .str s => s.length
  | .int i => if i == 0 then 0 else i.natAbs.log2 + 1
  | .lst xs => D.wtA xs
  | .tup xs => D.wtA xs
  | _ => 0
def D.wtA : List D → Nat
  | [] => 0
  | d :: ds => d.wt + 1 + D.wtA ds
end
mutual
def D.sm : D → Bool
  | .int i => decide (i.natAbs < 10 ^ 50)
  | .lst xs => D.smA xs
  | .tup xs => D.smA xs
  | _ => true
def D.smA : List D → Bool
  | [] => true
  | d :: ds => d.sm && D.smA ds
end
theorem int_short {i : Int} (h : i.natAbs < 10 ^ 50) : (PyData.shown (.int i)).length ≤ 52 := by
  have e := int_text_length_le10 (k := 50) (by decide) h
  show (Str.ofString (toString i)).length ≤ 52
  rw [PySem.ofString_length]; omega
theorem shown_fits52 {d : PyData} (hl : d.leavesShort 52 = true) (hw : d.weight ≤ 2 ^ 18) : d.shown.length ≤ sizeLine := by
  have h := PyData.shown_le 52 (by decide) d hl
  have e : (2 : Nat) ^ 18 = 262144 := by decide
  rw [sizeLine_eq]
  omega
mutual
theorem D.wt_py : ∀ d : D, d.ok = true → d.py.weight = d.wt
  | .non, _ => by simp [D.py, PyData.weight, D.wt]
  | .bl _, _ => by simp [D.py, PyData.weight, D.wt]
  | .int i, _ => by simp [D.py, PyData.weight, D.wt]
  | .str s, _ => by simp [D.py, PyData.weight, D.wt, Str.length]
  | .lst xs, h => by simp only [D.py, PyData.weight, D.wt]; exact D.wt_pyA xs (by simpa [D.ok] using h)
  | .tup xs, h => by simp only [D.py, PyData.weight, D.wt]; exact D.wt_pyA xs (by simpa [D.ok] using h)
  | .dct _ _, h => by simp [D.ok] at h
  | .exc _ _, h => by simp [D.ok] at h
  | .fn _, h => by simp [D.ok] at h
theorem D.wt_pyA : ∀ ds : List D, D.okA ds = true → PyData.weightAll (D.pyA ds) = D.wtA ds
  | [], _ => by simp [D.pyA, PyData.weightAll, D.wtA]
  | d :: ds, h => by
    simp only [D.okA, Bool.and_eq_true] at h
    simp only [D.pyA, PyData.weightAll, D.wtA, D.wt_py d h.1, D.wt_pyA ds h.2]
end
mutual
theorem D.short_py : ∀ d : D, d.ok = true → d.sm = true → d.py.intsShort 52 = true
  | .non, _, _ => rfl
  | .bl _, _, _ => rfl
  | .int i, _, h => by
    simp only [D.py, PyData.intsShort, decide_eq_true_eq]
    exact int_short (by simpa [D.sm] using h)
  | .str s, _, _ => rfl
  | .lst xs, h, k => by simp only [D.py, PyData.intsShort]; exact D.short_pyA xs (by simpa [D.ok] using h) (by simpa [D.sm] using k)
  | .tup xs, h, k => by simp only [D.py, PyData.intsShort]; exact D.short_pyA xs (by simpa [D.ok] using h) (by simpa [D.sm] using k)
  | .dct _ _, h, _ => by simp [D.ok] at h
  | .exc _ _, h, _ => by simp [D.ok] at h
  | .fn _, h, _ => by simp [D.ok] at h
theorem D.short_pyA : ∀ ds : List D, D.okA ds = true → D.smA ds = true → PyData.intsShortAll 52 (D.pyA ds) = true
  | [], _, _ => rfl
  | d :: ds, h, k => by
    simp only [D.okA, Bool.and_eq_true] at h
    simp only [D.smA, Bool.and_eq_true] at k
    simp only [D.pyA, PyData.intsShortAll, Bool.and_eq_true]
    exact ⟨D.short_py d h.1 k.1, D.short_pyA ds h.2 k.2⟩
end
mutual
theorem D.sm_showable : ∀ d : D, d.ok = true → d.sm = true → d.py.showable = true
  | .non, _, _ => rfl
  | .bl _, _, _ => rfl
  | .int i, _, h => by
    simp only [D.py, PyData.showable, decide_eq_true_eq]
    have h : i.natAbs < 10 ^ 50 := by simpa [D.sm] using h
    by_cases z : i.natAbs = 0
    · rw [z]; decide
    · exact Nat.lt_of_lt_of_le ((Nat.log2_lt z).mpr (Nat.lt_of_lt_of_le h (by decide : 10 ^ 50 ≤ 2 ^ 170))) (by decide)
  | .str s, _, _ => rfl
  | .lst xs, h, k => by simp only [D.py, PyData.showable]; exact D.sm_showableA xs (by simpa [D.ok] using h) (by simpa [D.sm] using k)
  | .tup xs, h, k => by simp only [D.py, PyData.showable]; exact D.sm_showableA xs (by simpa [D.ok] using h) (by simpa [D.sm] using k)
  | .dct _ _, h, _ => by simp [D.ok] at h
  | .exc _ _, h, _ => by simp [D.ok] at h
  | .fn _, h, _ => by simp [D.ok] at h
theorem D.sm_showableA : ∀ ds : List D, D.okA ds = true → D.smA ds = true → PyData.showableAll (D.pyA ds) = true
  | [], _, _ => rfl
  | d :: ds, h, k => by
    simp only [D.okA, Bool.and_eq_true] at h
    simp only [D.smA, Bool.and_eq_true] at k
    simp only [D.pyA, PyData.showableAll, Bool.and_eq_true]
    exact ⟨D.sm_showable d h.1 k.1, D.sm_showableA ds h.2 k.2⟩
end
/-- good data: plain, of depth at most n, of a weight that fits -/
structure Gd (n : Nat) (d : D) : Prop where
  ok : d.ok = true
  dep : d.dep ≤ n
  wt : d.wt ≤ 2 ^ 18
  sm : d.sm = true
structure GdA (n : Nat) (ds : List D) : Prop where
  ok : D.okA ds = true
  dep : D.depA ds ≤ n
  wt : D.wtA ds ≤ 2 ^ 18
  sm : D.smA ds = true
theorem Gd.mono {n m : Nat} {d : D} (h : Gd n d) (l : n ≤ m) : Gd m d := ⟨h.ok, Nat.le_trans h.dep l, h.wt, h.sm⟩
theorem Gd.plain {n : Nat} {d : D} (h : Gd n d) : d.plain = true := by
  have := h.ok
  cases d <;> first | rfl | (simp [D.ok] at this)
theorem Gd.sh {n : Nat} {d : D} (h : Gd n d) (l : n ≤ 64) : d.sh := ⟨h.ok, Nat.le_trans h.dep l⟩
theorem Gd.shows {n : Nat} {d : D} (h : Gd n d) (l : n ≤ 64) : d.Shows := ⟨h.ok, Nat.le_trans h.dep l, D.sm_showable d h.ok h.sm,
  shown_fits52 (PyData.leavesShort_of_canLay0 52 _ (D.py_can _ h.ok) (D.short_py _ h.ok h.sm)) (by rw [D.wt_py _ h.ok]; exact h.wt)⟩
theorem Gd.tupA {n : Nat} {xs : List D} (h : Gd n (.tup xs)) : GdA (n - 1) xs ∧ 1 ≤ n := by
  have d := h.dep
  simp only [D.dep] at d
  exact ⟨⟨by simpa [D.ok] using h.ok, by omega, by simpa [D.wt] using h.wt, by simpa [D.sm] using h.sm⟩, by omega⟩
theorem Gd.lstA {n : Nat} {xs : List D} (h : Gd n (.lst xs)) : GdA (n - 1) xs ∧ 1 ≤ n := by
  have d := h.dep
  simp only [D.dep] at d
  exact ⟨⟨by simpa [D.ok] using h.ok, by omega, by simpa [D.wt] using h.wt, by simpa [D.sm] using h.sm⟩, by omega⟩
theorem GdA.tup {n : Nat} {xs : List D} (h : GdA n xs) : Gd (n + 1) (.tup xs) := ⟨by simpa [D.ok] using h.ok, by simp only [D.dep]; have := h.dep; omega, by simpa [D.wt] using h.wt, by simpa [D.sm] using h.sm⟩
theorem GdA.lst {n : Nat} {xs : List D} (h : GdA n xs) : Gd (n + 1) (.lst xs) := ⟨by simpa [D.ok] using h.ok, by simp only [D.dep]; have := h.dep; omega, by simpa [D.wt] using h.wt, by simpa [D.sm] using h.sm⟩
theorem GdA.head {n : Nat} {d : D} {ds : List D} (h : GdA n (d :: ds)) : Gd n d ∧ GdA n ds := by
  obtain ⟨h1, h2, h3, h4⟩ := h
  simp only [D.okA, D.depA, D.wtA, D.smA, Bool.and_eq_true] at h1 h2 h3 h4
  exact ⟨⟨h1.1, by omega, by omega, h4.1⟩, ⟨h1.2, by omega, by omega, h4.2⟩⟩
theorem GdA.mem {n : Nat} : ∀ {ds : List D} {d : D}, GdA n ds → d ∈ ds → Gd n d
  | [], _, _, h => by cases h
  | e :: ds, d, g, h => by
    rcases List.mem_cons.mp h with rfl | h
    · exact g.head.1
    · exact g.head.2.mem h
theorem D.wtA_len : ∀ ds : List D, ds.length ≤ D.wtA ds
  | [] => Nat.zero_le _
  | d :: ds => by have := D.wtA_len ds; simp only [List.length_cons, D.wtA]; omega
theorem GdA.len {n : Nat} {ds : List D} (h : GdA n ds) : ds.length < sizeLine := Nat.lt_of_le_of_lt (Nat.le_trans (D.wtA_len ds) h.wt) (by decide)
theorem Gd.str {n : Nat} {s : Str} (h : Gd n (.str s)) : s.length < sizeLine := Nat.lt_of_le_of_lt (by simpa [D.wt] using h.wt) (by decide)
theorem D.wtA_append (a b : List D) : D.wtA (a ++ b) = D.wtA a + D.wtA b := by
  induction a with
  | nil => simp [D.wtA]
  | cons x a ih => simp only [List.cons_append, D.wtA, ih]; omega
theorem D.okA_append (a b : List D) : D.okA (a ++ b) = (D.okA a && D.okA b) := by
  induction a with
  | nil => simp [D.okA]
  | cons x a ih => simp only [List.cons_append, D.okA, ih, Bool.and_assoc]
theorem D.smA_append (a b : List D) : D.smA (a ++ b) = (D.smA a && D.smA b) := by
  induction a with
  | nil => simp [D.smA]
  | cons x a ih => simp only [List.cons_append, D.smA, ih, Bool.and_assoc]
theorem D.depA_append (a b : List D) : D.depA (a ++ b) = max (D.depA a) (D.depA b) := by
  induction a with
  | nil => simp [D.depA]
  | cons x a ih => simp only [List.cons_append, D.depA, ih]; omega
theorem eqv_str (s t : Str) : (D.str s).eqv (.str t) = decide (s = t) := by
  simp only [D.eqv, D.py, PyData.eqv]
  by_cases h : s = t
  · subst h; simp
  · rw [decide_eq_false h]; exact beq_eq_false_iff_ne.mpr h
end DL
end
section
set_option Elab.async false
set_option linter.all false
set_option maxRecDepth 100000
set_option maxHeartbeats 2000000
/-! DLt: zip of tuples; a list of one's own compared; a slot forgotten. -/
namespace DL
open PySem PySem.Spec PyProof.Rows L2 RZ
theorem walk_zipT {K : PySem.W.Frag} {a b : Addr} {xs ys : List V} {n : Nat} (hn : n = min xs.length ys.length) : Walk (ItzT K a b) n (fun H => SqT K H a xs ∧ SqT K H b ys) (YPair (fun i => xs[i]?) (fun i => ys[i]?)) := by
  subst hn
  refine ⟨fun i _ hi q => ?_, fun _ q => ⟨xs, ys, q.1, q.2, by omega⟩, fun i H v H' _ q y => ?_⟩
  · have h1 : i < xs.length := by omega
    have h2 : i < ys.length := by omega
    exact ⟨xs, ys, xs[i], ys[i], q.1, q.2, by simp [h1], by simp [h2]⟩
  · obtain ⟨T, x, z, h1, h2, h3, h4, h5⟩ := y
    exact ⟨T, x, z, h1, h2, h3, h4 xs q.1, h5 ys q.2⟩
variable [TL]
section
variable {X : Cx} {pn : List Nat} {δ δ1 δ2 δ3 : List DV} {a b c e : Expr} {x y z r : D} {pos p1 p2 : Pos}
theorem di_zipT {xs ys : List D} {es : List Expr} {kk : Nat} (hg : Gl X "zip") (hm : X.mg "zip" = none) (ha : DE X δ a (.d (.tup xs)) δ1) (hb : DE X δ1 b (.d (.tup ys)) δ2) (hs : starEach [a, b] X.env = (false, eval a X.env) :: starEach [b] X.env := by rfl) (hs2 : starEach [b] X.env = (false, eval b X.env) :: starEach [] X.env := by rfl) (hpl : ((backTo pos (starEach [b] X.env)).any fun x => x.1) = false := by rfl) :
    DI X δ (.Tuple es kk p2) (.Call (.Name "zip" p1) [a, b] [] pos) (List.zipWith (fun x y => D.tup [x, y]) xs ys) δ2 :=
  (pi_zipA hg hm (pa_cons ha (pa_cons hb pa_nil hs2) hs) hs hpl).imp fun σ H R ⟨F, Rf, k⟩ => ⟨F, Rf, fun v F1 H1 g R1 r1 => ⟨F1, R1, fun w F2 H2 g2 R2 r2 => by
    replace r1 := Rp.ex g2.ff r1
    cases r1 with
    | tup h1 ra =>
      cases r2 with
      | tup h2 rb =>
        refine ⟨_, _, _, _, rfl, .inr ⟨SqT.of (R2.sub _ _ h1), SqT.of (R2.sub _ _ h2), k _ F2 H2 (g.trans g2) R2 ?_⟩⟩
        unfold WkD
        refine Walk.mono (walk_zipT (by rw [List.length_zipWith, ra.length, rb.length])) (fun H' e => ⟨SqT.of (e _ _ h1), SqT.of (e _ _ h2)⟩) fun i H v H' _ _ ⟨T, x, y, e1, e2, e3, e4, e5⟩ => ?_
        obtain ⟨dx, k1, k2⟩ := ra.getV e4
        obtain ⟨dy, k3, k4⟩ := rb.getV e5
        refine ⟨.tup [dx, dy], by rw [List.getElem?_zipWith, k1, k3], .inr ⟨T, _, e2, e3, (fun _ h => nomatch h), fun F3 ex hn => ?_⟩⟩
        rw [e1]
        exact .tup upd_same (.cons (k2.ex (ex.trans (.new hn))) (.cons (k4.ex (ex.trans (.new hn))) .nil))⟩⟩
/-- own op data -/
theorem de_cmpO {op : CmpOp} {q : R2} {i : Nat} {n : Str} {xs : List D} {k : Bool} (ho : OpR X (compareOp op) q) (hN : X.N[i]? = some n) (hv : Vis X.env.scope n) (h : δ[i]? = some (.ow xs)) (hb : DE X δ b (.d y) δ) (hr : OpD q (.lst xs) y (.bl k)) (hm : behindInMarks op b = false)
    (hd : (n == ("__debug__" : Str)) = false := by decide) (hcd : (n == ("__classdict__" : Str)) = false := by decide) : DE X δ (.Compare (.Name n p1) [op] [b] pos) (.d (.bl k)) δ :=
  (pe_cmpR ho (pe_var (i := i) hN hv hd hcd) hb hm).imp fun σ H Q ⟨F, R, kk⟩ => by
    obtain ⟨o, e, p, vs, q1, q2, q3, q4⟩ := R.at_ i _ h
    refine ⟨.ref p, by rw [e, q1], F, R, fun u F2 H2 g2 R2 r2 => ?_⟩
    obtain ⟨o', e', p', vs', k1, k2, k3, k4⟩ := R2.at_ i _ h
    rw [e] at e'; cases e'
    rw [q1] at k1; cases k1
    refine hr (upd F2 p (.lst vs')) H2 _ _ _ (fun a u e => ?_) (.lst upd_same (k4.ex (.new k2))) (r2.ex (.new k2)) fun w rw' => ?_
    · by_cases z : a = p
      · subst z; rw [upd_same] at e; rw [k3, e]
      · rw [upd_ne z] at e; exact R2.sub a u e
    · cases rw'
      exact kk _ F2 H2 g2 R2 (.bl k)
theorem de_neO {i k : Nat} {n : Str} {xs : List D} (hr : Room k X.A) (hx : (D.lst xs).sh) (hy : y.sh) (hN : X.N[i]? = some n) (hv : Vis X.env.scope n) (h : δ[i]? = some (.ow xs)) (hb : DE X δ b (.d y) δ)
    (hd : (n == ("__debug__" : Str)) = false := by decide) (hcd : (n == ("__classdict__" : Str)) = false := by decide) : DE X δ (.Compare (.Name n p1) [.NotEq] [b] pos) (.d (.bl (!(D.lst xs).eqv y))) δ :=
  de_cmpO (op_neD hr.units) hN hv h hb (fun F H v u Q e rv ru k => ⟨(D.lst xs).py, y.py, rv.dp e hx.1, ru.dp e hy.1, hx.py, hy.py, k _ (.bl _)⟩) (nomark _) hd hcd
theorem dt_cmpO {op : CmpOp} {q : R2} {i : Nat} {n : Str} {xs : List D} {k : Bool} (ho : OpR X (compareOp op) q) (hN : X.N[i]? = some n) (hv : Vis X.env.scope n) (h : δ[i]? = some (.ow xs)) (hb : DE X δ b (.d y) δ) (hr : OpD q (.lst xs) y (.bl k)) (hm : behindInMarks op b = false)
    (hd : (n == ("__debug__" : Str)) = false := by decide) (hcd : (n == ("__classdict__" : Str)) = false := by decide) : DT X δ (.Compare (.Name n p1) [op] [b] pos) k δ :=
  (pt_cmpR ho (pe_var (i := i) hN hv hd hcd) hb hm).imp fun σ H Q ⟨F, R, kk⟩ => by
    obtain ⟨o, e, p, vs, q1, q2, q3, q4⟩ := R.at_ i _ h
    refine ⟨.ref p, by rw [e, q1], F, R, fun u F2 H2 g2 R2 r2 => ?_⟩
    obtain ⟨o', e', p', vs', k1, k2, k3, k4⟩ := R2.at_ i _ h
    rw [e] at e'; cases e'
    rw [q1] at k1; cases k1
    refine hr (upd F2 p (.lst vs')) H2 _ _ _ (fun a u e => ?_) (.lst upd_same (k4.ex (.new k2))) (r2.ex (.new k2)) fun w rw' => ?_
    · by_cases z : a = p
      · subst z; rw [upd_same] at e; rw [k3, e]
      · rw [upd_ne z] at e; exact R2.sub a u e
    · cases rw'
      exact ⟨k, rfl, kk F2 H2 g2 R2⟩
theorem dt_neO {i m : Nat} {n : Str} {xs : List D} {k : Bool} (hr : Room m X.A) (hx : (D.lst xs).sh) (hy : y.sh) (hN : X.N[i]? = some n) (hv : Vis X.env.scope n) (h : δ[i]? = some (.ow xs)) (hb : DE X δ b (.d y) δ) (hk : (!(D.lst xs).eqv y) = k)
    (hd : (n == ("__debug__" : Str)) = false := by decide) (hcd : (n == ("__classdict__" : Str)) = false := by decide) : DT X δ (.Compare (.Name n p1) [.NotEq] [b] pos) k δ :=
  dt_cmpO (op_neD hr.units) hN hv h hb (fun F H v u Q e rv ru k' => ⟨(D.lst xs).py, y.py, rv.dp e hx.1, ru.dp e hy.1, hx.py, hy.py, k' _ (by rw [← hk]; exact .bl _)⟩) (nomark _) hd hcd
theorem Rs.forget {F H : Hp} {σ : L2.St} {i : Nat} (R : Rs F H σ δ) (hi : ∀ xs, δ[i]? ≠ some (.ow xs)) : Rs F H σ (δ.set i .un) := by
  have key : ∀ {k : Nat} {xs : List D}, (δ.set i .un)[k]? = some (.ow xs) → δ[k]? = some (.ow xs) := fun {k xs} h => by
    by_cases z : i = k
    · subst z
      by_cases hl : i < δ.length
      · rw [List.getElem?_set_self hl] at h; cases h
      · rw [List.getElem?_eq_none (by rw [List.length_set]; omega)] at h; cases h
    · rw [List.getElem?_set_ne z] at h; exact h
  refine ⟨R.sub, by rw [List.length_set]; exact R.len, fun k x h => ?_, fun k j xs ys o hkj h1 h2 => R.ap k j xs ys o hkj (key h1) (key h2), R.tb, R.nt⟩
  by_cases z : i = k
  · subst z
    by_cases hl : i < δ.length
    · rw [List.getElem?_set_self hl] at h
      cases h
      exact ⟨_, List.getElem?_eq_getElem (by rw [R.len]; exact hl), trivial⟩
    · rw [List.getElem?_eq_none (by rw [List.length_set]; omega)] at h; cases h
  · rw [List.getElem?_set_ne z] at h; exact R.at_ k x h
theorem own_forget {σ : L2.St} {i : Nat} (hi : ∀ xs, δ[i]? ≠ some (.ow xs)) {a : Addr} : Own σ (δ.set i .un) a ↔ Own σ δ a := by
  constructor
  · rintro ⟨k, xs, h1, h2⟩
    by_cases z : i = k
    · subst z
      by_cases hl : i < δ.length
      · rw [List.getElem?_set_self hl] at h1; cases h1
      · rw [List.getElem?_eq_none (by rw [List.length_set]; omega)] at h1; cases h1
    · rw [List.getElem?_set_ne z] at h1; exact ⟨k, xs, h1, h2⟩
  · rintro ⟨k, xs, h1, h2⟩
    have z : i ≠ k := fun z => by subst z; exact hi xs h1
    exact ⟨k, xs, by rw [List.getElem?_set_ne z]; exact h1, h2⟩
/-- the frame is known less well -/
theorem dss_forget {i : Nat} {sts : List Stmt} {o : Out} (hi : ∀ xs, δ[i]? ≠ some (.ow xs)) (h : DSs X pn (δ.set i .un) sts o) : DSs X pn δ sts o := h.imp fun D σ H ⟨F, R, k⟩ => by
  refine ⟨F, R.forget hi, ?_⟩
  have ow : Own σ (δ.set i .un) = Own σ δ := funext fun a => propext (own_forget hi)
  have af : ∀ {σ' : L2.St} {δ' : List DV} {F' H' : Hp}, Aft pn σ (δ.set i .un) F H σ' δ' F' H' → Aft pn σ δ F H σ' δ' F' H' := fun A => ⟨ow ▸ A.go, A.rs, A.pin⟩
  cases o with
  | nx δ' => exact fun σ' F' H' A => k σ' F' H' (af A)
  | rt r δ' => exact fun v σ' F' H' A q => k v σ' F' H' (af A) (ow ▸ q)
  | bk δ' => exact fun σ' F' H' A => k σ' F' H' (af A)
  | ct δ' => exact fun σ' F' H' A => k σ' F' H' (af A)
  | ex C d => exact fun dx v σ' δ' F' H' A => k dx v σ' δ' F' H' (af A)
end
end DL
end
section
set_option Elab.async false
set_option linter.all false
set_option maxRecDepth 100000
set_option maxHeartbeats 2000000
/-! DLq: frames known by what is true of them. -/
namespace DL
open PySem PySem.Spec PyProof.Rows L2
variable [TL]
section
variable {X : Cx} {pn : List Nat} {δ δ1 δ2 δ' δ'' : List DV} {tg iter : Expr} {pos : Pos} {body rest sts : List Stmt} {st : Stmt} {items : List D} {o : Out} {Q : Out → Prop}
/-- some statements come to an end of which Q is true -/
def DQ (X : Cx) (pn : List Nat) (δ : List DV) (sts : List Stmt) (Q : Out → Prop) : Prop := ∃ o, DSs X pn δ sts o ∧ Q o
theorem dq_nil (h : Q (.nx δ)) : DQ X pn δ [] Q := ⟨_, dss_nil, h⟩
theorem dq_cons (h1 : DS X pn δ st (.nx δ1)) (h2 : DQ X pn δ1 rest Q) : DQ X pn δ (st :: rest) Q := let ⟨o, a, b⟩ := h2; ⟨o, dss_cons h1 a, b⟩
theorem dq_of (h : DSs X pn δ sts o) (q : Q o) : DQ X pn δ sts Q := ⟨o, h, q⟩
/-- the last statement is not left -/
theorem dq_stop (h : DS X pn δ st o) (ho : ∀ δ', o ≠ .nx δ') (q : Q o) : DQ X pn δ (st :: rest) Q := ⟨o, dss_stop h ho, q⟩
/-- a loop by an invariant on frames -/
theorem ds_forI {Iv : Nat → List DV → Prop} (hp : PassesOwn (model X.prog X.w) X.A X.env X.xe) (hc : X.calm = true) (hi : DI X δ tg iter items δ1) (h0 : Iv 0 δ1)
    (hs : ∀ j d δ, j < items.length → items[j]? = some d → Iv j δ → ∃ t, DG X pn tg d δ t ∧ DQ X pn t body fun o => ∃ δ', o = .nx δ' ∧ Iv (j + 1) δ')
    (hf : ∀ x, foldedSetIterable iter X.env x = pure x := by intro _; rfl) : ∃ δ', DS X pn δ (.For tg iter body [] pos) (.nx δ') ∧ Iv items.length δ' := by
  have step : ∀ (j : Nat) (δ : List DV), ∃ p : List DV × List DV, ∀ d, j < items.length → items[j]? = some d → Iv j δ → DG X pn tg d δ p.1 ∧ DSs X pn p.1 body (.nx p.2) ∧ Iv (j + 1) p.2 := fun j δ => by
    by_cases hj : j < items.length
    · by_cases hv : Iv j δ
      · obtain ⟨t, h1, o, h2, δ', rfl, h3⟩ := hs j _ δ hj (List.getElem?_eq_getElem hj) hv
        refine ⟨(t, δ'), fun d _ hd _ => ?_⟩
        rw [List.getElem?_eq_getElem hj] at hd
        cases hd
        exact ⟨h1, h2, h3⟩
      · exact ⟨([], []), fun _ _ _ h => absurd h hv⟩
    · exact ⟨([], []), fun _ h => absurd h hj⟩
  let nxt : Nat → List DV → List DV × List DV := fun j δ => Classical.choose (step j δ)
  have nx_ : ∀ j δ d, j < items.length → items[j]? = some d → Iv j δ → DG X pn tg d δ (nxt j δ).1 ∧ DSs X pn (nxt j δ).1 body (.nx (nxt j δ).2) ∧ Iv (j + 1) (nxt j δ).2 := fun j δ => Classical.choose_spec (step j δ)
  let fr : Nat → List DV := fun j => Nat.rec δ1 (fun j δ => (nxt j δ).2) j
  have frs : ∀ j, fr (j + 1) = (nxt j (fr j)).2 := fun j => rfl
  have iv : ∀ j, j ≤ items.length → Iv j (fr j) := fun j => by
    induction j with
    | zero => intro _; exact h0
    | succ j ih =>
      intro hj
      rw [frs]
      exact (nx_ j (fr j) _ (by omega) (List.getElem?_eq_getElem (by omega)) (ih (by omega))).2.2
  refine ⟨fr items.length, ds_for hp hc hi fr (fun j => (nxt j (fr j)).1) rfl (fun j d hd => ?_) (fun j d hj hd => ?_) hf, iv _ (Nat.le_refl _)⟩
  · have hj : j < items.length := (List.getElem?_eq_some_iff.mp hd).1
    exact (nx_ j (fr j) d hj hd (iv j (by omega))).1
  · rw [frs]
    exact (nx_ j (fr j) d hj hd (iv j (by omega))).2.1
/-- less is known of the frame -/
theorem Rs.drop {F H : Hp} {σ : L2.St} (R : Rs F H σ δ') (hl : δ''.length = δ'.length) (h : ∀ (i : Nat) (x : DV), δ''[i]? = some x → x = .un ∨ δ'[i]? = some x) : Rs F H σ δ'' := by
  have key : ∀ {k : Nat} {xs : List D}, δ''[k]? = some (.ow xs) → δ'[k]? = some (.ow xs) := fun {k xs} e => (h k _ e).resolve_left fun z => nomatch z
  refine ⟨R.sub, by rw [hl]; exact R.len, fun i x e => ?_, fun k j xs ys o hkj h1 h2 => R.ap k j xs ys o hkj (key h1) (key h2), R.tb, R.nt⟩
  rcases h i x e with rfl | q
  · have hi : i < σ.length := by rw [R.len, ← hl]; exact (List.getElem?_eq_some_iff.mp e).1
    exact ⟨_, List.getElem?_eq_getElem hi, trivial⟩
  · exact R.at_ i x q
theorem own_drop {σ : L2.St} (h : ∀ (i : Nat) (x : DV), δ''[i]? = some x → x = .un ∨ δ'[i]? = some x) {a : Addr} (q : Own σ δ'' a) : Own σ δ' a := by
  obtain ⟨i, xs, h1, h2⟩ := q
  exact ⟨i, xs, (h i _ h1).resolve_left (fun z => nomatch z), h2⟩
theorem dss_drop (hl : δ''.length = δ'.length) (h : ∀ (i : Nat) (x : DV), δ''[i]? = some x → x = .un ∨ δ'[i]? = some x) (hd : DSs X pn δ sts (.nx δ')) : DSs X pn δ sts (.nx δ'') := hd.imp fun D σ H ⟨F, R, k⟩ =>
  ⟨F, R, fun σ' F' H' A => k σ' F' H' ⟨⟨A.go.ff, A.go.keep, A.go.new, A.go.there, fun a q => A.go.own a (own_drop h q)⟩, A.rs.drop hl h, A.pin⟩⟩
theorem dq_drop (hl : δ''.length = δ'.length) (h : ∀ (i : Nat) (x : DV), δ''[i]? = some x → x = .un ∨ δ'[i]? = some x) (hd : DQ X pn δ sts fun o => o = .nx δ') : DQ X pn δ sts fun o => o = .nx δ'' := by
  obtain ⟨o, a, rfl⟩ := hd
  exact ⟨_, dss_drop hl h a, rfl⟩
end
end DL
end
section
set_option Elab.async false
set_option linter.all false
set_option maxRecDepth 100000
set_option maxHeartbeats 2000000
/-! DLo: a list that is lent as data, changed, lent again; lists of new lists; the loop over odd things. -/
namespace DL
open PySem PySem.Spec PyProof.Rows L2
/-- the list at p, known -/
def atP (p : Addr) (xs : List D) : Hp → V → Prop := fun F v => v = .ref p ∧ Rp F v (.lst xs)
/-- data that leans on no list -/
def D.free : D → Bool
  | .non => true
  | .bl _ => true
  | .int _ => true
  | .str _ => true
  | .fn _ => true
  | .exc _ (.fn _) => true
  | _ => false
def DV.free : DV → Bool
  | .un => true
  | .d x => x.free
  | .ow xs => xs.all D.free
  | .raw _ => true
  | .pr _ => false
theorem del_ex {F FB : Hp} {p : Addr} (e : Ex FB F) (h : FB p = none) : Ex FB (del F p) := fun a o q => by
  rw [del_ne (fun z => by rw [z, h] at q; cases q)]
  exact e a o q
theorem Rp.del {F : Hp} {p : Addr} {ws : List V} {v : V} {d : D} (r : Rp F v d) (hf : d.free = true) (hp : F p = some (.lst ws)) : Rp (del F p) v d := by
  cases r with
  | non => exact .non
  | bl b => exact .bl b
  | int i => exact .int i
  | str s => exact .str s
  | fn a => exact .fn a
  | exn _ => simp [D.free] at hf
  | @exc a dx C v d h1 h2 h3 =>
    cases h3 with
    | fn b =>
      have n1 : a ≠ p := fun z => by rw [z, hp] at h1; exact absurd (Option.some.inj h1) (fun w => by unfold exV at w; cases w)
      have n2 : dx ≠ p := fun z => by
        rcases h2 with h2 | h2
        · rw [z, hp] at h2; cases h2
        · rw [z, hp] at h2; exact absurd (Option.some.inj h2) (fun w => by unfold exd at w; cases w)
      exact .exc (by rw [del_ne n1]; exact h1) (h2.imp (fun q => by rw [del_ne n2]; exact q) (fun q => by rw [del_ne n2]; exact q)) (.fn b)
    | _ => simp [D.free] at hf
  | _ => simp [D.free] at hf
theorem RpA.del {F : Hp} {p : Addr} {ws : List V} (hp : F p = some (.lst ws)) : ∀ {vs : List V} {ds : List D}, RpA F vs ds → ds.all D.free = true → RpA (del F p) vs ds
  | _, _, .nil, _ => .nil
  | _, _, .cons r t, h => by
    simp only [List.all_cons, Bool.and_eq_true] at h
    exact .cons (r.del h.1 hp) (RpA.del hp t h.2)
variable [TL]
section
variable {F H FB : Hp} {σ : L2.St} {δ δ1 : List DV} {p : Addr} {ws : List V} {xs : List D} {i : Nat}
theorem get_set {α : Type} {l : List α} {i k : Nat} {x y : α} (h : (l.set i x)[k]? = some y) : (i = k ∧ y = x) ∨ (i ≠ k ∧ l[k]? = some y) := by
  by_cases z : i = k
  · subst z
    by_cases hl : i < l.length
    · rw [List.getElem?_set_self hl] at h; cases h; exact .inl ⟨rfl, rfl⟩
    · rw [List.getElem?_eq_none (by rw [List.length_set]; omega)] at h; cases h
  · rw [List.getElem?_set_ne z] at h; exact .inr ⟨z, h⟩
theorem own_set2 {x y : DV} (hx : ∀ xs, x ≠ .ow xs) (hy : ∀ xs, y ≠ .ow xs) {a : Addr} (h : Own σ (δ.set i x) a) : Own σ (δ.set i y) a := by
  obtain ⟨k, zs, h1, h2⟩ := h
  rcases get_set h1 with ⟨_, e⟩ | ⟨z, e⟩
  · exact absurd e.symm (hx zs)
  · exact ⟨k, zs, by rw [List.getElem?_set_ne z]; exact e, h2⟩
/-- the slot's list, in no one's hand, is lent as data -/
theorem Rs.lend (R : Rs FB H σ (δ.set i (.raw (.ref p)))) (hp : FB p = none) (hH : H p = some (.lst ws)) (ra : RpA FB ws xs) (no : ¬ Own σ (δ.set i (.raw (.ref p))) p) : Rs (upd FB p (.lst ws)) H σ (δ.set i (.pr (atP p xs))) := by
  refine ⟨fun a o e => ?_, by have := R.len; rw [List.length_set] at this ⊢; exact this, fun k x e => ?_, fun k j as bs o hkj h1 h2 => ?_, R.tb, nt_upd R.nt (fun _ h => nomatch h)⟩
  · by_cases z : a = p
    · subst z; rw [upd_same] at e; rw [hH, e]
    · rw [upd_ne z] at e; exact R.sub a o e
  · rcases get_set e with ⟨rfl, rfl⟩ | ⟨z, e⟩
    · have hl : i < δ.length := by have := (List.getElem?_eq_some_iff.mp e).1; rwa [List.length_set] at this
      obtain ⟨o, q1, q2⟩ := R.at_ i _ (List.getElem?_set_self hl)
      exact ⟨o, q1, .ref p, q2, fun F' ex => ⟨rfl, .lst (ex _ _ upd_same) (ra.ex ((Ex.new hp).trans ex))⟩⟩
    · obtain ⟨o, q1, q2⟩ := R.at_ k x (by rw [List.getElem?_set_ne z]; exact e)
      refine ⟨o, q1, ?_⟩
      cases x with
      | un => trivial
      | d x => obtain ⟨v, k1, k2⟩ := q2; exact ⟨v, k1, k2.ex (.new hp)⟩
      | raw v => exact q2
      | pr P => obtain ⟨v, k1, k2⟩ := q2; exact ⟨v, k1, fun F2 e => k2 F2 ((Ex.new hp).trans e)⟩
      | ow ys =>
        obtain ⟨b, us, k1, k2, k3, k4⟩ := q2
        have nb : b ≠ p := fun w => no ⟨k, ys, by rw [List.getElem?_set_ne z]; exact e, by rw [q1, k1, w]⟩
        exact ⟨b, us, k1, by rw [upd_ne nb]; exact k2, k3, k4.ex (.new hp)⟩
  · have key : ∀ {m : Nat} {zs : List D}, (δ.set i (.pr (atP p xs)))[m]? = some (.ow zs) → (δ.set i (.raw (.ref p)))[m]? = some (.ow zs) := fun {m zs} h => by
      rcases get_set h with ⟨_, e⟩ | ⟨z, e⟩
      · cases e
      · rw [List.getElem?_set_ne z]; exact e
    exact R.ap k j as bs o hkj (key h1) (key h2)
/-- it comes back: the other slots stand as they stood, or lean on no list -/
theorem Rs.back {F1 H1 H0 : Hp} {σ0 : L2.St} {δ0 : List DV} (R0 : Rs FB H0 σ0 (δ0.set i (.raw (.ref p)))) (hp : FB p = none) (R : Rs F1 H1 σ (δ1.set i (.pr (atP p xs)))) (e1 : Ex FB F1) (h1 : F1 p = some (.lst ws))
    (hs : ∀ (k : Nat) (x : DV), k ≠ i → δ1[k]? = some x → x.free = true ∨ ((∀ ys, x ≠ .ow ys) ∧ δ0[k]? = some x ∧ σ[k]? = σ0[k]?)) (hi : σ[i]? = some (some (.ref p))) : Rs (del F1 p) H1 σ (δ1.set i (.raw (.ref p))) := by
  refine ⟨fun a o e => ?_, by have := R.len; rw [List.length_set] at this ⊢; exact this, fun k x e => ?_, fun k j as bs o hkj q1 q2 => ?_, R.tb, fun a ps z => ?_⟩
  · by_cases z : a = p
    · subst z; rw [del_same] at e; cases e
    · rw [del_ne z] at e; exact R.sub a o e
  · rcases get_set e with ⟨rfl, rfl⟩ | ⟨z, e⟩
    · exact ⟨_, hi, rfl⟩
    · obtain ⟨o, q1, q2⟩ := R.at_ k x (by rw [List.getElem?_set_ne z]; exact e)
      refine ⟨o, q1, ?_⟩
      rcases hs k x (Ne.symm z) e with hf | ⟨no, h0, hσ⟩
      · cases x with
        | un => trivial
        | d x => obtain ⟨v, k1, k2⟩ := q2; exact ⟨v, k1, k2.del hf h1⟩
        | raw v => exact q2
        | pr P => cases hf
        | ow ys =>
          obtain ⟨b, us, k1, k2, k3, k4⟩ := q2
          exact ⟨b, us, k1, by by_cases w : b = p; · rw [w, del_same]
                               · rw [del_ne w]; exact k2, k3, k4.del h1 hf⟩
      · obtain ⟨o', w1, w2⟩ := R0.at_ k x (by rw [List.getElem?_set_ne z]; exact h0)
        rw [← hσ, q1] at w1
        cases w1
        cases x with
        | un => trivial
        | d x => obtain ⟨v, k1, k2⟩ := w2; exact ⟨v, k1, k2.ex (del_ex e1 hp)⟩
        | raw v => exact w2
        | pr P => obtain ⟨v, k1, k2⟩ := w2; exact ⟨v, k1, fun F2 e => k2 F2 ((del_ex e1 hp).trans e)⟩
        | ow ys => exact absurd rfl (no ys)
  · have key : ∀ {m : Nat} {zs : List D}, (δ1.set i (.raw (.ref p)))[m]? = some (.ow zs) → (δ1.set i (.pr (atP p xs)))[m]? = some (.ow zs) := fun {m zs} h => by
      rcases get_set h with ⟨_, e⟩ | ⟨z, e⟩
      · cases e
      · rw [List.getElem?_set_ne z]; exact e
    exact R.ap k j as bs o hkj (key q1) (key q2)
  · by_cases w : a = p
    · rw [w, del_same] at z; cases z
    · rw [del_ne w] at z; exact R.nt a ps z
/-- taken into the frame's own hand; out of it -/
theorem Rs.forget_raw (R : Rs F H σ (δ.set i (.ow xs))) (hi : i < δ.length) (hp : σ[i]? = some (some (.ref p))) : Rs F H σ (δ.set i (.raw (.ref p))) := by
  refine ⟨R.sub, by have := R.len; rw [List.length_set] at this ⊢; exact this, fun k x e => ?_, fun k j as bs o hkj q1 q2 => ?_, R.tb, R.nt⟩
  · rcases get_set e with ⟨rfl, rfl⟩ | ⟨z, e⟩
    · exact ⟨_, hp, rfl⟩
    · exact R.at_ k x (by rw [List.getElem?_set_ne z]; exact e)
  · have key : ∀ {m : Nat} {zs : List D}, (δ.set i (.raw (.ref p)))[m]? = some (.ow zs) → (δ.set i (.ow xs))[m]? = some (.ow zs) := fun {m zs} h => by
      rcases get_set h with ⟨_, e⟩ | ⟨z, e⟩
      · cases e
      · rw [List.getElem?_set_ne z]; exact e
    exact R.ap k j as bs o hkj (key q1) (key q2)
theorem Rs.take_ (R : Rs FB H σ (δ.set i (.raw (.ref p)))) (hi : i < δ.length) (hp : FB p = none) (hH : H p = some (.lst ws)) (ra : RpA FB ws xs) (no : ¬ Own σ (δ.set i (.raw (.ref p))) p) : Rs FB H σ (δ.set i (.ow xs)) := by
  have := R.setO (i := i) hp hH ra no
  rw [List.set_set] at this
  have e : σ.set i (some (.ref p)) = σ := by
    obtain ⟨o, q1, q2⟩ := R.at_ i _ (List.getElem?_set_self hi)
    have q2 : o = some (.ref p) := q2
    subst q2
    exact List.ext_getElem? fun k => by
      by_cases z : i = k
      · subst z; rw [List.getElem?_set_self (List.getElem?_eq_some_iff.mp q1).1, q1]
      · rw [List.getElem?_set_ne z]
  rw [e] at this
  exact this
theorem Rs.give (R : Rs F H σ (δ.set i (.ow xs))) (hi : i < δ.length) (hp : σ[i]? = some (some (.ref p))) : Rs F H σ (δ.set i (.raw (.ref p))) ∧ F p = none ∧ (∃ ws, H p = some (.lst ws) ∧ RpA F ws xs) ∧ ¬ Own σ (δ.set i (.raw (.ref p))) p := by
  obtain ⟨o, q1, b, us, k1, k2, k3, k4⟩ := R.at_ i _ (List.getElem?_set_self hi)
  rw [hp] at q1; cases q1; cases k1
  refine ⟨?_, k2, ⟨us, k3, k4⟩, fun ⟨k, zs, h1, h2⟩ => ?_⟩
  · have := R.forget_raw hi hp
    exact this
  · rcases get_set h1 with ⟨_, e⟩ | ⟨z, e⟩
    · cases e
    · exact R.ap i k xs zs _ z (List.getElem?_set_self hi) (by rw [List.getElem?_set_ne z]; exact e) hp h2
end
end DL
end
section
set_option Elab.async false
set_option linter.all false
set_option maxRecDepth 100000
set_option maxHeartbeats 2000000
/-! DLn: a turn over a list that is lent, changed, lent. -/
namespace DL
open PySem PySem.Spec PyProof.Rows L2
variable [TL]
section
variable {F H F1 H1 F' H' FB : Hp} {σ σ' : L2.St} {δ δ' δL : List DV} {p : Addr} {ws : List V} {xs ys : List D} {i c : Nat} {l : HO}
/-- the frame's lists and the one at p -/
def OO (σ : L2.St) (δ : List DV) (i : Nat) (p : Addr) (a : Addr) : Prop := Own σ (δ.set i (.raw (.ref p))) a ∨ a = p
theorem go_lend (g : Go (Own σ (δ.set i (.pr (atP p xs)))) (Own σ' (δ'.set i (.pr (atP p ys)))) (upd F p l) H F1 H1) (hp : F p = none) : Go (OO σ δ i p) (OO σ' δ' i p) F H (del F1 p) H1 := by
  have raw : ∀ {v : V} {ys : List D}, DV.raw v ≠ .ow ys := fun h => nomatch h
  have prn : ∀ {P : Hp → V → Prop} {ys : List D}, DV.pr P ≠ .ow ys := fun h => nomatch h
  refine ⟨del_ex ((Ex.new hp).trans g.ff) hp, fun a o h n nt => g.keep a o h (fun z => n (.inl (own_set2 (fun _ => prn) (fun _ => raw) z))) nt, fun a o h => ?_, g.there, fun a h => ?_⟩
  · by_cases z : a = p
    · exact .inr (.inr (.inr z))
    · rw [del_ne z] at h
      rcases g.new a o h with q | q | q
      · rw [upd_ne z] at q; exact .inl q
      · exact .inr (.inl q)
      · exact .inr (.inr (.inl (own_set2 (fun _ => prn) (fun _ => raw) q)))
  · rcases h with h | h
    · rcases g.own a (own_set2 (fun _ => raw) (fun _ => prn) h) with q | q
      · exact .inl (.inl (own_set2 (fun _ => prn) (fun _ => raw) q))
      · exact .inr q
    · exact .inl (.inr h)
theorem go_take (g : Go (Own σ (δ.set i (.ow xs))) (Own σ' (δ'.set i (.ow ys))) F H F' H') (hi : σ[i]? = some (some (.ref p))) (hi' : σ'[i]? = some (some (.ref p))) (hl : i < δ.length) (hl' : i < δ'.length) : Go (OO σ δ i p) (OO σ' δ' i p) F H F' H' := by
  have to : ∀ {σ : L2.St} {δ : List DV} {xs : List D} {a : Addr}, σ[i]? = some (some (.ref p)) → Own σ (δ.set i (.ow xs)) a → OO σ δ i p a := fun {σ δ xs a} hi ⟨k, zs, h1, h2⟩ => by
    rcases get_set h1 with ⟨rfl, _⟩ | ⟨z, e⟩
    · rw [hi] at h2; cases h2; exact .inr rfl
    · exact .inl ⟨k, zs, by rw [List.getElem?_set_ne z]; exact e, h2⟩
  have fro : ∀ {σ : L2.St} {δ : List DV} {xs : List D} {a : Addr}, σ[i]? = some (some (.ref p)) → i < δ.length → OO σ δ i p a → Own σ (δ.set i (.ow xs)) a := fun {σ δ xs a} hi hl h => by
    rcases h with ⟨k, zs, h1, h2⟩ | rfl
    · rcases get_set h1 with ⟨_, e⟩ | ⟨z, e⟩
      · cases e
      · exact ⟨k, zs, by rw [List.getElem?_set_ne z]; exact e, h2⟩
    · exact ⟨i, xs, List.getElem?_set_self hl, hi⟩
  exact ⟨g.ff, fun a o h n nt => g.keep a o h (fun z => n (to hi z)) nt, fun a o h => (g.new a o h).imp id (Or.imp id (to hi)), g.there, fun a h => (g.own a (fro hi' hl' h)).imp (to hi) id⟩
end
section
variable {X : Cx} {pn : List Nat} {δL : List DV} {xs xs' : List D} {i c : Nat} {C : Addr} {s1 s2 s3 s4 : Stmt}
theorem turn_list (hic : i ≠ c) (hi : i < δL.length) (hui : δL[i]? = some .un) (huc : δL[c]? = some .un) (hpn : ∀ k, k < δL.length → k ≠ c → k ∈ pn) (hfree : ∀ (k : Nat) (ys : List D), δL[k]? = some (DV.ow ys) → ys.all D.free = true)
    (h1 : ∀ p, DS X pn (δL.set i (.pr (atP p xs))) s1 (.nx ((δL.set c (.d (.exc C (.fn p)))).set i (.pr (atP p xs)))))
    (h2 : ∀ p, DS X pn ((δL.set c (.d (.exc C (.fn p)))).set i (.pr (atP p xs))) s2 (.nx ((δL.set c (.d (.exc C (.fn p)))).set i (.pr (atP p xs)))))
    (h3 : ∀ p, DS X pn ((δL.set c (.d (.exc C (.fn p)))).set i (.ow xs)) s3 (.nx ((δL.set c (.d (.exc C (.fn p)))).set i (.ow xs'))))
    (h4 : ∀ p, DS X pn ((δL.set c (.d (.exc C (.fn p)))).set i (.pr (atP p xs'))) s4 (.nx ((δL.set c (.d (.exc C (.fn p)))).set i (.pr (atP p xs'))))) (p : Addr) :
    PSs X [s1, s2, s3, s4] (fun D σ H => ∃ FB ws, Rs FB H σ (δL.set i (.raw (.ref p))) ∧ FB p = none ∧ H p = some (.lst ws) ∧ RpA FB ws xs ∧ ¬ Own σ (δL.set i (.raw (.ref p))) p ∧
      ∀ σ' F' H', Go (fun a => Own σ δL a ∨ a = p) (Own σ' δL) FB H F' H' → Rs F' H' σ' δL → (∀ k ∈ pn, σ'[k]? = σ[k]?) → D.nx σ' H') := by
  obtain ⟨δM, hM⟩ : ∃ δM, δM = δL.set c (.d (.exc C (.fn p))) := ⟨_, rfl⟩
  have h1 := h1 p; have h2 := h2 p; have h3 := h3 p; have h4 := h4 p
  rw [← hM] at h1 h2 h3 h4
  have lM : i < δM.length := by rw [hM, List.length_set]; exact hi
  have getM : ∀ {k : Nat} {x : DV}, δM[k]? = some x → x.free = true ∨ ((∀ ys, x ≠ .ow ys) ∧ δL[k]? = some x ∧ k ∈ pn) := fun {k x} e => by
    rw [hM] at e
    rcases get_set e with ⟨_, rfl⟩ | ⟨z, e⟩
    · exact .inl rfl
    · cases x with
      | ow ys => exact .inl (hfree k ys e)
      | _ => exact .inr ⟨fun _ h => (nomatch h), e, hpn k (List.getElem?_eq_some_iff.mp e).1 (Ne.symm z)⟩
  have getM2 : ∀ {k : Nat} {x : DV}, δM[k]? = some x → x.free = true ∨ ((∀ ys, x ≠ .ow ys) ∧ δM[k]? = some x ∧ k ∈ pn) := fun {k x} e => (getM e).imp id fun ⟨a, _, b⟩ => ⟨a, e, b⟩
  have owM : ∀ {σ σ' : L2.St} {a : Addr}, (∀ k ∈ pn, σ'[k]? = σ[k]?) → Own σ' (δM.set i (.raw (.ref p))) a → Own σ (δL.set i (.raw (.ref p))) a := fun {σ σ' a} hs ⟨k, zs, q1, q2⟩ => by
    rcases get_set q1 with ⟨_, e⟩ | ⟨z, e⟩
    · cases e
    · rw [hM] at e
      rcases get_set e with ⟨_, e⟩ | ⟨z2, e⟩
      · cases e
      · exact ⟨k, zs, by rw [List.getElem?_set_ne z]; exact e, by rw [← hs k (hpn k (List.getElem?_eq_some_iff.mp e).1 (Ne.symm z2))]; exact q2⟩
  refine (pss_cons h1 (pss_cons h2 (pss_cons h3 (pss_cons h4 pss_nil)))).imp fun D σ H ⟨FB, ws, R, hp, hH, ra, no, k⟩ => ?_
  have hσ : σ[i]? = some (some (.ref p)) := by
    obtain ⟨o, q1, q2⟩ := R.at_ i _ (List.getElem?_set_self hi)
    have q2 : o = some (.ref p) := q2
    rw [q1, q2]
  refine ⟨upd FB p (.lst ws), R.lend hp hH ra no, fun σ1 F1 H1 A1 => ⟨F1, A1.rs, fun σ2 F2 H2 A2 => ?_⟩⟩
  have A12 := A1.trans A2
  have hF2 : F2 p = some (.lst ws) := A12.go.ff _ _ upd_same
  have ex2 : Ex FB F2 := (Ex.new hp).trans A12.go.ff
  have hσ2 : σ2[i]? = some (some (.ref p)) := by rw [A12.pin i (hpn i hi hic), hσ]
  have R2 := Rs.back (δ0 := δL) (δ1 := δM) R hp A12.rs ex2 hF2 (fun k x hk e => (getM e).imp id fun ⟨a, b, m⟩ => ⟨a, b, A12.pin k m⟩) hσ2
  have no2 : ¬ Own σ2 (δM.set i (.raw (.ref p))) p := fun z => no (owM A12.pin z)
  have ra2 : RpA (del F2 p) ws xs := ra.ex (del_ex ex2 hp)
  refine ⟨del F2 p, R2.take_ lM del_same (A12.rs.sub _ _ hF2) ra2 no2, fun σ3 F3 H3 A3 => ?_⟩
  have hσ3 : σ3[i]? = some (some (.ref p)) := by rw [A3.pin i (hpn i hi hic), hσ2]
  obtain ⟨R3, hp3, ⟨ws3, hH3, ra3⟩, no3⟩ := A3.rs.give lM hσ3
  refine ⟨upd F3 p (.lst ws3), R3.lend hp3 hH3 ra3 no3, fun σ4 F4 H4 A4 => ?_⟩
  have hF4 : F4 p = some (.lst ws3) := A4.go.ff _ _ upd_same
  have ex4 : Ex F3 F4 := (Ex.new hp3).trans A4.go.ff
  have hσ4 : σ4[i]? = some (some (.ref p)) := by rw [A4.pin i (hpn i hi hic), hσ3]
  have R4 := Rs.back (δ0 := δM) (δ1 := δM) R3 hp3 A4.rs ex4 hF4 (fun k x hk e => (getM2 e).imp id fun ⟨a, b, m⟩ => ⟨a, b, A4.pin k m⟩) hσ4
  have G : Go (OO σ δL i p) (OO σ4 δM i p) FB H (del F4 p) H4 := (go_lend A12.go hp).trans ((go_take A3.go hσ2 hσ3 lM lM).trans (go_lend A4.go hp3))
  have low : ∀ {a : Addr}, Own σ (δL.set i (.raw (.ref p))) a → Own σ δL a := fun {a} ⟨k, zs, q1, q2⟩ => by
    rcases get_set q1 with ⟨_, e⟩ | ⟨z, e⟩
    · cases e
    · exact ⟨k, zs, e, q2⟩
  have up : ∀ {a : Addr}, Own σ4 δL a → Own σ4 (δM.set i (.raw (.ref p))) a := fun {a} ⟨k, zs, q1, q2⟩ => by
    have n1 : i ≠ k := fun z => by subst z; rw [hui] at q1; cases q1
    have n2 : c ≠ k := fun z => by subst z; rw [huc] at q1; cases q1
    exact ⟨k, zs, by rw [List.getElem?_set_ne n1, hM, List.getElem?_set_ne n2]; exact q1, q2⟩
  refine k σ4 (del F4 p) H4 ⟨G.ff, fun a o h n nt => G.keep a o h (fun z => n (z.imp low id)) nt, fun a o h => (G.new a o h).imp id (Or.imp id (Or.imp low id)), G.there, fun a h => (G.own a (.inl (up h))).imp (Or.imp low id) id⟩
    (R4.drop (by rw [hM, List.length_set, List.length_set]) fun k x e => ?_) fun k hk => ((A4.pin k hk).trans ((A3.pin k hk).trans (A12.pin k hk)))
  by_cases n1 : i = k
  · subst n1; rw [hui] at e; cases e; exact .inl rfl
  · by_cases n2 : c = k
    · subst n2; rw [huc] at e; cases e; exact .inl rfl
    · exact .inr (by rw [List.getElem?_set_ne n1, hM, List.getElem?_set_ne n2]; exact e)
end
end DL
end
section
set_option Elab.async false
set_option linter.all false
set_option maxRecDepth 100000
set_option maxHeartbeats 2000000
/-! DLm: displays of new lists; odds = [..]; for odd in odds + [..]: .. -/
namespace DL
open PySem PySem.Spec PyProof.Rows L2
variable [TL]
/-- a display's values: data, new lists, each apart from the other -/
structure RsR (F H : Hp) (O : Addr → Prop) (H0 : Hp) (O' : Addr → Prop) (vs : List V) (rs : List DV) : Prop where
  len : vs.length = rs.length
  at_ : ∀ (k : Nat) (v : V) (r : DV), vs[k]? = some v → rs[k]? = some r → Res F H O H0 O' v r
  apart : ∀ (k j : Nat) (xs ys : List D) (v : V), k ≠ j → rs[k]? = some (.ow xs) → rs[j]? = some (.ow ys) → vs[k]? = some v → vs[j]? ≠ some v
def tDR (δ : List DV) (rs : List DV) (δ' : List DV) : TA := fun σ H Q => ∃ F, Rs F H σ δ ∧ ∀ vs F' H', Go (Own σ δ) (Own σ δ') F H F' H' → Rs F' H' σ δ' → RsR F' H' (Own σ δ) H (Own σ δ') vs rs → Q vs H'
abbrev DR (X : Cx) (δ : List DV) (es : List Expr) (rs : List DV) (δ' : List DV) : Prop := PA X es (tDR δ rs δ')
section
variable {X : Cx} {δ δ1 δ2 : List DV} {e : Expr} {es : List Expr} {r : DV} {rs : List DV} {F H : Hp} {σ : L2.St}
theorem dr_nil : DR X δ [] [] δ := pa_nil.imp fun σ H Q ⟨F, R, k⟩ => k [] F H (.refl _ F H) R ⟨rfl, fun k v r h => by simp at h, fun k j xs ys v _ h => by simp at h⟩
theorem apart_ {O O' O1 : Addr → Prop} {F1 H1 F2 H2 H0 : Hp} {v w : V} {xs ys : List D} (h1 : Res F1 H1 O H0 O1 v (.ow xs)) (h2 : Res F2 H2 O1 H1 O' w (.ow ys)) : v ≠ w := by
  obtain ⟨p, us, rfl, a1, a2, a3, a4, a5⟩ := h1
  obtain ⟨q, ts, rfl, b1, b2, b3, b4, b5⟩ := h2
  intro e
  cases e
  rcases b5 with b5 | b5
  · exact b5.lst a2
  · exact a4 b5
theorem dr_cons (ha : DE X δ e r δ1) (hr : DR X δ1 es rs δ2) (hs : starEach (e :: es) X.env = (false, eval e X.env) :: starEach es X.env := by rfl) : DR X δ (e :: es) (r :: rs) δ2 := (pa_cons ha hr hs).imp fun σ H Q ⟨F, R, k⟩ => ⟨F, R, fun v F1 H1 g1 R1 r1 => ⟨F1, R1, fun vs F2 H2 g2 R2 rr => k _ F2 H2 (g1.trans g2) R2 (by
  refine ⟨by simp [rr.len], fun k w q h1 h2 => ?_, fun k j xs ys w hkj h1 h2 h3 h4 => ?_⟩
  · cases k with
    | zero => simp at h1 h2; subst h1 h2; exact Res.on (F := F) r1 g2
    | succ k => exact Res.back g1 (rr.at_ k w q (by simpa using h1) (by simpa using h2))
  · cases k with
    | zero =>
      cases j with
      | zero => exact hkj rfl
      | succ j2 =>
        simp at h1 h3
        subst h1 h3
        exact apart_ r1 (rr.at_ j2 _ _ (by simpa using h4) (by simpa using h2)) rfl
    | succ k2 =>
      cases j with
      | zero =>
        simp at h2 h4
        subst h2 h4
        exact apart_ r1 (rr.at_ k2 _ _ (by simpa using h3) (by simpa using h1)) rfl
      | succ j2 => exact rr.apart k2 j2 xs ys w (by omega) (by simpa using h1) (by simpa using h2) (by simpa using h3) (by simpa using h4))⟩⟩
theorem own_un {i : Nat} {v : Option V} (h : δ[i]? = some .un) : Own (σ.set i v) δ = Own σ δ := funext fun a => propext ⟨fun ⟨k, xs, h1, h2⟩ => by
  have n : i ≠ k := fun z => by subst z; rw [h] at h1; cases h1
  exact ⟨k, xs, h1, by rw [List.getElem?_set_ne n] at h2; exact h2⟩, fun ⟨k, xs, h1, h2⟩ => by
  have n : i ≠ k := fun z => by subst z; rw [h] at h1; cases h1
  exact ⟨k, xs, h1, by rw [List.getElem?_set_ne n]; exact h2⟩⟩
theorem set_un {i : Nat} (h : δ[i]? = some .un) : δ.set i .un = δ := List.ext_getElem? fun k => by
  by_cases z : i = k
  · subst z; rw [List.getElem?_set_self (List.getElem?_eq_some_iff.mp h).1, h]
  · rw [List.getElem?_set_ne z]
theorem Rs.set_un (R : Rs F H σ δ) {i : Nat} {v : Option V} (h : δ[i]? = some .un) : Rs F H (σ.set i v) δ := by
  have := R.set_ (i := i) (v := v) (x := .un) (fun _ h => nomatch h) trivial
  rwa [DL.set_un h] at this
theorem own_setd {i : Nat} {x : DV} (h : δ[i]? = some .un) (hx : ∀ xs, x ≠ .ow xs) : Own σ (δ.set i x) = Own σ δ := funext fun a => propext ⟨fun ⟨k, xs, h1, h2⟩ => by
  rcases get_set h1 with ⟨_, e⟩ | ⟨z, e⟩
  · exact absurd e.symm (hx xs)
  · exact ⟨k, xs, e, h2⟩, fun ⟨k, xs, h1, h2⟩ => by
  have n : i ≠ k := fun z => by subst z; rw [h] at h1; cases h1
  exact ⟨k, xs, by rw [List.getElem?_set_ne n]; exact h1, h2⟩⟩
/-- the turn over a list, as turn_list has it -/
def tTurn (pn : List Nat) (δL : List DV) (i : Nat) (p : Addr) (xs : List D) : TS := fun D σ H => ∃ FB ws, Rs FB H σ (δL.set i (.raw (.ref p))) ∧ FB p = none ∧ H p = some (.lst ws) ∧ RpA FB ws xs ∧ ¬ Own σ (δL.set i (.raw (.ref p))) p ∧
      ∀ σ' F' H', Go (fun a => Own σ δL a ∨ a = p) (Own σ' δL) FB H F' H' → Rs F' H' σ' δL → (∀ k ∈ pn, σ'[k]? = σ[k]?) → D.nx σ' H'
def tItem (X : Cx) (pn : List Nat) (δL : List DV) (i : Nat) (p : Addr) : DV → TS
  | .d e => tS X pn (δL.set i (.d e)) (.nx δL)
  | .ow xs => tTurn pn δL i p xs
  | _ => fun _ _ _ => False
theorem ds_odds {pn0 pn : List Nat} {a i : Nat} {na ni : Str} {es1 es2 : List Expr} {rs1 rs2 : List DV} {body rest : List Stmt} {o : Out} {q1 q2 q3 q4 q5 pos1 pos2 : Pos}
    (hp : PassesOwn (model X.prog X.w) X.A X.env X.xe) (hc : X.calm = true) (hN : X.N.Nodup) (ha : X.N[a]? = some na) (hla : X.env.scope.names.lookup na = some .local) (hi : X.N[i]? = some ni) (hxi : Loc X.env.scope ni) (hai : a ≠ i) (hua : δ[a]? = some .un) (hui : δ[i]? = some .un) (hpa : a ∉ pn0) (hpi : i ∉ pn0) (hpn : ∀ k ∈ pn0, k ∈ pn)
    (e1 : DR X δ es1 rs1 δ) (e2 : DR X δ es2 rs2 δ) (hk : ∀ r ∈ rs1 ++ rs2, (∃ e, r = .d e) ∨ ∃ xs, r = .ow xs) (hit : ∀ r ∈ rs1 ++ rs2, ∀ p, PSs X body (tItem X pn δ i p r)) (l1 : rs1.length + rs2.length ≤ sizeLine)
    (hrest : DSs X pn0 δ rest o)
    (hsw : swapsWith (.List es1 q1) (some (.Name na q2)) pos1.line X.env = pure false := by rfl) (hd : (na == ("__debug__" : Str)) = false := by decide) (hcd : (na == ("__classdict__" : Str)) = false := by decide)
    (hfi : X.fn ni = true ∨ X.env.scope.names.lookup ni = some .local := by first | exact .inl rfl | exact .inr rfl | assumption)
    (hs : ∀ x, foldedSetIterable (.BinOp (.Name na q3) .Add (.List es2 q4) q5) X.env x = pure x := by intro _; rfl) {q6 : Pos} :
    DSs X pn0 δ (.Assign [.Name na q2] (.List es1 q1) pos1 :: .For (.Name ni q6) (.BinOp (.Name na q3) .Add (.List es2 q4) q5) body [] pos2 :: rest) o := by
  have B : PSs X body (fun D σ H => ∃ q : { q : DV × Addr // q.1 ∈ rs1 ++ rs2 }, tItem X pn δ i q.1.2 q.1.1 D σ H) := pss_ex fun q => hit q.1.1 q.2 q.1.2
  refine (pss_cons (ps_set (i := a) hN ha (.inl hla) (pe_lst e1) hsw (.inr hla)) (pss_cons (ps_for hp hc (pi_list (pe_op op_cat (pe_var (i := a) ha (.inl hla) hd hcd) (pe_lst e2))) (pg_name (i := i) hN hi hxi hfi) B hs) hrest)).imp fun D σ H ⟨F, R, k⟩ => ?_
  refine ⟨F, R, fun vs1 F1 H1 g1 R1 rr1 => ⟨by rw [rr1.len]; omega, fun L0 hL0 => ?_⟩⟩
  have hF10 : F1 L0 = none := R1.sub.none hL0
  have la : a < σ.length := by rw [R.len]; exact (List.getElem?_eq_some_iff.mp hua).1
  have eO : Own (σ.set a (some (V.ref L0))) δ = Own σ δ := own_un hua
  have R1' : Rs (upd F1 L0 (.lst vs1)) (upd H1 L0 (.lst vs1)) (σ.set a (some (.ref L0))) δ := (R1.new (o := .lst vs1) hL0 (fun _ h => nomatch h)).set_un hua
  have gN : Go (Own σ δ) (Own σ δ) F1 H1 (upd F1 L0 (.lst vs1)) (upd H1 L0 (.lst vs1)) := Go.new_ hL0 hF10
  refine ⟨.ref L0, List.getElem?_set_self la, upd F1 L0 (.lst vs1), R1', fun vs2 F2 H2 g2 R2 rr2 => ⟨by rw [rr2.len]; omega, fun L1 hL1 => ?_⟩⟩
  rw [eO] at g2 rr2
  have hL0' : H2 L0 = some (.lst vs1) := R2.sub _ _ (g2.ff _ _ upd_same)
  have hL01 : L0 ≠ L1 := ne_of_none hL0' hL1
  refine ⟨L0, L1, vs1, vs2, rfl, rfl, by rw [upd_ne hL01]; exact hL0', upd_same, by rw [rr1.len, rr2.len]; exact l1, fun L hL => ⟨L, rfl, ⟨_, SqL.of upd_same⟩, ?_⟩⟩
  have hL2 : H2 L = none := by
    by_cases z : L = L1
    · rw [z, upd_same] at hL; cases hL
    · rw [upd_ne z] at hL; exact hL
  have R2' := R2.newH (o := .lst vs2) hL1
  have g3 : Go (Own σ δ) (Own σ δ) F2 H2 F2 (upd H2 L1 (.lst vs2)) := Go.newH hL1
  have R3 := R2'.new (o := .lst (vs1 ++ vs2)) hL (fun _ h => nomatch h)
  have g4 : Go (Own σ δ) (Own σ δ) F2 (upd H2 L1 (.lst vs2)) (upd F2 L (.lst (vs1 ++ vs2))) (upd (upd H2 L1 (.lst vs2)) L (.lst (vs1 ++ vs2))) := Go.new_ hL (R2'.sub.none hL)
  have gA := (gN.trans g2).trans (g3.trans g4)
  have gB := g3.trans g4
  have gF := g1.trans gA
  -- the items as they stand ahead of the loop
  have rr : RsR (upd F2 L (.lst (vs1 ++ vs2))) (upd (upd H2 L1 (.lst vs2)) L (.lst (vs1 ++ vs2))) (Own σ δ) H (Own σ δ) (vs1 ++ vs2) (rs1 ++ rs2) := by
    have split : ∀ {k : Nat} {v : V} {r : DV}, (vs1 ++ vs2)[k]? = some v → (rs1 ++ rs2)[k]? = some r → (k < rs1.length ∧ vs1[k]? = some v ∧ rs1[k]? = some r) ∨ (rs1.length ≤ k ∧ vs2[k - rs1.length]? = some v ∧ rs2[k - rs1.length]? = some r) := fun {k v r} h1 h2 => by
      by_cases z : k < rs1.length
      · rw [List.getElem?_append_left (by rw [rr1.len]; exact z)] at h1
        rw [List.getElem?_append_left z] at h2
        exact .inl ⟨z, h1, h2⟩
      · rw [List.getElem?_append_right (by rw [rr1.len]; omega), rr1.len] at h1
        rw [List.getElem?_append_right (by omega)] at h2
        exact .inr ⟨by omega, h1, h2⟩
    have one : ∀ {k : Nat} {v : V} {r : DV}, vs1[k]? = some v → rs1[k]? = some r → Res (upd F1 L0 (.lst vs1)) (upd H1 L0 (.lst vs1)) (Own σ δ) H (Own σ δ) v r := fun h1 h2 => Res.on (F := F) (rr1.at_ _ _ _ h1 h2) gN
    refine ⟨by simp [rr1.len, rr2.len], fun k v r h1 h2 => ?_, fun k j xs ys v hkj h1 h2 h3 h4 => ?_⟩
    · rcases split h1 h2 with ⟨_, a1, a2⟩ | ⟨_, a1, a2⟩
      · exact Res.on (F := F) (rr1.at_ _ _ _ a1 a2) gA
      · exact Res.on (F := F) (Res.back (g1.trans gN) (rr2.at_ _ _ _ a1 a2)) gB
    · rcases split h3 h1 with ⟨b1, a1, a2⟩ | ⟨b1, a1, a2⟩
      · rcases split h4 h2 with ⟨b3, a3, a4⟩ | ⟨b3, a3, a4⟩
        · exact rr1.apart k j xs ys v hkj a2 a4 a1 a3
        · exact apart_ (one a1 a2) (rr2.at_ _ _ _ a3 a4) rfl
      · rcases split h4 h2 with ⟨b3, a3, a4⟩ | ⟨b3, a3, a4⟩
        · exact apart_ (one a3 a4) (rr2.at_ _ _ _ a1 a2) rfl
        · exact rr2.apart _ _ xs ys v (by omega) a2 a4 a1 a3
  obtain ⟨vs, hvs⟩ : ∃ vs, vs = vs1 ++ vs2 := ⟨_, rfl⟩
  obtain ⟨rs, hrs⟩ : ∃ rs, rs = rs1 ++ rs2 := ⟨_, rfl⟩
  obtain ⟨F3, hF3⟩ : ∃ F3, F3 = upd F2 L (.lst vs) := ⟨_, rfl⟩
  obtain ⟨H3, hH3⟩ : ∃ H3, H3 = upd (upd H2 L1 (.lst vs2)) L (.lst vs) := ⟨_, rfl⟩
  have hFL : F3 L = some (.lst vs) := by rw [hF3, upd_same]
  rw [← hvs, ← hrs, ← hF3, ← hH3] at rr
  rw [← hvs, ← hF3, ← hH3] at gF R3
  rw [← hvs, ← hH3]
  have hil : i < σ.length := by rw [R.len]; exact (List.getElem?_eq_some_iff.mp hui).1
  refine for_list (K := X.K) (D := { nx := tS X pn0 δ o D, rt := D.rt, bk := D.bk, ct := D.ct }) (g := gName i) (tb := fun D σ H => ∃ q : { q : DV × Addr // q.1 ∈ rs1 ++ rs2 }, tItem X pn δ i q.1.2 q.1.1 D σ H) (a := L) (xs := vs) (fun j σj Hj => ∃ Fj, Rs Fj Hj σj δ ∧ Fj L = some (.lst vs) ∧ (∀ (k : Nat) (v : V) (r : DV), j ≤ k → vs[k]? = some v → rs[k]? = some r → Res Fj Hj (Own σ δ) H (Own σj δ) v r) ∧ Go (Own σ δ) (Own σj δ) F H Fj Hj ∧ (∀ k ∈ pn0, σj[k]? = σ[k]?) ∧ σj.length = σ.length)
    ⟨F3, R3, hFL, fun k v r _ h1 h2 => by rw [eO]; exact rr.at_ k v r h1 h2, by rw [eO]; exact gF, fun k hk => List.getElem?_set_ne (by rintro rfl; exact hpa hk), by rw [List.length_set]⟩
    (fun j σj Hj _ ⟨Fj, Rj, hl, _⟩ => SqL.of (Rj.sub _ _ hl)) ?_ ?_
  · rintro j v σj Hj hv ⟨Fj, Rj, hl, hr, hg, hpj, hlen⟩
    obtain ⟨r, hr1⟩ : ∃ r, rs[j]? = some r := by
      have : j < rs.length := by rw [← rr.len]; exact (List.getElem?_eq_some_iff.mp hv).1
      exact ⟨_, List.getElem?_eq_getElem this⟩
    have hres := hr j v r (Nat.le_refl _) hv hr1
    have hmem : r ∈ rs1 ++ rs2 := by rw [← hrs]; exact List.mem_of_getElem? hr1
    have ej : Own (σj.set i (some v)) δ = Own σj δ := own_un hui
    have pins : ∀ {σ5 : L2.St}, (∀ k ∈ pn, σ5[k]? = (σj.set i (some v))[k]?) → ∀ k ∈ pn0, σ5[k]? = σ[k]? := fun {σ5} h k hk => by
      rw [h k (hpn k hk), List.getElem?_set_ne (by rintro rfl; exact hpi hk), hpj k hk]
    cases r with
    | d e =>
      have hres : Rp Fj v e := hres
      have es : Own (σj.set i (some v)) (δ.set i (.d e)) = Own σj δ := by rw [own_setd (x := .d e) hui (fun _ h => nomatch h), ej]
      refine ⟨⟨(.d e, 0), hmem⟩, Fj, Rj.set_ (fun _ h => nomatch h) ⟨v, rfl, hres⟩, fun σ5 F5 H5 A5 => ?_⟩
      have g5 := A5.go
      rw [es] at g5
      exact ⟨F5, A5.rs, g5.ff _ _ hl, fun k w q hk h1 h2 => Res.on (F := F) (hr k w q (by omega) h1 h2) g5, hg.trans g5, pins A5.pin, by rw [A5.rs.len, ← Rj.len, hlen]⟩
    | ow xs =>
      obtain ⟨p, ws, rfl, f1, f2, f3, f4, f5⟩ := hres
      have er : Own (σj.set i (some (.ref p))) (δ.set i (.raw (.ref p))) = Own σj δ := by rw [own_setd (x := .raw (.ref p)) hui (fun _ h => nomatch h), ej]
      refine ⟨⟨(.ow xs, p), hmem⟩, Fj, ws, Rj.set_ (fun _ h => nomatch h) rfl, f1, f2, f3, by rw [er]; exact f4, fun σ5 F5 H5 G5 R5 p5 => ?_⟩
      rw [ej] at G5
      have gw : Go (Own σ δ) (fun a => Own σj δ a ∨ a = p) F H Fj Hj := ⟨hg.ff, hg.keep, hg.new, hg.there, fun a h => by
        rcases h with h | rfl
        · exact hg.own a h
        · exact f5.symm⟩
      refine ⟨F5, R5, G5.ff _ _ hl, fun k w q hk h1 h2 => ?_, gw.trans G5, pins p5, by rw [R5.len, ← Rj.len, hlen]⟩
      have old := hr k w q (by omega) h1 h2
      cases q with
      | un => trivial
      | d x => exact Rp.ex G5.ff old
      | raw x => exact old
      | pr P => exact fun F6 e6 => old F6 (G5.ff.trans e6)
      | ow ys =>
        obtain ⟨p', ws', rfl, c1, c2, c3, c4, c5⟩ := old
        have np : p' ≠ p := fun z => rr.apart j k xs ys (.ref p) (by omega) hr1 h2 hv (by rw [h1, z])
        have nO : ¬ (Own σj δ p' ∨ p' = p) := fun z => z.elim c4 np
        refine ⟨p', ws', rfl, ?_, G5.keep p' _ c2 nO (fun _ h => nomatch h), c3.ex G5.ff, fun z => (G5.own p' z).elim nO fun q => q.lst c2, c5⟩
        cases z : F5 p' with
        | none => rfl
        | some o5 =>
          rcases G5.new p' o5 z with w | w | w
          · rw [c1] at w; cases w
          · exact (w.lst c2).elim
          · exact absurd w nO
    | un => rcases hk _ hmem with ⟨e, h⟩ | ⟨xs, h⟩ <;> exact nomatch h
    | raw x => rcases hk _ hmem with ⟨e, h⟩ | ⟨xs, h⟩ <;> exact nomatch h
    | pr P => rcases hk _ hmem with ⟨e, h⟩ | ⟨xs, h⟩ <;> exact nomatch h
  · rintro σn Hn ⟨Fn, Rn, hl, _, hg, hpj, _⟩
    exact tS.back (D := D) ⟨hg, Rn, hpj⟩ k
end
end DL
end
section
set_option Elab.async false
set_option linter.all false
set_option maxRecDepth 100000
set_option maxHeartbeats 2000000
/-! DLk: a list lent for one statement; () + t. -/
namespace DL
open PySem PySem.Spec PyProof.Rows L2
variable [TL]
section
variable {X : Cx} {pn pn' : List Nat} {δ δ1 δ2 : List DV} {a b : Expr} {pos : Pos} {st : Stmt} {i : Nat} {xs ys : List D}
theorem de_catT0 (ha : DE X δ a (.d (.tup [])) δ1) (hb : DE X δ1 b (.d (.tup ys)) δ2) (hl : ys.length ≤ sizeLine) : DE X δ (.BinOp a .Add b pos) (.d (.tup ys)) δ2 := de_bin op_catA ha hb fun F H v u Q e rv ru k => by
  cases rv with
  | tup h1 r1 =>
    cases r1
    cases ru with
    | tup h2 r2 => exact ⟨_, _, _, _, rfl, rfl, SqT.of (e _ _ h1), SqT.of (e _ _ h2), by rw [r2.length]; simpa using hl, fun _ => k _ (.tup h2 r2), fun h => absurd rfl h, fun h => absurd rfl h⟩
theorem de_catTA (ha : DE X δ a (.d (.tup xs)) δ1) (hb : DE X δ1 b (.d (.tup ys)) δ2) (hl : xs.length + ys.length ≤ sizeLine) (hy : ys ≠ []) : DE X δ (.BinOp a .Add b pos) (.d (.tup (xs ++ ys))) δ2 := by
  by_cases h : xs = []
  · subst h
    exact de_catT0 ha hb (by simpa using hl)
  · exact de_catT ha hb hl h hy
theorem ds_borrow (i : Nat) (hi : i < δ.length) (hpn : ∀ k, k < δ.length → k ∈ pn') (hfree : ∀ (k : Nat) (ys : List D), k ≠ i → δ[k]? = some (.ow ys) → ys.all D.free = true) (h0 : δ[i]? = some (.ow xs))
    (h : ∀ p, DS X pn' (δ.set i (.pr (atP p xs))) st (.nx (δ.set i (.pr (atP p xs))))) : DS X pn δ st (.nx δ) := by
  refine ⟨fun pins s σ H D I ⟨F, R, k⟩ => ?_⟩
  have eδ : δ.set i (.ow xs) = δ := List.ext_getElem? fun k => by
    by_cases z : i = k
    · subst z; rw [List.getElem?_set_self hi, h0]
    · rw [List.getElem?_set_ne z]
  obtain ⟨o, hσ, p, vs, e1, e2, e3, e4⟩ := R.at_ i _ h0
  subst e1
  obtain ⟨R1, hp1, ⟨ws, hH1, ra1⟩, no1⟩ := Rs.give (xs := xs) (i := i) (eδ.symm ▸ R) hi hσ
  refine (h p).run pins s σ H D I ⟨upd F p (.lst ws), R1.lend hp1 hH1 ra1 no1, fun σ4 F4 H4 A4 => ?_⟩
  have hF4 : F4 p = some (.lst ws) := A4.go.ff _ _ upd_same
  have ex4 : Ex F F4 := (Ex.new hp1).trans A4.go.ff
  have same : ∀ k, σ4[k]? = σ[k]? := fun k => by
    by_cases z : k < δ.length
    · exact A4.pin k (hpn k z)
    · have l4 : σ4.length = δ.length := by have := A4.rs.len; rwa [List.length_set] at this
      rw [List.getElem?_eq_none (by omega), List.getElem?_eq_none (by rw [R.len]; omega)]
  have eσ : σ4 = σ := List.ext_getElem? same
  subst eσ
  have R4 := Rs.back (δ0 := δ) (δ1 := δ) R1 hp1 A4.rs ex4 hF4 (fun k x hk e => by
    cases x with
    | ow ys => exact .inl (hfree k ys hk e)
    | _ => exact .inr ⟨fun _ h => (nomatch h), e, rfl⟩) hσ
  have ra4 : RpA (del F4 p) ws xs := ra1.ex (del_ex ex4 hp1)
  have RT := R4.take_ hi del_same (A4.rs.sub _ _ hF4) ra4 no1
  have G0 := go_lend A4.go hp1
  refine k σ4 (del F4 p) H4 ⟨?_, eδ ▸ RT, fun _ _ => rfl⟩
  have OOo : ∀ {a : Addr}, OO σ4 δ i p a ↔ Own σ4 δ a := fun {a} => ⟨fun z => by
    rcases z with ⟨k, zs, h1, h2⟩ | rfl
    · rcases get_set h1 with ⟨_, e⟩ | ⟨z, e⟩
      · cases e
      · exact ⟨k, zs, e, h2⟩
    · exact ⟨i, xs, h0, hσ⟩, fun ⟨k, zs, h1, h2⟩ => by
    by_cases z : i = k
    · subst z
      rw [hσ] at h2
      cases h2
      exact .inr rfl
    · exact .inl ⟨k, zs, by rw [List.getElem?_set_ne z]; exact h1, h2⟩⟩
  exact ⟨G0.ff, fun a o h n nt => G0.keep a o h (fun z => n (OOo.mp z)) nt, fun a o h => (G0.new a o h).imp id (Or.imp id OOo.mp), G0.there, fun a h => (G0.own a (OOo.mpr h)).imp OOo.mp id⟩
end
end DL
end
section
set_option Elab.async false
set_option linter.all false
set_option maxRecDepth 100000
set_option maxHeartbeats 2000000
/-! DLj: less is known ahead; slots dropped. -/
namespace DL
open PySem PySem.Spec PyProof.Rows L2
variable [TL]
section
variable {X : Cx} {pn : List Nat} {δ δ' δ'' : List DV} {sts : List Stmt} {o : Out}
theorem Go.wk2 {O O2 O' : Addr → Prop} {F H F' H' : Hp} (g : Go O O' F H F' H') (h : ∀ a, O a → O2 a) : Go O2 O' F H F' H' :=
  ⟨g.ff, fun a o e n nt => g.keep a o e (fun z => n (h a z)) nt, fun a o e => (g.new a o e).imp id (Or.imp id (h a)), g.there, fun a e => (g.own a e).imp (h a) id⟩
theorem Res.wk {F' H' H : Hp} {O O2 O' : Addr → Prop} {v : V} {r : DV} (q : Res F' H' O H O' v r) (h : ∀ a, O a → O2 a) : Res F' H' O2 H O' v r := by
  cases r with
  | ow xs =>
    obtain ⟨p, vs, a1, a2, a3, a4, a5, a6⟩ := q
    exact ⟨p, vs, a1, a2, a3, a4, a5, a6.imp id (h p)⟩
  | un => trivial
  | d x => exact q
  | raw v => exact q
  | pr P => exact q
theorem Aft.wk {σ σ' : L2.St} {F H F' H' : Hp} (A : Aft pn σ δ'' F H σ' δ' F' H') (h : ∀ a, Own σ δ'' a → Own σ δ a) : Aft pn σ δ F H σ' δ' F' H' := ⟨A.go.wk2 h, A.rs, A.pin⟩
theorem dss_weak (hl : δ''.length = δ.length) (h : ∀ (i : Nat) (x : DV), δ''[i]? = some x → x = .un ∨ δ[i]? = some x) (hd : DSs X pn δ'' sts o) : DSs X pn δ sts o := hd.imp fun D σ H ⟨F, R, k⟩ => by
  have ow : ∀ a, Own σ δ'' a → Own σ δ a := fun a q => own_drop h q
  refine ⟨F, R.drop hl h, ?_⟩
  cases o with
  | nx δ1 => exact fun σ' F' H' A => k σ' F' H' (A.wk ow)
  | rt r δ1 => exact fun v σ' F' H' A q => k v σ' F' H' (A.wk ow) (q.wk ow)
  | bk δ1 => exact fun σ' F' H' A => k σ' F' H' (A.wk ow)
  | ct δ1 => exact fun σ' F' H' A => k σ' F' H' (A.wk ow)
  | ex C d => exact fun dx v σ' δ1 F' H' A => k dx v σ' δ1 F' H' (A.wk ow)
theorem un_set (i : Nat) : ∀ (k : Nat) (x : DV), (δ.set i .un)[k]? = some x → x = .un ∨ δ[k]? = some x := fun k x e => (get_set e).imp (·.2) (·.2)
/-- slot i is dropped behind, ahead -/
theorem dss_un (i : Nat) (h : DSs X pn δ sts (.nx δ')) : DSs X pn δ sts (.nx (δ'.set i .un)) := dss_drop (by rw [List.length_set]) (un_set i) h
theorem dss_unA (i : Nat) (h : DSs X pn (δ.set i .un) sts o) : DSs X pn δ sts o := dss_weak (by rw [List.length_set]) (un_set i) h
/-! ### slices -/
theorem cut_hi {xs : List D} {n : Nat} (h : n ≤ xs.length) : D.cut xs none (some (n : Int)) = xs.take n := by
  have : ¬ ((n : Int) < 0) := by omega
  unfold D.cut HT.sIx
  simp [this, Nat.min_eq_left h]
theorem cut_lo {xs : List D} {n : Nat} (h : n ≤ xs.length) : D.cut xs (some (n : Int)) none = xs.drop n := by
  unfold D.cut HT.sIx
  simp
  have : min n xs.length = n := by omega
  rw [this]
  exact List.take_of_length_le (by simp)
end
end DL
end
section
set_option Elab.async false
set_option linter.all false
set_option maxRecDepth 100000
set_option maxHeartbeats 2000000
/-! DLi: a slot's own list frozen; name = [elt for n in iter]. -/
namespace DL
open PySem PySem.Spec PyProof.Rows L2
variable [TL]
section
variable {X : Cx} {pn : List Nat} {δ δ' δ1 : List DV} {sts : List Stmt} {o : Out} {F H : Hp} {σ : L2.St} {xs items : List D} {p : Addr} {i : Nat}
theorem Rs.prD (R : Rs F H σ (δ.set i (.pr (atP p xs)))) : Rs F H σ (δ.set i (.d (.lst xs))) := by
  refine ⟨R.sub, by have := R.len; rw [List.length_set] at this ⊢; exact this, fun k x e => ?_, fun k j as bs o hkj q1 q2 => ?_, R.tb, R.nt⟩
  · rcases get_set e with ⟨rfl, rfl⟩ | ⟨z, e⟩
    · have hl : i < δ.length := by have := (List.getElem?_eq_some_iff.mp e).1; rwa [List.length_set] at this
      obtain ⟨o, q1, v, q2, q3⟩ := R.at_ i _ (List.getElem?_set_self hl)
      exact ⟨o, q1, v, q2, (q3 F (.refl F)).2⟩
    · exact R.at_ k x (by rw [List.getElem?_set_ne z]; exact e)
  · have key : ∀ {m : Nat} {zs : List D}, (δ.set i (.d (.lst xs)))[m]? = some (.ow zs) → (δ.set i (.pr (atP p xs)))[m]? = some (.ow zs) := fun {m zs} h => by
      rcases get_set h with ⟨_, e⟩ | ⟨z, e⟩
      · cases e
      · rw [List.getElem?_set_ne z]; exact e
    exact R.ap k j as bs o hkj (key q1) (key q2)
theorem dss_frz (i : Nat) (h0 : δ[i]? = some (.ow xs)) (h : DSs X pn (δ.set i (.d (.lst xs))) sts o) : DSs X pn δ sts o := h.imp fun D σ H ⟨F, R, k⟩ => by
  have hi : i < δ.length := (List.getElem?_eq_some_iff.mp h0).1
  have eδ : δ.set i (.ow xs) = δ := List.ext_getElem? fun k => by
    by_cases z : i = k
    · subst z; rw [List.getElem?_set_self hi, h0]
    · rw [List.getElem?_set_ne z]
  obtain ⟨o', hσ, p, vs, e1, e2, e3, e4⟩ := R.at_ i _ h0
  subst e1
  obtain ⟨R1, hp1, ⟨ws, hH1, ra1⟩, no1⟩ := Rs.give (xs := xs) (i := i) (eδ.symm ▸ R) hi hσ
  have R2 := (R1.lend hp1 hH1 ra1 no1).prD
  refine tS.back (D := D) ⟨⟨.new hp1, fun _ _ h _ _ => h, fun a o e => ?_, fun _ h => h, fun a q => .inl ?_⟩, R2, fun _ _ => rfl⟩ k
  · by_cases z : a = p
    · subst z; exact .inr (.inr ⟨i, xs, h0, hσ⟩)
    · rw [upd_ne z] at e; exact .inl e
  · obtain ⟨k, zs, h1, h2⟩ := q
    rcases get_set h1 with ⟨_, e⟩ | ⟨z, e⟩
    · cases e
    · exact ⟨k, zs, e, h2⟩
variable {elt iter : Expr} {n : Str} {p0 pos : Pos} {f : D → D}
/-- y = [elt for n in iter] -/
theorem ds_setM {scope : Scope} {l : Nat} {y : Str} {py spos : Pos} (i : Nat) (hy : X.N[l]? = some y) (hyl : X.env.scope.names.lookup y = some .local) (hp : l ∉ pn) (hsw : swapsWith (.ListComp elt [⟨.Name n p0, iter, [], 0⟩] scope pos) (some (.Name y py)) spos.line X.env = pure true)
    (hc : X.calm = true) (hN : X.N.Nodup) (hi : DI X δ (.Name n p0) iter items δ1) (ok : BlkOk X.N X.env.scope scope [(n, i)]) (hX : X.N[i]? = some n) (hu : δ1[i]? = some .un) (hloc : ∀ (s : Shared) (H : Hp) (C : Addr) (cl : List (Str × Addr)) (fp : List Addr), Loc (X.blk s H scope (compEnvC scope cl C X.env) fp).env.scope n)
    (hfl : ∀ (s : Shared) (H : Hp) (C : Addr) (cl : List (Str × Addr)) (fp : List Addr), (X.blk s H scope (compEnvC scope cl C X.env) fp).fn n = true ∨ (X.blk s H scope (compEnvC scope cl C X.env) fp).env.scope.names.lookup n = some .local)
    (he : ∀ (s : Shared) (H : Hp) (C : Addr) (cl : List (Str × Addr)) (fp : List Addr) (d : D), d ∈ items → DE (X.blk s H scope (compEnvC scope cl C X.env) fp) (δ1.set i (.d d)) elt (.d (f d)) (δ1.set i (.d d)))
    (hsz : items.length < sizeLine) (hs : ∀ x, foldedSetIterable iter X.env x = pure x := by intro _; rfl) :
    DS X pn δ (.Assign [.Name y py] (.ListComp elt [⟨.Name n p0, iter, [], 0⟩] scope pos) spos) (.nx (δ1.set l (.ow (items.map f)))) := by
  rw [← took_map f]
  have hil : i < δ1.length := (List.getElem?_eq_some_iff.mp hu).1
  refine ds_setLc_ (own := [(n, i)]) hy hyl hp hsw hc hN hi ok (fun _ => δ1.set i .un) (fun j => δ1.set i (.d (items.getD j .non))) (fun j => δ1.set i (.d (items.getD j .non))) (fun j => δ1.set i (.d (items.getD j .non))) (fun _ => true) (fun j => f (items.getD j .non)) rfl (fun j => by rw [List.length_set])
    (fun s H C cl fp j d e => ?_) (fun s H C cl fp j d e => pts_yes) (fun s H C cl fp j d e hb => ?_) (fun j _ => ?_) hsz (fun v hv xs => ?_) (unw_one hu) hs
  · have := dg_name (X := X.blk s H scope (compEnvC scope cl C X.env) fp) (pn := pnv δ1.length [i]) (δ := δ1.set i .un) (x := d) (pos := p0) hN hX (hloc s H C cl fp) (fun z => by have := (mem_pnv.mp z).2; simp at this) (hfl s H C cl fp)
    rw [List.set_set] at this
    rw [getD_of e]
    exact this
  · rw [getD_of e]
    exact he s H C cl fp d (List.mem_of_getElem? e)
  · show wipeD (if true = true then _ else _) _ = _
    rw [if_pos rfl]
    simp [wipeD, List.set_set]
  · have : v = i := by simpa using hv
    subst this
    rw [hu]
    exact fun h => nomatch (Option.some.inj h)
/-- tg = e, e a tuple that is not split -/
theorem ds_asgD {tg e : Expr} {d : D} {δ2 : List DV} (he : DE X δ e (.d d) δ1) (hg : DG X pn tg d δ1 δ2) (hs : swapsWithSole [tg] e pos.line X.env = pure false := by rfl) (hw : swappedStores [tg] e X.env = pure none := by rfl) (h1 : List.map (fun x => x.snd) (assignEach [tg] X.env) = [assign tg X.env] := by rfl) : DS X pn δ (.Assign [tg] e pos) (.nx δ2) :=
  (ps_asg he hg hs hw h1).imp fun D σ H ⟨F, R, k⟩ => ⟨F, R, fun v F1 H1 g R1 r => ⟨F1, R1, r, fun σ' A => k σ' F1 H1 ((aft_of g R1).trans A)⟩⟩
theorem dg_three {x y z : D} {p1 p2 p3 : Pos} {i j l : Nat} {n m o : Str} {kk : Nat} (hc : X.calm = true) (hN : X.N.Nodup) (hi : X.N[i]? = some n) (hx : Loc X.env.scope n) (hj : X.N[j]? = some m) (hy : Loc X.env.scope m) (hl : X.N[l]? = some o) (hz : Loc X.env.scope o) (hp : i ∉ pn) (hq : j ∉ pn) (hr : l ∉ pn)
    (hf : X.fn n = true ∨ X.env.scope.names.lookup n = some .local := by first | exact .inl rfl | exact .inr rfl | assumption) (hf2 : X.fn m = true ∨ X.env.scope.names.lookup m = some .local := by first | exact .inl rfl | exact .inr rfl | assumption) (hf3 : X.fn o = true ∨ X.env.scope.names.lookup o = some .local := by first | exact .inl rfl | exact .inr rfl | assumption)
    (g0 : (assignEach [Expr.Name o p3] X.env).map (·.2) = assign (.Name o p3) X.env :: (assignEach [] X.env).map (·.2) := by rfl)
    (g1 : (assignEach [Expr.Name m p2, .Name o p3] X.env).map (·.2) = assign (.Name m p2) X.env :: (assignEach [.Name o p3] X.env).map (·.2) := by rfl)
    (g2 : (assignEach [Expr.Name n p1, .Name m p2, .Name o p3] X.env).map (·.2) = assign (.Name n p1) X.env :: (assignEach [.Name m p2, .Name o p3] X.env).map (·.2) := by rfl)
    (g3 : (assignEach [Expr.Name n p1, .Name m p2, .Name o p3] X.env).length = 3 := by rfl) (g4 : (assignEach [Expr.Name n p1, .Name m p2, .Name o p3] X.env).findIdx? (·.1) = none := by rfl) :
    DG X pn (.Tuple [.Name n p1, .Name m p2, .Name o p3] kk pos) (.tup [x, y, z]) δ (((δ.set i (.d x)).set j (.d y)).set l (.d z)) :=
  (pg_tup hc (pgs_cons (pg_name (i := i) hN hi hx hf) (pgs_cons (pg_name (i := j) hN hj hy hf2) (pgs_cons (pg_name (i := l) hN hl hz hf3) pgs_nil g0) g1) g2) g3 g4).imp fun v σ H Q ⟨F, R, r, k⟩ => by
    cases r with
    | tup h1 ra =>
      cases ra with
      | cons r1 ra =>
        cases ra with
        | cons r2 ra =>
          cases ra with
          | cons r3 ra =>
            cases ra
            have A1 := Aft.set_ (pn := pn) (i := i) (v := some _) (x := .d x) R (fun _ h => nomatch h) ⟨_, rfl, r1⟩ hp
            have A2 := Aft.set_ (pn := pn) (i := j) (v := some _) (x := .d y) A1.rs (fun _ h => nomatch h) ⟨_, rfl, r2⟩ hq
            have A3 := Aft.set_ (pn := pn) (i := l) (v := some _) (x := .d z) A2.rs (fun _ h => nomatch h) ⟨_, rfl, r3⟩ hr
            exact ⟨_, _, rfl, SqT.of (R.sub _ _ h1), rfl, _, _, rfl, _, _, rfl, _, _, rfl, rfl, k _ (A1.trans (A2.trans A3))⟩
end
end DL
end
section
set_option Elab.async false
set_option linter.all false
set_option maxRecDepth 100000
set_option maxHeartbeats 2000000
/-! DLend: a def called from one place that is known (its guards are known: repr). -/
namespace DL
open PySem PySem.Spec PyProof.Rows L2
/-- a def's call from A0 alone: what F.ok tells of every place -/
theorem fn_at {CX : CXT} {P : Program} {w : World} {K : PySem.W.Frag} {mg : Str → Option Value} {base : Heap} {k : Nat} {f : Addr} {x qual : Str} {params : Arguments} {body : List Stmt} {scope : Scope} {dvs : List V} {kws : List (Str × V)} {fd : FuncData} {N ps : List Str}
    {A0 : Around} {outer : List Env} {s : Shared} {H : Hp} {args : Args} {us : List Value} {vs : List V} {Q : VK} {E : XK}
    (F : FunD K x qual params body scope dvs kws f fd) (S : FnScope N ps scope) (hr : Room (k + 1) A0) (e0 : Env0 P w K mg base A0 outer s H) (hb : BindsTo s fd args (ps.zip us)) (r : Vals vs us) (hl : vs.length = ps.length)
    (hbody : ∀ cdv, PySem.W.codeIn K cdv qual = true → (∃ fd0, K.lookup f = some fd0 ∧ fd0.data = .func fd ∧ fd.code = cdv) → Room k (A0.deeper (envOfC qual scope s.heap.objs.size f cdv)) → ∃ t, PSs (cxOf CX P w K mg base N qual scope f cdv A0 outer s H E) body t ∧ t { nx := fun _ H' => Q .non H', rt := Q } (start N vs) H) :
    codeAny (model P w) A0 (.call (.ref f) args) (CR CX outer P w H s Q E) s := by
  obtain ⟨oc, od, dV, kV, doc, pm, an, cdv, ct, osl, rfl, lk, hcd, _, _⟩ := F.ex
  have KX : K.In s.heap := e0.mod.kin.keeps fun b o e => (e0.bs b o e).1
  refine codeAny_call_function hr.depth (KX _ _ lk) rfl S.co S.gen rfl (PySem.W.codeRec_of KX hcd) (hb _ _ _ _ (wpAny_newFunctionEnv_cells S.kind (fun y hy => ?_) fun env he s1 z => ?_))
  · rcases S.par y.1 (List.of_mem_zip hy).1 with q | q
    · exact .inl q
    · exact .inr ⟨q, PySem.W.cellsFrom_some _ _ _ (.inl q)⟩
  · subst he
    have lim : s.heap.NoLimit := e0.mod.nolimit.keeps fun b o e => (e0.bs b o e).1
    refine ⟨lim.keeps z.toInCall.keep, codeAny_func ?_⟩
    obtain ⟨t, ht, hq⟩ := hbody cdv hcd ⟨_, lk, rfl, rfl⟩ (hr.deeper _)
    refine wpAny_mono (ht.run [] s1 (start N vs) H _ (inv_start S hr.hd e0 hl r z) hq) (fun fl s' hs => ?_) fun e s' hs => hs
    cases fl with
    | ret u => obtain ⟨v, σ', H', J, rv, q⟩ := hs; exact ⟨v, H', J.os, J.bare, J.base, J.hok, rv, q⟩
    | next => obtain ⟨σ', H', J, q⟩ := hs; exact ⟨.non, H', J.os, J.bare, J.base, J.hok, rfl, q⟩
    | brk => exact (hs.choose_spec.choose_spec.2 : False).elim
    | cont => exact (hs.choose_spec.choose_spec.2 : False).elim
/-- the heap tracked ahead of the law: tables, perhaps the script -/
def hp0 (fz : Option HO) (a : Addr) (T : List Addr) : Hp := fun b => if b ∈ T then some (.tbl #[]) else if b = a then fz else none
theorem hp0_T {fz : Option HO} {a b : Addr} {T : List Addr} (h : b ∈ T) : hp0 fz a T b = some (.tbl #[]) := if_pos h
theorem hp0_a {fz : Option HO} {a : Addr} {T : List Addr} (h : a ∉ T) : hp0 fz a T a = fz := by unfold hp0; rw [if_neg h, if_pos rfl]
theorem hp0_cases {fz : Option HO} {a b : Addr} {T : List Addr} {o : HO} (h : hp0 fz a T b = some o) : (b ∈ T ∧ o = .tbl #[]) ∨ (b = a ∧ fz = some o) := by
  unfold hp0 at h
  split at h
  · rename_i m; cases h; exact .inl ⟨m, rfl⟩
  · split at h
    · rename_i e; exact .inr ⟨e, h⟩
    · cases h
open LamX in
theorem law_at {P : Program} {w : World} {K : PySem.W.Frag} {mg mb : Str → Option Value} {CX : CXT} {fa a : Addr} {cs : List (Addr × Addr)} {s₁ : Shared} {vs : List Value} {ns : List Int}
    (KX : K.In s₁.heap) (hns : s₁.heap.Ns mainGlobals mg) (hb : s₁.heap.Ns builtinsNs mb) (hbb : ∀ x : Str, x ≠ "__name__" → mb x = bootBuiltins x) (hlim : s₁.heap.NoLimit) (hg : s₁.gens = #[])
    (hT : ∀ p ∈ cs, s₁.heap.get? p.2 = some { cls := .none, data := .fields #[] }) (nT : ∀ p ∈ cs, K.lookup p.2 = none) (C : ∀ p ∈ cs, PySem.W.CodeHd s₁.heap p.1 p.2)
    (hbm : ∃ (bm : Addr) (ob : Obj), mg "__builtins__" = some (.ref bm) ∧ bm ≠ builtinsNs ∧ s₁.heap.get? bm = some ob ∧ ob.cls = .type "module" ∧ ob.dict = some builtinsNs ∧ ob.data = .plain)
    (ha : s₁.heap.get? a = some { cls := .type "list", data := .seq vs.toArray }) (hi : IntsAre vs ns) (hl : ns.length ≤ sizeLine)
    (F : ∀ (base : Heap) (H : Hp), K.In base → base.Ns mainGlobals mg → (∀ p ∈ cs, TabB base mg p.1 p.2) → Env0 P w K mg base callerA [] s₁ H → (∀ p ∈ cs, H p.2 = some (.tbl #[])) → SqL K H a (ns.map V.int) →
      codeAny (model P w) callerA (.call (.ref fa) ⟨[.ref a], []⟩) (CR CX [] P w H s₁ (fun v _ => v = .bl true) fun _ _ _ => False) s₁)
    (hCX : ∀ H e s', CX [] H s₁ (fun _ _ _ => False) e s' → False) :
    codeAny (model P w) callerA (.call (.ref fa) ⟨[.ref a], []⟩) (fun r s' => r = .ok (.ret (.bool true)) ∧ OldK s₁.heap s'.heap ∧ s'.os = s₁.os ∧ AllBare s'.gens) s₁ := by
  obtain ⟨T, hTd⟩ : ∃ T, T = cs.map (·.2) := ⟨_, rfl⟩
  have isT : ∀ b : Addr, b ∈ T → ∃ p ∈ cs, p.2 = b := fun b hb => by rw [hTd] at hb; exact List.mem_map.mp hb
  have inT : ∀ p ∈ cs, p.2 ∈ T := fun p hp => by rw [hTd]; exact List.mem_map.mpr ⟨p, hp, rfl⟩
  have tabT : ∀ b : Addr, b ∈ T → s₁.heap.get? b = some { cls := .none, data := .fields #[] } := fun b hb => by obtain ⟨p, hp, e⟩ := isT b hb; rw [← e]; exact hT p hp
  have aT : a ∉ T := fun z => by
    have q := tabT a z
    rw [ha] at q
    injection q with q
    have q := congrArg Obj.data q
    cases q
  have rv := vals_ints hi
  have core : ∀ fz : Option HO, (∀ o, fz = some o → o = .frz { cls := .type "list", data := .seq vs.toArray } (.lst (ns.map V.int)) ∧ K.lookup a = none) → SqL K (hp0 fz a T) a (ns.map V.int) →
      codeAny (model P w) callerA (.call (.ref fa) ⟨[.ref a], []⟩) (fun r s' => r = .ok (.ret (.bool true)) ∧ OldK s₁.heap s'.heap ∧ s'.os = s₁.os ∧ AllBare s'.gens) s₁ := by
    intro fz hfz hS
    obtain ⟨H, hH⟩ : ∃ H, H = hp0 fz a T := ⟨_, rfl⟩
    rw [← hH] at hS
    have hC : ∀ {b : Addr} {o : HO}, H b = some o → (b ∈ T ∧ o = .tbl #[]) ∨ (b = a ∧ o = .frz { cls := .type "list", data := .seq vs.toArray } (.lst (ns.map V.int)) ∧ K.lookup a = none) := fun {b o} h => by
      rw [hH] at h
      exact (hp0_cases h).imp id fun q => ⟨q.1, hfz _ q.2⟩
    have hHT : ∀ p ∈ cs, H p.2 = some (.tbl #[]) := fun p hp => by rw [hH]; exact hp0_T (inT p hp)
    have hok : HOk P w H s₁.heap := fun b o e => by
      rcases hC e with ⟨m, rfl⟩ | ⟨rfl, rfl, _⟩
      · exact tabT b m
      · exact ⟨ha, by rw [List.length_map]; exact hl, vs, _, rv, ha⟩
    have out : ∀ {b : Addr} {o : Obj}, s₁.heap.get? b = some o → (∀ us n, o.data ≠ .seq us n) → o.data ≠ .fields #[] → H b = none := fun {b o} e h1 h2 => by
      cases q : H b with
      | none => rfl
      | some u =>
        rcases hC q with ⟨m, _⟩ | ⟨rfl, _, _⟩
        · rw [tabT b m] at e; cases e; exact absurd rfl h2
        · rw [ha] at e; cases e; exact absurd rfl (h1 _ _)
    have nsK : ∀ {b : Addr} {m : Str → Option Value}, s₁.heap.Ns b m → (hidT s₁.heap H).Ns b m := fun {b m} ⟨o, es, ep, e, d, r⟩ => ⟨o, es, ep, hidT_get e (out e (by rw [d]; exact fun _ _ z => nomatch z) (by rw [d]; exact fun z => nomatch z)), d, r⟩
    have KB : K.In (hidT s₁.heap H) := fun b o e => hidT_get (KX b o e) (by
      cases q : H b with
      | none => rfl
      | some u =>
        rcases hC q with ⟨m, _⟩ | ⟨rfl, _, z⟩
        · obtain ⟨p, hp, rfl⟩ := isT b m; rw [nT p hp] at e; cases e
        · rw [z] at e; cases e)
    have gT : ∀ b ∈ T, b ≠ mainGlobals := fun b hb z => by
      obtain ⟨o, es, ep, e, d, _⟩ := hns
      rw [← z, tabT b hb] at e
      cases e
      cases d
    have TB : ∀ p ∈ cs, TabB (hidT s₁.heap H) mg p.1 p.2 := fun p hp => by
      refine ⟨?_, ?_, (gT p.2 (inT p hp)).symm⟩
      · obtain ⟨o, us, file, tf, flags, tg, inF, text, tt, e1, r1, r2, r3, rest⟩ := C p hp
        exact ⟨o, us, file, tf, flags, tg, inF, text, tt, hidT_get e1 (out e1 (by rw [r2]; exact fun _ _ z => nomatch z) (fun z => by rw [r2] at z; injection z with z; subst z; simp at r3)), r1, r2, r3, rest⟩
      · obtain ⟨bm, ob, b1, b2, b3, b4, b5, b6⟩ := hbm
        have n1 : bm ≠ mainGlobals := fun q => by
          obtain ⟨o, es, ep, e, d, _⟩ := hns
          rw [← q, b3] at e
          cases e
          rw [b6] at d
          cases d
        have n2 : bm ≠ p.2 := fun q => by
          rw [q, hT p hp] at b3
          cases b3
          cases b6
        exact ⟨bm, ob, b1, b2, n1, n2, hidT_get b3 (out b3 (by rw [b6]; exact fun _ _ z => nomatch z) (by rw [b6]; exact fun z => nomatch z)), b4, b5, b6⟩
    have e0 : Env0 P w K mg (hidT s₁.heap H) callerA [] s₁ H := ⟨rfl, ⟨KB, nsK hns, ⟨mb, nsK hb, hbb⟩, let ⟨mc, h1, h2⟩ := hlim; ⟨mc, nsK h1, h2⟩⟩, fun b o e => of_hidT e, Nat.le_of_eq (hidT_size _ _), trivial, fun b hb => absurd (show b ∈ ([] : List Addr) from hb) (by simp), hok, .of_eq hg⟩
    refine codeAny_mono (F _ H KB (nsK hns) TB e0 hHT hS) fun r s' h => ?_
    cases r with
    | error e => exact (hCX H e s' h).elim
    | ok fl =>
      cases fl with
      | next => exact False.elim h
      | brk => exact False.elim h
      | cont => exact False.elim h
      | ret u =>
        obtain ⟨v, H', os, bare, un, hok', r', q⟩ := h
        have q : v = .bl true := q
        subst q
        have r' : u = Value.bool true := r'
        subst r'
        have kept : ∀ b o, b ∉ T → s₁.heap.get? b = some o → s'.heap.get? b = some o := fun b o nb e => by
          cases q : H b with
          | none => exact un.keep b o e q (fun z => absurd (show b ∈ ([] : List Addr) from z) (by simp)) (by simp)
          | some u =>
            rcases hC q with ⟨m, _⟩ | ⟨rfl, rfl, _⟩
            · exact absurd m nb
            · rw [ha] at e; cases e
              exact (hok' b _ (un.frzs b _ _ q)).1
        have tab : ∀ p ∈ cs, ∃ more : Array Value, s'.heap.get? p.2 = some { cls := .none, data := .fields more } := fun p hp => by
          obtain ⟨m, z⟩ := un.tbls p.2 #[] (hHT p hp)
          exact ⟨_, hok' p.2 _ z⟩
        refine ⟨rfl, ⟨fun b o e => ?_, fun b o e => ?_⟩, os, bare⟩
        · by_cases m : b ∈ T
          · obtain ⟨p, hp, rfl⟩ := isT b m
            obtain ⟨more, z⟩ := tab p hp
            rw [hT p hp] at e
            cases e
            exact .inr (.inl ⟨((C p hp).tab (hT p hp)).isCodeTable, rfl, #[], more, rfl, by rw [Array.empty_append]; exact z⟩)
          · exact .inl (kept b o m e)
        · by_cases m : b ∈ T
          · obtain ⟨p, hp, rfl⟩ := isT b m
            obtain ⟨more, z⟩ := tab p hp
            exact ⟨_, z⟩
          · exact ⟨o, kept b o m e⟩
  cases hk : K.lookup a with
  | some o =>
    have e := KX a o hk
    rw [ha] at e
    cases e
    exact core none (fun _ h => nomatch h) (.inr ⟨_, vs.toArray, _, hk, rfl, rfl, rfl, by rw [List.size_toArray, hi.length]; exact hl, by simpa using rv⟩)
  | none => exact core (some (.frz { cls := .type "list", data := .seq vs.toArray } (.lst (ns.map V.int)))) (fun o h => by cases h; exact ⟨rfl, hk⟩) (.inl (.inr ⟨_, hp0_a aT⟩))
end DL
end
section
set_option Elab.async false
set_option linter.all false
set_option maxRecDepth 100000
set_option maxHeartbeats 2000000
/-! DLerr: an error class of the text, checked; what is known of it. -/
namespace DX
open PySem PySem.Spec PyProof.Rows L2 PySem.DLX
def oexB (K : PySem.W.Frag) (C : Addr) : Bool := match K.lookup C with
  | some ⟨.type "type", _, .cls cd, sl⟩ => (match cd.mro, sl.toList with
    | .ref C' :: bm, [_, _, _, _, some (.builtin n), _] => C' == C && n == "ValueError.__new__" && !cd.hasDel && cd.hasDict && PySem.HandSPX.refsVE bm
    | _, _ => false)
  | _ => false
theorem oexB_ok {K : PySem.W.Frag} {C : Addr} (q : oexB K C = true) : ∃ nm q N bs bm sn sub ab col dd k0 k1 k2 k3 k5, K.lookup C = some (excClassObj nm q C N bs bm true sn sub ab col dd k0 k1 k2 k3 k5 "ValueError.__new__") ∧ PySem.HandSPX.refsVE bm = true := by
  unfold oexB at q
  split at q
  · rename_i dd cd sl ho
    split at q
    · rename_i C' bm k0 k1 k2 k3 n k5 hm hs
      simp only [Bool.and_eq_true, beq_iff_eq, Bool.not_eq_true'] at q
      obtain ⟨⟨⟨⟨rfl, rfl⟩, h1⟩, h2⟩, h3⟩ := q
      obtain ⟨nm, bs, mro, ns, qn, hd, sn, sub, ab, col, del⟩ := cd
      dsimp only at hm h1 h2
      subst hm h1 h2
      have hsl : sl = #[k0, k1, k2, k3, some (.builtin "ValueError.__new__"), k5] := Array.toList_inj.mp hs
      subst hsl
      exact ⟨_, _, _, _, _, _, _, _, _, _, _, _, _, _, _, ho, h3⟩
    · cases q
  · cases q
def bodyB : List Stmt → Bool
  | [.Expr (.Call (.Attribute (.Call (.Name s _) [] [] _) i p2) [] [] p3) _, .Assign [.Attribute (.Name se _) v _] (.Name v2 _) _] => s == "super" && i == "__init__" && se == "self" && v == "value" && v2 == "value" && (p2.endLine == p3.line)
  | _ => false
theorem bodyB_ok {b : List Stmt} (h : bodyB b = true) : ∃ p0 p1 p2 p3 p4 q1 q2 q3 q4, b = vB p0 p1 p2 p3 p4 q1 q2 q3 q4 ∧ (p2.endLine == p3.line) = true := by
  unfold bodyB at h
  split at h
  · simp only [Bool.and_eq_true] at h
    obtain ⟨⟨⟨⟨⟨h1, h2⟩, h3⟩, h4⟩, h5⟩, h6⟩ := h
    have h1 := eq_of_beq h1; have h2 := eq_of_beq h2; have h3 := eq_of_beq h3; have h4 := eq_of_beq h4; have h5 := eq_of_beq h5
    subst h1 h2 h3 h4 h5
    exact ⟨_, _, _, _, _, _, _, _, _, rfl, h6⟩
  · cases h
def parB : Arguments → Bool
  | ⟨[], [⟨s, none, _⟩, ⟨v, none, _⟩], none, [], [], none, [.Constant .none 0 _]⟩ => s == "self" && v == "value"
  | _ => false
theorem parB_ok {a : Arguments} (h : parB a = true) : ∃ p1 p2 p3, a = vA p1 p2 p3 := by
  unfold parB at h
  split at h
  · simp only [Bool.and_eq_true] at h
    have h1 := eq_of_beq h.1; have h2 := eq_of_beq h.2
    subst h1 h2
    exact ⟨_, _, _, rfl⟩
  · cases h
/-- the function at fI: its parts -/
def iniB (P : Program) (K : PySem.W.Frag) (x : Str) (C fI : Addr) : Bool := match K.lookup fI with
  | some ⟨_, _, .func ⟨nm, qn, pa, .stmts b, sc, g, [(cn, cc)], .ref Td, _, _, _, _, .ref cda, _, bu⟩, _⟩ =>
    nm == "__init__" && qn == x ++ ".__init__" && parB pa && bodyB b && decide (sc = vS) && g == mainGlobals && bu == builtinsNs && cn == "__class__" &&
      (match K.lookup Td with
        | some o => (match o.data with
          | .seq its _ => its.size == 1
          | _ => false)
        | none => false) &&
      PySem.W.codeIn K (.ref cda) (x ++ ".__init__") &&
      (match K.lookup cc with
        | some ⟨_, _, .cell (some v), _⟩ => v == .ref C
        | _ => false) &&
      (match K.lookup cda with
        | some ⟨_, _, .fields vs, _⟩ => (match (vs[2]? : Option Value) with
          | some (Value.str file _) => (P.main.file : Str) == file
          | _ => false)
        | _ => false)
  | _ => false
theorem iniB_ok {P : Program} {K : PySem.W.Frag} {x : Str} {C fI : Addr} (h : iniB P K x C fI = true) : ∃ (oc : Value) (od : Option Addr) (Td : Addr) (kV doc pm : Value) (an : Option Addr) (cda : Addr) (ct : Value) (cc : Addr) (osl : Array (Option Value)) (a1 a2 a3 p0 p1 p2 p3 p4 q1 q2 q3 q4 : Pos),
    K.lookup fI = some ⟨oc, od, .func (PySem.W.ksFn "__init__" (x ++ ".__init__") (vA a1 a2 a3) (vB p0 p1 p2 p3 p4 q1 q2 q3 q4) vS (.ref Td) kV doc pm an (.ref cda) ct cc), osl⟩ ∧ (∃ (o : Obj) (it : Value) (n : Nat), K.lookup Td = some o ∧ o.data = .seq #[it] n) ∧ PySem.W.codeIn K (.ref cda) (x ++ ".__init__") = true ∧ (p2.endLine == p3.line) = true ∧
    (∃ (cl : Value) (cld : Option Addr) (csl : Array (Option Value)), K.lookup cc = some ⟨cl, cld, .cell (some (.ref C)), csl⟩) ∧
    ∃ (ccl : Value) (cdd : Option Addr) (vs : Array Value) (ccs : Array (Option Value)) (file : Str) (tf : Tok), K.lookup cda = some ⟨ccl, cdd, .fields vs, ccs⟩ ∧ vs[2]? = some (.str file tf) ∧ ((P.main.file : Str) == file) = true := by
  unfold iniB at h
  split at h
  · rename_i oc od nm qn pa b sc g cn cc Td kV doc pm an cda ct bu osl hl
    simp only [Bool.and_eq_true, decide_eq_true_eq] at h
    obtain ⟨⟨⟨⟨⟨⟨⟨⟨⟨⟨⟨h1, h2⟩, h3⟩, h4⟩, h5⟩, h6⟩, h7⟩, h8⟩, h9⟩, h10⟩, h11⟩, h12⟩ := h
    have h1 := eq_of_beq h1; have h2 := eq_of_beq h2; have h6 := eq_of_beq h6; have h7 := eq_of_beq h7; have h8 := eq_of_beq h8
    obtain ⟨p0, p1, p2, p3, p4, q1, q2, q3, q4, e4, l4⟩ := bodyB_ok h4
    obtain ⟨a1, a2, a3, e3⟩ := parB_ok h3
    subst h1 h2 h5 h6 h7 h8 e4 e3
    refine ⟨oc, od, Td, kV, doc, pm, an, cda, ct, cc, osl, a1, a2, a3, p0, p1, p2, p3, p4, q1, q2, q3, q4, hl, ?_, h10, l4, ?_, ?_⟩
    · split at h9
      · rename_i o ho
        split at h9
        · rename_i its n hd
          have := eq_of_beq h9
          obtain ⟨it, hi⟩ := Array.size_eq_one_iff.mp this
          subst hi
          exact ⟨o, it, n, ho, hd⟩
        · cases h9
      · cases h9
    · split at h11
      · rename_i cl cld v csl ho
        have := eq_of_beq h11
        subst this
        exact ⟨_, _, _, ho⟩
      · cases h11
    · split at h12
      · rename_i ccl cdd vs ccs ho
        split at h12
        · rename_i file tf hv
          exact ⟨_, _, _, _, _, _, ho, hv, h12⟩
        · cases h12
      · cases h12
  · cases h
abbrev iniA (K : PySem.W.Frag) (x : Str) : Addr := He.ma K (He.ga K x) "__init__"
def errC (P : Program) (K : PySem.W.Frag) (x : Str) : Bool :=
  oexB K (He.ga K x) && He.eqO (PySem.W.findIn K (.ref (He.ga K x)) "__setattr__") (some (some (.builtin "object.__setattr__"))) && decide (PySem.W.subIn K (.ref (He.ga K x)) (.type "BaseException") = some true) && decide (PySem.W.typeIn K (.ref (He.ga K x)) = some (.type "type")) && PySem.W.keepIn K (.ref (He.ga K x))
    && He.eqO (PySem.W.findIn K (.ref (He.ga K x)) "__getattribute__") (some (some (.builtin "BaseException.__getattribute__"))) && He.eqO (PySem.W.findIn K (.ref (He.ga K x)) "__getattr__") (some none) && PySem.W.hasDictIn K (He.ga K x)
    && He.eqO (PySem.W.findIn K (.ref (He.ga K x)) "value") (some none) && He.eqO (PySem.W.findIn K (.ref (He.ga K x)) "__init__") (some (some (.ref (iniA K x)))) && decide (PySem.W.typeIn K (.ref (iniA K x)) = some (.type "function"))
    && PySem.W.excInitIn K (He.ga K x) veB "ValueError.__new__" && He.eqO (PySem.W.ks_superIn K (He.ga K x) (He.ga K x) "__init__") (some (some (.builtin "ValueError.__init__"))) && He.eqO (PySem.W.nsIn K cStatics "thirdparty.any") (some none)
    && decide (PySem.W.mroIn K (He.ga K x) (.ref (He.ga K x)) = some true) && decide (PySem.W.subIn K (.ref (He.ga K x)) (.type "ValueError") = some true) && He.eqO (PySem.W.findIn K (.ref (He.ga K x)) "__class__") (some (some (.builtin "object.__class__")))
    && He.eqO (PySem.W.specialIn K (.builtin "object.__class__") "__get__") (some (some (.builtin "getset_descriptor.__get__"))) && decide (PySem.W.takesIn K (.builtin "object.__class__") = some true) && decide (PySem.W.mroIn K (He.ga K x) (.type "object") = some true)
    && !(P.main.scope.names.lookup ("super" : Str)).isSome && iniB P K x (He.ga K x) (iniA K x)
theorem errC_ok {P : Program} {K : PySem.W.Frag} {x : Str} (h : errC P K x = true) : ErrT P K x (He.ga K x) (iniA K x) := by
  unfold errC at h
  simp only [Bool.and_eq_true, decide_eq_true_eq, Bool.not_eq_true'] at h
  obtain ⟨⟨⟨⟨⟨⟨⟨⟨⟨⟨⟨⟨⟨⟨⟨⟨⟨⟨⟨⟨⟨h1, h2⟩, h3⟩, h4⟩, h5⟩, h6⟩, h7⟩, h8⟩, h9⟩, h10⟩, h11⟩, h12⟩, h13⟩, h14⟩, h15⟩, h16⟩, h17⟩, h18⟩, h19⟩, h20⟩, h21⟩, h22⟩ := h
  have e := @He.eqO_ok
  exact { oex := ⟨oexB_ok h1, e h2, h3, h4, h5⟩, xf := ⟨e h6, e h7, h3, h8⟩, noV := e h9, iC := e h10, tI := h11, ini := h12, sup := e h13, opq := e h14, sub := h15, subV := h16, clC := e h17, spC := e h18, tkC := h19, moC := h20, top := h21, fn := iniB_ok h22 }
end DX
end
section
set_option Elab.async false
set_option linter.all false
set_option maxRecDepth 100000
set_option maxHeartbeats 0
namespace DX
open PySem PySem.Spec PyProof.Rows L2
/-- what a function leans on; a class, its functions -/
def kidF (g : Addr → Option Obj) (f : Addr) : List Addr := match g f with
  | some ⟨_, _, .func fd, _⟩ => He.refV fd.code ++ (He.refV fd.defaults ++ fd.closure.map (·.2))
  | _ => []
def kidC (g : Addr → Option Obj) (a : Addr) : List Addr := match g a with
  | some ⟨_, _, .cls cd, _⟩ => cd.ns :: (match g cd.ns with
    | some ⟨_, _, .dict es _, _⟩ => es.toList.flatMap fun e => (match e.val with
      | .ref f => f :: kidF g f
      | _ => [])
    | _ => [])
  | some ⟨_, _, .func fd, _⟩ => He.refV fd.code ++ (He.refV fd.defaults ++ fd.closure.map (·.2))
  | _ => []
def asE (g : Addr → Option Obj) : List Addr := match g mainGlobals with
  | some ⟨_, _, .dict es _, _⟩ => mainGlobals :: es.toList.flatMap fun e => (match e.val with
    | .ref a => a :: kidC g a
    | _ => [])
  | _ => []
/-- the objects looked at: those of the names, and cStatics -/
def frC (g : Addr → Option Obj) (_n : Nat) : PySem.W.Frag := He.frT g (PySem.sysModules :: cStatics :: asE g)
def obsC (n : Nat) (fa : List He.Fa) (fn : List He.DefD) (tf : List He.Defn) (ex : PySem.W.Frag → Bool) (g : Addr → Option Obj) : He.AlX := (He.obsT fa fn [] (frC g n), ex (frC g n) && He.tabsB g tf (frC g n))
theorem saysC_of {n : Nat} {fa : List He.Fa} {fn : List He.DefD} {tf : List He.Defn} {ex : PySem.W.Frag → Bool} {w : World} {h : Heap} (e : obsC n fa fn tf ex h.get? = He.valX fn [] w) : He.SaysX fa fn [] tf ex w h (frC h.get? n) := by
  obtain ⟨K, hK⟩ : ∃ K, K = frC h.get? n := ⟨_, rfl⟩
  have nK : ∀ {a : Addr} {o : Obj}, h.get? a = some o → He.emptyTab o = true → K.lookup a = none := fun q z => by rw [hK]; exact He.frT_none q z
  unfold obsC He.valX at e
  rw [← hK] at e ⊢
  injection e with e1 e2
  obtain ⟨h1, h2⟩ := He.ba e2
  have key : ∀ p ∈ tf, PySem.W.codeHdIn K (He.cT K p).1 (He.cT K p).2 = true ∧ ∃ o, h.get? (He.cT K p).2 = some o ∧ He.emptyTab o = true := fun p hp => by
    obtain ⟨h3, h4⟩ := He.ba (List.all_eq_true.mp h2 p hp)
    split at h4
    · rename_i o q; exact ⟨h3, o, q, h4⟩
    · cases h4
  exact ⟨e1, h1, fun p hp => (key p hp).1, fun p hp => by obtain ⟨_, o, q, z⟩ := key p hp; exact nK q z, fun p hp => by obtain ⟨_, o, q, z⟩ := key p hp; rw [q, He.emptyTab_eq z]⟩
def hookC (n : Nat) (fa : List He.Fa) (fn : List He.DefD) (tf : List He.Defn) (ex : PySem.W.Frag → Bool) : PySem.W.Hook where
  α := He.AlX
  obs := fun s => obsC n fa fn tf ex s.heap.get?
  val := fun w => He.valX fn [] w
  says := fun w h => ∃ K : PySem.W.Frag, K.In h ∧ He.SaysX fa fn [] tf ex w h K
  of := fun _ _ e => ⟨_, He.frT_in, saysC_of e⟩
  keeps := fun _ _ _ ⟨K, hK, c⟩ k => ⟨K, PySem.W.Frag.In.keeps hK k, ⟨c.t, c.more, c.hd, c.out, fun p hp => k _ _ (c.empty p hp)⟩⟩
theorem obsC_eq {n : Nat} {fa : List He.Fa} {fn : List He.DefD} {tf : List He.Defn} {ex : PySem.W.Frag → Bool} {g : Addr → Option Obj} {s : Shared} (h : ∀ a, g a = s.heap.get? a) : obsC n fa fn tf ex g = (hookC n fa fn tf ex).obs s := by
  rw [show g = s.heap.get? from funext h] <;> rfl
end DX
namespace Hd
open PySem PySem.Spec PyProof.Rows L2
def nm34a : List Str := ["InvalidText", "InvalidWord", "InvalidNumber", "InvalidSigns", "InvalidGap", "InvalidGround", "InvalidWindow", "InvalidOrder", "InvalidRounds", "InvalidSets", "InvalidPlace", "InvalidCuts", "InvalidPieces", "InvalidTold", "InvalidRule", "InvalidRing", "InvalidView"]
def nm34b : List Str := ["InvalidTwin", "InvalidEdit", "InvalidName", "InvalidHistory", "InvalidStore", "InvalidParcel", "InvalidDesk", "InvalidRecord", "InvalidScript", "InvalidPaper", "Refused", "InvalidLine", "InvalidNode", "InvalidNodes", "InvalidTree", "InvalidShelf", "InvalidBundle"]
def nm34 : List Str := nm34a ++ nm34b
def nmB : List Str := ["NothingToUndo", "NothingToRedo", "CutError"]
def nmR : List Str := ["NothingToUndo", "NothingToRedo"]
def nm36 : List Str := nm34 ++ nmR
def nm37 : List Str := nm36 ++ [("CutError" : Str)]
/-- a class by its name, its order of bases -/
def chB (K : PySem.W.Frag) (x : Str) (bm : List Value) : Bool := match K.lookup (He.ga K x) with
  | some ⟨.type t, _, .cls cd, _⟩ => t == "type" && cd.name == x && cd.mro == .ref (He.ga K x) :: bm
  | _ => false
def bareB (K : PySem.W.Frag) (x : Str) : Bool :=
  PySem.W.excIn K (He.ga K x) PySem.DLX.veB "ValueError.__new__" && PySem.W.keepIn K (.ref (He.ga K x))
    && He.eqO (PySem.W.findIn K (.ref (He.ga K x)) "__getattribute__") (some (some (.builtin "BaseException.__getattribute__"))) && He.eqO (PySem.W.findIn K (.ref (He.ga K x)) "__getattr__") (some none) && PySem.W.hasDictIn K (He.ga K x)
    && decide (PySem.W.subIn K (.ref (He.ga K x)) (.type "BaseException") = some true) && He.eqO (PySem.W.findIn K (.ref (He.ga K x)) "__class__") (some (some (.builtin "object.__class__")))
    && decide (PySem.W.mroIn K (He.ga K x) (.type "object") = some true)
def sysB (K : PySem.W.Frag) : Bool := match K.lookup PySem.sysModules with
  | some o => o.cls == .type "dict"
  | none => false
def fa9 : List He.Fa := fa
def defB (K : PySem.W.Frag) (fI : Addr) : Bool := match K.lookup fI with
  | some ⟨_, _, .func fd, _⟩ => (match fd.defaults with
    | .ref Td => (match K.lookup Td with
      | some o => (match o.data with
        | .seq its _ => (match its.toList with
          | [.none] => true
          | _ => false)
        | _ => false)
      | none => false)
    | _ => false)
  | _ => false
def ex2 (K : PySem.W.Frag) : Bool := (nm34.all fun x => DX.errC (PySem.Challenge.pw_owntrees_k01_errors_made) K x) && (nm36.all fun x => chB K x (.ref (He.ga K "CutError") :: PySem.DLX.veB)) && chB K "CutError" PySem.DLX.veB && (nmB.all fun x => bareB K x) && sysB K && (nm34.all fun x => defB K (DX.iniA K x))
abbrev hk2 : PySem.W.Hook := DX.hookC 5 fa9 fn tf ex2
def ob2 (s : PySem.W.SharedT) : He.AlX := DX.obsC 5 fa9 fn tf ex2 (HandSHeadRun.getT s)
theorem ob2_eq (s : PySem.W.SharedT) : ob2 s = hk2.obs s.abs := DX.obsC_eq (HandSHeadRun.getT_eq s)
theorem run2 (w : World) : HandSHeadRun.RunEq R (PySem.W.view R.prog [51]) hk2 ob2 100000 loose w := by
  intro os
  kernel_rfl
end Hd
end
section
set_option Elab.async false
set_option linter.all false
set_option maxRecDepth 100000
namespace DL
open PySem PySem.Spec PyProof.Rows L2
variable [TL]
section
variable {X : Cx} {δ δ1 δ2 : List DV} {a b c e : Expr} {x y z : D} {p1 p2 pos : Pos}
theorem de_allM {xs : List D} {g : D → Bool} (hcm : X.calm = true) (hg : Gl X "all") (hm : X.mg "all" = none) (ha : DE X δ a (.ow (xs.map fun d => D.bl (g d))) δ1) (he : starEach [a] X.env = (false, eval a X.env) :: starEach [] X.env := by rfl) : DE X δ (.Call (.Name "all" p1) [a] [] pos) (.d (.bl (xs.all g))) δ1 := by
  have e1 : (xs.map fun d => D.bl (g d)) = (xs.map g).map D.bl := by rw [List.map_map]; rfl
  have e2 : xs.all g = (xs.map g).all id := by simp
  rw [e2]
  rw [e1] at ha
  exact de_all hcm hg hm (de_frz ha) he
/-- a test of or, its first part true; false -/
theorem dw_orT {rest : List Expr} (ha : DT X δ a true δ1) : DW X δ (.BoolOp .Or (a :: b :: rest) pos) true δ1 := dw_or (q := true) (p := true) ha (fun h => nomatch h) (fun _ => rfl)
theorem dw_orF {rest : List Expr} {q : Bool} (ha : DT X δ a false δ1) (hb : DW X δ1 (.BoolOp .Or (b :: rest) pos) q δ2) : DW X δ (.BoolOp .Or (a :: b :: rest) pos) q δ2 := by
  have := dw_or (p := false) ha (fun _ => hb) (fun h => nomatch h)
  simpa using this
theorem dw_andF {rest : List Expr} (ha : DT X δ a false δ1) : DW X δ (.BoolOp .And (a :: b :: rest) pos) false δ1 := dw_and (q := true) (p := false) ha (fun h => nomatch h) (fun _ => rfl)
theorem dw_andT {rest : List Expr} {q : Bool} (ha : DT X δ a true δ1) (hb : DW X δ1 (.BoolOp .And (b :: rest) pos) q δ2) : DW X δ (.BoolOp .And (a :: b :: rest) pos) q δ2 := by
  have := dw_and (p := true) ha (fun _ => hb) (fun h => nomatch h)
  simpa using this
theorem de_andF {rest : List Expr} (ha : DE X δ a (.d (.bl false)) δ1) : DE X δ (.BoolOp .And (a :: b :: rest) pos) (.d (.bl false)) δ1 := de_to (de_and (q := true) ha (fun h => nomatch h) (fun _ => rfl)) rfl
theorem de_andT {rest : List Expr} {q : Bool} (ha : DE X δ a (.d (.bl true)) δ1) (hb : DE X δ1 (.BoolOp .And (b :: rest) pos) (.d (.bl q)) δ2) : DE X δ (.BoolOp .And (a :: b :: rest) pos) (.d (.bl q)) δ2 := de_to (de_and ha (fun _ => hb) (fun h => nomatch h)) (by simp)
theorem de_orF {rest : List Expr} {q : Bool} (ha : DE X δ a (.d (.bl false)) δ1) (hb : DE X δ1 (.BoolOp .Or (b :: rest) pos) (.d (.bl q)) δ2) : DE X δ (.BoolOp .Or (a :: b :: rest) pos) (.d (.bl q)) δ2 := de_to (de_or ha (fun _ => hb) (fun h => nomatch h)) (by simp)
theorem de_orT {rest : List Expr} (ha : DE X δ a (.d (.bl true)) δ1) : DE X δ (.BoolOp .Or (a :: b :: rest) pos) (.d (.bl true)) δ1 := de_to (de_or (q := true) ha (fun h => nomatch h) (fun _ => rfl)) rfl
theorem de_v' {k k' : Bool} (h : DE X δ a (.d (.bl k)) δ1) (e : k = k') : DE X δ a (.d (.bl k')) δ1 := e ▸ h
/-- the type of data, by the built-in names -/
theorem de_isi' {T : Str} (n : String) {k : Bool} (hg : Gl X "isinstance") (hm : X.mg "isinstance" = none) (ha : DE X δ a (.d x) δ1) (hp : x.plain = true) (hg2 : Gl X T) (hm2 : X.mg T = none) (hv : bootBuiltins T = some (.type n)) (hT : n = "bool" ∨ n = "int" ∨ n = "str" ∨ n = "list" ∨ n = "tuple" ∨ n = "dict") (hk : x.isi n = k)
    (hn : T ≠ "__name__" := by decide) (hdb : (T == ("__debug__" : Str)) = false := by decide)
    (he : starEach [a, .Name T p2] X.env = (false, eval a X.env) :: starEach [.Name T p2] X.env := by rfl) (he2 : starEach [Expr.Name T p2] X.env = (false, eval (.Name T p2) X.env) :: starEach [] X.env := by rfl) (hpl : (backTo pos (starEach [Expr.Name T p2] X.env)).any (·.1) = false := by rfl) :
    DE X δ (.Call (.Name "isinstance" p1) [a, .Name T p2] [] pos) (.d (.bl k)) δ1 := hk ▸ de_isi hg hm ha hp hg2 hm2 hv hT hn hdb he he2 hpl
end
/-! ### defs as they stand -/
section
variable {P : Program} {w : World} {K : PySem.W.Frag} {mg : Str → Option Value} {base : Heap} {x : Str} {s : Stmt} {ps : List Str} {k : Nat} {R : RelD} {RX : RelX}
structure Df (K : PySem.W.Frag) (mg : Str → Option Value) (x : Str) (s : Stmt) : Prop where
  ex : ∃ f fd, FunD K x x (defArgs s) (defBody s) (defScope s) [] [] f fd ∧ mg x = some (.ref f)
theorem Df.fd (D : Df K mg x s) (hb : ∀ (kV doc pm : Value) (an : Option Addr) (cdv ct : Value) (us : List Value), us.length = ps.length → bindArgs (PySem.W.fnOf x x (defArgs s) (defBody s) (defScope s) .none kV doc pm an cdv ct) ⟨us, []⟩ = pure (ps.zip us))
    (h : ∀ f fd, FunD K x x (defArgs s) (defBody s) (defScope s) [] [] f fd → FnOk P w K mg base (L2.CX P w) k f fd ps (spD R RX)) : FD P w K mg base k x ps R RX := by
  obtain ⟨f, fd, F, hm⟩ := D.ex
  exact ⟨f, fd, h f fd F, hm, F.kp, F.bindsN hb⟩
end
theorem ret0 {X : Cx} {args : List DV} {n : Nat} {body : List Stmt} {r : DV} {δ' : List DV} (h : DSs X [] (ent args n) body (.rt r δ')) (hn : noOw args = true) : ∃ pn δ' o, DSs X pn (ent args n) body o ∧ Out.ret r δ' o ∧ Wb pn args args δ' := ⟨[], δ', _, h, .inl rfl, wb_no hn⟩
def blkB (N : List Str) (sc scope : Scope) (own : List (Str × Nat)) : Bool :=
  decide (scope.kind = .function) && (scope.names.all fun y => decide (scope.names.lookup y.1 = some y.2)) && (own.all fun p => decide (N[p.2]? = some p.1)) &&
    (scope.names.all fun y => !decide (y.2 = .free) || decide (sc.names.lookup y.1 = some .cell) || decide (sc.names.lookup y.1 = some .free)) &&
    scope.names.all fun y => !(decide (y.2 = .local) || decide (y.2 = .cell)) || decide (y.1 ∈ own.map (·.1)) || !decide (y.1 ∈ N)
theorem blk_by {X : Cx} {scope : Scope} {own : List (Str × Nat)} (N : List Str) (sc : Scope) (h : blkB N sc scope own = true) (hN : X.N = N := by rfl) (hs : X.env.scope = sc := by rfl) : BlkOk X.N X.env.scope scope own := by
  rw [hN, hs]
  unfold blkB at h
  simp only [Bool.and_eq_true, List.all_eq_true, decide_eq_true_eq, Bool.or_eq_true, Bool.not_eq_true', decide_eq_false_iff_not] at h
  obtain ⟨⟨⟨⟨h1, h2⟩, h3⟩, h4⟩, h5⟩ := h
  refine ⟨h1, h2, h3, fun y hy e => ?_, fun y hy e => ?_⟩
  · rcases h4 y hy with (z | z) | z
    · exact absurd e z
    · exact .inl z
    · exact .inr z
  · rcases h5 y hy with (z | z) | z
    · exact absurd e (by simpa using z)
    · exact .inl z
    · exact .inr z
/-- the built-in names that the text does not bind -/
structure Bn (mg : Str → Option Value) : Prop where
  isi : mg "isinstance" = none
  len : mg "len" = none
  all : mg "all" = none
  rng : mg "range" = none
  int : mg "int" = none
  str : mg "str" = none
  bool : mg "bool" = none
  list : mg "list" = none
  tuple : mg "tuple" = none
  dict : mg "dict" = none
  max : mg "max" = none
  min : mg "min" = none
  sum : mg "sum" = none
  zip : mg "zip" = none
  repr : mg "repr" = none
/-- a def of one datum -/
def R1 (pre : D → Prop) (f : D → D) : RelD := fun args r args' => ∃ d, pre d ∧ args = [.d d] ∧ r = .d (f d) ∧ args' = args
theorem R1.len {pre : D → Prop} {f : D → D} : ∀ args r args', R1 pre f args r args' → args.length = 1 := fun _ _ _ ⟨_, _, h, _⟩ => by rw [h]; rfl
theorem R1.of {pre : D → Prop} {f : D → D} {d : D} (h : pre d) : R1 pre f [.d d] (.d (f d)) [.d d] := ⟨d, h, rfl, rfl, rfl⟩
theorem ok_plain {d : D} (h : d.ok = true) : d.plain = true := by cases d <;> first | rfl | (simp [D.ok] at h)
/-! ### defs with defaults -/
structure DfV (K : PySem.W.Frag) (mg : Str → Option Value) (x : Str) (s : Stmt) (dvs : List V) : Prop where
  ex : ∃ f fd, FunD K x x (defArgs s) (defBody s) (defScope s) dvs [] f fd ∧ mg x = some (.ref f)
/-- a def as it is called by its first arguments, the rest by default -/
structure FDv (P : Program) (w : World) (K : PySem.W.Frag) (mg : Str → Option Value) (base : Heap) (k : Nat) (x : Str) (ps : List Str) (dvs : List V) (R : RelD) (RX : RelX) : Prop where
  ex : ∃ f fd ds, FnOk P w K mg base (L2.CX P w) k f fd ps (spD R RX) ∧ mg x = some (.ref f) ∧ PySem.W.keepIn K (.ref f) = true ∧ L2.Binds K fd ps ds ∧ Vals dvs ds
theorem FDv.mono {P : Program} {w : World} {K : PySem.W.Frag} {mg : Str → Option Value} {base : Heap} {k j : Nat} {x : Str} {ps : List Str} {dvs : List V} {R : RelD} {RX : RelX} (h : FDv P w K mg base k x ps dvs R RX) (hj : k ≤ j) : FDv P w K mg base j x ps dvs R RX := by
  obtain ⟨f, fd, ds, h1, h2, h3, h4, h5⟩ := h.ex
  exact ⟨f, fd, ds, h1.mono hj, h2, h3, h4, h5⟩
theorem AVs.app {F : Hp} {σ : L2.St} : ∀ {vs : List V} {as : List AV} {ws : List V} {ds : List D}, AVs F σ vs as → RpA F ws ds → AVs F σ (vs ++ ws) (as ++ ds.map AV.d)
  | _, _, [], [], h, .nil => by simpa using h
  | _, _, _ :: _, _ :: _, .nil, .cons r t => .cons r (AVs.app .nil t)
  | _, _, _, _, .cons r t, q => .cons r (AVs.app t q)
theorem noSl_app {as : List AV} {ds : List D} (h : AV.noSl as = true) : AV.noSl (as ++ ds.map AV.d) = true := by
  induction as with
  | nil => induction ds with
    | nil => rfl
    | cons d ds ih => exact ih
  | cons a as ih =>
    cases a with
    | sl i => cases h
    | d x => exact ih h
    | raw x => exact ih h
    | pr x => exact ih h
section
variable {X : Cx} {δ δ1 : List DV} {e : Expr} {es : List Expr} {as : List AV} {pos p1 : Pos}
theorem de_callV {k : Nat} {x : Str} {ps : List Str} {R : RelD} {RX : RelX} {r : DV} {dvs : List V} {dds : List D} (G : FDv X.prog X.w X.K X.mg X.base k x ps dvs R RX) (hdv : ∀ F, RpA F dvs dds) (hr : Room k X.A) (hg : Gl X x) (ha : DA X δ (e :: es) as δ1) (hn : AV.noSl as = true)
    (hR : R ((as ++ dds.map AV.d).map (AV.dv δ1)) r ((as ++ dds.map AV.d).map (AV.dv δ1)))
    (hdb : (x == ("__debug__" : Str)) = false := by decide) (he : starEach (e :: es) X.env = (false, eval e X.env) :: starEach es X.env := by rfl) (hpl : (backTo pos (starEach es X.env)).any (·.1) = false := by rfl) : DE X δ (.Call (.Name x p1) (e :: es) [] pos) r δ1 := by
  obtain ⟨f, fd, ds, h1, h2, h3, h4, h5⟩ := G.ex
  refine (pe_call h1 hr hg h2 h3 h4 h5 passL ha hdb he hpl).imp fun σ H Q ⟨F, Rf, k⟩ => ⟨F, Rf, fun vs F1 H1 g1 R1 ra => ?_⟩
  exact call_fin R1 (ra.app (hdv F1)) (noSl_app hn) hR fun v F2 H2 g2 R2 q => k v F2 H2 (g1.trans g2) R2 (Res.back g1 q)
end
theorem sh_int {i : Int} : (D.int i).sh := ⟨rfl, Nat.zero_le _⟩
theorem sh_bl {b : Bool} : (D.bl b).sh := ⟨rfl, Nat.zero_le _⟩
theorem sh_non : D.non.sh := ⟨rfl, Nat.zero_le _⟩
theorem sh_str {s : Str} (h : PyData.strOk s = true) : (D.str s).sh := ⟨by simpa [D.ok] using h, by simp [D.dep]⟩
/-! ### mirrors -/
def signOk : D → Bool
  | .str c => !decide (c.cps.toList < ("a" : Str).cps.toList) && !decide (("z" : Str).cps.toList < c.cps.toList)
  | _ => false
def isWhole : D → Bool
  | .int _ => true
  | _ => false
def isCount : D → Bool
  | .int i => decide (0 ≤ i)
  | _ => false
def isText : D → Bool
  | .str s => (sgns s).all signOk
  | _ => false
def isWord : D → Bool
  | .str s => (sgns s).all signOk && !decide (s = "")
  | _ => false
def isSingle : D → Bool
  | .tup [.str t, x] => decide (t = "bead") && isWord x
  | _ => false
def bareD : D → D
  | .tup (.str t :: x :: r) => if t = "again" then x else .tup (.str t :: x :: r)
  | d => d
def adjOk (xs : List D) (at_ : D) : Bool := match at_ with
  | .int i => !(bareD (xs.getD (i - 1).toNat .non)).eqv (bareD (xs.getD i.toNat .non))
  | _ => false
def isGroupOf (nd : D → Bool) : D → Bool
  | .tup (.str t :: r) => decide (2 ≤ r.length) && (decide (t = "group") && (r.all nd && (irange 2 (r.length - 1)).all (adjOk (.str t :: r))))
  | _ => false
def gt1 : D → Bool
  | .int i => decide (1 < i)
  | _ => false
def isAgainOf (sg : D → Bool) : D → Bool
  | .tup [.str t, x, c] => decide (t = "again") && (isCount c && gt1 c && sg x)
  | _ => false
mutual
def grp : Nat → D → Bool
  | 0, _ => false
  | n + 1, d => isGroupOf (fun x => isSingle x || (grp n x || agn n x)) d
def agn : Nat → D → Bool
  | 0, _ => false
  | n + 1, d => isAgainOf (fun x => isSingle x || grp n x) d
end
def nodeN (n : Nat) (d : D) : Bool := isSingle d || (grp n d || agn n d)

section
variable {X : Cx} {δ δ1 δ2 : List DV} {a b c e : Expr} {x y z : D} {p1 p2 pos : Pos}
theorem dt_notT (h : DT X δ a true δ1) : DT X δ (.UnaryOp .Not a pos) false δ1 := dt_not h
theorem dt_notF (h : DT X δ a false δ1) : DT X δ (.UnaryOp .Not a pos) true δ1 := dt_not h
theorem dt_k {k k' : Bool} (h : DT X δ a k δ1) (e : k = k') : DT X δ a k' δ1 := e ▸ h
theorem di_to {tg : Expr} {xs ys : List D} (h : DI X δ tg a xs δ1) (e : xs = ys) : DI X δ tg a ys δ1 := e ▸ h
end
theorem cut_1 {x : D} {r : List D} : D.cut (x :: r) (some 1) none = r := by
  unfold D.cut HT.sIx
  simp
theorem atI_0 {α : Type} {a : α} {l : List α} : L2.atI (a :: l) 0 = some a := L2.atI_nat (j := 0) rfl
theorem atI_1 {α : Type} {a b : α} {l : List α} : L2.atI (a :: b :: l) 1 = some b := L2.atI_nat (j := 1) rfl
theorem atI_2 {α : Type} {a b c : α} {l : List α} : L2.atI (a :: b :: c :: l) 2 = some c := L2.atI_nat (j := 2) rfl
theorem single_shape {d : D} (h : isSingle d = true) : ∃ t x r, d = .tup (.str t :: x :: r) := by
  unfold isSingle at h
  split at h
  · exact ⟨_, _, _, rfl⟩
  · cases h
theorem again_shape {sg : D → Bool} {d : D} (h : isAgainOf sg d = true) : ∃ t x r, d = .tup (.str t :: x :: r) := by
  unfold isAgainOf at h
  split at h
  · exact ⟨_, _, _, rfl⟩
  · cases h
theorem group_shape {nd : D → Bool} {d : D} (h : isGroupOf nd d = true) : ∃ t x r, d = .tup (.str t :: x :: r) := by
  cases d with
  | tup xs =>
    cases xs with
    | nil => cases h
    | cons a r =>
      cases a with
      | str t =>
        cases r with
        | nil => simp [isGroupOf] at h
        | cons x r => exact ⟨_, _, _, rfl⟩
      | _ => cases h
  | _ => cases h
theorem node_shape {n : Nat} {d : D} (h : nodeN n d = true) : ∃ t x r, d = .tup (.str t :: x :: r) := by
  unfold nodeN at h
  rcases Bool.or_eq_true_iff.mp h with h | h
  · exact single_shape h
  · rcases Bool.or_eq_true_iff.mp h with h | h
    · cases n with
      | zero => simp [grp] at h
      | succ n => rw [grp] at h; exact group_shape h
    · cases n with
      | zero => simp [agn] at h
      | succ n => rw [agn] at h; exact again_shape h
theorem bareD_gd {n : Nat} {d : D} (h : Gd n d) : Gd n (bareD d) := by
  unfold bareD
  split
  · split
    · exact (h.tupA.1.head.2.head.1).mono (by omega)
    · exact h
  · exact h
end DL
end
section
set_option Elab.async false
set_option linter.all false
set_option maxRecDepth 100000
namespace DL
open PySem PySem.Spec PyProof.Rows L2
/-! ### data of texts and tuples alone -/
mutual
def D.st : D → Bool
  | .str s => PyData.strOk s
  | .tup xs => D.stA xs
  | _ => false
def D.stA : List D → Bool
  | [] => true
  | d :: ds => d.st && D.stA ds
end
mutual
theorem eqv_st : ∀ {d e : D}, d.st = true → e.st = true → d.eqv e = true → d = e
  | .str s, .str t, _, _, h => by rw [eqv_str] at h; rw [of_decide_eq_true h]
  | .tup xs, .tup ys, h1, h2, h => by
    simp only [D.st] at h1 h2
    simp only [D.eqv, D.py, PyData.eqv] at h
    rw [eqv_stA h1 h2 h]
  | .str _, .tup _, _, _, h => by simp [D.eqv, D.py, PyData.eqv] at h
  | .tup _, .str _, _, _, h => by simp [D.eqv, D.py, PyData.eqv] at h
  | .non, _, h, _, _ => by simp [D.st] at h
  | .bl _, _, h, _, _ => by simp [D.st] at h
  | .int _, _, h, _, _ => by simp [D.st] at h
  | .lst _, _, h, _, _ => by simp [D.st] at h
  | .dct _ _, _, h, _, _ => by simp [D.st] at h
  | .exc _ _, _, h, _, _ => by simp [D.st] at h
  | .fn _, _, h, _, _ => by simp [D.st] at h
  | .str _, .non, _, h, _ => by simp [D.st] at h
  | .str _, .bl _, _, h, _ => by simp [D.st] at h
  | .str _, .int _, _, h, _ => by simp [D.st] at h
  | .str _, .lst _, _, h, _ => by simp [D.st] at h
  | .str _, .dct _ _, _, h, _ => by simp [D.st] at h
  | .str _, .exc _ _, _, h, _ => by simp [D.st] at h
  | .str _, .fn _, _, h, _ => by simp [D.st] at h
  | .tup _, .non, _, h, _ => by simp [D.st] at h
  | .tup _, .bl _, _, h, _ => by simp [D.st] at h
  | .tup _, .int _, _, h, _ => by simp [D.st] at h
  | .tup _, .lst _, _, h, _ => by simp [D.st] at h
  | .tup _, .dct _ _, _, h, _ => by simp [D.st] at h
  | .tup _, .exc _ _, _, h, _ => by simp [D.st] at h
  | .tup _, .fn _, _, h, _ => by simp [D.st] at h
theorem eqv_stA : ∀ {ds es : List D}, D.stA ds = true → D.stA es = true → PyData.eqvAll (D.pyA ds) (D.pyA es) = true → ds = es
  | [], [], _, _, _ => rfl
  | [], e :: es, _, _, h => by simp [D.pyA, PyData.eqvAll] at h
  | d :: ds, [], _, _, h => by simp [D.pyA, PyData.eqvAll] at h
  | d :: ds, e :: es, h1, h2, h => by
    simp only [D.stA, Bool.and_eq_true] at h1 h2
    simp only [D.pyA, PyData.eqvAll, Bool.and_eq_true] at h
    rw [eqv_st h1.1 h2.1 h.1, eqv_stA h1.2 h2.2 h.2]
end
mutual
/-- data equals itself -/
theorem eqv_self : ∀ d : D, d.ok = true → d.eqv d = true
  | .non, _ => rfl
  | .bl b, _ => by simp [D.eqv, D.py, PyData.eqv]
  | .int i, _ => by simp [D.eqv, D.py, PyData.eqv]
  | .str s, _ => by simp [D.eqv, D.py, PyData.eqv]
  | .lst xs, h => by simp only [D.eqv, D.py, PyData.eqv]; exact eqv_selfA xs (by simpa [D.ok] using h)
  | .tup xs, h => by simp only [D.eqv, D.py, PyData.eqv]; exact eqv_selfA xs (by simpa [D.ok] using h)
  | .dct _ _, h => by simp [D.ok] at h
  | .exc _ _, h => by simp [D.ok] at h
  | .fn _, h => by simp [D.ok] at h
theorem eqv_selfA : ∀ ds : List D, D.okA ds = true → PyData.eqvAll (D.pyA ds) (D.pyA ds) = true
  | [], _ => rfl
  | d :: ds, h => by
    simp only [D.okA, Bool.and_eq_true] at h
    simp only [D.pyA, PyData.eqvAll, Bool.and_eq_true]
    exact ⟨eqv_self d h.1, eqv_selfA ds h.2⟩
end
/-- a node of a row that is no 'again': a tagged tuple of texts and tuples -/
structure Nd (d : D) : Prop where
  gd : Gd 3 d
  st : d.st = true
  nd : nodeN 6 d = true
  tag : ∃ t x r, d = .tup (.str t :: x :: r) ∧ t ≠ "again"
  len : d.wt ≤ 60
theorem Nd.bare {d : D} (h : Nd d) : bareD d = d := by
  obtain ⟨t, x, r, rfl, ht⟩ := h.tag
  simp [bareD, ht]
theorem Nd.eq {d e : D} (h : Nd d) (k : Nd e) (q : d.eqv e = true) : d = e := eqv_st h.st k.st q
theorem Nd.self {d : D} (h : Nd d) : d.eqv d = true := eqv_self d h.gd.ok
/-! ### runs -/
def enc (p : D × Nat) : D := if p.2 = 1 then p.1 else .tup [.str "again", p.1, .int p.2]
theorem enc_bare {p : D × Nat} (h : Nd p.1) : bareD (enc p) = p.1 := by
  unfold enc
  by_cases e : p.2 = 1
  · rw [if_pos e, h.bare]
  · rw [if_neg e]; simp [bareD]
theorem enc_shape {p : D × Nat} (h : Nd p.1) : ∃ t x r, enc p = .tup (.str t :: x :: r) := by
  unfold enc
  by_cases e : p.2 = 1
  · rw [if_pos e]; obtain ⟨t, x, r, q, _⟩ := h.tag; exact ⟨t, x, r, q⟩
  · rw [if_neg e]; exact ⟨_, _, _, rfl⟩
theorem enc_eqv {p : D × Nat} {x : D} (h : Nd p.1) (hx : Nd x) (e : p.1 = x) : (enc p).eqv x = decide (p.2 = 1) := by
  unfold enc
  by_cases q : p.2 = 1
  · rw [if_pos q, e, hx.self, decide_eq_true q]
  · rw [if_neg q, decide_eq_false q]
    obtain ⟨t, y, r, rfl, ht⟩ := hx.tag
    simp only [D.eqv, D.py, D.pyA, PyData.eqv, PyData.eqvAll]
    have : ((("again" : Str) == t)) = false := beq_eq_false_iff_ne.mpr (Ne.symm ht)
    rw [this, Bool.false_and]
theorem enc_gd {p : D × Nat} (h : Nd p.1) (hp : p.2 < 10 ^ 9) : Gd 4 (enc p) := by
  unfold enc
  by_cases q : p.2 = 1
  · rw [if_pos q]; exact h.gd.mono (by decide)
  · rw [if_neg q]
    have g := h.gd
    have l := h.len
    have d := g.dep
    have lg : (if ((p.2 : Int) == 0) = true then 0 else (p.2 : Int).natAbs.log2 + 1) ≤ 40 := by
      split
      · decide
      · rename_i z
        have z' : p.2 ≠ 0 := by simpa using z
        have := (Nat.log2_lt (n := p.2) (k := 30) z').mpr (Nat.lt_trans hp (by decide))
        rw [Int.natAbs_natCast]
        omega
    refine ⟨?_, ?_, ?_, ?_⟩
    · simp only [D.ok, D.okA, g.ok, Bool.and_true, Bool.true_and]; decide +kernel
    · simp only [D.dep, D.depA]; omega
    · simp only [D.wt, D.wtA]
      have : ("again" : Str).length = 5 := by decide +kernel
      omega
    · simp only [D.sm, D.smA, g.sm, Bool.true_and, Bool.and_true, Int.natAbs_natCast, decide_eq_true_eq]; omega
/-- one more of the row -/
def rl (acc : List (D × Nat)) (x : D) : List (D × Nat) := match acc.getLast? with
  | none => [(x, 1)]
  | some p => if p.1.eqv x then acc.dropLast ++ [(x, p.2 + 1)] else acc ++ [(x, 1)]
def rls (row : List D) (n : Nat) : List (D × Nat) := (row.take n).foldl rl []
theorem rls_succ {row : List D} {n : Nat} {x : D} (h : row[n]? = some x) : rls row (n + 1) = rl (rls row n) x := by
  unfold rls
  rw [List.take_add_one, h, List.foldl_append]
  rfl
structure RlOk (row : List D) (n : Nat) (acc : List (D × Nat)) : Prop where
  nd : ∀ p ∈ acc, Nd p.1 ∧ 1 ≤ p.2 ∧ p.2 ≤ n
  len : acc.length ≤ n
theorem rls_ok {row : List D} (h : ∀ d ∈ row, Nd d) : ∀ n, RlOk row n (rls row n)
  | 0 => ⟨fun p hp => by simp [rls] at hp, by simp [rls]⟩
  | n + 1 => by
    cases e : row[n]? with
    | none =>
      have : rls row (n + 1) = rls row n := by unfold rls; rw [List.take_add_one, e]; simp
      rw [this]
      have k := rls_ok h n
      exact ⟨fun p hp => ⟨(k.nd p hp).1, (k.nd p hp).2.1, Nat.le_succ_of_le (k.nd p hp).2.2⟩, Nat.le_succ_of_le k.len⟩
    | some x =>
      rw [rls_succ e]
      have k := rls_ok h n
      have hx := h x (List.mem_of_getElem? e)
      unfold rl
      cases q : (rls row n).getLast? with
      | none => exact ⟨fun p hp => by simp at hp; subst hp; exact ⟨hx, Nat.le_refl _, by omega⟩, by simp⟩
      | some y =>
        have hy := k.nd y (List.mem_of_getLast? q)
        have ne : rls row n ≠ [] := fun z => by rw [z] at q; simp at q
        simp only
        by_cases c : y.1.eqv x = true
        · rw [if_pos c]
          refine ⟨fun p hp => ?_, by have := List.length_pos_iff.mpr ne; have := k.len; simp; omega⟩
          rcases List.mem_append.mp hp with hp | hp
          · have := k.nd p (List.dropLast_subset _ hp)
            exact ⟨this.1, this.2.1, Nat.le_succ_of_le this.2.2⟩
          · rw [List.mem_singleton] at hp; subst hp; exact ⟨hx, by simp, by have := hy.2.2; simp; omega⟩
        · rw [if_neg c]
          refine ⟨fun p hp => ?_, by have := k.len; simp; omega⟩
          rcases List.mem_append.mp hp with hp | hp
          · have := k.nd p hp
            exact ⟨this.1, this.2.1, Nat.le_succ_of_le this.2.2⟩
          · rw [List.mem_singleton] at hp; subst hp; exact ⟨hx, Nat.le_refl _, by omega⟩
def runsD (row : List D) : List D := (rls row row.length).map enc
end DL
end
section
set_option Elab.async false
set_option linter.all false
set_option maxRecDepth 100000
namespace DL
open PySem PySem.Spec PyProof.Rows L2
/-! ### wide powers -/
def CPowW (i j : Int) : Prop := 0 ≤ j ∧ (Builtin.Int.intBits i : Int) * j ≤ 2 ^ 27
theorem op_powW {X : Cx} : OpR X (binaryOp .Pow) (rI CPowW fun i j => .int (i ^ j.toNat)) := opI fun _ _ _ _ _ _ _ hc q => pow_int hc.1 hc.2 q
/-- the script -/
def prS (K : PySem.W.Frag) (ns : List Int) : Hp → V → Prop := fun F v => ∃ a, v = .ref a ∧ SqL K F a (ns.map V.int)
variable [TL]
theorem ret1 {X : Cx} {xs ys : List D} {args : List DV} {n : Nat} {body : List Stmt} {r : DV} {δ' : List DV} (h : DSs X [0] (ent (.ow xs :: args) n) body (.rt r δ')) (hn : noOw args = true) (h0 : δ'[0]? = some (.ow ys)) : ∃ pn δ' o, DSs X pn (ent (.ow xs :: args) n) body o ∧ Out.ret r δ' o ∧ Wb pn (.ow xs :: args) (.ow ys :: args) δ' := ⟨[0], δ', _, h, .inl rfl, wb_one hn h0⟩
theorem dss_to {X : Cx} {pn : List Nat} {δ δ' δ'' : List DV} {sts : List Stmt} (h : DSs X pn δ sts (.nx δ')) (e : δ' = δ'') : DSs X pn δ sts (.nx δ'') := e ▸ h
section
variable {X : Cx} {δ δ1 δ2 δ3 : List DV} {a b c e : Expr} {p1 p2 pos : Pos} {lo hi : Option Expr} {i j : Option Int} {ns : List Int}
theorem de_powW {i j : Int} (ha : DE X δ a (.d (.int i)) δ1) (hb : DE X δ1 b (.d (.int j)) δ2) (hc : CPowW i j) : DE X δ (.BinOp a .Pow b pos) (.d (.int (i ^ j.toNat))) δ2 := de_bin op_powW ha hb (opd_ic hc fun _ => .int _)
theorem de_slP (ha : DE X δ a (.pr (prS X.K ns)) δ1) (hl : DO X δ1 lo i δ2) (hh : DO X δ2 hi j δ3) : DE X δ (.Subscript a (.Slice lo hi none p2) pos) (.ow (D.cut (ns.map D.int) i j)) δ3 := by
  obtain ⟨t, pt, ht⟩ := hl.run
  obtain ⟨u, pu, hu⟩ := hh.run
  refine (pe_slice sl_list ha pt pu).imp fun σ H Q ⟨F, R, k⟩ => ⟨F, R, fun v F1 H1 g1 R1 r1 => ?_⟩
  refine ht σ H1 _ ⟨F1, R1, fun F2 H2 g2 R2 => ?_⟩
  refine hu σ H2 _ ⟨F2, R2, fun F3 H3 g3 R3 => ?_⟩
  obtain ⟨a, rfl, hs⟩ := r1 H3 ((g2.ff.trans g3.ff).trans R3.sub)
  exact ⟨_, _, rfl, hs, fun p hp => fin_own k (g1.trans (g2.trans g3)) R3 hp (RpA.ints.cut i j)⟩
theorem de_lenP (hg : Gl X "len") (hm : X.mg "len" = none) (ha : DE X δ a (.pr (prS X.K ns)) δ1) (he : starEach [a] X.env = (false, eval a X.env) :: starEach [] X.env := by rfl) : DE X δ (.Call (.Name "len" p1) [a] [] pos) (.d (.int ns.length)) δ1 :=
  de_bi (as := [.pr (prS X.K ns)]) call_len hg hm (by decide +kernel) (da_pr ha da_nil he) (fun F H σ vs Q ex h k => by
    cases h with
    | cons r t =>
      cases t
      obtain ⟨a, rfl, hs⟩ := (show ∀ F2, Ex F F2 → prS X.K ns F2 _ from r) H ex
      refine ⟨_, _, rfl, .inl ⟨_, hs, rfl⟩, ?_⟩
      rw [List.length_map]
      exact k _ (.int _)) (he := he)
end
/-! ### the purse -/
structure Pu where
  a : Int
  b : Int
  c : Int
  d : Int
def pz (p : Pu) : List D := [.int p.a, .int p.b, .int p.c, .int p.d]
structure OkP (L : Nat) (p : Pu) : Prop where
  a0 : 0 ≤ p.a
  b0 : 0 ≤ p.b
  b1 : p.b < 2 ^ 31
  c0 : 0 ≤ p.c
  c1 : p.c ≤ L
  d0 : 0 ≤ p.d
  d1 : p.d ≤ 2 ^ 31
theorem OkP.mono {L M : Nat} {p : Pu} (h : OkP L p) (l : L ≤ M) : OkP M p := ⟨h.a0, h.b0, h.b1, h.c0, by have := h.c1; omega, h.d0, h.d1⟩
def mixN (a b c : Int) : Int := ((((a * 69069 + 104729 * b * b + 7919 * c + b) % 2147483647) * ((a * 69069 + 104729 * b * b + 7919 * c + b) % 2147483647) + 40503) % 2147483629 * 48271) % 2147483587
def drawN (p : Pu) (m : Int) : Int := if 0 < p.a then p.a % m else (0 * 2147483587 + mixN p.b (p.c + 1) p.d) % m
def drawP (p : Pu) (m : Int) : Pu := if 0 < p.a then { p with a := p.a / m } else { p with c := p.c + 1 }
theorem drawN_ge {p : Pu} {m : Int} (h : 0 < m) : 0 ≤ drawN p m ∧ drawN p m < m := by
  unfold drawN
  split
  · exact ⟨Int.emod_nonneg _ (by omega), Int.emod_lt_of_pos _ h⟩
  · exact ⟨Int.emod_nonneg _ (by omega), Int.emod_lt_of_pos _ h⟩
theorem drawP_ok {L : Nat} {p : Pu} {m : Int} (h : OkP L p) (hm : 0 < m) : OkP (L + 1) (drawP p m) := by
  unfold drawP
  split
  · exact ⟨Int.ediv_nonneg h.a0 (by omega), h.b0, h.b1, h.c0, by have := h.c1; show p.c ≤ _; omega, h.d0, h.d1⟩
  · exact ⟨h.a0, h.b0, h.b1, by show 0 ≤ p.c + 1; have := h.c0; omega, by show p.c + 1 ≤ _; have := h.c1; omega, h.d0, h.d1⟩
end DL
end
section
set_option Elab.async false
set_option linter.all false
set_option maxRecDepth 100000
namespace DL
open PySem PySem.Spec PyProof.Rows L2
def rListS : List V → Hp → VK → Prop := fun xs H Q => ∃ s : Str, xs = [.str s] ∧ s.length ≤ sizeLine ∧ ∀ q, H q = none → Q (.ref q) (upd H q (.lst (s.cps.toList.map fun c => V.str ⟨#[c]⟩)))
theorem call_list_S {X : Cx} (hc : X.calm = true) : CallR X (.type "list") rListS := by
  intro pins s σ H xs us Q I r h
  obtain ⟨x, rfl, hl, q⟩ := h
  cases r with
  | cons rx rn =>
  cases rn
  obtain ⟨t, rfl⟩ := (show ∃ t, _ = Value.str x t from rx)
  refine call_list_str (I.ok.hd hc) x t (fun h' tk acc c' hk e' hi => ?_) hl
  refine ⟨.ref s.heap.objs.size, upd H s.heap.objs.size (.lst (x.cps.toList.map fun c => V.str ⟨#[c]⟩)), I.laid hk (Nat.le_refl _) (show ObjOk X.prog X.w _ _ _ (.lst _) from ⟨by rw [List.length_map]; exact hl, acc.toList, c', vals_of_at ?_ fun j y u h1 h2 => ?_, by rw [Array.toArray_toList]; exact e'⟩), rfl, q _ (I.hok.fresh (Nat.le_refl _))⟩
  · rw [List.length_map, Array.length_toList, Array.length_toList, hi.1]
  · obtain ⟨c, tt, e1, rfl⟩ := hi.2 j u (by rw [← h2, Array.getElem?_toList])
    rw [List.getElem?_map] at h1
    rw [Array.getElem?_toList, e1] at h1
    cases h1
    exact ⟨tt, rfl⟩
variable [TL]
theorem RpA.sgns {F : Hp} {l : List Nat} : RpA F (l.map fun c => V.str ⟨#[c]⟩) (l.map fun c => D.str ⟨#[c]⟩) := by
  induction l with
  | nil => exact .nil
  | cons c l ih => exact .cons (.str _) ih
theorem de_listS {X : Cx} {δ δ1 : List DV} {a : Expr} {s : Str} {p1 pos : Pos} (hcm : X.calm = true) (hg : Gl X "list") (hm : X.mg "list" = none) (ha : DE X δ a (.d (.str s)) δ1) (hl : s.length ≤ sizeLine) (he : starEach [a] X.env = (false, eval a X.env) :: starEach [] X.env := by rfl) : DE X δ (.Call (.Name "list" p1) [a] [] pos) (.ow (sgns s)) δ1 :=
  de_tyL (call_list_S hcm) hg hm boot_list (da_cons ha da_nil he) (fun F H σ vs Q ex h k => by
    obtain ⟨v, rfl, rv⟩ := AVs.one h
    cases rv
    exact ⟨s, rfl, hl, fun p hp => k p _ hp RpA.sgns⟩) (he := he)
theorem de_callQ {X : Cx} {δ δ1 δ' : List DV} {e : Expr} {es : List Expr} {as : List AV} {pos p1 : Pos} {k : Nat} {x : Str} {ps : List Str} {R : RelD} {RX : RelX} (i : Nat) (xs ys : List D) (r : DV) (G : FD X.prog X.w X.K X.mg X.base k x ps R RX) (hr : Room k X.A) (hg : Gl X x) (ha : DA X δ (e :: es) (.sl i :: as) δ1) (hn : AV.noSl as = true) (hi : δ1[i]? = some (.ow xs))
    (hR : R (.ow xs :: as.map (AV.dv δ1)) r (.ow ys :: as.map (AV.dv δ1))) (hδ : δ1.set i (.ow ys) = δ' := by rfl)
    (hdb : (x == ("__debug__" : Str)) = false := by decide) (he : starEach (e :: es) X.env = (false, eval e X.env) :: starEach es X.env := by rfl) (hpl : (backTo pos (starEach es X.env)).any (·.1) = false := by rfl) : DE X δ (.Call (.Name x p1) (e :: es) [] pos) r δ' := hδ ▸ de_callP G hr hg ha hn hi hR hdb he hpl
theorem took_all (r : Nat → D) (n : Nat) : took (fun _ => true) r n = (List.range n).map r := by
  unfold took
  simp [List.flatMap_singleton', List.map_eq_flatMap]
theorem sgns_len (s : Str) : (sgns s).length = s.length := by simp [sgns, Str.length]
/-! ### purses, words -/
def cutI (ns : List Int) (i j : Option Int) : List Int := (ns.drop (HT.sIx ns.length 0 i)).take (HT.sIx ns.length ns.length j - HT.sIx ns.length 0 i)
theorem cut_ints {ns : List Int} {i j : Option Int} : D.cut (ns.map D.int) i j = (cutI ns i j).map D.int := by
  unfold D.cut cutI
  rw [List.length_map, List.map_take, List.map_drop]
def seedN (ns : List Int) (at_ : Int) : Int := (cutI ns (some at_) (some (at_ + 1))).sum
def bigM : Int := (10 ^ (60 : Int).toNat) ^ (8 : Int).toNat
def purse0 (ns : List Int) (at_ : Int) : Pu := ⟨max (seedN ns at_ - 10 ^ (18 : Int).toNat) 0 % bigM, seedN ns at_ % 2147483629, 0, at_⟩
theorem purse0_ok {ns : List Int} {at_ : Int} (h0 : 0 ≤ at_) (h1 : at_ ≤ 2 ^ 31) : OkP 0 (purse0 ns at_) :=
  ⟨Int.emod_nonneg _ (by decide +kernel), Int.emod_nonneg _ (by decide), Int.lt_trans (Int.emod_lt_of_pos _ (by decide)) (by decide), Int.le_refl _, Int.le_refl _, h0, h1⟩
/-- one of some -/
def oneOf (p : Pu) (xs : List D) : D := xs.getD (drawN p xs.length).toNat .non
theorem oneOf_at {p : Pu} {xs : List D} (h : 0 < xs.length) : L2.atI xs (drawN p xs.length) = some (oneOf p xs) := by
  obtain ⟨h1, h2⟩ := drawN_ge (p := p) (m := (xs.length : Int)) (by omega)
  have e : drawN p (xs.length : Int) = ((drawN p (xs.length : Int)).toNat : Int) := by omega
  unfold oneOf
  rw [e, Int.toNat_natCast]
  refine L2.atI_nat ?_
  have hl : (drawN p (xs.length : Int)).toNat < xs.length := by omega
  rw [List.getD_eq_getElem?_getD, List.getElem?_eq_getElem hl]
  rfl
theorem oneOf_mem {p : Pu} {xs : List D} (h : 0 < xs.length) : oneOf p xs ∈ xs := by
  obtain ⟨h1, h2⟩ := drawN_ge (p := p) (m := (xs.length : Int)) (by omega)
  have hl : (drawN p (xs.length : Int)).toNat < xs.length := by omega
  unfold oneOf
  rw [List.getD_eq_getElem?_getD, List.getElem?_eq_getElem hl]
  exact List.getElem_mem hl
abbrev alpha : Str := "abcdefghijklmnopqrstuvwxyz"
def kinds : List D := [.int 2, .int 5, .int 26]
def kindN (p : Pu) : Int := match oneOf p kinds with
  | .int i => i
  | _ => 2
theorem kind_eq (p : Pu) : oneOf p kinds = .int (kindN p) ∧ (kindN p = 2 ∨ kindN p = 5 ∨ kindN p = 26) := by
  have := oneOf_mem (p := p) (xs := kinds) (by decide)
  unfold kindN
  simp only [kinds, List.mem_cons, List.mem_singleton, List.not_mem_nil, or_false] at this
  rcases this with e | e | e <;> (rw [show oneOf p kinds = _ from e]; exact ⟨rfl, by simp⟩)
def some_ (p : Pu) : List D := sgns (cutS alpha none (some (kindN p)))
def signN (p : Pu) : D := oneOf (drawP p 3) (some_ p)
def signP (p : Pu) : Pu := drawP (drawP p 3) (some_ p).length
def isSg (d : D) : Prop := ∃ c : Nat, 97 ≤ c ∧ c ≤ 122 ∧ d = .str ⟨#[c]⟩
theorem some_len (p : Pu) : (some_ p).length = (kindN p).toNat ∧ ∀ d ∈ some_ p, isSg d := by
  unfold some_
  rcases (kind_eq p).2 with h | h | h <;> rw [h]
  · exact ⟨by decide +kernel, fun d hd => by
      obtain ⟨c, hc, rfl⟩ := List.mem_map.mp hd
      have : ∀ c ∈ (cutS alpha none (some 2)).cps.toList, 97 ≤ c ∧ c ≤ 122 := by decide +kernel
      exact ⟨c, (this c hc).1, (this c hc).2, rfl⟩⟩
  · exact ⟨by decide +kernel, fun d hd => by
      obtain ⟨c, hc, rfl⟩ := List.mem_map.mp hd
      have : ∀ c ∈ (cutS alpha none (some 5)).cps.toList, 97 ≤ c ∧ c ≤ 122 := by decide +kernel
      exact ⟨c, (this c hc).1, (this c hc).2, rfl⟩⟩
  · exact ⟨by decide +kernel, fun d hd => by
      obtain ⟨c, hc, rfl⟩ := List.mem_map.mp hd
      have : ∀ c ∈ (cutS alpha none (some 26)).cps.toList, 97 ≤ c ∧ c ≤ 122 := by decide +kernel
      exact ⟨c, (this c hc).1, (this c hc).2, rfl⟩⟩
theorem some_pos (p : Pu) : 0 < (some_ p).length ∧ (some_ p).length ≤ 26 := by
  rw [(some_len p).1]
  rcases (kind_eq p).2 with h | h | h <;> rw [h] <;> decide
theorem signN_sg (p : Pu) : isSg (signN p) := (some_len p).2 _ (oneOf_mem (some_pos p).1)
theorem signP_ok {L : Nat} {p : Pu} (h : OkP L p) : OkP (L + 2) (signP p) := drawP_ok (drawP_ok h (by decide)) (by have := (some_pos p).1; omega)
def signPs (p : Pu) : Nat → Pu
  | 0 => p
  | j + 1 => signP (signPs p j)
theorem signPs_ok {L : Nat} {p : Pu} (h : OkP L p) : ∀ j, OkP (L + 2 * j) (signPs p j)
  | 0 => h
  | j + 1 => by have := signP_ok (signPs_ok h j); exact this.mono (by omega)
def strOf : D → Str
  | .str s => s
  | _ => ""
def wordN (p : Pu) (n : Nat) : Str := Txt.join "" ((List.range n).map fun j => strOf (signN (signPs p j)))
end DL
end
section
set_option Elab.async false
set_option linter.all false
set_option maxRecDepth 100000
set_option maxHeartbeats 4000000
namespace N01
open PySem PySem.Spec PyProof.Rows L2 DL Hd
variable [TL]
/-! ### the word of a purse -/
def fives : List D := [.str "send", .str "take", .str "lie", .str "to", .str "from"]
def az : Str := "abcdefghijklmnopqrstuvwxyz"
def nth (p : Pu) : Nat → Pu
  | 0 => p
  | j + 1 => drawP (nth p j) 26
theorem nth_ok {L : Nat} {p : Pu} (h : OkP L p) : ∀ j, OkP (L + j) (nth p j)
  | 0 => h
  | j + 1 => drawP_ok (nth_ok h j) (by decide)
def lettr (p : Pu) : Str := ⟨#[97 + (drawN p 26).toNat]⟩
theorem az_at (p : Pu) : L2.atI az.cps.toList (drawN p 26) = some (97 + (drawN p 26).toNat) := by
  have h := drawN_ge (p := p) (m := 26) (by decide)
  obtain ⟨n, hn, hl⟩ : ∃ n : Nat, drawN p 26 = (n : Int) ∧ n < 26 := ⟨(drawN p 26).toNat, by omega, by omega⟩
  rw [hn, Int.toNat_natCast]
  refine L2.atI_nat ?_
  have : ∀ n < 26, az.cps.toList[n]? = some (97 + n) := by decide +kernel
  exact this n hl
/-- how long the word is to be; the purse behind -/
def mostN (p : Pu) : Int := if drawN p 3 = 0 then 8 else 3
def longN (p : Pu) : Nat := (1 + drawN (drawP p 3) (mostN p)).toNat
def longP (p : Pu) : Pu := drawP (drawP p 3) (mostN p)
theorem mostN_le (p : Pu) : 0 < mostN p ∧ mostN p ≤ 8 := by unfold mostN; split <;> decide
theorem longN_le (p : Pu) : longN p ≤ 8 := by
  have h := drawN_ge (p := drawP p 3) (mostN_le p).1
  have := (mostN_le p).2
  unfold longN
  omega
def spelt (p : Pu) (n : Nat) : Str := Txt.join "" ((List.range n).map fun j => lettr (nth p j))
def wordD (p : Pu) : D := if drawN p 8 = 0 then oneOf (drawP p 8) fives else .str (spelt (longP (drawP p 8)) (longN (drawP p 8)))
def wordP (p : Pu) : Pu := if drawN p 8 = 0 then drawP (drawP p 8) 5 else nth (longP (drawP p 8)) (longN (drawP p 8))
theorem wordP_ok {L : Nat} {p : Pu} (h : OkP L p) : OkP (L + 20) (wordP p) := by
  have h1 := drawP_ok (m := 8) h (by decide)
  unfold wordP
  split
  · exact (drawP_ok h1 (by decide)).mono (by omega)
  · have h2 := drawP_ok (drawP_ok (m := 3) h1 (by decide)) (mostN_le (drawP p 8)).1
    have := longN_le (drawP p 8)
    exact (nth_ok h2 _).mono (by omega)
/-! ### plain words -/
def ofCs (cs : List Nat) : Str := ⟨cs.toArray⟩
/-- a word: one to eight small letters -/
structure Wd (s : Str) : Prop where
  ex : ∃ cs : List Nat, cs.length ≤ 8 ∧ (∀ c ∈ cs, 97 ≤ c ∧ c ≤ 122) ∧ s = ofCs cs
theorem glue_cs (cs : List Nat) : Txt.join "" (cs.map fun n => (⟨#[n]⟩ : Str)) = ofCs cs := by
  rw [show Txt.join "" (cs.map fun n => (⟨#[n]⟩ : Str)) = Str.join "" (cs.map fun n => (⟨#[n]⟩ : Str)) from PySem.StrLaws.glued_eq_join _ _]
  have := PyProof.Rows.join_nil_signs (ofCs cs)
  have e : PyProof.Rows.signs (ofCs cs) = cs.map fun n => (⟨#[n]⟩ : Str) := by unfold PyProof.Rows.signs ofCs; simp
  rw [e] at this
  exact this
theorem spelt_wd (p : Pu) {n : Nat} (h : n ≤ 8) : Wd (spelt p n) := by
  refine ⟨(List.range n).map fun j => 97 + (drawN (nth p j) 26).toNat, by simpa using h, fun c hc => ?_, ?_⟩
  · obtain ⟨j, _, rfl⟩ := List.mem_map.mp hc
    have := drawN_ge (p := nth p j) (m := 26) (by decide)
    omega
  · unfold spelt
    rw [← glue_cs, List.map_map]
    rfl
theorem Wd.of {s : Str} (cs : List Nat) (e : s = ofCs cs) (h : (decide (cs.length ≤ 8) && cs.all fun c => decide (97 ≤ c) && decide (c ≤ 122)) = true) : Wd s := by
  simp only [Bool.and_eq_true, List.all_eq_true, decide_eq_true_eq] at h
  exact ⟨cs, h.1, h.2, e⟩
theorem wordD_wd (p : Pu) : ∃ s, wordD p = .str s ∧ Wd s := by
  unfold wordD
  split
  · have := oneOf_mem (p := drawP p 8) (xs := fives) (by decide)
    generalize oneOf (drawP p 8) fives = d at this
    simp only [fives, List.mem_cons, List.not_mem_nil, or_false] at this
    rcases this with rfl | rfl | rfl | rfl | rfl
    · exact ⟨_, rfl, .of [115, 101, 110, 100] (by decide +kernel) (by decide)⟩
    · exact ⟨_, rfl, .of [116, 97, 107, 101] (by decide +kernel) (by decide)⟩
    · exact ⟨_, rfl, .of [108, 105, 101] (by decide +kernel) (by decide)⟩
    · exact ⟨_, rfl, .of [116, 111] (by decide +kernel) (by decide)⟩
    · exact ⟨_, rfl, .of [102, 114, 111, 109] (by decide +kernel) (by decide)⟩
  · exact ⟨_, rfl, spelt_wd _ (longN_le _)⟩
theorem Wd.len {s : Str} (h : Wd s) : s.length ≤ 8 := by
  obtain ⟨cs, h1, _, rfl⟩ := h.ex
  simpa [ofCs, Str.length] using h1
theorem Wd.cs {s : Str} (h : Wd s) : ∀ c ∈ s.cps.toList, c ≤ 122 := by
  obtain ⟨cs, _, h2, rfl⟩ := h.ex
  intro c hc
  exact (h2 c (by simpa [ofCs] using hc)).2
end N01
end
section
set_option Elab.async false
set_option linter.all false
set_option maxRecDepth 100000
set_option maxHeartbeats 4000000
namespace N01
open PySem PySem.Spec PyProof.Rows L2 DL Hd
variable [TL]
section
variable {X : Cx} {δ δ1 δ2 : List DV} {a b : Expr} {pos : Pos}
theorem de_sign {s : Str} {i : Int} {n : Nat} (ha : DE X δ a (.d (.str s)) δ1) (hb : DE X δ1 b (.d (.int i)) δ2) (hs : s.length ≤ sizeLine) (hi : L2.atI s.cps.toList i = some n) (hp : PlainIx b := by exact fun _ _ => rfl) : DE X δ (.Subscript a b pos) (.d (.str ⟨#[n]⟩)) δ2 := (pe_ix ix_str ha hb hp).imp fun _ _ _ h => op_d (fun F H v u Q e rv ru k => by
  cases rv; cases ru
  exact ⟨_, _, _, rfl, rfl, hs, hi, k _ (.str _)⟩) h
theorem dt_eqI {i j : Int} {k : Bool} (ha : DE X δ a (.d (.int i)) δ1) (hb : DE X δ1 b (.d (.int j)) δ2) (hk : decide (i = j) = k) : DT X δ (.Compare a [.Eq] [b] pos) k δ2 := dt_cmp op_eq ha hb (fun F H v u Q e rv ru k' => by
  cases rv; cases ru
  refine ⟨rfl, k' _ ?_⟩
  have : decide (V.int i = V.int j) = decide (i = j) := by simp
  show Rp F (.bl (decide (V.int i = V.int j))) _
  rw [this, hk]
  exact .bl k) (nomark _)
end
variable {P : Program} {w : World} {K : PySem.W.Frag} {mg : Str → Option Value} {base : Heap}
theorem le_sz {k : Nat} (h : k ≤ 1000) : k ≤ sizeLine := Nat.le_trans h (by decide)
theorem sc_mixed : FnScope ["seed", "spin", "at", "mixed"] ["seed", "spin", "at"] (defScope s__law_mixed) := ⟨rfl, rfl, rfl, by decide +kernel, rfl, by decide +kernel, by decide +kernel⟩
def RMix : RelD := fun args r args' => ∃ a b c : Int, 0 ≤ b ∧ b < 2 ^ 62 ∧ args = [.d (.int a), .d (.int b), .d (.int c)] ∧ r = .d (.int (mixN a b c)) ∧ args' = args
theorem fd_mixed (B : Bn mg) (D1 : Df K mg "_law_mixed" s__law_mixed) : FD P w K mg base 1 "_law_mixed" ["seed", "spin", "at"] RMix noX :=
  D1.fd (fun _ _ _ _ _ _ us hl => match us, hl with | [_, _, _], _ => rfl) fun f fd F => fn_rel0 F sc_mixed (fun _ _ _ ⟨_, _, _, _, _, h, _⟩ => by rw [h]; rfl) (fun cdv A outer s H E hr args r args' ⟨a, b, c, b0, b1, e1, e2, e3⟩ => by
    subst e1 e2 e3
    have m1 : 0 ≤ (a * 69069 + 104729 * b * b + 7919 * c + b) % 2147483647 ∧ (a * 69069 + 104729 * b * b + 7919 * c + b) % 2147483647 < 2147483647 := ⟨Int.emod_nonneg _ (by decide), Int.emod_lt_of_pos _ (by decide)⟩
    exact ret0 (dss_cons (ds_set (i := 3) sc_mixed.nd rfl (.inl rfl) (by simp) (de_add (de_mul (de_v 0) de_int (.inr (by decide))) (de_mul (de_mul de_int (de_v 1) (.inl (by decide))) (de_v 1) (.inr (by omega)))))
      (dss_cons (ds_set (i := 3) sc_mixed.nd rfl (.inl rfl) (by simp) (de_mod (de_intI rfl B.int (de_add (de_add (de_v 3) (de_mul de_int (de_v 2) (.inl (by decide)))) (de_v 1))) de_int (by decide)))
      (dss_cons (ds_set (i := 3) sc_mixed.nd rfl (.inl rfl) (by simp) (de_mod (de_intI rfl B.int (de_add (de_mul (de_v 3) (de_v 3) (.inl (by omega))) de_int)) de_int (by decide)))
      (dss_one (ds_ret (de_mod (de_intI rfl B.int (de_mul (de_v 3) de_int (.inr (by decide)))) de_int (by decide))))))) rfl)
theorem sc_draw : FnScope ["dice", "many", "drawn", "found", "piece"] ["dice", "many"] (defScope s__law_draw) := ⟨rfl, rfl, rfl, by decide +kernel, rfl, by decide +kernel, by decide +kernel⟩
def RDraw (L : Nat) : RelD := fun args r args' => ∃ (p : Pu) (m : Int), OkP L p ∧ 0 < m ∧ m < 2 ^ 27 ∧ args = [.ow (pz p), .d (.int m)] ∧ r = .d (.int (drawN p m)) ∧ args' = [.ow (pz (drawP p m)), .d (.int m)]
theorem bits_small {m : Int} (h : 0 < m) (h2 : m < 2 ^ 27) : (1 : Int) + (Builtin.Int.intBits m : Nat) / 28 = 1 := by
  have : Builtin.Int.intBits m < 28 := by
    have z : m.natAbs ≠ 0 := by omega
    have := (Nat.log2_lt (n := m.natAbs) (k := 27) z).mpr (by omega)
    unfold Builtin.Int.intBits
    split <;> omega
  omega
theorem fd_draw (B : Bn mg) {L : Nat} (hL : L ≤ 2 ^ 60) (D0 : Df K mg "_law_mixed" s__law_mixed) (D1 : Df K mg "_law_draw" s__law_draw) : FD P w K mg base 2 "_law_draw" ["dice", "many"] (RDraw L) noX :=
  D1.fd (fun _ _ _ _ _ _ us hl => match us, hl with | [_, _], _ => rfl) fun f fd F => fn_rel0 F sc_draw (fun _ _ _ ⟨_, _, _, _, _, h, _⟩ => by rw [h]; rfl) (fun cdv A outer s H E hr args r args' ⟨p, m, op, m0, m1, e1, e2, e3⟩ => by
    subst e1 e2 e3
    have d0 := op.d0
    have d1 := op.d1
    have c0 := op.c0
    have c1 := op.c1
    by_cases h : 0 < p.a
    · have eN : drawN p m = p.a % m := if_pos h
      have eP : drawP p m = { p with a := p.a / m } := if_pos h
      rw [eN, eP]
      exact ret1 (ys := pz { p with a := p.a / m }) (dss_stop (ds_ifT (dt_gt (de_ixo 0 (xs := pz p) (z := .int p.a) de_int rfl) de_int (decide_eq_true h)) rfl
        (dss_cons (ds_set (i := 2) sc_draw.nd rfl (.inl rfl) (by simp) (de_mod (de_intI rfl B.int (de_ixo 0 (xs := pz p) (z := .int p.a) de_int rfl)) (de_v 1) m0))
        (dss_cons (ds_setix (i := 0) (xs := pz p) (m := 0) rfl (.inl rfl) (de_fdiv (de_ixo 0 (xs := pz p) (z := .int p.a) de_int rfl) (de_v 1) ⟨m0, Nat.lt_trans ((Nat.log2_lt (n := m.natAbs) (k := 27) (by omega)).mpr (by omega)) (by decide)⟩) ⟨_, rfl⟩ de_int rfl rfl)
        (dss_one (ds_ret (de_v 2)))))) (fun _ h => nomatch h)) rfl rfl
    · have eN : drawN p m = (0 * 2147483587 + mixN p.b (p.c + 1) p.d) % m := if_neg h
      have eP : drawP p m = { p with c := p.c + 1 } := if_neg h
      rw [eN, eP]
      refine ret1 (ys := pz { p with c := p.c + 1 }) (dss_cons (ds_ifF (dt_gt (de_ixo 0 (xs := pz p) (z := .int p.a) de_int rfl) de_int (decide_eq_false h)) rfl dss_nil)
        (dss_cons (ds_set (i := 3) sc_draw.nd rfl (.inl rfl) (by simp) de_int)
        (dss_cons (ds_for (items := [D.int 0]) (X := cxOf (L2.CX P w) P w K mg base ["dice", "many", "drawn", "found", "piece"] "_law_draw" (defScope s__law_draw) f cdv A outer s H E) (passes_of rfl) rfl (di_to (di_range1 rfl B.rng (de_add de_int (de_fdiv (de_bits (de_v 1)) de_int (by exact ⟨by decide, by decide⟩))) ?_) ?_)
          (fun j => if j = 0 then [.ow (pz p), .d (.int m), .un, .d (.int 0), .un] else [.ow (pz { p with c := p.c + 1 }), .d (.int m), .un, .d (.int (0 * 2147483587 + mixN p.b (p.c + 1) p.d)), .d (.int 0)]) (fun _ => [.ow (pz p), .d (.int m), .un, .d (.int 0), .d (.int 0)]) rfl (fun j d hd => ?_) (fun j d hj hd => ?_))
        (dss_one (ds_ret (de_mod (de_intI rfl B.int (de_v 3)) (de_v 1) m0)))))) rfl rfl
      · have := bits_small m0 m1; omega
      · rw [bits_small m0 m1]; show irange 0 1 = [D.int 0]; rfl
      · have ej : j = 0 := by
          match j, hd with
          | 0, _ => rfl
        subst ej
        cases hd
        exact dg_name (X := cxOf (L2.CX P w) P w K mg base ["dice", "many", "drawn", "found", "piece"] "_law_draw" (defScope s__law_draw) f cdv A outer s H E) (i := 4) sc_draw.nd rfl (.inl rfl) (by simp)
      · have ej : j = 0 := by simpa using hj
        subst ej
        exact dss_to (dss_cons (ds_setix (i := 0) (xs := pz p) (m := 2) rfl (.inl rfl) (de_add (de_ixo 0 (xs := pz p) (z := .int p.c) de_int rfl) de_int) ⟨_, rfl⟩ de_int rfl rfl)
          (dss_one (ds_set (i := 3) sc_draw.nd rfl (.inl rfl) (by simp) (de_add (de_mul (de_v 3) de_int (.inr (by decide))) (de_call (r := .d (.int (mixN p.b (p.c + 1) p.d))) (fd_mixed B D0) hr rfl (da_cons (de_ixo 0 (xs := pz { p with c := p.c + 1 }) (z := .int p.b) de_int rfl) (da_cons (de_ixo 0 (xs := pz { p with c := p.c + 1 }) (z := .int (p.c + 1)) de_int rfl) (da_cons (de_ixo 0 (xs := pz { p with c := p.c + 1 }) (z := .int p.d) de_int rfl) da_nil))) rfl ⟨_, _, _, by omega, by omega, rfl, rfl, rfl⟩))))) rfl)
theorem sc_one_of : FnScope ["dice", "some"] ["dice", "some"] (defScope s__law_one_of) := ⟨rfl, rfl, rfl, by decide +kernel, rfl, by decide +kernel, by decide +kernel⟩
def ROne (L : Nat) : RelD := fun args r args' => ∃ (p : Pu) (xs : List D), OkP L p ∧ 0 < xs.length ∧ xs.length < 2 ^ 20 ∧ args = [.ow (pz p), .d (.lst xs)] ∧ r = .d (oneOf p xs) ∧ args' = [.ow (pz (drawP p xs.length)), .d (.lst xs)]
/-- the purse's defs -/
structure DfP (K : PySem.W.Frag) (mg : Str → Option Value) : Prop where
  B : Bn mg
  mixed : Df K mg "_law_mixed" s__law_mixed
  draw : Df K mg "_law_draw" s__law_draw
  one : Df K mg "_law_one_of" s__law_one_of
  word : Df K mg "_law_word" s__law_word
  purse : Df K mg "_law_purse" s__law_purse
  purses : Df K mg "_law_purses" s__law_purses
theorem fd_one_of (T : DfP K mg) {L : Nat} (hL : L ≤ 2 ^ 60) : FD P w K mg base 3 "_law_one_of" ["dice", "some"] (ROne L) noX :=
  T.one.fd (fun _ _ _ _ _ _ us hl => match us, hl with | [_, _], _ => rfl) fun f fd F => fn_rel0 F sc_one_of (fun _ _ _ ⟨_, _, _, _, _, h, _⟩ => by rw [h]; rfl) (fun cdv A outer s H E hr args r args' ⟨p, xs, op, h0, h1, e1, e2, e3⟩ => by
    subst e1 e2 e3
    exact ret1 (ys := pz (drawP p xs.length)) (dss_one (ds_ret (de_ixL (de_v 1) (de_callQ 0 (pz p) (pz (drawP p xs.length)) (.d (.int (drawN p xs.length))) (fd_draw T.B hL T.mixed T.draw) hr rfl (da_o 0 (da_cons (de_len rfl T.B.len (de_v 1) rfl) da_nil)) rfl rfl ⟨p, xs.length, op, by omega, by omega, rfl, rfl, rfl⟩) (oneOf_at h0)))) rfl rfl)
theorem sc_purse : FnScope ["script", "at", "seed"] ["script", "at"] (defScope s__law_purse) := ⟨rfl, rfl, rfl, by decide +kernel, rfl, by decide +kernel, by decide +kernel⟩
def RPur (K : PySem.W.Frag) : RelD := fun args r args' => ∃ (ns : List Int) (a : Int), args = [.pr (prS K ns), .d (.int a)] ∧ r = .ow (pz (purse0 ns a)) ∧ args' = args
theorem fd_purse (B : Bn mg) (D1 : Df K mg "_law_purse" s__law_purse) : FD P w K mg base 1 "_law_purse" ["script", "at"] (RPur K) noX :=
  D1.fd (fun _ _ _ _ _ _ us hl => match us, hl with | [_, _], _ => rfl) fun f fd F => fn_rel0 F sc_purse (fun _ _ _ ⟨_, _, h, _⟩ => by rw [h]; rfl) (fun cdv A outer s H E hr args r args' ⟨ns, a, e1, e2, e3⟩ => by
    subst e1 e2 e3
    exact ret0 (dss_cons (ds_set (x := .int (seedN ns a)) (i := 2) sc_purse.nd rfl (.inl rfl) (by simp) (de_sum (ns := cutI ns (some a) (some (a + 1))) rfl rfl B.sum (de_to (de_frz (de_slP (ns := ns) (de_vp 0) (do_some (de_v 1)) (do_some (de_add (de_v 1) de_int)))) (by rw [cut_ints]))))
      (dss_one (ds_ret (de_lst (da_cons (de_mod (de_intI rfl B.int (de_max2 rfl rfl B.max (de_sub (de_v 2) (de_pow de_int de_int ⟨by decide, by decide, by decide⟩)) de_int)) (de_powW (de_pow de_int de_int ⟨by decide, by decide, by decide⟩) de_int ⟨by decide, by decide +kernel⟩) (by decide +kernel))
        (da_cons (de_mod (de_intI rfl B.int (de_v 2)) de_int (by decide)) (da_cons de_int (da_cons (de_v 1) da_nil)))) rfl (by show 4 ≤ sizeLine; decide))))) rfl)
theorem sc_purses : FnScope ["script", "few", "at"] ["script", "few"] (defScope s__law_purses) := ⟨rfl, rfl, rfl, by decide +kernel, rfl, by decide +kernel, by decide +kernel⟩
/-- one purse, in a list -/
def RPs (K : PySem.W.Frag) : RelD := fun args r args' => ∃ (ns : List Int), args = [.pr (prS K ns), .d (.int 1)] ∧ r = .ow [.lst (pz (purse0 ns 0))] ∧ args' = args
theorem fd_purses (T : DfP K mg) : FD P w K mg base 2 "_law_purses" ["script", "few"] (RPs K) noX :=
  T.purses.fd (fun _ _ _ _ _ _ us hl => match us, hl with | [_, _], _ => rfl) fun f fd F => fn_rel0 F sc_purses (fun _ _ _ ⟨_, h, _⟩ => by rw [h]; rfl) (fun cdv A outer s H E hr args r args' ⟨ns, e1, e2, e3⟩ => by
    subst e1 e2 e3
    have B := T.B
    refine ret0 (δ' := [.pr (prS K ns), .d (.int 1), .un]) (dss_one (ds_ret (de_to (de_lcM (X := cxOf (L2.CX P w) P w K mg base ["script", "few", "at"] "_law_purses" (defScope s__law_purses) f cdv A outer s H E) (f := fun _ => .lst (pz (purse0 ns 0))) (items := irange 0 1) 2 rfl sc_purses.nd
      (di_to (di_range1 (n := max 1 (min 1 (ns.length : Int))) rfl B.rng (de_max2 rfl rfl B.max de_int (de_min2 rfl rfl B.min (de_v 1) (de_lenP rfl B.len (de_vp 0)))) (by omega)) (by congr 1; omega)) (blk_by ["script", "few", "at"] (defScope s__law_purses) (by decide +kernel)) rfl rfl (fun _ _ _ _ _ => .inl rfl) (fun _ _ _ _ _ => .inr rfl) (fun s' H' C' cl' fp' d hd => ?_) (by rw [irange_len]; decide)) ?_))) rfl
    · have e : d = .int 0 := by
        have : irange 0 1 = [D.int 0] := rfl
        rw [this] at hd
        simpa using hd
      subst e
      exact de_frz (de_call (r := .ow (pz (purse0 ns 0))) (fd_purse B T.purse) (hr.mono (by decide)) rfl (da_pr (de_vp 0) (da_cons (de_v 2) da_nil)) rfl ⟨ns, 0, rfl, rfl, rfl⟩)
    · rfl)
theorem sc_word : FnScope ["dice", "size", "spin"] ["dice"] (defScope s__law_word) := ⟨rfl, rfl, rfl, by decide +kernel, rfl, by decide +kernel, by decide +kernel⟩
def RWord (L : Nat) : RelD := fun args r args' => ∃ p : Pu, OkP L p ∧ args = [.ow (pz p)] ∧ r = .d (wordD p) ∧ args' = [.ow (pz (wordP p))]
theorem fd_word (T : DfP K mg) {L : Nat} (hL : L + 300 ≤ 2 ^ 60) : FD P w K mg base 4 "_law_word" ["dice"] (RWord L) noX :=
  T.word.fd (fun _ _ _ _ _ _ us hl => match us, hl with | [_], _ => rfl) fun f fd F => fn_rel0 F sc_word (fun _ _ _ ⟨_, _, h, _⟩ => by rw [h]; rfl) (fun cdv A outer s H E hr args r args' ⟨p, op, e1, e2, e3⟩ => by
    subst e1 e2 e3
    have B := T.B
    have op1 : OkP (L + 1) (drawP p 8) := drawP_ok op (by decide)
    have big : sizeLine = 16777216 := by decide
    by_cases h : drawN p 8 = 0
    · have eD : wordD p = oneOf (drawP p 8) fives := if_pos h
      have eP : wordP p = drawP (drawP p 8) 5 := if_pos h
      rw [eD, eP]
      exact ret1 (ys := pz (drawP (drawP p 8) 5)) (dss_stop (ds_ifT (dt_eqI (de_callQ 0 (pz p) (pz (drawP p 8)) (.d (.int (drawN p 8))) (fd_draw B (L := L) (by omega) T.mixed T.draw) (hr.mono (by decide)) rfl (da_o 0 (da_cons de_int da_nil)) rfl rfl ⟨p, 8, op, by decide, by decide, rfl, rfl, rfl⟩) de_int (decide_eq_true h)) rfl
        (dss_one (ds_ret (de_callQ 0 (pz (drawP p 8)) (pz (drawP (drawP p 8) 5)) (.d (oneOf (drawP p 8) fives)) (fd_one_of T (L := L + 1) (by omega)) (hr.mono (by decide)) rfl (da_o 0 (da_cons (de_frz (de_lst (ds := fives) (da_cons de_str (da_cons de_str (da_cons de_str (da_cons de_str (da_cons de_str da_nil))))) rfl (by decide))) da_nil)) rfl rfl ⟨_, fives, op1, by decide, by decide, rfl, rfl, rfl⟩)))) (fun _ h => nomatch h)) rfl rfl
    · have eD : wordD p = .str (spelt (longP (drawP p 8)) (longN (drawP p 8))) := if_neg h
      have eP : wordP p = nth (longP (drawP p 8)) (longN (drawP p 8)) := if_neg h
      rw [eD, eP]
      obtain ⟨q, hq⟩ : ∃ q, q = drawP p 8 := ⟨_, rfl⟩
      rw [← hq] at op1 ⊢
      have op2 : OkP (L + 2) (drawP q 3) := drawP_ok op1 (by decide)
      have mm := mostN_le q
      have op3 : OkP (L + 3) (longP q) := drawP_ok op2 mm.1
      have ln := longN_le q
      have eL : (1 : Int) + drawN (drawP q 3) (mostN q) = (longN q : Int) := by
        have := drawN_ge (p := drawP q 3) mm.1
        unfold longN
        omega
      refine ret1 (ys := pz (nth (longP q) (longN q))) (dss_cons (ds_ifF (δ1 := [.ow (pz q), .un, .un]) (dt_eqI (de_callQ 0 (pz p) (pz q) (.d (.int (drawN p 8))) (fd_draw B (L := L) (by omega) T.mixed T.draw) (hr.mono (by decide)) rfl (da_o 0 (da_cons de_int da_nil)) rfl rfl ⟨p, 8, op, by decide, by decide, rfl, rfl, by rw [hq]; rfl⟩) de_int (decide_eq_false h)) rfl dss_nil)
        (dss_cons (δ1 := [.ow (pz (longP q)), .d (.int (longN q)), .un]) (ds_set (i := 1) (δ1 := [.ow (pz (longP q)), .un, .un]) sc_word.nd rfl (.inl rfl) (by simp) (de_to (de_add de_int (de_callQ 0 (pz (drawP q 3)) (pz (longP q)) (.d (.int (drawN (drawP q 3) (mostN q)))) (δ1 := [.ow (pz (drawP q 3)), .un, .un]) (fd_draw B (L := L + 2) (by omega) T.mixed T.draw) (hr.mono (by decide)) rfl (as := [.d (.int (mostN q))])
          (da_o 0 (δ2 := [.ow (pz (drawP q 3)), .un, .un]) (da_cons (de_to (de_if (t := decide (drawN q 3 = 0)) (ra := .d (.int 8)) (rb := .d (.int 3)) (δ1 := [.ow (pz (drawP q 3)), .un, .un]) (dt_eqI (de_callQ 0 (pz q) (pz (drawP q 3)) (.d (.int (drawN q 3))) (fd_draw B (L := L + 1) (by omega) T.mixed T.draw) (hr.mono (by decide)) rfl (da_o 0 (da_cons de_int da_nil)) rfl rfl ⟨q, 3, op1, by decide, by decide, rfl, rfl, rfl⟩) de_int rfl) (fun _ => de_int) (fun _ => de_int)) ?iff0) da_nil)) rfl rfl ⟨_, mostN q, op2, mm.1, by have := mm.2; omega, rfl, rfl, rfl⟩)) (by rw [eL])))
        (dss_one (ds_ret (de_to (de_join (s := "") (ts := (List.range (longN q)).map fun j => lettr (nth (longP q) j)) de_str (de_to (de_frz (de_lc_ (own := [("spin", 2)]) (δ1 := [.ow (pz (longP q)), .d (.int (longN q)), .un]) (items := irange 0 (longN q)) (X := cxOf (L2.CX P w) P w K mg base ["dice", "size", "spin"] "_law_word" (defScope s__law_word) f cdv A outer s H E) rfl sc_word.nd
          (di_to (di_range1 (n := (longN q : Int)) rfl B.rng (de_v 1) (by omega)) (by rw [Int.toNat_natCast]))
          (blk_by ["dice", "size", "spin"] (defScope s__law_word) (by decide +kernel))
          (fun j => [.ow (pz (nth (longP q) j)), .d (.int (longN q)), .un]) (fun j => [.ow (pz (nth (longP q) j)), .d (.int (longN q)), .d (.int (0 + (j : Int)))]) (fun j => [.ow (pz (nth (longP q) j)), .d (.int (longN q)), .d (.int (0 + (j : Int)))]) (fun j => [.ow (pz (nth (longP q) (j + 1))), .d (.int (longN q)), .d (.int (0 + (j : Int)))]) (fun _ => true) (fun j => .str (lettr (nth (longP q) j))) rfl (fun j => rfl)
          (fun s' H' C' cl' fp' j d hd => ?tgt) (fun s' H' C' cl' fp' j d hd => pts_yes) (fun s' H' C' cl' fp' j d hd _ => ?elt) (fun j _ => rfl) (by rw [irange_len]; omega) (fun v hv xs => ?own) (δ' := [.ow (pz (nth (longP q) (longN q))), .d (.int (longN q)), .un]) (by rw [irange_len]; rfl))) ?res) ?jl) rfl))))) rfl rfl
      case iff0 => unfold mostN; by_cases z : drawN q 3 = 0 <;> simp [z]
      case tgt =>
        have hj : j < longN q := by have := (List.getElem?_eq_some_iff.mp hd).1; rwa [irange_len] at this
        rw [irange_get hj] at hd
        cases hd
        exact dg_name (X := Cx.blk (cxOf (L2.CX P w) P w K mg base ["dice", "size", "spin"] "_law_word" (defScope s__law_word) f cdv A outer s H E) s' H' _ _ fp') (i := 2) sc_word.nd rfl (.inl rfl) (fun z => by have := (mem_pnv.mp z).2; simp at this) (.inr rfl)
      case elt =>
        have hj : j < longN q := by have := (List.getElem?_eq_some_iff.mp hd).1; rwa [irange_len] at this
        have oj := nth_ok op3 j
        exact de_sign (s := az) (i := drawN (nth (longP q) j) 26) de_str (de_callQ 0 (pz (nth (longP q) j)) (pz (nth (longP q) (j + 1))) (.d (.int (drawN (nth (longP q) j) 26))) (fd_draw B (L := L + 3 + j) (by omega) T.mixed T.draw) (hr.mono (by decide)) rfl (da_o 0 (da_cons de_int da_nil)) rfl rfl ⟨_, 26, oj, by decide, by decide, rfl, rfl, rfl⟩) (by decide) (az_at _)
      case own =>
        have : v = 2 := by simpa using hv
        subst this
        exact fun h => nomatch (Option.some.inj h)
      case res =>
        rw [took_all, irange_len, List.map_map]
        rfl
      case jl =>
        have e0 : ("" : Str).length = 0 := rfl
        rw [List.map_map, List.length_map, List.length_range, e0, Nat.mul_zero, Nat.add_zero]
        have : ∀ l : List Nat, (l.map ((fun x => x.length) ∘ fun j => lettr (nth (longP q) j))).sum = l.length := fun l => by
          induction l with
          | nil => rfl
          | cons a l ih => rw [List.map_cons, List.sum_cons, ih, List.length_cons]; show 1 + _ = _; omega
        rw [this, List.length_range]; omega)
end N01
end
section
set_option Elab.async false
set_option linter.all false
set_option maxRecDepth 100000
set_option maxHeartbeats 4000000
/-! DLmk: errors of the text made as values, by place, by name, by default. -/
namespace PySem
namespace HandSPX
open Builtin Builtin.ObjectAttr
section
variable {M : Model} {prog : Program} {w : World} {A : Around} {E : Value → Shared → Prop} {R : Result → Shared → Prop} {h : Heap} {g : Array GenState} {d : Drawn} {t : Nat} {os : OsState}
variable {nm q : Str} {C N fI : Addr} {bs bm bmB rest : List Value} {kw : List (Str × Value)} {hdct : Bool} {sn : List Str} {sub : List Value} {ab : Bool} {col : Option Bool} {dd : Option Addr} {k0 k1 k2 k3 k5 : Option Value} {B newId initId : String}
theorem xk_check (F : ExcBaseFacts B newId initId bmB) (hT : ∀ X : String, bm.contains (.type X) = bmB.contains (.type X)) {Q : Unit → Shared → Prop}
    (hC : h.get? C = some (excClassObj nm q C N bs bm hdct sn sub ab col dd k0 k1 k2 k3 k5 newId)) (z : Q () ⟨h, g, d, t, os⟩) : wpAny M A (checkBuiltinCall newId ⟨.ref C :: rest, kw⟩) Q E ⟨h, g, d, t, os⟩ := by
  have c1 : (Value.ref C :: bm).contains (.type B) = true := by rw [List.contains_cons, hT, F.hasB]; simp
  have c2 := F.noStar
  simp only [checkBuiltinCall, F.newKind, F.newSplit, F.newRow]
  repeat (first
    | refine wpAny_loadPart_at hC ?_
    | (refine wpAny_isSubtype_exc hC ?_; rw [c1])
    | refine wpAny_staticBase_exc hC ?_
    | refine wpAny_madeBy_exc hC ?_
    | simp only [bne_self_eq_false, Bool.false_eq_true, if_false]
    | wp_step)
  exact z
theorem xk_new (F : ExcBaseFacts B newId initId bmB) (hT : ∀ X : String, bm.contains (.type X) = bmB.contains (.type X))
    (hC : h.get? C = some (excClassObj nm q C N bs bm hdct sn sub ab col dd k0 k1 k2 k3 k5 newId)) (hz : rest.length ≤ sizeLine)
    (z : R (.ok (.ret (.ref (h.objs.size + 1)))) ⟨(h.push { cls := .type "tuple", data := .seq rest.toArray }).push { cls := .ref C, data := .fields #[.ref h.objs.size, .none, .none, .none, .bool false, .none] }, g, d, t, os⟩) :
    codeAny (model prog w) A (.builtin newId ⟨.ref C :: rest, kw⟩) R ⟨h, g, d, t, os⟩ := by
  have e0 := F.ends
  have e1 : (Value.ref C :: bm).contains (.type B) = true := by rw [List.contains_cons, hT, F.hasB]; simp
  have e2 : (Value.ref C :: bm).contains (.type "AttributeError") = false := by rw [List.contains_cons, hT, F.noAttr]; rfl
  have e3 : (Value.ref C :: bm).contains (.type "NameError") = false := by rw [List.contains_cons, hT, F.noName]; rfl
  refine codeAny_builtinAt F.entry ?_
  unfold Builtin.«BaseException.__new__»
  refine wpAt_bind ?_
  show wpAt _ _ _ (stack >>= _) _ _ _
  refine wpAt_bind (wpAt_stack fun p below => wpAt_of_wpAny ?_)
  wp_walk
  refine wpAt_of_wpAny ?_
  rw [F.owner]
  repeat (first
    | with_reducible refine wpAny_madeHere_exc F.canon hC ?_
    | with_reducible refine wpAny_loadPart_at hC ?_
    | (with_reducible refine wpAny_isSubtype_exc hC ?_; first | rw [e1] | rw [e2] | rw [e3])
    | wp_step)
  show R _ _
  rw [Heap.size_push]
  exact z
theorem xk_type (F : ExcBaseFacts B newId initId bmB) (hT : ∀ X : String, bm.contains (.type X) = bmB.contains (.type X)) {Q : Fin → Shared → Prop}
    (hC : h.get? C = some (excClassObj nm q C N bs bm hdct sn sub ab col dd k0 k1 k2 k3 k5 newId))
    (hi : W.Looks (model prog w) h (typeLookup (.ref C) "__init__") (some (.ref fI))) (hb : ∀ self, W.Looks (model prog w) h (bindSpecial (.ref fI) self) (.ref fI, [self])) (hz : rest.length ≤ sizeLine)
    (z : codeAny (model prog w) A (.call (.ref fI) ⟨.ref (h.objs.size + 1) :: rest, kw⟩)
      (fun r s' => match r with | .ok (.ret v) => v = .none ∧ Q (.done (.ret (.ref (h.objs.size + 1)))) s' | .ok _ => False | .error e => E e s')
      ⟨(h.push (W.kdv_tup rest)).push (excO C h.objs.size), g, d, t, os⟩) :
    wpAny (model prog w) A (Builtin.«type.__call__» ⟨.ref C :: rest, kw⟩) Q E ⟨h, g, d, t, os⟩ := by
  repeat (first
    | with_reducible refine wpAny_loadPart_at hC ?_
    | with_reducible refine wpAny_madeBy_exc hC ?_
    | wp_step)
  refine codeAny_call_builtin_code (Code.quiet_builtin _ F.quiet) (xk_check F hT hC ?_)
  refine xk_new F hT hC hz ?_
  show wpAny _ _ _ _ _ _
  have kk : ∀ b o, h.get? b = some o → ((h.push (W.kdv_tup rest)).push (excO C h.objs.size)).get? b = some o := fun b o e => Heap.get?_push_of_some _ (Heap.get?_push_of_some _ e)
  have hC2 := kk _ _ hC
  have hg2 : ((h.push (W.kdv_tup rest)).push (excO C h.objs.size)).get? (h.objs.size + 1) = some (excO C h.objs.size) := by heap_get
  have c3 : (Value.ref C :: bm).contains (.ref C) = true := by simp
  have l1 := hi.keeps kk
  have l2 := (hb (.ref (h.objs.size + 1))).keeps kk
  unfold isInstance
  repeat (first
    | with_reducible refine wpAny_loadPart_at hg2 ?_
    | (with_reducible refine wpAny_isSubtype_exc hC2 ?_; rw [c3])
    | wp_step)
  show wpAny _ _ (typeLookup (.ref C) _) _ _ _
  refine l1.at ?_
  refine wpAny_holding (wpAny_bind (l2.at ?_))
  refine wpAny_bind (wpAny_call (codeAny_mono z fun r s' y => ?_))
  rcases r with e | (v | _ | _ | _) <;> first
    | exact y
    | exact y.elim
    | skip
  obtain ⟨rfl, y⟩ := y
  first
    | exact wpAny_pure (wpAny_pure y)
    | (wp_walk; exact y)
theorem xk_call (F : ExcBaseFacts B newId initId bmB) (hT : ∀ X : String, bm.contains (.type X) = bmB.contains (.type X))
    (hC : h.get? C = some (excClassObj nm q C N bs bm hdct sn sub ab col dd k0 k1 k2 k3 k5 newId))
    (hi : W.Looks (model prog w) h (typeLookup (.ref C) "__init__") (some (.ref fI))) (hb : ∀ self, W.Looks (model prog w) h (bindSpecial (.ref fI) self) (.ref fI, [self])) (hz : rest.length ≤ sizeLine)
    (z : codeAny (model prog w) (A.under (.builtin "type.__call__" ⟨.ref C :: rest, kw⟩)) (.call (.ref fI) ⟨.ref (h.objs.size + 1) :: rest, kw⟩) (W.InitBack (h.objs.size + 1) R)
      ⟨(h.push (W.kdv_tup rest)).push (excO C h.objs.size), g, d, t, os⟩) :
    codeAny (model prog w) A (.call (.ref C) ⟨rest, kw⟩) R ⟨h, g, d, t, os⟩ := by
  have y1 := tc_lookup
  have y2 := tc_bind (.ref C)
  have y3 : (⟨h, g, d, t, os⟩ : Shared).TypeIs (.ref C) "type" := ⟨_, hC, rfl⟩
  refine codeAny_of_tree ?_
  show wpAny _ _ (callAny (.ref C) _) _ _ _
  repeat (any_goals (first
    | assumption
    | with_reducible refine wpAny_loadPart_at hC ?_
    | wp_step))
  refine ⟨rfl, ?_⟩
  refine codeAny_call_builtin_at (Code.quiet_builtin _ (by decide +kernel)) entry_typeCall (wpAny_check_type_call_sub hC (xk_type F hT hC hi hb hz ?_))
  refine codeAny_mono z fun r s' y => ?_
  rcases r with e | (v | _ | _ | _) <;> exact y
end
end HandSPX
end PySem
end
section
set_option Elab.async false
set_option linter.all false
set_option maxRecDepth 100000
set_option maxHeartbeats 4000000
/-! DLmv: errors made as values, over frames of data. -/
namespace DL
open PySem PySem.Spec PyProof.Rows L2
open PySem.DLX (ErrT)
/-- the default of __init__'s value is None -/
def DefNone (K : PySem.W.Frag) (fI : Addr) : Prop := ∃ (oc : Value) (od : Option Addr) (fd : FuncData) (osl : Array (Option Value)) (Td : Addr) (o : Obj) (n : Nat), K.lookup fI = some ⟨oc, od, .func fd, osl⟩ ∧ fd.defaults = .ref Td ∧ K.lookup Td = some o ∧ o.data = .seq #[.none] n
/-- an error class of the text -/
structure Er (P : Program) (K : PySem.W.Frag) (mg : Str → Option Value) (x : Str) (C : Addr) : Prop where
  t : ∃ fI, ErrT P K x C fI ∧ DefNone K fI
  gC : mg x = some (.ref C)
  sm : mg "super" = none
theorem Er.err {P : Program} {K : PySem.W.Frag} {mg : Str → Option Value} {x : Str} {C : Addr} (E : Er P K mg x C) : Err P K mg x C := ⟨let ⟨fI, h, _⟩ := E.t; ⟨fI, h⟩, E.gC, E.sm⟩
/-- what is known of __init__, as it is called in the three ways -/
structure IniK (P : Program) (w : World) (K : PySem.W.Frag) (mg : Str → Option Value) (base : Heap) (x : Str) (C fI : Addr) (fd : FuncData) : Prop where
  T : ErrT P K x C fI
  F : FnOk P w K mg base CX0 1 fI fd ["self", "value"] (spI C)
  b1 : ∀ (e u : Value) (s : Shared), K.In s.heap → BindsTo s fd ⟨[e, u], []⟩ [("self", e), ("value", u)]
  b0 : ∀ (e : Value) (s : Shared), K.In s.heap → BindsTo s fd ⟨[e], []⟩ [("self", e), ("value", .none)]
  bk : ∀ (e u : Value) (s : Shared), K.In s.heap → BindsTo s fd ⟨[e], [("value", u)]⟩ [("self", e), ("value", u)]
theorem Er.ini {P : Program} {w : World} {K : PySem.W.Frag} {mg : Str → Option Value} {base : Heap} {x : Str} {C : Addr} (E : Er P K mg x C) : ∃ fI fd, IniK P w K mg base x C fI fd := by
  obtain ⟨fI, T, oc2, od2, fd2, osl2, Td2, o2, n2, lk2, d2, t2, s2⟩ := E.t
  have T' := T
  obtain ⟨oc, od, Td, kV, doc, pm, an, cda, ct, cc, osl, a1, a2, a3, p0, p1, p2, p3, p4, q1, q2, q3, q4, ho, _, _⟩ := T.fn
  have lk3 := lk2
  rw [ho] at lk3
  injection lk3 with lk3
  injection lk3 with _ _ lk3 _
  injection lk3 with lk3
  subst lk3
  injection d2 with d2
  subst d2
  refine ⟨fI, _, T', vinit_ok T' ⟨_, ho, rfl⟩ E.sm, fun e u s X => ?_, fun e s X => ?_, fun e u s X => ?_⟩
  · exact BindsTo.of_looks fun M => looks_items (k := fun o => _) X t2 s2 (.of_pure rfl)
  · exact BindsTo.of_looks fun M => looks_items (k := fun o => _) X t2 s2 (.of_pure rfl)
  · exact BindsTo.of_looks fun M => looks_items (k := fun o => _) X t2 s2 (.of_pure rfl)
section
variable {X : Cx} {pins : List (Addr × Obj)} {σ : L2.St} {H1 : Hp} {s1 : Shared} {x : Str} {C fI : Addr} {fd : FuncData} {Q : VK}
theorem mkv_core (I0 : IniK X.prog X.w X.K X.mg X.base x C fI fd) (hr : Room 2 X.A) (I1 : Inv X pins σ H1 s1) {rest : List Value} {kw : List (Str × Value)} {v : V} {u : Value} (ru : RelV v u) (hz : rest.length ≤ sizeLine)
    (hb : ∀ (e : Value) (s : Shared), X.K.In s.heap → BindsTo s fd ⟨e :: rest, kw⟩ [("self", e), ("value", u)])
    (q : ∀ a dx, H1 a = none → H1 dx = none → dx ≠ a → Q (.ref a) (upd (upd H1 dx (exd dx [("value", v)])) a (exV a C dx))) :
    wpAny (model X.prog X.w) X.A (call (.ref C) rest kw) (EP X pins σ Q) X.xe s1 := by
  have T := I0.T
  obtain ⟨nm, qn, N, bs, bm, sn, sub, ab, col, dd, k0, k1, k2, k3, k5, hC, hbm⟩ := T.oex.cls
  obtain ⟨hp, g, dr, tk, os⟩ := s1
  have hn : H1 (hp.objs.size + 1) = none := I1.hok.fresh (Nat.le_succ _)
  have kk : ∀ b o, hp.get? b = some o → ((hp.push (PySem.W.kdv_tup rest)).push (PySem.HandSPX.excO C hp.objs.size)).get? b = some o := fun b o e => Heap.get?_push_of_some _ (Heap.get?_push_of_some _ e)
  have hget : ((hp.push (PySem.W.kdv_tup rest)).push (PySem.HandSPX.excO C hp.objs.size)).get? (hp.objs.size + 1) = some (PySem.HandSPX.excO C hp.objs.size) := by heap_get
  have I2 : Inv X pins σ (upd H1 (hp.objs.size + 1) (exo (hp.objs.size + 1) C none)) ⟨(hp.push (PySem.W.kdv_tup rest)).push (PySem.HandSPX.excO C hp.objs.size), g, dr, tk, os⟩ :=
    I1.laid (t' := tk) (a := hp.objs.size + 1) (o := exo (hp.objs.size + 1) C none) (h' := (hp.push (PySem.W.kdv_tup rest)).push (PySem.HandSPX.excO C hp.objs.size)) kk (Nat.le_succ _) (exo_ok hget)
  have r2 : Vals [V.ref (hp.objs.size + 1), v] [Value.ref (hp.objs.size + 1), u] := .cons rfl (.cons ru .nil)
  have hsp : spI C [V.ref (hp.objs.size + 1), v] (upd H1 (hp.objs.size + 1) (exo (hp.objs.size + 1) C none))
      (fun v' H' => v' = .non ∧ ∃ dx, H' (hp.objs.size + 1) = some (exo (hp.objs.size + 1) C (some dx)) ∧ Q (.ref (hp.objs.size + 1)) (upd H' (hp.objs.size + 1) (exV (hp.objs.size + 1) C dx))) (fun _ _ _ => False) := by
    refine ⟨_, v, rfl, upd_same, fun dx h1 h2 => ⟨rfl, dx, upd_same, ?_⟩⟩
    have h3 : H1 dx = none := by rw [upd_ne h2] at h1; exact h1
    have e : upd (upd (upd (upd H1 (hp.objs.size + 1) (exo (hp.objs.size + 1) C none)) dx (exd dx [("value", v)])) (hp.objs.size + 1) (exo (hp.objs.size + 1) C (some dx))) (hp.objs.size + 1) (exV (hp.objs.size + 1) C dx) = upd (upd H1 dx (exd dx [("value", v)])) (hp.objs.size + 1) (exV (hp.objs.size + 1) C dx) := by
      funext b
      by_cases z : b = hp.objs.size + 1
      · rw [z, upd_same, upd_same]
      · rw [upd_ne z, upd_ne z, upd_ne z]
        by_cases y : b = dx
        · rw [y, upd_same, upd_same]
        · rw [upd_ne y, upd_ne y, upd_ne z]
    rw [e]
    exact q _ dx hn h3 h2
  refine wpAny_call (PySem.HandSPX.xk_call F.excBase_ValueError (fun Y => PySem.HandSPX.refsVE_contains Y bm hbm) (I1.kIn _ _ hC) (PySem.W.looks_findIn I1.kIn T.iC) (fun self => PySem.W.bind_fn I1.kIn self T.tI) hz
    (codeAny_mono (I0.F.run _ X.stack _ _ ⟨Value.ref (hp.objs.size + 1) :: rest, kw⟩ [Value.ref (hp.objs.size + 1), u] _ _ (fun _ _ _ => False) (hr.make C rest kw) (I2.env0.make C rest kw) (hb _ _ I2.kIn) r2 hsp) fun r s' hq => ?_))
  cases r with
  | error er => exact hq.elim
  | ok fl =>
    cases fl with
    | ret u' =>
      obtain ⟨v', H', J, rv, ev, dx, eH, q'⟩ := I2.after hq
      subst ev
      obtain ⟨t1, ho⟩ := exo_at J.hok eH
      refine ⟨rv, .ref (hp.objs.size + 1), _, J.write (t' := s'.toks) (x := hp.objs.size + 1) (e := hp.objs.size + 1) (o := exV (hp.objs.size + 1) C dx) (by rw [eH]; exact True.intro) (.inl rfl) (fun _ _ _ z => z) ⟨_, ho⟩ ⟨⟨_, _, ho, rfl, rfl, rfl⟩, ⟨_, ho⟩, fun h1 h2 ⟨ob, ws, z1, z2, z3, z4⟩ st => ⟨ob, ws, st _ z1, z2, z3, z4⟩⟩, rfl, q'⟩
    | next => exact hq.elim
    | brk => exact hq.elim
    | cont => exact hq.elim
end
variable [TL]
section
variable {X : Cx} {pn : List Nat} {δ δ1 δ2 : List DV} {a e : Expr} {x : Str} {C fI : Addr} {d : D} {p p1 p2 pos kpos : Pos} {F H : Hp} {σ : L2.St}
theorem exd_tb {dx : Addr} {fs : List (Str × V)} : ∀ ps, exd dx fs ≠ .tbl ps := fun ps h => by unfold exd at h; cases h
theorem exV_tb {a C dx : Addr} : ∀ ps, exV a C dx ≠ .tbl ps := fun ps h => by unfold exV at h; cases h
/-- the end of it: the new error stays -/
theorem mk_fin {Q : VK} {v : V} {F1 H1 : Hp} (k : ∀ v F' H', Go (Own σ δ) (Own σ δ1) F H F' H' → Rs F' H' σ δ1 → Res F' H' (Own σ δ) H (Own σ δ1) v (.d (.exc C d)) → Q v H')
    (g : Go (Own σ δ) (Own σ δ1) F H F1 H1) (R : Rs F1 H1 σ δ1) (r : Rp F1 v d) (a dx : Addr) (ha : H1 a = none) (hd : H1 dx = none) (n : dx ≠ a) : Q (.ref a) (upd (upd H1 dx (exd dx [("value", v)])) a (exV a C dx)) := by
  have g1 := g.trans (Go.new_ (O := Own σ δ1) (o := exd dx [("value", v)]) hd (R.sub.none hd))
  have R1 := R.new (o := exd dx [("value", v)]) hd exd_tb
  have ha1 : upd H1 dx (exd dx [("value", v)]) a = none := by rw [upd_ne (Ne.symm n)]; exact ha
  have R2 := R1.new (o := exV a C dx) ha1 exV_tb
  have hF : F1 a = none := R.sub.none ha
  have hF2 : upd F1 dx (exd dx [("value", v)]) a = none := R1.sub.none ha1
  refine k _ _ _ (g1.trans (Go.new_ ha1 hF2)) R2 (.exc upd_same (.inr ?_) (r.ex ((Ex.new (R.sub.none hd)).trans (.new hF2))))
  rw [upd_ne n, upd_same]
/-- C(e) -/
theorem de_mk1 (E : Er X.prog X.K X.mg x C) (hr : Room 2 X.A) (hg : Gl X x) (he : DE X δ e (.d d) δ1) (hs : starEach [e] X.env = (false, eval e X.env) :: starEach [] X.env := by rfl) (hdb : (x == ("__debug__" : Str)) = false := by decide) :
    DE X δ (.Call (.Name x p) [e] [] pos) (.d (.exc C d)) δ1 := by
  obtain ⟨fI, fd, I0⟩ := E.ini (w := X.w) (base := X.base)
  refine ⟨fun pins s σ H Q I ⟨F, R, k⟩ => ?_⟩
  refine wpAny_Call_Name_kw (ld_glob I hg E.gC ?_ hdb)
  refine PySem.W.callWith_K (h₀ := X.base) I.ok.mod.kin I0.T.oex.kC ?_ hs (by rfl)
  rw [hs]
  show wpAny _ _ (spliced ((false, eval e X.env) :: backTo pos (starEach [] X.env))) _ _ s
  refine Calls.spliced_cons (thn (he.run pins s σ H (fun v H1 => ∃ F1, Go (Own σ δ) (Own σ δ1) F H F1 H1 ∧ Rs F1 H1 σ δ1 ∧ Rp F1 v d) I ⟨F, R, fun v F1 H1 g R1 r => ⟨F1, g, R1, r⟩⟩) fun u s1 ⟨v, H1, I1, rv, F1, g, R1, r⟩ => ?_)
  refine Calls.spliced_nil ⟨I1.kIn, ?_⟩
  show wpAny _ _ (call (.ref C) [u]) _ _ _
  exact mkv_core I0 hr I1 rv (by show 1 ≤ sizeLine; rw [sizeLine_eq]; omega) (fun e s h => I0.b1 e u s h) fun a dx ha hd n => mk_fin k g R1 r a dx ha hd n
/-- C() -/
theorem de_mk0 (E : Er X.prog X.K X.mg x C) (hr : Room 2 X.A) (hg : Gl X x) (hdb : (x == ("__debug__" : Str)) = false := by decide) :
    DE X δ (.Call (.Name x p) [] [] pos) (.d (.exc C .non)) δ := by
  obtain ⟨fI, fd, I0⟩ := E.ini (w := X.w) (base := X.base)
  refine ⟨fun pins s σ H Q I ⟨F, R, k⟩ => ?_⟩
  refine wpAny_Call_Name_kw (ld_glob I hg E.gC ?_ hdb)
  refine PySem.W.callWith_K0 I.kIn I0.T.oex.kC ?_
  show wpAny _ _ (call (.ref C) []) _ _ _
  exact mkv_core I0 hr I (v := .non) (u := .none) rfl (by show 0 ≤ sizeLine; omega) (fun e s h => I0.b0 e s h) fun a dx ha hd n => mk_fin k (.refl _ F H) R .non a dx ha hd n
/-- C(value = e) -/
theorem de_mkK (E : Er X.prog X.K X.mg x C) (hr : Room 2 X.A) (hg : Gl X x) (he : DE X δ e (.d d) δ1) (hdb : (x == ("__debug__" : Str)) = false := by decide)
    (hall : (backToKw pos (keywordEach [⟨some "value", e, kpos⟩] X.env)).all (·.1.isSome) = true := by rfl) (hks : (backToKw pos (keywordEach [⟨some "value", e, kpos⟩] X.env)).filterMap (·.1) = [("value" : Str)] := by rfl)
    (hpl : ((backTo pos (starEach [] X.env)).any (·.1) || (backToKw pos (keywordEach [⟨some "value", e, kpos⟩] X.env)).any (·.1.isNone)) = false := by rfl) :
    DE X δ (.Call (.Name x p) [] [⟨some "value", e, kpos⟩] pos) (.d (.exc C d)) δ1 := by
  obtain ⟨fI, fd, I0⟩ := E.ini (w := X.w) (base := X.base)
  refine ⟨fun pins s σ H Q I ⟨F, R, k⟩ => ?_⟩
  refine wpAny_Call_Name_kw (ld_glob I hg E.gC ?_ hdb)
  refine PySem.W.callWith_KW0 (h₀ := X.base) I.ok.mod.kin I0.T.oex.kC hall ?_ hpl
  refine thn ((pk_cons (nm := some ("value" : Str)) (kpos := kpos) he pk_nil).run pos pins s σ H (fun vs H1 => ∃ v F1, vs = [v] ∧ Go (Own σ δ) (Own σ δ1) F H F1 H1 ∧ Rs F1 H1 σ δ1 ∧ Rp F1 v d) I ⟨F, R, fun v F1 H1 g R1 r1 => ⟨v, F1, rfl, g, R1, r1⟩⟩) fun ws s2 ⟨vs, H1, I1, rv, v, F1, ev, g1, R1, r1⟩ => ⟨I1.kIn, ?_⟩
  subst ev
  rw [hks]
  obtain ⟨u, rfl, rv2⟩ : ∃ u, ws = [u] ∧ RelV v u := by
    cases rv with
    | cons rv rn => cases rn; exact ⟨_, rfl, rv⟩
  show wpAny _ _ (call (.ref C) [] [("value", u)]) _ _ _
  exact mkv_core I0 hr I1 rv2 (by show 0 ≤ sizeLine; omega) (fun e s h => I0.bk e u s h) fun a dx ha hd n => mk_fin k g1 R1 r1 a dx ha hd n
/-- C(), a class without own __init__ -/
theorem de_mkB (q : PySem.W.excIn X.K C PySem.DLX.veB "ValueError.__new__" = true) (gC : X.mg x = some (.ref C)) (kC : PySem.W.keepIn X.K (.ref C) = true) (hg : Gl X x) (hdb : (x == ("__debug__" : Str)) = false := by decide) :
    DE X δ (.Call (.Name x p) [] [] pos) (.d (.exc C (.exc C .non))) δ := by
  refine ⟨fun pins s σ H Q I ⟨F0, R, k⟩ => ?_⟩
  refine wpAny_Call_Name_kw (ld_glob I hg gC ?_ hdb)
  refine PySem.W.callWith_K0 I.kIn kC ?_
  show wpAny _ _ (call (.ref C) []) _ _ _
  obtain ⟨bm, N, nm, qn, bs, hdct, sn, sub, ab, col, dd, k0, k1, k2, k3, k5, mN, hC, hN, hni, T⟩ := exc_obj I.kIn q
  refine wpAny_call_exc_subT PySem.F.excBase_ValueError T hC hN hni (fun h' a hm => ?_) (by show 0 ≤ sizeLine; omega)
  have hn : H a = none := I.hok.gone hm.new
  obtain ⟨t, ht, _, _⟩ := hm.there
  refine ⟨.ref a, upd H a (ExO (.ref C) a), I.laidN hm.keeps hm.new hn (exO_ok ht ⟨rfl, rfl⟩ rfl rfl rfl (show 4 < 6 by decide)), rfl, ?_⟩
  exact k _ _ _ (Go.new_ hn (R.sub.none hn)) (R.new hn (fun ps h => by unfold ExO at h; cases h)) (.exn upd_same)
end
end DL
end
section
set_option Elab.async false
set_option linter.all false
set_option maxRecDepth 100000
set_option maxHeartbeats 2000000
/-! DLrk: repr of data with dicts in it. -/
namespace DL
open PySem PySem.Spec PyProof.Rows L2
def kPy : Key → PyData
  | .inl i => .int i
  | .inr s => .str s
mutual
def D.pyK : D → PyData
  | .non => .none
  | .bl b => .bool b
  | .int i => .int i
  | .str s => .str s
  | .lst xs => .list (D.pyKA xs)
  | .tup xs => .tuple (D.pyKA xs)
  | .dct ks xs => .dict ((ks.map kPy).zip (D.pyKA xs))
  | .exc _ _ => .none
  | .fn _ => .none
def D.pyKA : List D → List PyData
  | [] => []
  | d :: ds => d.pyK :: D.pyKA ds
end
mutual
/-- data that repr shows -/
def D.okK : D → Bool
  | .lst xs => D.okKA xs
  | .tup xs => D.okKA xs
  | .dct _ xs => D.okKA xs
  | .exc _ _ => false
  | .fn _ => false
  | _ => true
def D.okKA : List D → Bool
  | [] => true
  | d :: ds => d.okK && D.okKA ds
end
theorem pyKA_length : ∀ ds : List D, (D.pyKA ds).length = ds.length
  | [] => rfl
  | _ :: ds => by simp [D.pyKA, pyKA_length ds]
section
variable {P : Program} {w : World} {F H : Hp} {h : Heap}
theorem keys_read : ∀ {es : List DictEntry} {kvs : List (Key × Value)}, Pairs (mixKind P w) es kvs → ReadsAll h (es.map (·.key)) (kvs.map fun p => kPy p.1) []
  | _, _, .nil => .nil
  | e :: es, kv :: kvs, .cons a b c => by
    have t := keys_read c
    have ka : keyIs kv.1 e.key = true := a
    refine ReadsAll.cons (as := []) (bs := []) ?_ t
    show Reads h e.key (kPy kv.1) []
    rcases keyIs_shape ka with ⟨i, tk, h1, h2⟩ | ⟨x, tk, h1, h2⟩
    · rw [h1, h2]; exact .int i tk
    · rw [h1, h2]; exact .str x tk
theorem vals_of_pairs : ∀ {es : List DictEntry} {kvs : List (Key × Value)}, Pairs (mixKind P w) es kvs → es.map (·.val) = kvs.map (·.2)
  | _, _, .nil => rfl
  | e :: es, kv :: kvs, .cons a b c => by
    have t := vals_of_pairs c
    rw [List.map_cons, List.map_cons, t, b]
theorem kv_keys : ∀ {l : List (Key × V)} {m : List (Key × Value)}, KV l m → l.map (·.1) = m.map (·.1)
  | _, _, .nil => rfl
  | _, _, .cons a b => by rw [List.map_cons, List.map_cons, a.1, kv_keys b]
theorem kv_vals : ∀ {l : List (Key × V)} {m : List (Key × Value)}, KV l m → Vals (l.map (·.2)) (m.map (·.2))
  | _, _, .nil => .nil
  | _, _, .cons a b => .cons a.2 (kv_vals b)
mutual
theorem Rp.readsK (hok : HOk P w H h) (e : Ex F H) (hS : ∃ o, h.get? sysModules = some o ∧ o.cls = .type "dict") : ∀ {d : D} {v : V} {u : Value}, d.okK = true → Rp F v d → RelV v u → ∃ as, Reads h u d.pyK as ∧ sysModules ∉ as
  | .non, _, u, _, .non, r => by cases (show u = Value.none from r); exact ⟨_, .none, by simp⟩
  | .bl b, _, u, _, .bl _, r => by cases (show u = Value.bool b from r); exact ⟨_, .bool b, by simp⟩
  | .int i, _, u, _, .int _, r => by obtain ⟨t, rfl⟩ := (show ∃ t, u = Value.int i t from r); exact ⟨_, .int i t, by simp⟩
  | .str s, _, u, _, .str _, r => by obtain ⟨t, rfl⟩ := (show ∃ t, u = Value.str s t from r); exact ⟨_, .str s t, by simp⟩
  | .lst xs, _, u, k, @Rp.lst _ a vs _ h1 h2, r => by
    cases (show u = Value.ref a from r)
    obtain ⟨_, its, n, rv, ho⟩ := hok _ _ (e _ _ h1)
    obtain ⟨as, ra, na⟩ := RpA.readsK hok e hS (by simpa [D.okK] using k) h2 rv
    refine ⟨_, .list ho rfl rfl ra, ?_⟩
    have ne : sysModules ≠ a := fun z => by
      obtain ⟨o, e1, e2⟩ := hS
      rw [z, ho] at e1
      cases e1
      simp at e2
    simp [ne, na]
  | .tup xs, _, u, k, @Rp.tup _ a vs _ h1 h2, r => by
    cases (show u = Value.ref a from r)
    obtain ⟨_, its, rv, o, ho, hc, n, hd⟩ := hok _ _ (e _ _ h1)
    obtain ⟨as, ra, na⟩ := RpA.readsK hok e hS (by simpa [D.okK] using k) h2 rv
    exact ⟨_, .tuple ho hc hd ra, na⟩
  | .dct ks xs, _, u, k, @Rp.dct _ a kvs _ _ h1 hk h2, r => by
    cases (show u = Value.ref a from r)
    obtain ⟨_, nsm, vs, rv, o, es, ep, ho, he, hd, _, hes, _⟩ := hok _ _ (e _ _ h1)
    obtain ⟨as, ra, na⟩ := RpA.readsK hok e hS (by simpa [D.okK] using k) h2 (kv_vals rv)
    have l1 : ks.length = (D.pyKA xs).length := by rw [pyKA_length, ← h2.length, List.length_map, ← hk, List.length_map]
    have e1 : ((ks.map kPy).zip (D.pyKA xs)).map (·.1) = ks.map kPy := List.map_fst_zip (by rw [List.length_map]; omega)
    have e2 : ((ks.map kPy).zip (D.pyKA xs)).map (·.2) = D.pyKA xs := List.map_snd_zip (by rw [List.length_map]; omega)
    refine ⟨a :: ([] : List Addr) ++ as, .dict (as := []) (bs := as) ho he.1 hd ?_ ?_, ?_⟩
    · rw [e1, ← hk, kv_keys rv, List.map_map]
      exact keys_read hes
    · rw [e2, vals_of_pairs hes]
      exact ra
    · have ne : sysModules ≠ a := fun z => by rw [← z] at nsm; simp at nsm
      simp [ne, na]
  | .exc _ _, _, _, k, _, _ => by simp [D.okK] at k
  | .fn _, _, _, k, _, _ => by simp [D.okK] at k
theorem RpA.readsK (hok : HOk P w H h) (e : Ex F H) (hS : ∃ o, h.get? sysModules = some o ∧ o.cls = .type "dict") : ∀ {ds : List D} {vs : List V} {us : List Value}, D.okKA ds = true → RpA F vs ds → Vals vs us → ∃ as, ReadsAll h us (D.pyKA ds) as ∧ sysModules ∉ as
  | [], _, us, _, .nil, r => by cases r; exact ⟨_, .nil, by simp⟩
  | d :: ds, _, us, k, .cons q t, r => by
    cases r with
    | cons r1 r2 =>
    have k' := k
    simp only [D.okKA, Bool.and_eq_true] at k'
    obtain ⟨as, a, na⟩ := Rp.readsK hok e hS k'.1 q r1
    obtain ⟨bs, b, nb⟩ := RpA.readsK hok e hS k'.2 t r2
    exact ⟨_, .cons a b, by simp [na, nb]⟩
end
end
structure D.ShowsK (d : D) : Prop where
  ok : d.okK = true
  dep : d.pyK.depth ≤ 64
  sh : d.pyK.showable = true
  len : d.pyK.shown.length ≤ sizeLine
def D.repK (d : D) : Str := d.pyK.shown
/-- sys.modules stands in the fragment -/
def SysT (K : PySem.W.Frag) : Prop := ∃ o, K.lookup sysModules = some o ∧ o.cls = .type "dict"
def rReprG : List V → Hp → VK → Prop := fun xs H Q => ∃ (F : Hp) (v : V) (d : D), xs = [v] ∧ Ex F H ∧ Rp F v d ∧ d.ShowsK ∧ Q (.str d.repK) H
theorem call_reprG {X : Cx} {k : Nat} (hS : SysT X.K) (hg : X.A.guards = some []) (hr : Room k X.A) : CallR X (.builtin "repr") rReprG := by
  intro pins s σ H xs us Q I r h
  obtain ⟨F, v, d, rfl, ex, rp, hs, q⟩ := h
  have un := hr.un
  cases r with
  | cons r0 rn =>
  rename_i u us'
  cases rn
  have fin : ∀ (h' : Heap) (tk u : Nat), (∀ b o, s.heap.get? b = some o → h'.get? b = some o) → EP X pins σ Q (.str d.repK u) { s with heap := h', toks := tk } := fun h' tk u kk => ⟨.str d.repK, H, I.kept (t' := tk) kk, ⟨u, rfl⟩, q⟩
  have hS' : ∃ o, s.heap.get? sysModules = some o ∧ o.cls = .type "dict" := by
    obtain ⟨o, e1, e2⟩ := hS
    exact ⟨o, I.kIn _ _ e1, e2⟩
  obtain ⟨as, rd, na⟩ := rp.readsK I.hok ex hS' hs.ok r0
  have hd := hs.dep
  have big : ∀ {a : Addr}, u = .ref a → wpAny (model X.prog X.w) X.A (call (.builtin "repr") [u]) (EP X pins σ Q) X.xe s := fun {a} e => by
    subst e
    exact repr_of_reads' rd hs.sh (fun _ => na) hg (by omega) (fun _ _ z => z) (fun h' u tk kk => fin h' tk u kk) hs.len
  cases rp with
  | non =>
    cases (show u = Value.none from r0)
    exact PySem.P.repr_of_none (fin _ _ _ fun _ _ z => z)
  | bl b =>
    cases (show u = Value.bool b from r0)
    exact PySem.P.repr_of_bool (fin _ _ _ fun _ _ z => z)
  | int i =>
    obtain ⟨t, rfl⟩ := (show ∃ t, u = Value.int i t from r0)
    have z := hs.sh
    exact PySem.P.repr_of_int (by simpa [D.pyK, PyData.showable] using z) (fin _ _ _ fun _ _ z => z)
  | str x =>
    obtain ⟨t, rfl⟩ := (show ∃ t, u = Value.str x t from r0)
    exact PySem.P.repr_of_str (fin _ _ _ fun _ _ z => z) (by have z := hs.len; simpa [D.pyK, PyData.shown] using z)
  | lst h1 h2 => exact big r0
  | tup h1 h2 => exact big r0
  | dct _ _ _ => exact big r0
  | exc _ _ _ => have z := hs.ok; simp [D.okK] at z
  | exn _ => have z := hs.ok; simp [D.okK] at z
  | fn _ => have z := hs.ok; simp [D.okK] at z
variable [TL]
theorem de_reprG {X : Cx} {δ δ1 : List DV} {a : Expr} {x : D} {p1 pos : Pos} {k : Nat} (hS : SysT X.K) (hG : X.A.guards = some []) (hr : Room k X.A) (hg : Gl X "repr") (hm : X.mg "repr" = none) (ha : DE X δ a (.d x) δ1) (hs : x.ShowsK) (he : starEach [a] X.env = (false, eval a X.env) :: starEach [] X.env := by rfl) : DE X δ (.Call (.Name "repr" p1) [a] [] pos) (.d (.str x.repK)) δ1 :=
  de_bi (call_reprG hS hG hr) hg hm (by decide +kernel) (da_cons ha da_nil he) (fun F H σ vs Q ex h k => by
    obtain ⟨v, rfl, rv⟩ := AVs.one h
    exact ⟨F, v, x, rfl, ex, rv, hs, k _ (.str _)⟩) (he := he)
end DL
end
section
set_option Elab.async false
set_option linter.all false
set_option maxRecDepth 100000
set_option maxHeartbeats 2000000
/-! DLfg: a def called at known guards (of DLr). -/
namespace DL
open PySem PySem.Spec PyProof.Rows L2
variable [TL]
/-! ### a def at known guards -/
structure FnAt (P : Program) (w : World) (K : PySem.W.Frag) (mg : Str → Option Value) (base : Heap) (CX : CXT) (A : Around) (f : Addr) (fd : FuncData) (ps : List Str) (sp : Sp) : Prop where
  len : ∀ vs H Q E, sp vs H Q E → vs.length = ps.length
  run : ∀ (outer : List Env) (s : Shared) (H : Hp) (args : Args) (us : List Value) (vs : List V) (Q : VK) (E : XK), Env0 P w K mg base A outer s H → BindsTo s fd args (ps.zip us) → Vals vs us → sp vs H Q E →
    codeAny (model P w) A (.call (.ref f) args) (CR CX outer P w H s Q E) s
section
variable {P : Program} {w : World} {K : PySem.W.Frag} {mg : Str → Option Value} {base : Heap} {k : Nat} {f : Addr} {x qual : Str} {params : Arguments} {body : List Stmt} {scope : Scope} {dvs : List V} {kws : List (Str × V)} {fd : FuncData} {N ps : List Str} {R : RelD} {A : Around}
theorem fn_relA (F : FunD K x qual params body scope dvs kws f fd) (S : FnScope N ps scope) (hr : Room (k + 1) A) (hl : ∀ args r args', R args r args' → args.length = ps.length)
    (hb : ∀ (cdv : Value) (outer : List Env) (s : Shared) (H : Hp) (E : XK), Room k (A.deeper (envOfC qual scope s.heap.objs.size f cdv)) → ∀ args r args', R args r args' →
      ∃ pn δ' o, DSs (cxOf (L2.CX P w) P w K mg base N qual scope f cdv A outer s H E) pn (ent args (N.length - ps.length)) body o ∧ Out.ret r δ' o ∧ Wb pn args args' δ') :
    FnAt P w K mg base (L2.CX P w) A f fd ps (spD R noX) := by
  have len : ∀ vs H Q E, spD R noX vs H Q E → vs.length = ps.length := fun vs H Q E h => by
    rcases h with ⟨args, r, args', hR, F, r1, _⟩ | ⟨args, C, d, hR, _⟩
    · rw [← hl _ _ _ hR]; simpa using r1.len
    · exact hR.elim
  refine ⟨len, fun outer s H args us vs Q E e0 hbt r h => ?_⟩
  have hlen := len _ _ _ _ h
  refine fn_at F S hr e0 hbt r hlen fun cdv hcd hfd hr' => ?_
  rcases h with ⟨args, r, args', hR, F, r1, kk⟩ | ⟨args, C, d, hR, _⟩
  · obtain ⟨pn, δ', o, ds, ho, W⟩ := hb cdv outer s H E hr' args r args' hR
    have en : N.length - vs.length = N.length - ps.length := by rw [hlen]
    have hl' : vs.length = args.length := by simpa using r1.len
    refine ⟨_, ds, F, r1.enter en, ?_⟩
    rcases ho with rfl | ⟨rfl, rfl⟩
    · intro v σ' F' H' A' r'
      obtain ⟨g, R', oo⟩ := leave_ r1 en A' W
      refine kk v F' H' g R' ?_
      cases r with
      | un => trivial
      | d x => exact r'
      | raw v => exact r'
      | pr P => exact r'
      | ow xs =>
        obtain ⟨p, us, e, h1, h2, h3, h4, h5⟩ := r'
        exact ⟨p, us, e, h1, h2, h3, fun z => h4 (oo p z), h5.imp id fun z => own_enter z hl'⟩
    · intro σ' F' H' A'
      obtain ⟨g, R', oo⟩ := leave_ r1 en A' W
      exact kk .non F' H' g R' .non
  · exact hR.elim
end
/-- a def as it is called where the guards are none -/
structure FDg (P : Program) (w : World) (K : PySem.W.Frag) (mg : Str → Option Value) (base : Heap) (k : Nat) (x : Str) (ps : List Str) (R : RelD) : Prop where
  ex : ∃ f fd, (∀ A : Around, A.guards = some [] → Room k A → FnAt P w K mg base (L2.CX P w) A f fd ps (spD R noX)) ∧ mg x = some (.ref f) ∧ PySem.W.keepIn K (.ref f) = true ∧ L2.Binds K fd ps []
section
variable {X : Cx} {δ δ1 : List DV} {e : Expr} {es : List Expr} {as : List AV} {x : Str} {p1 pos : Pos} {k : Nat} {ps : List Str} {R : RelD} {r : DV}
theorem de_callG (G : FDg X.prog X.w X.K X.mg X.base k x ps R) (hG : X.A.guards = some []) (hr : Room k X.A) (hg : Gl X x) (ha : DA X δ (e :: es) as δ1) (hn : AV.noSl as = true) (hR : R (as.map (AV.dv δ1)) r (as.map (AV.dv δ1)))
    (hdb : (x == ("__debug__" : Str)) = false := by decide) (he : starEach (e :: es) X.env = (false, eval e X.env) :: starEach es X.env := by rfl) (hpl : (backTo pos (starEach es X.env)).any (·.1) = false := by rfl) : DE X δ (.Call (.Name x p1) (e :: es) [] pos) r δ1 := by
  obtain ⟨f, fd, h1, h2, h3, h4⟩ := G.ex
  have FA := h1 X.A hG hr
  have core : PE X (.Call (.Name x p1) (e :: es) [] pos) (fun σ H Q => tDA δ as δ1 σ H fun vs H1 => spD R noX vs H1 Q E0) := by
    refine ⟨fun pins s σ H Q I h => ?_⟩
    refine wpAny_Call_Name_kw (ld_glob I hg h2 ?_ hdb)
    refine PySem.W.callWith_K (h₀ := X.base) I.ok.mod.kin h3 (thn (ha.run pos pins s σ H _ I h) fun us s1 ⟨vs, H1, I1, r, q⟩ => ⟨I1.kIn, ?_⟩) he hpl
    have hl : us.length = ps.length := by rw [← r.length]; exact FA.len _ _ _ _ q
    have b := h4 s1 us I1.kIn (by rw [List.append_nil]; exact hl)
    rw [List.append_nil] at b
    refine wpAny_call (codeAny_mono (FA.run X.stack s1 H1 ⟨us, []⟩ us vs Q E0 I1.env0 b r q) fun r s' hq => ?_)
    cases r with
    | error e => exact passL (X := X) _ _ _ _ _ _ I1 hq
    | ok fl =>
      cases fl with
      | ret u => exact I1.after hq
      | next => exact False.elim hq
      | brk => exact False.elim hq
      | cont => exact False.elim hq
  refine core.imp fun σ H Q ⟨F, Rf, k⟩ => ⟨F, Rf, fun vs F1 H1 g1 R1 ra => ?_⟩
  exact call_fin R1 ra hn hR fun v F2 H2 g2 R2 q => k v F2 H2 (g1.trans g2) R2 (Res.back g1 q)
end
end DL
end
section
set_option Elab.async false
set_option linter.all false
set_option maxRecDepth 100000
set_option maxHeartbeats 4000000
namespace N01
open PySem PySem.Spec PyProof.Rows L2 DL Hd
/-- the address of the k-th class -/
@[irreducible] def cA (K : PySem.W.Frag) (k : Nat) : Addr := He.ga K (nm37.getD k "")
/-- what is known of the classes -/
structure ErsT (P : Program) (K : PySem.W.Frag) (mg : Str → Option Value) : Prop where
  ist : ∀ k, k < 37 → IsT K (cA K k)
  kit : ∀ k j, k < 37 → j < 36 → PySem.W.kitOne K (.ref (cA K k)) (.ref (cA K j)) = some (decide (k = j))
  up : ∀ k, k < 37 → PySem.W.kitOne K (.ref (cA K k)) (.ref (cA K 36)) = some true
  upV : ∀ k, k < 37 → PySem.W.kitOne K (.ref (cA K k)) (.type "ValueError") = some true
  ve : mg "ValueError" = none
  era : ∀ j, j < 34 → ∃ x, Er P K mg x (cA K j)
  er0 : Er P K mg "InvalidText" (cA K 0)
  er1 : Er P K mg "InvalidWord" (cA K 1)
  er2 : Er P K mg "InvalidNumber" (cA K 2)
  er3 : Er P K mg "InvalidSigns" (cA K 3)
  er4 : Er P K mg "InvalidGap" (cA K 4)
  er5 : Er P K mg "InvalidGround" (cA K 5)
  er6 : Er P K mg "InvalidWindow" (cA K 6)
  er7 : Er P K mg "InvalidOrder" (cA K 7)
  er8 : Er P K mg "InvalidRounds" (cA K 8)
  er9 : Er P K mg "InvalidSets" (cA K 9)
  er10 : Er P K mg "InvalidPlace" (cA K 10)
  er11 : Er P K mg "InvalidCuts" (cA K 11)
  er12 : Er P K mg "InvalidPieces" (cA K 12)
  er13 : Er P K mg "InvalidTold" (cA K 13)
  er14 : Er P K mg "InvalidRule" (cA K 14)
  er15 : Er P K mg "InvalidRing" (cA K 15)
  er16 : Er P K mg "InvalidView" (cA K 16)
  er17 : Er P K mg "InvalidTwin" (cA K 17)
  er18 : Er P K mg "InvalidEdit" (cA K 18)
  er19 : Er P K mg "InvalidName" (cA K 19)
  er20 : Er P K mg "InvalidHistory" (cA K 20)
  er21 : Er P K mg "InvalidStore" (cA K 21)
  er22 : Er P K mg "InvalidParcel" (cA K 22)
  er23 : Er P K mg "InvalidDesk" (cA K 23)
  er24 : Er P K mg "InvalidRecord" (cA K 24)
  er25 : Er P K mg "InvalidScript" (cA K 25)
  er26 : Er P K mg "InvalidPaper" (cA K 26)
  er27 : Er P K mg "Refused" (cA K 27)
  er28 : Er P K mg "InvalidLine" (cA K 28)
  er29 : Er P K mg "InvalidNode" (cA K 29)
  er30 : Er P K mg "InvalidNodes" (cA K 30)
  er31 : Er P K mg "InvalidTree" (cA K 31)
  er32 : Er P K mg "InvalidShelf" (cA K 32)
  er33 : Er P K mg "InvalidBundle" (cA K 33)
  g0 : mg "InvalidText" = some (.ref (cA K 0))
  g1 : mg "InvalidWord" = some (.ref (cA K 1))
  g2 : mg "InvalidNumber" = some (.ref (cA K 2))
  g3 : mg "InvalidSigns" = some (.ref (cA K 3))
  g4 : mg "InvalidGap" = some (.ref (cA K 4))
  g5 : mg "InvalidGround" = some (.ref (cA K 5))
  g6 : mg "InvalidWindow" = some (.ref (cA K 6))
  g7 : mg "InvalidOrder" = some (.ref (cA K 7))
  g8 : mg "InvalidRounds" = some (.ref (cA K 8))
  g9 : mg "InvalidSets" = some (.ref (cA K 9))
  g10 : mg "InvalidPlace" = some (.ref (cA K 10))
  g11 : mg "InvalidCuts" = some (.ref (cA K 11))
  g12 : mg "InvalidPieces" = some (.ref (cA K 12))
  g13 : mg "InvalidTold" = some (.ref (cA K 13))
  g14 : mg "InvalidRule" = some (.ref (cA K 14))
  g15 : mg "InvalidRing" = some (.ref (cA K 15))
  g16 : mg "InvalidView" = some (.ref (cA K 16))
  g17 : mg "InvalidTwin" = some (.ref (cA K 17))
  g18 : mg "InvalidEdit" = some (.ref (cA K 18))
  g19 : mg "InvalidName" = some (.ref (cA K 19))
  g20 : mg "InvalidHistory" = some (.ref (cA K 20))
  g21 : mg "InvalidStore" = some (.ref (cA K 21))
  g22 : mg "InvalidParcel" = some (.ref (cA K 22))
  g23 : mg "InvalidDesk" = some (.ref (cA K 23))
  g24 : mg "InvalidRecord" = some (.ref (cA K 24))
  g25 : mg "InvalidScript" = some (.ref (cA K 25))
  g26 : mg "InvalidPaper" = some (.ref (cA K 26))
  g27 : mg "Refused" = some (.ref (cA K 27))
  g28 : mg "InvalidLine" = some (.ref (cA K 28))
  g29 : mg "InvalidNode" = some (.ref (cA K 29))
  g30 : mg "InvalidNodes" = some (.ref (cA K 30))
  g31 : mg "InvalidTree" = some (.ref (cA K 31))
  g32 : mg "InvalidShelf" = some (.ref (cA K 32))
  g33 : mg "InvalidBundle" = some (.ref (cA K 33))
  g34 : mg "NothingToUndo" = some (.ref (cA K 34))
  g35 : mg "NothingToRedo" = some (.ref (cA K 35))
  g36 : mg "CutError" = some (.ref (cA K 36))
/-- the first n errors, with d -/
def upTo (K : PySem.W.Frag) (d : D) (n : Nat) : List D := (List.range n).map fun j => D.exc (cA K j) d
abbrev excs (K : PySem.W.Frag) (d : D) : List D := upTo K d 34
theorem upTo_len (K : PySem.W.Frag) (d : D) (n : Nat) : (upTo K d n).length = n := by simp [upTo]
/-- whether the k-th class is one of the first n -/
def flg (k n : Nat) : List D := (List.range n).map fun j => D.bl (decide (k = j))
theorem flg_len (k n : Nat) : (flg k n).length = n := by simp [flg]
theorem flg_at {k n j : Nat} (h : j < n) : (flg k n)[j]? = some (.bl (decide (k = j))) := by simp [flg, h]
def codeD (k : Nat) : List D := if k < 36 then [.int k] else []
variable [TL]
variable {P : Program} {w : World} {K : PySem.W.Frag} {mg : Str → Option Value} {base : Heap}

theorem sc_law_first : FnScope ["thing", "found"] ["thing"] (defScope s__law_first) := ⟨rfl, rfl, rfl, by decide +kernel, rfl, by decide +kernel, by decide +kernel⟩
def RMk (K : PySem.W.Frag) : RelD := fun args r args' => ∃ d, args = [.d d] ∧ r = .ow (excs K d) ∧ args' = args
theorem fd_first (E : ErsT P K mg) (D1 : Df K mg "_law_first" s__law_first) : FD P w K mg base 3 "_law_first" ["thing"] (RMk K) noX :=
  D1.fd (fun _ _ _ _ _ _ us hl => match us, hl with | [_], _ => rfl) fun f fd F => fn_rel0 F sc_law_first (fun _ _ _ ⟨_, h, _⟩ => by rw [h]; rfl) (fun cdv A outer s H E0 hr args r args' ⟨d, e1, e2, e3⟩ => by
    subst e1 e2 e3
    exact ret0 (dss_cons (δ1 := [.d d, .ow (upTo K d 5)]) (ds_setO (i := 1) (δ1 := [.d d, .un]) (xs := upTo K d 5) sc_law_first.nd rfl (.inl rfl) (by simp) (de_lst (ds := [.exc (cA K 0) d, .exc (cA K 1) d, .exc (cA K 2) d, .exc (cA K 3) d, .exc (cA K 4) d]) (da_cons (de_mk1 E.er0 (hr.mono (by decide)) rfl (de_v 0)) (da_cons (de_mk1 E.er1 (hr.mono (by decide)) rfl (de_v 0)) (da_cons (de_mk1 E.er2 (hr.mono (by decide)) rfl (de_v 0)) (da_cons (de_mk1 E.er3 (hr.mono (by decide)) rfl (de_v 0)) (da_cons (de_mk1 E.er4 (hr.mono (by decide)) rfl (de_v 0)) da_nil))))) rfl (le_sz (by simp))))
      (dss_cons (δ1 := [.d d, .ow (upTo K d 9)]) (ds_setO (i := 1) (δ1 := [.d d, .un]) (xs := upTo K d 9) sc_law_first.nd rfl (.inl rfl) (by simp) (de_cat (xs := upTo K d 5) (ys := [.exc (cA K 5) d, .exc (cA K 6) d, .exc (cA K 7) d, .exc (cA K 8) d]) (de_frz (de_vm 1)) (de_frz (de_lst (ds := [.exc (cA K 5) d, .exc (cA K 6) d, .exc (cA K 7) d, .exc (cA K 8) d]) (da_cons (de_mk1 E.er5 (hr.mono (by decide)) rfl (de_v 0)) (da_cons (de_mk1 E.er6 (hr.mono (by decide)) rfl (de_v 0)) (da_cons (de_mk1 E.er7 (hr.mono (by decide)) rfl (de_v 0)) (da_cons (de_mk1 E.er8 (hr.mono (by decide)) rfl (de_v 0)) da_nil)))) rfl (le_sz (by simp)))) (le_sz (by simp [upTo]))))
      (dss_cons (δ1 := [.d d, .ow (upTo K d 13)]) (ds_setO (i := 1) (δ1 := [.d d, .un]) (xs := upTo K d 13) sc_law_first.nd rfl (.inl rfl) (by simp) (de_cat (xs := upTo K d 9) (ys := [.exc (cA K 9) d, .exc (cA K 10) d, .exc (cA K 11) d, .exc (cA K 12) d]) (de_frz (de_vm 1)) (de_frz (de_lst (ds := [.exc (cA K 9) d, .exc (cA K 10) d, .exc (cA K 11) d, .exc (cA K 12) d]) (da_cons (de_mk1 E.er9 (hr.mono (by decide)) rfl (de_v 0)) (da_cons (de_mk1 E.er10 (hr.mono (by decide)) rfl (de_v 0)) (da_cons (de_mk1 E.er11 (hr.mono (by decide)) rfl (de_v 0)) (da_cons (de_mk1 E.er12 (hr.mono (by decide)) rfl (de_v 0)) da_nil)))) rfl (le_sz (by simp)))) (le_sz (by simp [upTo]))))
      (dss_cons (δ1 := [.d d, .ow (upTo K d 17)]) (ds_setO (i := 1) (δ1 := [.d d, .un]) (xs := upTo K d 17) sc_law_first.nd rfl (.inl rfl) (by simp) (de_cat (xs := upTo K d 13) (ys := [.exc (cA K 13) d, .exc (cA K 14) d, .exc (cA K 15) d, .exc (cA K 16) d]) (de_frz (de_vm 1)) (de_frz (de_lst (ds := [.exc (cA K 13) d, .exc (cA K 14) d, .exc (cA K 15) d, .exc (cA K 16) d]) (da_cons (de_mk1 E.er13 (hr.mono (by decide)) rfl (de_v 0)) (da_cons (de_mk1 E.er14 (hr.mono (by decide)) rfl (de_v 0)) (da_cons (de_mk1 E.er15 (hr.mono (by decide)) rfl (de_v 0)) (da_cons (de_mk1 E.er16 (hr.mono (by decide)) rfl (de_v 0)) da_nil)))) rfl (le_sz (by simp)))) (le_sz (by simp [upTo]))))
      (dss_cons (δ1 := [.d d, .ow (upTo K d 21)]) (ds_setO (i := 1) (δ1 := [.d d, .un]) (xs := upTo K d 21) sc_law_first.nd rfl (.inl rfl) (by simp) (de_cat (xs := upTo K d 17) (ys := [.exc (cA K 17) d, .exc (cA K 18) d, .exc (cA K 19) d, .exc (cA K 20) d]) (de_frz (de_vm 1)) (de_frz (de_lst (ds := [.exc (cA K 17) d, .exc (cA K 18) d, .exc (cA K 19) d, .exc (cA K 20) d]) (da_cons (de_mk1 E.er17 (hr.mono (by decide)) rfl (de_v 0)) (da_cons (de_mk1 E.er18 (hr.mono (by decide)) rfl (de_v 0)) (da_cons (de_mk1 E.er19 (hr.mono (by decide)) rfl (de_v 0)) (da_cons (de_mk1 E.er20 (hr.mono (by decide)) rfl (de_v 0)) da_nil)))) rfl (le_sz (by simp)))) (le_sz (by simp [upTo]))))
      (dss_cons (δ1 := [.d d, .ow (upTo K d 25)]) (ds_setO (i := 1) (δ1 := [.d d, .un]) (xs := upTo K d 25) sc_law_first.nd rfl (.inl rfl) (by simp) (de_cat (xs := upTo K d 21) (ys := [.exc (cA K 21) d, .exc (cA K 22) d, .exc (cA K 23) d, .exc (cA K 24) d]) (de_frz (de_vm 1)) (de_frz (de_lst (ds := [.exc (cA K 21) d, .exc (cA K 22) d, .exc (cA K 23) d, .exc (cA K 24) d]) (da_cons (de_mk1 E.er21 (hr.mono (by decide)) rfl (de_v 0)) (da_cons (de_mk1 E.er22 (hr.mono (by decide)) rfl (de_v 0)) (da_cons (de_mk1 E.er23 (hr.mono (by decide)) rfl (de_v 0)) (da_cons (de_mk1 E.er24 (hr.mono (by decide)) rfl (de_v 0)) da_nil)))) rfl (le_sz (by simp)))) (le_sz (by simp [upTo]))))
      (dss_cons (δ1 := [.d d, .ow (upTo K d 30)]) (ds_setO (i := 1) (δ1 := [.d d, .un]) (xs := upTo K d 30) sc_law_first.nd rfl (.inl rfl) (by simp) (de_cat (xs := upTo K d 25) (ys := [.exc (cA K 25) d, .exc (cA K 26) d, .exc (cA K 27) d, .exc (cA K 28) d, .exc (cA K 29) d]) (de_frz (de_vm 1)) (de_frz (de_lst (ds := [.exc (cA K 25) d, .exc (cA K 26) d, .exc (cA K 27) d, .exc (cA K 28) d, .exc (cA K 29) d]) (da_cons (de_mk1 E.er25 (hr.mono (by decide)) rfl (de_v 0)) (da_cons (de_mk1 E.er26 (hr.mono (by decide)) rfl (de_v 0)) (da_cons (de_mk1 E.er27 (hr.mono (by decide)) rfl (de_v 0)) (da_cons (de_mk1 E.er28 (hr.mono (by decide)) rfl (de_v 0)) (da_cons (de_mk1 E.er29 (hr.mono (by decide)) rfl (de_v 0)) da_nil))))) rfl (le_sz (by simp)))) (le_sz (by simp [upTo]))))
      (dss_cons (δ1 := [.d d, .ow (upTo K d 34)]) (ds_setO (i := 1) (δ1 := [.d d, .un]) (xs := upTo K d 34) sc_law_first.nd rfl (.inl rfl) (by simp) (de_cat (xs := upTo K d 30) (ys := [.exc (cA K 30) d, .exc (cA K 31) d, .exc (cA K 32) d, .exc (cA K 33) d]) (de_frz (de_vm 1)) (de_frz (de_lst (ds := [.exc (cA K 30) d, .exc (cA K 31) d, .exc (cA K 32) d, .exc (cA K 33) d]) (da_cons (de_mk1 E.er30 (hr.mono (by decide)) rfl (de_v 0)) (da_cons (de_mk1 E.er31 (hr.mono (by decide)) rfl (de_v 0)) (da_cons (de_mk1 E.er32 (hr.mono (by decide)) rfl (de_v 0)) (da_cons (de_mk1 E.er33 (hr.mono (by decide)) rfl (de_v 0)) da_nil)))) rfl (le_sz (by simp)))) (le_sz (by simp [upTo]))))
      (dss_one (ds_ret (de_vm 1 (xs := upTo K d 34)))))))))))) rfl)

theorem sc_law_called : FnScope ["thing", "found"] ["thing"] (defScope s__law_called) := ⟨rfl, rfl, rfl, by decide +kernel, rfl, by decide +kernel, by decide +kernel⟩
theorem fd_called (E : ErsT P K mg) (D1 : Df K mg "_law_called" s__law_called) : FD P w K mg base 3 "_law_called" ["thing"] (RMk K) noX :=
  D1.fd (fun _ _ _ _ _ _ us hl => match us, hl with | [_], _ => rfl) fun f fd F => fn_rel0 F sc_law_called (fun _ _ _ ⟨_, h, _⟩ => by rw [h]; rfl) (fun cdv A outer s H E0 hr args r args' ⟨d, e1, e2, e3⟩ => by
    subst e1 e2 e3
    exact ret0 (dss_cons (δ1 := [.d d, .ow (upTo K d 3)]) (ds_setO (i := 1) (δ1 := [.d d, .un]) (xs := upTo K d 3) sc_law_called.nd rfl (.inl rfl) (by simp) (de_lst (ds := [.exc (cA K 0) d, .exc (cA K 1) d, .exc (cA K 2) d]) (da_cons (de_mkK E.er0 (hr.mono (by decide)) rfl (de_v 0)) (da_cons (de_mkK E.er1 (hr.mono (by decide)) rfl (de_v 0)) (da_cons (de_mkK E.er2 (hr.mono (by decide)) rfl (de_v 0)) da_nil))) rfl (le_sz (by simp))))
      (dss_cons (δ1 := [.d d, .ow (upTo K d 6)]) (ds_setO (i := 1) (δ1 := [.d d, .un]) (xs := upTo K d 6) sc_law_called.nd rfl (.inl rfl) (by simp) (de_cat (xs := upTo K d 3) (ys := [.exc (cA K 3) d, .exc (cA K 4) d, .exc (cA K 5) d]) (de_frz (de_vm 1)) (de_frz (de_lst (ds := [.exc (cA K 3) d, .exc (cA K 4) d, .exc (cA K 5) d]) (da_cons (de_mkK E.er3 (hr.mono (by decide)) rfl (de_v 0)) (da_cons (de_mkK E.er4 (hr.mono (by decide)) rfl (de_v 0)) (da_cons (de_mkK E.er5 (hr.mono (by decide)) rfl (de_v 0)) da_nil))) rfl (le_sz (by simp)))) (le_sz (by simp [upTo]))))
      (dss_cons (δ1 := [.d d, .ow (upTo K d 9)]) (ds_setO (i := 1) (δ1 := [.d d, .un]) (xs := upTo K d 9) sc_law_called.nd rfl (.inl rfl) (by simp) (de_cat (xs := upTo K d 6) (ys := [.exc (cA K 6) d, .exc (cA K 7) d, .exc (cA K 8) d]) (de_frz (de_vm 1)) (de_frz (de_lst (ds := [.exc (cA K 6) d, .exc (cA K 7) d, .exc (cA K 8) d]) (da_cons (de_mkK E.er6 (hr.mono (by decide)) rfl (de_v 0)) (da_cons (de_mkK E.er7 (hr.mono (by decide)) rfl (de_v 0)) (da_cons (de_mkK E.er8 (hr.mono (by decide)) rfl (de_v 0)) da_nil))) rfl (le_sz (by simp)))) (le_sz (by simp [upTo]))))
      (dss_cons (δ1 := [.d d, .ow (upTo K d 12)]) (ds_setO (i := 1) (δ1 := [.d d, .un]) (xs := upTo K d 12) sc_law_called.nd rfl (.inl rfl) (by simp) (de_cat (xs := upTo K d 9) (ys := [.exc (cA K 9) d, .exc (cA K 10) d, .exc (cA K 11) d]) (de_frz (de_vm 1)) (de_frz (de_lst (ds := [.exc (cA K 9) d, .exc (cA K 10) d, .exc (cA K 11) d]) (da_cons (de_mkK E.er9 (hr.mono (by decide)) rfl (de_v 0)) (da_cons (de_mkK E.er10 (hr.mono (by decide)) rfl (de_v 0)) (da_cons (de_mkK E.er11 (hr.mono (by decide)) rfl (de_v 0)) da_nil))) rfl (le_sz (by simp)))) (le_sz (by simp [upTo]))))
      (dss_cons (δ1 := [.d d, .ow (upTo K d 15)]) (ds_setO (i := 1) (δ1 := [.d d, .un]) (xs := upTo K d 15) sc_law_called.nd rfl (.inl rfl) (by simp) (de_cat (xs := upTo K d 12) (ys := [.exc (cA K 12) d, .exc (cA K 13) d, .exc (cA K 14) d]) (de_frz (de_vm 1)) (de_frz (de_lst (ds := [.exc (cA K 12) d, .exc (cA K 13) d, .exc (cA K 14) d]) (da_cons (de_mkK E.er12 (hr.mono (by decide)) rfl (de_v 0)) (da_cons (de_mkK E.er13 (hr.mono (by decide)) rfl (de_v 0)) (da_cons (de_mkK E.er14 (hr.mono (by decide)) rfl (de_v 0)) da_nil))) rfl (le_sz (by simp)))) (le_sz (by simp [upTo]))))
      (dss_cons (δ1 := [.d d, .ow (upTo K d 18)]) (ds_setO (i := 1) (δ1 := [.d d, .un]) (xs := upTo K d 18) sc_law_called.nd rfl (.inl rfl) (by simp) (de_cat (xs := upTo K d 15) (ys := [.exc (cA K 15) d, .exc (cA K 16) d, .exc (cA K 17) d]) (de_frz (de_vm 1)) (de_frz (de_lst (ds := [.exc (cA K 15) d, .exc (cA K 16) d, .exc (cA K 17) d]) (da_cons (de_mkK E.er15 (hr.mono (by decide)) rfl (de_v 0)) (da_cons (de_mkK E.er16 (hr.mono (by decide)) rfl (de_v 0)) (da_cons (de_mkK E.er17 (hr.mono (by decide)) rfl (de_v 0)) da_nil))) rfl (le_sz (by simp)))) (le_sz (by simp [upTo]))))
      (dss_cons (δ1 := [.d d, .ow (upTo K d 21)]) (ds_setO (i := 1) (δ1 := [.d d, .un]) (xs := upTo K d 21) sc_law_called.nd rfl (.inl rfl) (by simp) (de_cat (xs := upTo K d 18) (ys := [.exc (cA K 18) d, .exc (cA K 19) d, .exc (cA K 20) d]) (de_frz (de_vm 1)) (de_frz (de_lst (ds := [.exc (cA K 18) d, .exc (cA K 19) d, .exc (cA K 20) d]) (da_cons (de_mkK E.er18 (hr.mono (by decide)) rfl (de_v 0)) (da_cons (de_mkK E.er19 (hr.mono (by decide)) rfl (de_v 0)) (da_cons (de_mkK E.er20 (hr.mono (by decide)) rfl (de_v 0)) da_nil))) rfl (le_sz (by simp)))) (le_sz (by simp [upTo]))))
      (dss_cons (δ1 := [.d d, .ow (upTo K d 24)]) (ds_setO (i := 1) (δ1 := [.d d, .un]) (xs := upTo K d 24) sc_law_called.nd rfl (.inl rfl) (by simp) (de_cat (xs := upTo K d 21) (ys := [.exc (cA K 21) d, .exc (cA K 22) d, .exc (cA K 23) d]) (de_frz (de_vm 1)) (de_frz (de_lst (ds := [.exc (cA K 21) d, .exc (cA K 22) d, .exc (cA K 23) d]) (da_cons (de_mkK E.er21 (hr.mono (by decide)) rfl (de_v 0)) (da_cons (de_mkK E.er22 (hr.mono (by decide)) rfl (de_v 0)) (da_cons (de_mkK E.er23 (hr.mono (by decide)) rfl (de_v 0)) da_nil))) rfl (le_sz (by simp)))) (le_sz (by simp [upTo]))))
      (dss_cons (δ1 := [.d d, .ow (upTo K d 27)]) (ds_setO (i := 1) (δ1 := [.d d, .un]) (xs := upTo K d 27) sc_law_called.nd rfl (.inl rfl) (by simp) (de_cat (xs := upTo K d 24) (ys := [.exc (cA K 24) d, .exc (cA K 25) d, .exc (cA K 26) d]) (de_frz (de_vm 1)) (de_frz (de_lst (ds := [.exc (cA K 24) d, .exc (cA K 25) d, .exc (cA K 26) d]) (da_cons (de_mkK E.er24 (hr.mono (by decide)) rfl (de_v 0)) (da_cons (de_mkK E.er25 (hr.mono (by decide)) rfl (de_v 0)) (da_cons (de_mkK E.er26 (hr.mono (by decide)) rfl (de_v 0)) da_nil))) rfl (le_sz (by simp)))) (le_sz (by simp [upTo]))))
      (dss_cons (δ1 := [.d d, .ow (upTo K d 31)]) (ds_setO (i := 1) (δ1 := [.d d, .un]) (xs := upTo K d 31) sc_law_called.nd rfl (.inl rfl) (by simp) (de_cat (xs := upTo K d 27) (ys := [.exc (cA K 27) d, .exc (cA K 28) d, .exc (cA K 29) d, .exc (cA K 30) d]) (de_frz (de_vm 1)) (de_frz (de_lst (ds := [.exc (cA K 27) d, .exc (cA K 28) d, .exc (cA K 29) d, .exc (cA K 30) d]) (da_cons (de_mkK E.er27 (hr.mono (by decide)) rfl (de_v 0)) (da_cons (de_mkK E.er28 (hr.mono (by decide)) rfl (de_v 0)) (da_cons (de_mkK E.er29 (hr.mono (by decide)) rfl (de_v 0)) (da_cons (de_mkK E.er30 (hr.mono (by decide)) rfl (de_v 0)) da_nil)))) rfl (le_sz (by simp)))) (le_sz (by simp [upTo]))))
      (dss_cons (δ1 := [.d d, .ow (upTo K d 34)]) (ds_setO (i := 1) (δ1 := [.d d, .un]) (xs := upTo K d 34) sc_law_called.nd rfl (.inl rfl) (by simp) (de_cat (xs := upTo K d 31) (ys := [.exc (cA K 31) d, .exc (cA K 32) d, .exc (cA K 33) d]) (de_frz (de_vm 1)) (de_frz (de_lst (ds := [.exc (cA K 31) d, .exc (cA K 32) d, .exc (cA K 33) d]) (da_cons (de_mkK E.er31 (hr.mono (by decide)) rfl (de_v 0)) (da_cons (de_mkK E.er32 (hr.mono (by decide)) rfl (de_v 0)) (da_cons (de_mkK E.er33 (hr.mono (by decide)) rfl (de_v 0)) da_nil))) rfl (le_sz (by simp)))) (le_sz (by simp [upTo]))))
      (dss_one (ds_ret (de_vm 1 (xs := upTo K d 34))))))))))))))) rfl)

theorem sc_law_bare : FnScope ["found"] [] (defScope s__law_bare) := ⟨rfl, rfl, rfl, by decide +kernel, rfl, by decide +kernel, by decide +kernel⟩
def RBare (K : PySem.W.Frag) : RelD := fun args r args' => args = [] ∧ r = .ow (excs K .non) ∧ args' = args
theorem fd_bare (E : ErsT P K mg) (D1 : Df K mg "_law_bare" s__law_bare) : FD P w K mg base 3 "_law_bare" [] (RBare K) noX :=
  D1.fd (fun _ _ _ _ _ _ us hl => match us, hl with | [], _ => rfl) fun f fd F => fn_rel0 F sc_law_bare (fun _ _ _ ⟨h, _⟩ => by rw [h]; rfl) (fun cdv A outer s H E0 hr args r args' ⟨e1, e2, e3⟩ => by
    subst e1 e2 e3
    exact ret0 (dss_cons (δ1 := [.ow (upTo K .non 6)]) (ds_setO (i := 0) (δ1 := [.un]) (xs := upTo K .non 6) sc_law_bare.nd rfl (.inl rfl) (by simp) (de_lst (ds := [.exc (cA K 0) .non, .exc (cA K 1) .non, .exc (cA K 2) .non, .exc (cA K 3) .non, .exc (cA K 4) .non, .exc (cA K 5) .non]) (da_cons (de_mk0 E.er0 (hr.mono (by decide)) rfl) (da_cons (de_mk0 E.er1 (hr.mono (by decide)) rfl) (da_cons (de_mk0 E.er2 (hr.mono (by decide)) rfl) (da_cons (de_mk0 E.er3 (hr.mono (by decide)) rfl) (da_cons (de_mk0 E.er4 (hr.mono (by decide)) rfl) (da_cons (de_mk0 E.er5 (hr.mono (by decide)) rfl) da_nil)))))) rfl (le_sz (by simp))))
      (dss_cons (δ1 := [.ow (upTo K .non 11)]) (ds_setO (i := 0) (δ1 := [.un]) (xs := upTo K .non 11) sc_law_bare.nd rfl (.inl rfl) (by simp) (de_cat (xs := upTo K .non 6) (ys := [.exc (cA K 6) .non, .exc (cA K 7) .non, .exc (cA K 8) .non, .exc (cA K 9) .non, .exc (cA K 10) .non]) (de_frz (de_vm 0)) (de_frz (de_lst (ds := [.exc (cA K 6) .non, .exc (cA K 7) .non, .exc (cA K 8) .non, .exc (cA K 9) .non, .exc (cA K 10) .non]) (da_cons (de_mk0 E.er6 (hr.mono (by decide)) rfl) (da_cons (de_mk0 E.er7 (hr.mono (by decide)) rfl) (da_cons (de_mk0 E.er8 (hr.mono (by decide)) rfl) (da_cons (de_mk0 E.er9 (hr.mono (by decide)) rfl) (da_cons (de_mk0 E.er10 (hr.mono (by decide)) rfl) da_nil))))) rfl (le_sz (by simp)))) (le_sz (by simp [upTo]))))
      (dss_cons (δ1 := [.ow (upTo K .non 17)]) (ds_setO (i := 0) (δ1 := [.un]) (xs := upTo K .non 17) sc_law_bare.nd rfl (.inl rfl) (by simp) (de_cat (xs := upTo K .non 11) (ys := [.exc (cA K 11) .non, .exc (cA K 12) .non, .exc (cA K 13) .non, .exc (cA K 14) .non, .exc (cA K 15) .non, .exc (cA K 16) .non]) (de_frz (de_vm 0)) (de_frz (de_lst (ds := [.exc (cA K 11) .non, .exc (cA K 12) .non, .exc (cA K 13) .non, .exc (cA K 14) .non, .exc (cA K 15) .non, .exc (cA K 16) .non]) (da_cons (de_mk0 E.er11 (hr.mono (by decide)) rfl) (da_cons (de_mk0 E.er12 (hr.mono (by decide)) rfl) (da_cons (de_mk0 E.er13 (hr.mono (by decide)) rfl) (da_cons (de_mk0 E.er14 (hr.mono (by decide)) rfl) (da_cons (de_mk0 E.er15 (hr.mono (by decide)) rfl) (da_cons (de_mk0 E.er16 (hr.mono (by decide)) rfl) da_nil)))))) rfl (le_sz (by simp)))) (le_sz (by simp [upTo]))))
      (dss_cons (δ1 := [.ow (upTo K .non 22)]) (ds_setO (i := 0) (δ1 := [.un]) (xs := upTo K .non 22) sc_law_bare.nd rfl (.inl rfl) (by simp) (de_cat (xs := upTo K .non 17) (ys := [.exc (cA K 17) .non, .exc (cA K 18) .non, .exc (cA K 19) .non, .exc (cA K 20) .non, .exc (cA K 21) .non]) (de_frz (de_vm 0)) (de_frz (de_lst (ds := [.exc (cA K 17) .non, .exc (cA K 18) .non, .exc (cA K 19) .non, .exc (cA K 20) .non, .exc (cA K 21) .non]) (da_cons (de_mk0 E.er17 (hr.mono (by decide)) rfl) (da_cons (de_mk0 E.er18 (hr.mono (by decide)) rfl) (da_cons (de_mk0 E.er19 (hr.mono (by decide)) rfl) (da_cons (de_mk0 E.er20 (hr.mono (by decide)) rfl) (da_cons (de_mk0 E.er21 (hr.mono (by decide)) rfl) da_nil))))) rfl (le_sz (by simp)))) (le_sz (by simp [upTo]))))
      (dss_cons (δ1 := [.ow (upTo K .non 28)]) (ds_setO (i := 0) (δ1 := [.un]) (xs := upTo K .non 28) sc_law_bare.nd rfl (.inl rfl) (by simp) (de_cat (xs := upTo K .non 22) (ys := [.exc (cA K 22) .non, .exc (cA K 23) .non, .exc (cA K 24) .non, .exc (cA K 25) .non, .exc (cA K 26) .non, .exc (cA K 27) .non]) (de_frz (de_vm 0)) (de_frz (de_lst (ds := [.exc (cA K 22) .non, .exc (cA K 23) .non, .exc (cA K 24) .non, .exc (cA K 25) .non, .exc (cA K 26) .non, .exc (cA K 27) .non]) (da_cons (de_mk0 E.er22 (hr.mono (by decide)) rfl) (da_cons (de_mk0 E.er23 (hr.mono (by decide)) rfl) (da_cons (de_mk0 E.er24 (hr.mono (by decide)) rfl) (da_cons (de_mk0 E.er25 (hr.mono (by decide)) rfl) (da_cons (de_mk0 E.er26 (hr.mono (by decide)) rfl) (da_cons (de_mk0 E.er27 (hr.mono (by decide)) rfl) da_nil)))))) rfl (le_sz (by simp)))) (le_sz (by simp [upTo]))))
      (dss_cons (δ1 := [.ow (upTo K .non 34)]) (ds_setO (i := 0) (δ1 := [.un]) (xs := upTo K .non 34) sc_law_bare.nd rfl (.inl rfl) (by simp) (de_cat (xs := upTo K .non 28) (ys := [.exc (cA K 28) .non, .exc (cA K 29) .non, .exc (cA K 30) .non, .exc (cA K 31) .non, .exc (cA K 32) .non, .exc (cA K 33) .non]) (de_frz (de_vm 0)) (de_frz (de_lst (ds := [.exc (cA K 28) .non, .exc (cA K 29) .non, .exc (cA K 30) .non, .exc (cA K 31) .non, .exc (cA K 32) .non, .exc (cA K 33) .non]) (da_cons (de_mk0 E.er28 (hr.mono (by decide)) rfl) (da_cons (de_mk0 E.er29 (hr.mono (by decide)) rfl) (da_cons (de_mk0 E.er30 (hr.mono (by decide)) rfl) (da_cons (de_mk0 E.er31 (hr.mono (by decide)) rfl) (da_cons (de_mk0 E.er32 (hr.mono (by decide)) rfl) (da_cons (de_mk0 E.er33 (hr.mono (by decide)) rfl) da_nil)))))) rfl (le_sz (by simp)))) (le_sz (by simp [upTo]))))
      (dss_one (ds_ret (de_vm 0 (xs := upTo K .non 34)))))))))) rfl)

theorem sc_law_code : FnScope ["error", "found", "at"] ["error"] (defScope s__law_code) := ⟨rfl, rfl, rfl, by decide +kernel, rfl, by decide +kernel, by decide +kernel⟩
def RCode (K : PySem.W.Frag) : RelD := fun args r args' => ∃ k d, k < 37 ∧ args = [.d (.exc (cA K k) d)] ∧ r = .ow (codeD k) ∧ args' = args
def isK (k : Nat) : D → Bool
  | .int i => decide (k = i.toNat)
  | _ => false
theorem code_eq {k : Nat} (h : k < 37) : ((irange 0 36).filter (isK k)).map id = codeD k := by
  have key : ∀ k < 37, (List.range 36).filter (fun j => decide (k = j)) = if k < 36 then [k] else [] := by decide
  unfold irange codeD
  rw [List.filter_map, List.map_id]
  have e : (isK k ∘ fun (n : Nat) => D.int (0 + (n : Int))) = fun j => decide (k = j) := by
    funext j
    show decide (k = (0 + (j : Int)).toNat) = decide (k = j)
    congr 2
    omega
  rw [e, key k h]
  split <;> simp
theorem fd_code (B : Bn mg) (E : ErsT P K mg) (D1 : Df K mg "_law_code" s__law_code) : FD P w K mg base 2 "_law_code" ["error"] (RCode K) noX :=
  D1.fd (fun _ _ _ _ _ _ us hl => match us, hl with | [_], _ => rfl) fun f fd F => fn_rel0 F sc_law_code (fun _ _ _ ⟨_, _, _, h, _⟩ => by rw [h]; rfl) (fun cdv A outer s H E0 hr args r args' ⟨k, d, hk, e1, e2, e3⟩ => by
    subst e1 e2 e3
    refine ret0 (δ' := [.d (.exc (cA K k) d), .ow (flg k 36), .un]) (dss_cons (δ1 := [.d (.exc (cA K k) d), .ow (flg k 3), .un]) (ds_setO (i := 1) (δ1 := [.d (.exc (cA K k) d), .un, .un]) (xs := flg k 3) sc_law_code.nd rfl (by first | exact .inl rfl | exact .inr rfl) (by simp) (de_lst (ds := [.bl (decide (k = 0)), .bl (decide (k = 1)), .bl (decide (k = 2))]) (da_cons (de_isX (C := cA K k) (C2 := cA K 0) (E.ist k hk) rfl B.isi (de_v 0) rfl E.g0 (E.kit k 0 hk (by decide))) (da_cons (de_isX (C := cA K k) (C2 := cA K 1) (E.ist k hk) rfl B.isi (de_v 0) rfl E.g1 (E.kit k 1 hk (by decide))) (da_cons (de_isX (C := cA K k) (C2 := cA K 2) (E.ist k hk) rfl B.isi (de_v 0) rfl E.g2 (E.kit k 2 hk (by decide))) da_nil))) rfl (le_sz (by simp))))
      (dss_cons (δ1 := [.d (.exc (cA K k) d), .ow (flg k 5), .un]) (ds_setO (i := 1) (δ1 := [.d (.exc (cA K k) d), .un, .un]) (xs := flg k 5) sc_law_code.nd rfl (by first | exact .inl rfl | exact .inr rfl) (by simp) (de_cat (xs := flg k 3) (ys := [.bl (decide (k = 3)), .bl (decide (k = 4))]) (de_frz (de_vm 1)) (de_frz (de_lst (ds := [.bl (decide (k = 3)), .bl (decide (k = 4))]) (da_cons (de_isX (C := cA K k) (C2 := cA K 3) (E.ist k hk) rfl B.isi (de_v 0) rfl E.g3 (E.kit k 3 hk (by decide))) (da_cons (de_isX (C := cA K k) (C2 := cA K 4) (E.ist k hk) rfl B.isi (de_v 0) rfl E.g4 (E.kit k 4 hk (by decide))) da_nil)) rfl (le_sz (by simp)))) (le_sz (by simp [flg]))))
      (dss_cons (δ1 := [.d (.exc (cA K k) d), .ow (flg k 7), .un]) (ds_setO (i := 1) (δ1 := [.d (.exc (cA K k) d), .un, .un]) (xs := flg k 7) sc_law_code.nd rfl (by first | exact .inl rfl | exact .inr rfl) (by simp) (de_cat (xs := flg k 5) (ys := [.bl (decide (k = 5)), .bl (decide (k = 6))]) (de_frz (de_vm 1)) (de_frz (de_lst (ds := [.bl (decide (k = 5)), .bl (decide (k = 6))]) (da_cons (de_isX (C := cA K k) (C2 := cA K 5) (E.ist k hk) rfl B.isi (de_v 0) rfl E.g5 (E.kit k 5 hk (by decide))) (da_cons (de_isX (C := cA K k) (C2 := cA K 6) (E.ist k hk) rfl B.isi (de_v 0) rfl E.g6 (E.kit k 6 hk (by decide))) da_nil)) rfl (le_sz (by simp)))) (le_sz (by simp [flg]))))
      (dss_cons (δ1 := [.d (.exc (cA K k) d), .ow (flg k 9), .un]) (ds_setO (i := 1) (δ1 := [.d (.exc (cA K k) d), .un, .un]) (xs := flg k 9) sc_law_code.nd rfl (by first | exact .inl rfl | exact .inr rfl) (by simp) (de_cat (xs := flg k 7) (ys := [.bl (decide (k = 7)), .bl (decide (k = 8))]) (de_frz (de_vm 1)) (de_frz (de_lst (ds := [.bl (decide (k = 7)), .bl (decide (k = 8))]) (da_cons (de_isX (C := cA K k) (C2 := cA K 7) (E.ist k hk) rfl B.isi (de_v 0) rfl E.g7 (E.kit k 7 hk (by decide))) (da_cons (de_isX (C := cA K k) (C2 := cA K 8) (E.ist k hk) rfl B.isi (de_v 0) rfl E.g8 (E.kit k 8 hk (by decide))) da_nil)) rfl (le_sz (by simp)))) (le_sz (by simp [flg]))))
      (dss_cons (δ1 := [.d (.exc (cA K k) d), .ow (flg k 11), .un]) (ds_setO (i := 1) (δ1 := [.d (.exc (cA K k) d), .un, .un]) (xs := flg k 11) sc_law_code.nd rfl (by first | exact .inl rfl | exact .inr rfl) (by simp) (de_cat (xs := flg k 9) (ys := [.bl (decide (k = 9)), .bl (decide (k = 10))]) (de_frz (de_vm 1)) (de_frz (de_lst (ds := [.bl (decide (k = 9)), .bl (decide (k = 10))]) (da_cons (de_isX (C := cA K k) (C2 := cA K 9) (E.ist k hk) rfl B.isi (de_v 0) rfl E.g9 (E.kit k 9 hk (by decide))) (da_cons (de_isX (C := cA K k) (C2 := cA K 10) (E.ist k hk) rfl B.isi (de_v 0) rfl E.g10 (E.kit k 10 hk (by decide))) da_nil)) rfl (le_sz (by simp)))) (le_sz (by simp [flg]))))
      (dss_cons (δ1 := [.d (.exc (cA K k) d), .ow (flg k 13), .un]) (ds_setO (i := 1) (δ1 := [.d (.exc (cA K k) d), .un, .un]) (xs := flg k 13) sc_law_code.nd rfl (by first | exact .inl rfl | exact .inr rfl) (by simp) (de_cat (xs := flg k 11) (ys := [.bl (decide (k = 11)), .bl (decide (k = 12))]) (de_frz (de_vm 1)) (de_frz (de_lst (ds := [.bl (decide (k = 11)), .bl (decide (k = 12))]) (da_cons (de_isX (C := cA K k) (C2 := cA K 11) (E.ist k hk) rfl B.isi (de_v 0) rfl E.g11 (E.kit k 11 hk (by decide))) (da_cons (de_isX (C := cA K k) (C2 := cA K 12) (E.ist k hk) rfl B.isi (de_v 0) rfl E.g12 (E.kit k 12 hk (by decide))) da_nil)) rfl (le_sz (by simp)))) (le_sz (by simp [flg]))))
      (dss_cons (δ1 := [.d (.exc (cA K k) d), .ow (flg k 15), .un]) (ds_setO (i := 1) (δ1 := [.d (.exc (cA K k) d), .un, .un]) (xs := flg k 15) sc_law_code.nd rfl (by first | exact .inl rfl | exact .inr rfl) (by simp) (de_cat (xs := flg k 13) (ys := [.bl (decide (k = 13)), .bl (decide (k = 14))]) (de_frz (de_vm 1)) (de_frz (de_lst (ds := [.bl (decide (k = 13)), .bl (decide (k = 14))]) (da_cons (de_isX (C := cA K k) (C2 := cA K 13) (E.ist k hk) rfl B.isi (de_v 0) rfl E.g13 (E.kit k 13 hk (by decide))) (da_cons (de_isX (C := cA K k) (C2 := cA K 14) (E.ist k hk) rfl B.isi (de_v 0) rfl E.g14 (E.kit k 14 hk (by decide))) da_nil)) rfl (le_sz (by simp)))) (le_sz (by simp [flg]))))
      (dss_cons (δ1 := [.d (.exc (cA K k) d), .ow (flg k 17), .un]) (ds_setO (i := 1) (δ1 := [.d (.exc (cA K k) d), .un, .un]) (xs := flg k 17) sc_law_code.nd rfl (by first | exact .inl rfl | exact .inr rfl) (by simp) (de_cat (xs := flg k 15) (ys := [.bl (decide (k = 15)), .bl (decide (k = 16))]) (de_frz (de_vm 1)) (de_frz (de_lst (ds := [.bl (decide (k = 15)), .bl (decide (k = 16))]) (da_cons (de_isX (C := cA K k) (C2 := cA K 15) (E.ist k hk) rfl B.isi (de_v 0) rfl E.g15 (E.kit k 15 hk (by decide))) (da_cons (de_isX (C := cA K k) (C2 := cA K 16) (E.ist k hk) rfl B.isi (de_v 0) rfl E.g16 (E.kit k 16 hk (by decide))) da_nil)) rfl (le_sz (by simp)))) (le_sz (by simp [flg]))))
      (dss_cons (δ1 := [.d (.exc (cA K k) d), .ow (flg k 19), .un]) (ds_setO (i := 1) (δ1 := [.d (.exc (cA K k) d), .un, .un]) (xs := flg k 19) sc_law_code.nd rfl (by first | exact .inl rfl | exact .inr rfl) (by simp) (de_cat (xs := flg k 17) (ys := [.bl (decide (k = 17)), .bl (decide (k = 18))]) (de_frz (de_vm 1)) (de_frz (de_lst (ds := [.bl (decide (k = 17)), .bl (decide (k = 18))]) (da_cons (de_isX (C := cA K k) (C2 := cA K 17) (E.ist k hk) rfl B.isi (de_v 0) rfl E.g17 (E.kit k 17 hk (by decide))) (da_cons (de_isX (C := cA K k) (C2 := cA K 18) (E.ist k hk) rfl B.isi (de_v 0) rfl E.g18 (E.kit k 18 hk (by decide))) da_nil)) rfl (le_sz (by simp)))) (le_sz (by simp [flg]))))
      (dss_cons (δ1 := [.d (.exc (cA K k) d), .ow (flg k 21), .un]) (ds_setO (i := 1) (δ1 := [.d (.exc (cA K k) d), .un, .un]) (xs := flg k 21) sc_law_code.nd rfl (by first | exact .inl rfl | exact .inr rfl) (by simp) (de_cat (xs := flg k 19) (ys := [.bl (decide (k = 19)), .bl (decide (k = 20))]) (de_frz (de_vm 1)) (de_frz (de_lst (ds := [.bl (decide (k = 19)), .bl (decide (k = 20))]) (da_cons (de_isX (C := cA K k) (C2 := cA K 19) (E.ist k hk) rfl B.isi (de_v 0) rfl E.g19 (E.kit k 19 hk (by decide))) (da_cons (de_isX (C := cA K k) (C2 := cA K 20) (E.ist k hk) rfl B.isi (de_v 0) rfl E.g20 (E.kit k 20 hk (by decide))) da_nil)) rfl (le_sz (by simp)))) (le_sz (by simp [flg]))))
      (dss_cons (δ1 := [.d (.exc (cA K k) d), .ow (flg k 23), .un]) (ds_setO (i := 1) (δ1 := [.d (.exc (cA K k) d), .un, .un]) (xs := flg k 23) sc_law_code.nd rfl (by first | exact .inl rfl | exact .inr rfl) (by simp) (de_cat (xs := flg k 21) (ys := [.bl (decide (k = 21)), .bl (decide (k = 22))]) (de_frz (de_vm 1)) (de_frz (de_lst (ds := [.bl (decide (k = 21)), .bl (decide (k = 22))]) (da_cons (de_isX (C := cA K k) (C2 := cA K 21) (E.ist k hk) rfl B.isi (de_v 0) rfl E.g21 (E.kit k 21 hk (by decide))) (da_cons (de_isX (C := cA K k) (C2 := cA K 22) (E.ist k hk) rfl B.isi (de_v 0) rfl E.g22 (E.kit k 22 hk (by decide))) da_nil)) rfl (le_sz (by simp)))) (le_sz (by simp [flg]))))
      (dss_cons (δ1 := [.d (.exc (cA K k) d), .ow (flg k 25), .un]) (ds_setO (i := 1) (δ1 := [.d (.exc (cA K k) d), .un, .un]) (xs := flg k 25) sc_law_code.nd rfl (by first | exact .inl rfl | exact .inr rfl) (by simp) (de_cat (xs := flg k 23) (ys := [.bl (decide (k = 23)), .bl (decide (k = 24))]) (de_frz (de_vm 1)) (de_frz (de_lst (ds := [.bl (decide (k = 23)), .bl (decide (k = 24))]) (da_cons (de_isX (C := cA K k) (C2 := cA K 23) (E.ist k hk) rfl B.isi (de_v 0) rfl E.g23 (E.kit k 23 hk (by decide))) (da_cons (de_isX (C := cA K k) (C2 := cA K 24) (E.ist k hk) rfl B.isi (de_v 0) rfl E.g24 (E.kit k 24 hk (by decide))) da_nil)) rfl (le_sz (by simp)))) (le_sz (by simp [flg]))))
      (dss_cons (δ1 := [.d (.exc (cA K k) d), .ow (flg k 27), .un]) (ds_setO (i := 1) (δ1 := [.d (.exc (cA K k) d), .un, .un]) (xs := flg k 27) sc_law_code.nd rfl (by first | exact .inl rfl | exact .inr rfl) (by simp) (de_cat (xs := flg k 25) (ys := [.bl (decide (k = 25)), .bl (decide (k = 26))]) (de_frz (de_vm 1)) (de_frz (de_lst (ds := [.bl (decide (k = 25)), .bl (decide (k = 26))]) (da_cons (de_isX (C := cA K k) (C2 := cA K 25) (E.ist k hk) rfl B.isi (de_v 0) rfl E.g25 (E.kit k 25 hk (by decide))) (da_cons (de_isX (C := cA K k) (C2 := cA K 26) (E.ist k hk) rfl B.isi (de_v 0) rfl E.g26 (E.kit k 26 hk (by decide))) da_nil)) rfl (le_sz (by simp)))) (le_sz (by simp [flg]))))
      (dss_cons (δ1 := [.d (.exc (cA K k) d), .ow (flg k 30), .un]) (ds_setO (i := 1) (δ1 := [.d (.exc (cA K k) d), .un, .un]) (xs := flg k 30) sc_law_code.nd rfl (by first | exact .inl rfl | exact .inr rfl) (by simp) (de_cat (xs := flg k 27) (ys := [.bl (decide (k = 27)), .bl (decide (k = 28)), .bl (decide (k = 29))]) (de_frz (de_vm 1)) (de_frz (de_lst (ds := [.bl (decide (k = 27)), .bl (decide (k = 28)), .bl (decide (k = 29))]) (da_cons (de_isX (C := cA K k) (C2 := cA K 27) (E.ist k hk) rfl B.isi (de_v 0) rfl E.g27 (E.kit k 27 hk (by decide))) (da_cons (de_isX (C := cA K k) (C2 := cA K 28) (E.ist k hk) rfl B.isi (de_v 0) rfl E.g28 (E.kit k 28 hk (by decide))) (da_cons (de_isX (C := cA K k) (C2 := cA K 29) (E.ist k hk) rfl B.isi (de_v 0) rfl E.g29 (E.kit k 29 hk (by decide))) da_nil))) rfl (le_sz (by simp)))) (le_sz (by simp [flg]))))
      (dss_cons (δ1 := [.d (.exc (cA K k) d), .ow (flg k 33), .un]) (ds_setO (i := 1) (δ1 := [.d (.exc (cA K k) d), .un, .un]) (xs := flg k 33) sc_law_code.nd rfl (by first | exact .inl rfl | exact .inr rfl) (by simp) (de_cat (xs := flg k 30) (ys := [.bl (decide (k = 30)), .bl (decide (k = 31)), .bl (decide (k = 32))]) (de_frz (de_vm 1)) (de_frz (de_lst (ds := [.bl (decide (k = 30)), .bl (decide (k = 31)), .bl (decide (k = 32))]) (da_cons (de_isX (C := cA K k) (C2 := cA K 30) (E.ist k hk) rfl B.isi (de_v 0) rfl E.g30 (E.kit k 30 hk (by decide))) (da_cons (de_isX (C := cA K k) (C2 := cA K 31) (E.ist k hk) rfl B.isi (de_v 0) rfl E.g31 (E.kit k 31 hk (by decide))) (da_cons (de_isX (C := cA K k) (C2 := cA K 32) (E.ist k hk) rfl B.isi (de_v 0) rfl E.g32 (E.kit k 32 hk (by decide))) da_nil))) rfl (le_sz (by simp)))) (le_sz (by simp [flg]))))
      (dss_cons (δ1 := [.d (.exc (cA K k) d), .ow (flg k 36), .un]) (ds_setO (i := 1) (δ1 := [.d (.exc (cA K k) d), .un, .un]) (xs := flg k 36) sc_law_code.nd rfl (by first | exact .inl rfl | exact .inr rfl) (by simp) (de_cat (xs := flg k 33) (ys := [.bl (decide (k = 33)), .bl (decide (k = 34)), .bl (decide (k = 35))]) (de_frz (de_vm 1)) (de_frz (de_lst (ds := [.bl (decide (k = 33)), .bl (decide (k = 34)), .bl (decide (k = 35))]) (da_cons (de_isX (C := cA K k) (C2 := cA K 33) (E.ist k hk) rfl B.isi (de_v 0) rfl E.g33 (E.kit k 33 hk (by decide))) (da_cons (de_isX (C := cA K k) (C2 := cA K 34) (E.ist k hk) rfl B.isi (de_v 0) rfl E.g34 (E.kit k 34 hk (by decide))) (da_cons (de_isX (C := cA K k) (C2 := cA K 35) (E.ist k hk) rfl B.isi (de_v 0) rfl E.g35 (E.kit k 35 hk (by decide))) da_nil))) rfl (le_sz (by simp)))) (le_sz (by simp [flg]))))
      (dss_one (ds_ret ?ret)))))))))))))))))) rfl
    case ret =>
      rw [← code_eq hk]
      refine de_lcF (X := cxOf (L2.CX P w) P w K mg base ["error", "found", "at"] "_law_code" (defScope s__law_code) f cdv A outer s H E0) (f := id) (items := irange 0 36) (δ1 := [.d (.exc (cA K k) d), .ow (flg k 36), .un]) 2 (isK k) rfl sc_law_code.nd (di_to (di_range1 (n := ((flg k 36).length : Int)) rfl B.rng (de_lenO (i := 1) (xs := flg k 36) rfl B.len rfl (by first | exact .inl rfl | exact .inr (.inl rfl) | exact .inr (.inr rfl)) rfl) (by rw [flg_len]; decide)) (by rw [flg_len]; rfl)) (blk_by ["error", "found", "at"] (defScope s__law_code) (by decide +kernel)) rfl rfl (fun _ _ _ _ _ => .inl rfl) (fun _ _ _ _ _ => .inr rfl) (fun s' H' C' cl' fp' x hx => ?tst) (fun s' H' C' cl' fp' x hx _ => de_v 2) (by rw [irange_len]; decide)
      case tst =>
        obtain ⟨j, hj, rfl⟩ := List.mem_map.mp hx
        have hj : j < 36 := List.mem_range.mp hj
        refine dt_k (dt_bl (p := decide (k = j)) (de_ixo 1 (xs := flg k 36) (j := (j : Int)) (de_to (de_v 2) (by simp)) (L2.atI_nat (flg_at hj)))) ?_
        show decide (k = j) = decide (k = (0 + (j : Int)).toNat)
        congr 2
        omega)
end N01
end
section
set_option Elab.async false
set_option linter.all false
set_option maxRecDepth 100000
set_option maxHeartbeats 4000000
namespace N01
open PySem PySem.Spec PyProof.Rows L2 DL Hd
variable [TL]
section
variable {X : Cx} {δ δ1 δ2 : List DV} {a b : Expr} {pos : Pos}
theorem dt_neT {s t : Str} {k : Bool} (ha : DE X δ a (.d (.str s)) δ1) (hb : DE X δ1 b (.d (.str t)) δ2) (hk : (!decide (s = t)) = k) : DT X δ (.Compare a [.NotEq] [b] pos) k δ2 := dt_cmp op_ne ha hb (fun F H v u Q e rv ru k' => by
  cases rv; cases ru
  refine ⟨rfl, k' _ ?_⟩
  have : decide (V.str s = V.str t) = decide (s = t) := by simp
  show Rp F (.bl (!decide (V.str s = V.str t))) _
  rw [this, hk]
  exact .bl k) (nomark _)
end
variable {P : Program} {w : World} {K : PySem.W.Frag} {mg : Str → Option Value} {base : Heap}
theorem sc_is_error : FnScope ["error"] ["error"] (defScope s__law_is_error) := ⟨rfl, rfl, rfl, by decide +kernel, rfl, by decide +kernel, by decide +kernel⟩
def RIs (K : PySem.W.Frag) : RelD := fun args r args' => ∃ k d, k < 37 ∧ args = [.d (.exc (cA K k) d)] ∧ r = .d (.bl true) ∧ args' = args
theorem fd_is_error (B : Bn mg) (E : ErsT P K mg) (D1 : Df K mg "_law_is_error" s__law_is_error) : FD P w K mg base 2 "_law_is_error" ["error"] (RIs K) noX :=
  D1.fd (fun _ _ _ _ _ _ us hl => match us, hl with | [_], _ => rfl) fun f fd F => fn_rel0 F sc_is_error (fun _ _ _ ⟨_, _, _, h, _⟩ => by rw [h]; rfl) (fun cdv A outer s H E0 hr args r args' ⟨k, d, hk, e1, e2, e3⟩ => by
    subst e1 e2 e3
    exact ret0 (dss_one (ds_ret (de_andT (de_isX (C2 := cA K 36) (E.ist k hk) rfl B.isi (de_v 0) rfl E.g36 (E.up k hk)) (de_one (de_isXB (E.ist k hk) rfl B.isi (de_v 0) rfl E.ve (by decide +kernel) (E.upV k hk)))))) rfl)
theorem sc_right : FnScope ["some", "noted", "error", "at"] ["some", "noted"] (defScope s__law_right) := ⟨rfl, rfl, rfl, by decide +kernel, rfl, by decide +kernel, by decide +kernel⟩
def RRi (K : PySem.W.Frag) : RelD := fun args r args' => ∃ d, d.ShowsK ∧ (∀ a, d ≠ .exc a .non) ∧ args = [.d (.lst (excs K d)), .d (.str d.repK)] ∧ r = .d (.bl true) ∧ args' = args
/-- the defs of the law, as they stand -/
structure DfE (K : PySem.W.Frag) (mg : Str → Option Value) : Prop where
  first : Df K mg "_law_first" s__law_first
  called : Df K mg "_law_called" s__law_called
  bare : Df K mg "_law_bare" s__law_bare
  code : Df K mg "_law_code" s__law_code
  ise : Df K mg "_law_is_error" s__law_is_error
  right : Df K mg "_law_right" s__law_right
def rows (n : Nat) : List D := (List.range n).map fun (j : Nat) => D.lst [.int (j : Int)]
theorem rows_sh : (D.lst (rows 34)).sh := ⟨by decide +kernel, by decide +kernel⟩
theorem excs_get {K : PySem.W.Frag} {d : D} {j : Nat} {x : D} (h : (excs K d)[j]? = some x) : j < 34 ∧ x = .exc (cA K j) d := by
  have hj : j < 34 := by have := (List.getElem?_eq_some_iff.mp h).1; rwa [upTo_len] at this
  refine ⟨hj, ?_⟩
  unfold excs upTo at h
  rw [List.getElem?_map, List.getElem?_range hj] at h
  exact (Option.some.inj h).symm
theorem took_none (r : Nat → D) (n : Nat) : took (fun _ => false) r n = [] := by
  induction n with
  | zero => rfl
  | succ n ih => rw [took_succ, ih]; rfl
def Gu (X : Cx) : Prop := X.A.guards = some []
/-- _law_right, asked from a place whose guards are known: the body -/
theorem right_body (B : Bn mg) (E : ErsT P K mg) (T : DfE K mg) (hS : SysT K) {f : Addr} {cdv : Value} {A : Around} {outer : List Env} {s : Shared} {H : Hp} {E0 : XK}
    (hG : (cxOf (L2.CX P w) P w K mg base ["some", "noted", "error", "at"] "_law_right" (defScope s__law_right) f cdv A outer s H E0).A.guards = some [])
    (hr : Room 3 (cxOf (L2.CX P w) P w K mg base ["some", "noted", "error", "at"] "_law_right" (defScope s__law_right) f cdv A outer s H E0).A) {d : D} (hd : d.ShowsK) (hf : ∀ a, d ≠ .exc a .non) :
    DSs (cxOf (L2.CX P w) P w K mg base ["some", "noted", "error", "at"] "_law_right" (defScope s__law_right) f cdv A outer s H E0) [] (ent [.d (.lst (excs K d)), .d (.str d.repK)] 2) (defBody s__law_right) (.rt (.d (.bl true)) [.d (.lst (excs K d)), .d (.str d.repK), .un, .un]) := by
  have big : sizeLine = 16777216 := by decide
  refine dss_cons (δ1 := [.d (.lst (excs K d)), .d (.str d.repK), .un, .un]) (ds_ifF (δ1 := [.d (.lst (excs K d)), .d (.str d.repK), .un, .un]) (dt_ne (x := .lst (rows 34)) (y := .lst (rows 34)) hr rows_sh rows_sh (δ1 := [.d (.lst (excs K d)), .d (.str d.repK), .un, .un]) (de_frz (de_to
      (de_lc_ (own := [("error", 2)]) (δ1 := [.d (.lst (excs K d)), .d (.str d.repK), .un, .un]) (items := excs K d) (X := cxOf (L2.CX P w) P w K mg base ["some", "noted", "error", "at"] "_law_right" (defScope s__law_right) f cdv A outer s H E0) rfl sc_right.nd (di_list (de_v 0)) (blk_by ["some", "noted", "error", "at"] (defScope s__law_right) (by decide +kernel))
        (fun _ => [.d (.lst (excs K d)), .d (.str d.repK), .un, .un]) (fun j => [.d (.lst (excs K d)), .d (.str d.repK), .d (.exc (cA K j) d), .un]) (fun j => [.d (.lst (excs K d)), .d (.str d.repK), .d (.exc (cA K j) d), .un]) (fun j => [.d (.lst (excs K d)), .d (.str d.repK), .d (.exc (cA K j) d), .un]) (fun _ => true) (fun j => .lst [.int (j : Int)]) rfl (fun j => rfl)
        (fun s' H' C' cl' fp' j x hx => ?t1) (fun s' H' C' cl' fp' j x hx => pts_yes) (fun s' H' C' cl' fp' j x hx _ => ?e1) (fun j _ => rfl) (by rw [upTo_len]; omega) (fun v hv xs => ?o1) (δ' := [.d (.lst (excs K d)), .d (.str d.repK), .un, .un]) rfl) ?r1))
      (de_frz (de_to (de_lcM (X := cxOf (L2.CX P w) P w K mg base ["some", "noted", "error", "at"] "_law_right" (defScope s__law_right) f cdv A outer s H E0) (f := fun x => .lst [x]) (items := irange 0 34) 3 rfl sc_right.nd (di_to (di_range1 (n := 34) rfl B.rng de_int ⟨by decide, by decide⟩) rfl) (blk_by ["some", "noted", "error", "at"] (defScope s__law_right) (by decide +kernel)) rfl rfl (fun _ _ _ _ _ => .inl rfl) (fun _ _ _ _ _ => .inr rfl) (fun s' H' C' cl' fp' x hx => de_frz (de_lst (da_cons (de_v 3) da_nil) rfl (le_sz (by simp)))) (by rw [irange_len]; decide)) ?r2)) ?ne) rfl dss_nil)
    (dss_one (ds_ret (de_to (de_eq hr (x := .lst []) (y := .lst []) ⟨rfl, by decide⟩ ⟨rfl, by decide⟩ (δ1 := [.d (.lst (excs K d)), .d (.str d.repK), .un, .un]) (de_frz (de_to
      (de_lc_ (own := [("error", 2)]) (δ1 := [.d (.lst (excs K d)), .d (.str d.repK), .un, .un]) (items := excs K d) (X := cxOf (L2.CX P w) P w K mg base ["some", "noted", "error", "at"] "_law_right" (defScope s__law_right) f cdv A outer s H E0) rfl sc_right.nd (di_list (de_v 0)) (blk_by ["some", "noted", "error", "at"] (defScope s__law_right) (by decide +kernel))
        (fun _ => [.d (.lst (excs K d)), .d (.str d.repK), .un, .un]) (fun j => [.d (.lst (excs K d)), .d (.str d.repK), .d (.exc (cA K j) d), .un]) (fun j => [.d (.lst (excs K d)), .d (.str d.repK), .d (.exc (cA K j) d), .un]) (fun j => [.d (.lst (excs K d)), .d (.str d.repK), .d (.exc (cA K j) d), .un]) (fun _ => false) (fun j => .non) rfl (fun j => rfl)
        (fun s' H' C' cl' fp' j x hx => ?t3) (fun s' H' C' cl' fp' j x hx => pts_of ?c3) (fun s' H' C' cl' fp' j x hx z => nomatch z) (fun j _ => rfl) (by rw [upTo_len]; omega) (fun v hv xs => ?o3) (δ' := [.d (.lst (excs K d)), .d (.str d.repK), .un, .un]) rfl) ?r3))
      (de_frz (de_lst (ds := []) da_nil rfl (le_sz (by simp))))) ?eq)))
  case t1 =>
    obtain ⟨hj, rfl⟩ := excs_get hx
    exact dg_name (X := Cx.blk (cxOf (L2.CX P w) P w K mg base ["some", "noted", "error", "at"] "_law_right" (defScope s__law_right) f cdv A outer s H E0) s' H' _ _ fp') (i := 2) sc_right.nd rfl (.inl rfl) (fun z => by have := (mem_pnv.mp z).2; simp at this) (.inr rfl)
  case t3 =>
    obtain ⟨hj, rfl⟩ := excs_get hx
    exact dg_name (X := Cx.blk (cxOf (L2.CX P w) P w K mg base ["some", "noted", "error", "at"] "_law_right" (defScope s__law_right) f cdv A outer s H E0) s' H' _ _ fp') (i := 2) sc_right.nd rfl (.inl rfl) (fun z => by have := (mem_pnv.mp z).2; simp at this) (.inr rfl)
  case e1 =>
    obtain ⟨hj, rfl⟩ := excs_get hx
    have ec : codeD j = [.int (j : Int)] := if_pos (by omega)
    exact de_frz (de_to (de_call (r := .ow (codeD j)) (fd_code B E T.code) (hr.mono (by decide)) rfl (da_cons (de_v 2) da_nil) rfl ⟨j, d, by omega, rfl, rfl, rfl⟩) (by rw [ec]))
  case o1 => have : v = 2 := by simpa using hv
             subst this
             exact fun h => nomatch (Option.some.inj h)
  case o3 => have : v = 2 := by simpa using hv
             subst this
             exact fun h => nomatch (Option.some.inj h)
  case r1 => rw [took_all, upTo_len]; rfl
  case r2 => unfold irange rows; rw [List.map_map]; congr 1
  case ne => rw [eqv_self _ rows_sh.1]; rfl
  case r3 => rw [took_none]
  case eq => rw [eqv_self _ rfl]
  case c3 =>
    obtain ⟨hj, rfl⟩ := excs_get hx
    refine dt_w (dw_orF (dt_notT (dt_bl (de_call (r := .d (.bl true)) (fd_is_error B E T.ise) (hr.mono (by decide)) rfl (da_cons (de_v 2) da_nil) rfl ⟨j, d, by omega, rfl, rfl, rfl⟩))) (dw_or1 (dt_neT (s := d.repK) (t := d.repK) (de_reprG hS ?g hr rfl B.repr (de_fld (x := (E.era j hj).choose) ?err (de_v 2) (hf _)) hd) (de_v 1) (by simp))))
    case g => exact hG
    case err => exact (E.era j hj).choose_spec.err
/-- _law_right as it is called where the guards are none -/
theorem fd_right (B : Bn mg) (E : ErsT P K mg) (T : DfE K mg) (hS : SysT K) : FDg P w K mg base 4 "_law_right" ["some", "noted"] (RRi K) := by
  obtain ⟨f, fd, F, hm⟩ := T.right.ex
  have hb := F.bindsN (ps := ["some", "noted"]) fun _ _ _ _ _ _ us hl => match us, hl with | [_, _], _ => rfl
  refine ⟨f, fd, fun A hG hr => fn_relA F sc_right hr (fun _ _ _ ⟨_, _, _, h, _⟩ => by rw [h]; rfl) fun cdv outer s H E0 hr' args r args' ⟨d, hd, hf, e1, e2, e3⟩ => ?_, hm, F.kp, hb⟩
  subst e1 e2 e3
  exact ret0 (right_body B E T hS (f := f) (cdv := cdv) (A := A) (outer := outer) (s := s) (H := H) (E0 := E0) hG hr' hd hf) rfl
end N01
end
section
set_option Elab.async false
set_option linter.all false
set_option maxRecDepth 100000
set_option maxHeartbeats 2000000
/-! DLdc: a dict of one key, as it is made and shown. -/
namespace DL
open PySem PySem.Spec PyProof.Rows L2
theorem tabs_upd2 {T : List (Addr × Str)} {H : Hp} {p : Addr} {o u : HO} (h : LamX.Tabs T H) (hp : H p = some u) (n1 : ∀ ps, u ≠ .tbl ps) (n2 : ∀ q, u ≠ LamX.CodeO p q) : LamX.Tabs T (upd H p o) := fun q hq => by
  obtain ⟨ps, h1, h2, h3⟩ := h q hq
  refine ⟨ps, ?_, h2, fun pos cv hc => ?_⟩
  · rw [upd_ne]
    · exact h1
    · rintro rfl
      rw [hp] at h1
      exact n1 _ (Option.some.inj h1)
  · obtain ⟨c, e1, e2⟩ := h3 pos cv hc
    refine ⟨c, e1, ?_⟩
    rw [upd_ne]
    · exact e2
    · rintro rfl
      rw [hp] at e2
      exact n2 _ (Option.some.inj e2)
theorem dK_tbl {kvs : List (Key × V)} : ∀ ps, HO.dK kvs ≠ .tbl ps := fun _ h => nomatch h
theorem dK_code {kvs : List (Key × V)} {p : Addr} : ∀ q, HO.dK kvs ≠ LamX.CodeO p q := fun q h => by unfold LamX.CodeO at h; cases h
variable [TL]
section
variable {X : Cx} {δ δ1 : List DV} {a e : Expr} {x : D} {p1 pos kp : Pos} {k : Nat} {s t u : Str} {σ : L2.St} {F H : Hp}
theorem Own.not_dK (R : Rs F H σ δ) {p : Addr} {kvs : List (Key × V)} (h : H p = some (.dK kvs)) : ¬ Own σ δ p := fun z => by
  obtain ⟨_, vs, _, q, _⟩ := R.own z
  rw [h] at q
  cases q
/-- a dict that is not kept: it stays as it is -/
theorem Go.dK {O' : Addr → Prop} {F1 H1 : Hp} (g : Go (Own σ δ) O' F H F1 H1) (R : Rs F H σ δ) {p : Addr} {kvs : List (Key × V)} (h : H p = some (.dK kvs)) (hF : F p = none) : H1 p = some (.dK kvs) ∧ F1 p = none := by
  have no := Own.not_dK R h
  refine ⟨g.keep p _ h no dK_tbl, ?_⟩
  cases q : F1 p with
  | none => rfl
  | some o =>
    rcases g.new p o q with z | z | z
    · rw [hF] at z; cases z
    · exact (z.not h dK_tbl).elim
    · exact absurd z no
/-- one not kept changed -/
theorem Rs.updK (R : Rs F H σ δ) {p : Addr} {kvs : List (Key × V)} {o : HO} (h : H p = some (.dK kvs)) (hF : F p = none) : Rs F (upd H p o) σ δ := by
  have nF : ∀ a u, F a = some u → a ≠ p := fun a u e z => by rw [z, hF] at e; cases e
  refine ⟨fun a u e => by rw [upd_ne (nF a u e)]; exact R.sub a u e, R.len, fun i x hx => ?_, R.ap, tabs_upd2 R.tb h dK_tbl dK_code, R.nt⟩
  obtain ⟨q, e, k⟩ := R.at_ i x hx
  refine ⟨q, e, ?_⟩
  cases x with
  | un => trivial
  | d x => exact k
  | raw v => exact k
  | pr P => exact k
  | ow xs =>
    obtain ⟨a, vs, k1, k2, k3, k4⟩ := k
    exact ⟨a, vs, k1, k2, by rw [upd_ne (fun z => by rw [z, h] at k3; cases k3)]; exact k3, k4⟩
/-- it is kept from here on -/
theorem Rs.keepK (R : Rs F H σ δ) {p : Addr} {o : HO} (h : H p = some o) (hF : F p = none) (no : ¬ Own σ δ p) (ho : ∀ ps, o ≠ .tbl ps) : Rs (upd F p o) H σ δ := by
  refine ⟨fun a u e => ?_, R.len, fun i x hx => ?_, R.ap, R.tb, nt_upd R.nt ho⟩
  · by_cases z : a = p
    · subst z; rw [upd_same] at e; rw [h, e]
    · rw [upd_ne z] at e; exact R.sub a u e
  · obtain ⟨q, e, k⟩ := R.at_ i x hx
    refine ⟨q, e, ?_⟩
    cases x with
    | un => trivial
    | d x => obtain ⟨v, k1, k2⟩ := k; exact ⟨v, k1, k2.ex (.new hF)⟩
    | raw v => exact k
    | pr P => obtain ⟨v, k1, k2⟩ := k; exact ⟨v, k1, fun F2 e => k2 F2 ((Ex.new hF).trans e)⟩
    | ow xs =>
      obtain ⟨a, vs, k1, k2, k3, k4⟩ := k
      have z : a ≠ p := fun z => no ⟨i, xs, hx, by rw [e, k1, z]⟩
      exact ⟨a, vs, k1, by rw [upd_ne z]; exact k2, k3, k4.ex (.new hF)⟩
theorem merge1 {ky : Key} {v : V} : mergeK [] [(ky, v)] = [(ky, v)] := by
  show putK [] ky v = _
  unfold putK
  rfl
/-- {key: e} -/
theorem de_dct1 {j : Nat} (he : DE X δ e (.d x) δ) : DE X δ (.Dict [some (.Constant (.str s) j kp)] [e] pos) (.d (.dct [.inr s] [x])) δ := by
  refine (pe_disp (pps_cons pe_str he pps_nil) rfl rfl (by simp) (by simp)).imp fun σ H Q ⟨F, R, k⟩ p hp => ?_
  have hF : F p = none := R.sub.none hp
  have R0 : Rs F (upd H p (.dK [])) σ δ := R.newH hp
  refine ⟨F, R0, fun v F1 H1 g1 R1 r1 => ?_⟩
  obtain ⟨hp1, hF1⟩ := Go.dK g1 R0 upd_same hF
  have no1 := Own.not_dK R1 hp1
  refine ⟨hp1, [(.inr s, v)], rfl, by simp, ?_⟩
  rw [merge1]
  have R2 : Rs F1 (upd H1 p (.dK [(.inr s, v)])) σ δ := R1.updK hp1 hF1
  have R3 : Rs (upd F1 p (.dK [(.inr s, v)])) (upd H1 p (.dK [(.inr s, v)])) σ δ := R2.keepK upd_same hF1 (Own.not_dK R2 upd_same) dK_tbl
  have fr : ∀ a, Fre (upd H p (.dK [])) a → Fre H a := fun a h o e => h o (by rw [upd_ne (ne_of_none e hp)]; exact e)
  refine k _ _ _ ⟨g1.ff.trans (.new hF1), fun a o h n nt => ?_, fun a o h => ?_, fun a h => ?_, fun a h => .inl h⟩ R3 (.dct upd_same rfl (.cons (r1.ex (.new hF1)) .nil))
  · have z : a ≠ p := ne_of_none h hp
    rw [upd_ne z]
    exact g1.keep a o (by rw [upd_ne z]; exact h) n nt
  · by_cases z : a = p
    · subst z; exact .inr (.inl (.of hp))
    · rw [upd_ne z] at h
      exact (g1.new a o h).imp id (Or.imp (fr a) id)
  · by_cases z : a = p
    · subst z; exact .of hp
    · exact fr a (g1.there a fun o e => h o (by rw [upd_ne z]; exact e))
/-- how a dict of one key with a bead under it is shown -/
def beadS (s t : Str) : D := .tup [.str s, .str t]
def dcB (k s t : Str) : D := .dct [.inr k] [beadS s t]
def dcPy (k s t : Str) : PyData := .dict [(.str k, .tuple [.str s, .str t])]
/-- data that is shown, or such a dict -/
structure DcOk (k s t : Str) : Prop where
  len : (dcPy k s t).shown.length ≤ sizeLine
def rReprK (k s t : Str) : List V → Hp → VK → Prop := fun xs H Q => ∃ (F : Hp) (v : V), xs = [v] ∧ Ex F H ∧ Rp F v (dcB k s t) ∧ Q (.str (dcPy k s t).shown) H
theorem call_reprK {n : Nat} {ky : Str} (hl : DcOk ky s t) (hg : X.A.guards = some []) (hr : Room n X.A) : CallR X (.builtin "repr") (rReprK ky s t) := by
  intro pins s0 σ H xs us Q I r h
  obtain ⟨F, v, rfl, ex, rp, q⟩ := h
  have un := hr.un
  cases r with
  | cons r0 rn =>
  rename_i u us'
  cases rn
  have fin : ∀ (h' : Heap) (tk u : Nat), (∀ b o, s0.heap.get? b = some o → h'.get? b = some o) → EP X pins σ Q (.str (dcPy ky s t).shown u) { s0 with heap := h', toks := tk } := fun h' tk u kk => ⟨.str _, H, I.kept (t' := tk) kk, ⟨u, rfl⟩, q⟩
  cases rp with
  | @dct a kvs ds ks h1 h2 h3 =>
  cases (show u = Value.ref a from r0)
  obtain ⟨w0, rfl⟩ : ∃ w0, kvs = [(.inr ky, w0)] := by
    match kvs, h2 with
    | [(k0, w0)], h2 => exact ⟨w0, by simp at h2; rw [h2]⟩
  have hw : Rp F w0 (beadS s t) := by
    simp at h3
    cases h3 with
    | cons a b => exact a
  obtain ⟨_, nsm, vs, rv, hdo⟩ := I.hok _ _ (ex _ _ h1)
  obtain ⟨o, es, ep, ho, he, hd, _, hes, _⟩ := hdo
  cases rv with
  | @cons _ q _ qs hq rn =>
  cases rn
  obtain ⟨k1, v1⟩ := q
  obtain ⟨hk1, hv1⟩ := hq
  cases (show Sum.inr ky = k1 from hk1)
  have e1 : ∃ en, es.toList = [en] ∧ keyIs (.inr ky) en.key = true ∧ en.val = v1 := by
    generalize es.toList = l at hes
    cases hes with
    | cons a b c =>
      cases c
      exact ⟨_, rfl, a, b⟩
  obtain ⟨en, e1, e2, e3⟩ := e1
  rcases keyIs_shape e2 with ⟨_, _, z, _⟩ | ⟨y, t0, z, e4⟩
  · cases z
  cases z
  have ra : ∃ us1, Reads s0.heap v1 (.tuple [.str s, .str t]) us1 ∧ us1 = [] := by
    cases hw with
    | @tup a2 vs2 _ k1 k2 =>
      cases (show v1 = Value.ref a2 from hv1)
      obtain ⟨_, its, rv2, o2, ho2, hc2, n2, hd2⟩ := I.hok _ _ (ex _ _ k1)
      cases k2 with
      | cons ra1 k2 =>
      cases k2 with
      | cons ra2 k2 =>
      cases k2
      cases ra1
      cases ra2
      cases rv2 with
      | cons b1 rv2 =>
      cases rv2 with
      | cons b2 rv2 =>
      cases rv2
      obtain ⟨t1, rfl⟩ := b1
      obtain ⟨t2, rfl⟩ := b2
      exact ⟨_, .tuple ho2 hc2 hd2 (.cons (.str s t1) (.cons (.str t t2) .nil)), rfl⟩
  obtain ⟨us1, rd, rfl⟩ := ra
  refine repr_of_reads' (d := dcPy ky s t) (as := _) (.dict (as := []) (bs := []) ho he.1 hd (by rw [e1]; show ReadsAll _ [en.key] [PyData.str ky] []; rw [e4]; exact .cons (.str ky t0) .nil) (by rw [e1]; show ReadsAll _ [en.val] [PyData.tuple [.str s, .str t]] []; rw [e3]; exact .cons rd .nil)) ?_ (fun _ z => ?_) hg (by simp [dcPy, PyData.depth, PyData.depthKv, PyData.depthAll]; omega) (fun _ _ z => z) (fun h' u tk kk => fin h' tk u kk) hl.len
  · simp [dcPy, PyData.showable, PyData.showableKv, PyData.showableAll]
  · simp at z
    rw [← z] at nsm
    simp at nsm
theorem de_reprK {n : Nat} {ky : Str} (hl : DcOk ky s t) (hG : X.A.guards = some []) (hr : Room n X.A) (hg : Gl X "repr") (hm : X.mg "repr" = none) (ha : DE X δ a (.d (dcB ky s t)) δ1) (he : starEach [a] X.env = (false, eval a X.env) :: starEach [] X.env := by rfl) : DE X δ (.Call (.Name "repr" p1) [a] [] pos) (.d (.str (dcPy ky s t).shown)) δ1 :=
  de_bi (call_reprK hl hG hr) hg hm (by decide +kernel) (da_cons ha da_nil he) (fun F H σ vs Q ex h k => by
    obtain ⟨v, rfl, rv⟩ := AVs.one h
    exact ⟨F, v, rfl, ex, rv, k _ (.str _)⟩) (he := he)
end
end DL
end
section
set_option Elab.async false
set_option linter.all false
set_option maxRecDepth 100000
set_option maxHeartbeats 4000000
namespace DL
open PySem PySem.Spec PyProof.Rows L2
/-! ### an object changed that is held: what else is read as before -/
/-- what kind the object is of: a list of n, a dict -/
def IsK : Option Nat → HO → Prop
  | some n, o => ∃ ws, o = .lst ws ∧ ws.length = n
  | none, o => ∃ kvs, o = .dK kvs
mutual
/-- data that leans on no object of the kind -/
def D.off (k : Option Nat) : D → Bool
  | .lst xs => !decide (k = some xs.length) && D.offA k xs
  | .tup xs => D.offA k xs
  | .dct _ xs => !decide (k = none) && D.offA k xs
  | .exc _ d => d.off k
  | _ => true
def D.offA (k : Option Nat) : List D → Bool
  | [] => true
  | d :: ds => d.off k && D.offA k ds
end
def DV.off (k : Option Nat) : DV → Bool
  | .un => true
  | .d x => x.off k
  | .ow xs => D.offA k xs
  | .raw _ => true
  | .pr _ => false
section
variable {F F2 : Hp} {p : Addr} {o : HO} {k : Option Nat}
theorem IsK.tbl (h : IsK k o) : ∀ ps, o ≠ .tbl ps := fun ps z => by
  cases k with
  | none => obtain ⟨_, rfl⟩ := h; cases z
  | some n => obtain ⟨_, rfl, _⟩ := h; cases z
theorem IsK.ext (h : IsK k o) : ∀ φ, o ≠ .ext φ := fun ps z => by
  cases k with
  | none => obtain ⟨_, rfl⟩ := h; cases z
  | some n => obtain ⟨_, rfl, _⟩ := h; cases z
theorem IsK.xd (h : IsK k o) : ∀ φ, o ≠ .xd φ := fun ps z => by
  cases k with
  | none => obtain ⟨_, rfl⟩ := h; cases z
  | some n => obtain ⟨_, rfl, _⟩ := h; cases z
theorem IsK.tup (h : IsK k o) : ∀ φ, o ≠ .tup φ := fun ps z => by
  cases k with
  | none => obtain ⟨_, rfl⟩ := h; cases z
  | some n => obtain ⟨_, rfl, _⟩ := h; cases z
mutual
theorem Rp.but (hp : F p = some o) (hk : IsK k o) (e : ∀ b, b ≠ p → F2 b = F b) : ∀ {d : D} {v : V}, d.off k = true → Rp F v d → Rp F2 v d
  | .non, _, _, .non => .non
  | .bl _, _, _, .bl b => .bl b
  | .int _, _, _, .int i => .int i
  | .str _, _, _, .str s => .str s
  | .lst ds, _, h, @Rp.lst _ a vs _ h1 r => by
    simp only [D.off, Bool.and_eq_true, Bool.not_eq_true', decide_eq_false_iff_not] at h
    have n : a ≠ p := fun z => by
      rw [z, hp] at h1
      have e1 := Option.some.inj h1
      subst e1
      cases k with
      | none => obtain ⟨_, z⟩ := hk; cases z
      | some n =>
        obtain ⟨ws, z, l⟩ := hk
        cases z
        exact h.1 (by rw [← r.length, l])
    exact .lst (by rw [e a n]; exact h1) (RpA.but hp hk e h.2 r)
  | .tup ds, _, h, @Rp.tup _ a vs _ h1 r => by
    have n : a ≠ p := fun z => by rw [z, hp] at h1; exact hk.tup _ (Option.some.inj h1)
    exact .tup (by rw [e a n]; exact h1) (RpA.but hp hk e (by simpa [D.off] using h) r)
  | .dct ks ds, _, h, @Rp.dct _ a kvs _ _ h1 h2 r => by
    simp only [D.off, Bool.and_eq_true, Bool.not_eq_true', decide_eq_false_iff_not] at h
    have n : a ≠ p := fun z => by
      rw [z, hp] at h1
      have e1 := Option.some.inj h1
      subst e1
      cases k with
      | none => exact h.1 rfl
      | some n => obtain ⟨ws, z, l⟩ := hk; cases z
    exact .dct (by rw [e a n]; exact h1) h2 (RpA.but hp hk e h.2 r)
  | .exc C d, _, h, @Rp.exc _ a dx _ v _ h1 h2 r => by
    have n1 : a ≠ p := fun z => by rw [z, hp] at h1; exact hk.ext _ (Option.some.inj h1)
    have n2 : dx ≠ p := fun z => by
      rcases h2 with h2 | h2
      · rw [z, hp] at h2; exact hk.xd _ (Option.some.inj h2)
      · rw [z, hp] at h2; exact hk.ext _ (Option.some.inj h2)
    exact .exc (by rw [e a n1]; exact h1) (h2.imp (fun q => by rw [e dx n2]; exact q) (fun q => by rw [e dx n2]; exact q)) (Rp.but hp hk e (by simpa [D.off] using h) r)
  | .exc C _, _, _, @Rp.exn _ a _ h1 => by
    have n1 : a ≠ p := fun z => by rw [z, hp] at h1; exact hk.ext _ (Option.some.inj h1)
    exact .exn (by rw [e a n1]; exact h1)
  | .fn _, _, _, .fn a => .fn a
theorem RpA.but (hp : F p = some o) (hk : IsK k o) (e : ∀ b, b ≠ p → F2 b = F b) : ∀ {ds : List D} {vs : List V}, D.offA k ds = true → RpA F vs ds → RpA F2 vs ds
  | [], _, _, .nil => .nil
  | _ :: _, _, h, .cons r t => by
    simp only [D.offA, Bool.and_eq_true] at h
    exact .cons (Rp.but hp hk e h.1 r) (RpA.but hp hk e h.2 t)
end
end
variable [TL]
section
variable {F H : Hp} {σ : L2.St} {δ δ1 : List DV} {p : Addr} {o o' : HO} {k : Option Nat}
/-- a held object is written -/
theorem Rs.mutF (R : Rs F H σ δ) (hp : F p = some o) (hk : IsK k o) (hk' : ∀ ps, o' ≠ .tbl ps) (ho : ∀ x ∈ δ, x.off k = true) : Rs (upd F p o') (upd H p o') σ δ := by
  have e : ∀ b, b ≠ p → upd F p o' b = F b := fun b n => upd_ne n
  refine ⟨fun a u q => ?_, R.len, fun i x hx => ?_, R.ap, tabs_upd2 R.tb (R.sub _ _ hp) hk.tbl (fun q z => by unfold LamX.CodeO at z; exact hk.ext _ z), nt_upd R.nt hk'⟩
  · by_cases z : a = p
    · subst z; rw [upd_same] at q ⊢; exact q
    · rw [upd_ne z] at q ⊢; exact R.sub a u q
  · obtain ⟨q, e1, w⟩ := R.at_ i x hx
    have hx' := ho x (List.mem_of_getElem? hx)
    refine ⟨q, e1, ?_⟩
    cases x with
    | un => trivial
    | d x => obtain ⟨v, k1, k2⟩ := w; exact ⟨v, k1, Rp.but hp hk e hx' k2⟩
    | raw v => exact w
    | pr P => cases hx'
    | ow xs =>
      obtain ⟨a, vs, k1, k2, k3, k4⟩ := w
      have n : a ≠ p := fun z => by rw [z, hp] at k2; cases k2
      exact ⟨a, vs, k1, by rw [upd_ne n]; exact k2, by rw [upd_ne n]; exact k3, RpA.but hp hk e hx' k4⟩
/-- nothing is known of any slot -/
theorem Rs.blank {n : Nat} (hs : Ex F H) (tb : LamX.Tabs TL.T H) (nt : ∀ a ps, F a ≠ some (.tbl ps)) (hl : σ.length = n) : Rs F H σ (List.replicate n .un) := by
  have un : ∀ {i : Nat} {x : DV}, (List.replicate n DV.un)[i]? = some x → x = .un ∧ i < n := fun {i x} h => by
    rw [List.getElem?_replicate] at h
    split at h
    · cases h; exact ⟨rfl, by assumption⟩
    · cases h
  refine ⟨hs, by simpa using hl, fun i x h => ?_, fun i j xs ys o _ h => ?_, tb, nt⟩
  · obtain ⟨rfl, hi⟩ := un h
    exact ⟨_, List.getElem?_eq_getElem (by omega), trivial⟩
  · exact nomatch (un h).1
theorem Rs.unall (R : Rs F H σ δ) : Rs F H σ (List.replicate δ.length .un) := Rs.blank R.sub R.tb R.nt R.len
/-- another reading of data slots, told of a heap further on -/
theorem Rs.swap {F' H' : Hp} {σ' : L2.St} (R0 : Rs F H σ δ) (R : Rs F' H' σ' δ1) (e : Ex F F') (hl : δ.length = δ1.length) (hσ : ∀ i < δ.length, σ'[i]? = σ[i]?) (h : ∀ (i : Nat) x, δ[i]? = some x → δ1[i]? = some x ∨ ∃ d, x = DV.d d) : Rs F' H' σ' δ := by
  refine ⟨R.sub, by rw [hl]; exact R.len, fun i x hx => ?_, fun i j xs ys o hij h1 h2 => ?_, R.tb, R.nt⟩
  · rcases h i x hx with q | ⟨d, rfl⟩
    · exact R.at_ i x q
    · obtain ⟨o, e1, v, e2, r⟩ := R0.at_ i _ hx
      exact ⟨o, by rw [hσ i (List.getElem?_eq_some_iff.mp hx).1]; exact e1, v, e2, r.ex e⟩
  · have key : ∀ {m : Nat} {zs : List D}, δ[m]? = some (.ow zs) → δ1[m]? = some (.ow zs) := fun {m zs} q => by
      rcases h m _ q with w | ⟨d, w⟩
      · exact w
      · cases w
    exact R.ap i j xs ys o hij (key h1) (key h2)
end
/-! ### statements at the top: nothing is promised of the heap behind, but the frame and what G tells of what is held -/
def tN (G : Hp → Prop) (δ : List DV) (G' : Hp → Prop) (δ' : List DV) : TS := fun D σ H => ∃ F, Rs F H σ δ ∧ G F ∧ ∀ σ' F' H', Rs F' H' σ' δ' → G' F' → D.nx σ' H'
def Mo (G : Hp → Prop) : Prop := ∀ F F', Ex F F' → G F → G F'
section
variable {X : Cx} {pn : List Nat} {δ δ1 δ2 δo δD δr : List DV} {G G1 G2 G' : Hp → Prop} {st : Stmt} {rest sts u w : List Stmt} {c e recv : Expr} {pos p1 p2 : Pos}
theorem tn_ds (m : Mo G) (h : DS X pn δ st (.nx δ1)) : PS X st (tN G δ G δ1) := h.imp fun D σ H ⟨F, R, g, k⟩ => ⟨F, R, fun σ' F' H' A => k σ' F' H' A.rs (m _ _ A.go.ff g)⟩
theorem tn_cons (h1 : PS X st (tN G δ G1 δ1)) (h2 : PSs X rest (tN G1 δ1 G2 δ2)) : PSs X (st :: rest) (tN G δ G2 δ2) := (pss_cons h1 h2).imp fun D σ H ⟨F, R, g, k⟩ => ⟨F, R, g, fun σ' F' H' R' g' => ⟨F', R', g', k⟩⟩
theorem tn_nil : PSs X [] (tN G δ G δ) := pss_nil.imp fun D σ H ⟨F, R, g, k⟩ => k σ F H R g
theorem tn_one (h : PS X st (tN G δ G1 δ1)) : PSs X [st] (tN G δ G1 δ1) := pss_one h
theorem tn_re {ι : Type} {Gi : ι → Hp → Prop} {δi : ι → List DV} (h : ∀ F H σ, Rs F H σ δ → G F → ∃ i F1, Rs F1 H σ (δi i) ∧ Gi i F1) (hs : ∀ i, PSs X sts (tN (Gi i) (δi i) G2 δ2)) : PSs X sts (tN G δ G2 δ2) :=
  (pss_ex hs).imp fun D σ H ⟨F, R, g, k⟩ => let ⟨i, F1, R1, g1⟩ := h F H σ R g; ⟨i, F1, R1, g1, k⟩
theorem tn_to (h : PSs X sts (tN G δ G1 δ1)) (hw : ∀ F H σ, Rs F H σ δ1 → G1 F → Rs F H σ δ2 ∧ G2 F) : PSs X sts (tN G δ G2 δ2) := h.imp fun D σ H ⟨F, R, g, k⟩ => ⟨F, R, g, fun σ' F' H' R' g' => k σ' F' H' (hw F' H' σ' R' g').1 (hw F' H' σ' R' g').2⟩
/-- a view: the same slots, read otherwise -/
structure View (G : Hp → Prop) (δo δD : List DV) : Prop where
  to : ∀ F H σ, Rs F H σ δo → G F → Rs F H σ δD
  len : δo.length = δD.length
  sl : ∀ (i : Nat) x, δo[i]? = some x → δD[i]? = some x ∨ ∃ d, x = DV.d d
theorem View.back (V : View G δo δD) {F H F' H' : Hp} {σ σ' : L2.St} (R : Rs F H σ δo) (A : Aft pn σ δD F H σ' δD F' H') (hp : ∀ i < δo.length, i ∈ pn) : Rs F' H' σ' δo := R.swap A.rs A.go.ff V.len (fun i hi => A.pin i (hp i hi)) V.sl
theorem tn_view (m : Mo G) (V : View G δo δD) (hp : ∀ i < δo.length, i ∈ pn) (h : DS X pn δD st (.nx δD)) : PS X st (tN G δo G δo) :=
  h.imp fun D σ H ⟨F, R, g, k⟩ => ⟨F, V.to F H σ R g, fun σ' F' H' A => k σ' F' H' (V.back R A hp) (m _ _ A.go.ff g)⟩
theorem tn_ifT (m : Mo G) (V : View G δo δD) (hc : DT X δD c true δD) (hu : PSs X u (tN G δo G' δ1)) : PS X (.If c u w pos) (tN G δo G' δ1) :=
  (ps_if hc hu (pss_never (sts := w))).imp fun D σ H ⟨F, R, g, k⟩ => ⟨F, V.to F H σ R g, fun F1 H1 go R1 => iteT ⟨F1, R.swap R1 go.ff V.len (fun _ _ => rfl) V.sl, m _ _ go.ff g, k⟩⟩
/-- recv.append(s), a held list -/
theorem tn_append {p : Addr} {vs : List V} {s : Str} {j : Nat} {sp apos : Pos} (V : View G δo δr) (m : Mo G) (hr : DE X δr recv (.d (.fn p)) δr) (hp : ∀ F, G F → F p = some (.lst vs)) (hl : vs.length < sizeLine)
    (hm : ∀ F H σ, Rs F H σ δo → G F → Rs (upd F p (.lst (vs ++ [.str s]))) (upd H p (.lst (vs ++ [.str s]))) σ δo ∧ G' (upd F p (.lst (vs ++ [.str s]))))
    (g1 : attributeBase recv "append" X.env (eval recv X.env) = eval recv X.env := by rfl)
    (g2 : (((((backTo p2 (starEach [Expr.Constant (.str s) j sp] X.env)).all fun x => !x.fst) && (backToKw p2 (keywordEach [] X.env)).all fun x => x.fst.isSome) && decide (([Expr.Constant (.str s) j sp].length + ([] : List Keyword).length + if ([] : List Keyword).isEmpty = true then 0 else 1) < 30)) = true) := by rfl)
    (g3 : (apos.endLine == p2.line) = true := by rfl) (g4 : starEach [Expr.Constant (.str s) j sp] X.env = (false, eval (.Constant (.str s) j sp) X.env) :: starEach [] X.env := by rfl) (g5 : ((backTo p2 (starEach [] X.env)).any fun x => x.fst) = false := by rfl)
    (hs : swapsWith (.Call (.Attribute recv "append" apos) [Expr.Constant (.str s) j sp] [] p2) none pos.line X.env = pure false := by rfl) :
    PS X (.Expr (.Call (.Attribute recv "append" apos) [Expr.Constant (.str s) j sp] [] p2) pos) (tN G δo G' δo) :=
  (ps_expr (pe_bm PySem.F.plainAttrs_list PySem.F.slot_list_append PySem.F.type_list_append mt_append hr (pa_cons pe_str pa_nil g4) g1 g2 g3 g4 g5) hs).imp fun D σ H ⟨F, R, g, k⟩ => by
    refine ⟨F, V.to F H σ R g, fun v F1 H1 go R1 rv => ?_⟩
    obtain rfl : v = .ref p := by cases (show Rp F1 v (.fn p) from rv); rfl
    have g' := m _ _ go.ff g
    have Ro : Rs F1 H1 σ δo := R.swap R1 go.ff V.len (fun _ _ => rfl) V.sl
    have hH : H1 p = some (.lst vs) := Ro.sub _ _ (hp F1 g')
    obtain ⟨R2, g2⟩ := hm F1 H1 σ Ro g'
    exact ⟨.inl ⟨rfl, _, SqL.of hH⟩, p, vs, .str s, rfl, rfl, hH, hl, k σ _ _ R2 g2⟩
end
end DL
end
section
set_option Elab.async false
set_option linter.all false
set_option maxRecDepth 100000
set_option maxHeartbeats 4000000
namespace DL
open PySem PySem.Spec PyProof.Rows L2
variable [TL]
section
variable {X : Cx} {pn : List Nat} {δ δ1 δ2 δo δD δr : List DV} {G G1 G2 G' : Hp → Prop} {st : Stmt} {rest sts u w body : List Stmt} {a b c e recv ky iter : Expr} {pos p1 p2 pos' tpos : Pos} {x : D} {s : Str}
/-- -n -/
theorem de_neg {i : Int} (ha : DE X δ a (.d (.int i)) δ1) : DE X δ (.UnaryOp .USub a pos) (.d (.int (-i))) δ1 := (pe_un un_neg ha).imp fun σ H Q ⟨F, R, k⟩ => ⟨F, R, fun v F1 H1 g R1 r1 => by
  cases r1
  exact ⟨i, rfl, k _ F1 H1 g R1 (.int _)⟩⟩
/-- {key: e} -/
theorem de_dctN (hk : DE X δ ky (.d (.str s)) δ) (he : DE X δ e (.d x) δ) : DE X δ (.Dict [some ky] [e] pos) (.d (.dct [.inr s] [x])) δ := by
  refine (pe_disp (pps_cons hk he pps_nil) rfl rfl (by simp) (by simp)).imp fun σ H Q ⟨F, R, k⟩ p hp => ?_
  have hF : F p = none := R.sub.none hp
  have R0 : Rs F (upd H p (.dK [])) σ δ := R.newH hp
  refine ⟨F, R0, fun kv F0 H0 g0 R0' rk => ?_⟩
  cases rk
  obtain ⟨hp0, hF0⟩ := Go.dK g0 R0 upd_same hF
  refine ⟨F0, R0', fun v F1 H1 g1 R1 r1 => ?_⟩
  obtain ⟨hp1, hF1⟩ := Go.dK g1 R0' hp0 hF0
  refine ⟨hp1, [(.inr s, v)], rfl, by simp, ?_⟩
  rw [merge1]
  have R2 : Rs F1 (upd H1 p (.dK [(.inr s, v)])) σ δ := R1.updK hp1 hF1
  have R3 : Rs (upd F1 p (.dK [(.inr s, v)])) (upd H1 p (.dK [(.inr s, v)])) σ δ := R2.keepK upd_same hF1 (Own.not_dK R2 upd_same) dK_tbl
  have fr : ∀ a, Fre (upd H p (.dK [])) a → Fre H a := fun a h o e => h o (by rw [upd_ne (ne_of_none e hp)]; exact e)
  have g := g0.trans g1
  refine k _ _ _ ⟨g.ff.trans (.new hF1), fun a o h n nt => ?_, fun a o h => ?_, fun a h => ?_, fun a h => .inl h⟩ R3 (.dct upd_same rfl (.cons (r1.ex (.new hF1)) .nil))
  · have z : a ≠ p := ne_of_none h hp
    rw [upd_ne z]
    exact g.keep a o (by rw [upd_ne z]; exact h) n nt
  · by_cases z : a = p
    · subst z; exact .inr (.inl (.of hp))
    · rw [upd_ne z] at h
      exact (g.new a o h).imp id (Or.imp (fr a) id)
  · by_cases z : a = p
    · subst z; exact .of hp
    · exact fr a (g.there a fun o e => h o (by rw [upd_ne z]; exact e))
/-- d[key], one key -/
theorem de_ixK {k0 : Nat} (hr : Room k0 X.A) (ha : DE X δ a (.d (.dct [.inr s] [x])) δ1) (hb : DE X δ1 b (.d (.str s)) δ2) (hs : NoSl b := by exact fun _ _ => rfl) : DE X δ (.Subscript a b pos) (.d x) δ2 :=
  (pe_dget (by have := hr.units; omega) ha hb hs).imp fun σ H Q ⟨F, R, k⟩ => ⟨F, R, fun v F1 H1 g1 R1 r1 => ⟨F1, R1, fun y F2 H2 g2 R2 r2 => by
    cases r2
    cases r1.ex g2.ff with
    | @dct p kvs ds ks h1 h2 h3 =>
    obtain ⟨w0, rfl⟩ : ∃ w0, kvs = [(.inr s, w0)] := by
      match kvs, h2 with
      | [(k0, w0)], h2 => exact ⟨w0, by simp at h2; rw [h2]⟩
    cases h3 with
    | cons r t =>
    have e : valV [((.inr s : Key), w0)] (.inr s) = some w0 := valV_pos rfl
    exact ⟨p, w0, rfl, by rw [← e]; exact DGet.k (k := .inr s) (R2.sub _ _ h1), k _ F2 H2 (g1.trans g2) R2 r⟩⟩⟩
/-- recv[s] = n, a held dict -/
theorem tn_put {k0 : Nat} (hr : Room k0 X.A) {p : Addr} {kvs : List (Key × V)} {n : Int} {j1 j2 : Nat} (V : View G δo δr) (m : Mo G) (hd : DE X δr recv (.d (.fn p)) δr) (hp : ∀ F, G F → F p = some (.dK kvs)) (hl : kvs.length < sizeLine)
    (hm : ∀ F H σ, Rs F H σ δo → G F → Rs (upd F p (.dK (putK kvs (.inr s) (.int n)))) (upd H p (.dK (putK kvs (.inr s) (.int n)))) σ δo ∧ G' (upd F p (.dK (putK kvs (.inr s) (.int n)))))
    (hs : swapsWith (.Constant (.int n) j1 p1) (some (.Subscript recv (.Constant (.str s) j2 p2) pos')) pos.line X.env = pure false := by rfl) :
    PS X (.Assign [.Subscript recv (.Constant (.str s) j2 p2) pos'] (.Constant (.int n) j1 p1) pos) (tN G δo G' δo) :=
  (ps_dput (by have := hr.units; omega) hd pe_str pe_int hs).imp fun D σ H ⟨F, R, g, k⟩ => by
    refine ⟨F, V.to F H σ R g, fun v F1 H1 go R1 rv => ?_⟩
    obtain rfl : v = .ref p := by cases (show Rp F1 v (.fn p) from rv); rfl
    have g' := m _ _ go.ff g
    have Ro : Rs F1 H1 σ δo := R.swap R1 go.ff V.len (fun _ _ => rfl) V.sl
    have hH : H1 p = some (.dK kvs) := Ro.sub _ _ (hp F1 g')
    obtain ⟨R2, g2⟩ := hm F1 H1 σ Ro g'
    exact ⟨p, _, rfl, DPut.k (k := .inr s) hH hl, k σ _ _ R2 g2⟩
/-- a list that is held, its one item p -/
def GL (q : Addr × Addr) : Hp → Prop := fun F => F q.1 = some (.lst [.ref q.2])
theorem GL.mo {q : Addr × Addr} : Mo (GL q) := fun F F' e g => e _ _ g
/-- for n in [own]: a list of one new list, taken into the frame's own hand -/
theorem tn_for {n : Str} {i m : Nat} {xs : List D} (hp : PassesOwn (model X.prog X.w) X.A X.env X.xe) (hc : X.calm = true) (hN : X.N.Nodup) (hi : X.N[i]? = some n) (hx : Loc X.env.scope n) (hil : i < m) (hd : DE X δ iter (.ow [.lst xs]) δ1) (hl : δ1.length = m)
    (hxs : ∀ F F' vs, RpA F vs xs → RpA F' vs xs) (hb : ∀ q, PSs X body (tN (GL q) ((List.replicate m .un).set i (.ow xs)) (GL q) δ2))
    (hf : X.fn n = true ∨ X.env.scope.names.lookup n = some .local := by first | exact .inl rfl | exact .inr rfl | assumption) (hs : ∀ x, foldedSetIterable iter X.env x = pure x := by intro _; rfl) :
    PS X (.For (.Name n tpos) iter body [] pos) (tN (fun _ => True) δ (fun _ => True) δ2) :=
  (ps_for hp hc (pi_list hd) (pg_name (pos := tpos) hN hi hx hf) (pss_ex hb) hs).imp fun D σ H ⟨F, R, _, k⟩ => ⟨F, R, fun v F1 H1 g1 R1 r1 => by
    obtain ⟨L, vs0, rfl, h1, h2, h3, _, _⟩ := r1
    cases h3 with
    | @cons v0 _ _ _ r t =>
    cases t
    cases r with
    | @lst p vs _ k1 k2 =>
    have nLp : L ≠ p := fun z => by rw [z, k1] at h1; cases h1
    refine ⟨L, rfl, ⟨_, SqL.of h2⟩, ?_⟩
    have hlen : σ.length = m := by rw [R1.len, hl]
    obtain ⟨F2, hF2⟩ : ∃ F2, F2 = upd (del F1 p) L (.lst [.ref p]) := ⟨_, rfl⟩
    have e2 : Ex F2 H1 := fun b o q => by
      rw [hF2] at q
      by_cases z : b = L
      · subst z; rw [upd_same] at q; rw [h2, q]
      · rw [upd_ne z] at q
        by_cases y : b = p
        · rw [y, del_same] at q; cases q
        · rw [del_ne y] at q; exact R1.sub b o q
    have nt2 : ∀ b ps, F2 b ≠ some (.tbl ps) := fun b ps q => by
      rw [hF2] at q
      by_cases z : b = L
      · subst z; rw [upd_same] at q; cases q
      · rw [upd_ne z] at q
        by_cases y : b = p
        · rw [y, del_same] at q; cases q
        · rw [del_ne y] at q; exact R1.nt b ps q
    have f1 : F2 L = some (.lst [.ref p]) := by rw [hF2, upd_same]
    have f2 : F2 p = none := by rw [hF2, upd_ne (Ne.symm nLp), del_same]
    have hpH : H1 p = some (.lst vs) := R1.sub _ _ k1
    refine for_it (walk_list (xs := [.ref p])) (g := gName i) (tb := fun D σ H => ∃ q : Addr × Addr, tN (GL q) ((List.replicate m .un).set i (.ow xs)) (GL q) δ2 D σ H) (D := D)
      (fun j σ' H' => (j = 0 ∧ σ' = σ ∧ H' = H1) ∨ (j ≠ 0 ∧ ∃ F', Rs F' H' σ' δ2 ∧ GL (L, p) F')) (.inl ⟨rfl, rfl, rfl⟩) (fun j σ' H' _ q => ?_) (fun j y σ' H' H'' hj q yl => ?_) (fun σ' H' q => ?_)
    · rcases q with ⟨_, _, rfl⟩ | ⟨_, F', R', g'⟩
      · exact SqL.of h2
      · exact SqL.of (R'.sub _ _ g')
    · have ej : j = 0 := by simpa using hj
      subst ej
      rcases q with ⟨_, rfl, rfl⟩ | ⟨z, _⟩
      · obtain ⟨rfl, ey⟩ := yl
        have ey : y = .ref p := by simpa using ey.symm
        subst ey
        have R2 : Rs F2 H'' σ' (List.replicate m .un) := Rs.blank e2 R1.tb nt2 hlen
        have R3 : Rs F2 H'' (σ'.set i (some (.ref p))) ((List.replicate m .un).set i (.ow xs)) := R2.setO f2 hpH (hxs F1 F2 vs k2) (fun z => by
          obtain ⟨i', ys, z1, _⟩ := z
          rw [List.getElem?_replicate] at z1
          split at z1 <;> cases z1)
        exact ⟨(L, p), F2, R3, f1, fun σ5 F5 H5 R5 g5 => .inr ⟨by simp, F5, R5, g5⟩⟩
      · exact absurd rfl z
    · rcases q with ⟨z, _⟩ | ⟨_, F', R', g'⟩
      · cases z
      · exact k σ' F' H' R' trivial⟩
/-- the end at the top: True -/
def tR (δ : List DV) : TS := fun D σ H => ∃ F, Rs F H σ δ ∧ ∀ H', D.rt (.bl true) H'
theorem tr_ds (h : DSs X pn δ sts (.rt (.d (.bl true)) δ1)) : PSs X sts (tR δ) := h.imp fun D σ H ⟨F, R, k⟩ => ⟨F, R, fun v σ' F' H' A r => by
  have r : Rp F' v (.bl true) := r
  cases r
  exact k H'⟩
theorem tr_cons (h1 : PS X st (tN (fun _ => True) δ (fun _ => True) δ1)) (h2 : PSs X rest (tR δ1)) : PSs X (st :: rest) (tR δ) := (pss_cons h1 h2).imp fun D σ H ⟨F, R, k⟩ => ⟨F, R, trivial, fun σ' F' H' R' _ => ⟨F', R', k⟩⟩
end
end DL
end
section
set_option Elab.async false
set_option linter.all false
set_option maxRecDepth 100000
set_option maxHeartbeats 4000000
namespace DL
open PySem PySem.Spec PyProof.Rows L2
variable [TL]
/-- f() -/
theorem de_call0 {X : Cx} {δ : List DV} {pos p1 : Pos} {k : Nat} {x : Str} {R : RelD} {RX : RelX} {r : DV} (G : FD X.prog X.w X.K X.mg X.base k x [] R RX) (hr : Room k X.A) (hg : Gl X x) (hR : R [] r []) (hdb : (x == ("__debug__" : Str)) = false := by decide) : DE X δ (.Call (.Name x p1) [] [] pos) r δ := by
  obtain ⟨f, fd, h1, h2, h3, h4⟩ := G.ex
  refine ⟨fun pins s σ H Q I ⟨F, Rf, k⟩ => ?_⟩
  refine wpAny_Call_Name_kw (ld_glob I hg h2 ?_ hdb)
  refine PySem.W.callWith_K0 I.kIn h3 ?_
  show wpAny _ _ (call (.ref f) []) _ _ _
  have b := h4 s [] I.kIn rfl
  have hsp : spD R RX [] H (fun v' H2 => Q v' H2) E0 := call_fin (as := []) (σ := σ) Rf .nil rfl hR fun v' F2 H2 g2 R2 q => k v' F2 H2 g2 R2 q
  refine wpAny_call (codeAny_mono (h1.run X.A X.stack s H ⟨[], []⟩ [] [] _ E0 hr I.env0 b .nil hsp) fun r' s' hq => ?_)
  cases r' with
  | error e => exact passL (X := X) pins σ H s e s' I hq
  | ok fl =>
    cases fl with
    | ret u => exact I.after hq
    | next => exact False.elim hq
    | brk => exact False.elim hq
    | cont => exact False.elim hq
end DL
namespace N01
open PySem PySem.Spec PyProof.Rows L2 DL Hd
/-! ### what is drawn; how it is shown -/
variable [TL]
def th7 (s : Str) : D := .tup [.str s, .lst [.str s]]
def th8 (s : Str) : D := .dct [.inr s] [.lst [.str s]]
def th9 (s : Str) : D := .lst [.str s]
def th10 (s : Str) : D := .lst [.lst [.str s], .dct [.inr "odd"] [.str s]]
def ltr (s : Str) : D := .tup [.str "later", .str s]
def plainD (b : Int) (s : Str) : List D := [.non, .bl true, .bl false, .int 0, .str s, .int (-b), .tup [.str "says", .str s, .int 1, .int 2], th7 s, th8 s]
def things (b : Int) (s : Str) : List D := plainD b s ++ [th9 s, th10 s]
/-- behind the changes -/
def af7 (s : Str) : D := .tup [.str s, .lst [.str s, .str "later"]]
def af8 (s : Str) : D := .dct [.inr s, .inr "LATER"] [.lst [.str s, .str "later"], .int 1]
def af9 (s : Str) : D := .lst [.str s, .str "later"]
def af10 (s : Str) : D := .lst [.lst [.str s], .dct [.inr "odd"] [.str s], .str "later"]
theorem Wd.leaf {s : Str} (h : Wd s) (B : Nat) : (PyData.str s).leavesShort B = true := by
  simp only [PyData.leavesShort, List.all_eq_true, decide_eq_true_eq]
  intro c hc
  have := h.cs c hc
  have e : (122 : Nat) < 16 ^ 8 := by decide
  omega
theorem int_leaf {i : Int} (h : i.natAbs < 10 ^ 50) : (PyData.int i).leavesShort 52 = true := by
  simp only [PyData.leavesShort, decide_eq_true_eq]
  exact int_short h
theorem int_show {i : Int} (h : i.natAbs < 2 ^ 32) : i.natAbs.log2 < 1920 := by
  by_cases z : i.natAbs = 0
  · rw [z]; decide
  · exact Nat.lt_of_lt_of_le ((Nat.log2_lt z).mpr h) (by decide)
theorem shows_of {d : D} {W : Nat} (h1 : d.okK = true) (h2 : d.pyK.depth ≤ 64) (h3 : d.pyK.showable = true) (h4 : d.pyK.leavesShort 52 = true) (h5 : d.pyK.weight ≤ W) (hW : W ≤ 1000) : d.ShowsK :=
  ⟨h1, h2, h3, by
    have := PyData.shown_le 52 (by decide) _ h4
    rw [sizeLine_eq]
    omega⟩
def wS : Nat → Nat := fun n => n
theorem wt_int {i : Int} (h : i.natAbs < 2 ^ 32) : (if i == 0 then 0 else i.natAbs.log2 + 1) ≤ 33 := by
  split
  · omega
  · rename_i z
    have z : i.natAbs ≠ 0 := by simpa using z
    have := (Nat.log2_lt z).mpr h
    omega
section
variable {s : Str} (h : Wd s)
include h
theorem sh_ltr : (ltr s).ShowsK := by
  have l2 : s.cps.size ≤ 8 := h.len
  have f := h.leaf 52
  have g1 : (PyData.str "later").leavesShort 52 = true := by decide +kernel
  have g2 : (PyData.str "LATER").leavesShort 52 = true := by decide +kernel
  have g3 : (PyData.str "odd").leavesShort 52 = true := by decide +kernel
  have g4 : (PyData.int 1).leavesShort 52 = true := int_leaf (by decide)
  have e1 : ("later" : Str).cps.size = 5 := by decide +kernel
  have e2 : ("LATER" : Str).cps.size = 5 := by decide +kernel
  have e3 : ("odd" : Str).cps.size = 3 := by decide +kernel
  have e4 : Nat.log2 1 = 0 := by decide
  refine shows_of (W := 200) (by simp [ltr, D.okK, D.okKA]) (by simp [ltr, D.pyK, D.pyKA, kPy, PyData.depth, PyData.depthAll, PyData.depthKv]) ?_ ?_ ?_ (by decide)
  · simp [ltr, D.pyK, D.pyKA, kPy, PyData.showable, PyData.showableAll, PyData.showableKv] <;> decide
  · simp only [ltr, D.pyK, D.pyKA, kPy, List.map_cons, List.map_nil, List.zip_cons_cons, List.zip_nil_left, List.zip_nil_right]
    repeat (first | rw [PyData.leavesShort] | simp only [PyData.leavesShortAll, PyData.leavesShortKv, f, g1, g2, g3, g4, Bool.and_true, Bool.true_and])
  · simp [ltr, D.pyK, D.pyKA, kPy, PyData.weight, PyData.weightAll, PyData.weightKv, e1, e2, e3, e4] <;> omega
theorem sh_th7 : (th7 s).ShowsK := by
  have l2 : s.cps.size ≤ 8 := h.len
  have f := h.leaf 52
  have g1 : (PyData.str "later").leavesShort 52 = true := by decide +kernel
  have g2 : (PyData.str "LATER").leavesShort 52 = true := by decide +kernel
  have g3 : (PyData.str "odd").leavesShort 52 = true := by decide +kernel
  have g4 : (PyData.int 1).leavesShort 52 = true := int_leaf (by decide)
  have e1 : ("later" : Str).cps.size = 5 := by decide +kernel
  have e2 : ("LATER" : Str).cps.size = 5 := by decide +kernel
  have e3 : ("odd" : Str).cps.size = 3 := by decide +kernel
  have e4 : Nat.log2 1 = 0 := by decide
  refine shows_of (W := 200) (by simp [th7, D.okK, D.okKA]) (by simp [th7, D.pyK, D.pyKA, kPy, PyData.depth, PyData.depthAll, PyData.depthKv]) ?_ ?_ ?_ (by decide)
  · simp [th7, D.pyK, D.pyKA, kPy, PyData.showable, PyData.showableAll, PyData.showableKv] <;> decide
  · simp only [th7, D.pyK, D.pyKA, kPy, List.map_cons, List.map_nil, List.zip_cons_cons, List.zip_nil_left, List.zip_nil_right]
    repeat (first | rw [PyData.leavesShort] | simp only [PyData.leavesShortAll, PyData.leavesShortKv, f, g1, g2, g3, g4, Bool.and_true, Bool.true_and])
  · simp [th7, D.pyK, D.pyKA, kPy, PyData.weight, PyData.weightAll, PyData.weightKv, e1, e2, e3, e4] <;> omega
theorem sh_th8 : (th8 s).ShowsK := by
  have l2 : s.cps.size ≤ 8 := h.len
  have f := h.leaf 52
  have g1 : (PyData.str "later").leavesShort 52 = true := by decide +kernel
  have g2 : (PyData.str "LATER").leavesShort 52 = true := by decide +kernel
  have g3 : (PyData.str "odd").leavesShort 52 = true := by decide +kernel
  have g4 : (PyData.int 1).leavesShort 52 = true := int_leaf (by decide)
  have e1 : ("later" : Str).cps.size = 5 := by decide +kernel
  have e2 : ("LATER" : Str).cps.size = 5 := by decide +kernel
  have e3 : ("odd" : Str).cps.size = 3 := by decide +kernel
  have e4 : Nat.log2 1 = 0 := by decide
  refine shows_of (W := 200) (by simp [th8, D.okK, D.okKA]) (by simp [th8, D.pyK, D.pyKA, kPy, PyData.depth, PyData.depthAll, PyData.depthKv]) ?_ ?_ ?_ (by decide)
  · simp [th8, D.pyK, D.pyKA, kPy, PyData.showable, PyData.showableAll, PyData.showableKv] <;> decide
  · simp only [th8, D.pyK, D.pyKA, kPy, List.map_cons, List.map_nil, List.zip_cons_cons, List.zip_nil_left, List.zip_nil_right]
    repeat (first | rw [PyData.leavesShort] | simp only [PyData.leavesShortAll, PyData.leavesShortKv, f, g1, g2, g3, g4, Bool.and_true, Bool.true_and])
  · simp [th8, D.pyK, D.pyKA, kPy, PyData.weight, PyData.weightAll, PyData.weightKv, e1, e2, e3, e4] <;> omega
theorem sh_th9 : (th9 s).ShowsK := by
  have l2 : s.cps.size ≤ 8 := h.len
  have f := h.leaf 52
  have g1 : (PyData.str "later").leavesShort 52 = true := by decide +kernel
  have g2 : (PyData.str "LATER").leavesShort 52 = true := by decide +kernel
  have g3 : (PyData.str "odd").leavesShort 52 = true := by decide +kernel
  have g4 : (PyData.int 1).leavesShort 52 = true := int_leaf (by decide)
  have e1 : ("later" : Str).cps.size = 5 := by decide +kernel
  have e2 : ("LATER" : Str).cps.size = 5 := by decide +kernel
  have e3 : ("odd" : Str).cps.size = 3 := by decide +kernel
  have e4 : Nat.log2 1 = 0 := by decide
  refine shows_of (W := 200) (by simp [th9, D.okK, D.okKA]) (by simp [th9, D.pyK, D.pyKA, kPy, PyData.depth, PyData.depthAll, PyData.depthKv]) ?_ ?_ ?_ (by decide)
  · simp [th9, D.pyK, D.pyKA, kPy, PyData.showable, PyData.showableAll, PyData.showableKv] <;> decide
  · simp only [th9, D.pyK, D.pyKA, kPy, List.map_cons, List.map_nil, List.zip_cons_cons, List.zip_nil_left, List.zip_nil_right]
    repeat (first | rw [PyData.leavesShort] | simp only [PyData.leavesShortAll, PyData.leavesShortKv, f, g1, g2, g3, g4, Bool.and_true, Bool.true_and])
  · simp [th9, D.pyK, D.pyKA, kPy, PyData.weight, PyData.weightAll, PyData.weightKv, e1, e2, e3, e4] <;> omega
theorem sh_th10 : (th10 s).ShowsK := by
  have l2 : s.cps.size ≤ 8 := h.len
  have f := h.leaf 52
  have g1 : (PyData.str "later").leavesShort 52 = true := by decide +kernel
  have g2 : (PyData.str "LATER").leavesShort 52 = true := by decide +kernel
  have g3 : (PyData.str "odd").leavesShort 52 = true := by decide +kernel
  have g4 : (PyData.int 1).leavesShort 52 = true := int_leaf (by decide)
  have e1 : ("later" : Str).cps.size = 5 := by decide +kernel
  have e2 : ("LATER" : Str).cps.size = 5 := by decide +kernel
  have e3 : ("odd" : Str).cps.size = 3 := by decide +kernel
  have e4 : Nat.log2 1 = 0 := by decide
  refine shows_of (W := 200) (by simp [th10, D.okK, D.okKA]) (by simp [th10, D.pyK, D.pyKA, kPy, PyData.depth, PyData.depthAll, PyData.depthKv]) ?_ ?_ ?_ (by decide)
  · simp [th10, D.pyK, D.pyKA, kPy, PyData.showable, PyData.showableAll, PyData.showableKv] <;> decide
  · simp only [th10, D.pyK, D.pyKA, kPy, List.map_cons, List.map_nil, List.zip_cons_cons, List.zip_nil_left, List.zip_nil_right]
    repeat (first | rw [PyData.leavesShort] | simp only [PyData.leavesShortAll, PyData.leavesShortKv, f, g1, g2, g3, g4, Bool.and_true, Bool.true_and])
  · simp [th10, D.pyK, D.pyKA, kPy, PyData.weight, PyData.weightAll, PyData.weightKv, e1, e2, e3, e4] <;> omega
theorem sh_af7 : (af7 s).ShowsK := by
  have l2 : s.cps.size ≤ 8 := h.len
  have f := h.leaf 52
  have g1 : (PyData.str "later").leavesShort 52 = true := by decide +kernel
  have g2 : (PyData.str "LATER").leavesShort 52 = true := by decide +kernel
  have g3 : (PyData.str "odd").leavesShort 52 = true := by decide +kernel
  have g4 : (PyData.int 1).leavesShort 52 = true := int_leaf (by decide)
  have e1 : ("later" : Str).cps.size = 5 := by decide +kernel
  have e2 : ("LATER" : Str).cps.size = 5 := by decide +kernel
  have e3 : ("odd" : Str).cps.size = 3 := by decide +kernel
  have e4 : Nat.log2 1 = 0 := by decide
  refine shows_of (W := 200) (by simp [af7, D.okK, D.okKA]) (by simp [af7, D.pyK, D.pyKA, kPy, PyData.depth, PyData.depthAll, PyData.depthKv]) ?_ ?_ ?_ (by decide)
  · simp [af7, D.pyK, D.pyKA, kPy, PyData.showable, PyData.showableAll, PyData.showableKv] <;> decide
  · simp only [af7, D.pyK, D.pyKA, kPy, List.map_cons, List.map_nil, List.zip_cons_cons, List.zip_nil_left, List.zip_nil_right]
    repeat (first | rw [PyData.leavesShort] | simp only [PyData.leavesShortAll, PyData.leavesShortKv, f, g1, g2, g3, g4, Bool.and_true, Bool.true_and])
  · simp [af7, D.pyK, D.pyKA, kPy, PyData.weight, PyData.weightAll, PyData.weightKv, e1, e2, e3, e4] <;> omega
theorem sh_af8 : (af8 s).ShowsK := by
  have l2 : s.cps.size ≤ 8 := h.len
  have f := h.leaf 52
  have g1 : (PyData.str "later").leavesShort 52 = true := by decide +kernel
  have g2 : (PyData.str "LATER").leavesShort 52 = true := by decide +kernel
  have g3 : (PyData.str "odd").leavesShort 52 = true := by decide +kernel
  have g4 : (PyData.int 1).leavesShort 52 = true := int_leaf (by decide)
  have e1 : ("later" : Str).cps.size = 5 := by decide +kernel
  have e2 : ("LATER" : Str).cps.size = 5 := by decide +kernel
  have e3 : ("odd" : Str).cps.size = 3 := by decide +kernel
  have e4 : Nat.log2 1 = 0 := by decide
  refine shows_of (W := 200) (by simp [af8, D.okK, D.okKA]) (by simp [af8, D.pyK, D.pyKA, kPy, PyData.depth, PyData.depthAll, PyData.depthKv]) ?_ ?_ ?_ (by decide)
  · simp [af8, D.pyK, D.pyKA, kPy, PyData.showable, PyData.showableAll, PyData.showableKv] <;> decide
  · simp only [af8, D.pyK, D.pyKA, kPy, List.map_cons, List.map_nil, List.zip_cons_cons, List.zip_nil_left, List.zip_nil_right]
    repeat (first | rw [PyData.leavesShort] | simp only [PyData.leavesShortAll, PyData.leavesShortKv, f, g1, g2, g3, g4, Bool.and_true, Bool.true_and])
  · simp [af8, D.pyK, D.pyKA, kPy, PyData.weight, PyData.weightAll, PyData.weightKv, e1, e2, e3, e4] <;> omega
theorem sh_af9 : (af9 s).ShowsK := by
  have l2 : s.cps.size ≤ 8 := h.len
  have f := h.leaf 52
  have g1 : (PyData.str "later").leavesShort 52 = true := by decide +kernel
  have g2 : (PyData.str "LATER").leavesShort 52 = true := by decide +kernel
  have g3 : (PyData.str "odd").leavesShort 52 = true := by decide +kernel
  have g4 : (PyData.int 1).leavesShort 52 = true := int_leaf (by decide)
  have e1 : ("later" : Str).cps.size = 5 := by decide +kernel
  have e2 : ("LATER" : Str).cps.size = 5 := by decide +kernel
  have e3 : ("odd" : Str).cps.size = 3 := by decide +kernel
  have e4 : Nat.log2 1 = 0 := by decide
  refine shows_of (W := 200) (by simp [af9, D.okK, D.okKA]) (by simp [af9, D.pyK, D.pyKA, kPy, PyData.depth, PyData.depthAll, PyData.depthKv]) ?_ ?_ ?_ (by decide)
  · simp [af9, D.pyK, D.pyKA, kPy, PyData.showable, PyData.showableAll, PyData.showableKv] <;> decide
  · simp only [af9, D.pyK, D.pyKA, kPy, List.map_cons, List.map_nil, List.zip_cons_cons, List.zip_nil_left, List.zip_nil_right]
    repeat (first | rw [PyData.leavesShort] | simp only [PyData.leavesShortAll, PyData.leavesShortKv, f, g1, g2, g3, g4, Bool.and_true, Bool.true_and])
  · simp [af9, D.pyK, D.pyKA, kPy, PyData.weight, PyData.weightAll, PyData.weightKv, e1, e2, e3, e4] <;> omega
theorem sh_af10 : (af10 s).ShowsK := by
  have l2 : s.cps.size ≤ 8 := h.len
  have f := h.leaf 52
  have g1 : (PyData.str "later").leavesShort 52 = true := by decide +kernel
  have g2 : (PyData.str "LATER").leavesShort 52 = true := by decide +kernel
  have g3 : (PyData.str "odd").leavesShort 52 = true := by decide +kernel
  have g4 : (PyData.int 1).leavesShort 52 = true := int_leaf (by decide)
  have e1 : ("later" : Str).cps.size = 5 := by decide +kernel
  have e2 : ("LATER" : Str).cps.size = 5 := by decide +kernel
  have e3 : ("odd" : Str).cps.size = 3 := by decide +kernel
  have e4 : Nat.log2 1 = 0 := by decide
  refine shows_of (W := 200) (by simp [af10, D.okK, D.okKA]) (by simp [af10, D.pyK, D.pyKA, kPy, PyData.depth, PyData.depthAll, PyData.depthKv]) ?_ ?_ ?_ (by decide)
  · simp [af10, D.pyK, D.pyKA, kPy, PyData.showable, PyData.showableAll, PyData.showableKv] <;> decide
  · simp only [af10, D.pyK, D.pyKA, kPy, List.map_cons, List.map_nil, List.zip_cons_cons, List.zip_nil_left, List.zip_nil_right]
    repeat (first | rw [PyData.leavesShort] | simp only [PyData.leavesShortAll, PyData.leavesShortKv, f, g1, g2, g3, g4, Bool.and_true, Bool.true_and])
  · simp [af10, D.pyK, D.pyKA, kPy, PyData.weight, PyData.weightAll, PyData.weightKv, e1, e2, e3, e4] <;> omega
theorem sh_says : (D.tup [.str "says", .str s, .int 1, .int 2]).ShowsK := by
  have l2 : s.cps.size ≤ 8 := h.len
  have f := h.leaf 52
  have g1 : (PyData.str "says").leavesShort 52 = true := by decide +kernel
  have g4 : (PyData.int 1).leavesShort 52 = true := int_leaf (by decide)
  have g5 : (PyData.int 2).leavesShort 52 = true := int_leaf (by decide)
  have e1 : ("says" : Str).cps.size = 4 := by decide +kernel
  have e4 : Nat.log2 1 = 0 := by decide
  have e5 : Nat.log2 2 = 1 := by decide
  refine shows_of (W := 200) (by simp [D.okK, D.okKA]) (by simp [D.pyK, D.pyKA, kPy, PyData.depth, PyData.depthAll]) ?_ ?_ ?_ (by decide)
  · simp [D.pyK, D.pyKA, PyData.showable, PyData.showableAll, e4, e5]
  · simp only [D.pyK, D.pyKA]
    repeat (first | rw [PyData.leavesShort] | simp only [PyData.leavesShortAll, f, g1, g4, g5, Bool.and_true, Bool.true_and])
  · simp [D.pyK, D.pyKA, PyData.weight, PyData.weightAll, e1, e4, e5]
    omega
theorem sh_word : (D.str s).ShowsK := by
  have l2 : s.cps.size ≤ 8 := h.len
  exact shows_of (W := 100) rfl (by simp [D.pyK, PyData.depth]) rfl (h.leaf 52) (by simp [D.pyK, PyData.weight]; omega) (by decide)
end
theorem sh_none : D.non.ShowsK := shows_of (W := 100) rfl (by simp [D.pyK, PyData.depth]) rfl rfl (by simp [D.pyK, PyData.weight]) (by decide)
theorem sh_bool (b : Bool) : (D.bl b).ShowsK := shows_of (W := 100) rfl (by simp [D.pyK, PyData.depth]) rfl rfl (by simp [D.pyK, PyData.weight]) (by decide)
theorem sh_number {i : Int} (h : i.natAbs < 2 ^ 32) : (D.int i).ShowsK := shows_of (W := 100) rfl (by simp [D.pyK, PyData.depth]) (by simp only [D.pyK, PyData.showable, decide_eq_true_eq]; exact int_show h) (int_leaf (Nat.lt_of_lt_of_le h (by decide))) (by have := wt_int h; simp only [D.pyK, PyData.weight]; omega) (by decide)
end N01
end
section
set_option Elab.async false
set_option linter.all false
set_option maxRecDepth 100000
set_option maxHeartbeats 4000000
namespace N01
open PySem PySem.Spec PyProof.Rows L2 DL Hd
variable [TL]
abbrev NL : List Str := ["script", "purse", "word", "plain", "thing", "noted", "some", "called", "later", "rest", "error"]
abbrev LX (P : Program) (w : World) (K : PySem.W.Frag) (mg : Str → Option Value) (base : Heap) (f : Addr) (cdv : Value) (A : Around) (outer : List Env) (s : Shared) (H : Hp) (E : XK) : Cx := cxOf (L2.CX P w) P w K mg base NL "law" (defScope s_law) f cdv A outer s H E
theorem nl_nd : NL.Nodup := by decide +kernel
theorem sc_law : FnScope NL ["script"] (defScope s_law) := ⟨rfl, rfl, rfl, by decide +kernel, rfl, by decide +kernel, by decide +kernel⟩
def forB : Stmt → List Stmt
  | .For _ _ b _ _ => b
  | _ => []
def ifB : Stmt → List Stmt
  | .If _ b _ _ => b
  | _ => []
abbrev lawF : Stmt := (defBody s_law).headD default
abbrev bS (i : Nat) : Stmt := (forB lawF).getD i default
abbrev pnA : List Nat := [0, 1, 2, 3, 4, 5, 6, 7, 8, 9, 10]
/-- what the law's body stands on -/
structure LawT (P : Program) (K : PySem.W.Frag) (mg : Str → Option Value) : Prop where
  B : Bn mg
  E : ErsT P K mg
  Q : DfP K mg
  T : DfE K mg
  S : SysT K
  bare : ∀ k, 34 ≤ k → k < 37 → PySem.W.excIn K (cA K k) PySem.DLX.veB "ValueError.__new__" = true ∧ PySem.W.keepIn K (.ref (cA K k)) = true
abbrev fr (K : PySem.W.Frag) (q : Pu) (wd : Str) (x : D) (n : Str) (y : D) : List DV := [.un, .ow (pz q), .d (.str wd), .un, .d x, .d (.str n), .d (.lst (excs K y)), .d (.lst (excs K y)), .d (.lst (excs K (ltr wd))), .un, .un]
abbrev fr5 (q : Pu) (wd : Str) (x : D) (n : Str) : List DV := [.un, .ow (pz q), .d (.str wd), .un, .d x, .d (.str n), .un, .un, .un, .un, .un]
section
variable {P : Program} {w : World} {K : PySem.W.Frag} {mg : Str → Option Value} {base : Heap} {f : Addr} {cdv : Value} {A : Around} {outer : List Env} {s : Shared} {H : Hp} {E : XK} {p q : Pu} {wd n : Str} {x y o t : D}
theorem s_word (T : LawT P K mg) (hr : Room 10 (LX P w K mg base f cdv A outer s H E).A) (op : OkP 0 p) :
    DS (LX P w K mg base f cdv A outer s H E) [] [.un, .ow (pz p), .un, .un, .un, .un, .un, .un, .un, .un, .un] (bS 0) (.nx [.un, .ow (pz (wordP p)), .d (wordD p), .un, .un, .un, .un, .un, .un, .un, .un]) :=
  ds_set (x := wordD p) (i := 2) (δ1 := [.un, .ow (pz (wordP p)), .un, .un, .un, .un, .un, .un, .un, .un, .un]) nl_nd rfl (.inl rfl) (by simp) (de_callQ 1 (pz p) (pz (wordP p)) (.d (wordD p)) (fd_word T.Q (L := 0) (by decide)) (hr.mono (by decide)) rfl (da_o 1 da_nil) rfl rfl ⟨p, op, rfl, rfl, rfl⟩)
theorem s_plain : DS (LX P w K mg base f cdv A outer s H E) [] [.un, .ow (pz p), .d (.str wd), .un, .un, .un, .un, .un, .un, .un, .un] (bS 1) (.nx [.un, .ow (pz p), .d (.str wd), .d (.lst (plainD p.b wd)), .un, .un, .un, .un, .un, .un, .un]) :=
  ds_set (x := .lst (plainD p.b wd)) (i := 3) (δ1 := [.un, .ow (pz p), .d (.str wd), .un, .un, .un, .un, .un, .un, .un, .un]) nl_nd rfl (.inl rfl) (by simp) (de_frz (de_lst (ds := plainD p.b wd)
    (da_cons de_non (da_cons de_bl (da_cons de_bl (da_cons de_int (da_cons (de_v 2) (da_cons (de_neg (de_ixo 1 (xs := pz p) (z := .int p.b) (j := 1) de_int rfl))
      (da_cons (de_tup (ds := [.str "says", .str wd, .int 1, .int 2]) (da_cons de_str (da_cons (de_v 2) (da_cons de_int (da_cons de_int da_nil)))) rfl (le_sz (by simp)))
      (da_cons (de_tup (ds := [.str wd, .lst [.str wd]]) (da_cons (de_v 2) (da_cons (de_frz (de_lst (ds := [.str wd]) (da_cons (de_v 2) da_nil) rfl (le_sz (by simp)))) da_nil)) rfl (le_sz (by simp)))
      (da_cons (de_dctN (s := wd) (x := .lst [.str wd]) (de_v 2) (de_frz (de_lst (ds := [.str wd]) (da_cons (de_v 2) da_nil) rfl (le_sz (by simp))))) da_nil))))))))) rfl (le_sz (by simp [plainD]))))
theorem s_thing (T : LawT P K mg) (hr : Room 10 (LX P w K mg base f cdv A outer s H E).A) (op : OkP 20 p) :
    DS (LX P w K mg base f cdv A outer s H E) [] [.un, .ow (pz p), .d (.str wd), .d (.lst (plainD p.b wd)), .un, .un, .un, .un, .un, .un, .un] (bS 2) (.nx [.un, .ow (pz (drawP p (things p.b wd).length)), .d (.str wd), .d (.lst (plainD p.b wd)), .d (oneOf p (things p.b wd)), .un, .un, .un, .un, .un, .un]) :=
  ds_set (x := oneOf p (things p.b wd)) (i := 4) (δ1 := [.un, .ow (pz (drawP p (things p.b wd).length)), .d (.str wd), .d (.lst (plainD p.b wd)), .un, .un, .un, .un, .un, .un, .un]) nl_nd rfl (.inl rfl) (by simp)
    (de_callQ 1 (pz p) (pz (drawP p (things p.b wd).length)) (.d (oneOf p (things p.b wd))) (fd_one_of T.Q (L := 20) (by decide)) (hr.mono (by decide)) rfl (as := [.d (.lst (things p.b wd))])
      (da_o 1 (da_cons (de_frz (de_cat (xs := plainD p.b wd) (ys := [th9 wd, th10 wd]) (de_v 3) (de_frz (de_lst (ds := [th9 wd, th10 wd])
        (da_cons (de_frz (de_lst (ds := [.str wd]) (da_cons (de_v 2) da_nil) rfl (le_sz (by simp))))
          (da_cons (de_frz (de_lst (ds := [.lst [.str wd], .dct [.inr "odd"] [.str wd]]) (da_cons (de_frz (de_lst (ds := [.str wd]) (da_cons (de_v 2) da_nil) rfl (le_sz (by simp)))) (da_cons (de_dctN (s := "odd") (x := .str wd) de_str (de_v 2)) da_nil)) rfl (le_sz (by simp)))) da_nil)) rfl (le_sz (by simp)))) (le_sz (by simp [plainD])))) da_nil)) rfl rfl
      ⟨p, things p.b wd, op, by simp [things], by simp [things, plainD], rfl, rfl, rfl⟩)
theorem s_noted (T : LawT P K mg) (hG : (LX P w K mg base f cdv A outer s H E).A.guards = some []) (hr : Room 10 (LX P w K mg base f cdv A outer s H E).A) (ht : t.ShowsK) {pl : DV} :
    DS (LX P w K mg base f cdv A outer s H E) [] [.un, .ow (pz q), .d (.str wd), pl, .d t, .un, .un, .un, .un, .un, .un] (bS 3) (.nx [.un, .ow (pz q), .d (.str wd), pl, .d t, .d (.str t.repK), .un, .un, .un, .un, .un]) :=
  ds_set (x := .str t.repK) (i := 5) (δ1 := [.un, .ow (pz q), .d (.str wd), pl, .d t, .un, .un, .un, .un, .un, .un]) nl_nd rfl (.inl rfl) (by simp) (de_reprG T.S hG hr rfl T.B.repr (de_v 4) ht)
theorem s_three (T : LawT P K mg) (hr : Room 10 (LX P w K mg base f cdv A outer s H E).A) : DS (LX P w K mg base f cdv A outer s H E) [] (fr5 q wd o n) (bS 4) (.nx (fr K q wd o n o)) :=
  ds_par3 (i := 6) (j := 7) (l := 8) (x := .lst (excs K o)) (y := .lst (excs K o)) (z := .lst (excs K (ltr wd))) (δ1 := fr5 q wd o n) rfl nl_nd rfl rfl rfl (by decide) (by decide) (by decide) rfl rfl rfl (by simp) (by simp) (by simp)
    (da_cons (de_frz (de_call (r := .ow (excs K o)) (fd_first T.E T.T.first) (hr.mono (by decide)) rfl (da_cons (de_v 4) da_nil) rfl ⟨o, rfl, rfl, rfl⟩))
      (da_cons (de_frz (de_call (r := .ow (excs K o)) (fd_called T.E T.T.called) (hr.mono (by decide)) rfl (da_cons (de_v 4) da_nil) rfl ⟨o, rfl, rfl, rfl⟩))
        (da_cons (de_frz (de_call (r := .ow (excs K (ltr wd))) (fd_first T.E T.T.first) (hr.mono (by decide)) rfl (da_cons (de_tup (ds := [.str "later", .str wd]) (da_cons de_str (da_cons (de_v 2) da_nil)) rfl (le_sz (by simp))) da_nil) rfl ⟨ltr wd, rfl, rfl, rfl⟩)) da_nil))) (by rfl)
/-- not _law_right(e1, e2), which holds -/
theorem dt_right {δ : List DV} {a b : Expr} {p1 pos pos2 : Pos} {d : D} (T : LawT P K mg) (hG : (LX P w K mg base f cdv A outer s H E).A.guards = some []) (hr : Room 10 (LX P w K mg base f cdv A outer s H E).A) (hd : d.ShowsK)
    (ha : DE (LX P w K mg base f cdv A outer s H E) δ a (.d (.lst (excs K d))) δ) (hb : DE (LX P w K mg base f cdv A outer s H E) δ b (.d (.str d.repK)) δ)
    (he : starEach [a, b] (LX P w K mg base f cdv A outer s H E).env = (false, eval a (LX P w K mg base f cdv A outer s H E).env) :: starEach [b] (LX P w K mg base f cdv A outer s H E).env := by rfl) (he2 : starEach [b] (LX P w K mg base f cdv A outer s H E).env = (false, eval b (LX P w K mg base f cdv A outer s H E).env) :: starEach [] (LX P w K mg base f cdv A outer s H E).env := by rfl)
    (hpl : (backTo pos (starEach [b] (LX P w K mg base f cdv A outer s H E).env)).any (·.1) = false := by rfl) :
    DT (LX P w K mg base f cdv A outer s H E) δ (.UnaryOp .Not (.Call (.Name "_law_right" p1) [a, b] [] pos) pos2) false δ :=
  dt_notT (dt_bl (de_callG (r := .d (.bl true)) (fd_right T.B T.E T.T T.S) hG (hr.mono (by decide)) rfl (da_cons ha (da_cons hb da_nil he2) he) rfl ⟨d, hd, (fun a z => by rw [z] at hd; exact (nomatch hd.ok)), rfl, rfl, rfl⟩ (he := he) (hpl := hpl)))
theorem s_first (T : LawT P K mg) (hG : (LX P w K mg base f cdv A outer s H E).A.guards = some []) (hr : Room 10 (LX P w K mg base f cdv A outer s H E).A) (hw : Wd wd) :
    DS (LX P w K mg base f cdv A outer s H E) pnA (fr K q wd x n y) (bS 5) (.nx (fr K q wd x n y)) :=
  ds_ifF (dt_w (dw_orF (dt_right T hG hr sh_none (de_frz (de_call0 (fd_bare T.E T.T.bare) (hr.mono (by decide)) rfl ⟨rfl, rfl, rfl⟩)) (de_to de_str (by rfl)))
    (dw_or1 (dt_right T hG hr (sh_ltr hw) (de_v 8) (de_reprG T.S hG hr rfl T.B.repr (de_tup (ds := [.str "later", .str wd]) (da_cons de_str (da_cons (de_v 2) da_nil)) rfl (le_sz (by simp))) (sh_ltr hw)))))) rfl dss_nil
theorem s_second (T : LawT P K mg) (hG : (LX P w K mg base f cdv A outer s H E).A.guards = some []) (hr : Room 10 (LX P w K mg base f cdv A outer s H E).A) (ht : t.ShowsK) :
    DS (LX P w K mg base f cdv A outer s H E) pnA (fr K q wd x t.repK t) (bS 6) (.nx (fr K q wd x t.repK t)) :=
  ds_ifF (dt_w (dw_orF (dt_right T hG hr ht (de_v 6) (de_v 5)) (dw_or1 (dt_right T hG hr ht (de_v 7) (de_v 5))))) rfl dss_nil
theorem s_last (T : LawT P K mg) (hG : (LX P w K mg base f cdv A outer s H E).A.guards = some []) (hr : Room 10 (LX P w K mg base f cdv A outer s H E).A) (ht : t.ShowsK) :
    DS (LX P w K mg base f cdv A outer s H E) pnA (fr K q wd t n t) (bS 10) (.nx (fr K q wd t n t)) :=
  ds_ifF (dt_w (dw_orF (dt_right T hG hr ht (de_v 6) (de_reprG T.S hG hr rfl T.B.repr (de_v 4) ht)) (dw_or1 (dt_right T hG hr ht (de_v 7) (de_reprG T.S hG hr rfl T.B.repr (de_v 4) ht))))) rfl dss_nil
/-! ### the questions what the thing is -/
theorem t_list (T : LawT P K mg) (hp : t.plain = true) {k : Bool} (hk : t.isi "list" = k) : ∃ c u w2 ps, bS 7 = .If c u w2 ps ∧ w2 = [] ∧ DT (LX P w K mg base f cdv A outer s H E) (fr K q wd t n y) c k (fr K q wd t n y) :=
  ⟨_, _, _, _, rfl, rfl, dt_bl (de_isi' "list" rfl T.B.isi (de_v 4) hp rfl T.B.list (by decide +kernel) (by simp) hk)⟩
theorem t_dict (T : LawT P K mg) (hp : t.plain = true) {k : Bool} (hk : t.isi "dict" = k) : ∃ c u w2 ps, bS 8 = .If c u w2 ps ∧ w2 = [] ∧ DT (LX P w K mg base f cdv A outer s H E) (fr K q wd t n y) c k (fr K q wd t n y) :=
  ⟨_, _, _, _, rfl, rfl, dt_bl (de_isi' "dict" rfl T.B.isi (de_v 4) hp rfl T.B.dict (by decide +kernel) (by simp) hk)⟩
theorem n_list (T : LawT P K mg) (hp : t.plain = true) (hk : t.isi "list" = false) : DS (LX P w K mg base f cdv A outer s H E) pnA (fr K q wd t n y) (bS 7) (.nx (fr K q wd t n y)) :=
  ds_ifF (dt_bl (de_isi' "list" rfl T.B.isi (de_v 4) hp rfl T.B.list (by decide +kernel) (by simp) hk)) rfl dss_nil
theorem n_dict (T : LawT P K mg) (hp : t.plain = true) (hk : t.isi "dict" = false) : DS (LX P w K mg base f cdv A outer s H E) pnA (fr K q wd t n y) (bS 8) (.nx (fr K q wd t n y)) :=
  ds_ifF (dt_bl (de_isi' "dict" rfl T.B.isi (de_v 4) hp rfl T.B.dict (by decide +kernel) (by simp) hk)) rfl dss_nil
theorem n_tup (T : LawT P K mg) (hp : t.plain = true) (hk : t.isi "tuple" = false) : DS (LX P w K mg base f cdv A outer s H E) pnA (fr K q wd t n y) (bS 9) (.nx (fr K q wd t n y)) :=
  ds_ifF (dt_w (dw_andF (dt_bl (de_isi' "tuple" rfl T.B.isi (de_v 4) hp rfl T.B.tuple (by decide +kernel) (by simp) hk)))) rfl dss_nil
theorem n_tup2 (T : LawT P K mg) {a z : D} {r : List D} (hp : z.plain = true) (hk : z.isi "list" = false) : DS (LX P w K mg base f cdv A outer s H E) pnA (fr K q wd (.tup (a :: z :: r)) n y) (bS 9) (.nx (fr K q wd (.tup (a :: z :: r)) n y)) :=
  ds_ifF (dt_w (dw_andT (dt_bl (de_isi' "tuple" rfl T.B.isi (de_v 4) rfl rfl T.B.tuple (by decide +kernel) (by simp) rfl)) (dw_and1 (dt_bl (de_isi' "list" rfl T.B.isi (de_ixT (xs := a :: z :: r) (de_v 4) de_int atI_1) hp rfl T.B.list (by decide +kernel) (by simp) hk))))) rfl dss_nil
theorem y_tup (T : LawT P K mg) {a z : D} {r : List D} (hp : z.plain = true) (hk : z.isi "list" = true) : ∃ c u w2 ps, bS 9 = .If c u w2 ps ∧ u = ifB (bS 9) ∧ DT (LX P w K mg base f cdv A outer s H E) (fr K q wd (.tup (a :: z :: r)) n y) c true (fr K q wd (.tup (a :: z :: r)) n y) :=
  ⟨_, _, _, _, rfl, rfl, dt_w (dw_andT (dt_bl (de_isi' "tuple" rfl T.B.isi (de_v 4) rfl rfl T.B.tuple (by decide +kernel) (by simp) rfl)) (dw_and1 (dt_bl (de_isi' "list" rfl T.B.isi (de_ixT (xs := a :: z :: r) (de_v 4) de_int atI_1) hp rfl T.B.list (by decide +kernel) (by simp) hk))))⟩
end
end N01
end
section
set_option Elab.async false
set_option linter.all false
set_option maxRecDepth 100000
set_option maxHeartbeats 4000000
namespace N01
open PySem PySem.Spec PyProof.Rows L2 DL Hd
variable [TL]
section
variable {F H : Hp} {σ : L2.St} {δ : List DV} {K : PySem.W.Frag} {a : Addr} {d d1 d2 x y : D} {q : Pu} {wd n : Str} {G : Hp → Prop}
/-! ### readings -/
theorem exl_view (hd : Rp F (.ref a) d) : ∀ (Cs : List Addr) {vs : List V}, RpA F vs (Cs.map fun C => D.exc C (.fn a)) → RpA F vs (Cs.map fun C => D.exc C d)
  | [], _, .nil => .nil
  | C :: Cs, _, .cons r t => by
    refine .cons ?_ (exl_view hd Cs t)
    cases r with
    | exc h1 h2 h3 =>
      cases h3
      exact .exc h1 h2 hd
theorem upTo_eq (K : PySem.W.Frag) (d : D) (m : Nat) : upTo K d m = ((List.range m).map (cA K)).map fun C => D.exc C d := by
  unfold upTo
  rw [List.map_map]
  rfl
theorem excs_view {v : V} (hd : Rp F (.ref a) d) (r : Rp F v (.lst (excs K (.fn a)))) : Rp F v (.lst (excs K d)) := by
  cases r with
  | lst h1 t =>
    have t : RpA F _ (upTo K (.fn a) 34) := t
    rw [upTo_eq] at t
    refine .lst h1 ?_
    show RpA F _ (upTo K d 34)
    rw [upTo_eq]
    exact exl_view hd _ t
theorem Rs.read (R : Rs F H σ δ) {i : Nat} {v : V} (hi : σ[i]? = some (some v)) (r : Rp F v d) : Rs F H σ (δ.set i (.d d)) := by
  have := R.set_ (i := i) (v := some v) (x := .d d) (fun _ h => nomatch h) ⟨v, rfl, r⟩
  have e : σ.set i (some v) = σ := List.ext_getElem? fun k => by
    by_cases z : i = k
    · subst z; rw [List.getElem?_set_self (List.getElem?_eq_some_iff.mp hi).1, hi]
    · rw [List.getElem?_set_ne z]
  rwa [e] at this
theorem view_fr (h1 : ∀ F, G F → Rp F (.ref a) d1) (h2 : ∀ F, G F → Rp F (.ref a) d2) : View G (fr K q wd (.fn a) n (.fn a)) (fr K q wd d1 n d2) := by
  refine ⟨fun F H σ R g => ?_, rfl, fun i x h => ?_⟩
  · obtain ⟨o4, e4, v4, q4, r4⟩ := R.at_ 4 _ rfl
    obtain ⟨o6, e6, v6, q6, r6⟩ := R.at_ 6 _ rfl
    obtain ⟨o7, e7, v7, q7, r7⟩ := R.at_ 7 _ rfl
    rw [q4] at e4; rw [q6] at e6; rw [q7] at e7
    cases r4
    have R1 := Rs.read R e4 (h1 F g)
    have R2 := Rs.read R1 e6 (excs_view (h2 F g) r6)
    exact Rs.read R2 e7 (excs_view (h2 F g) r7)
  · match i, h with
    | 0, h => exact .inl h
    | 1, h => exact .inl h
    | 2, h => exact .inl h
    | 3, h => exact .inl h
    | 4, h => cases h; exact .inr ⟨_, rfl⟩
    | 5, h => exact .inl h
    | 6, h => cases h; exact .inr ⟨_, rfl⟩
    | 7, h => cases h; exact .inr ⟨_, rfl⟩
    | 8, h => exact .inl h
    | 9, h => exact .inl h
    | 10, h => exact .inl h
    | i + 11, h => exact nomatch h
theorem View.refl : View G δ δ := ⟨fun _ _ _ R _ => R, rfl, fun _ _ h => .inl h⟩
theorem upTo_off {k : Option Nat} (h : d.off k = true) (m : Nat) : D.offA k (upTo K d m) = true := by
  rw [upTo_eq]
  generalize (List.range m).map (cA K) = l
  induction l with
  | nil => rfl
  | cons C l ih => simp only [List.map_cons, D.offA, D.off, h, ih, Bool.and_self]
theorem fr_off {k : Option Nat} (hk : k ≠ some 34) (hx : x.off k = true) (hy : y.off k = true) : ∀ z ∈ fr K q wd x n y, z.off k = true := by
  have e : ∀ d : D, d.off k = true → (DV.d (.lst (excs K d))).off k = true := fun d h => by
    simp only [DV.off, D.off, upTo_len, upTo_off h, Bool.and_true]
    simpa using hk
  intro z hz
  simp only [List.mem_cons, List.not_mem_nil, or_false] at hz
  rcases hz with rfl | rfl | rfl | rfl | rfl | rfl | rfl | rfl | rfl | rfl | rfl
  · rfl
  · rfl
  · rfl
  · rfl
  · exact hx
  · rfl
  · exact e _ hy
  · exact e _ hy
  · exact e _ rfl
  · rfl
  · rfl
theorem all_pn : ∀ i < (fr K q wd x n y).length, i ∈ pnA := by
  intro i hi
  have : i < 11 := hi
  show i ∈ [0, 1, 2, 3, 4, 5, 6, 7, 8, 9, 10]
  simp
  omega
end
section
variable {P : Program} {w : World} {K : PySem.W.Frag} {mg : Str → Option Value} {base : Heap} {f : Addr} {cdv : Value} {A : Around} {outer : List Env} {s : Shared} {H : Hp} {E : XK} {p q : Pu} {wd : Str} {o t t' : D} {G0 Ga Gb G1 : Hp → Prop}
theorem run_rest (T : LawT P K mg) (hG : (LX P w K mg base f cdv A outer s H E).A.guards = some []) (hr : Room 10 (LX P w K mg base f cdv A outer s H E).A) (hw : Wd wd) (ht : t.ShowsK) (ht' : t'.ShowsK) (m0 : Mo G0) (m1 : Mo G1)
    (V0 : View G0 (fr K q wd o t.repK o) (fr K q wd t t.repK t)) (V1 : View G1 (fr K q wd o t.repK o) (fr K q wd t' t.repK t'))
    (h7 : PS (LX P w K mg base f cdv A outer s H E) (bS 7) (tN G0 (fr K q wd o t.repK o) Ga (fr K q wd o t.repK o))) (h8 : PS (LX P w K mg base f cdv A outer s H E) (bS 8) (tN Ga (fr K q wd o t.repK o) Gb (fr K q wd o t.repK o))) (h9 : PS (LX P w K mg base f cdv A outer s H E) (bS 9) (tN Gb (fr K q wd o t.repK o) G1 (fr K q wd o t.repK o))) :
    PSs (LX P w K mg base f cdv A outer s H E) [bS 4, bS 5, bS 6, bS 7, bS 8, bS 9, bS 10] (tN G0 (fr5 q wd o t.repK) G1 (fr K q wd o t.repK o)) :=
  tn_cons (tn_ds m0 (s_three T hr)) (tn_cons (tn_ds m0 (s_first T hG hr hw)) (tn_cons (tn_view m0 V0 all_pn (s_second T hG hr ht)) (tn_cons h7 (tn_cons h8 (tn_cons h9 (tn_one (tn_view m1 V1 all_pn (s_last T hG hr ht'))))))))
theorem mo_and {G G' : Hp → Prop} (h : Mo G) (h' : Mo G') : Mo fun F => G F ∧ G' F := fun F F' e g => ⟨h F F' e g.1, h' F F' e g.2⟩
theorem mo_at {a : Addr} {o : HO} : Mo fun F => F a = some o := fun F F' e g => e _ _ g
/-- a thing that stays as it is -/
theorem case_plain (T : LawT P K mg) (hG : (LX P w K mg base f cdv A outer s H E).A.guards = some []) (hr : Room 10 (LX P w K mg base f cdv A outer s H E).A) (hw : Wd wd) (ht : t.ShowsK) {G : Hp → Prop} (m : Mo G)
    (hp : t.plain = true) (hl : t.isi "list" = false) (hd : t.isi "dict" = false) (h9 : DS (LX P w K mg base f cdv A outer s H E) pnA (fr K q wd t t.repK t) (bS 9) (.nx (fr K q wd t t.repK t))) :
    PSs (LX P w K mg base f cdv A outer s H E) [bS 4, bS 5, bS 6, bS 7, bS 8, bS 9, bS 10] (tN G (fr5 q wd t t.repK) G (fr K q wd t t.repK t)) :=
  run_rest T hG hr hw ht ht m m View.refl View.refl (tn_ds m (n_list T hp hl)) (tn_ds m (n_dict T hp hd)) (tn_ds m h9)
def G9 (q : Addr × Addr) (a : Addr) (vs : List V) : Hp → Prop := fun F => GL q F ∧ F a = some (.lst vs)
theorem G9.mo {q : Addr × Addr} {a : Addr} {vs : List V} : Mo (G9 q a vs) := mo_and GL.mo mo_at
theorem case_9 (T : LawT P K mg) (hG : (LX P w K mg base f cdv A outer s H E).A.guards = some []) (hr : Room 10 (LX P w K mg base f cdv A outer s H E).A) (hw : Wd wd) {qq : Addr × Addr} {a : Addr} :
    PSs (LX P w K mg base f cdv A outer s H E) [bS 4, bS 5, bS 6, bS 7, bS 8, bS 9, bS 10] (tN (G9 qq a [.str wd]) (fr5 q wd (.fn a) (th9 wd).repK) (G9 qq a [.str wd, .str "later"]) (fr K q wd (.fn a) (th9 wd).repK (.fn a))) := by
  have r0 : ∀ F, G9 qq a [.str wd] F → Rp F (.ref a) (th9 wd) := fun F g => .lst g.2 (.cons (.str _) .nil)
  have r1 : ∀ F, G9 qq a [.str wd, .str "later"] F → Rp F (.ref a) (af9 wd) := fun F g => .lst g.2 (.cons (.str _) (.cons (.str _) .nil))
  have V0 : View (G9 qq a [.str wd]) (fr K q wd (.fn a) (th9 wd).repK (.fn a)) (fr K q wd (th9 wd) (th9 wd).repK (th9 wd)) := view_fr r0 r0
  have V1 : View (G9 qq a [.str wd, .str "later"]) (fr K q wd (.fn a) (th9 wd).repK (.fn a)) (fr K q wd (af9 wd) (th9 wd).repK (af9 wd)) := view_fr r1 r1
  refine run_rest T hG hr hw (sh_th9 hw) (sh_af9 hw) G9.mo G9.mo V0 V1 (tn_ifT G9.mo V0 (dt_bl (de_isi' "list" rfl T.B.isi (de_v 4) rfl rfl T.B.list (by decide +kernel) (by simp) rfl)) (tn_one (tn_append (p := a) (vs := [.str wd]) View.refl G9.mo (de_v 4) (fun F g => g.2) (le_sz (by simp)) ?hm)))
    (tn_view G9.mo V1 all_pn (n_dict T rfl rfl)) (tn_view G9.mo V1 all_pn (n_tup T rfl rfl))
  case hm =>
    intro F H σ R g
    refine ⟨R.mutF g.2 (k := some 1) ⟨_, rfl, rfl⟩ (fun _ h => nomatch h) (fr_off (by decide) rfl rfl), ?_, upd_same⟩
    have n : qq.1 ≠ a := fun z => by
      have g1 : F qq.1 = some (.lst [.ref qq.2]) := g.1
      rw [z, g.2] at g1
      cases g1
    exact (upd_ne n).trans g.1
def G10 (q : Addr × Addr) (a b c : Addr) (wd : Str) (r : List V) : Hp → Prop := fun F => (GL q F ∧ F a = some (.lst (.ref b :: .ref c :: r))) ∧ F b = some (.lst [.str wd]) ∧ F c = some (.dK [(.inr "odd", .str wd)])
theorem G10.mo {q : Addr × Addr} {a b c : Addr} {r : List V} : Mo (G10 q a b c wd r) := mo_and (mo_and GL.mo mo_at) (mo_and mo_at mo_at)
theorem case_10 (T : LawT P K mg) (hG : (LX P w K mg base f cdv A outer s H E).A.guards = some []) (hr : Room 10 (LX P w K mg base f cdv A outer s H E).A) (hw : Wd wd) {qq : Addr × Addr} {a b c : Addr} :
    PSs (LX P w K mg base f cdv A outer s H E) [bS 4, bS 5, bS 6, bS 7, bS 8, bS 9, bS 10] (tN (G10 qq a b c wd []) (fr5 q wd (.fn a) (th10 wd).repK) (G10 qq a b c wd [.str "later"]) (fr K q wd (.fn a) (th10 wd).repK (.fn a))) := by
  have r0 : ∀ F, G10 qq a b c wd [] F → Rp F (.ref a) (th10 wd) := fun F g => .lst g.1.2 (.cons (.lst g.2.1 (.cons (.str _) .nil)) (.cons (.dct g.2.2 rfl (.cons (.str _) .nil)) .nil))
  have r1 : ∀ F, G10 qq a b c wd [.str "later"] F → Rp F (.ref a) (af10 wd) := fun F g => .lst g.1.2 (.cons (.lst g.2.1 (.cons (.str _) .nil)) (.cons (.dct g.2.2 rfl (.cons (.str _) .nil)) (.cons (.str _) .nil)))
  have V0 : View (G10 qq a b c wd []) (fr K q wd (.fn a) (th10 wd).repK (.fn a)) (fr K q wd (th10 wd) (th10 wd).repK (th10 wd)) := view_fr r0 r0
  have V1 : View (G10 qq a b c wd [.str "later"]) (fr K q wd (.fn a) (th10 wd).repK (.fn a)) (fr K q wd (af10 wd) (th10 wd).repK (af10 wd)) := view_fr r1 r1
  refine run_rest T hG hr hw (sh_th10 hw) (sh_af10 hw) G10.mo G10.mo V0 V1 (tn_ifT G10.mo V0 (dt_bl (de_isi' "list" rfl T.B.isi (de_v 4) rfl rfl T.B.list (by decide +kernel) (by simp) rfl)) (tn_one (tn_append (p := a) (vs := [.ref b, .ref c]) View.refl G10.mo (de_v 4) (fun F g => g.1.2) (le_sz (by simp)) ?hm)))
    (tn_view G10.mo V1 all_pn (n_dict T rfl rfl)) (tn_view G10.mo V1 all_pn (n_tup T rfl rfl))
  case hm =>
    intro F H σ R g
    obtain ⟨⟨g1, g2⟩, g3, g4⟩ := g
    have g1' : F qq.1 = some (.lst [.ref qq.2]) := g1
    have n1 : qq.1 ≠ a := fun z => by rw [z, g2] at g1'; cases g1'
    have n2 : b ≠ a := fun z => by rw [z, g2] at g3; cases g3
    have n3 : c ≠ a := fun z => by rw [z, g2] at g4; cases g4
    exact ⟨R.mutF g2 (k := some 2) ⟨_, rfl, rfl⟩ (fun _ h => nomatch h) (fr_off (by decide) rfl rfl), ⟨(upd_ne n1).trans g1, upd_same⟩, (upd_ne n2).trans g3, (upd_ne n3).trans g4⟩
def G7 (q : Addr × Addr) (a b : Addr) (wd : Str) (r : List V) : Hp → Prop := fun F => (GL q F ∧ F a = some (.tup [.str wd, .ref b])) ∧ F b = some (.lst (.str wd :: r))
theorem G7.mo {q : Addr × Addr} {a b : Addr} {r : List V} : Mo (G7 q a b wd r) := mo_and (mo_and GL.mo mo_at) mo_at
theorem case_7 (T : LawT P K mg) (hG : (LX P w K mg base f cdv A outer s H E).A.guards = some []) (hr : Room 10 (LX P w K mg base f cdv A outer s H E).A) (hw : Wd wd) {qq : Addr × Addr} {a b : Addr} :
    PSs (LX P w K mg base f cdv A outer s H E) [bS 4, bS 5, bS 6, bS 7, bS 8, bS 9, bS 10] (tN (G7 qq a b wd []) (fr5 q wd (.fn a) (th7 wd).repK) (G7 qq a b wd [.str "later"]) (fr K q wd (.fn a) (th7 wd).repK (.fn a))) := by
  have r0 : ∀ F, G7 qq a b wd [] F → Rp F (.ref a) (th7 wd) := fun F g => .tup g.1.2 (.cons (.str _) (.cons (.lst g.2 (.cons (.str _) .nil)) .nil))
  have r1 : ∀ F, G7 qq a b wd [.str "later"] F → Rp F (.ref a) (af7 wd) := fun F g => .tup g.1.2 (.cons (.str _) (.cons (.lst g.2 (.cons (.str _) (.cons (.str _) .nil))) .nil))
  have rr : ∀ F, G7 qq a b wd [] F → Rp F (.ref a) (.tup [.str wd, .fn b]) := fun F g => .tup g.1.2 (.cons (.str _) (.cons (.fn _) .nil))
  have rf : ∀ F, G7 qq a b wd [] F → Rp F (.ref a) (.fn a) := fun F g => .fn a
  have V0 : View (G7 qq a b wd []) (fr K q wd (.fn a) (th7 wd).repK (.fn a)) (fr K q wd (th7 wd) (th7 wd).repK (th7 wd)) := view_fr r0 r0
  have V1 : View (G7 qq a b wd [.str "later"]) (fr K q wd (.fn a) (th7 wd).repK (.fn a)) (fr K q wd (af7 wd) (th7 wd).repK (af7 wd)) := view_fr r1 r1
  have Vr : View (G7 qq a b wd []) (fr K q wd (.fn a) (th7 wd).repK (.fn a)) (fr K q wd (.tup [.str wd, .fn b]) (th7 wd).repK (.fn a)) := view_fr rr rf
  refine run_rest T hG hr hw (sh_th7 hw) (sh_af7 hw) G7.mo G7.mo V0 V1 (tn_view G7.mo V0 all_pn (n_list T rfl rfl)) (tn_view G7.mo V0 all_pn (n_dict T rfl rfl))
    (tn_ifT G7.mo V0 (dt_w (dw_andT (dt_bl (de_isi' "tuple" rfl T.B.isi (de_v 4) rfl rfl T.B.tuple (by decide +kernel) (by simp) rfl)) (dw_and1 (dt_bl (de_isi' "list" rfl T.B.isi (de_ixT (xs := [.str wd, .lst [.str wd]]) (de_v 4) de_int atI_1) rfl rfl T.B.list (by decide +kernel) (by simp) rfl)))))
      (tn_one (tn_append (p := b) (vs := [.str wd]) Vr G7.mo (de_ixT (xs := [.str wd, .fn b]) (de_v 4) de_int atI_1) (fun F g => g.2) (le_sz (by simp)) ?hm)))
  case hm =>
    intro F H σ R g
    obtain ⟨⟨g1, g2⟩, g3⟩ := g
    have g1' : F qq.1 = some (.lst [.ref qq.2]) := g1
    have n1 : qq.1 ≠ b := fun z => by rw [z, g3] at g1'; cases g1'
    have n2 : a ≠ b := fun z => by rw [z, g3] at g2; cases g2
    exact ⟨R.mutF g3 (k := some 1) ⟨_, rfl, rfl⟩ (fun _ h => nomatch h) (fr_off (by decide) rfl rfl), ⟨(upd_ne n1).trans g1, (upd_ne n2).trans g2⟩, upd_same⟩
def G8 (q : Addr × Addr) (a b : Addr) (wd : Str) (r : List V) (m : List (Key × V)) : Hp → Prop := fun F => (GL q F ∧ F a = some (.dK ((.inr wd, .ref b) :: m))) ∧ F b = some (.lst (.str wd :: r))
theorem G8.mo {q : Addr × Addr} {a b : Addr} {r : List V} {m : List (Key × V)} : Mo (G8 q a b wd r m) := mo_and (mo_and GL.mo mo_at) mo_at
theorem wd_later (hw : Wd wd) : wd ≠ ("LATER" : Str) := fun z => by
  have h := hw.ex
  obtain ⟨cs, _, h2, e⟩ := h
  have e2 : ("LATER" : Str) = ofCs [76, 65, 84, 69, 82] := by decide +kernel
  rw [z, e2] at e
  have e3 : cs = [76, 65, 84, 69, 82] := by
    have := congrArg (fun s : Str => s.cps.toList) e
    simpa [ofCs] using this.symm
  have := h2 76 (by rw [e3]; simp)
  omega
theorem put_later (hw : Wd wd) {b : Addr} : putK [((.inr wd : Key), V.ref b)] (.inr "LATER") (.int 1) = [(.inr wd, .ref b), (.inr "LATER", .int 1)] := by
  have h := wd_later hw
  unfold putK
  have e : (List.any [((.inr wd : Key), V.ref b)] fun kv => decide (kv.1 = (.inr "LATER" : Key))) = false := by simp [h]
  rw [e]
  rfl
theorem case_8 (T : LawT P K mg) (hG : (LX P w K mg base f cdv A outer s H E).A.guards = some []) (hr : Room 10 (LX P w K mg base f cdv A outer s H E).A) (hw : Wd wd) {qq : Addr × Addr} {a b : Addr} :
    PSs (LX P w K mg base f cdv A outer s H E) [bS 4, bS 5, bS 6, bS 7, bS 8, bS 9, bS 10] (tN (G8 qq a b wd [] []) (fr5 q wd (.fn a) (th8 wd).repK) (G8 qq a b wd [.str "later"] [(.inr "LATER", .int 1)]) (fr K q wd (.fn a) (th8 wd).repK (.fn a))) := by
  have r0 : ∀ F, G8 qq a b wd [] [] F → Rp F (.ref a) (th8 wd) := fun F g => .dct g.1.2 rfl (.cons (.lst g.2 (.cons (.str _) .nil)) .nil)
  have r1 : ∀ F, G8 qq a b wd [.str "later"] [(.inr "LATER", .int 1)] F → Rp F (.ref a) (af8 wd) := fun F g => .dct g.1.2 rfl (.cons (.lst g.2 (.cons (.str _) (.cons (.str _) .nil))) (.cons (.int _) .nil))
  have rr : ∀ F, G8 qq a b wd [] [] F → Rp F (.ref a) (.dct [.inr wd] [.fn b]) := fun F g => .dct g.1.2 rfl (.cons (.fn _) .nil)
  have rf : ∀ F, G8 qq a b wd [] [] F → Rp F (.ref a) (.fn a) := fun F g => .fn a
  have V0 : View (G8 qq a b wd [] []) (fr K q wd (.fn a) (th8 wd).repK (.fn a)) (fr K q wd (th8 wd) (th8 wd).repK (th8 wd)) := view_fr r0 r0
  have V1 : View (G8 qq a b wd [.str "later"] [(.inr "LATER", .int 1)]) (fr K q wd (.fn a) (th8 wd).repK (.fn a)) (fr K q wd (af8 wd) (th8 wd).repK (af8 wd)) := view_fr r1 r1
  have Vr : View (G8 qq a b wd [] []) (fr K q wd (.fn a) (th8 wd).repK (.fn a)) (fr K q wd (.dct [.inr wd] [.fn b]) (th8 wd).repK (.fn a)) := view_fr rr rf
  refine run_rest T hG hr hw (sh_th8 hw) (sh_af8 hw) G8.mo G8.mo V0 V1 (tn_view G8.mo V0 all_pn (n_list T rfl rfl))
    (tn_ifT G8.mo V0 (dt_bl (de_isi' "dict" rfl T.B.isi (de_v 4) rfl rfl T.B.dict (by decide +kernel) (by simp) rfl))
      (tn_cons (G1 := G8 qq a b wd [.str "later"] []) (tn_append (p := b) (vs := [.str wd]) Vr G8.mo (de_ixK hr (de_v 4) (de_v 2)) (fun F g => g.2) (le_sz (by simp)) ?hm)
        (tn_one (tn_put hr (p := a) (kvs := [(.inr wd, .ref b)]) (s := "LATER") (n := 1) View.refl G8.mo (de_v 4) (fun F g => g.1.2) (le_sz (by simp)) ?hp))))
    (tn_view G8.mo V1 all_pn (n_tup T rfl rfl))
  case hm =>
    intro F H σ R g
    obtain ⟨⟨g1, g2⟩, g3⟩ := g
    have g1' : F qq.1 = some (.lst [.ref qq.2]) := g1
    have n1 : qq.1 ≠ b := fun z => by rw [z, g3] at g1'; cases g1'
    have n2 : a ≠ b := fun z => by rw [z, g3] at g2; cases g2
    exact ⟨R.mutF g3 (k := some 1) ⟨_, rfl, rfl⟩ (fun _ h => nomatch h) (fr_off (by decide) rfl rfl), ⟨(upd_ne n1).trans g1, (upd_ne n2).trans g2⟩, upd_same⟩
  case hp =>
    intro F H σ R g
    obtain ⟨⟨g1, g2⟩, g3⟩ := g
    have g1' : F qq.1 = some (.lst [.ref qq.2]) := g1
    have n1 : qq.1 ≠ a := fun z => by rw [z, g2] at g1'; cases g1'
    have n2 : b ≠ a := fun z => by rw [z, g2] at g3; cases g3
    rw [put_later hw]
    exact ⟨R.mutF g2 (k := none) ⟨_, rfl⟩ (fun _ h => nomatch h) (fr_off (by decide) rfl rfl), ⟨(upd_ne n1).trans g1, upd_same⟩, (upd_ne n2).trans g3⟩
end
end N01
end
section
set_option Elab.async false
set_option linter.all false
set_option maxRecDepth 100000
set_option maxHeartbeats 4000000
namespace N01
open PySem PySem.Spec PyProof.Rows L2 DL Hd
variable [TL]
theorem tr_re {X : Cx} {δ δ' : List DV} {sts : List Stmt} (h : ∀ F H σ, Rs F H σ δ → ∃ F1, Rs F1 H σ δ') (hs : PSs X sts (tR δ')) : PSs X sts (tR δ) := hs.imp fun D σ H ⟨F, R, k⟩ => let ⟨F1, R1⟩ := h F H σ R; ⟨F1, R1, k⟩
theorem pz_any {p : Pu} {F F' : Hp} {vs : List V} (r : RpA F vs (pz p)) : RpA F' vs (pz p) := by
  unfold pz at r ⊢
  cases r with
  | cons r1 r =>
  cases r with
  | cons r2 r =>
  cases r with
  | cons r3 r =>
  cases r with
  | cons r4 r =>
  cases r
  cases r1; cases r2; cases r3; cases r4
  exact .cons (.int _) (.cons (.int _) (.cons (.int _) (.cons (.int _) .nil)))
section
variable {P : Program} {w : World} {K : PySem.W.Frag} {mg : Str → Option Value} {base : Heap} {f : Addr} {cdv : Value} {A : Around} {outer : List Env} {s : Shared} {H : Hp} {E : XK} {p q : Pu} {wd : Str} {t : D} {pl : D} {qq : Addr × Addr}
abbrev fr4 (q : Pu) (wd : Str) (pl t : D) : List DV := [.un, .ow (pz q), .d (.str wd), .d pl, .d t, .un, .un, .un, .un, .un, .un]
abbrev un11 : List DV := List.replicate 11 .un
abbrev tail8 : List Stmt := [bS 3, bS 4, bS 5, bS 6, bS 7, bS 8, bS 9, bS 10]
theorem drop_pl {F H : Hp} {σ : L2.St} {n : D} (R : Rs F H σ [.un, .ow (pz q), .d (.str wd), .d pl, .d t, .d n, .un, .un, .un, .un, .un]) : Rs F H σ [.un, .ow (pz q), .d (.str wd), .un, .d t, .d n, .un, .un, .un, .un, .un] :=
  R.forget (i := 3) fun xs h => nomatch (Option.some.inj h)
theorem go_plain (T : LawT P K mg) (hG : (LX P w K mg base f cdv A outer s H E).A.guards = some []) (hr : Room 10 (LX P w K mg base f cdv A outer s H E).A) (hw : Wd wd) (ht : t.ShowsK)
    (hp : t.plain = true) (hl : t.isi "list" = false) (hd : t.isi "dict" = false) (h9 : DS (LX P w K mg base f cdv A outer s H E) pnA (fr K q wd t t.repK t) (bS 9) (.nx (fr K q wd t t.repK t))) :
    PSs (LX P w K mg base f cdv A outer s H E) tail8 (tN (GL qq) (fr4 q wd pl t) (GL qq) un11) :=
  tn_cons (tn_ds GL.mo (s_noted T hG hr ht)) (tn_to (tn_re (ι := Unit) (Gi := fun _ => GL qq) (δi := fun _ => fr5 q wd t t.repK) (fun F H σ R g => ⟨(), F, drop_pl R, g⟩) fun _ => case_plain T hG hr hw ht GL.mo hp hl hd h9) fun F H σ R g => ⟨R.unall, g⟩)
theorem go_9 (T : LawT P K mg) (hG : (LX P w K mg base f cdv A outer s H E).A.guards = some []) (hr : Room 10 (LX P w K mg base f cdv A outer s H E).A) (hw : Wd wd) :
    PSs (LX P w K mg base f cdv A outer s H E) tail8 (tN (GL qq) (fr4 q wd pl (th9 wd)) (GL qq) un11) :=
  tn_cons (tn_ds GL.mo (s_noted T hG hr (sh_th9 hw))) (tn_re (ι := Addr) (Gi := fun a => G9 qq a [.str wd]) (δi := fun a => fr5 q wd (.fn a) (th9 wd).repK) (fun F H σ R g => by
    obtain ⟨o, e4, v, q4, r⟩ := R.at_ 4 _ rfl
    rw [q4] at e4
    cases r with
    | @lst a vs _ h1 h2 =>
    cases h2 with
    | cons ra rb =>
    cases rb
    cases ra
    exact ⟨a, F, Rs.read (drop_pl R) e4 (.fn a), g, h1⟩) fun a => tn_to (case_9 T hG hr hw) fun F H σ R g => ⟨R.unall, g.1⟩)
theorem go_10 (T : LawT P K mg) (hG : (LX P w K mg base f cdv A outer s H E).A.guards = some []) (hr : Room 10 (LX P w K mg base f cdv A outer s H E).A) (hw : Wd wd) :
    PSs (LX P w K mg base f cdv A outer s H E) tail8 (tN (GL qq) (fr4 q wd pl (th10 wd)) (GL qq) un11) :=
  tn_cons (tn_ds GL.mo (s_noted T hG hr (sh_th10 hw))) (tn_re (ι := Addr × Addr × Addr) (Gi := fun a => G10 qq a.1 a.2.1 a.2.2 wd []) (δi := fun a => fr5 q wd (.fn a.1) (th10 wd).repK) (fun F H σ R g => by
    obtain ⟨o, e4, v, q4, r⟩ := R.at_ 4 _ rfl
    rw [q4] at e4
    cases r with
    | @lst a vs _ h1 h2 =>
    cases h2 with
    | cons ra rb =>
    cases rb with
    | cons rb rc =>
    cases rc
    cases ra with
    | @lst b vs _ h3 h4 =>
    cases h4 with
    | cons u1 u2 =>
    cases u2
    cases u1
    cases rb with
    | @dct c kvs _ _ h5 h6 h7 =>
    obtain ⟨w0, rfl⟩ : ∃ w0, kvs = [(.inr "odd", w0)] := by
      match kvs, h6 with
      | [(k0, w0)], h6 => exact ⟨w0, by simp at h6; rw [h6]⟩
    cases h7 with
    | cons y1 y2 =>
    cases y1
    exact ⟨(a, b, c), F, Rs.read (drop_pl R) e4 (.fn a), ⟨g, h1⟩, h3, h5⟩) fun a => tn_to (case_10 T hG hr hw) fun F H σ R g => ⟨R.unall, g.1.1⟩)
theorem go_7 (T : LawT P K mg) (hG : (LX P w K mg base f cdv A outer s H E).A.guards = some []) (hr : Room 10 (LX P w K mg base f cdv A outer s H E).A) (hw : Wd wd) :
    PSs (LX P w K mg base f cdv A outer s H E) tail8 (tN (GL qq) (fr4 q wd pl (th7 wd)) (GL qq) un11) :=
  tn_cons (tn_ds GL.mo (s_noted T hG hr (sh_th7 hw))) (tn_re (ι := Addr × Addr) (Gi := fun a => G7 qq a.1 a.2 wd []) (δi := fun a => fr5 q wd (.fn a.1) (th7 wd).repK) (fun F H σ R g => by
    obtain ⟨o, e4, v, q4, r⟩ := R.at_ 4 _ rfl
    rw [q4] at e4
    cases r with
    | @tup a vs _ h1 h2 =>
    cases h2 with
    | cons ra rb =>
    cases rb with
    | cons rb rc =>
    cases rc
    cases ra
    cases rb with
    | @lst b vs _ h3 h4 =>
    cases h4 with
    | cons u1 u2 =>
    cases u2
    cases u1
    exact ⟨(a, b), F, Rs.read (drop_pl R) e4 (.fn a), ⟨g, h1⟩, h3⟩) fun a => tn_to (case_7 T hG hr hw) fun F H σ R g => ⟨R.unall, g.1.1⟩)
theorem go_8 (T : LawT P K mg) (hG : (LX P w K mg base f cdv A outer s H E).A.guards = some []) (hr : Room 10 (LX P w K mg base f cdv A outer s H E).A) (hw : Wd wd) :
    PSs (LX P w K mg base f cdv A outer s H E) tail8 (tN (GL qq) (fr4 q wd pl (th8 wd)) (GL qq) un11) :=
  tn_cons (tn_ds GL.mo (s_noted T hG hr (sh_th8 hw))) (tn_re (ι := Addr × Addr) (Gi := fun a => G8 qq a.1 a.2 wd [] []) (δi := fun a => fr5 q wd (.fn a.1) (th8 wd).repK) (fun F H σ R g => by
    obtain ⟨o, e4, v, q4, r⟩ := R.at_ 4 _ rfl
    rw [q4] at e4
    cases r with
    | @dct a kvs _ _ h1 h2 h3 =>
    obtain ⟨w0, rfl⟩ : ∃ w0, kvs = [(.inr wd, w0)] := by
      match kvs, h2 with
      | [(k0, w0)], h2 => exact ⟨w0, by simp at h2; rw [h2]⟩
    cases h3 with
    | cons rb rc =>
    cases rb with
    | @lst b vs _ h3 h4 =>
    cases h4 with
    | cons u1 u2 =>
    cases u2
    cases u1
    exact ⟨(a, b), F, Rs.read (drop_pl R) e4 (.fn a), ⟨g, h1⟩, h3⟩) fun a => tn_to (case_8 T hG hr hw) fun F H σ R g => ⟨R.unall, g.1.1⟩)
theorem turn (T : LawT P K mg) (hG : (LX P w K mg base f cdv A outer s H E).A.guards = some []) (hr : Room 10 (LX P w K mg base f cdv A outer s H E).A) (op : OkP 0 p) :
    PSs (LX P w K mg base f cdv A outer s H E) (forB lawF) (tN (GL qq) (un11.set 1 (.ow (pz p))) (GL qq) un11) := by
  obtain ⟨wd, ew, hw⟩ := wordD_wd p
  have o1 : OkP 20 (wordP p) := wordP_ok op
  have h1 := s_word (P := P) (w := w) (base := base) (f := f) (cdv := cdv) (A := A) (outer := outer) (s := s) (H := H) (E := E) T hr op
  rw [ew] at h1
  generalize wordP p = p1 at h1 o1
  have hm := oneOf_mem (p := p1) (xs := things p1.b wd) (by simp [things])
  have b0 := o1.b0
  have b1 := o1.b1
  have h3 := s_thing (P := P) (w := w) (base := base) (f := f) (cdv := cdv) (A := A) (outer := outer) (s := s) (H := H) (E := E) (wd := wd) T hr o1
  generalize oneOf p1 (things p1.b wd) = t at hm h3
  generalize drawP p1 (things p1.b wd).length = q at h3
  show PSs (LX P w K mg base f cdv A outer s H E) (bS 0 :: bS 1 :: bS 2 :: tail8) _
  refine tn_cons (tn_ds GL.mo h1) (tn_cons (tn_ds GL.mo s_plain) (tn_cons (tn_ds GL.mo h3) ?_))
  simp only [things, plainD, List.cons_append, List.nil_append, List.mem_cons, List.not_mem_nil, or_false] at hm
  rcases hm with rfl | rfl | rfl | rfl | rfl | rfl | rfl | rfl | rfl | rfl | rfl
  · exact go_plain T hG hr hw sh_none rfl rfl rfl (n_tup T rfl rfl)
  · exact go_plain T hG hr hw (sh_bool _) rfl rfl rfl (n_tup T rfl rfl)
  · exact go_plain T hG hr hw (sh_bool _) rfl rfl rfl (n_tup T rfl rfl)
  · exact go_plain T hG hr hw (sh_number (by decide)) rfl rfl rfl (n_tup T rfl rfl)
  · exact go_plain T hG hr hw (sh_word hw) rfl rfl rfl (n_tup T rfl rfl)
  · exact go_plain T hG hr hw (sh_number (by omega)) rfl rfl rfl (n_tup T rfl rfl)
  · exact go_plain T hG hr hw (sh_says hw) rfl rfl rfl (n_tup2 T rfl rfl)
  · exact go_7 T hG hr hw
  · exact go_8 T hG hr hw
  · exact go_9 T hG hr hw
  · exact go_10 T hG hr hw
/-! ### the three behind -/
abbrev rS (i : Nat) : Stmt := (defBody s_law).getD i default
def eK (K : PySem.W.Frag) (k : Nat) : D := .exc (cA K k) (.exc (cA K k) .non)
abbrev frR (K : PySem.W.Frag) (x : DV) : List DV := [.un, .un, .un, .un, .un, .un, .un, .un, .un, x, .un]
def two : List D := [.lst [.int 34], .lst [.int 35]]
theorem two_sh : (D.lst two).sh := ⟨by decide +kernel, by decide +kernel⟩
theorem two_get {K : PySem.W.Frag} {j : Nat} {x : D} (h : [eK K 34, eK K 35][j]? = some x) : j < 2 ∧ x = eK K (34 + j) := by
  match j, h with
  | 0, h => cases h; exact ⟨by decide, rfl⟩
  | 1, h => cases h; exact ⟨by decide, rfl⟩
theorem lend_rest {F H : Hp} {σ : L2.St} (R : Rs F H σ (frR K (.d (.lst [eK K 34, eK K 35])))) : ∃ F1, Rs F1 H σ (frR K (.ow [eK K 34, eK K 35])) := by
  obtain ⟨o, e9, v, q9, r⟩ := R.at_ 9 _ rfl
  rw [q9] at e9
  cases r with
  | @lst pp vs _ h1 h2 =>
  have lv := h2.length
  refine ⟨del F pp, ?_⟩
  have ex : Ex (del F pp) H := fun b o q => by
    by_cases z : b = pp
    · rw [z, del_same] at q; cases q
    · rw [del_ne z] at q; exact R.sub b o q
  have B : Rs (del F pp) H σ un11 := Rs.blank ex R.tb (fun b ps q => by
    by_cases z : b = pp
    · rw [z, del_same] at q; cases q
    · rw [del_ne z] at q; exact R.nt b ps q) R.len
  have ra : RpA (del F pp) vs [eK K 34, eK K 35] := RpA.but h1 (k := some 2) ⟨vs, rfl, lv⟩ (fun b n => del_ne n) rfl h2
  have S := B.setO (i := 9) del_same (R.sub _ _ h1) ra (fun ⟨i, ys, z1, _⟩ => by
    rw [List.getElem?_replicate] at z1
    split at z1 <;> cases z1)
  have e : σ.set 9 (some (.ref pp)) = σ := List.ext_getElem? fun k => by
    by_cases z : 9 = k
    · subst z; rw [List.getElem?_set_self (List.getElem?_eq_some_iff.mp e9).1, e9]
    · rw [List.getElem?_set_ne z]
  rw [e] at S
  exact S
theorem tail_ok (T : LawT P K mg) (hG : (LX P w K mg base f cdv A outer s H E).A.guards = some []) (hr : Room 10 (LX P w K mg base f cdv A outer s H E).A) : PSs (LX P w K mg base f cdv A outer s H E) [rS 1, rS 2, rS 3, rS 4] (tR un11) := by
  have B := T.B
  have b34 := T.bare 34 (by decide) (by decide)
  have b35 := T.bare 35 (by decide) (by decide)
  have b36 := T.bare 36 (by decide) (by decide)
  have hap : DS (LX P w K mg base f cdv A outer s H E) [] (frR K (.ow [eK K 34, eK K 35])) (rS 3) (.nx (frR K (.ow [eK K 34, eK K 35, eK K 36]))) :=
    ds_append (i := 9) (x := eK K 36) (xs := [eK K 34, eK K 35]) (δ1 := frR K (.ow [eK K 34, eK K 35])) rfl (.inl rfl) ⟨_, rfl⟩ (de_mkB b36.1 T.E.g36 b36.2 rfl) rfl (by show 2 < sizeLine; decide)
  have hret : DS (LX P w K mg base f cdv A outer s H E) [] (frR K (.d (.lst [eK K 34, eK K 35, eK K 36]))) (rS 4) (.rt (.d (.bl true)) (frR K (.d (.lst [eK K 34, eK K 35, eK K 36])))) := by
    refine ds_ret (de_andT (δ1 := frR K (.d (.lst [eK K 34, eK K 35, eK K 36]))) (de_to (de_allM (xs := [eK K 34, eK K 35, eK K 36]) (g := fun _ => true) (δ1 := frR K (.d (.lst [eK K 34, eK K 35, eK K 36]))) rfl rfl B.all ?all) rfl) (de_one (de_to (de_eq hr (x := .lst []) (y := .lst []) ⟨rfl, by decide⟩ ⟨rfl, by decide⟩ (δ1 := frR K (.d (.lst [eK K 34, eK K 35, eK K 36])))
      (de_frz (de_to (de_call (r := .ow (codeD 36)) (fd_code B T.E T.T.code) (hr.mono (by decide)) rfl (da_cons (de_ixL (xs := [eK K 34, eK K 35, eK K 36]) (z := eK K 36) (de_v 9) de_int rfl) da_nil) rfl ⟨36, _, by decide, rfl, rfl, rfl⟩) rfl)) (de_frz (de_lst (ds := []) da_nil rfl (le_sz (by simp))))) rfl)))
    case all =>
      refine de_lcM (X := LX P w K mg base f cdv A outer s H E) (f := fun _ => .bl true) (items := [eK K 34, eK K 35, eK K 36]) 10 rfl nl_nd (di_list (de_v 9)) (blk_by NL (defScope s_law) (by decide +kernel)) rfl rfl (fun _ _ _ _ _ => .inl rfl) (fun _ _ _ _ _ => .inr rfl) (fun s' H' C' cl' fp' x hx => ?_) (by show 3 < sizeLine; decide)
      have key : ∃ k, k < 37 ∧ x = eK K k := by
        simp only [List.mem_cons, List.not_mem_nil, or_false] at hx
        rcases hx with rfl | rfl | rfl
        · exact ⟨34, by decide, rfl⟩
        · exact ⟨35, by decide, rfl⟩
        · exact ⟨36, by decide, rfl⟩
      obtain ⟨k, hk, rfl⟩ := key
      exact de_call (r := .d (.bl true)) (fd_is_error B T.E T.T.ise) (hr.mono (by decide)) rfl (da_cons (de_v 10) da_nil) rfl ⟨k, _, hk, rfl, rfl, rfl⟩
  refine tr_cons (δ1 := frR K (.d (.lst [eK K 34, eK K 35]))) (tn_ds (pn := []) (fun _ _ _ g => g) (ds_set (x := .lst [eK K 34, eK K 35]) (i := 9) (δ1 := un11) nl_nd rfl (.inl rfl) (by simp) (de_frz (de_lst (ds := [eK K 34, eK K 35]) (da_cons (de_mkB b34.1 T.E.g34 b34.2 rfl) (da_cons (de_mkB b35.1 T.E.g35 b35.2 rfl) da_nil)) rfl (le_sz (by simp))))))
    (tr_cons (δ1 := frR K (.d (.lst [eK K 34, eK K 35]))) (tn_ds (pn := []) (fun _ _ _ g => g) (ds_ifF (δ1 := frR K (.d (.lst [eK K 34, eK K 35]))) (dt_ne (x := .lst two) (y := .lst two) hr two_sh two_sh (δ1 := frR K (.d (.lst [eK K 34, eK K 35]))) (de_frz (de_to
        (de_lc_ (own := [("error", 10)]) (δ1 := frR K (.d (.lst [eK K 34, eK K 35]))) (items := [eK K 34, eK K 35]) (X := LX P w K mg base f cdv A outer s H E) rfl nl_nd (di_list (de_v 9)) (blk_by NL (defScope s_law) (by decide +kernel))
          (fun _ => frR K (.d (.lst [eK K 34, eK K 35]))) (fun j => (frR K (.d (.lst [eK K 34, eK K 35]))).set 10 (.d (eK K (34 + j)))) (fun j => (frR K (.d (.lst [eK K 34, eK K 35]))).set 10 (.d (eK K (34 + j)))) (fun j => (frR K (.d (.lst [eK K 34, eK K 35]))).set 10 (.d (eK K (34 + j)))) (fun _ => true) (fun j => .lst [.int ((34 + j : Nat) : Int)]) rfl (fun j => rfl)
          (fun s' H' C' cl' fp' j x hx => ?t1) (fun s' H' C' cl' fp' j x hx => pts_yes) (fun s' H' C' cl' fp' j x hx _ => ?e1) (fun j _ => rfl) (by show 2 < sizeLine; decide) (fun v hv xs => ?o1) (δ' := frR K (.d (.lst [eK K 34, eK K 35]))) rfl) ?r1))
        (de_frz (de_lst (ds := two) (da_cons (de_frz (de_lst (ds := [.int 34]) (da_cons de_int da_nil) rfl (le_sz (by simp)))) (da_cons (de_frz (de_lst (ds := [.int 35]) (da_cons de_int da_nil) rfl (le_sz (by simp)))) da_nil)) rfl (le_sz (by simp [two])))) ?ne) rfl dss_nil))
      (tr_re (fun F H σ R => lend_rest R) (tr_ds (pn := []) (dss_cons hap (dss_frz 9 (xs := [eK K 34, eK K 35, eK K 36]) rfl (dss_one hret))))))
  case t1 =>
    obtain ⟨hj, rfl⟩ := two_get hx
    exact dg_name (X := Cx.blk (LX P w K mg base f cdv A outer s H E) s' H' _ _ fp') (i := 10) nl_nd rfl (.inl rfl) (fun z => by have := (mem_pnv.mp z).2; simp at this) (.inr rfl)
  case e1 =>
    obtain ⟨hj, rfl⟩ := two_get hx
    have ec : codeD (34 + j) = [.int ((34 + j : Nat) : Int)] := if_pos (by omega)
    exact de_frz (de_to (de_call (r := .ow (codeD (34 + j))) (fd_code B T.E T.T.code) (hr.mono (by decide)) rfl (da_cons (de_v 10) da_nil) rfl ⟨34 + j, _, by omega, rfl, rfl, rfl⟩) (by rw [ec]))
  case o1 =>
    have : v = 10 := by simpa using hv
    subst this
    exact fun h => nomatch (Option.some.inj h)
  case r1 => rfl
  case ne => rw [eqv_self _ two_sh.1]; rfl
theorem law_body (T : LawT P K mg) (hG : (LX P w K mg base f cdv A outer s H E).A.guards = some []) (hr : Room 10 (LX P w K mg base f cdv A outer s H E).A) {scr : List Int} :
    PSs (LX P w K mg base f cdv A outer s H E) (defBody s_law) (tR (ent [.pr (prS K scr)] 10)) := by
  show PSs (LX P w K mg base f cdv A outer s H E) [lawF, rS 1, rS 2, rS 3, rS 4] _
  refine tr_cons (δ1 := un11) (tn_for (i := 1) (m := 11) (xs := pz (purse0 scr 0)) (passes_of rfl) rfl nl_nd rfl (.inl rfl) (by decide) (de_call (r := .ow [.lst (pz (purse0 scr 0))]) (fd_purses T.Q) (hr.mono (by decide)) rfl (da_pr (de_vp 0) (da_cons de_int da_nil)) rfl ⟨scr, rfl, rfl, rfl⟩) rfl (fun F F' vs r => pz_any r) fun qq => ?_) (tail_ok T hG hr)
  exact turn T hG hr (purse0_ok (by decide) (by decide))
end
end N01
end
section
set_option Elab.async false
set_option linter.all false
set_option maxRecDepth 100000
set_option maxHeartbeats 4000000
namespace N01
open PySem PySem.Spec PyProof.Rows L2 DL Hd
abbrev PW : Program := PySem.Challenge.pw_owntrees_k01_errors_made
abbrev nmI (k : Nat) : Str := nm37.getD k ""
theorem cA_eq (K : PySem.W.Frag) (k : Nat) : cA K k = He.ga K (nmI k) := by unfold cA; rfl
theorem nm_mem {k : Nat} (h : k < 37) : nmI k ∈ nm37 := by
  have e : nm37.length = 37 := by decide +kernel
  unfold nmI
  rw [List.getD_eq_getElem?_getD, List.getElem?_eq_getElem (by omega)]
  exact List.getElem_mem _
theorem nm_mem36 {k : Nat} (h : k < 36) : nmI k ∈ nm36 := by
  have key : ∀ k < 36, nm37.getD k "" = nm36.getD k "" := by decide +kernel
  have e : nm36.length = 36 := by decide +kernel
  unfold nmI
  rw [key k h, List.getD_eq_getElem?_getD, List.getElem?_eq_getElem (by omega)]
  exact List.getElem_mem _
theorem nm_mem34 {k : Nat} (h : k < 34) : nmI k ∈ nm34 := by
  have key : ∀ k < 34, nm37.getD k "" = nm34.getD k "" := by decide +kernel
  have e : nm34.length = 34 := by decide +kernel
  unfold nmI
  rw [key k h, List.getD_eq_getElem?_getD, List.getElem?_eq_getElem (by omega)]
  exact List.getElem_mem _
theorem nm_bare {k : Nat} (h : 34 ≤ k) (h2 : k < 37) : nmI k ∈ nmB := by
  have key : ∀ k < 37, 34 ≤ k → nm37.getD k "" ∈ nmB := by decide +kernel
  exact key k h2 h
theorem defB_ok {K : PySem.W.Frag} {fI : Addr} (h : defB K fI = true) : DefNone K fI := by
  unfold defB at h
  split at h
  · rename_i oc od fd osl lk
    split at h
    · rename_i Td hd
      split at h
      · rename_i o lo
        split at h
        · rename_i its n ho
          split at h
          · rename_i e
            refine ⟨oc, od, fd, osl, Td, o, n, lk, hd, lo, ?_⟩
            rw [ho]
            congr 1
            exact Array.toList_inj.mp e
          · cases h
        · cases h
      · cases h
    · cases h
  · cases h
section
variable {w : World} {h : Heap} {K : PySem.W.Frag} {mg : Str → Option Value}
theorem gl_of (X : K.In h) (G : h.Ns mainGlobals mg) (c : He.SaysX fa9 fn [] tf ex2 w h K) {x : Str} (hx : He.Fa.glo x ∈ fa9) : mg x = some (.ref (He.ga K x)) := He.glo_ok X G (c.t.d.facts hx)
theorem fr_of (X : K.In h) (G : h.Ns mainGlobals mg) (c : He.SaysX fa9 fn [] tf ex2 w h K) {x : Str} (hx : He.Fa.free x ∈ fa9) : mg x = none := He.free_ok X G (c.t.d.facts hx)
theorem bn_of (X : K.In h) (G : h.Ns mainGlobals mg) (c : He.SaysX fa9 fn [] tf ex2 w h K) : Bn mg := by
  have F : ∀ {x : Str}, He.Fa.free x ∈ fa9 → mg x = none := fun hx => fr_of X G c hx
  constructor <;> exact F (by simp [fa9, fa, fa0, fa1, fa2])
theorem glo_nm {k : Nat} (h : k < 37) : He.Fa.glo (nmI k) ∈ fa9 := by
  have key : ∀ k < 37, (fa9.any fun f => match f with | .glo x => decide (x = nm37.getD k "") | _ => false) = true := by decide +kernel
  obtain ⟨f, hf, e⟩ := List.any_eq_true.mp (key k h)
  cases f with
  | glo x => have := of_decide_eq_true e; rw [show nmI k = x from this.symm]; exact hf
  | _ => cases e
structure More (K : PySem.W.Frag) : Prop where
  err : ∀ x ∈ nm34, DX.errC PW K x = true
  ch : ∀ x ∈ nm36, chB K x (.ref (He.ga K "CutError") :: PySem.DLX.veB) = true
  top : chB K "CutError" PySem.DLX.veB = true
  bare : ∀ x ∈ nmB, bareB K x = true
  sys : sysB K = true
  dfl : ∀ x ∈ nm34, defB K (DX.iniA K x) = true
theorem more_of {K : PySem.W.Frag} (h : ex2 K = true) : More K := by
  unfold ex2 at h
  simp only [Bool.and_eq_true, List.all_eq_true] at h
  obtain ⟨⟨⟨⟨⟨h1, h2⟩, h3⟩, h4⟩, h5⟩, h6⟩ := h
  exact ⟨h1, h2, h3, h4, h5, h6⟩
theorem errT_at {K : PySem.W.Frag} (M : More K) {k : Nat} (h : k < 34) : PySem.DLX.ErrT PW K (nmI k) (cA K k) (DX.iniA K (nmI k)) := by
  rw [cA_eq]
  exact DX.errC_ok (M.err _ (nm_mem34 h))
theorem er_at (X : K.In h) (G : h.Ns mainGlobals mg) (c : He.SaysX fa9 fn [] tf ex2 w h K) {k : Nat} (hk : k < 34) : Er PW K mg (nmI k) (cA K k) := by
  have M := more_of c.more
  refine ⟨⟨_, errT_at M hk, defB_ok (M.dfl _ (nm_mem34 hk))⟩, ?_, fr_of X G c (by simp [fa9, fa, fa0, fa1, fa2])⟩
  rw [cA_eq]
  exact gl_of X G c (glo_nm (by omega))
theorem g_at (X : K.In h) (G : h.Ns mainGlobals mg) (c : He.SaysX fa9 fn [] tf ex2 w h K) {k : Nat} (hk : k < 37) : mg (nmI k) = some (.ref (cA K k)) := by
  rw [cA_eq]
  exact gl_of X G c (glo_nm hk)
theorem bare_at {K : PySem.W.Frag} (M : More K) {k : Nat} (h1 : 34 ≤ k) (h2 : k < 37) : PySem.W.excIn K (cA K k) PySem.DLX.veB "ValueError.__new__" = true ∧ PySem.W.keepIn K (.ref (cA K k)) = true := by
  have b := M.bare _ (nm_bare h1 h2)
  rw [cA_eq]
  unfold bareB at b
  simp only [Bool.and_eq_true] at b
  exact ⟨b.1.1.1.1.1.1.1, b.1.1.1.1.1.1.2⟩
theorem ist_at [TL] {K : PySem.W.Frag} (M : More K) {k : Nat} (hk : k < 37) : IsT K (cA K k) := by
  by_cases z : k < 34
  · exact ErrT.isT (errT_at M z)
  · have T0 := ErrT.isT (errT_at M (k := 0) (by decide))
    have b := M.bare _ (nm_bare (by omega : 34 ≤ k) hk)
    rw [cA_eq]
    unfold bareB at b
    simp only [Bool.and_eq_true, decide_eq_true_eq] at b
    obtain ⟨⟨⟨⟨⟨⟨⟨b1, b2⟩, b3⟩, b4⟩, b5⟩, b6⟩, b7⟩, b8⟩ := b
    have e := @He.eqO_ok
    exact ⟨b5, by obtain ⟨cd, hcd, _⟩ := PySem.W.any_some b5; rw [hcd]; rfl, e b3, e b4, b6, e b7, T0.spC, T0.tkC, b8⟩
theorem chB_ok {K : PySem.W.Frag} {x : Str} {bm : List Value} (h : chB K x bm = true) : ∃ dd cd sl, K.lookup (He.ga K x) = some ⟨.type "type", dd, .cls cd, sl⟩ ∧ cd.name = x ∧ cd.mro = .ref (He.ga K x) :: bm := by
  unfold chB at h
  split at h
  · rename_i t dd cd sl ho
    simp only [Bool.and_eq_true] at h
    have h1 := eq_of_beq h.1.1
    subst h1
    exact ⟨dd, cd, sl, ho, eq_of_beq h.1.2, eq_of_beq h.2⟩
  · cases h
/-- what is known of the k-th class -/
theorem cls_at {K : PySem.W.Frag} (M : More K) {k : Nat} (hk : k < 37) : ∃ dd cd sl, K.lookup (cA K k) = some ⟨.type "type", dd, .cls cd, sl⟩ ∧ cd.name = nmI k ∧ cd.mro = .ref (cA K k) :: (if k < 36 then [.ref (cA K 36)] else []) ++ PySem.DLX.veB := by
  have e36 : nmI 36 = "CutError" := by decide +kernel
  rw [cA_eq, cA_eq, e36]
  by_cases z : k < 36
  · obtain ⟨dd, cd, sl, h1, h2, h3⟩ := chB_ok (M.ch _ (nm_mem36 z))
    exact ⟨dd, cd, sl, h1, h2, by rw [h3, if_pos z]; rfl⟩
  · have : k = 36 := by omega
    subst this
    rw [e36]
    obtain ⟨dd, cd, sl, h1, h2, h3⟩ := chB_ok M.top
    exact ⟨dd, cd, sl, h1, h2, by rw [h3]; rfl⟩
theorem nm_inj : ∀ k < 37, ∀ j < 37, nmI k = nmI j → k = j := by
  have key : ∀ k < 37, ∀ j < 37, decide (nmI k = nmI j) = decide (k = j) := by decide +kernel
  intro k hk j hj e
  have := key k hk j hj
  rw [decide_eq_true e] at this
  exact of_decide_eq_true this.symm
theorem cA_inj {K : PySem.W.Frag} (M : More K) {k j : Nat} (hk : k < 37) (hj : j < 37) (e : cA K k = cA K j) : k = j := by
  obtain ⟨_, cd, _, h1, h2, _⟩ := cls_at M hk
  obtain ⟨_, cd', _, h3, h4, _⟩ := cls_at M hj
  rw [e, h3] at h1
  cases h1
  exact nm_inj k hk j hj (h2.symm.trans h4)
theorem sub_at {K : PySem.W.Frag} (M : More K) {k : Nat} (hk : k < 37) (v : Value) : PySem.W.subIn K (.ref (cA K k)) v = some ((Value.ref (cA K k) :: ((if k < 36 then [.ref (cA K 36)] else []) ++ PySem.DLX.veB)).contains v) := by
  obtain ⟨_, cd, _, h1, _, h3⟩ := cls_at M hk
  have hc : PySem.W.clsIn K (cA K k) = some cd := by unfold PySem.W.clsIn; rw [h1] <;> rfl
  show PySem.W.mroIn K (cA K k) v = _
  unfold PySem.W.mroIn
  rw [hc, Option.bind_some, h3]
  rfl
theorem kitC_at {K : PySem.W.Frag} (M : More K) {k j : Nat} (hk : k < 37) (hj : j < 37) : PySem.W.kitCls K (.ref (cA K k)) (.ref (cA K j)) = PySem.W.subIn K (.ref (cA K k)) (.ref (cA K j)) := by
  obtain ⟨_, cd, _, h1, _, _⟩ := cls_at M hj
  have hc : PySem.W.clsIn K (cA K j) = some cd := by unfold PySem.W.clsIn; rw [h1] <;> rfl
  have ht : PySem.W.typeIn K (.ref (cA K j)) = some (.type "type") := by
    show (K.lookup (cA K j)).map (·.cls) = _
    rw [h1]
    rfl
  show (if ((PySem.W.clsIn K (cA K j)).isSome && PySem.W.typeIn K (.ref (cA K j)) == some (.type "type")) = true then PySem.W.subIn K (.ref (cA K k)) (.ref (cA K j)) else none) = _
  rw [hc, ht, if_pos (by simp)]
theorem ve_noref (a : Addr) : PySem.DLX.veB.contains (.ref a) = false := by
  simp [PySem.DLX.veB]
theorem kit_at {K : PySem.W.Frag} (M : More K) {k j : Nat} (hk : k < 37) (hj : j < 36) : PySem.W.kitOne K (.ref (cA K k)) (.ref (cA K j)) = some (decide (k = j)) := by
  by_cases e : k = j
  · subst e
    unfold PySem.W.kitOne
    rw [if_pos (by simp), decide_eq_true rfl]
  · have n1 : cA K k ≠ cA K j := fun z => e (cA_inj M hk (by omega) z)
    have n2 : cA K 36 ≠ cA K j := fun z => by have := cA_inj M (by omega) (by omega) z; omega
    unfold PySem.W.kitOne
    rw [if_neg (by simpa using n1), kitC_at M hk (by omega), sub_at M hk, decide_eq_false e]
    congr 1
    have v := ve_noref (cA K j)
    rw [List.contains_cons, show ((Value.ref (cA K j)) == .ref (cA K k)) = false by simpa using Ne.symm n1, Bool.false_or]
    split
    · show (Value.ref (cA K 36) :: PySem.DLX.veB).contains _ = false
      rw [List.contains_cons, v, show ((Value.ref (cA K j)) == .ref (cA K 36)) = false by simpa using Ne.symm n2]
      rfl
    · exact v
theorem up_at {K : PySem.W.Frag} (M : More K) {k : Nat} (hk : k < 37) : PySem.W.kitOne K (.ref (cA K k)) (.ref (cA K 36)) = some true ∧ PySem.W.kitOne K (.ref (cA K k)) (.type "ValueError") = some true := by
  refine ⟨?_, ?_⟩
  · by_cases e : k = 36
    · subst e
      unfold PySem.W.kitOne
      rw [if_pos (by simp)]
    · have n1 : cA K k ≠ cA K 36 := fun z => e (cA_inj M hk (by omega) z)
      unfold PySem.W.kitOne
      rw [if_neg (by simpa using n1), kitC_at M hk (by omega), sub_at M hk, if_pos (by omega)]
      simp
  · unfold PySem.W.kitOne
    rw [if_neg (by simp)]
    show (if PySem.W.kitMeta "ValueError" = true then PySem.W.subIn K (.ref (cA K k)) (.type "ValueError") else none) = _
    rw [if_pos (by decide +kernel), sub_at M hk]
    congr 1
    split <;> simp [PySem.DLX.veB]
theorem nm_0 : nmI 0 = "InvalidText" := by decide +kernel
theorem nm_1 : nmI 1 = "InvalidWord" := by decide +kernel
theorem nm_2 : nmI 2 = "InvalidNumber" := by decide +kernel
theorem nm_3 : nmI 3 = "InvalidSigns" := by decide +kernel
theorem nm_4 : nmI 4 = "InvalidGap" := by decide +kernel
theorem nm_5 : nmI 5 = "InvalidGround" := by decide +kernel
theorem nm_6 : nmI 6 = "InvalidWindow" := by decide +kernel
theorem nm_7 : nmI 7 = "InvalidOrder" := by decide +kernel
theorem nm_8 : nmI 8 = "InvalidRounds" := by decide +kernel
theorem nm_9 : nmI 9 = "InvalidSets" := by decide +kernel
theorem nm_10 : nmI 10 = "InvalidPlace" := by decide +kernel
theorem nm_11 : nmI 11 = "InvalidCuts" := by decide +kernel
theorem nm_12 : nmI 12 = "InvalidPieces" := by decide +kernel
theorem nm_13 : nmI 13 = "InvalidTold" := by decide +kernel
theorem nm_14 : nmI 14 = "InvalidRule" := by decide +kernel
theorem nm_15 : nmI 15 = "InvalidRing" := by decide +kernel
theorem nm_16 : nmI 16 = "InvalidView" := by decide +kernel
theorem nm_17 : nmI 17 = "InvalidTwin" := by decide +kernel
theorem nm_18 : nmI 18 = "InvalidEdit" := by decide +kernel
theorem nm_19 : nmI 19 = "InvalidName" := by decide +kernel
theorem nm_20 : nmI 20 = "InvalidHistory" := by decide +kernel
theorem nm_21 : nmI 21 = "InvalidStore" := by decide +kernel
theorem nm_22 : nmI 22 = "InvalidParcel" := by decide +kernel
theorem nm_23 : nmI 23 = "InvalidDesk" := by decide +kernel
theorem nm_24 : nmI 24 = "InvalidRecord" := by decide +kernel
theorem nm_25 : nmI 25 = "InvalidScript" := by decide +kernel
theorem nm_26 : nmI 26 = "InvalidPaper" := by decide +kernel
theorem nm_27 : nmI 27 = "Refused" := by decide +kernel
theorem nm_28 : nmI 28 = "InvalidLine" := by decide +kernel
theorem nm_29 : nmI 29 = "InvalidNode" := by decide +kernel
theorem nm_30 : nmI 30 = "InvalidNodes" := by decide +kernel
theorem nm_31 : nmI 31 = "InvalidTree" := by decide +kernel
theorem nm_32 : nmI 32 = "InvalidShelf" := by decide +kernel
theorem nm_33 : nmI 33 = "InvalidBundle" := by decide +kernel
theorem nm_34 : nmI 34 = "NothingToUndo" := by decide +kernel
theorem nm_35 : nmI 35 = "NothingToRedo" := by decide +kernel
theorem nm_36 : nmI 36 = "CutError" := by decide +kernel
theorem ers_of [TL] (X : K.In h) (G : h.Ns mainGlobals mg) (c : He.SaysX fa9 fn [] tf ex2 w h K) : ErsT PW K mg := by
  have M := more_of c.more
  exact {
    ist := fun k hk => ist_at M hk
    kit := fun k j hk hj => kit_at M hk hj
    up := fun k hk => (up_at M hk).1
    upV := fun k hk => (up_at M hk).2
    ve := fr_of X G c (by simp [fa9, fa, fa0, fa1, fa2])
    era := fun j hj => ⟨_, er_at X G c hj⟩
    er0 := by rw [← nm_0]; exact er_at X G c (by decide)
    er1 := by rw [← nm_1]; exact er_at X G c (by decide)
    er2 := by rw [← nm_2]; exact er_at X G c (by decide)
    er3 := by rw [← nm_3]; exact er_at X G c (by decide)
    er4 := by rw [← nm_4]; exact er_at X G c (by decide)
    er5 := by rw [← nm_5]; exact er_at X G c (by decide)
    er6 := by rw [← nm_6]; exact er_at X G c (by decide)
    er7 := by rw [← nm_7]; exact er_at X G c (by decide)
    er8 := by rw [← nm_8]; exact er_at X G c (by decide)
    er9 := by rw [← nm_9]; exact er_at X G c (by decide)
    er10 := by rw [← nm_10]; exact er_at X G c (by decide)
    er11 := by rw [← nm_11]; exact er_at X G c (by decide)
    er12 := by rw [← nm_12]; exact er_at X G c (by decide)
    er13 := by rw [← nm_13]; exact er_at X G c (by decide)
    er14 := by rw [← nm_14]; exact er_at X G c (by decide)
    er15 := by rw [← nm_15]; exact er_at X G c (by decide)
    er16 := by rw [← nm_16]; exact er_at X G c (by decide)
    er17 := by rw [← nm_17]; exact er_at X G c (by decide)
    er18 := by rw [← nm_18]; exact er_at X G c (by decide)
    er19 := by rw [← nm_19]; exact er_at X G c (by decide)
    er20 := by rw [← nm_20]; exact er_at X G c (by decide)
    er21 := by rw [← nm_21]; exact er_at X G c (by decide)
    er22 := by rw [← nm_22]; exact er_at X G c (by decide)
    er23 := by rw [← nm_23]; exact er_at X G c (by decide)
    er24 := by rw [← nm_24]; exact er_at X G c (by decide)
    er25 := by rw [← nm_25]; exact er_at X G c (by decide)
    er26 := by rw [← nm_26]; exact er_at X G c (by decide)
    er27 := by rw [← nm_27]; exact er_at X G c (by decide)
    er28 := by rw [← nm_28]; exact er_at X G c (by decide)
    er29 := by rw [← nm_29]; exact er_at X G c (by decide)
    er30 := by rw [← nm_30]; exact er_at X G c (by decide)
    er31 := by rw [← nm_31]; exact er_at X G c (by decide)
    er32 := by rw [← nm_32]; exact er_at X G c (by decide)
    er33 := by rw [← nm_33]; exact er_at X G c (by decide)
    g0 := by rw [← nm_0]; exact g_at X G c (by decide)
    g1 := by rw [← nm_1]; exact g_at X G c (by decide)
    g2 := by rw [← nm_2]; exact g_at X G c (by decide)
    g3 := by rw [← nm_3]; exact g_at X G c (by decide)
    g4 := by rw [← nm_4]; exact g_at X G c (by decide)
    g5 := by rw [← nm_5]; exact g_at X G c (by decide)
    g6 := by rw [← nm_6]; exact g_at X G c (by decide)
    g7 := by rw [← nm_7]; exact g_at X G c (by decide)
    g8 := by rw [← nm_8]; exact g_at X G c (by decide)
    g9 := by rw [← nm_9]; exact g_at X G c (by decide)
    g10 := by rw [← nm_10]; exact g_at X G c (by decide)
    g11 := by rw [← nm_11]; exact g_at X G c (by decide)
    g12 := by rw [← nm_12]; exact g_at X G c (by decide)
    g13 := by rw [← nm_13]; exact g_at X G c (by decide)
    g14 := by rw [← nm_14]; exact g_at X G c (by decide)
    g15 := by rw [← nm_15]; exact g_at X G c (by decide)
    g16 := by rw [← nm_16]; exact g_at X G c (by decide)
    g17 := by rw [← nm_17]; exact g_at X G c (by decide)
    g18 := by rw [← nm_18]; exact g_at X G c (by decide)
    g19 := by rw [← nm_19]; exact g_at X G c (by decide)
    g20 := by rw [← nm_20]; exact g_at X G c (by decide)
    g21 := by rw [← nm_21]; exact g_at X G c (by decide)
    g22 := by rw [← nm_22]; exact g_at X G c (by decide)
    g23 := by rw [← nm_23]; exact g_at X G c (by decide)
    g24 := by rw [← nm_24]; exact g_at X G c (by decide)
    g25 := by rw [← nm_25]; exact g_at X G c (by decide)
    g26 := by rw [← nm_26]; exact g_at X G c (by decide)
    g27 := by rw [← nm_27]; exact g_at X G c (by decide)
    g28 := by rw [← nm_28]; exact g_at X G c (by decide)
    g29 := by rw [← nm_29]; exact g_at X G c (by decide)
    g30 := by rw [← nm_30]; exact g_at X G c (by decide)
    g31 := by rw [← nm_31]; exact g_at X G c (by decide)
    g32 := by rw [← nm_32]; exact g_at X G c (by decide)
    g33 := by rw [← nm_33]; exact g_at X G c (by decide)
    g34 := by rw [← nm_34]; exact g_at X G c (by decide)
    g35 := by rw [← nm_35]; exact g_at X G c (by decide)
    g36 := by rw [← nm_36]; exact g_at X G c (by decide)
  }
theorem lawT_of [TL] (X : K.In h) (G : h.Ns mainGlobals mg) (c : He.SaysX fa9 fn [] tf ex2 w h K) : LawT PW K mg := by
  have M := more_of c.more
  have g : ∀ {x : Str}, He.Fa.glo x ∈ fa9 → mg x = some (.ref (He.ga K x)) := fun hx => gl_of X G c hx
  refine ⟨bn_of X G c, ers_of X G c, ⟨bn_of X G c, ?_, ?_, ?_, ?_, ?_, ?_⟩, ⟨?_, ?_, ?_, ?_, ?_, ?_⟩, ?_, fun k h1 h2 => bare_at M h1 h2⟩
  · obtain ⟨fd, F⟩ := c.t.d.def_ 0 (d := d__law_mixed) rfl; exact ⟨_, fd, F, g (by simp [fa9, fa, fa0, fa1, fa2])⟩
  · obtain ⟨fd, F⟩ := c.t.d.def_ 1 (d := d__law_draw) rfl; exact ⟨_, fd, F, g (by simp [fa9, fa, fa0, fa1, fa2])⟩
  · obtain ⟨fd, F⟩ := c.t.d.def_ 2 (d := d__law_one_of) rfl; exact ⟨_, fd, F, g (by simp [fa9, fa, fa0, fa1, fa2])⟩
  · obtain ⟨fd, F⟩ := c.t.d.def_ 3 (d := d__law_word) rfl; exact ⟨_, fd, F, g (by simp [fa9, fa, fa0, fa1, fa2])⟩
  · obtain ⟨fd, F⟩ := c.t.d.def_ 4 (d := d__law_purse) rfl; exact ⟨_, fd, F, g (by simp [fa9, fa, fa0, fa1, fa2])⟩
  · obtain ⟨fd, F⟩ := c.t.d.def_ 5 (d := d__law_purses) rfl; exact ⟨_, fd, F, g (by simp [fa9, fa, fa0, fa1, fa2])⟩
  · obtain ⟨fd, F⟩ := c.t.d.def_ 6 (d := d__law_first) rfl; exact ⟨_, fd, F, g (by simp [fa9, fa, fa0, fa1, fa2])⟩
  · obtain ⟨fd, F⟩ := c.t.d.def_ 7 (d := d__law_called) rfl; exact ⟨_, fd, F, g (by simp [fa9, fa, fa0, fa1, fa2])⟩
  · obtain ⟨fd, F⟩ := c.t.d.def_ 8 (d := d__law_bare) rfl; exact ⟨_, fd, F, g (by simp [fa9, fa, fa0, fa1, fa2])⟩
  · obtain ⟨fd, F⟩ := c.t.d.def_ 9 (d := d__law_code) rfl; exact ⟨_, fd, F, g (by simp [fa9, fa, fa0, fa1, fa2])⟩
  · obtain ⟨fd, F⟩ := c.t.d.def_ 10 (d := d__law_is_error) rfl; exact ⟨_, fd, F, g (by simp [fa9, fa, fa0, fa1, fa2])⟩
  · obtain ⟨fd, F⟩ := c.t.d.def_ 11 (d := d__law_right) rfl; exact ⟨_, fd, F, g (by simp [fa9, fa, fa0, fa1, fa2])⟩
  · have b := M.sys
    unfold sysB at b
    split at b
    · rename_i o ho
      exact ⟨o, ho, eq_of_beq b⟩
    · cases b
end
end N01
end
set_option Elab.async false
set_option linter.all false
set_option maxRecDepth 100000
set_option maxHeartbeats 4000000
namespace N01
open PySem PySem.Spec PyProof.Rows L2 DL Hd
/-- the heap without its tables -/
def noTb (H : Hp) : Hp := fun b => match H b with
  | some (.tbl _) => none
  | o => o
theorem noTb_of {H : Hp} {b : Addr} {o : HO} (h : H b = some o) (n : ∀ ps, o ≠ .tbl ps) : noTb H b = some o := by
  unfold noTb
  rw [h]
  cases o <;> first | rfl | exact absurd rfl (n _)
theorem noTb_sub {H : Hp} : Ex (noTb H) H := fun b o h => by
  unfold noTb at h
  split at h
  · cases h
  · exact h
theorem noTb_nt {H : Hp} : ∀ a ps, noTb H a ≠ some (.tbl ps) := fun a ps h => by
  unfold noTb at h
  split at h
  · cases h
  · rename_i n; exact n ps h
theorem sql_noTb {K : PySem.W.Frag} {H F : Hp} {a : Addr} {xs : List V} (h : SqL K H a xs) (e : Ex (noTb H) F) : SqL K F a xs := by
  rcases h with (h | ⟨o, h⟩) | h
  · exact .inl (.inl (e _ _ (noTb_of h fun _ z => nomatch z)))
  · exact .inl (.inr ⟨o, e _ _ (noTb_of h fun _ z => nomatch z)⟩)
  · exact .inr h
section
variable {w : World} {h : Heap} {K : PySem.W.Frag} {mg : Str → Option Value}
theorem rs_start [TL] {H : Hp} {a : Addr} {ns : List Int} (ht : TL.T = []) (S : SqL K H a (ns.map V.int)) : Rs (noTb H) H ([V.ref a].map some) [.pr (prS K ns)] := by
  refine ⟨noTb_sub, rfl, fun i x hx => ?_, fun i j xs ys o _ h1 => ?_, fun p hp => ?_, noTb_nt⟩
  · match i, hx with
    | 0, hx => cases hx; exact ⟨_, rfl, _, rfl, fun F' e => ⟨a, rfl, sql_noTb S e⟩⟩
    | i + 1, hx => cases hx
  · match i, h1 with
    | 0, h1 => cases h1
    | i + 1, h1 => cases h1
  · rw [ht] at hp
    cases hp
theorem room_law : Room 11 callerA := ⟨rfl, by decide +kernel, by decide +kernel⟩
theorem law_F (hT : ∀ [TL], LawT PW K mg) {fa' : Addr} {fd : FuncData} (F : FunD K "law" "law" (defArgs s_law) (defBody s_law) (defScope s_law) [] [] fa' fd) {ns : List Int} {s₁ : Shared} {base : Heap} {H : Hp} {a : Addr}
    (e0 : Env0 PW w K mg base callerA [] s₁ H) (S : SqL K H a (ns.map V.int)) :
    codeAny (model PW w) callerA (.call (.ref fa') ⟨[.ref a], []⟩) (CR (L2.CX PW w) [] PW w H s₁ (fun v _ => v = .bl true) fun _ _ _ => False) s₁ := by
  letI : TL := ⟨[]⟩
  have b := FunD.bindsA (ps := ["script"]) F fun _ _ _ _ _ _ us hl => match us, hl with | [_], _ => rfl
  refine fn_at (k := 10) (vs := [.ref a]) (us := [.ref a]) F sc_law room_law e0 (b s₁ [.ref a] rfl) (.cons rfl .nil) rfl ?_
  intro cdv hcd hfd hr'
  have B := law_body (P := PW) (w := w) (base := base) (f := fa') (cdv := cdv) (A := callerA) (outer := []) (s := s₁) (H := H) (E := fun _ _ _ => False) hT rfl hr' (scr := ns)
  exact ⟨_, B, noTb H, (rs_start rfl S).enter rfl, fun H' => rfl⟩
theorem hmg_of {mg : Str → Option Value} {fa : Addr} (hmg : mg (HandSHeadRun.topDef R.prog 51).name = some (.ref fa)) : mg ("law" : Str) = some (.ref fa) := by
  have e : (HandSHeadRun.topDef R.prog 51).name = ("law" : Str) := by kernel_rfl
  rw [← e]
  exact hmg
end
end N01
open PySem PySem.W PySem.Calls PyProof.Rows
set_option maxHeartbeats 0 in
theorem PySem.Challenge.cw_owntrees_k01_errors_made_holds : PySem.Challenge.rw_owntrees_k01_errors_made.Holds := by
  w_on; o_law
  refine HandSHeadRun.head_any (r := OpenLaw.row PySem.Challenge.rw_owntrees_k01_errors_made) (q := view (OpenLaw.row PySem.Challenge.rw_owntrees_k01_errors_made).prog [51]) (H := Hd.hk2) (ob := Hd.ob2) (M := 100000) (loose := Hd.loose) (d := HandSHeadRun.topDef (OpenLaw.row PySem.Challenge.rw_owntrees_k01_errors_made).prog 51) (kwd := []) Hd.ob2_eq
    (by kernel_rfl) (fun s => by kernel_rfl) Hd.run2 (by kernel_rfl) (by kernel_rfl) (by kernel_rfl) (by rfl) (by first | assumption | decide +kernel) (by decide +kernel) ⟨rfl, rfl, rfl, rfl, rfl, by decide +kernel⟩ ?hw ?hc
  case hw => w_witness2
  case hc =>
    refine Att.attach_callB (n := 63) rfl (by kernel_rfl) fun w s₀ s₁ mg mb fa o pm cd doc a vs ns G Y ho hd hcd hmg hobj hints hlen hbits hg => ?_
    obtain ⟨K, KX, c⟩ := Y
    have hmg := N01.hmg_of hmg
    have T : ∀ [DL.TL], N01.LawT N01.PW K mg := N01.lawT_of KX G.T.g c
    obtain ⟨fd, F⟩ := c.t.d.def_ 12 (d := Hd.d_law) rfl
    have e : fa = He.fAd K ("law", none) := by
      have h1 := N01.gl_of KX G.T.g c (x := "law") (by simp [Hd.fa9, Hd.fa, Hd.fa0, Hd.fa1, Hd.fa2])
      exact Value.ref.inj (Option.some.inj (hmg.symm.trans h1))
    subst e
    refine DL.law_at (cs := []) KX G.T.g G.T.b G.T.builtins G.T.nolimit hg (fun p hp => nomatch hp) (fun p hp => nomatch hp) (fun p hp => nomatch hp) G.T.bmain hobj hints (Nat.le_trans hlen (by decide)) (fun base H _ _ TB e0 HT S => N01.law_F T F e0 S) (fun H e s' z => ?_)
    obtain ⟨_, _, _, _, _, _, _, _, _, _, _, _, z⟩ := z
    exact z
