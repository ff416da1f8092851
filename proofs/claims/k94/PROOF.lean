import PyProof.Rows.All
import Wide.All
import OpenK.AllK
import Wide.FinOn
import KE.KStateDown
import KE.KExcSuper
import HandS.ForMost
import HandS.Defaults
import HandS.Head0
import HandS.Head1
import HandS.Head2
import HandS.HeadEnd
import HandS.HeadHook1
import HandS.HeadHook2
import HandS.HeadHook3
import HandS.HeadHook4
import HandS.HeadWalk
import HandS.ForExc
import HandS.IsInst
import HandS.Flow
import HandS.ExcInit
import HandS.Wide
import HandS.Lambda
import HandS.WideBits
import HandS.Star
import HandS.Text
import HandS.Walk
import HandS.Exc
import HandS.Comp
import HandS.WordsExc
import KE.KSuper
import HandS.ExcField
import HandS.ExcIs
import KE.KExcIs
import HandS.TryOnly
import PyProof.ReprRoads
import PyProof.ReprLen
import HandS.Style
import HandS.Zip
import HandS.TupAny
import HandS.EndTab
import PyProof.ListStr
import HandS.Conv
import PyProof.Rows.StrSigns2
import KE.IntTextLaws
import KE.DataCmp
import PyProof.StrBlock2
import PySem.Challenge.RW_owntrees_k94_whole_texts_of_nodes
section
set_option Elab.async false
set_option linter.all false
set_option maxRecDepth 100000
set_option maxHeartbeats 0
namespace DX
open PySem PySem.Spec PyProof.Rows L2
/-- what is looked at of an error class of the text -/
def iniOf (K : PySem.W.Frag) (x : Str) : Addr := He.ma K (He.ga K x) "__init__"
def cloOf (K : PySem.W.Frag) (x : Str) : Addr := match K.lookup (iniOf K x) with
  | some ⟨_, _, .func fd, _⟩ => (match fd.closure with
    | [(_, c)] => c
    | _ => 0)
  | _ => 0
def cellB (K : PySem.W.Frag) (c C : Addr) : Bool := match K.lookup c with
  | some ⟨_, _, .cell (some v), _⟩ => v == .ref C
  | _ => false
def errB (K : PySem.W.Frag) (x : Str) : Bool :=
  PySem.W.excInitIn K (He.ga K x) He.veBase "ValueError.__new__" && PySem.W.hasDictIn K (He.ga K x)
    && He.eqO (PySem.W.findIn K (.ref (He.ga K x)) "__setattr__") (some (some (.builtin "object.__setattr__")))
    && decide (PySem.W.subIn K (.ref (He.ga K x)) (.type "BaseException") = some true)
    && decide (PySem.W.typeIn K (.ref (He.ga K x)) = some (.type "type")) && PySem.W.keepIn K (.ref (He.ga K x))
    && He.eqO (PySem.W.findIn K (.ref (He.ga K x)) "__init__") (some (some (.ref (iniOf K x))))
    && decide (PySem.W.typeIn K (.ref (iniOf K x)) = some (.type "function"))
    && cellB K (cloOf K x) (He.ga K x)
    && He.eqO (PySem.W.ks_superIn K (He.ga K x) (He.ga K x) "__init__") (some (some (.builtin "ValueError.__init__")))
    && He.eqO (PySem.W.findIn K (.ref (He.ga K x)) "value") (some none)
    && He.eqO (PySem.W.findIn K (.ref (He.ga K x)) "__getattribute__") (some (some (.builtin "BaseException.__getattribute__")))
    && He.eqO (PySem.W.findIn K (.ref (He.ga K x)) "__getattr__") (some none)
    && He.eqO (PySem.W.findIn K (.ref (He.ga K x)) "__class__") (some (some (.builtin "object.__class__")))
end DX
namespace Hd
open PySem PySem.Spec PyProof.Rows L2
def top (i : Nat) : Stmt := PySem.Challenge.pw_owntrees_k94_whole_texts_of_nodes.main.body.getD i (.Pass ⟨0, 0, 0, 0⟩)
abbrev s_is_whole : Stmt := top 5
def d_is_whole : He.DefD := ⟨("is_whole", none), "is_whole", "is_whole", defArgs s_is_whole, defBody s_is_whole, defScope s_is_whole, [], []⟩
abbrev s_is_count : Stmt := top 6
def d_is_count : He.DefD := ⟨("is_count", none), "is_count", "is_count", defArgs s_is_count, defBody s_is_count, defScope s_is_count, [.non], []⟩
abbrev s_is_text : Stmt := top 7
def d_is_text : He.DefD := ⟨("is_text", none), "is_text", "is_text", defArgs s_is_text, defBody s_is_text, defScope s_is_text, [], []⟩
abbrev s_is_word : Stmt := top 8
def d_is_word : He.DefD := ⟨("is_word", none), "is_word", "is_word", defArgs s_is_word, defBody s_is_word, defScope s_is_word, [], []⟩
abbrev s_is_again : Stmt := top 10
def d_is_again : He.DefD := ⟨("is_again", none), "is_again", "is_again", defArgs s_is_again, defBody s_is_again, defScope s_is_again, [], []⟩
abbrev s_is_single : Stmt := top 11
def d_is_single : He.DefD := ⟨("is_single", none), "is_single", "is_single", defArgs s_is_single, defBody s_is_single, defScope s_is_single, [], []⟩
abbrev s_is_group : Stmt := top 12
def d_is_group : He.DefD := ⟨("is_group", none), "is_group", "is_group", defArgs s_is_group, defBody s_is_group, defScope s_is_group, [], []⟩
abbrev s_is_node : Stmt := top 13
def d_is_node : He.DefD := ⟨("is_node", none), "is_node", "is_node", defArgs s_is_node, defBody s_is_node, defScope s_is_node, [], []⟩
abbrev s_check_node : Stmt := top 14
def d_check_node : He.DefD := ⟨("check_node", none), "check_node", "check_node", defArgs s_check_node, defBody s_check_node, defScope s_check_node, [], []⟩
abbrev s_bare : Stmt := top 15
def d_bare : He.DefD := ⟨("bare", none), "bare", "bare", defArgs s_bare, defBody s_bare, defScope s_bare, [], []⟩
abbrev s_code_in : Stmt := top 16
def d_code_in : He.DefD := ⟨("code_in", none), "code_in", "code_in", defArgs s_code_in, defBody s_code_in, defScope s_code_in, [], []⟩
abbrev s_node_text : Stmt := top 20
def d_node_text : He.DefD := ⟨("node_text", none), "node_text", "node_text", defArgs s_node_text, defBody s_node_text, defScope s_node_text, [], []⟩
abbrev s_word_at : Stmt := top 21
def d_word_at : He.DefD := ⟨("word_at", none), "word_at", "word_at", defArgs s_word_at, defBody s_word_at, defScope s_word_at, [], []⟩
abbrev s_node_at : Stmt := top 22
def d_node_at : He.DefD := ⟨("node_at", none), "node_at", "node_at", defArgs s_node_at, defBody s_node_at, defScope s_node_at, [], []⟩
abbrev s_group_at : Stmt := top 23
def d_group_at : He.DefD := ⟨("group_at", none), "group_at", "group_at", defArgs s_group_at, defBody s_group_at, defScope s_group_at, [], []⟩
abbrev s_read_node : Stmt := top 24
def d_read_node : He.DefD := ⟨("read_node", none), "read_node", "read_node", defArgs s_read_node, defBody s_read_node, defScope s_read_node, [], []⟩
abbrev s__law_purse : Stmt := top 26
def d__law_purse : He.DefD := ⟨("_law_purse", none), "_law_purse", "_law_purse", defArgs s__law_purse, defBody s__law_purse, defScope s__law_purse, [], []⟩
abbrev s__law_mixed : Stmt := top 27
def d__law_mixed : He.DefD := ⟨("_law_mixed", none), "_law_mixed", "_law_mixed", defArgs s__law_mixed, defBody s__law_mixed, defScope s__law_mixed, [], []⟩
abbrev s__law_draw : Stmt := top 28
def d__law_draw : He.DefD := ⟨("_law_draw", none), "_law_draw", "_law_draw", defArgs s__law_draw, defBody s__law_draw, defScope s__law_draw, [], []⟩
abbrev s__law_one_of : Stmt := top 29
def d__law_one_of : He.DefD := ⟨("_law_one_of", none), "_law_one_of", "_law_one_of", defArgs s__law_one_of, defBody s__law_one_of, defScope s__law_one_of, [], []⟩
abbrev s__law_exact : Stmt := top 30
def d__law_exact : He.DefD := ⟨("_law_exact", none), "_law_exact", "_law_exact", defArgs s__law_exact, defBody s__law_exact, defScope s__law_exact, [], []⟩
abbrev s__law_code : Stmt := top 31
def d__law_code : He.DefD := ⟨("_law_code", none), "_law_code", "_law_code", defArgs s__law_code, defBody s__law_code, defScope s__law_code, [], []⟩
abbrev s__law_word : Stmt := top 32
def d__law_word : He.DefD := ⟨("_law_word", none), "_law_word", "_law_word", defArgs s__law_word, defBody s__law_word, defScope s__law_word, [], []⟩
abbrev s__law_pool : Stmt := top 33
def d__law_pool : He.DefD := ⟨("_law_pool", none), "_law_pool", "_law_pool", defArgs s__law_pool, defBody s__law_pool, defScope s__law_pool, [], []⟩
abbrev s__law_bare : Stmt := top 34
def d__law_bare : He.DefD := ⟨("_law_bare", none), "_law_bare", "_law_bare", defArgs s__law_bare, defBody s__law_bare, defScope s__law_bare, [], []⟩
abbrev s__law_made : Stmt := top 35
def d__law_made : He.DefD := ⟨("_law_made", none), "_law_made", "_law_made", defArgs s__law_made, defBody s__law_made, defScope s__law_made, [], []⟩
abbrev s__law_read : Stmt := top 36
def d__law_read : He.DefD := ⟨("_law_read", none), "_law_read", "_law_read", defArgs s__law_read, defBody s__law_read, defScope s__law_read, [], []⟩
abbrev s__law_text_right : Stmt := top 37
def d__law_text_right : He.DefD := ⟨("_law_text_right", none), "_law_text_right", "_law_text_right", defArgs s__law_text_right, defBody s__law_text_right, defScope s__law_text_right, [], []⟩
abbrev s__law_is_sound : Stmt := top 38
def d__law_is_sound : He.DefD := ⟨("_law_is_sound", none), "_law_is_sound", "_law_is_sound", defArgs s__law_is_sound, defBody s__law_is_sound, defScope s__law_is_sound, [], []⟩
abbrev s__law_bent : Stmt := top 39
def d__law_bent : He.DefD := ⟨("_law_bent", none), "_law_bent", "_law_bent", defArgs s__law_bent, defBody s__law_bent, defScope s__law_bent, [], []⟩
abbrev s_law : Stmt := top 40
def d_law : He.DefD := ⟨("law", none), "law", "law", defArgs s_law, defBody s_law, defScope s_law, [], []⟩
def fn0 : List He.DefD := [d_is_whole, d_is_count, d_is_text, d_is_word, d_is_again, d_is_single, d_is_group, d_is_node, d_check_node, d_bare, d_code_in, d_node_text, d_word_at, d_node_at, d_group_at, d_read_node, d__law_purse, d__law_mixed, d__law_draw, d__law_one_of, d__law_exact, d__law_code, d__law_word, d__law_pool, d__law_bare, d__law_made, d__law_read, d__law_text_right, d__law_is_sound, d__law_bent]
def fn1 : List He.DefD := [d_law]
def fn : List He.DefD := fn0 ++ fn1
def fa0 : List He.Fa := [.glo "is_whole", .glo "is_count", .glo "is_text", .glo "is_word", .glo "is_again", .glo "is_single", .glo "is_group", .glo "is_node", .glo "check_node", .glo "bare", .glo "code_in", .glo "node_text", .glo "word_at", .glo "node_at", .glo "group_at", .glo "read_node", .glo "_law_purse", .glo "_law_mixed", .glo "_law_draw", .glo "_law_one_of", .glo "_law_exact", .glo "_law_code", .glo "_law_word", .glo "_law_pool", .glo "_law_bare", .glo "_law_made", .glo "_law_read", .glo "_law_text_right", .glo "_law_is_sound", .glo "_law_bent"]
def fa1 : List He.Fa := [.glo "law", .glo "CutError", .glo "InvalidPaper", .glo "InvalidNode", .free "ValueError", .free "all", .free "bool", .free "dict", .free "int", .free "isinstance", .free "len", .free "list", .free "max", .free "min", .free "range", .free "repr", .free "str", .free "sum", .free "super", .free "tuple", .free "zip", .str "FIGURES" "0123456789", .str "LETTERS" "abcdefghijklmnopqrstuvwxyz"]
def fa : List He.Fa := fa0 ++ fa1
def loose0 : List PySem.Str := ["CutError", "InvalidPaper", "InvalidNode", "is_whole", "is_count", "is_text", "is_word", "is_again", "is_single", "is_group", "is_node", "check_node", "bare", "code_in", "FIGURES", "LETTERS", "node_text", "word_at", "node_at", "group_at", "read_node", "_law_purse", "_law_mixed", "_law_draw", "_law_one_of", "_law_exact", "_law_code", "_law_word", "_law_pool", "_law_bare"]
def loose1 : List PySem.Str := ["_law_made", "_law_read", "_law_text_right", "_law_is_sound", "_law_bent"]
def loose : List PySem.Str := loose0 ++ loose1
def tf : List He.Defn := []
abbrev R : PySem.W.OpenRow := PySem.W.OpenLaw.row PySem.Challenge.rw_owntrees_k94_whole_texts_of_nodes
def errs0 : List PySem.Str := ["InvalidPaper", "InvalidNode"]
def errs : List PySem.Str := errs0
abbrev s_InvalidPaper_init : Stmt := inClass (top 2) 0
abbrev s_InvalidNode_init : Stmt := inClass (top 3) 0
abbrev lawAt : Nat := 40
end Hd
end
section
set_option Elab.async false
set_option linter.all false
set_option maxRecDepth 100000
/-! DLa: data in the heap, frames of data, what an expression, a statement does to them. -/
namespace DL
open PySem PySem.Spec PyProof.Rows L2

/-- data -/
inductive D where
  | non | bl (b : Bool) | int (i : Int) | str (s : Str)
  | lst (xs : List D) | tup (xs : List D) | dct (ks : List Key) (xs : List D)
  | exc (C : Addr) (v : D) | fn (a : Addr)
  deriving Inhabited

/-- at a: an exception of the class at C, its own dict at dx -/
def exV (a C dx : Addr) : HO := .ext fun h => ∃ (ob : Obj) (vs : Array Value), h.get? a = some ob ∧ ob.cls = .ref C ∧ ob.dict = some dx ∧ ob.data = .fields vs
/-- at dx: an exception's dict -/
def XdAt (F : Hp) (dx : Addr) (fs : List (Str × V)) : Prop := F dx = some (.xd fs) ∨ F dx = some (exd dx fs)
mutual
/-- in the heap F the value stands for the data -/
inductive Rp (F : Hp) : V → D → Prop where
  | non : Rp F .non .non
  | bl (b : Bool) : Rp F (.bl b) (.bl b)
  | int (i : Int) : Rp F (.int i) (.int i)
  | str (s : Str) : Rp F (.str s) (.str s)
  | lst {a : Addr} {vs : List V} {ds : List D} : F a = some (.lst vs) → RpA F vs ds → Rp F (.ref a) (.lst ds)
  | tup {a : Addr} {vs : List V} {ds : List D} : F a = some (.tup vs) → RpA F vs ds → Rp F (.ref a) (.tup ds)
  | dct {a : Addr} {kvs : List (Key × V)} {ds : List D} {ks : List Key} : F a = some (.dK kvs) → kvs.map (·.1) = ks → RpA F (kvs.map (·.2)) ds → Rp F (.ref a) (.dct ks ds)
  | exc {a dx C : Addr} {v : V} {d : D} : F a = some (exV a C dx) → XdAt F dx [("value", v)] → Rp F v d → Rp F (.ref a) (.exc C d)
  | fn (a : Addr) : Rp F (.ref a) (.fn a)
inductive RpA (F : Hp) : List V → List D → Prop where
  | nil : RpA F [] []
  | cons {v : V} {vs : List V} {d : D} {ds : List D} : Rp F v d → RpA F vs ds → RpA F (v :: vs) (d :: ds)
end
/-- all that the one heap knows the other knows too -/
def Ex (F F' : Hp) : Prop := ∀ a o, F a = some o → F' a = some o
theorem Ex.refl (F : Hp) : Ex F F := fun _ _ h => h
theorem Ex.trans {F F1 F2 : Hp} (a : Ex F F1) (b : Ex F1 F2) : Ex F F2 := fun x o h => b x o (a x o h)
theorem Ex.new {F : Hp} {p : Addr} {o : HO} (h : F p = none) : Ex F (upd F p o) := fun a u e => by
  rw [upd_ne (ne_of_none e h)]; exact e
theorem Ex.none {F F' : Hp} (e : Ex F F') {p : Addr} (h : F' p = none) : F p = none := by
  cases q : F p with
  | none => rfl
  | some o => rw [e p o q] at h; cases h

section
variable {F F' : Hp}
mutual
theorem Rp.ex (e : Ex F F') : ∀ {v : V} {d : D}, Rp F v d → Rp F' v d
  | _, _, .non => .non
  | _, _, .bl b => .bl b
  | _, _, .int i => .int i
  | _, _, .str s => .str s
  | _, _, .lst h r => .lst (e _ _ h) (RpA.ex e r)
  | _, _, .tup h r => .tup (e _ _ h) (RpA.ex e r)
  | _, _, .dct h k r => .dct (e _ _ h) k (RpA.ex e r)
  | _, _, .exc h1 h2 r => .exc (e _ _ h1) (h2.imp (e _ _) (e _ _)) (Rp.ex e r)
  | _, _, .fn a => .fn a
theorem RpA.ex (e : Ex F F') : ∀ {vs : List V} {ds : List D}, RpA F vs ds → RpA F' vs ds
  | _, _, .nil => .nil
  | _, _, .cons r t => .cons (Rp.ex e r) (RpA.ex e t)
end
theorem RpA.length : ∀ {vs : List V} {ds : List D}, RpA F vs ds → vs.length = ds.length
  | _, _, .nil => rfl
  | _, _, .cons _ t => congrArg Nat.succ (RpA.length t)
theorem RpA.get : ∀ {vs : List V} {ds : List D} {i : Nat} {d : D}, RpA F vs ds → ds[i]? = some d → ∃ v, vs[i]? = some v ∧ Rp F v d
  | _, _, _, _, .nil, h => by simp at h
  | _, _, 0, _, .cons r _, h => by simp at h; subst h; exact ⟨_, rfl, r⟩
  | _, _, i + 1, _, .cons _ t, h => by
    obtain ⟨v, h1, h2⟩ := RpA.get (i := i) t (by simpa using h)
    exact ⟨v, by simpa using h1, h2⟩
theorem RpA.getV : ∀ {vs : List V} {ds : List D} {i : Nat} {v : V}, RpA F vs ds → vs[i]? = some v → ∃ d, ds[i]? = some d ∧ Rp F v d
  | _, _, _, _, .nil, h => by simp at h
  | _, _, 0, _, .cons r _, h => by simp at h; subst h; exact ⟨_, rfl, r⟩
  | _, _, i + 1, _, .cons _ t, h => by
    obtain ⟨v, h1, h2⟩ := RpA.getV (i := i) t (by simpa using h)
    exact ⟨v, by simpa using h1, h2⟩
theorem RpA.append : ∀ {vs ws : List V} {ds es : List D}, RpA F vs ds → RpA F ws es → RpA F (vs ++ ws) (ds ++ es)
  | _, _, _, _, .nil, h => h
  | _, _, _, _, .cons r t, h => .cons r (RpA.append t h)
theorem RpA.drop : ∀ {vs : List V} {ds : List D} (n : Nat), RpA F vs ds → RpA F (vs.drop n) (ds.drop n)
  | _, _, 0, r => r
  | _, _, _ + 1, .nil => .nil
  | _, _, n + 1, .cons _ t => RpA.drop n t
theorem RpA.take : ∀ {vs : List V} {ds : List D} (n : Nat), RpA F vs ds → RpA F (vs.take n) (ds.take n)
  | _, _, 0, _ => .nil
  | _, _, _ + 1, .nil => .nil
  | _, _, n + 1, .cons r t => .cons r (RpA.take n t)
theorem RpA.set {v : V} {d : D} (r : Rp F v d) : ∀ {vs : List V} {ds : List D} (i : Nat), RpA F vs ds → RpA F (vs.set i v) (ds.set i d)
  | _, _, _, .nil => .nil
  | _, _, 0, .cons _ t => .cons r t
  | _, _, i + 1, .cons q t => .cons q (RpA.set r i t)
theorem RpA.rev : ∀ {vs : List V} {ds : List D}, RpA F vs ds → RpA F vs.reverse ds.reverse
  | _, _, .nil => .nil
  | _, _, .cons r t => by simp only [List.reverse_cons]; exact (RpA.rev t).append (.cons r .nil)
theorem RpA.ints : ∀ {ns : List Int}, RpA F (ns.map V.int) (ns.map D.int)
  | [] => .nil
  | _ :: _ => .cons (.int _) RpA.ints
end

/-! ### data as PySem's -/
mutual
def D.py : D → PyData
  | .non => .none
  | .bl b => .bool b
  | .int i => .int i
  | .str s => .str s
  | .lst xs => .list (D.pyA xs)
  | .tup xs => .tuple (D.pyA xs)
  | .dct _ _ => .dict []
  | .exc _ _ => .dict []
  | .fn _ => .dict []
def D.pyA : List D → List PyData
  | [] => []
  | d :: ds => d.py :: D.pyA ds
end
mutual
/-- of plain data, its texts as they may stand -/
def D.ok : D → Bool
  | .non => true
  | .bl _ => true
  | .int _ => true
  | .str s => PyData.strOk s
  | .lst xs => D.okA xs
  | .tup xs => D.okA xs
  | .dct _ _ => false
  | .exc _ _ => false
  | .fn _ => false
def D.okA : List D → Bool
  | [] => true
  | d :: ds => d.ok && D.okA ds
end
mutual
def D.dep : D → Nat
  | .lst xs => D.depA xs + 1
  | .tup xs => D.depA xs + 1
  | _ => 0
def D.depA : List D → Nat
  | [] => 0
  | d :: ds => max d.dep (D.depA ds)
end
section
variable {F H : Hp} {K : PySem.W.Frag}
mutual
theorem Rp.dp (e : Ex F H) : ∀ {d : D} {v : V}, d.ok = true → Rp F v d → Dp K H v d.py
  | .non, _, _, .non => .non
  | .bl b, _, _, .bl _ => .bl b
  | .int i, _, _, .int _ => .int i
  | .str s, _, _, .str _ => .str s
  | .lst xs, _, h, .lst q r => .lst (SqL.of (e _ _ q)) (RpA.dp e (by simpa [D.ok] using h) r)
  | .tup xs, _, h, .tup q r => .tup (SqT.of (e _ _ q)) (RpA.dp e (by simpa [D.ok] using h) r)
  | .dct _ _, _, h, _ => by simp [D.ok] at h
  | .exc _ _, _, h, _ => by simp [D.ok] at h
  | .fn _, _, h, _ => by simp [D.ok] at h
theorem RpA.dp (e : Ex F H) : ∀ {ds : List D} {vs : List V}, D.okA ds = true → RpA F vs ds → DpAll K H vs (D.pyA ds)
  | [], _, _, .nil => .nil
  | d :: ds, _, h, .cons r t => by
    have h' := h
    simp only [D.okA, Bool.and_eq_true] at h'
    exact .cons (Rp.dp e h'.1 r) (RpA.dp e h'.2 t)
end
end
mutual
theorem D.py_can : ∀ d : D, d.ok = true → d.py.canLay0 = true
  | .non, _ => by simp [D.py, PyData.canLay0]
  | .bl _, _ => by simp [D.py, PyData.canLay0]
  | .int _, _ => by simp [D.py, PyData.canLay0]
  | .str s, h => by simpa [D.py, PyData.canLay0, D.ok] using h
  | .lst xs, h => by simpa [D.py, PyData.canLay0] using D.py_canA xs (by simpa [D.ok] using h)
  | .tup xs, h => by simpa [D.py, PyData.canLay0] using D.py_canA xs (by simpa [D.ok] using h)
  | .dct _ _, h => by simp [D.ok] at h
  | .exc _ _, h => by simp [D.ok] at h
  | .fn _, h => by simp [D.ok] at h
theorem D.py_canA : ∀ ds : List D, D.okA ds = true → PyData.canLayAll0 (D.pyA ds) = true
  | [], _ => by simp [D.pyA, PyData.canLayAll0]
  | d :: ds, h => by
    simp only [D.okA, Bool.and_eq_true] at h
    simp only [D.pyA, PyData.canLayAll0, Bool.and_eq_true]
    exact ⟨D.py_can d h.1, D.py_canA ds h.2⟩
end
mutual
theorem D.py_dep : ∀ d : D, d.ok = true → d.py.depth = d.dep
  | .non, _ => by simp [D.py, PyData.depth, D.dep]
  | .bl _, _ => by simp [D.py, PyData.depth, D.dep]
  | .int _, _ => by simp [D.py, PyData.depth, D.dep]
  | .str s, h => by simp [D.py, PyData.depth, D.dep]
  | .lst xs, h => by simp only [D.py, PyData.depth, D.dep, D.py_depA xs (by simpa [D.ok] using h)]
  | .tup xs, h => by simp only [D.py, PyData.depth, D.dep, D.py_depA xs (by simpa [D.ok] using h)]
  | .dct _ _, h => by simp [D.ok] at h
  | .exc _ _, h => by simp [D.ok] at h
  | .fn _, h => by simp [D.ok] at h
theorem D.py_depA : ∀ ds : List D, D.okA ds = true → PyData.depthAll (D.pyA ds) = D.depA ds
  | [], _ => by simp [D.pyA, PyData.depthAll, D.depA]
  | d :: ds, h => by
    simp only [D.okA, Bool.and_eq_true] at h
    simp only [D.pyA, PyData.depthAll, D.depA, D.py_dep d h.1, D.py_depA ds h.2]
end
/-- data that may be compared -/
def D.sh (d : D) : Prop := d.ok = true ∧ d.dep ≤ 64
theorem D.sh.py {d : D} (h : d.sh) : SeqAt.shaped d.py = true := by
  unfold SeqAt.shaped
  rw [D.py_can d h.1, D.py_dep d h.1, Bool.true_and]
  exact decide_eq_true h.2
/-- == of data -/
def D.eqv (d e : D) : Bool := PyData.eqv d.py e.py

/-! ### frames -/
/-- what a name of the frame stands for: nothing that is known; data; a list of its own of such; a value -/
inductive DV where
  | un | d (x : D) | ow (xs : List D) | raw (v : V) | pr (P : Hp → V → Prop)
  deriving Inhabited
def At (F H : Hp) : Option V → DV → Prop
  | _, .un => True
  | o, .d x => ∃ v, o = some v ∧ Rp F v x
  | o, .ow xs => ∃ p vs, o = some (.ref p) ∧ F p = none ∧ H p = some (.lst vs) ∧ RpA F vs xs
  | o, .raw v => o = some v
  | o, .pr P => ∃ v, o = some v ∧ ∀ F', Ex F F' → P F' v
/-- the tables of code objects that are known -/
class TL where
  T : List (Addr × Str)
theorem tabs_upd {T : List (Addr × Str)} {H : Hp} {p : Addr} {o : HO} (h : LamX.Tabs T H) (n : H p = none ∨ ∃ xs, H p = some (.lst xs)) : LamX.Tabs T (upd H p o) := fun q hq => by
  obtain ⟨ps, h1, h2, h3⟩ := h q hq
  have key : ∀ {a : Addr} {u : HO}, H a = some u → (∀ xs, u ≠ .lst xs) → upd H p o a = some u := fun {a u} e nl => by
    rw [upd_ne]
    · exact e
    · rintro rfl
      rcases n with n | ⟨xs, n⟩
      · rw [n] at e; cases e
      · rw [n] at e; exact nl xs (Option.some.inj e).symm
  refine ⟨ps, key h1 (fun _ h => nomatch h), h2, fun pos cv hc => ?_⟩
  obtain ⟨c, e1, e2⟩ := h3 pos cv hc
  exact ⟨c, e1, key e2 (fun xs z => by unfold LamX.CodeO at z; cases z)⟩
variable [TL]
/-- the frame σ in the heap H stands for δ; F: what of the heap stays as it is -/
structure Rs (F H : Hp) (σ : L2.St) (δ : List DV) : Prop where
  sub : Ex F H
  len : σ.length = δ.length
  at_ : ∀ (i : Nat) (x : DV), δ[i]? = some x → ∃ o, σ[i]? = some o ∧ At F H o x
  ap : ∀ (i j : Nat) (xs ys : List D) (o : Option V), i ≠ j → δ[i]? = some (.ow xs) → δ[j]? = some (.ow ys) → σ[i]? = some o → σ[j]? ≠ some o
  tb : LamX.Tabs TL.T H
  nt : ∀ a ps, F a ≠ some (.tbl ps)
theorem nt_upd {F : Hp} {p : Addr} {o : HO} (h : ∀ a ps, F a ≠ some (.tbl ps)) (ho : ∀ ps, o ≠ .tbl ps) : ∀ a ps, upd F p o a ≠ some (.tbl ps) := fun a ps z => by
  by_cases q : a = p
  · subst q; rw [upd_same] at z; exact ho ps (Option.some.inj z)
  · rw [upd_ne q] at z; exact h a ps z
/-- the frame's own lists -/
def Own (σ : L2.St) (δ : List DV) (a : Addr) : Prop := ∃ (i : Nat) (xs : List D), δ[i]? = some (.ow xs) ∧ σ[i]? = some (some (.ref a))
/-- nothing, or a table of code objects -/
def Fre (H : Hp) (a : Addr) : Prop := ∀ o, H a = some o → ∃ ps, o = .tbl ps
theorem Fre.of {H : Hp} {a : Addr} (h : H a = none) : Fre H a := fun o e => by rw [h] at e; cases e
theorem Fre.not {H : Hp} {a : Addr} {o : HO} (f : Fre H a) (e : H a = some o) (h : ∀ ps, o ≠ .tbl ps) : False := let ⟨ps, z⟩ := f o e; h ps z
theorem Fre.lst {H : Hp} {a : Addr} {xs : List V} (f : Fre H a) (e : H a = some (.lst xs)) : False := f.not e fun _ h => nomatch h
/-- from the heaps F, H to F', H': what was kept is kept; all else but what O owns is as it was; what is kept anew is new -/
structure Go (O O' : Addr → Prop) (F H F' H' : Hp) : Prop where
  ff : Ex F F'
  keep : ∀ a o, H a = some o → ¬ O a → (∀ ps, o ≠ .tbl ps) → H' a = some o
  new : ∀ a o, F' a = some o → F a = some o ∨ Fre H a ∨ O a
  there : ∀ a, Fre H' a → Fre H a
  own : ∀ a, O' a → O a ∨ Fre H a
theorem Go.refl (O : Addr → Prop) (F H : Hp) : Go O O F H F H := ⟨.refl F, fun _ _ h _ _ => h, fun _ _ h => .inl h, fun _ h => h, fun _ h => .inl h⟩
theorem Go.trans {O O1 O2 : Addr → Prop} {F H F1 H1 F2 H2 : Hp} (g : Go O O1 F H F1 H1) (k : Go O1 O2 F1 H1 F2 H2) : Go O O2 F H F2 H2 where
  ff := g.ff.trans k.ff
  keep := fun a o h n nt => k.keep a o (g.keep a o h n nt) (fun z => (g.own a z).elim n fun q => q.not h nt) nt
  new := fun a o h => by
    rcases k.new a o h with q | q | q
    · exact g.new a o q
    · exact .inr (.inl (g.there a q))
    · rcases g.own a q with q | q
      · exact .inr (.inr q)
      · exact .inr (.inl q)
  there := fun a h => g.there a (k.there a h)
  own := fun a h => (k.own a h).elim (g.own a) fun q => .inr (g.there a q)
theorem Rs.own {F H : Hp} {σ : L2.St} {δ : List DV} (r : Rs F H σ δ) {a : Addr} (h : Own σ δ a) : F a = none ∧ ∃ vs xs, H a = some (.lst vs) ∧ RpA F vs xs := by
  obtain ⟨i, xs, h1, h2⟩ := h
  obtain ⟨o, e, p, vs, q1, q2, q3, q4⟩ := r.at_ i _ h1
  rw [h2] at e
  cases e
  cases q1
  exact ⟨q2, vs, xs, q3, q4⟩
theorem Rs.own_fre {F H : Hp} {σ : L2.St} {δ : List DV} (r : Rs F H σ δ) {a : Addr} (h : Fre H a) : ¬ Own σ δ a := fun z => by
  obtain ⟨_, vs, _, q, _⟩ := r.own z
  exact h.lst q
theorem Rs.own_not {F H : Hp} {σ : L2.St} {δ : List DV} (r : Rs F H σ δ) {a : Addr} (h : H a = none) : ¬ Own σ δ a := r.own_fre (.of h)
theorem Rs.ownF {F H : Hp} {σ : L2.St} {δ : List DV} (r : Rs F H σ δ) {a : Addr} {o : HO} (h : F a = some o) : ¬ Own σ δ a := fun z => by
  rw [(r.own z).1] at h
  cases h
/-- a new object that is to stay -/
theorem Rs.new {F H : Hp} {σ : L2.St} {δ : List DV} (r : Rs F H σ δ) {p : Addr} {o : HO} (h : H p = none) (ho : ∀ ps, o ≠ .tbl ps := by intro _ h; cases h) : Rs (upd F p o) (upd H p o) σ δ := by
  have hF : F p = none := r.sub.none h
  refine ⟨fun a u e => ?_, r.len, fun i x hx => ?_, r.ap, tabs_upd r.tb (.inl h), nt_upd r.nt ho⟩
  · by_cases z : a = p
    · subst z
      rw [upd_same] at e ⊢
      exact e
    · rw [upd_ne z] at e ⊢
      exact r.sub a u e
  · obtain ⟨q, e, k⟩ := r.at_ i x hx
    refine ⟨q, e, ?_⟩
    cases x with
    | un => trivial
    | d x =>
      obtain ⟨v, k1, k2⟩ := k
      exact ⟨v, k1, k2.ex (.new hF)⟩
    | ow xs =>
      obtain ⟨a, vs, k1, k2, k3, k4⟩ := k
      have z : a ≠ p := ne_of_none k3 h
      exact ⟨a, vs, k1, by rw [upd_ne z]; exact k2, by rw [upd_ne z]; exact k3, k4.ex (.new hF)⟩
    | raw v => exact k
    | pr P => obtain ⟨v, k1, k2⟩ := k; exact ⟨v, k1, fun F2 e => k2 F2 ((Ex.new hF).trans e)⟩
theorem Go.new_ {O : Addr → Prop} {F H : Hp} {p : Addr} {o : HO} (h : H p = none) (hF : F p = none) (_ho : True := trivial) : Go O O F H (upd F p o) (upd H p o) := by
  refine ⟨.new hF, fun a u e _ _ => Ex.new h a u e, fun a u e => ?_, fun a n => ?_, fun _ q => .inl q⟩
  · by_cases z : a = p
    · subst z; exact .inr (.inl (.of h))
    · rw [upd_ne z] at e; exact .inl e
  · by_cases z : a = p
    · subst z; exact .of h
    · intro u e; exact n u (by rw [upd_ne z]; exact e)
/-- a new object that may change -/
theorem Rs.newH {F H : Hp} {σ : L2.St} {δ : List DV} (r : Rs F H σ δ) {p : Addr} {o : HO} (h : H p = none) : Rs F (upd H p o) σ δ := by
  refine ⟨r.sub.trans (.new h), r.len, fun i x hx => ?_, r.ap, tabs_upd r.tb (.inl h), r.nt⟩
  obtain ⟨q, e, k⟩ := r.at_ i x hx
  refine ⟨q, e, ?_⟩
  cases x with
  | un => trivial
  | d x => exact k
  | ow xs =>
    obtain ⟨a, vs, k1, k2, k3, k4⟩ := k
    exact ⟨a, vs, k1, k2, by rw [upd_ne (ne_of_none k3 h)]; exact k3, k4⟩
  | raw v => exact k
  | pr P => exact k
theorem Go.newH {O : Addr → Prop} {F H : Hp} {p : Addr} {o : HO} (h : H p = none) : Go O O F H F (upd H p o) := by
  refine ⟨.refl F, fun a u e _ _ => Ex.new h a u e, fun a u e => .inl e, fun a n => ?_, fun _ q => .inl q⟩
  by_cases z : a = p
  · subst z; exact .of h
  · intro u e; exact n u (by rw [upd_ne z]; exact e)
/-- a value that is new: data, or a list of its own -/
def Res (F' H' : Hp) (O : Addr → Prop) (H : Hp) (O' : Addr → Prop) (v : V) : DV → Prop
  | .un => True
  | .d x => Rp F' v x
  | .ow xs => ∃ p vs, v = .ref p ∧ F' p = none ∧ H' p = some (.lst vs) ∧ RpA F' vs xs ∧ ¬ O' p ∧ (Fre H p ∨ O p)
  | .raw w => v = w
  | .pr P => ∀ F2, Ex F' F2 → P F2 v

/-! ### what an expression gives -/
def tD (δ : List DV) (r : DV) (δ' : List DV) : TE := fun σ H Q => ∃ F, Rs F H σ δ ∧ ∀ v F' H', Go (Own σ δ) (Own σ δ') F H F' H' → Rs F' H' σ δ' → Res F' H' (Own σ δ) H (Own σ δ') v r → Q v H'
def tDT (δ : List DV) (b : Bool) (δ' : List DV) : TT := fun σ H Q => ∃ F, Rs F H σ δ ∧ ∀ F' H', Go (Own σ δ) (Own σ δ') F H F' H' → Rs F' H' σ δ' → Q b H'
/-- an argument: data, a value, or the own list of a slot -/
inductive AV where
  | d (x : D) | sl (i : Nat) | raw (v : V) | pr (P : Hp → V → Prop)
def AVr (F : Hp) (σ : L2.St) (v : V) : AV → Prop
  | .d x => Rp F v x
  | .sl i => σ[i]? = some (some v)
  | .raw w => v = w
  | .pr P => ∀ F2, Ex F F2 → P F2 v
abbrev AVs (F : Hp) (σ : L2.St) : List V → List AV → Prop := Paired (AVr F σ)
def tDA (δ : List DV) (as : List AV) (δ' : List DV) : TA := fun σ H Q => ∃ F, Rs F H σ δ ∧ ∀ vs F' H', Go (Own σ δ) (Own σ δ') F H F' H' → Rs F' H' σ δ' → AVs F' σ vs as → Q vs H'
abbrev DE (X : Cx) (δ : List DV) (e : Expr) (r : DV) (δ' : List DV) : Prop := PE X e (tD δ r δ')
abbrev DT (X : Cx) (δ : List DV) (e : Expr) (b : Bool) (δ' : List DV) : Prop := PT X e (tDT δ b δ')
abbrev DA (X : Cx) (δ : List DV) (es : List Expr) (as : List AV) (δ' : List DV) : Prop := PA X es (tDA δ as δ')
theorem _root_.L2.PE.imp {X : Cx} {e : Expr} {t u : TE} (h : PE X e t) (k : ∀ σ H Q, u σ H Q → t σ H Q) : PE X e u := ⟨fun pins s σ H Q I q => h.run pins s σ H Q I (k _ _ _ q)⟩
theorem _root_.L2.PT.imp {X : Cx} {e : Expr} {t u : TT} (h : PT X e t) (k : ∀ σ H Q, u σ H Q → t σ H Q) : PT X e u := ⟨fun pins s σ H Q I q => h.run pins s σ H Q I (k _ _ _ q)⟩
theorem _root_.L2.PA.imp {X : Cx} {e : List Expr} {t u : TA} (h : PA X e t) (k : ∀ σ H Q, u σ H Q → t σ H Q) : PA X e u := ⟨fun pos pins s σ H Q I q => h.run pos pins s σ H Q I (k _ _ _ q)⟩
theorem _root_.L2.PS.imp {X : Cx} {e : Stmt} {t u : TS} (h : PS X e t) (k : ∀ D σ H, u D σ H → t D σ H) : PS X e u := ⟨fun pins s σ H D I q => h.run pins s σ H D I (k _ _ _ q)⟩
theorem _root_.L2.PSs.imp {X : Cx} {e : List Stmt} {t u : TS} (h : PSs X e t) (k : ∀ D σ H, u D σ H → t D σ H) : PSs X e u := ⟨fun pins s σ H D I q => h.run pins s σ H D I (k _ _ _ q)⟩
section
variable {X : Cx} {δ δ1 δ2 δ3 : List DV} {a b c : Expr} {x y z : D} {pos : Pos}
/-- the answer for data -/
theorem tD.fin {δ δ' : List DV} {r : D} {σ : L2.St} {F H F' H' : Hp} {Q : VK} {v : V} (k : ∀ v F' H', Go (Own σ δ) (Own σ δ') F H F' H' → Rs F' H' σ δ' → Res F' H' (Own σ δ) H (Own σ δ') v (.d r) → Q v H')
    (g : Go (Own σ δ) (Own σ δ') F H F' H') (R : Rs F' H' σ δ') (h : Rp F' v r) : Q v H' := k v F' H' g R h
theorem de_frz {e : Expr} {xs : List D} {δ' : List DV} (h : DE X δ e (.ow xs) δ') : DE X δ e (.d (.lst xs)) δ' := h.imp fun σ H Q ⟨F, R, k⟩ => ⟨F, R, fun v F' H' g R' r => by
  obtain ⟨p, vs, rfl, f, hp, ra, no, ho⟩ := r
  have hF : F' p = none := f
  refine k _ (upd F' p (.lst vs)) H' ⟨g.ff.trans (.new hF), g.keep, fun a o e => ?_, g.there, g.own⟩ ⟨fun a o e => ?_, R'.len, fun i x hx => ?_, R'.ap, R'.tb, nt_upd R'.nt (fun _ h => nomatch h)⟩ (.lst upd_same (ra.ex (.new hF)))
  · by_cases z : a = p
    · subst z
      rcases ho with q | q
      · exact .inr (.inl q)
      · exact .inr (.inr q)
    · rw [upd_ne z] at e; exact g.new a o e
  · by_cases z : a = p
    · subst z; rw [upd_same] at e; rw [hp, e]
    · rw [upd_ne z] at e; exact R'.sub a o e
  · obtain ⟨o, e, q⟩ := R'.at_ i x hx
    refine ⟨o, e, ?_⟩
    cases x with
    | un => trivial
    | d x => obtain ⟨v, k1, k2⟩ := q; exact ⟨v, k1, k2.ex (.new hF)⟩
    | ow ys =>
      obtain ⟨b, ws, k1, k2, k3, k4⟩ := q
      have z : b ≠ p := fun z => no ⟨i, ys, hx, by rw [e, k1, z]⟩
      exact ⟨b, ws, k1, by rw [upd_ne z]; exact k2, k3, k4.ex (.new hF)⟩
    | raw v => exact q
    | pr P => obtain ⟨v, k1, k2⟩ := q; exact ⟨v, k1, fun F2 e => k2 F2 ((Ex.new hF).trans e)⟩⟩
end
end DL
end
section
set_option Elab.async false
set_option linter.all false
set_option maxRecDepth 100000
/-! DLb: expressions over frames of data. -/
namespace DL
open PySem PySem.Spec PyProof.Rows L2
variable [TL]

section
variable {X : Cx} {δ δ1 δ2 δ3 : List DV} {a b c e : Expr} {x y z r : D} {pos : Pos} {σ : L2.St} {H : Hp} {F : Hp}

/-- a result told from further back -/
theorem Res.back {O O1 O2 : Addr → Prop} {F H F1 H1 F2 H2 : Hp} {v : V} {ra : DV} (g : Go O O1 F H F1 H1) (r : Res F2 H2 O1 H1 O2 v ra) : Res F2 H2 O H O2 v ra := by
  cases ra with
  | un => trivial
  | d x => exact r
  | raw w => exact r
  | pr P => exact r
  | ow xs =>
    obtain ⟨p, vs, e, h1, h2, h3, h4, h5⟩ := r
    refine ⟨p, vs, e, h1, h2, h3, h4, ?_⟩
    rcases h5 with h5 | h5
    · exact .inl (g.there p h5)
    · exact (g.own p h5).elim .inr .inl

/-! ### in a row -/
theorem one_ {ra : DV} {G : V → Hp → Prop} (h : ∃ F, Rs F H σ δ ∧ ∀ v F' H', Go (Own σ δ) (Own σ δ1) F H F' H' → Rs F' H' σ δ1 → Res F' H' (Own σ δ) H (Own σ δ1) v ra → G v H') : tD δ ra δ1 σ H G := h
theorem two_ {G : V → V → Hp → Prop} (h : ∃ F, Rs F H σ δ ∧ ∀ v u F' H', Go (Own σ δ) (Own σ δ2) F H F' H' → Rs F' H' σ δ2 → Rp F' v x → Rp F' u y → G v u H') :
    tD δ (.d x) δ1 σ H fun v H1 => tD δ1 (.d y) δ2 σ H1 fun u H2 => G v u H2 := by
  obtain ⟨F, R, k⟩ := h
  exact ⟨F, R, fun v F1 H1 g1 R1 r1 => ⟨F1, R1, fun u F2 H2 g2 R2 r2 => k v u F2 H2 (g1.trans g2) R2 (Rp.ex g2.ff r1) r2⟩⟩

/-- an operation of two data: data, the heap as it was | a new list | a new tuple -/
def OpD (r : R2) (x y z : D) : Prop := ∀ (F H : Hp) (v u : V) (Q : VK), Ex F H → Rp F v x → Rp F u y → (∀ w, Rp F w z → Q w H) → r v u H Q
def OpL (r : R2) (x y : D) (zs : List D) : Prop := ∀ (F H : Hp) (v u : V) (Q : VK), Ex F H → HOkL H → Rp F v x → Rp F u y → (∀ p vs, H p = none → RpA F vs zs → Q (.ref p) (upd H p (.lst vs))) → r v u H Q
  where HOkL (_ : Hp) : Prop := True
def OpT (r : R2) (x y : D) (zs : List D) : Prop := ∀ (F H : Hp) (v u : V) (Q : VK), Ex F H → Rp F v x → Rp F u y → (∀ p vs, H p = none → RpA F vs zs → Q (.ref p) (upd H p (.tup vs))) → r v u H Q
theorem op_d {q : R2} (hr : OpD q x y z) {Q : VK} (h : tD δ (.d z) δ2 σ H Q) : tOp q (tD δ (.d x) δ1) (tD δ1 (.d y) δ2) σ H Q := by
  obtain ⟨F, R, k⟩ := h
  exact two_ ⟨F, R, fun v u F' H' g R' r1 r2 => hr F' H' v u Q R'.sub r1 r2 fun w rw => k w F' H' g R' rw⟩
theorem Go.noneH {O O' : Addr → Prop} {F H F' H' : Hp} (g : Go O O' F H F' H') {p : Addr} (h : H' p = none) : Fre H p := g.there p (.of h)
/-- the end at a new object that stays -/
theorem fin_new {Q : VK} {ra : D} {F' H' : Hp} {p : Addr} {o : HO} (k : ∀ v F' H', Go (Own σ δ) (Own σ δ2) F H F' H' → Rs F' H' σ δ2 → Res F' H' (Own σ δ) H (Own σ δ2) v (.d ra) → Q v H')
    (g : Go (Own σ δ) (Own σ δ2) F H F' H') (R : Rs F' H' σ δ2) (hp : H' p = none) (h : Rp (upd F' p o) (.ref p) ra) (ho : ∀ ps, o ≠ .tbl ps := by intro _ h; cases h) : Q (.ref p) (upd H' p o) :=
  k _ _ _ (g.trans (Go.new_ hp (R.sub.none hp))) (R.new hp ho) h
/-- .. at a new list of its own -/
theorem fin_own {Q : VK} {zs : List D} {F' H' : Hp} {p : Addr} {vs : List V} (k : ∀ v F' H', Go (Own σ δ) (Own σ δ2) F H F' H' → Rs F' H' σ δ2 → Res F' H' (Own σ δ) H (Own σ δ2) v (.ow zs) → Q v H')
    (g : Go (Own σ δ) (Own σ δ2) F H F' H') (R : Rs F' H' σ δ2) (hp : H' p = none) (h : RpA F' vs zs) : Q (.ref p) (upd H' p (.lst vs)) :=
  k _ _ _ (g.trans (Go.newH hp)) (R.newH hp) ⟨p, vs, rfl, R.sub.none hp, upd_same, h, R.own_not hp, .inl (g.noneH hp)⟩
theorem op_l {q : R2} {zs : List D} (hr : OpL q x y zs) {Q : VK} (h : tD δ (.ow zs) δ2 σ H Q) : tOp q (tD δ (.d x) δ1) (tD δ1 (.d y) δ2) σ H Q := by
  obtain ⟨F, R, k⟩ := h
  exact two_ ⟨F, R, fun v u F' H' g R' r1 r2 => hr F' H' v u Q R'.sub trivial r1 r2 fun p vs hp ra => fin_own k g R' hp ra⟩
theorem op_t {q : R2} {zs : List D} (hr : OpT q x y zs) {Q : VK} (h : tD δ (.d (.tup zs)) δ2 σ H Q) : tOp q (tD δ (.d x) δ1) (tD δ1 (.d y) δ2) σ H Q := by
  obtain ⟨F, R, k⟩ := h
  exact two_ ⟨F, R, fun v u F' H' g R' r1 r2 => hr F' H' v u Q R'.sub r1 r2 fun p vs hp ra => fin_new k g R' hp (.tup upd_same (ra.ex (.new (R'.sub.none hp))))⟩

/-! ### names, constants -/
theorem de_var {i : Nat} {n : Str} (hN : X.N[i]? = some n) (hv : Vis X.env.scope n) (h : δ[i]? = some (.d x)) (hd : (n == ("__debug__" : Str)) = false := by decide) (hcd : (n == ("__classdict__" : Str)) = false := by decide) : DE X δ (.Name n pos) (.d x) δ :=
  (pe_var (i := i) hN hv hd hcd).imp fun σ H Q ⟨F, R, k⟩ => by
    obtain ⟨o, e, v, q, rv⟩ := R.at_ i _ h
    exact ⟨v, by rw [e, q], k v F H (.refl _ F H) R rv⟩
theorem de_raw {i : Nat} {n : Str} {v : V} (hN : X.N[i]? = some n) (hv : Vis X.env.scope n) (h : δ[i]? = some (.raw v)) (hd : (n == ("__debug__" : Str)) = false := by decide) (hcd : (n == ("__classdict__" : Str)) = false := by decide) : DE X δ (.Name n pos) (.raw v) δ :=
  (pe_var (i := i) hN hv hd hcd).imp fun σ H Q ⟨F, R, k⟩ => by
    obtain ⟨o, e, q⟩ := R.at_ i _ h
    exact ⟨v, by rw [e]; exact congrArg some q, k v F H (.refl _ F H) R rfl⟩
theorem de_pr {i : Nat} {n : Str} {P : Hp → V → Prop} (hN : X.N[i]? = some n) (hv : Vis X.env.scope n) (h : δ[i]? = some (.pr P)) (hd : (n == ("__debug__" : Str)) = false := by decide) (hcd : (n == ("__classdict__" : Str)) = false := by decide) : DE X δ (.Name n pos) (.pr P) δ :=
  (pe_var (i := i) hN hv hd hcd).imp fun σ H Q ⟨F, R, k⟩ => by
    obtain ⟨o, e, v, q1, q2⟩ := R.at_ i _ h
    exact ⟨v, by rw [e, q1], k v F H (.refl _ F H) R q2⟩
/-- a list of the frame's own goes out -/
theorem de_mv {i : Nat} {n : Str} {xs : List D} (hN : X.N[i]? = some n) (hv : Vis X.env.scope n) (h : δ[i]? = some (.ow xs)) (hd : (n == ("__debug__" : Str)) = false := by decide) (hcd : (n == ("__classdict__" : Str)) = false := by decide) : DE X δ (.Name n pos) (.ow xs) (δ.set i .un) :=
  (pe_var (i := i) hN hv hd hcd).imp fun σ H Q ⟨F, R, k⟩ => by
    obtain ⟨o, e, p, vs, q1, q2, q3, q4⟩ := R.at_ i _ h
    have hi : i < δ.length := (List.getElem?_eq_some_iff.mp h).1
    have sub : ∀ a, Own σ (δ.set i .un) a → Own σ δ a ∧ a ≠ p := fun a ⟨j, ys, h1, h2⟩ => by
      by_cases z : i = j
      · subst z; rw [List.getElem?_set_self hi] at h1; cases h1
      · rw [List.getElem?_set_ne z] at h1
        exact ⟨⟨j, ys, h1, h2⟩, fun w => R.ap i j xs ys o z h h1 e (by rw [h2, q1, w])⟩
    refine ⟨.ref p, by rw [e, q1], k _ F H ⟨.refl F, fun _ _ h _ _ => h, fun _ _ h => .inl h, fun _ h => h, fun a h => .inl (sub a h).1⟩ ⟨R.sub, by rw [List.length_set]; exact R.len, fun j x hx => ?_, fun j l ys zs o hj h1 h2 => ?_, R.tb, R.nt⟩
      ⟨p, vs, rfl, q2, q3, q4, fun w => (sub p w).2 rfl, .inr ⟨i, xs, h, by rw [e, q1]⟩⟩⟩
    · by_cases z : i = j
      · subst z; rw [List.getElem?_set_self hi] at hx; cases hx; exact ⟨o, e, trivial⟩
      · rw [List.getElem?_set_ne z] at hx; exact R.at_ j x hx
    · have ne : ∀ {j : Nat} {ys : List D}, (δ.set i .un)[j]? = some (.ow ys) → δ[j]? = some (.ow ys) := fun {j ys} h => by
        by_cases z : i = j
        · subst z; rw [List.getElem?_set_self hi] at h; cases h
        · rw [List.getElem?_set_ne z] at h; exact h
      exact R.ap j l ys zs o hj (ne h1) (ne h2)
theorem de_c {v : V} (h : PE X e (tC v)) (hr : ∀ F, Rp F v x) : DE X δ e (.d x) δ := h.imp fun σ H Q ⟨F, R, k⟩ => k v F H (.refl _ F H) R (hr F)
theorem de_int {i : Int} {j : Nat} : DE X δ (.Constant (.int i) j pos) (.d (.int i)) δ := de_c pe_int fun _ => .int i
theorem de_bl {i : Bool} {j : Nat} : DE X δ (.Constant (.bool i) j pos) (.d (.bl i)) δ := de_c pe_bl fun _ => .bl i
theorem de_non {j : Nat} : DE X δ (.Constant .none j pos) (.d .non) δ := de_c pe_non fun _ => .non
theorem de_str {s : Str} {j : Nat} : DE X δ (.Constant (.str s) j pos) (.d (.str s)) δ := de_c pe_str fun _ => .str s
theorem de_to {r r' : DV} {δ' : List DV} (h : DE X δ e r δ') (hr : r = r') : DE X δ e r' δ' := hr ▸ h

/-! ### operators -/
theorem de_bin {op : Operator} {q : R2} (ho : OpR X (binaryOp op) q) (ha : DE X δ a (.d x) δ1) (hb : DE X δ1 b (.d y) δ2) (hr : OpD q x y z) : DE X δ (.BinOp a op b pos) (.d z) δ2 := (pe_op ho ha hb).imp fun _ _ _ h => op_d hr h
theorem de_binL {op : Operator} {q : R2} {zs : List D} (ho : OpR X (binaryOp op) q) (ha : DE X δ a (.d x) δ1) (hb : DE X δ1 b (.d y) δ2) (hr : OpL q x y zs) : DE X δ (.BinOp a op b pos) (.ow zs) δ2 := (pe_op ho ha hb).imp fun _ _ _ h => op_l hr h
theorem de_binT {op : Operator} {q : R2} {zs : List D} (ho : OpR X (binaryOp op) q) (ha : DE X δ a (.d x) δ1) (hb : DE X δ1 b (.d y) δ2) (hr : OpT q x y zs) : DE X δ (.BinOp a op b pos) (.d (.tup zs)) δ2 := (pe_op ho ha hb).imp fun _ _ _ h => op_t hr h
theorem de_cmp {op : CmpOp} {q : R2} (ho : OpR X (compareOp op) q) (ha : DE X δ a (.d x) δ1) (hb : DE X δ1 b (.d y) δ2) (hr : OpD q x y z) (hm : behindInMarks op b = false) : DE X δ (.Compare a [op] [b] pos) (.d z) δ2 := (pe_cmpR ho ha hb hm).imp fun _ _ _ h => op_d hr h
theorem dt_cmp {k : Bool} {op : CmpOp} {q : R2} (ho : OpR X (compareOp op) q) (ha : DE X δ a (.d x) δ1) (hb : DE X δ1 b (.d y) δ2) (hr : OpD q x y (.bl k)) (hm : behindInMarks op b = false) : DT X δ (.Compare a [op] [b] pos) k δ2 :=
  (pt_cmpR ho ha hb hm).imp fun σ H Q ⟨F, R, k'⟩ => op_d (δ := δ) (δ2 := δ2) hr ⟨F, R, fun v F' H' g R' rv => by
    cases rv
    exact ⟨k, rfl, k' F' H' g R'⟩⟩
theorem opd_ii {g : Int → Int → V} {i j : Int} (hg : ∀ F, Rp F (g i j) z) : OpD (rI0 g) (.int i) (.int j) z := fun F H v u Q _ rv ru k => by
  cases rv; cases ru
  exact ⟨i, j, rfl, rfl, k _ (hg F)⟩
theorem opd_ic {C : Int → Int → Prop} {g : Int → Int → V} {i j : Int} (hc : C i j) (hg : ∀ F, Rp F (g i j) z) : OpD (rI C g) (.int i) (.int j) z := fun F H v u Q _ rv ru k => by
  cases rv; cases ru
  exact ⟨i, j, rfl, rfl, hc, k _ (hg F)⟩
theorem de_add {i j : Int} (ha : DE X δ a (.d (.int i)) δ1) (hb : DE X δ1 b (.d (.int j)) δ2) : DE X δ (.BinOp a .Add b pos) (.d (.int (i + j))) δ2 := de_bin op_add ha hb (opd_ii fun _ => .int _)
theorem de_sub {i j : Int} (ha : DE X δ a (.d (.int i)) δ1) (hb : DE X δ1 b (.d (.int j)) δ2) : DE X δ (.BinOp a .Sub b pos) (.d (.int (i - j))) δ2 := de_bin op_sub ha hb (opd_ii fun _ => .int _)
theorem de_mul {i j : Int} (ha : DE X δ a (.d (.int i)) δ1) (hb : DE X δ1 b (.d (.int j)) δ2) (hc : CMul i j) : DE X δ (.BinOp a .Mult b pos) (.d (.int (i * j))) δ2 := de_bin op_mul ha hb (opd_ic hc fun _ => .int _)
theorem de_mulW {i j : Int} (ha : DE X δ a (.d (.int i)) δ1) (hb : DE X δ1 b (.d (.int j)) δ2) (hc : CMulW i j) : DE X δ (.BinOp a .Mult b pos) (.d (.int (i * j))) δ2 := de_bin op_mulW ha hb (opd_ic hc fun _ => .int _)
theorem de_fdiv {i j : Int} (ha : DE X δ a (.d (.int i)) δ1) (hb : DE X δ1 b (.d (.int j)) δ2) (hc : CDivW i j) : DE X δ (.BinOp a .FloorDiv b pos) (.d (.int (i / j))) δ2 := de_bin op_fdivW ha hb (opd_ic hc fun _ => .int _)
theorem de_mod {i j : Int} (ha : DE X δ a (.d (.int i)) δ1) (hb : DE X δ1 b (.d (.int j)) δ2) (hc : 0 < j) : DE X δ (.BinOp a .Mod b pos) (.d (.int (i % j))) δ2 := de_bin op_mod ha hb (opd_ic hc fun _ => .int _)
theorem de_pow {i j : Int} (ha : DE X δ a (.d (.int i)) δ1) (hb : DE X δ1 b (.d (.int j)) δ2) (hc : CPow i j) : DE X δ (.BinOp a .Pow b pos) (.d (.int (i ^ j.toNat))) δ2 := de_bin op_pow ha hb (opd_ic hc fun _ => .int _)
theorem de_addS {s t : Str} (ha : DE X δ a (.d (.str s)) δ1) (hb : DE X δ1 b (.d (.str t)) δ2) (hl : s.length + t.length ≤ sizeLine) : DE X δ (.BinOp a .Add b pos) (.d (.str (s ++ t))) δ2 := de_bin op_add_str ha hb fun F H v u Q _ rv ru k => by
  cases rv; cases ru
  exact ⟨s, t, rfl, rfl, hl, k _ (.str _)⟩
theorem de_cat {xs ys : List D} (ha : DE X δ a (.d (.lst xs)) δ1) (hb : DE X δ1 b (.d (.lst ys)) δ2) (hl : xs.length + ys.length ≤ sizeLine) : DE X δ (.BinOp a .Add b pos) (.ow (xs ++ ys)) δ2 := de_binL op_cat ha hb fun F H v u Q e _ rv ru k => by
  cases rv with
  | lst h1 r1 =>
    cases ru with
    | lst h2 r2 => exact ⟨_, _, _, _, rfl, rfl, e _ _ h1, e _ _ h2, by rw [r1.length, r2.length]; exact hl, fun p hp => k p _ hp (r1.append r2)⟩
theorem de_catT {xs ys : List D} (ha : DE X δ a (.d (.tup xs)) δ1) (hb : DE X δ1 b (.d (.tup ys)) δ2) (hl : xs.length + ys.length ≤ sizeLine) (hx : xs ≠ []) (hy : ys ≠ []) : DE X δ (.BinOp a .Add b pos) (.d (.tup (xs ++ ys))) δ2 := de_binT op_catT ha hb fun F H v u Q e rv ru k => by
  cases rv with
  | tup h1 r1 =>
    cases ru with
    | tup h2 r2 =>
      rename_i vs1 _ vs2
      have n1 : vs1 ≠ [] := fun z => hx (List.eq_nil_of_length_eq_zero (by rw [← r1.length, z]; rfl))
      have n2 : vs2 ≠ [] := fun z => hy (List.eq_nil_of_length_eq_zero (by rw [← r2.length, z]; rfl))
      exact ⟨_, _, _, _, rfl, rfl, SqT.of (e _ _ h1), SqT.of (e _ _ h2), n1, by rw [r1.length, r2.length]; exact hl, fun z => absurd z n2, fun _ p hp => k p _ hp (r1.append r2)⟩
theorem de_eq {k : Nat} (hr : Room k X.A) (hx : x.sh) (hy : y.sh) (ha : DE X δ a (.d x) δ1) (hb : DE X δ1 b (.d y) δ2) : DE X δ (.Compare a [.Eq] [b] pos) (.d (.bl (x.eqv y))) δ2 := de_cmp (op_eqD hr.units) ha hb (fun F H v u Q e rv ru k =>
  ⟨x.py, y.py, rv.dp e hx.1, ru.dp e hy.1, hx.py, hy.py, k _ (.bl _)⟩) (nomark _)
theorem de_ne {k : Nat} (hr : Room k X.A) (hx : x.sh) (hy : y.sh) (ha : DE X δ a (.d x) δ1) (hb : DE X δ1 b (.d y) δ2) : DE X δ (.Compare a [.NotEq] [b] pos) (.d (.bl (!x.eqv y))) δ2 := de_cmp (op_neD hr.units) ha hb (fun F H v u Q e rv ru k =>
  ⟨x.py, y.py, rv.dp e hx.1, ru.dp e hy.1, hx.py, hy.py, k _ (.bl _)⟩) (nomark _)

theorem dt_ii {k : Bool} {op : CmpOp} {g : Int → Int → Bool} {i j : Int} (ho : OpR X (compareOp op) (rI0 fun i j => .bl (g i j))) (ha : DE X δ a (.d (.int i)) δ1) (hb : DE X δ1 b (.d (.int j)) δ2) (hk : g i j = k) (hm : behindInMarks op b = false) : DT X δ (.Compare a [op] [b] pos) k δ2 :=
  dt_cmp ho ha hb (opd_ii fun _ => by rw [hk]; exact .bl k) hm
theorem dt_lt {k : Bool} {i j : Int} (ha : DE X δ a (.d (.int i)) δ1) (hb : DE X δ1 b (.d (.int j)) δ2) (hk : decide (i < j) = k) : DT X δ (.Compare a [.Lt] [b] pos) k δ2 := dt_ii op_lt ha hb hk (nomark _)
theorem dt_le {k : Bool} {i j : Int} (ha : DE X δ a (.d (.int i)) δ1) (hb : DE X δ1 b (.d (.int j)) δ2) (hk : decide (i ≤ j) = k) : DT X δ (.Compare a [.LtE] [b] pos) k δ2 := dt_ii op_le ha hb hk (nomark _)
theorem dt_gt {k : Bool} {i j : Int} (ha : DE X δ a (.d (.int i)) δ1) (hb : DE X δ1 b (.d (.int j)) δ2) (hk : decide (j < i) = k) : DT X δ (.Compare a [.Gt] [b] pos) k δ2 := dt_ii op_gt ha hb hk (nomark _)
theorem dt_ge {k : Bool} {i j : Int} (ha : DE X δ a (.d (.int i)) δ1) (hb : DE X δ1 b (.d (.int j)) δ2) (hk : decide (j ≤ i) = k) : DT X δ (.Compare a [.GtE] [b] pos) k δ2 := dt_ii op_ge ha hb hk (nomark _)
theorem de_lt {k : Bool} {i j : Int} (ha : DE X δ a (.d (.int i)) δ1) (hb : DE X δ1 b (.d (.int j)) δ2) (hk : decide (i < j) = k) : DE X δ (.Compare a [.Lt] [b] pos) (.d (.bl k)) δ2 := de_cmp op_lt ha hb (opd_ii fun _ => by rw [hk]; exact .bl k) (nomark _)
theorem de_le {k : Bool} {i j : Int} (ha : DE X δ a (.d (.int i)) δ1) (hb : DE X δ1 b (.d (.int j)) δ2) (hk : decide (i ≤ j) = k) : DE X δ (.Compare a [.LtE] [b] pos) (.d (.bl k)) δ2 := de_cmp op_le ha hb (opd_ii fun _ => by rw [hk]; exact .bl k) (nomark _)
theorem de_gt {k : Bool} {i j : Int} (ha : DE X δ a (.d (.int i)) δ1) (hb : DE X δ1 b (.d (.int j)) δ2) (hk : decide (j < i) = k) : DE X δ (.Compare a [.Gt] [b] pos) (.d (.bl k)) δ2 := de_cmp op_gt ha hb (opd_ii fun _ => by rw [hk]; exact .bl k) (nomark _)
theorem de_ge {k : Bool} {i j : Int} (ha : DE X δ a (.d (.int i)) δ1) (hb : DE X δ1 b (.d (.int j)) δ2) (hk : decide (j ≤ i) = k) : DE X δ (.Compare a [.GtE] [b] pos) (.d (.bl k)) δ2 := de_cmp op_ge ha hb (opd_ii fun _ => by rw [hk]; exact .bl k) (nomark _)
theorem dt_eq {k : Bool} {n : Nat} (hr : Room n X.A) (hx : x.sh) (hy : y.sh) (ha : DE X δ a (.d x) δ1) (hb : DE X δ1 b (.d y) δ2) (hk : x.eqv y = k) : DT X δ (.Compare a [.Eq] [b] pos) k δ2 := dt_cmp (op_eqD hr.units) ha hb (fun F H v u Q e rv ru k' =>
  ⟨x.py, y.py, rv.dp e hx.1, ru.dp e hy.1, hx.py, hy.py, k' _ (by show Rp F (.bl (x.eqv y)) _; rw [hk]; exact .bl k)⟩) (nomark _)
theorem dt_ne {k : Bool} {n : Nat} (hr : Room n X.A) (hx : x.sh) (hy : y.sh) (ha : DE X δ a (.d x) δ1) (hb : DE X δ1 b (.d y) δ2) (hk : (!x.eqv y) = k) : DT X δ (.Compare a [.NotEq] [b] pos) k δ2 := dt_cmp (op_neD hr.units) ha hb (fun F H v u Q e rv ru k' =>
  ⟨x.py, y.py, rv.dp e hx.1, ru.dp e hy.1, hx.py, hy.py, k' _ (by show Rp F (.bl (!x.eqv y)) _; rw [hk]; exact .bl k)⟩) (nomark _)
/-- is None -/
def D.isNon : D → Bool
  | .non => true
  | _ => false
theorem Rp.isNon {F : Hp} {v : V} {d : D} (h : Rp F v d) : decide (v = .non) = d.isNon := by
  cases h <;> simp [D.isNon]
theorem de_isN {j : Nat} {p2 : Pos} (ha : DE X δ a (.d x) δ1) : DE X δ (.Compare a [.Is] [.Constant .none j p2] pos) (.d (.bl x.isNon)) δ1 := de_cmp op_isN ha de_non (fun F H v u Q e rv ru k => by
  cases ru
  exact ⟨rfl, k _ (by rw [rv.isNon]; exact .bl _)⟩) (nomark _)
theorem de_notN {j : Nat} {p2 : Pos} (ha : DE X δ a (.d x) δ1) : DE X δ (.Compare a [.IsNot] [.Constant .none j p2] pos) (.d (.bl (!x.isNon))) δ1 := de_cmp op_notN ha de_non (fun F H v u Q e rv ru k => by
  cases ru
  exact ⟨rfl, k _ (by rw [rv.isNon]; exact .bl _)⟩) (nomark _)
theorem dt_isN {j : Nat} {p2 : Pos} {k : Bool} (ha : DE X δ a (.d x) δ1) (hk : x.isNon = k) : DT X δ (.Compare a [.Is] [.Constant .none j p2] pos) k δ1 := dt_cmp op_isN ha de_non (fun F H v u Q e rv ru k' => by
  cases ru
  exact ⟨rfl, k' _ (by rw [rv.isNon, hk]; exact .bl _)⟩) (nomark _)
theorem dt_notN {j : Nat} {p2 : Pos} {k : Bool} (ha : DE X δ a (.d x) δ1) (hk : (!x.isNon) = k) : DT X δ (.Compare a [.IsNot] [.Constant .none j p2] pos) k δ1 := dt_cmp op_notN ha de_non (fun F H v u Q e rv ru k' => by
  cases ru
  exact ⟨rfl, k' _ (by rw [rv.isNon, hk]; exact .bl _)⟩) (nomark _)
/-- s <= t <= u, texts -/
theorem de_chain_le {s t u : Str} (ha : DE X δ a (.d (.str s)) δ) (hb : DE X δ b (.d (.str t)) δ) (hc : DE X δ c (.d (.str u)) δ) (hm : lastMarks [.LtE, .LtE] [b, c] = false := by with_unfolding_all rfl) :
    DE X δ (.Compare a [.LtE, .LtE] [b, c] pos) (.d (.bl (!decide (t.cps.toList < s.cps.toList) && !decide (u.cps.toList < t.cps.toList)))) δ :=
  (pe_chain op_le_str op_le_str ha hb hc hm).imp fun σ H Q ⟨F, R, k⟩ => by
    refine two_ ⟨F, R, fun v w F' H' g R' r1 r2 => ?_⟩
    cases r1; cases r2
    refine ⟨s, t, rfl, rfl, _, rfl, ?_⟩
    refine ite2 (fun q => ?_) fun q => ?_
    · refine ⟨F', R', fun z F2 H2 g2 R2 r3 => ?_⟩
      cases r3
      refine ⟨t, u, rfl, rfl, k _ F2 H2 (g.trans g2) R2 ?_⟩
      rw [q, Bool.true_and]
      exact .bl _
    · refine k _ F' H' g R' ?_
      rw [Bool.eq_false_iff.mpr q, Bool.false_and]
      exact .bl _

/-! ### and, or, not, if -/
variable {rest : List Expr} {p q : Bool}
theorem de_one {op : BoolOp} {r : DV} {δ' : List DV} (h : DE X δ a r δ') : DE X δ (.BoolOp op [a] pos) r δ' := pe_one h
theorem de_and {δ2 : List DV} (ha : DE X δ a (.d (.bl p)) δ1) (hb : p = true → DE X δ1 (.BoolOp .And (b :: rest) pos) (.d (.bl q)) δ2) (he : p = false → δ2 = δ1) : DE X δ (.BoolOp .And (a :: b :: rest) pos) (.d (.bl (p && q))) δ2 := by
  cases p with
  | true => exact (pe_and ha (hb rfl)).imp fun σ H Q ⟨F, R, k⟩ => ⟨F, R, fun v F1 H1 g1 R1 r1 => by
      cases r1
      refine ⟨true, rfl, iteT ⟨F1, R1, fun w F2 H2 g2 R2 r2 => k w F2 H2 (g1.trans g2) R2 (by rw [Bool.true_and]; exact r2)⟩⟩⟩
  | false =>
    rw [he rfl]
    exact (pe_and (tb := fun _ _ _ => False) ha ⟨fun _ _ _ _ _ _ h => h.elim⟩).imp fun σ H Q ⟨F, R, k⟩ => ⟨F, R, fun v F1 H1 g1 R1 r1 => by
      cases r1
      exact ⟨false, rfl, iteF (k _ F1 H1 g1 R1 (by rw [Bool.false_and]; exact .bl _))⟩⟩
theorem de_or {δ2 : List DV} (ha : DE X δ a (.d (.bl p)) δ1) (hb : p = false → DE X δ1 (.BoolOp .Or (b :: rest) pos) (.d (.bl q)) δ2) (he : p = true → δ2 = δ1) : DE X δ (.BoolOp .Or (a :: b :: rest) pos) (.d (.bl (p || q))) δ2 := by
  cases p with
  | false => exact (pe_or ha (hb rfl)).imp fun σ H Q ⟨F, R, k⟩ => ⟨F, R, fun v F1 H1 g1 R1 r1 => by
      cases r1
      refine ⟨false, rfl, iteF ⟨F1, R1, fun w F2 H2 g2 R2 r2 => k w F2 H2 (g1.trans g2) R2 (by rw [Bool.false_or]; exact r2)⟩⟩⟩
  | true =>
    rw [he rfl]
    exact (pe_or (tb := fun _ _ _ => False) ha ⟨fun _ _ _ _ _ _ h => h.elim⟩).imp fun σ H Q ⟨F, R, k⟩ => ⟨F, R, fun v F1 H1 g1 R1 r1 => by
      cases r1
      exact ⟨true, rfl, iteT (k _ F1 H1 g1 R1 (by rw [Bool.true_or]; exact .bl _))⟩⟩
theorem de_not (ha : DE X δ a (.d (.bl p)) δ1) : DE X δ (.UnaryOp .Not a pos) (.d (.bl (!p))) δ1 := (pe_not ha).imp fun σ H Q ⟨F, R, k⟩ => ⟨F, R, fun v F1 H1 g1 R1 r1 => by
  cases r1
  exact ⟨p, rfl, k _ F1 H1 g1 R1 (.bl _)⟩⟩
theorem de_ifT {t : Bool} {ra : DV} (hc : DT X δ c t δ1) (h : t = true) (ha : DE X δ1 a ra δ2) : DE X δ (.IfExp c a b pos) ra δ2 := by
  subst h
  exact (pe_ifExp (tb := fun _ _ _ => False) hc ha ⟨fun _ _ _ _ _ _ h => h.elim⟩).imp fun σ H Q ⟨F, R, k⟩ => ⟨F, R, fun F1 H1 g1 R1 => iteT ⟨F1, R1, fun w F2 H2 g2 R2 r2 => k w F2 H2 (g1.trans g2) R2 (Res.back g1 r2)⟩⟩
theorem de_ifF {t : Bool} {ra : DV} (hc : DT X δ c t δ1) (h : t = false) (hb : DE X δ1 b ra δ2) : DE X δ (.IfExp c a b pos) ra δ2 := by
  subst h
  exact (pe_ifExp (ta := fun _ _ _ => False) hc ⟨fun _ _ _ _ _ _ h => h.elim⟩ hb).imp fun σ H Q ⟨F, R, k⟩ => ⟨F, R, fun F1 H1 g1 R1 => iteF ⟨F1, R1, fun w F2 H2 g2 R2 r2 => k w F2 H2 (g1.trans g2) R2 (Res.back g1 r2)⟩⟩
theorem de_if {t : Bool} {ra rb : DV} (hc : DT X δ c t δ1) (ha : t = true → DE X δ1 a ra δ2) (hb : t = false → DE X δ1 b rb δ2) : DE X δ (.IfExp c a b pos) (if t then ra else rb) δ2 := by
  cases t with
  | true => exact de_ifT hc rfl (ha rfl)
  | false => exact de_ifF hc rfl (hb rfl)
/-! ### tests -/
theorem dt_bl (h : DE X δ e (.d (.bl p)) δ1) (he : ∀ whole, isTrue e X.env whole = (do let v ← whole; standAt e.pos; holding [v] (truthy v)) := by intro _; rfl) : DT X δ e p δ1 := (pt_val h he).imp fun σ H Q ⟨F, R, k⟩ => ⟨F, R, fun v F1 H1 g1 R1 r1 => by
  cases r1
  exact ⟨p, rfl, k F1 H1 g1 R1⟩⟩
theorem dt_not (h : DT X δ a p δ1) : DT X δ (.UnaryOp .Not a pos) (!p) δ1 := (pt_not h).imp fun σ H Q h => h
/-- a test of and, or, whatever stands around -/
abbrev DW (X : Cx) (δ : List DV) (e : Expr) (b : Bool) (δ' : List DV) : Prop := PW X e (tDT δ b δ')
theorem PW.imp {X : Cx} {e : Expr} {t u : TT} (h : PW X e t) (k : ∀ σ H Q, u σ H Q → t σ H Q) : PW X e u := ⟨fun wh pins s σ H Q I q => h.run wh pins s σ H Q I (k _ _ _ q)⟩
theorem dw_and1 (h : DT X δ a p δ1) : DW X δ (.BoolOp .And [a] pos) p δ1 := pw_and1 h
theorem dw_or1 (h : DT X δ a p δ1) : DW X δ (.BoolOp .Or [a] pos) p δ1 := pw_or1 h
theorem dw_and {δ2 : List DV} (ha : DT X δ a p δ1) (hb : p = true → DW X δ1 (.BoolOp .And (b :: rest) pos) q δ2) (he : p = false → δ2 = δ1) : DW X δ (.BoolOp .And (a :: b :: rest) pos) (p && q) δ2 := by
  cases p with
  | true => exact PW.imp (pw_and ha (hb rfl)) fun σ H Q ⟨F, R, k⟩ => ⟨F, R, fun F1 H1 g1 R1 => iteT ⟨F1, R1, fun F2 H2 g2 R2 => k F2 H2 (g1.trans g2) R2⟩⟩
  | false =>
    rw [he rfl]
    exact PW.imp (pw_and (tB' := fun _ _ _ => False) ha ⟨fun _ _ _ _ _ _ _ h => h.elim⟩) fun σ H Q ⟨F, R, k⟩ => ⟨F, R, fun F1 H1 g1 R1 => iteF (k F1 H1 g1 R1)⟩
theorem dw_or {δ2 : List DV} (ha : DT X δ a p δ1) (hb : p = false → DW X δ1 (.BoolOp .Or (b :: rest) pos) q δ2) (he : p = true → δ2 = δ1) : DW X δ (.BoolOp .Or (a :: b :: rest) pos) (p || q) δ2 := by
  cases p with
  | false => exact PW.imp (pw_or ha (hb rfl)) fun σ H Q ⟨F, R, k⟩ => ⟨F, R, fun F1 H1 g1 R1 => iteF ⟨F1, R1, fun F2 H2 g2 R2 => k F2 H2 (g1.trans g2) R2⟩⟩
  | true =>
    rw [he rfl]
    exact PW.imp (pw_or (tB' := fun _ _ _ => False) ha ⟨fun _ _ _ _ _ _ _ h => h.elim⟩) fun σ H Q ⟨F, R, k⟩ => ⟨F, R, fun F1 H1 g1 R1 => iteT (k F1 H1 g1 R1)⟩
theorem dt_w (h : DW X δ e p δ1) : DT X δ e p δ1 := h.pt
/-- data's truth -/
def D.tru : D → Option Bool
  | .non => some false
  | .bl b => some b
  | .int i => some (i != 0)
  | .str s => if s.length ≤ sizeLine then some (s.length != 0) else none
  | .lst xs => some (!xs.isEmpty)
  | .tup xs => some (!xs.isEmpty)
  | _ => none
theorem RpA.emp {F : Hp} {vs : List V} {ds : List D} (h : RpA F vs ds) : vs.isEmpty = ds.isEmpty := by cases h <;> rfl
theorem Rp.tru {F H : Hp} {K : PySem.W.Frag} {v : V} {d : D} {k : Bool} (e : Ex F H) (h : Rp F v d) (hk : d.tru = some k) : TruV K v H k := by
  cases h with
  | non => simpa [D.tru, TruV] using hk.symm
  | bl b => simpa [D.tru, TruV] using hk.symm
  | int i => simpa [D.tru, TruV] using hk.symm
  | str s =>
    simp only [D.tru] at hk
    split at hk
    · rename_i hl
      refine ⟨hl, ?_⟩
      cases hk
      rw [Bool.eq_iff_iff]
      simp
    · cases hk
  | lst h1 r => exact .inl ⟨_, SqL.of (e _ _ h1), by rw [r.emp]; exact (Option.some.inj hk).symm⟩
  | tup h1 r => exact .inr (.inl ⟨_, SqT.of (e _ _ h1), by rw [r.emp]; exact (Option.some.inj hk).symm⟩)
  | dct _ _ _ => cases hk
  | exc _ _ _ => cases hk
  | fn _ => cases hk
theorem dt_tru {k : Bool} (h : DE X δ e (.d x) δ1) (hk : x.tru = some k) (he : ∀ whole, isTrue e X.env whole = (do let v ← whole; standAt e.pos; holding [v] (truthy v)) := by intro _; rfl) : DT X δ e k δ1 := (pt_truth h he).imp fun σ H Q ⟨F, R, k'⟩ => ⟨F, R, fun v F1 H1 g1 R1 r1 =>
  ⟨k, Rp.tru R1.sub r1 hk, k' F1 H1 g1 R1⟩⟩
/-- the truth of a list of the frame's own -/
theorem dt_ow {i : Nat} {n : Str} {xs : List D} (hN : X.N[i]? = some n) (hv : Vis X.env.scope n) (h : δ[i]? = some (.ow xs)) (hd : (n == ("__debug__" : Str)) = false := by decide) (hcd : (n == ("__classdict__" : Str)) = false := by decide) (he : ∀ whole, isTrue (.Name n pos) X.env whole = (do let v ← whole; standAt pos; holding [v] (truthy v)) := by intro _; rfl) :
    DT X δ (.Name n pos) (!xs.isEmpty) δ := (pt_truth (pe_var (i := i) hN hv hd hcd) he).imp fun σ H Q ⟨F, R, k⟩ => by
  obtain ⟨o, e, p, vs, q1, q2, q3, q4⟩ := R.at_ i _ h
  exact ⟨.ref p, by rw [e, q1], _, .inl ⟨_, SqL.of q3, rfl⟩, by rw [q4.emp]; exact k F H (.refl _ F H) R⟩

/-! ### displays, arguments -/
theorem da_nil : DA X δ [] [] δ := pa_nil.imp fun σ H Q ⟨F, R, k⟩ => k [] F H (.refl _ F H) R .nil
theorem AVs.ex {F F' : Hp} {σ : L2.St} (e : Ex F F') : ∀ {vs : List V} {as : List AV}, AVs F σ vs as → AVs F' σ vs as
  | _, _, .nil => .nil
  | _, .d x :: _, .cons r t => .cons (show Rp F' _ x from Rp.ex e r) (AVs.ex e t)
  | _, .sl i :: _, .cons r t => .cons r (AVs.ex e t)
  | _, .raw w :: _, .cons r t => .cons r (AVs.ex e t)
  | _, .pr P :: _, .cons r t => .cons (fun F2 e2 => r F2 (e.trans e2)) (AVs.ex e t)
variable {es : List Expr} {as : List AV}
theorem da_cons (ha : DE X δ e (.d x) δ1) (hr : DA X δ1 es as δ2) (hs : starEach (e :: es) X.env = (false, eval e X.env) :: starEach es X.env := by rfl) : DA X δ (e :: es) (.d x :: as) δ2 := (pa_cons ha hr hs).imp fun σ H Q ⟨F, R, k⟩ => ⟨F, R, fun v F1 H1 g1 R1 r1 => ⟨F1, R1, fun vs F2 H2 g2 R2 r2 => k _ F2 H2 (g1.trans g2) R2 (.cons (show Rp F2 v x from Rp.ex g2.ff r1) r2)⟩⟩
theorem da_raw {w : V} (ha : DE X δ e (.raw w) δ1) (hr : DA X δ1 es as δ2) (hs : starEach (e :: es) X.env = (false, eval e X.env) :: starEach es X.env := by rfl) : DA X δ (e :: es) (.raw w :: as) δ2 := (pa_cons ha hr hs).imp fun σ H Q ⟨F, R, k⟩ => ⟨F, R, fun v F1 H1 g1 R1 r1 => ⟨F1, R1, fun vs F2 H2 g2 R2 r2 => k _ F2 H2 (g1.trans g2) R2 (.cons (show v = w from r1) r2)⟩⟩
theorem da_pr {P : Hp → V → Prop} (ha : DE X δ e (.pr P) δ1) (hr : DA X δ1 es as δ2) (hs : starEach (e :: es) X.env = (false, eval e X.env) :: starEach es X.env := by rfl) : DA X δ (e :: es) (.pr P :: as) δ2 := (pa_cons ha hr hs).imp fun σ H Q ⟨F, R, k⟩ => ⟨F, R, fun v F1 H1 g1 R1 r1 => ⟨F1, R1, fun vs F2 H2 g2 R2 r2 => k _ F2 H2 (g1.trans g2) R2 (.cons (show ∀ F3, Ex F2 F3 → P F3 v from fun F3 e => r1 F3 (g2.ff.trans e)) r2)⟩⟩
theorem da_c {w : V} (ha : PE X e (tC w)) (hr : DA X δ es as δ2) (hs : starEach (e :: es) X.env = (false, eval e X.env) :: starEach es X.env := by rfl) : DA X δ (e :: es) (.raw w :: as) δ2 := (pa_cons ha hr hs).imp fun σ H Q ⟨F, R, k⟩ => ⟨F, R, fun vs F2 H2 g2 R2 r2 => k _ F2 H2 g2 R2 (.cons (show w = w from rfl) r2)⟩
theorem da_sl {i : Nat} {n : Str} {xs : List D} (hN : X.N[i]? = some n) (hv : Vis X.env.scope n) (h : δ[i]? = some (.ow xs)) (hr : DA X δ es as δ2) (hs : starEach (.Name n pos :: es) X.env = (false, eval (.Name n pos) X.env) :: starEach es X.env := by rfl)
    (hd : (n == ("__debug__" : Str)) = false := by decide) (hcd : (n == ("__classdict__" : Str)) = false := by decide) : DA X δ (.Name n pos :: es) (.sl i :: as) δ2 := (pa_cons (pe_var (i := i) hN hv hd hcd) hr hs).imp fun σ H Q ⟨F, R, k⟩ => by
  obtain ⟨o, e, p, vs, q1, q2, q3, q4⟩ := R.at_ i _ h
  have e2 : σ[i]? = some (some (.ref p)) := by rw [e, q1]
  exact ⟨.ref p, e2, F, R, fun vs F2 H2 g2 R2 r2 => k _ F2 H2 g2 R2 (.cons (show σ[i]? = some (some (.ref p)) from e2) r2)⟩
/-- arguments that are data alone -/
def AV.ds : List AV → Option (List D)
  | [] => some []
  | .d x :: r => (AV.ds r).map (x :: ·)
  | _ :: _ => none
theorem AVs.rpA {F : Hp} {σ : L2.St} : ∀ {vs : List V} {as : List AV} {ds : List D}, AVs F σ vs as → AV.ds as = some ds → RpA F vs ds
  | _, _, _, .nil, h => by cases h; exact .nil
  | _, .d x :: as, _, .cons r t, h => by
    obtain ⟨l, h1, rfl⟩ := Option.map_eq_some_iff.mp (show (AV.ds as).map (x :: ·) = some _ from h)
    exact .cons r (AVs.rpA t h1)
  | _, .sl _ :: _, _, .cons _ _, h => by cases h
  | _, .raw _ :: _, _, .cons _ _, h => by cases h
  | _, .pr _ :: _, _, .cons _ _, h => by cases h
theorem de_lst {ds : List D} (h : DA X δ es as δ1) (hd : AV.ds as = some ds) (hl : ds.length ≤ sizeLine) : DE X δ (.List es pos) (.ow ds) δ1 := (pe_lst h).imp fun σ H Q ⟨F, R, k⟩ => ⟨F, R, fun vs F1 H1 g1 R1 r1 => by
  have ra := r1.rpA hd
  exact ⟨by rw [ra.length]; exact hl, fun p hp => fin_own k g1 R1 hp ra⟩⟩
theorem de_tup {ds : List D} {j : Nat} (h : DA X δ es as δ1) (hd : AV.ds as = some ds) (hl : ds.length ≤ sizeLine) : DE X δ (.Tuple es j pos) (.d (.tup ds)) δ1 := (pe_tup h).imp fun σ H Q ⟨F, R, k⟩ => ⟨F, R, fun vs F1 H1 g1 R1 r1 => by
  have ra := r1.rpA hd
  exact ⟨by rw [ra.length]; exact hl, fun p hp => fin_new k g1 R1 hp (.tup upd_same (ra.ex (.new (R1.sub.none hp))))⟩⟩
theorem de_dct0 : DE X δ (.Dict [] [] pos) (.d (.dct [] [])) δ := pe_dnewK.imp fun σ H Q ⟨F, R, k⟩ => fun p hp => fin_new k (.refl _ F H) R hp (.dct upd_same rfl .nil)

/-! ### built-ins by name -/
/-- a call on values that gives data, the heap as it was -/
def CaD (r : List V → Hp → VK → Prop) (as : List AV) (z : D) : Prop := ∀ (F H : Hp) (σ : L2.St) (vs : List V) (Q : VK), Ex F H → AVs F σ vs as → (∀ w, Rp F w z → Q w H) → r vs H Q
def CaL (r : List V → Hp → VK → Prop) (as : List AV) (zs : List D) : Prop := ∀ (F H : Hp) (σ : L2.St) (vs : List V) (Q : VK), Ex F H → AVs F σ vs as → (∀ p us, H p = none → RpA F us zs → Q (.ref p) (upd H p (.lst us))) → r vs H Q
def CaT (r : List V → Hp → VK → Prop) (as : List AV) (zs : List D) : Prop := ∀ (F H : Hp) (σ : L2.St) (vs : List V) (Q : VK), Ex F H → AVs F σ vs as → (∀ p us, H p = none → RpA F us zs → Q (.ref p) (upd H p (.tup us))) → r vs H Q
theorem ca_d {q : List V → Hp → VK → Prop} (hr : CaD q as z) {Q : VK} (h : tD δ (.d z) δ1 σ H Q) : tCB q (tDA δ as δ1) σ H Q := by
  obtain ⟨F, R, k⟩ := h
  exact ⟨F, R, fun vs F1 H1 g1 R1 r1 => hr F1 H1 σ vs Q R1.sub r1 fun w rw => k w F1 H1 g1 R1 rw⟩
theorem ca_l {q : List V → Hp → VK → Prop} {zs : List D} (hr : CaL q as zs) {Q : VK} (h : tD δ (.ow zs) δ1 σ H Q) : tCB q (tDA δ as δ1) σ H Q := by
  obtain ⟨F, R, k⟩ := h
  exact ⟨F, R, fun vs F1 H1 g1 R1 r1 => hr F1 H1 σ vs Q R1.sub r1 fun p us hp ra => fin_own k g1 R1 hp ra⟩
theorem ca_t {q : List V → Hp → VK → Prop} {zs : List D} (hr : CaT q as zs) {Q : VK} (h : tD δ (.d (.tup zs)) δ1 σ H Q) : tCB q (tDA δ as δ1) σ H Q := by
  obtain ⟨F, R, k⟩ := h
  exact ⟨F, R, fun vs F1 H1 g1 R1 r1 => hr F1 H1 σ vs Q R1.sub r1 fun p us hp ra => fin_new k g1 R1 hp (.tup upd_same (ra.ex (.new (R1.sub.none hp))))⟩
end
end DL
end
section
set_option Elab.async false
set_option linter.all false
set_option maxRecDepth 100000
/-! DLc: built-in functions, subscripts, slices over frames of data. -/
namespace DL
open PySem PySem.Spec PyProof.Rows L2
variable [TL]

section
variable {X : Cx} {δ δ1 δ2 δ3 : List DV} {a b c e : Expr} {x y z r : D} {pos p1 p2 : Pos} {σ : L2.St} {H : Hp} {F : Hp} {es : List Expr} {as : List AV}

/-! ### calls of built-ins by name -/
theorem de_bi {n : Str} {id : String} {q : List V → Hp → VK → Prop} (hc : CallR X (.builtin id) q) (hg : Gl X n) (hm : X.mg n = none) (hv : bootBuiltins n = some (.builtin id)) (ha : DA X δ (e :: es) as δ1) (hr : CaD q as z) (hn : n ≠ "__name__" := by decide) (hdb : (n == ("__debug__" : Str)) = false := by decide)
    (he : starEach (e :: es) X.env = (false, eval e X.env) :: starEach es X.env := by rfl) (hpl : (backTo pos (starEach es X.env)).any (·.1) = false := by rfl) : DE X δ (.Call (.Name n p1) (e :: es) [] pos) (.d z) δ1 := (pe_callB hc hg hm hv ha hn hdb he hpl).imp fun _ _ _ h => ca_d hr h
theorem de_biL {n : Str} {id : String} {q : List V → Hp → VK → Prop} {zs : List D} (hc : CallR X (.builtin id) q) (hg : Gl X n) (hm : X.mg n = none) (hv : bootBuiltins n = some (.builtin id)) (ha : DA X δ (e :: es) as δ1) (hr : CaL q as zs) (hn : n ≠ "__name__" := by decide) (hdb : (n == ("__debug__" : Str)) = false := by decide)
    (he : starEach (e :: es) X.env = (false, eval e X.env) :: starEach es X.env := by rfl) (hpl : (backTo pos (starEach es X.env)).any (·.1) = false := by rfl) : DE X δ (.Call (.Name n p1) (e :: es) [] pos) (.ow zs) δ1 := (pe_callB hc hg hm hv ha hn hdb he hpl).imp fun _ _ _ h => ca_l hr h
theorem de_ty {n : Str} {T : String} {q : List V → Hp → VK → Prop} (hc : CallR X (.type T) q) (hg : Gl X n) (hm : X.mg n = none) (hv : bootBuiltins n = some (.type T)) (ha : DA X δ (e :: es) as δ1) (hr : CaD q as z) (hn : n ≠ "__name__" := by decide) (hdb : (n == ("__debug__" : Str)) = false := by decide)
    (he : starEach (e :: es) X.env = (false, eval e X.env) :: starEach es X.env := by rfl) (hpl : (backTo pos (starEach es X.env)).any (·.1) = false := by rfl) : DE X δ (.Call (.Name n p1) (e :: es) [] pos) (.d z) δ1 := (pe_callTy hc hg hm hv ha hn hdb he hpl).imp fun _ _ _ h => ca_d hr h
theorem de_tyL {n : Str} {T : String} {q : List V → Hp → VK → Prop} {zs : List D} (hc : CallR X (.type T) q) (hg : Gl X n) (hm : X.mg n = none) (hv : bootBuiltins n = some (.type T)) (ha : DA X δ (e :: es) as δ1) (hr : CaL q as zs) (hn : n ≠ "__name__" := by decide) (hdb : (n == ("__debug__" : Str)) = false := by decide)
    (he : starEach (e :: es) X.env = (false, eval e X.env) :: starEach es X.env := by rfl) (hpl : (backTo pos (starEach es X.env)).any (·.1) = false := by rfl) : DE X δ (.Call (.Name n p1) (e :: es) [] pos) (.ow zs) δ1 := (pe_callTy hc hg hm hv ha hn hdb he hpl).imp fun _ _ _ h => ca_l hr h
theorem de_tyT {n : Str} {T : String} {q : List V → Hp → VK → Prop} {zs : List D} (hc : CallR X (.type T) q) (hg : Gl X n) (hm : X.mg n = none) (hv : bootBuiltins n = some (.type T)) (ha : DA X δ (e :: es) as δ1) (hr : CaT q as zs) (hn : n ≠ "__name__" := by decide) (hdb : (n == ("__debug__" : Str)) = false := by decide)
    (he : starEach (e :: es) X.env = (false, eval e X.env) :: starEach es X.env := by rfl) (hpl : (backTo pos (starEach es X.env)).any (·.1) = false := by rfl) : DE X δ (.Call (.Name n p1) (e :: es) [] pos) (.d (.tup zs)) δ1 := (pe_callTy hc hg hm hv ha hn hdb he hpl).imp fun _ _ _ h => ca_t hr h

theorem AVs.one {F : Hp} {σ : L2.St} {vs : List V} {x : D} (h : AVs F σ vs [.d x]) : ∃ v, vs = [v] ∧ Rp F v x := by
  cases h with
  | cons r t => cases t; exact ⟨_, rfl, r⟩
theorem AVs.two {F : Hp} {σ : L2.St} {vs : List V} {x y : D} (h : AVs F σ vs [.d x, .d y]) : ∃ v w, vs = [v, w] ∧ Rp F v x ∧ Rp F w y := by
  cases h with
  | cons r t =>
    cases t with
    | cons r2 t => cases t; exact ⟨_, _, rfl, r, r2⟩
/-- len -/
def D.len : D → Option Nat
  | .str s => if s.length ≤ sizeLine then some s.length else none
  | .lst xs => some xs.length
  | .tup xs => some xs.length
  | _ => none
theorem de_len {n : Nat} (hg : Gl X "len") (hm : X.mg "len" = none) (ha : DE X δ a (.d x) δ1) (hl : x.len = some n) (he : starEach [a] X.env = (false, eval a X.env) :: starEach [] X.env := by rfl) : DE X δ (.Call (.Name "len" p1) [a] [] pos) (.d (.int n)) δ1 :=
  de_bi call_len hg hm boot_len (da_cons ha da_nil he) (fun F H σ vs Q ex h k => by
    obtain ⟨v, rfl, r⟩ := h.one
    refine ⟨v, n, rfl, ?_, k _ (.int _)⟩
    cases r with
    | str s =>
      simp only [D.len] at hl
      split at hl
      · rename_i q; cases hl; exact ⟨q, rfl⟩
      · cases hl
    | lst h1 r => cases hl; exact .inl ⟨_, SqL.of (ex _ _ h1), r.length.symm⟩
    | tup h1 r => cases hl; exact .inr ⟨_, SqT.of (ex _ _ h1), r.length.symm⟩
    | _ => cases hl) (he := he)
/-- len of a list of the frame's own -/
theorem de_lenO {i : Nat} {n : Str} {xs : List D} (hg : Gl X "len") (hm : X.mg "len" = none) (hN : X.N[i]? = some n) (hv : Vis X.env.scope n) (h : δ[i]? = some (.ow xs)) (hd : (n == ("__debug__" : Str)) = false := by decide) (hcd : (n == ("__classdict__" : Str)) = false := by decide)
    (he : starEach [Expr.Name n p2] X.env = (false, eval (.Name n p2) X.env) :: starEach [] X.env := by rfl) : DE X δ (.Call (.Name "len" p1) [.Name n p2] [] pos) (.d (.int xs.length)) δ :=
  (pe_callB call_len hg hm boot_len (pa_cons (pe_var (i := i) hN hv hd hcd) pa_nil he) (he := he)).imp fun σ H Q ⟨F, R, k⟩ => by
    obtain ⟨o, e, p, vs, q1, q2, q3, q4⟩ := R.at_ i _ h
    exact ⟨.ref p, by rw [e, q1], .ref p, vs.length, rfl, .inl ⟨_, SqL.of q3, rfl⟩, by rw [q4.length]; exact k _ F H (.refl _ F H) R (.int _)⟩
/-- isinstance: what class data is of -/
def D.cls : D → Value
  | .non => .type "NoneType"
  | .bl _ => .type "bool"
  | .int _ => .type "int"
  | .str _ => .type "str"
  | .lst _ => .type "list"
  | .tup _ => .type "tuple"
  | .dct _ _ => .type "dict"
  | .exc C _ => .ref C
  | .fn _ => .type "function"
def D.plain : D → Bool
  | .exc _ _ => false
  | .fn _ => false
  | _ => true
theorem Rp.tyx {F H : Hp} {K : PySem.W.Frag} {v : V} {d : D} (e : Ex F H) (h : Rp F v d) (hp : d.plain = true) : TyX K H v d.cls := by
  cases h with
  | non => exact .base .non
  | bl b => exact .base (.bl b)
  | int i => exact .base (.int i)
  | str s => exact .base (.str s)
  | lst h1 r => exact .base (.lst (e _ _ h1))
  | tup h1 r => exact .base (.tup (e _ _ h1))
  | dct h1 _ r => exact .base (.dK (e _ _ h1))
  | exc _ _ _ => cases hp
  | fn _ => cases hp
/-- of a built-in class: by names -/
def D.isi (T : String) : D → Bool
  | .bl _ => T == "bool" || T == "int"
  | .int _ => T == "int"
  | .str _ => T == "str"
  | .lst _ => T == "list"
  | .tup _ => T == "tuple"
  | .dct _ _ => T == "dict"
  | _ => false
theorem kit_cls {K : PySem.W.Frag} {T : String} (hT : T = "bool" ∨ T = "int" ∨ T = "str" ∨ T = "list" ∨ T = "tuple" ∨ T = "dict") (hp : x.plain = true) : PySem.W.kitOne K x.cls (.type T) = some (x.isi T) := by
  rcases hT with rfl | rfl | rfl | rfl | rfl | rfl <;> cases x <;> first | (cases hp; done) | (refine kit_ty ?_; simp only [D.isi]; decide +kernel)
theorem de_isi {T : Str} {n : String} (hg : Gl X "isinstance") (hm : X.mg "isinstance" = none) (ha : DE X δ a (.d x) δ1) (hp : x.plain = true) (hg2 : Gl X T) (hm2 : X.mg T = none) (hv : bootBuiltins T = some (.type n)) (hT : n = "bool" ∨ n = "int" ∨ n = "str" ∨ n = "list" ∨ n = "tuple" ∨ n = "dict")
    (hn : T ≠ "__name__" := by decide) (hdb : (T == ("__debug__" : Str)) = false := by decide)
    (he : starEach [a, .Name T p2] X.env = (false, eval a X.env) :: starEach [.Name T p2] X.env := by rfl) (he2 : starEach [Expr.Name T p2] X.env = (false, eval (.Name T p2) X.env) :: starEach [] X.env := by rfl) (hpl : (backTo pos (starEach [Expr.Name T p2] X.env)).any (·.1) = false := by rfl) :
    DE X δ (.Call (.Name "isinstance" p1) [a, .Name T p2] [] pos) (.d (.bl (x.isi n))) δ1 :=
  de_bi call_isi hg hm (by decide +kernel) (da_cons ha (da_c (pe_bltn (v := .ty n) hg2 hm2 hv rfl hn hdb) da_nil he2) he) (fun F H σ vs Q ex h k => by
    cases h with
    | cons r t =>
      cases t with
      | cons r2 t =>
        cases t
        cases (show _ = V.ty n from r2)
        exact ⟨_, _, _, .type n, _, rfl, .ty n, Rp.tyx ex r hp, kit_cls hT hp, k _ (.bl _)⟩) (he := he) (hpl := hpl)
theorem kit_any {K : PySem.W.Frag} {T U : String} (hT : T = "bool" ∨ T = "int" ∨ T = "str" ∨ T = "list" ∨ T = "tuple" ∨ T = "dict") (hU : U = "bool" ∨ U = "int" ∨ U = "str" ∨ U = "list" ∨ U = "tuple" ∨ U = "dict") (hp : x.plain = true) :
    PySem.W.kitAny K x.cls [.type T, .type U] = some (x.isi T || x.isi U) := by
  refine kitAny_cons (kit_cls hT hp) (fun h => ?_) fun h => by rw [h]; rfl
  refine kitAny_cons (kit_cls hU hp) (fun h2 => ?_) fun h2 => by rw [h2]; simp
  rw [h, h2]; exact kitAny_nil
theorem kit_any3 {K : PySem.W.Frag} {T U W : String} (hT : T = "bool" ∨ T = "int" ∨ T = "str" ∨ T = "list" ∨ T = "tuple" ∨ T = "dict") (hU : U = "bool" ∨ U = "int" ∨ U = "str" ∨ U = "list" ∨ U = "tuple" ∨ U = "dict") (hW : W = "bool" ∨ W = "int" ∨ W = "str" ∨ W = "list" ∨ W = "tuple" ∨ W = "dict") (hp : x.plain = true) :
    PySem.W.kitAny K x.cls [.type T, .type U, .type W] = some (x.isi T || x.isi U || x.isi W) := by
  refine kitAny_cons (kit_cls hT hp) (fun h => ?_) fun h => by rw [h]; rfl
  refine kitAny_cons (kit_cls hU hp) (fun h2 => ?_) fun h2 => by rw [h2]; simp
  refine kitAny_cons (kit_cls hW hp) (fun h3 => ?_) fun h3 => by rw [h3]; simp
  rw [h, h2, h3]; exact kitAny_nil
/-- isinstance(x, (T, U)), (T, U, W) -/
theorem de_isT {cs : List V} {us : List Value} {tu : TA} {k : Bool} {j : Nat} (hg : Gl X "isinstance") (hm : X.mg "isinstance" = none) (ha : DE X δ a (.d x) δ1) (hp : x.plain = true) (ht : PA X es tu) (htu : ∀ σ H (Q : List V → Hp → Prop), Q cs H → tu σ H Q) (hl : cs.length ≤ sizeLine) (hcs : Paired ClsV cs us)
    (hk : ∀ K, PySem.W.kitAny K x.cls us = some k) (he : starEach [a, .Tuple es j p2] X.env = (false, eval a X.env) :: starEach [.Tuple es j p2] X.env := by rfl) (he2 : starEach [Expr.Tuple es j p2] X.env = (false, eval (.Tuple es j p2) X.env) :: starEach [] X.env := by rfl) (hpl : (backTo pos (starEach [Expr.Tuple es j p2] X.env)).any (·.1) = false := by rfl) :
    DE X δ (.Call (.Name "isinstance" p1) [a, .Tuple es j p2] [] pos) (.d (.bl k)) δ1 :=
  (pe_callB call_isiT hg hm (by decide +kernel) (pa_cons ha (pa_cons (pe_tup ht) pa_nil he2) he) (he := he) (hpl := hpl)).imp fun σ H Q ⟨F, R, kk⟩ => ⟨F, R, fun v F1 H1 g1 R1 r1 => by
    refine htu σ H1 _ ⟨hl, fun p hp' => ?_⟩
    have hF := R1.sub.none hp'
    refine ⟨_, p, cs, _, us, k, rfl, upd_same, hcs, Rp.tyx (R1.sub.trans (.new hp')) r1 hp, hk _, ?_⟩
    exact kk _ F1 _ (g1.trans (Go.newH hp')) (R1.newH hp') (.bl _)⟩
/-- max(a, b), min(a, b) of ints -/
theorem de_max2 {i j : Int} (hcm : X.calm = true) (hg : Gl X "max") (hm : X.mg "max" = none) (ha : DE X δ a (.d (.int i)) δ1) (hb : DE X δ1 b (.d (.int j)) δ2) (he : starEach [a, b] X.env = (false, eval a X.env) :: starEach [b] X.env := by rfl) (he2 : starEach [b] X.env = (false, eval b X.env) :: starEach [] X.env := by rfl) (hpl : (backTo pos (starEach [b] X.env)).any (·.1) = false := by rfl) :
    DE X δ (.Call (.Name "max" p1) [a, b] [] pos) (.d (.int (max i j))) δ2 :=
  de_bi (call_max2 hcm) hg hm (by decide +kernel) (da_cons ha (da_cons hb da_nil he2) he) (fun F H σ vs Q ex h k => by
    obtain ⟨v, w, rfl, r1, r2⟩ := h.two
    cases r1; cases r2
    refine ⟨i, j, rfl, k _ ?_⟩
    have e : (if j > i then j else i) = max i j := by split <;> omega
    rw [e]; exact .int _) (he := he) (hpl := hpl)
theorem de_min2 {i j : Int} (hcm : X.calm = true) (hg : Gl X "min") (hm : X.mg "min" = none) (ha : DE X δ a (.d (.int i)) δ1) (hb : DE X δ1 b (.d (.int j)) δ2) (he : starEach [a, b] X.env = (false, eval a X.env) :: starEach [b] X.env := by rfl) (he2 : starEach [b] X.env = (false, eval b X.env) :: starEach [] X.env := by rfl) (hpl : (backTo pos (starEach [b] X.env)).any (·.1) = false := by rfl) :
    DE X δ (.Call (.Name "min" p1) [a, b] [] pos) (.d (.int (min i j))) δ2 :=
  de_bi (call_min2 hcm) hg hm (by decide +kernel) (da_cons ha (da_cons hb da_nil he2) he) (fun F H σ vs Q ex h k => by
    obtain ⟨v, w, rfl, r1, r2⟩ := h.two
    cases r1; cases r2
    refine ⟨i, j, rfl, k _ ?_⟩
    have e : (if j < i then j else i) = min i j := by split <;> omega
    rw [e]; exact .int _) (he := he) (hpl := hpl)
/-- int(n) of an int -/
theorem de_intI {i : Int} (hg : Gl X "int") (hm : X.mg "int" = none) (ha : DE X δ a (.d (.int i)) δ1) (he : starEach [a] X.env = (false, eval a X.env) :: starEach [] X.env := by rfl) : DE X δ (.Call (.Name "int" p1) [a] [] pos) (.d (.int i)) δ1 :=
  de_ty call_int1 hg hm (by decide +kernel) (da_cons ha da_nil he) (fun F H σ vs Q ex h k => by
    obtain ⟨v, rfl, r⟩ := h.one
    cases r
    exact .inl ⟨i, rfl, k _ (.int _)⟩) (he := he)
/-- str(n) of an int -/
theorem de_strI {i : Int} (hg : Gl X "str") (hm : X.mg "str" = none) (ha : DE X δ a (.d (.int i)) δ1) (hi : i.natAbs.log2 < 1920) (he : starEach [a] X.env = (false, eval a X.env) :: starEach [] X.env := by rfl) : DE X δ (.Call (.Name "str" p1) [a] [] pos) (.d (.str (Str.ofString (toString i)))) δ1 :=
  de_ty call_str_int hg hm (by decide +kernel) (da_cons ha da_nil he) (fun F H σ vs Q ex h k => by
    obtain ⟨v, rfl, r⟩ := h.one
    cases r
    exact ⟨i, rfl, hi, k _ (.str _)⟩) (he := he)
/-- the ints, the bools of a list of data -/
theorem RpA.toInts {F : Hp} : ∀ {vs : List V} {ns : List Int}, RpA F vs (ns.map D.int) → vs = ns.map V.int
  | _, [], .nil => rfl
  | _, n :: ns, .cons r t => by cases r; rw [RpA.toInts t]; rfl
theorem RpA.toBls {F : Hp} : ∀ {vs : List V} {ns : List Bool}, RpA F vs (ns.map D.bl) → vs = ns.map V.bl
  | _, [], .nil => rfl
  | _, n :: ns, .cons r t => by cases r; rw [RpA.toBls t]; rfl
theorem RpA.toStrs {F : Hp} : ∀ {vs : List V} {ns : List Str}, RpA F vs (ns.map D.str) → vs = ns.map V.str
  | _, [], .nil => rfl
  | _, n :: ns, .cons r t => by cases r; rw [RpA.toStrs t]; rfl
theorem de_sum {ns : List Int} (hcm : X.calm = true) (hg : Gl X "sum") (hm : X.mg "sum" = none) (ha : DE X δ a (.d (.lst (ns.map D.int))) δ1) (he : starEach [a] X.env = (false, eval a X.env) :: starEach [] X.env := by rfl) : DE X δ (.Call (.Name "sum" p1) [a] [] pos) (.d (.int ns.sum)) δ1 :=
  de_bi (cr_sum hcm) hg hm (by decide +kernel) (da_cons ha da_nil he) (fun F H σ vs Q ex h k => by
    obtain ⟨v, rfl, r⟩ := h.one
    cases r with
    | lst h1 r => exact ⟨_, ns, rfl, SqL.of (by rw [← r.toInts]; exact ex _ _ h1), k _ (.int _)⟩) (he := he)
theorem de_all {bs : List Bool} (hcm : X.calm = true) (hg : Gl X "all") (hm : X.mg "all" = none) (ha : DE X δ a (.d (.lst (bs.map D.bl))) δ1) (he : starEach [a] X.env = (false, eval a X.env) :: starEach [] X.env := by rfl) : DE X δ (.Call (.Name "all" p1) [a] [] pos) (.d (.bl (bs.all id))) δ1 :=
  de_bi (cr_all hcm) hg hm (by decide +kernel) (da_cons ha da_nil he) (fun F H σ vs Q ex h k => by
    obtain ⟨v, rfl, r⟩ := h.one
    cases r with
    | lst h1 r => exact ⟨_, bs, rfl, SqL.of (by rw [← r.toBls]; exact ex _ _ h1), k _ (.bl _)⟩) (he := he)
/-- max of a list of ints, not empty -/
theorem de_maxL {ns : List Int} {m : Int} (hcm : X.calm = true) (hg : Gl X "max") (hm : X.mg "max" = none) (ha : DE X δ a (.d (.lst (ns.map D.int))) δ1) (h1 : m ∈ ns) (h2 : ∀ y ∈ ns, y ≤ m) (he : starEach [a] X.env = (false, eval a X.env) :: starEach [] X.env := by rfl) : DE X δ (.Call (.Name "max" p1) [a] [] pos) (.d (.int m)) δ1 :=
  de_bi (cr_max hcm) hg hm (by decide +kernel) (da_cons ha da_nil he) (fun F H σ vs Q ex h k => by
    obtain ⟨v, rfl, r⟩ := h.one
    cases r with
    | lst h0 r => exact ⟨_, ns, rfl, SqL.of (by rw [← r.toInts]; exact ex _ _ h0), List.length_pos_of_mem h1, fun m' h3 h4 => by
        have e : m' = m := by have a := h2 m' h3; have b := h4 m h1; omega
        rw [e]; exact k _ (.int _)⟩) (he := he)
/-- list(..) of a list, a tuple -/
theorem de_list {xs : List D} (hg : Gl X "list") (hm : X.mg "list" = none) (ha : DE X δ a (.d x) δ1) (hx : x = .lst xs ∨ x = .tup xs) (he : starEach [a] X.env = (false, eval a X.env) :: starEach [] X.env := by rfl) : DE X δ (.Call (.Name "list" p1) [a] [] pos) (.ow xs) δ1 :=
  de_tyL call_list_of hg hm (by decide +kernel) (da_cons ha da_nil he) (fun F H σ vs Q ex h k => by
    obtain ⟨v, rfl, r⟩ := h.one
    rcases hx with rfl | rfl
    · cases r with
      | lst h1 r => exact ⟨_, _, rfl, .inl (SqL.of (ex _ _ h1)), fun p hp => k p _ hp r⟩
    · cases r with
      | tup h1 r => exact ⟨_, _, rfl, .inr (SqT.of (ex _ _ h1)), fun p hp => k p _ hp r⟩) (he := he)
/-- tuple(..) of a list -/
theorem de_tuple {xs : List D} (hg : Gl X "tuple") (hm : X.mg "tuple" = none) (ha : DE X δ a (.d (.lst xs)) δ1) (he : starEach [a] X.env = (false, eval a X.env) :: starEach [] X.env := by rfl) : DE X δ (.Call (.Name "tuple" p1) [a] [] pos) (.d (.tup xs)) δ1 :=
  de_tyT call_tuple_of hg hm (by decide +kernel) (da_cons ha da_nil he) (fun F H σ vs Q ex h k => by
    obtain ⟨v, rfl, r⟩ := h.one
    cases r with
    | lst h1 r => exact ⟨_, _, rfl, .inl ⟨SqL.of (ex _ _ h1), fun p hp => k p _ hp r⟩⟩) (he := he)
/-- n.bit_length() -/
theorem de_bits {i : Int} {apos : Pos} (ha : DE X δ a (.d (.int i)) δ1) (h1 : attributeBase a "bit_length" X.env (eval a X.env) = eval a X.env := by rfl) (h2 : (apos.endLine == pos.line) = true := by rfl) : DE X δ (.Call (.Attribute a "bit_length" apos) [] [] pos) (.d (.int (Builtin.Int.intBits i : Nat))) δ1 :=
  (pe_bits ha h1 h2).imp fun σ H Q ⟨F, R, k⟩ => ⟨F, R, fun v F1 H1 g1 R1 r1 => by
    cases r1
    exact ⟨i, rfl, k _ F1 H1 g1 R1 (.int _)⟩⟩
/-- "".join(list of texts) -/
theorem de_join {s : Str} {ts : List Str} {apos : Pos} (ha : DE X δ a (.d (.str s)) δ1) (hb : DE X δ1 b (.d (.lst (ts.map D.str))) δ2) (hl : (ts.map fun x => x.length).sum + ts.length * s.length ≤ 16777216)
    (h0 : starEach [b] X.env = [(false, eval b X.env)] := by rfl) (h1 : attributeBase a "join" X.env (eval a X.env) = eval a X.env := by rfl) (h2 : (apos.endLine == pos.line) = true := by rfl) : DE X δ (.Call (.Attribute a "join" apos) [b] [] pos) (.d (.str (Txt.join s ts))) δ2 :=
  (pe_join ha hb h0 h1 h2).imp fun σ H Q ⟨F, R, k⟩ => ⟨F, R, fun v F1 H1 g1 R1 r1 => by
    cases r1
    refine ⟨⟨s, rfl⟩, F1, R1, fun w F2 H2 g2 R2 r2 => ?_⟩
    cases r2 with
    | lst h3 r => exact ⟨s, _, ts, rfl, rfl, .inl (SqL.of (by rw [← r.toStrs]; exact R2.sub _ _ h3)), hl, k _ F2 H2 (g1.trans g2) R2 (.str _)⟩⟩

/-! ### subscripts -/
theorem atI_len {α : Type} {xs : List α} {ys : List α} (h : xs.length = ys.length) {i : Int} : ixN xs.length i = ixN ys.length i := by rw [h]
theorem RpA.atI {F : Hp} {vs : List V} {ds : List D} {i : Int} {d : D} (h : RpA F vs ds) (hd : L2.atI ds i = some d) : ∃ v, L2.atI vs i = some v ∧ Rp F v d := by
  unfold L2.atI at hd ⊢
  rw [h.length]
  cases q : ixN ds.length i with
  | none => rw [q] at hd; cases hd
  | some j =>
    rw [q] at hd
    exact h.get hd
theorem de_ixT {xs : List D} {i : Int} (ha : DE X δ a (.d (.tup xs)) δ1) (hb : DE X δ1 b (.d (.int i)) δ2) (hi : L2.atI xs i = some z) (hp : PlainIx b := by exact fun _ _ => rfl) : DE X δ (.Subscript a b pos) (.d z) δ2 := (pe_ix ix_tup ha hb hp).imp fun _ _ _ h => op_d (fun F H v u Q e rv ru k => by
  cases ru
  cases rv with
  | tup h1 r =>
    obtain ⟨w, h2, h3⟩ := r.atI hi
    exact ⟨_, _, _, w, rfl, rfl, SqT.of (e _ _ h1), h2, k _ h3⟩) h
theorem de_ixL {xs : List D} {i : Int} (ha : DE X δ a (.d (.lst xs)) δ1) (hb : DE X δ1 b (.d (.int i)) δ2) (hi : L2.atI xs i = some z) (hp : PlainIx b := by exact fun _ _ => rfl) : DE X δ (.Subscript a b pos) (.d z) δ2 := (pe_ix ix_list ha hb hp).imp fun _ _ _ h => op_d (fun F H v u Q e rv ru k => by
  cases ru
  cases rv with
  | lst h1 r =>
    obtain ⟨w, h2, h3⟩ := r.atI hi
    exact ⟨_, _, _, w, rfl, rfl, SqL.of (e _ _ h1), h2, k _ h3⟩) h
/-- an item of a list of the frame's own -/
theorem de_ixO {i : Nat} {n : Str} {xs : List D} {j : Int} (hN : X.N[i]? = some n) (hv : Vis X.env.scope n) (hb : DE X δ b (.d (.int j)) δ1) (h : δ1[i]? = some (.ow xs)) (hi : L2.atI xs j = some z) (h0 : ∃ ys, δ[i]? = some (.ow ys)) (hp : PlainIx b := by exact fun _ _ => rfl) (hd : (n == ("__debug__" : Str)) = false := by decide) (hcd : (n == ("__classdict__" : Str)) = false := by decide) :
    DE X δ (.Subscript (.Name n p2) b pos) (.d z) δ1 := (pe_ix ix_list (pe_var (i := i) hN hv hd hcd) hb hp).imp fun σ H Q ⟨F, R, k⟩ => by
  obtain ⟨ys, h0⟩ := h0
  obtain ⟨o, e, p, vs, q1, q2, q3, q4⟩ := R.at_ i _ h0
  refine ⟨.ref p, by rw [e, q1], F, R, fun w F1 H1 g1 R1 r1 => ?_⟩
  cases r1
  obtain ⟨o', e', p', vs', q1', q2', q3', q4'⟩ := R1.at_ i _ h
  rw [e] at e'; cases e'
  rw [q1] at q1'; cases q1'
  obtain ⟨w, h2, h3⟩ := q4'.atI hi
  exact ⟨_, _, _, w, rfl, rfl, SqL.of q3', h2, k _ F1 H1 g1 R1 h3⟩

/-! ### slices -/
def tDO (δ : List DV) (o : Option Int) (δ' : List DV) : TO := fun σ H Q => ∃ F, Rs F H σ δ ∧ ∀ F' H', Go (Own σ δ) (Own σ δ') F H F' H' → Rs F' H' σ δ' → Q o H'
structure DO (X : Cx) (δ : List DV) (e : Option Expr) (o : Option Int) (δ' : List DV) : Prop where
  run : ∃ t, PO X e t ∧ ∀ σ H Q, tDO δ o δ' σ H Q → t σ H Q
theorem do_none : DO X δ none none δ := ⟨tNoPart, po_none, fun σ H Q ⟨F, R, k⟩ => k F H (.refl _ F H) R⟩
theorem do_some {i : Int} (h : DE X δ e (.d (.int i)) δ1) : DO X δ (some e) (some i) δ1 := ⟨_, po_some h, fun σ H Q ⟨F, R, k⟩ => ⟨F, R, fun v F1 H1 g1 R1 r1 => by
  cases r1
  exact ⟨i, rfl, k F1 H1 g1 R1⟩⟩⟩
def D.cut (xs : List D) (lo hi : Option Int) : List D := (xs.drop (HT.sIx xs.length 0 lo)).take (HT.sIx xs.length xs.length hi - HT.sIx xs.length 0 lo)
theorem RpA.cut {F : Hp} {vs : List V} {ds : List D} (h : RpA F vs ds) (lo hi : Option Int) : RpA F (cutV vs lo hi) (D.cut ds lo hi) := by
  unfold cutV D.cut
  rw [h.length]
  exact (h.drop _).take _
variable {lo hi : Option Expr} {i j : Option Int}
theorem sl_ {q : V → Option Int → Option Int → Hp → VK → Prop} {t u : TO} {G : V → Hp → Prop} (ht : ∀ σ H Q, tDO δ1 i δ2 σ H Q → t σ H Q) (hu : ∀ σ H Q, tDO δ2 j δ3 σ H Q → u σ H Q)
    (h : ∃ F, Rs F H σ δ ∧ ∀ v F' H', Go (Own σ δ) (Own σ δ3) F H F' H' → Rs F' H' σ δ3 → Rp F' v x → q v i j H' G) : tSl q (tD δ (.d x) δ1) t u σ H G := by
  obtain ⟨F, R, k⟩ := h
  exact ⟨F, R, fun v F1 H1 g1 R1 r1 => ht _ _ _ ⟨F1, R1, fun F2 H2 g2 R2 => hu _ _ _ ⟨F2, R2, fun F3 H3 g3 R3 => k v F3 H3 ((g1.trans g2).trans g3) R3 (Rp.ex (g2.ff.trans g3.ff) r1)⟩⟩⟩
theorem de_slL {xs : List D} (ha : DE X δ a (.d (.lst xs)) δ1) (hl : DO X δ1 lo i δ2) (hh : DO X δ2 hi j δ3) : DE X δ (.Subscript a (.Slice lo hi none p2) pos) (.ow (D.cut xs i j)) δ3 := by
  obtain ⟨t, pt, ht⟩ := hl.run
  obtain ⟨u, pu, hu⟩ := hh.run
  refine (pe_slice sl_list ha pt pu).imp fun σ H Q ⟨F, R, k⟩ => sl_ ht hu ⟨F, R, fun v F1 H1 g1 R1 r1 => ?_⟩
  cases r1 with
  | lst h1 r => exact ⟨_, _, rfl, SqL.of (R1.sub _ _ h1), fun p hp => fin_own k g1 R1 hp (r.cut i j)⟩
theorem de_slT {xs : List D} (ha : DE X δ a (.d (.tup xs)) δ1) (hl : DO X δ1 lo i δ2) (hh : DO X δ2 hi j δ3) (hn : ¬(HT.sIx xs.length 0 i = 0 ∧ HT.sIx xs.length xs.length j = xs.length)) : DE X δ (.Subscript a (.Slice lo hi none p2) pos) (.d (.tup (D.cut xs i j))) δ3 := by
  obtain ⟨t, pt, ht⟩ := hl.run
  obtain ⟨u, pu, hu⟩ := hh.run
  refine (pe_slice sl_tup ha pt pu).imp fun σ H Q ⟨F, R, k⟩ => sl_ ht hu ⟨F, R, fun v F1 H1 g1 R1 r1 => ?_⟩
  cases r1 with
  | tup h1 r => exact ⟨_, _, rfl, SqT.of (R1.sub _ _ h1), by rw [r.length]; exact hn, fun p hp => fin_new k g1 R1 hp (.tup upd_same ((r.cut i j).ex (.new (R1.sub.none hp))))⟩
theorem de_slS {s : Str} (ha : DE X δ a (.d (.str s)) δ1) (hl : DO X δ1 lo i δ2) (hh : DO X δ2 hi j δ3) (hs : s.length ≤ sizeLine) : DE X δ (.Subscript a (.Slice lo hi none p2) pos) (.d (.str (cutS s i j))) δ3 := by
  obtain ⟨t, pt, ht⟩ := hl.run
  obtain ⟨u, pu, hu⟩ := hh.run
  refine (pe_slice sl_str ha pt pu).imp fun σ H Q ⟨F, R, k⟩ => sl_ ht hu ⟨F, R, fun v F1 H1 g1 R1 r1 => ?_⟩
  cases r1
  exact ⟨s, rfl, hs, k _ F1 H1 g1 R1 (.str _)⟩
/-- xs * k, a list -/
theorem de_rep {xs : List D} {k : Int} (ha : DE X δ a (.d (.lst xs)) δ1) (hb : DE X δ1 b (.d (.int k)) δ2) (h1 : -(2 ^ 63) ≤ k) (h2 : k < 2 ^ 63) (h3 : xs.length * k.toNat ≤ sizeLine) : DE X δ (.BinOp a .Mult b pos) (.ow (List.replicate k.toNat xs).flatten) δ2 := de_binL op_rep ha hb fun F H v u Q e _ rv ru kk => by
  cases ru
  cases rv with
  | lst q r =>
    refine ⟨_, k, _, rfl, rfl, e _ _ q, by omega, by omega, by rw [r.length]; exact h3, fun p hp => kk p _ hp ?_⟩
    generalize k.toNat = n
    induction n with
    | zero => exact .nil
    | succ n ih => rw [List.replicate_succ, List.replicate_succ, List.flatten_cons, List.flatten_cons]; exact r.append ih
/-- [*xs], (a, *xs): a starred part -/
theorem da_star {xs : List D} {ps : List AV} (ha : DE X δ e (.d x) δ1) (hx : x = .lst xs ∨ x = .tup xs) (hr : DA X δ1 es as δ2) : PA X (.Starred e p2 :: es) (fun σ H Q => ∃ F, Rs F H σ δ ∧ ∀ vs ws F' H', Go (Own σ δ) (Own σ δ2) F H F' H' → Rs F' H' σ δ2 → RpA F' vs xs → AVs F' σ ws as → Q (vs ++ ws) H') :=
  (StX.pa_star ha hr).imp fun σ H Q ⟨F, R, k⟩ => ⟨F, R, fun v F1 H1 g1 R1 r1 => by
    rcases hx with rfl | rfl
    · cases r1 with
      | lst h1 r => exact ⟨_, _, rfl, .inr (SqL.of (R1.sub _ _ h1)), F1, R1, fun ws F2 H2 g2 R2 r2 => k _ ws F2 H2 (g1.trans g2) R2 (r.ex g2.ff) r2⟩
    · cases r1 with
      | tup h1 r => exact ⟨_, _, rfl, .inl (SqT.of (R1.sub _ _ h1)), F1, R1, fun ws F2 H2 g2 R2 r2 => k _ ws F2 H2 (g1.trans g2) R2 (r.ex g2.ff) r2⟩⟩
end
end DL
end
section
set_option Elab.async false
set_option linter.all false
set_option maxRecDepth 100000
/-! DLd: statements over frames of data. -/
namespace DL
open PySem PySem.Spec PyProof.Rows L2
variable [TL]

/-- what stands behind some statements -/
structure Aft (pn : List Nat) (σ : L2.St) (δ : List DV) (F H : Hp) (σ' : L2.St) (δ' : List DV) (F' H' : Hp) : Prop where
  go : Go (Own σ δ) (Own σ' δ') F H F' H'
  rs : Rs F' H' σ' δ'
  pin : ∀ i ∈ pn, σ'[i]? = σ[i]?
theorem Aft.refl {pn : List Nat} {σ : L2.St} {δ : List DV} {F H : Hp} (r : Rs F H σ δ) : Aft pn σ δ F H σ δ F H := ⟨.refl _ F H, r, fun _ _ => rfl⟩
theorem Aft.trans {pn : List Nat} {σ σ1 σ2 : L2.St} {δ δ1 δ2 : List DV} {F H F1 H1 F2 H2 : Hp} (a : Aft pn σ δ F H σ1 δ1 F1 H1) (b : Aft pn σ1 δ1 F1 H1 σ2 δ2 F2 H2) : Aft pn σ δ F H σ2 δ2 F2 H2 :=
  ⟨a.go.trans b.go, b.rs, fun i hi => (b.pin i hi).trans (a.pin i hi)⟩
/-- what this context wants of an exception, as it is -/
def Wx (X : Cx) : WX := fun cls d σ H => ∀ u s', XE X (fun c2 d2 σ2 H2 => c2 = cls ∧ d2 = d ∧ σ2 = σ ∧ H2 = H) u s' → X.xe u s'
theorem takes_wx (X : Cx) : Takes X (Wx X) := fun u s' ⟨a, B, sI, pins, σ, H, cls, d, e, I, nb, up, sky, na, os, ag, w⟩ => w u s' ⟨a, B, sI, pins, σ, H, cls, d, e, I, nb, up, sky, na, os, ag, rfl, rfl, rfl, rfl⟩
theorem Wx.of {X : Cx} {W : WX} (t : Takes X W) {cls : Value} {d : Option Addr} {σ : L2.St} {H : Hp} (h : W cls d σ H) : Wx X cls d σ H := fun u s' x => (t.imp (W' := fun c2 d2 σ2 H2 => c2 = cls ∧ d2 = d ∧ σ2 = σ ∧ H2 = H) fun _ _ _ _ ⟨e1, e2, e3, e4⟩ => by rw [e1, e2, e3, e4]; exact h) u s' x
/-- an exception of the class at C that bears d -/
def tEx (X : Cx) (pn : List Nat) (σ : L2.St) (δ : List DV) (F H : Hp) (C : Addr) (d : D) : Prop := ∀ dx v σ' δ' F' H', Aft pn σ δ F H σ' δ' F' H' → XdAt F' dx [("value", v)] → Rp F' v d → Wx X (.ref C) (some dx) σ' H'
theorem tEx.back {X : Cx} {pn : List Nat} {σ σ1 : L2.St} {δ δ1 : List DV} {F H F1 H1 : Hp} {C : Addr} {d : D} (a : Aft pn σ δ F H σ1 δ1 F1 H1) (h : tEx X pn σ δ F H C d) : tEx X pn σ1 δ1 F1 H1 C d := fun dx v σ' δ' F' H' b => h dx v σ' δ' F' H' (a.trans b)
inductive Out where
  | nx (δ : List DV) | rt (r : DV) (δ : List DV) | bk (δ : List DV) | ct (δ : List DV) | ex (C : Addr) (d : D)
def tS (X : Cx) (pn : List Nat) (δ : List DV) (o : Out) : TS := fun D σ H => ∃ F, Rs F H σ δ ∧ match o with
  | .nx δ' => ∀ σ' F' H', Aft pn σ δ F H σ' δ' F' H' → D.nx σ' H'
  | .rt r δ' => ∀ v σ' F' H', Aft pn σ δ F H σ' δ' F' H' → Res F' H' (Own σ δ) H (Own σ' δ') v r → D.rt v H'
  | .bk δ' => ∀ σ' F' H', Aft pn σ δ F H σ' δ' F' H' → D.bk σ' H'
  | .ct δ' => ∀ σ' F' H', Aft pn σ δ F H σ' δ' F' H' → D.ct σ' H'
  | .ex C d => tEx X pn σ δ F H C d
abbrev DS (X : Cx) (pn : List Nat) (δ : List DV) (st : Stmt) (o : Out) : Prop := PS X st (tS X pn δ o)
abbrev DSs (X : Cx) (pn : List Nat) (δ : List DV) (st : List Stmt) (o : Out) : Prop := PSs X st (tS X pn δ o)
/-- told from further back -/
theorem tS.back {X : Cx} {pn : List Nat} {σ σ1 : L2.St} {δ δ1 : List DV} {F H F1 H1 : Hp} {o : Out} {D : Ends} (a : Aft pn σ δ F H σ1 δ1 F1 H1)
    (k : match o with
      | .nx δ' => ∀ σ' F' H', Aft pn σ δ F H σ' δ' F' H' → D.nx σ' H'
      | .rt r δ' => ∀ v σ' F' H', Aft pn σ δ F H σ' δ' F' H' → Res F' H' (Own σ δ) H (Own σ' δ') v r → D.rt v H'
      | .bk δ' => ∀ σ' F' H', Aft pn σ δ F H σ' δ' F' H' → D.bk σ' H'
      | .ct δ' => ∀ σ' F' H', Aft pn σ δ F H σ' δ' F' H' → D.ct σ' H'
      | .ex C d => tEx X pn σ δ F H C d) : tS X pn δ1 o D σ1 H1 := by
  refine ⟨F1, a.rs, ?_⟩
  cases o with
  | nx δ' => exact fun σ' F' H' b => k σ' F' H' (a.trans b)
  | rt r δ' => exact fun v σ' F' H' b q => k v σ' F' H' (a.trans b) (Res.back a.go q)
  | bk δ' => exact fun σ' F' H' b => k σ' F' H' (a.trans b)
  | ct δ' => exact fun σ' F' H' b => k σ' F' H' (a.trans b)
  | ex C d => exact tEx.back a k

/-! ### a slot stored -/
section
variable {F H : Hp} {σ : L2.St} {δ : List DV} {i : Nat}
theorem own_set {v : Option V} {x : DV} (hx : ∀ xs, x ≠ .ow xs) {a : Addr} (h : Own (σ.set i v) (δ.set i x) a) : Own σ δ a := by
  obtain ⟨j, ys, h1, h2⟩ := h
  by_cases z : i = j
  · subst z
    by_cases hi : i < δ.length
    · rw [List.getElem?_set_self hi] at h1; exact absurd (Option.some.inj h1) (hx ys)
    · rw [List.getElem?_eq_none (by rw [List.length_set]; omega)] at h1; cases h1
  · rw [List.getElem?_set_ne z] at h1 h2
    exact ⟨j, ys, h1, h2⟩
theorem Rs.set_ (r : Rs F H σ δ) {v : Option V} {x : DV} (hx : ∀ xs, x ≠ .ow xs) (h : At F H v x) : Rs F H (σ.set i v) (δ.set i x) := by
  refine ⟨r.sub, by rw [List.length_set, List.length_set]; exact r.len, fun j y hy => ?_, fun j l ys zs o hj h1 h2 h3 => ?_, r.tb, r.nt⟩
  · by_cases z : i = j
    · subst z
      by_cases hi : i < δ.length
      · rw [List.getElem?_set_self hi] at hy
        cases hy
        exact ⟨v, List.getElem?_set_self (by rw [r.len]; exact hi), h⟩
      · rw [List.getElem?_eq_none (by rw [List.length_set]; omega)] at hy; cases hy
    · rw [List.getElem?_set_ne z] at hy ⊢
      exact r.at_ j y hy
  · have ne : ∀ {m : Nat} {ws : List D}, (δ.set i x)[m]? = some (.ow ws) → i ≠ m ∧ δ[m]? = some (.ow ws) := fun {m ws} q => by
      by_cases z : i = m
      · subst z
        by_cases hi : i < δ.length
        · rw [List.getElem?_set_self hi] at q; exact absurd (Option.some.inj q) (hx ws)
        · rw [List.getElem?_eq_none (by rw [List.length_set]; omega)] at q; cases q
      · rw [List.getElem?_set_ne z] at q; exact ⟨z, q⟩
    obtain ⟨z1, q1⟩ := ne h1
    obtain ⟨z2, q2⟩ := ne h2
    rw [List.getElem?_set_ne z1] at h3
    rw [List.getElem?_set_ne z2]
    exact r.ap j l ys zs o hj q1 q2 h3
theorem Aft.set_ {pn : List Nat} (r : Rs F H σ δ) {v : Option V} {x : DV} (hx : ∀ xs, x ≠ .ow xs) (h : At F H v x) (hp : i ∉ pn) : Aft pn σ δ F H (σ.set i v) (δ.set i x) F H :=
  ⟨⟨.refl F, fun _ _ h _ _ => h, fun _ _ h => .inl h, fun _ h => h, fun a h => .inl (own_set hx h)⟩, r.set_ hx h, fun j hj => List.getElem?_set_ne (by rintro rfl; exact hp hj)⟩
/-- a list of the frame's own stored -/
theorem Rs.setO (r : Rs F H σ δ) {p : Addr} {vs : List V} {xs : List D} (h1 : F p = none) (h2 : H p = some (.lst vs)) (h3 : RpA F vs xs) (h4 : ¬ Own σ δ p) : Rs F H (σ.set i (some (.ref p))) (δ.set i (.ow xs)) := by
  refine ⟨r.sub, by rw [List.length_set, List.length_set]; exact r.len, fun j y hy => ?_, fun j l ys zs o hj q1 q2 q3 q4 => ?_, r.tb, r.nt⟩
  · by_cases z : i = j
    · subst z
      by_cases hi : i < δ.length
      · rw [List.getElem?_set_self hi] at hy
        cases hy
        exact ⟨_, List.getElem?_set_self (by rw [r.len]; exact hi), p, vs, rfl, h1, h2, h3⟩
      · rw [List.getElem?_eq_none (by rw [List.length_set]; omega)] at hy; cases hy
    · rw [List.getElem?_set_ne z] at hy ⊢
      exact r.at_ j y hy
  · have self : ∀ {m : Nat} {ws : List D}, (δ.set i (.ow xs))[m]? = some (.ow ws) → i ≠ m → ∃ a us, σ[m]? = some (some (.ref a)) ∧ a ≠ p ∧ δ[m]? = some (.ow ws) ∧ H a = some (.lst us) := fun {m ws} q z => by
      rw [List.getElem?_set_ne z] at q
      obtain ⟨o, e, a, us, k1, k2, k3, k4⟩ := r.at_ m _ q
      exact ⟨a, us, by rw [e, k1], fun w => h4 ⟨m, ws, q, by rw [e, k1, w]⟩, q, k3⟩
    by_cases z1 : i = j
    · subst z1
      have hi : i < δ.length := by
        have := (List.getElem?_eq_some_iff.mp q1).1
        rwa [List.length_set] at this
      rw [List.getElem?_set_self (by rw [r.len]; exact hi)] at q3
      obtain ⟨a, us, k1, k2, _, _⟩ := self q2 hj
      rw [List.getElem?_set_ne hj, k1] at q4
      cases q3
      exact k2 (V.ref.inj (Option.some.inj (Option.some.inj q4)))
    · by_cases z2 : i = l
      · subst z2
        have hi : i < δ.length := by
          have := (List.getElem?_eq_some_iff.mp q2).1
          rwa [List.length_set] at this
        rw [List.getElem?_set_self (by rw [r.len]; exact hi)] at q4
        obtain ⟨a, us, k1, k2, _, _⟩ := self q1 (Ne.symm hj)
        rw [List.getElem?_set_ne (Ne.symm hj), k1] at q3
        cases q3
        exact k2 (V.ref.inj (Option.some.inj (Option.some.inj q4.symm)))
      · rw [List.getElem?_set_ne z1] at q1 q3
        rw [List.getElem?_set_ne z2] at q2 q4
        exact r.ap j l ys zs o hj q1 q2 q3 q4
theorem own_setO {p : Addr} {xs : List D} {a : Addr} (h : Own (σ.set i (some (.ref p))) (δ.set i (.ow xs)) a) : a = p ∨ Own σ δ a := by
  obtain ⟨j, ys, h1, h2⟩ := h
  by_cases z : i = j
  · subst z
    by_cases hi : i < σ.length
    · rw [List.getElem?_set_self hi] at h2; exact .inl (V.ref.inj (Option.some.inj (Option.some.inj h2))).symm
    · rw [List.getElem?_eq_none (by rw [List.length_set]; omega)] at h2; cases h2
  · rw [List.getElem?_set_ne z] at h1 h2
    exact .inr ⟨j, ys, h1, h2⟩
/-- the contents of a list of the frame's own change -/
theorem Rs.mut (r : Rs F H σ δ) {p : Addr} {xs ys : List D} {ws : List V} (h1 : δ[i]? = some (.ow xs)) (h2 : σ[i]? = some (some (.ref p))) (h3 : RpA F ws ys) : Rs F (upd H p (.lst ws)) σ (δ.set i (.ow ys)) := by
  obtain ⟨o, e, p', vs, q1, q2, q3, q4⟩ := r.at_ i _ h1
  rw [h2] at e; cases e; cases q1
  have hi : i < δ.length := (List.getElem?_eq_some_iff.mp h1).1
  have notF : ∀ a o, F a = some o → a ≠ p := fun a o h z => by rw [z, q2] at h; cases h
  refine ⟨fun a o h => by rw [upd_ne (notF a o h)]; exact r.sub a o h, by rw [List.length_set]; exact r.len, fun j y hy => ?_, fun j l as bs o hj k1 k2 k3 => ?_, tabs_upd r.tb (.inr ⟨_, q3⟩), r.nt⟩
  · by_cases z : i = j
    · subst z
      rw [List.getElem?_set_self hi] at hy
      cases hy
      exact ⟨_, h2, p, ws, rfl, q2, upd_same, h3⟩
    · rw [List.getElem?_set_ne z] at hy
      obtain ⟨o, e, k⟩ := r.at_ j y hy
      refine ⟨o, e, ?_⟩
      cases y with
      | un => trivial
      | d x => exact k
      | raw v => exact k
      | pr P => exact k
      | ow zs =>
        obtain ⟨b, us, k1, k2, k3, k4⟩ := k
        have nb : b ≠ p := fun w => r.ap i j xs zs _ z h1 hy h2 (by rw [e, k1, w])
        exact ⟨b, us, k1, k2, by rw [upd_ne nb]; exact k3, k4⟩
  · have ne : ∀ {m : Nat} {ws : List D}, (δ.set i (.ow ys))[m]? = some (.ow ws) → ∃ zs, δ[m]? = some (.ow zs) := fun {m ws} q => by
      by_cases z : i = m
      · subst z; exact ⟨xs, h1⟩
      · rw [List.getElem?_set_ne z] at q; exact ⟨ws, q⟩
    obtain ⟨a1, w1⟩ := ne k1
    obtain ⟨a2, w2⟩ := ne k2
    exact r.ap j l a1 a2 o hj w1 w2 k3
theorem own_same {xs ys : List D} (h1 : δ[i]? = some (.ow xs)) {a : Addr} : Own σ (δ.set i (.ow ys)) a → Own σ δ a := fun ⟨j, zs, q1, q2⟩ => by
  by_cases z : i = j
  · subst z; exact ⟨i, xs, h1, q2⟩
  · rw [List.getElem?_set_ne z] at q1; exact ⟨j, zs, q1, q2⟩
theorem Aft.mut {pn : List Nat} (r : Rs F H σ δ) {p : Addr} {xs ys : List D} {ws : List V} (h1 : δ[i]? = some (.ow xs)) (h2 : σ[i]? = some (some (.ref p))) (h3 : RpA F ws ys) : Aft pn σ δ F H σ (δ.set i (.ow ys)) F (upd H p (.lst ws)) := by
  refine ⟨⟨.refl F, fun a o h n _ => ?_, fun _ _ h => .inl h, fun a h => ?_, fun a h => .inl (own_same h1 h)⟩, r.mut h1 h2 h3, fun _ _ => rfl⟩
  · rw [upd_ne (fun z => n ⟨i, xs, h1, by rw [z]; exact h2⟩)]; exact h
  · by_cases z : a = p
    · exact absurd (by rw [z, upd_same]) (fun e => h.lst (xs := ws) e)
    · intro u e; exact h u (by rw [upd_ne z]; exact e)
end

section
variable {X : Cx} {pn : List Nat} {δ δ1 δ2 δ3 : List DV} {a b c e : Expr} {x y z r : D} {pos p1 p2 : Pos} {st : Stmt} {rest : List Stmt} {o : Out}
theorem dss_nil : DSs X pn δ [] (.nx δ) := pss_nil.imp fun D σ H ⟨F, R, k⟩ => k σ F H (.refl R)
theorem dss_cons (h1 : DS X pn δ st (.nx δ1)) (h2 : DSs X pn δ1 rest o) : DSs X pn δ (st :: rest) o := (pss_cons h1 h2).imp fun D σ H ⟨F, R, k⟩ => ⟨F, R, fun σ' F' H' b => tS.back (D := D) b k⟩
theorem dss_one (h1 : DS X pn δ st o) : DSs X pn δ [st] o := pss_one h1
/-- what stands behind a return, a break, a continue is not come to -/
theorem dss_stop (h1 : DS X pn δ st o) (ho : ∀ δ', o ≠ .nx δ') : DSs X pn δ (st :: rest) o := (pss_cons h1 (pss_never (sts := rest))).imp fun D σ H ⟨F, R, k⟩ => ⟨F, R, by
  cases o with
  | nx δ' => exact absurd rfl (ho δ')
  | rt r δ' => exact k
  | bk δ' => exact k
  | ct δ' => exact k
  | ex C d => exact k⟩
theorem aft_of {σ : L2.St} {F H F' H' : Hp} {δ δ' : List DV} (g : Go (Own σ δ) (Own σ δ') F H F' H') (R : Rs F' H' σ δ') : Aft pn σ δ F H σ δ' F' H' := ⟨g, R, fun _ _ => rfl⟩
theorem ds_set {i : Nat} {n : Str} (hN : X.N.Nodup) (hi : X.N[i]? = some n) (hx : Loc X.env.scope n) (hp : i ∉ pn) (he : DE X δ e (.d x) δ1) (hs : swapsWith e (some (.Name n p1)) pos.line X.env = pure false := by rfl) (hf : X.fn n = true ∨ X.env.scope.names.lookup n = some .local := by first | exact .inl rfl | exact .inr rfl | assumption) :
    DS X pn δ (.Assign [.Name n p1] e pos) (.nx (δ1.set i (.d x))) := (ps_set (i := i) hN hi hx he hs hf).imp fun D σ H ⟨F, R, k⟩ => ⟨F, R, fun v F1 H1 g R1 r => k _ F1 H1 ((aft_of g R1).trans (Aft.set_ R1 (fun _ h => nomatch h) ⟨v, rfl, r⟩ hp))⟩
theorem ds_setR {i : Nat} {n : Str} {r : DV} (hr : (∃ w, r = .raw w) ∨ ∃ P, r = .pr P) (hN : X.N.Nodup) (hi : X.N[i]? = some n) (hx : Loc X.env.scope n) (hp : i ∉ pn) (he : DE X δ e r δ1) (hs : swapsWith e (some (.Name n p1)) pos.line X.env = pure false := by rfl) (hf : X.fn n = true ∨ X.env.scope.names.lookup n = some .local := by first | exact .inl rfl | exact .inr rfl | assumption) :
    DS X pn δ (.Assign [.Name n p1] e pos) (.nx (δ1.set i r)) := (ps_set (i := i) hN hi hx he hs hf).imp fun D σ H ⟨F, R, k⟩ => ⟨F, R, fun v F1 H1 g R1 q => k _ F1 H1 ((aft_of g R1).trans (Aft.set_ R1 (by rcases hr with ⟨w, rfl⟩ | ⟨P, rfl⟩ <;> exact fun _ h => nomatch h) (by
    rcases hr with ⟨w, rfl⟩ | ⟨P, rfl⟩
    · exact congrArg some (show v = w from q)
    · exact ⟨v, rfl, q⟩) hp))⟩
/-- a new list of its own stored -/
theorem aft_setO {σ : L2.St} {F H F1 H1 : Hp} {v : V} {xs : List D} {i : Nat} (g : Go (Own σ δ) (Own σ δ1) F H F1 H1) (R1 : Rs F1 H1 σ δ1) (r : Res F1 H1 (Own σ δ) H (Own σ δ1) v (.ow xs)) (hp : i ∉ pn) : Aft pn σ δ F H (σ.set i (some v)) (δ1.set i (.ow xs)) F1 H1 := by
  obtain ⟨p, vs, rfl, h1, h2, h3, h4, h5⟩ := r
  refine ⟨⟨g.ff, g.keep, g.new, g.there, fun a h => ?_⟩, R1.setO h1 h2 h3 h4, fun j hj => List.getElem?_set_ne (by rintro rfl; exact hp hj)⟩
  rcases own_setO h with rfl | h
  · exact h5.elim .inr .inl
  · exact g.own a h
theorem ds_setO {i : Nat} {n : Str} {xs : List D} (hN : X.N.Nodup) (hi : X.N[i]? = some n) (hx : Loc X.env.scope n) (hp : i ∉ pn) (he : DE X δ e (.ow xs) δ1) (hs : swapsWith e (some (.Name n p1)) pos.line X.env = pure false := by rfl) (hf : X.fn n = true ∨ X.env.scope.names.lookup n = some .local := by first | exact .inl rfl | exact .inr rfl | assumption) :
    DS X pn δ (.Assign [.Name n p1] e pos) (.nx (δ1.set i (.ow xs))) := (ps_set (i := i) hN hi hx he hs hf).imp fun D σ H ⟨F, R, k⟩ => ⟨F, R, fun v F1 H1 g R1 r => k _ F1 H1 (aft_setO g R1 r hp)⟩
theorem ds_ret {r : DV} (he : DE X δ e r δ1) : DS X pn δ (.Return (some e) pos) (.rt r δ1) := (ps_ret he).imp fun D σ H ⟨F, R, k⟩ => ⟨F, R, fun v F1 H1 g R1 q => k v σ F1 H1 (aft_of g R1) q⟩
theorem ds_expr {r : DV} (he : DE X δ e r δ1) (hs : swapsWith e none pos.line X.env = pure false := by rfl) : DS X pn δ (.Expr e pos) (.nx δ1) := (ps_expr he hs).imp fun D σ H ⟨F, R, k⟩ => ⟨F, R, fun v F1 H1 g R1 q => k σ F1 H1 (aft_of g R1)⟩
theorem ds_ifT {t : Bool} {u w : List Stmt} (hc : DT X δ c t δ1) (h : t = true) (ha : DSs X pn δ1 u o) : DS X pn δ (.If c u w pos) o := by
  subst h
  exact (ps_if hc ha (pss_never (sts := w))).imp fun D σ H ⟨F, R, k⟩ => ⟨F, R, fun F1 H1 g R1 => iteT (tS.back (D := D) (aft_of g R1) k)⟩
theorem ds_ifF {t : Bool} {u w : List Stmt} (hc : DT X δ c t δ1) (h : t = false) (hb : DSs X pn δ1 w o) : DS X pn δ (.If c u w pos) o := by
  subst h
  exact (ps_if hc (pss_never (sts := u)) hb).imp fun D σ H ⟨F, R, k⟩ => ⟨F, R, fun F1 H1 g R1 => iteF (tS.back (D := D) (aft_of g R1) k)⟩
theorem ds_if {t : Bool} {u w : List Stmt} (hc : DT X δ c t δ1) (ha : t = true → DSs X pn δ1 u o) (hb : t = false → DSs X pn δ1 w o) : DS X pn δ (.If c u w pos) o := by
  cases t with
  | true => exact ds_ifT hc rfl (ha rfl)
  | false => exact ds_ifF hc rfl (hb rfl)
theorem ds_break : DS X pn δ (.Break pos) (.bk δ) := ps_break.imp fun D σ H ⟨F, R, k⟩ => k σ F H (.refl R)
theorem ds_continue : DS X pn δ (.Continue pos) (.ct δ) := ps_continue.imp fun D σ H ⟨F, R, k⟩ => k σ F H (.refl R)
/-- xs.append(e), xs the frame's own -/
theorem ds_append {i : Nat} {n : Str} {xs : List D} {apos : Pos} (hN : X.N[i]? = some n) (hv : Vis X.env.scope n) (h0 : ∃ ys, δ[i]? = some (.ow ys)) (he : DE X δ e (.d x) δ1) (h : δ1[i]? = some (.ow xs)) (hl : xs.length < sizeLine)
    (hd : (n == ("__debug__" : Str)) = false := by decide) (hcd : (n == ("__classdict__" : Str)) = false := by decide)
    (g1 : attributeBase (.Name n p1) "append" X.env (eval (.Name n p1) X.env) = eval (.Name n p1) X.env := by rfl)
    (g2 : (((((backTo p2 (starEach [e] X.env)).all fun x => !x.fst) && (backToKw p2 (keywordEach [] X.env)).all fun x => x.fst.isSome) && decide (([e].length + ([] : List Keyword).length + if ([] : List Keyword).isEmpty = true then 0 else 1) < 30)) = true) := by rfl)
    (g3 : (apos.endLine == p2.line) = true := by rfl) (g4 : starEach [e] X.env = (false, eval e X.env) :: starEach [] X.env := by rfl) (g5 : ((backTo p2 (starEach [] X.env)).any fun x => x.fst) = false := by rfl)
    (hs : swapsWith (.Call (.Attribute (.Name n p1) "append" apos) [e] [] p2) none pos.line X.env = pure false := by rfl) :
    DS X pn δ (.Expr (.Call (.Attribute (.Name n p1) "append" apos) [e] [] p2) pos) (.nx (δ1.set i (.ow (xs ++ [x])))) :=
  (ps_expr (pe_bm PySem.F.plainAttrs_list PySem.F.slot_list_append PySem.F.type_list_append mt_append (pe_var (i := i) hN hv hd hcd) (pa_cons he pa_nil g4) g1 g2 g3 g4 g5) hs).imp fun D σ H ⟨F, R, k⟩ => by
    obtain ⟨ys, h0⟩ := h0
    obtain ⟨o, e0, p, vs, q1, q2, q3, q4⟩ := R.at_ i _ h0
    refine ⟨.ref p, by rw [e0, q1], .inl ⟨rfl, _, SqL.of q3⟩, F, R, fun v F1 H1 g R1 r1 => ?_⟩
    obtain ⟨o', e', p', vs', q1', q2', q3', q4'⟩ := R1.at_ i _ h
    rw [e0] at e'; cases e'
    rw [q1] at q1'; cases q1'
    exact ⟨p, vs', v, rfl, rfl, q3', by rw [q4'.length]; exact hl, k σ F1 _ ((aft_of g R1).trans (Aft.mut R1 h (by rw [e0, q1]) (q4'.append (.cons r1 .nil))))⟩
/-- xs[j] = e, xs the frame's own -/
theorem ds_setix {i : Nat} {n : Str} {xs : List D} {j : Int} {m : Nat} (hN : X.N[i]? = some n) (hv : Vis X.env.scope n) (he : DE X δ e (.d x) δ1) (h0 : ∃ ys, δ1[i]? = some (.ow ys)) (hj : DE X δ1 b (.d (.int j)) δ2) (h : δ2[i]? = some (.ow xs)) (hm : ixN xs.length j = some m)
    (hd : (n == ("__debug__" : Str)) = false := by decide) (hcd : (n == ("__classdict__" : Str)) = false := by decide)
    (g1 : ∀ (v : Value), assign (Expr.Subscript (.Name n p1) b p2) X.env v = (do
        let ov ← holding [v] (eval (.Name n p1) X.env)
        let iv ← holding [v, ov] (eval b X.env)
        standAt p2
        holding [v, ov, iv] (setItem ov iv v)
        release [v, ov, iv] []) := by intro _; rfl)
    (hs : swapsWithSole [Expr.Subscript (.Name n p1) b p2] e pos.line X.env = pure false := by rfl) (hw : swappedStores [Expr.Subscript (.Name n p1) b p2] e X.env = pure none := by rfl)
    (h1 : (assignEach [Expr.Subscript (.Name n p1) b p2] X.env).map (·.2) = [assign (Expr.Subscript (.Name n p1) b p2) X.env] := by rfl) :
    DS X pn δ (.Assign [.Subscript (.Name n p1) b p2] e pos) (.nx (δ2.set i (.ow (xs.set m x)))) :=
  (ps_asg he (pg_sub (pe_var (i := i) hN hv hd hcd) hj set_list g1) hs hw h1).imp fun D σ H ⟨F, R, k⟩ => ⟨F, R, fun v F1 H1 g R1 r1 => by
    obtain ⟨ys, h0⟩ := h0
    obtain ⟨o, e0, p, vs, q1, q2, q3, q4⟩ := R1.at_ i _ h0
    refine ⟨.ref p, by rw [e0, q1], F1, R1, fun w F2 H2 g2 R2 r2 => ?_⟩
    cases r2
    obtain ⟨o', e', p', vs', q1', q2', q3', q4'⟩ := R2.at_ i _ h
    rw [e0] at e'; cases e'
    rw [q1] at q1'; cases q1'
    exact ⟨p, vs', j, m, rfl, rfl, q3', by rw [q4'.length]; exact hm, k σ F2 _ ((aft_of (g.trans g2) R2).trans (Aft.mut R2 h (by rw [e0, q1]) (RpA.set (Rp.ex g2.ff r1) m q4')))⟩⟩
end
end DL
end
section
set_option Elab.async false
set_option linter.all false
set_option maxRecDepth 100000
/-! DLe: what is walked, targets, loops, comprehensions, over frames of data. -/
namespace DL
open PySem PySem.Spec PyProof.Rows L2
variable [TL]

/-- the i-th of the items comes: it stands, or it is new -/
def YD (F : Hp) (items : List D) : Nat → Hp → V → Hp → Prop := fun i H v H' => ∃ d, items[i]? = some d ∧ ((H' = H ∧ Rp F v d) ∨ ∃ p o, H p = none ∧ H' = upd H p o ∧ (∀ ps, o ≠ .tbl ps) ∧ ∀ F1, Ex F F1 → F1 p = none → Rp (upd F1 p o) v d)
def WkD (J : It) (F : Hp) (items : List D) : Prop := Walk J items.length (fun H => Ex F H) (YD F items)
def tDI (δ : List DV) (items : List D) (δ' : List DV) : TI := fun σ H R => ∃ F, Rs F H σ δ ∧ ∀ J F' H', Go (Own σ δ) (Own σ δ') F H F' H' → Rs F' H' σ δ' → WkD J F' items → R J H'
abbrev DI (X : Cx) (δ : List DV) (tg iter : Expr) (items : List D) (δ' : List DV) : Prop := PI X tg iter (tDI δ items δ')
theorem _root_.L2.PI.imp {X : Cx} {tg e : Expr} {t u : TI} (h : PI X tg e t) (k : ∀ σ H Q, u σ H Q → t σ H Q) : PI X tg e u := ⟨fun pins s σ H Q I q => h.run pins s σ H Q I (k _ _ _ q)⟩
theorem _root_.L2.PG.imp {X : Cx} {tg : Expr} {t u : TG} (h : PG X tg t) (k : ∀ v σ H Q, u v σ H Q → t v σ H Q) : PG X tg u := ⟨fun pins s σ H v w Q I r q => h.run pins s σ H v w Q I r (k _ _ _ _ q)⟩

section
variable {X : Cx} {pn : List Nat} {δ δ1 δ2 δ3 : List DV} {a b c e tg : Expr} {x y z r : D} {pos p1 p2 : Pos} {items : List D}
theorem di_list {xs : List D} (ha : DE X δ e (.d (.lst xs)) δ1) : DI X δ tg e xs δ1 := (pi_list ha).imp fun σ H R ⟨F, Rf, k⟩ => ⟨F, Rf, fun v F1 H1 g R1 r1 => by
  cases r1 with
  | lst h1 ra =>
    refine ⟨_, rfl, ⟨_, SqL.of (R1.sub _ _ h1)⟩, k _ F1 H1 g R1 ?_⟩
    unfold WkD
    rw [← ra.length]
    exact walk_list.mono (fun H' e => SqL.of (e _ _ h1)) fun i H v H' _ _ ⟨e, q⟩ => by
      obtain ⟨d, h2, h3⟩ := ra.getV q
      exact ⟨d, h2, .inl ⟨e, h3⟩⟩⟩
theorem di_tup {xs : List D} (ha : DE X δ e (.d (.tup xs)) δ1) : DI X δ tg e xs δ1 := (pi_tup ha).imp fun σ H R ⟨F, Rf, k⟩ => ⟨F, Rf, fun v F1 H1 g R1 r1 => by
  cases r1 with
  | tup h1 ra =>
    refine ⟨_, rfl, ⟨_, SqT.of (R1.sub _ _ h1)⟩, k _ F1 H1 g R1 ?_⟩
    unfold WkD
    rw [← ra.length]
    exact walk_tup.mono (fun H' e => SqT.of (e _ _ h1)) fun i H v H' _ _ ⟨e, q⟩ => by
      obtain ⟨d, h2, h3⟩ := ra.getV q
      exact ⟨d, h2, .inl ⟨e, h3⟩⟩⟩
/-- the irange from lo on, n of them -/
def irange (lo : Int) (n : Nat) : List D := (List.range n).map fun (k : Nat) => D.int (lo + (k : Int))
theorem irange_len (lo : Int) (n : Nat) : (irange lo n).length = n := by simp [irange]
theorem irange_get {lo : Int} {n j : Nat} (h : j < n) : (irange lo n)[j]? = some (.int (lo + (j : Int))) := by simp [irange, h]
theorem walk_irange {lo : Int} {n : Nat} {F : Hp} : WkD (Itr lo n) F (irange lo n) := by
  unfold WkD
  rw [irange_len]
  refine Walk.mono walk_range (fun _ _ => trivial) fun i H v H' hi _ ⟨e, q⟩ => ⟨_, irange_get hi, .inl ⟨e, by rw [q]; exact .int _⟩⟩
theorem di_range1 {n : Int} (hg : Gl X "range") (hm : X.mg "range" = none) (ha : DE X δ a (.d (.int n)) δ1) (h1 : -(2 ^ 62) ≤ n ∧ n < 2 ^ 62) (hs : starEach [a] X.env = [(false, eval a X.env)] := by rfl) : DI X δ tg (.Call (.Name "range" p1) [a] [] pos) (irange 0 n.toNat) δ1 :=
  (pi_range1 hg hm (pa_cons ha pa_nil hs) hs).imp fun σ H R ⟨F, Rf, k⟩ => ⟨F, Rf, fun v F1 H1 g R1 r1 => by
    cases r1
    exact ⟨n, rfl, h1.1, h1.2, k _ F1 H1 g R1 walk_irange⟩⟩
theorem di_range2 {m n : Int} (hg : Gl X "range") (hm : X.mg "range" = none) (ha : DE X δ a (.d (.int m)) δ1) (hb : DE X δ1 b (.d (.int n)) δ2) (h0 : -(2 ^ 62) ≤ m ∧ m < 2 ^ 62) (h1 : -(2 ^ 62) ≤ n ∧ n < 2 ^ 62) (hs : starEach [a, b] X.env = [(false, eval a X.env), (false, eval b X.env)] := by rfl) (hs2 : starEach [b] X.env = [(false, eval b X.env)] := by rfl) :
    DI X δ tg (.Call (.Name "range" p1) [a, b] [] pos) (irange m (n - m).toNat) δ2 :=
  (pi_range2 hg hm (pa_cons ha (pa_cons hb pa_nil hs2) (by rw [hs, hs2])) hs hs2).imp fun σ H R ⟨F, Rf, k⟩ => ⟨F, Rf, fun v F1 H1 g R1 r1 => ⟨F1, R1, fun w F2 H2 g2 R2 r2 => by
    cases r1; cases r2
    exact ⟨m, n, rfl, ⟨h0.1, h0.2, h1.1, h1.2⟩, k _ F2 H2 (g.trans g2) R2 walk_irange⟩⟩⟩
def sgns (s : Str) : List D := s.cps.toList.map fun c => D.str ⟨#[c]⟩
theorem di_str {s : Str} (ha : DE X δ e (.d (.str s)) δ1) : DI X δ tg e (sgns s) δ1 := (pi_str ha).imp fun σ H R ⟨F, Rf, k⟩ => ⟨F, Rf, fun v F1 H1 g R1 r1 => by
  cases r1
  refine ⟨s, rfl, k _ F1 H1 g R1 ?_⟩
  unfold WkD
  have e : (sgns s).length = s.cps.size := by simp [sgns]
  rw [e]
  refine Walk.mono walk_str (fun _ _ => trivial) fun i H v H' _ _ ⟨e, c, h1, h2⟩ => ⟨.str ⟨#[c]⟩, ?_, .inl ⟨e, by rw [h2]; exact .str _⟩⟩
  simp [sgns, h1]⟩
theorem di_zip {xs ys : List D} {es : List Expr} {kk : Nat} (hg : Gl X "zip") (hm : X.mg "zip" = none) (ha : DE X δ a (.d (.lst xs)) δ1) (hb : DE X δ1 b (.d (.lst ys)) δ2) (hs : starEach [a, b] X.env = (false, eval a X.env) :: starEach [b] X.env := by rfl) (hs2 : starEach [b] X.env = (false, eval b X.env) :: starEach [] X.env := by rfl) (hpl : ((backTo pos (starEach [b] X.env)).any fun x => x.1) = false := by rfl) :
    DI X δ (.Tuple es kk p2) (.Call (.Name "zip" p1) [a, b] [] pos) (List.zipWith (fun x y => D.tup [x, y]) xs ys) δ2 :=
  (pi_zip hg hm (pa_cons ha (pa_cons hb pa_nil hs2) hs) hs hpl).imp fun σ H R ⟨F, Rf, k⟩ => ⟨F, Rf, fun v F1 H1 g R1 r1 => ⟨F1, R1, fun w F2 H2 g2 R2 r2 => by
    replace r1 := Rp.ex g2.ff r1
    cases r1 with
    | lst h1 ra =>
      cases r2 with
      | lst h2 rb =>
        refine ⟨_, _, _, _, rfl, SqL.of (R2.sub _ _ h1), SqL.of (R2.sub _ _ h2), k _ F2 H2 (g.trans g2) R2 ?_⟩
        unfold WkD
        refine Walk.mono (walk_zip (by rw [List.length_zipWith, ra.length, rb.length])) (fun H' e => ⟨SqL.of (e _ _ h1), SqL.of (e _ _ h2)⟩) fun i H v H' _ _ ⟨T, x, y, e1, e2, e3, e4, e5⟩ => ?_
        obtain ⟨dx, k1, k2⟩ := ra.getV e4
        obtain ⟨dy, k3, k4⟩ := rb.getV e5
        refine ⟨.tup [dx, dy], by rw [List.getElem?_zipWith, k1, k3], .inr ⟨T, _, e2, e3, (fun _ h => nomatch h), fun F3 ex hn => ?_⟩⟩
        rw [e1]
        exact .tup upd_same (.cons (k2.ex (ex.trans (.new hn))) (.cons (k4.ex (ex.trans (.new hn))) .nil))⟩⟩
theorem di_enum {xs : List D} {es : List Expr} {kk : Nat} (hg : Gl X "enumerate") (hm : X.mg "enumerate" = none) (ha : DE X δ a (.d (.lst xs)) δ1) (hs : starEach [a] X.env = [(false, eval a X.env)] := by rfl) :
    DI X δ (.Tuple es kk p2) (.Call (.Name "enumerate" p1) [a] [] pos) (List.zipWith (fun x y => D.tup [x, y]) (irange 0 xs.length) xs) δ1 :=
  (pi_enum hg hm (pa_cons ha pa_nil hs) hs).imp fun σ H R ⟨F, Rf, k⟩ => ⟨F, Rf, fun v F1 H1 g R1 r1 => by
    cases r1 with
    | lst h1 ra =>
      refine ⟨_, _, rfl, SqL.of (R1.sub _ _ h1), k _ F1 H1 g R1 ?_⟩
      unfold WkD
      rename_i vs
      have el : (List.zipWith (fun x y => D.tup [x, y]) (irange 0 xs.length) xs).length = vs.length := by rw [List.length_zipWith, irange_len, Nat.min_self, ra.length]
      rw [el]
      refine Walk.mono walk_enum (fun H' e => SqL.of (e _ _ h1)) fun i H v H' hi _ ⟨T, x, y, e1, e2, e3, e4, e5⟩ => ?_
      obtain ⟨dy, k3, k4⟩ := ra.getV e5
      cases e4
      have hi' : i < xs.length := by rw [← ra.length]; exact hi
      refine ⟨.tup [.int (i : Int), dy], by rw [List.getElem?_zipWith, irange_get hi', k3, Int.zero_add], .inr ⟨T, _, e2, e3, (fun _ h => nomatch h), fun F3 ex hn => ?_⟩⟩
      rw [e1]
      exact .tup upd_same (.cons (.int _) (.cons (k4.ex (ex.trans (.new hn))) .nil))⟩

/-! ### targets -/
def tDG (pn : List Nat) (d : D) (δ δ' : List DV) : TG := fun v σ H Q => ∃ F, Rs F H σ δ ∧ Rp F v d ∧ ∀ σ', Aft pn σ δ F H σ' δ' F H → Q σ' H
abbrev DG (X : Cx) (pn : List Nat) (tg : Expr) (d : D) (δ δ' : List DV) : Prop := PG X tg (tDG pn d δ δ')
theorem dg_name {i : Nat} {n : Str} (hN : X.N.Nodup) (hi : X.N[i]? = some n) (hx : Loc X.env.scope n) (hp : i ∉ pn) (hf : X.fn n = true ∨ X.env.scope.names.lookup n = some .local := by first | exact .inl rfl | exact .inr rfl | assumption) : DG X pn (.Name n pos) x δ (δ.set i (.d x)) :=
  (pg_name (i := i) hN hi hx hf).imp fun v σ H Q ⟨F, R, r, k⟩ => k _ (Aft.set_ R (fun _ h => nomatch h) ⟨v, rfl, r⟩ hp)
theorem dg_two {i j : Nat} {n m : Str} {kk : Nat} (hc : X.calm = true) (hN : X.N.Nodup) (hi : X.N[i]? = some n) (hx : Loc X.env.scope n) (hj : X.N[j]? = some m) (hy : Loc X.env.scope m) (hp : i ∉ pn) (hq : j ∉ pn)
    (hf : X.fn n = true ∨ X.env.scope.names.lookup n = some .local := by first | exact .inl rfl | exact .inr rfl | assumption) (hf2 : X.fn m = true ∨ X.env.scope.names.lookup m = some .local := by first | exact .inl rfl | exact .inr rfl | assumption)
    (g1 : (assignEach [Expr.Name m p2] X.env).map (·.2) = assign (.Name m p2) X.env :: (assignEach [] X.env).map (·.2) := by rfl)
    (g2 : (assignEach [Expr.Name n p1, .Name m p2] X.env).map (·.2) = assign (.Name n p1) X.env :: (assignEach [.Name m p2] X.env).map (·.2) := by rfl)
    (g3 : (assignEach [Expr.Name n p1, .Name m p2] X.env).length = 2 := by rfl) (g4 : (assignEach [Expr.Name n p1, .Name m p2] X.env).findIdx? (·.1) = none := by rfl) :
    DG X pn (.Tuple [.Name n p1, .Name m p2] kk pos) (.tup [x, y]) δ ((δ.set i (.d x)).set j (.d y)) :=
  (pg_tup hc (pgs_cons (pg_name (i := i) hN hi hx hf) (pgs_cons (pg_name (i := j) hN hj hy hf2) pgs_nil g1) g2) g3 g4).imp fun v σ H Q ⟨F, R, r, k⟩ => by
    cases r with
    | tup h1 ra =>
      cases ra with
      | cons r1 ra =>
        cases ra with
        | cons r2 ra =>
          cases ra
          have A1 := Aft.set_ (pn := pn) (i := i) (v := some _) (x := .d x) R (fun _ h => nomatch h) ⟨_, rfl, r1⟩ hp
          have A2 := Aft.set_ (pn := pn) (i := j) (v := some _) (x := .d y) A1.rs (fun _ h => nomatch h) ⟨_, rfl, r2⟩ hq
          exact ⟨_, _, rfl, SqT.of (R.sub _ _ h1), rfl, _, _, rfl, _, _, rfl, rfl, k _ (A1.trans A2)⟩

/-! ### for -/
theorem pss_ex {ι : Type} {st : List Stmt} {t : ι → TS} (h : ∀ i, PSs X st (t i)) : PSs X st (fun D σ H => ∃ i, t i D σ H) := ⟨fun pins s σ H D I ⟨i, q⟩ => (h i).run pins s σ H D I q⟩
theorem pg_ex {ι : Type} {t : ι → TG} (h : ∀ i, PG X tg (t i)) : PG X tg (fun v σ H Q => ∃ i, t i v σ H Q) := ⟨fun pins s σ H v w Q I r ⟨i, q⟩ => (h i).run pins s σ H v w Q I r q⟩
theorem pe_ex {ι : Type} {t : ι → TE} (h : ∀ i, PE X e (t i)) : PE X e (fun σ H Q => ∃ i, t i σ H Q) := ⟨fun pins s σ H Q I ⟨i, q⟩ => (h i).run pins s σ H Q I q⟩
theorem pt_ex {ι : Type} {t : ι → TT} (h : ∀ i, PT X e (t i)) : PT X e (fun σ H Q => ∃ i, t i σ H Q) := ⟨fun pins s σ H Q I ⟨i, q⟩ => (h i).run pins s σ H Q I q⟩
theorem pts_ex {ι : Type} {ifs : List Expr} {t : ι → TT} (h : ∀ i, PTs X ifs (t i)) : PTs X ifs (fun σ H Q => ∃ i, t i σ H Q) := ⟨fun pins s σ H Q I ⟨i, q⟩ => (h i).run pins s σ H Q I q⟩
/-- what is new by the turn -/
theorem YD.rs {F H : Hp} {σ : L2.St} {δ : List DV} {F0 : Hp} {i : Nat} {v : V} {H' : Hp} (e : Ex F0 F) (R : Rs F H σ δ) (h : YD F0 items i H v H') : ∃ d F', items[i]? = some d ∧ Aft pn σ δ F H σ δ F' H' ∧ Rp F' v d := by
  obtain ⟨d, h1, h2⟩ := h
  rcases h2 with ⟨rfl, h3⟩ | ⟨p, o, h3, rfl, hnt, h4⟩
  · exact ⟨d, F, h1, .refl R, h3.ex e⟩
  · have hF := R.sub.none h3
    exact ⟨d, upd F p o, h1, ⟨Go.new_ h3 hF, R.new h3 hnt, fun _ _ => rfl⟩, h4 F e hF⟩
/-- a turn's end -/
inductive TO_ where
  | nx | ct
def TO_.out (δ : List DV) : TO_ → Out
  | .nx => .nx δ
  | .ct => .ct δ
/-- the loop's end: all turns, or at the turn m a return, a break -/
inductive LE_ (items : List D) (fr : Nat → List DV) (m : Nat) : Out → Option Out → Prop where
  | all : m = items.length → LE_ items fr m (.nx (fr m)) none
  | rt {r : DV} {δ' : List DV} : m < items.length → LE_ items fr m (.rt r δ') (some (.rt r δ'))
  | bk {δ' : List DV} : m < items.length → LE_ items fr m (.nx δ') (some (.bk δ'))
  | ex {C : Addr} {d : D} : m < items.length → LE_ items fr m (.ex C d) (some (.ex C d))
theorem ds_for_ {iter : Expr} {body : List Stmt} {o : Out} {last : Option Out} (hp : PassesOwn (model X.prog X.w) X.A X.env X.xe) (hc : X.calm = true) (hi : DI X δ tg iter items δ1) (fr tf : Nat → List DV) (m : Nat) (to : Nat → TO_) (h0 : fr 0 = δ1) (hm : m ≤ items.length)
    (hg : ∀ j d, j ≤ m → items[j]? = some d → DG X pn tg d (fr j) (tf j)) (hb : ∀ j d, j < m → items[j]? = some d → DSs X pn (tf j) body ((to j).out (fr (j + 1)))) (he : LE_ items fr m o last) (hl : ∀ d q, last = some q → items[m]? = some d → DSs X pn (tf m) body q)
    (hs : ∀ x, foldedSetIterable iter X.env x = pure x := by intro _; rfl) : DS X pn δ (.For tg iter body [] pos) o := by
  let ιg : Type := { p : Nat × D // p.1 ≤ m ∧ items[p.1]? = some p.2 }
  let ιb : Type := { p : Nat × D × Out // (p.1 < m ∧ items[p.1]? = some p.2.1 ∧ p.2.2 = (to p.1).out (fr (p.1 + 1))) ∨ (p.1 = m ∧ items[m]? = some p.2.1 ∧ last = some p.2.2) }
  have G : PG X tg _ := pg_ex (ι := ιg) fun p => hg p.1.1 p.1.2 p.2.1 p.2.2
  have B : PSs X body (fun D σ H => ∃ p : ιb, tS X pn (tf p.1.1) p.1.2.2 D σ H) := pss_ex (ι := ιb) fun p => by
    rcases p.2 with ⟨h1, h2, h3⟩ | ⟨h1, h2, h3⟩
    · rw [h3]; exact hb _ _ h1 h2
    · rw [h1]; exact hl _ _ h3 h2
  refine (ps_for hp hc hi G B hs).imp fun D σ H ⟨F, R, k⟩ => ⟨F, R, fun J F1 H1 g1 R1 w => ?_⟩
  have A1 : Aft pn σ δ F H σ δ1 F1 H1 := ⟨g1, R1, fun _ _ => rfl⟩
  refine for_it (g := fun v σ H Q => ∃ i : ιg, tDG pn i.1.2 (fr i.1.1) (tf i.1.1) v σ H Q) (tb := fun D σ H => ∃ p : ιb, tS X pn (tf p.1.1) p.1.2.2 D σ H) (D := D) w (fun i σ' H' => i ≤ m ∧ ∃ F', Aft pn σ δ F H σ' (fr i) F' H' ∧ Ex F1 F') ⟨Nat.zero_le _, F1, by rw [h0]; exact A1, .refl _⟩ (fun i σ' H' _ ⟨_, F', A, e⟩ => e.trans A.rs.sub) ?_ ?_
  · rintro i v σ' H' H'' hi ⟨hm', F', A, e⟩ y
    obtain ⟨d, F2, h1, A2, r2⟩ := YD.rs (pn := pn) e A.rs y
    refine ⟨⟨(i, d), hm', h1⟩, F2, A2.rs, r2, fun σ3 A3 => ?_⟩
    have A4 := (A.trans A2).trans A3
    have e4 : Ex F1 F2 := e.trans A2.go.ff
    by_cases hlt : i < m
    · have key : ∀ q : TO_, tS X pn (tf i) (q.out (fr (i + 1))) { D with nx := fun σ' H' => i + 1 ≤ m ∧ ∃ F', Aft pn σ δ F H σ' (fr (i + 1)) F' H' ∧ Ex F1 F', ct := fun σ' H' => i + 1 ≤ m ∧ ∃ F', Aft pn σ δ F H σ' (fr (i + 1)) F' H' ∧ Ex F1 F', bk := D.nx } σ3 H'' := fun q => by
        cases q with
        | nx => exact ⟨F2, A3.rs, fun σ5 F5 H5 A5 => ⟨hlt, F5, A4.trans A5, e4.trans A5.go.ff⟩⟩
        | ct => exact ⟨F2, A3.rs, fun σ5 F5 H5 A5 => ⟨hlt, F5, A4.trans A5, e4.trans A5.go.ff⟩⟩
      exact ⟨⟨(i, d, (to i).out (fr (i + 1))), .inl ⟨hlt, h1, rfl⟩⟩, key (to i)⟩
    · have hmi : i = m := by omega
      subst hmi
      cases he with
      | all q => omega
      | rt q => exact ⟨⟨(i, d, _), .inr ⟨rfl, h1, rfl⟩⟩, F2, A3.rs, fun v5 σ5 F5 H5 A5 r5 => k v5 σ5 F5 H5 (A4.trans A5) (Res.back A4.go r5)⟩
      | bk q => exact ⟨⟨(i, d, _), .inr ⟨rfl, h1, rfl⟩⟩, F2, A3.rs, fun σ5 F5 H5 A5 => k σ5 F5 H5 (A4.trans A5)⟩
      | ex q => exact ⟨⟨(i, d, _), .inr ⟨rfl, h1, rfl⟩⟩, F2, A3.rs, tEx.back A4 k⟩
  · rintro σ' H' ⟨hm', F', A, e⟩
    cases he with
    | all q => subst q; exact k σ' F' H' A
    | rt q => omega
    | bk q => omega
    | ex q => omega
/-- all turns are gone -/
theorem ds_for {iter : Expr} {body : List Stmt} (hp : PassesOwn (model X.prog X.w) X.A X.env X.xe) (hc : X.calm = true) (hi : DI X δ tg iter items δ1) (fr tf : Nat → List DV) (h0 : fr 0 = δ1)
    (hg : ∀ j d, items[j]? = some d → DG X pn tg d (fr j) (tf j)) (hb : ∀ j d, j < items.length → items[j]? = some d → DSs X pn (tf j) body (.nx (fr (j + 1))))
    (hs : ∀ x, foldedSetIterable iter X.env x = pure x := by intro _; rfl) : DS X pn δ (.For tg iter body [] pos) (.nx (fr items.length)) :=
  ds_for_ hp hc hi fr tf items.length (fun _ => .nx) h0 (Nat.le_refl _) (fun j d _ h => hg j d h) hb (.all rfl) (fun _ _ h => nomatch h) hs

/-! ### while -/
theorem ds_while {body : List Stmt} (hp : PassesOwn (model X.prog X.w) X.A X.env X.xe) (fr tf : Nat → List DV) (m : Nat) (h0 : fr 0 = δ) (hc : ∀ j, j ≤ m → DT X (fr j) c (decide (j < m)) (tf j)) (hb : ∀ j, j < m → DSs X pn (tf j) body (.nx (fr (j + 1)))) :
    DS X pn δ (.While c body [] pos) (.nx (tf m)) := by
  have C : PT X c _ := pt_ex (ι := { j : Nat // j ≤ m }) fun j => hc j.1 j.2
  have B : PSs X body _ := pss_ex (ι := { j : Nat // j < m }) fun j => hb j.1 j.2
  refine (ps_while hp C B).imp fun D σ H ⟨F, R, k⟩ => ?_
  refine ⟨fun n σ' H' => n ≤ m ∧ ∃ F', Aft pn σ δ F H σ' (fr (m - n)) F' H', ⟨m, Nat.le_refl _, F, by rw [Nat.sub_self, h0]; exact .refl R⟩, ?_⟩
  rintro n σ' H' ⟨hn, F', A⟩
  refine ⟨⟨m - n, by omega⟩, F', A.rs, fun F2 H2 g2 R2 => ?_⟩
  have A2 : Aft pn σ δ F H σ' (tf (m - n)) F2 H2 := A.trans ⟨g2, R2, fun _ _ => rfl⟩
  by_cases h : 0 < n
  · have hd : decide (m - n < m) = true := decide_eq_true (by omega)
    show (if decide (m - n < m) = true then _ else _)
    rw [if_pos hd]
    refine ⟨fun σ3 H3 => n - 1 ≤ m ∧ ∃ F3, Aft pn σ δ F H σ3 (fr (m - (n - 1))) F3 H3, fun σ3 H3 q => ⟨n - 1, by omega, q⟩, ⟨m - n, by omega⟩, F2, R2, fun σ3 F3 H3 A3 => ⟨by omega, F3, ?_⟩⟩
    have e : m - (n - 1) = m - n + 1 := by omega
    rw [e]
    exact A2.trans A3
  · have hn0 : n = 0 := by omega
    subst hn0
    show (if decide (m - 0 < m) = true then _ else _)
    rw [if_neg (by simp)]
    exact k σ' F2 H2 (by simpa using A2)
end
end DL
end
section
set_option Elab.async false
set_option linter.all false
set_option maxRecDepth 100000
/-! DLf: comprehensions, calls of defs, over frames of data. -/
namespace DL
open PySem PySem.Spec PyProof.Rows L2
variable [TL]

/-! ### the slots of a block's own names -/
def wipeD (δ : List DV) : List Nat → List DV
  | [] => δ
  | v :: vs => (wipeD δ vs).set v .un
def unw (δ δn : List DV) (vs : List Nat) : List DV := δn.mapIdx fun i x => if i ∈ vs then δ.getD i .un else x
def pnv (n : Nat) (vs : List Nat) : List Nat := (List.range n).filter fun i => !vs.contains i
section
variable {F H : Hp} {σ σ2 : L2.St} {δ δ' : List DV} {vs : List Nat}
theorem Rs.wipe (r : Rs F H σ δ) (ws : List Nat) : Rs F H (L2.wipe σ ws) (wipeD δ ws) := by
  induction ws with
  | nil => exact r
  | cons v ws ih => exact ih.set_ (fun _ h => nomatch h) trivial
theorem own_wipe {ws : List Nat} {a : Addr} (h : Own (L2.wipe σ ws) (wipeD δ ws) a) : Own σ δ a := by
  induction ws with
  | nil => exact h
  | cons v ws ih => exact ih (own_set (x := .un) (v := none) (i := v) (fun _ h => nomatch h) h)
theorem wipe_get : ∀ (vs : List Nat) (i : Nat), (L2.wipe σ vs)[i]? = if i ∈ vs ∧ i < σ.length then some none else σ[i]?
  | [], i => by simp [L2.wipe]
  | v :: vs, i => by
    unfold L2.wipe
    by_cases z : v = i
    · subst z
      by_cases hl : v < σ.length
      · rw [List.getElem?_set_self (by rw [wipe_length]; exact hl)]; simp [hl]
      · rw [List.getElem?_eq_none (by rw [List.length_set, wipe_length]; omega), List.getElem?_eq_none (by omega)]; simp [hl]
    · rw [List.getElem?_set_ne z, wipe_get vs i]
      have : i ≠ v := fun q => z q.symm
      simp [this]
theorem wipe_eq (hl : σ2.length = σ.length) (h : ∀ i, i < σ.length → i ∉ vs → σ2[i]? = (L2.wipe σ vs)[i]?) : L2.wipe σ2 vs = L2.wipe σ vs := by
  refine List.ext_getElem? fun i => ?_
  rw [wipe_get, wipe_get, hl]
  by_cases h1 : i ∈ vs ∧ i < σ.length
  · rw [if_pos h1, if_pos h1]
  · rw [if_neg h1, if_neg h1]
    by_cases h2 : i < σ.length
    · have h3 : i ∉ vs := fun z => h1 ⟨z, h2⟩
      rw [h i h2 h3, wipe_get, if_neg h1]
    · rw [List.getElem?_eq_none (by omega), List.getElem?_eq_none (by omega)]
theorem mem_pnv {n i : Nat} : i ∈ pnv n vs ↔ i < n ∧ i ∉ vs := by simp [pnv]
/-- out of the block again -/
theorem unw_get {i : Nat} {x : DV} {δn : List DV} (h : (unw δ δn vs)[i]? = some x) : i < δn.length ∧ ((i ∈ vs ∧ x = δ.getD i .un) ∨ (i ∉ vs ∧ δn[i]? = some x)) := by
  unfold unw at h
  rw [List.getElem?_mapIdx] at h
  obtain ⟨y, h1, h2⟩ := Option.map_eq_some_iff.mp h
  refine ⟨(List.getElem?_eq_some_iff.mp h1).1, ?_⟩
  by_cases z : i ∈ vs
  · rw [if_pos z] at h2; exact .inl ⟨z, h2.symm⟩
  · rw [if_neg z] at h2; exact .inr ⟨z, by rw [h1, h2]⟩
theorem own_unw {δn : List DV} (hn : ∀ v ∈ vs, ∀ xs, δ[v]? ≠ some (.ow xs)) {a : Addr} (h : Own σ (unw δ δn vs) a) : Own (L2.wipe σ vs) δn a := by
  obtain ⟨i, xs, h1, h2⟩ := h
  obtain ⟨hi, ⟨h3, h4⟩ | ⟨h3, h4⟩⟩ := unw_get h1
  · rw [List.getD_eq_getElem?_getD] at h4
    cases q : δ[i]? with
    | none => rw [q] at h4; cases h4
    | some y => rw [q] at h4; exact absurd (by rw [q]; exact congrArg some h4.symm) (hn i h3 xs)
  · exact ⟨i, xs, h4, by rw [wipe_get, if_neg (fun z => h3 z.1)]; exact h2⟩
theorem Rs.unwipe {F1 H1 : Hp} {δn : List DV} (r0 : Rs F H σ δ) (e : Ex F F1) (hn : ∀ v ∈ vs, ∀ xs, δ[v]? ≠ some (.ow xs)) (r : Rs F1 H1 (L2.wipe σ vs) δn) : Rs F1 H1 σ (unw δ δn vs) := by
  have ln : δn.length = σ.length := by rw [← r.len, wipe_length]
  refine ⟨r.sub, by unfold unw; rw [List.length_mapIdx, ln], fun i x h => ?_, fun i j xs ys o hij h1 h2 h3 h4 => ?_, r.tb, r.nt⟩
  · obtain ⟨hi, ⟨h3, h4⟩ | ⟨h3, h4⟩⟩ := unw_get h
    · have hl : i < δ.length := by rw [← r0.len, ← ln]; exact hi
      have q : δ[i]? = some x := by rw [h4, List.getD_eq_getElem?_getD, List.getElem?_eq_getElem hl]; rfl
      obtain ⟨o, k1, k2⟩ := r0.at_ i x q
      refine ⟨o, k1, ?_⟩
      cases x with
      | un => trivial
      | d x => obtain ⟨v, q1, q2⟩ := k2; exact ⟨v, q1, q2.ex e⟩
      | raw v => exact k2
      | pr P => obtain ⟨v, q1, q2⟩ := k2; exact ⟨v, q1, fun F2 e2 => q2 F2 (e.trans e2)⟩
      | ow xs => exact absurd q (hn i h3 xs)
    · obtain ⟨o, k1, k2⟩ := r.at_ i x h4
      rw [wipe_get, if_neg (fun z => h3 z.1)] at k1
      exact ⟨o, k1, k2⟩
  · have key : ∀ {i : Nat} {xs : List D}, (unw δ δn vs)[i]? = some (.ow xs) → i ∉ vs ∧ δn[i]? = some (.ow xs) := fun {i xs} h => by
      obtain ⟨hi, ⟨h3, h4⟩ | h⟩ := unw_get h
      · rw [List.getD_eq_getElem?_getD] at h4
        cases q : δ[i]? with
        | none => rw [q] at h4; cases h4
        | some y => rw [q] at h4; exact absurd (by rw [q]; exact congrArg some h4.symm) (hn i h3 xs)
      · exact h
    obtain ⟨a1, a2⟩ := key h1
    obtain ⟨b1, b2⟩ := key h2
    exact r.ap i j xs ys o hij a2 b2 (by rw [wipe_get, if_neg (fun z => a1 z.1)]; exact h3) (by rw [wipe_get, if_neg (fun z => b1 z.1)]; exact h4)
theorem Rs.other (r : Rs F H σ δ) {p : Addr} {o : HO} (h1 : F p = none) (h2 : ¬ Own σ δ p) (h3 : H p = none ∨ ∃ xs, H p = some (.lst xs)) : Rs F (upd H p o) σ δ := by
  refine ⟨fun a u h => by rw [upd_ne (fun z => by rw [z, h1] at h; cases h)]; exact r.sub a u h, r.len, fun i x h => ?_, r.ap, tabs_upd r.tb h3, r.nt⟩
  obtain ⟨q, e, k⟩ := r.at_ i x h
  refine ⟨q, e, ?_⟩
  cases x with
  | un => trivial
  | d x => exact k
  | raw v => exact k
  | pr P => exact k
  | ow xs =>
    obtain ⟨b, us, k1, k2, k3, k4⟩ := k
    exact ⟨b, us, k1, k2, by rw [upd_ne (fun z => h2 ⟨i, xs, h, by rw [e, k1, z]⟩)]; exact k3, k4⟩
theorem Go.other {O O' : Addr → Prop} {F H F' H' : Hp} (g : Go O O' F H F' H') {p : Addr} {o : HO} (h : Fre H p) : Go O O' F H F' (upd H' p o) :=
  ⟨g.ff, fun a u q n nt => by rw [upd_ne (fun z => by rw [z] at q; exact h.not q nt)]; exact g.keep a u q n nt, g.new, fun a q => by
    by_cases z : a = p
    · rw [z]; exact h
    · exact g.there a fun u e => q u (by rw [upd_ne z]; exact e), g.own⟩
end
theorem Go.wk {O O1 O' O2 : Addr → Prop} {F H F' H' : Hp} (g : Go O O' F H F' H') (h1 : ∀ a, O a → O1 a) (h2 : ∀ a, O2 a → O' a ∨ O1 a ∨ Fre H a) : Go O1 O2 F H F' H' :=
  ⟨g.ff, fun a o q n nt => g.keep a o q (fun z => n (h1 a z)) nt, fun a o q => (g.new a o q).imp id (Or.imp id (h1 a)), g.there, fun a q => by
    rcases h2 a q with q | q | q
    · exact (g.own a q).imp (h1 a) id
    · exact .inl q
    · exact .inr q⟩

section
variable {X : Cx} {δ δ1 δ' : List DV} {elt tg iter : Expr} {ifs : List Expr} {pos : Pos} {items : List D}
/-- what a comprehension's turns give -/
def took (b : Nat → Bool) (r : Nat → D) (n : Nat) : List D := (List.range n).flatMap fun k => if b k then [r k] else []
theorem took_succ (b : Nat → Bool) (r : Nat → D) (n : Nat) : took b r (n + 1) = took b r n ++ if b n then [r n] else [] := by
  unfold took
  rw [List.range_succ, List.flatMap_append]
  simp
theorem took_len (b : Nat → Bool) (r : Nat → D) : ∀ n, (took b r n).length ≤ n
  | 0 => by simp [took]
  | n + 1 => by
    rw [took_succ, List.length_append]
    have h := took_len b r n
    cases b n <;> simp <;> omega
theorem lc_read (vs : List Nat) {σ : L2.St} {H : Hp} {Q : VK}
    (fr tf cf ef : Nat → List DV) (b : Nat → Bool) (r : Nat → D) (h0 : wipeD δ1 vs = fr 0) (hlen : ∀ j, (tf j).length = δ1.length)
    (hw : ∀ j, j < items.length → wipeD (if b j then ef j else cf j) vs = fr (j + 1)) (hsz : items.length < sizeLine)
    (hn : ∀ v ∈ vs, ∀ xs, δ1[v]? ≠ some (.ow xs)) (hu : unw δ1 (fr items.length) vs = δ') (h : tD δ (.ow (took b r items.length)) δ' σ H Q) :
    tLc (tDI δ items δ1) (fun v σ H Q => ∃ p : { p : Nat × D // items[p.1]? = some p.2 }, tDG (pnv δ1.length vs) p.1.2 (fr p.1.1) (tf p.1.1) v σ H Q) (fun σ H Q => ∃ p : { p : Nat × D // items[p.1]? = some p.2 }, tDT (tf p.1.1) (b p.1.1) (cf p.1.1) σ H Q)
      (fun σ H Q => ∃ p : { p : Nat × D // items[p.1]? = some p.2 ∧ b p.1 = true }, tD (cf p.1.1) (.d (r p.1.1)) (ef p.1.1) σ H Q) vs σ H Q := by
  let ι : Type := { p : Nat × D // items[p.1]? = some p.2 }
  let ιe : Type := { p : Nat × D // items[p.1]? = some p.2 ∧ b p.1 = true }
  obtain ⟨F, R, k⟩ := h
  refine ⟨F, R, fun J F1 H1 g1 R1 w D hD => ?_⟩
  have hFD : F1 D = none := R1.sub.none hD
  have noD : ¬ Own (L2.wipe σ vs) (fr 0) D := by rw [← h0]; exact fun z => R1.own_not hD (own_wipe z)
  have hD0 : Fre H D := g1.noneH hD
  refine lc_it (g := fun v σ H Q => ∃ i : ι, tDG (pnv δ1.length vs) i.1.2 (fr i.1.1) (tf i.1.1) v σ H Q) (tt := fun σ H Q => ∃ i : ι, tDT (tf i.1.1) (b i.1.1) (cf i.1.1) σ H Q) (te := fun σ H Q => ∃ i : ιe, tD (cf i.1.1) (.d (r i.1.1)) (ef i.1.1) σ H Q) w
    (fun i H' => ∃ F' acc, Go (Own σ δ) (Own (L2.wipe σ vs) (fr i)) F H F' H' ∧ Rs F' H' (L2.wipe σ vs) (fr i) ∧ F' D = none ∧ H' D = some (.lst acc) ∧ RpA F' acc (took b r i) ∧ Ex F1 F' ∧ ¬ Own (L2.wipe σ vs) (fr i) D)
    ⟨F1, [], ?_, ?_, hFD, upd_same, .nil, .refl _, noD⟩ (fun i H' _ ⟨F', acc, q1, q2, _, _, _, q6, _⟩ => q6.trans q2.sub) ?_ ?_
  · rw [← h0]
    exact (g1.wk (fun _ z => z) (O2 := Own (L2.wipe σ vs) (wipeD δ1 vs)) fun a z => .inl (own_wipe z)).other hD0
  · rw [← h0]
    exact (R1.wipe vs).other hFD (by rw [h0]; exact noD) (.inl hD)
  · rintro i v H' H'' hi ⟨F', acc, q1, q2, q3, q4, q5, q6, q7⟩ y
    obtain ⟨d, F2, h1, A2, r2⟩ := YD.rs (pn := []) q6 q2 y
    have hFD2 : F2 D = none := by
      cases z : F2 D with
      | none => rfl
      | some o =>
        rcases A2.go.new D o z with z | z | z
        · rw [q3] at z; cases z
        · exact (z.lst q4).elim
        · exact absurd z q7
    have hHD2 : H'' D = some (.lst acc) := A2.go.keep D _ q4 q7 (fun _ h => nomatch h)
    refine ⟨⟨(i, d), h1⟩, F2, A2.rs, r2, fun σ2 A3 => ?_⟩
    have ln : (L2.wipe σ vs).length = δ1.length := by rw [wipe_length, R1.len]
    have l2 : σ2.length = σ.length := by rw [A3.rs.len, hlen, ← R1.len]
    have hwip : L2.wipe σ2 vs = L2.wipe σ vs := wipe_eq l2 fun j hj hv => by
      exact A3.pin j (mem_pnv.mpr ⟨by rw [← R1.len]; exact hj, hv⟩)
    have gA : Go (Own σ δ) (Own σ2 (tf i)) F H F2 H'' := q1.trans (A2.go.trans A3.go)
    have no3 : ¬ Own σ2 (tf i) D := fun z => by
      rcases A3.go.own D z with z | z
      · rcases A2.go.own D z with z | z
        · exact q7 z
        · exact z.lst q4
      · exact z.lst hHD2
    refine ⟨hwip, ⟨(i, d), h1⟩, F2, A3.rs, fun F3 H3 g3 R3 => ?_⟩
    have no4 : ¬ Own σ2 (cf i) D := fun z => by
      rcases g3.own D z with z | z
      · exact no3 z
      · exact z.lst hHD2
    have hFD3 : F3 D = none := by
      cases z : F3 D with
      | none => rfl
      | some o =>
        rcases g3.new D o z with z | z | z
        · rw [hFD2] at z; cases z
        · exact (z.lst hHD2).elim
        · exact absurd z no3
    have hHD3 : H3 D = some (.lst acc) := g3.keep D _ hHD2 no3 (fun _ h => nomatch h)
    have ex3 : Ex F' F3 := A2.go.ff.trans g3.ff
    have hwi := hw i hi
    have step : ∀ (F4 H4 : Hp) (δe : List DV), Go (Own σ δ) (Own σ2 δe) F H F4 H4 → Rs F4 H4 σ2 δe → wipeD δe vs = fr (i + 1) → ¬ Own σ2 δe D → Go (Own σ δ) (Own (L2.wipe σ vs) (fr (i + 1))) F H F4 H4 ∧ Rs F4 H4 (L2.wipe σ vs) (fr (i + 1)) ∧ ¬ Own (L2.wipe σ vs) (fr (i + 1)) D := fun F4 H4 δe g R e no => by
      rw [← e, ← hwip]
      exact ⟨g.wk (fun _ z => z) fun a z => .inl (own_wipe z), R.wipe vs, fun z => no (own_wipe z)⟩
    by_cases hb : b i = true
    · rw [if_pos hb] at hwi
      show (if b i = true then _ else _)
      rw [if_pos hb]
      refine ⟨⟨(i, d), h1, hb⟩, F3, R3, fun u F4 H4 g4 R4 r4 => ?_⟩
      have no5 : ¬ Own σ2 (ef i) D := fun z => by
        rcases g4.own D z with z | z
        · exact no4 z
        · exact z.lst hHD3
      have hFD4 : F4 D = none := by
        cases z : F4 D with
        | none => rfl
        | some o =>
          rcases g4.new D o z with z | z | z
          · rw [hFD3] at z; cases z
          · exact (z.lst hHD3).elim
          · exact absurd z no4
      have hHD4 : H4 D = some (.lst acc) := g4.keep D _ hHD3 no4 (fun _ h => nomatch h)
      obtain ⟨k1, k2, k3⟩ := step F4 H4 (ef i) (gA.trans (g3.trans g4)) R4 hwi no5
      have lacc : acc.length < sizeLine := by
        have := took_len b r i
        rw [q5.length]
        omega
      refine ⟨acc, hHD4, lacc, F4, acc ++ [u], k1.other hD0, k2.other hFD4 k3 (.inr ⟨_, hHD4⟩), hFD4, upd_same, ?_, (q6.trans ex3).trans g4.ff, k3⟩
      rw [took_succ, if_pos hb]
      exact (q5.ex (ex3.trans g4.ff)).append (.cons r4 .nil)
    · rw [if_neg hb] at hwi
      show (if b i = true then _ else _)
      rw [if_neg hb]
      obtain ⟨k1, k2, k3⟩ := step F3 H3 (cf i) (gA.trans g3) R3 hwi no4
      refine ⟨F3, acc, k1, k2, hFD3, hHD3, ?_, q6.trans ex3, k3⟩
      rw [took_succ, if_neg hb, List.append_nil]
      exact q5.ex ex3
  · rintro H' ⟨F', acc, q1, q2, q3, q4, q5, q6, q7⟩
    rw [← hu] at k
    have no : ¬ Own σ (unw δ1 (fr items.length) vs) D := fun z => q7 (own_unw hn z)
    refine k _ F' H' (q1.wk (fun _ z => z) fun a z => .inl (own_unw hn z)) (R1.unwipe q6 hn q2) ⟨D, acc, rfl, q3, q4, q5, no, .inl hD0⟩
theorem de_lc_ {scope : Scope} {own : List (Str × Nat)} (hc : X.calm = true) (hN : X.N.Nodup) (hi : DI X δ tg iter items δ1) (ok : BlkOk X.N X.env.scope scope own)
    (fr tf cf ef : Nat → List DV) (b : Nat → Bool) (r : Nat → D) (h0 : wipeD δ1 (own.map (·.2)) = fr 0) (hlen : ∀ j, (tf j).length = δ1.length)
    (hg : ∀ (s : Shared) (H : Hp) (C : Addr) (cl : List (Str × Addr)) (fp : List Addr) (j : Nat) (d : D), items[j]? = some d → DG (X.blk s H scope (compEnvC scope cl C X.env) fp) (pnv δ1.length (own.map (·.2))) tg d (fr j) (tf j))
    (ht : ∀ (s : Shared) (H : Hp) (C : Addr) (cl : List (Str × Addr)) (fp : List Addr) (j : Nat) (d : D), items[j]? = some d → PTs (X.blk s H scope (compEnvC scope cl C X.env) fp) ifs (tDT (tf j) (b j) (cf j)))
    (he : ∀ (s : Shared) (H : Hp) (C : Addr) (cl : List (Str × Addr)) (fp : List Addr) (j : Nat) (d : D), items[j]? = some d → b j = true → DE (X.blk s H scope (compEnvC scope cl C X.env) fp) (cf j) elt (.d (r j)) (ef j))
    (hw : ∀ j, j < items.length → wipeD (if b j then ef j else cf j) (own.map (·.2)) = fr (j + 1)) (hsz : items.length < sizeLine)
    (hn : ∀ v ∈ own.map (·.2), ∀ xs, δ1[v]? ≠ some (.ow xs)) (hu : unw δ1 (fr items.length) (own.map (·.2)) = δ')
    (hs : ∀ x, foldedSetIterable iter X.env x = pure x := by intro _; rfl) :
    DE X δ (.ListComp elt [⟨tg, iter, ifs, 0⟩] scope pos) (.ow (took b r items.length)) δ' :=
  (pe_lc hc hN hi ok (fun s H C cl fp => pg_ex (ι := { p : Nat × D // items[p.1]? = some p.2 }) fun p => hg s H C cl fp p.1.1 p.1.2 p.2) (fun s H C cl fp => pts_ex (ι := { p : Nat × D // items[p.1]? = some p.2 }) fun p => ht s H C cl fp p.1.1 p.1.2 p.2)
    (fun s H C cl fp => pe_ex (ι := { p : Nat × D // items[p.1]? = some p.2 ∧ b p.1 = true }) fun p => he s H C cl fp p.1.1 p.1.2 p.2.1 p.2.2) hs).imp fun σ H Q h => lc_read _ fr tf cf ef b r h0 hlen hw hsz hn hu h
/-- name = [..] -/
theorem ds_setLc_ {scope : Scope} {pn : List Nat} {i : Nat} {y : Str} {py spos : Pos} (hy : X.N[i]? = some y) (hyl : X.env.scope.names.lookup y = some .local) (hp : i ∉ pn) (hsw : swapsWith (.ListComp elt [⟨tg, iter, ifs, 0⟩] scope pos) (some (.Name y py)) spos.line X.env = pure true)
    {own : List (Str × Nat)} (hc : X.calm = true) (hN : X.N.Nodup) (hi : DI X δ tg iter items δ1) (ok : BlkOk X.N X.env.scope scope own)
    (fr tf cf ef : Nat → List DV) (b : Nat → Bool) (r : Nat → D) (h0 : wipeD δ1 (own.map (·.2)) = fr 0) (hlen : ∀ j, (tf j).length = δ1.length)
    (hg : ∀ (s : Shared) (H : Hp) (C : Addr) (cl : List (Str × Addr)) (fp : List Addr) (j : Nat) (d : D), items[j]? = some d → DG (X.blk s H scope (compEnvC scope cl C X.env) fp) (pnv δ1.length (own.map (·.2))) tg d (fr j) (tf j))
    (ht : ∀ (s : Shared) (H : Hp) (C : Addr) (cl : List (Str × Addr)) (fp : List Addr) (j : Nat) (d : D), items[j]? = some d → PTs (X.blk s H scope (compEnvC scope cl C X.env) fp) ifs (tDT (tf j) (b j) (cf j)))
    (he : ∀ (s : Shared) (H : Hp) (C : Addr) (cl : List (Str × Addr)) (fp : List Addr) (j : Nat) (d : D), items[j]? = some d → b j = true → DE (X.blk s H scope (compEnvC scope cl C X.env) fp) (cf j) elt (.d (r j)) (ef j))
    (hw : ∀ j, j < items.length → wipeD (if b j then ef j else cf j) (own.map (·.2)) = fr (j + 1)) (hsz : items.length < sizeLine)
    (hn : ∀ v ∈ own.map (·.2), ∀ xs, δ1[v]? ≠ some (.ow xs)) (hu : unw δ1 (fr items.length) (own.map (·.2)) = δ')
    (hs : ∀ x, foldedSetIterable iter X.env x = pure x := by intro _; rfl) :
    DS X pn δ (.Assign [.Name y py] (.ListComp elt [⟨tg, iter, ifs, 0⟩] scope pos) spos) (.nx (δ'.set i (.ow (took b r items.length)))) :=
  (ps_setLc hc hN hy hyl hsw hi ok (fun s H C cl fp => pg_ex (ι := { p : Nat × D // items[p.1]? = some p.2 }) fun p => hg s H C cl fp p.1.1 p.1.2 p.2) (fun s H C cl fp => pts_ex (ι := { p : Nat × D // items[p.1]? = some p.2 }) fun p => ht s H C cl fp p.1.1 p.1.2 p.2)
    (fun s H C cl fp => pe_ex (ι := { p : Nat × D // items[p.1]? = some p.2 ∧ b p.1 = true }) fun p => he s H C cl fp p.1.1 p.1.2 p.2.1 p.2.2) hs).imp fun D σ H ⟨F, R, k⟩ => lc_read _ fr tf cf ef b r h0 hlen hw hsz hn hu ⟨F, R, fun v F1 H1 g R1 q => k _ F1 H1 (aft_setO g R1 q hp)⟩
theorem pts_yes {δ : List DV} : PTs X [] (tDT δ true δ) := ⟨fun pins s σ H Q I ⟨F, R, k⟩ => (pts_nil (X := X)).run pins s σ H Q I (k F H (.refl _ F H) R)⟩
theorem pts_of {c : Expr} {t : Bool} (h : DT X δ c t δ') : PTs X [c] (tDT δ t δ') := pts_one h
end
end DL
end
section
set_option Elab.async false
set_option linter.all false
set_option maxRecDepth 100000
/-! DLg: what a def promises over frames of data; calls of defs. -/
namespace DL
open PySem PySem.Spec PyProof.Rows L2
variable [TL]

abbrev RelD := List DV → DV → List DV → Prop
abbrev RelX := List DV → Addr → D → Prop
abbrev noX : RelX := fun _ _ _ => False
/-- a def's promise: of such arguments this comes back and they stand so; or such an error flies -/
def spD (R : RelD) (RX : RelX) : Sp := fun vs H Q E =>
  (∃ args r args', R args r args' ∧ ∃ F, Rs F H (vs.map some) args ∧ ∀ v F' H', Go (Own (vs.map some) args) (Own (vs.map some) args') F H F' H' → Rs F' H' (vs.map some) args' → Res F' H' (Own (vs.map some) args) H (Own (vs.map some) args') v r → Q v H') ∨
  ∃ args C d, RX args C d ∧ ∃ F, Rs F H (vs.map some) args ∧ ∀ dx v F' H', Go (Own (vs.map some) args) (Own (vs.map some) args) F H F' H' → Rs F' H' (vs.map some) args → XdAt F' dx [("value", v)] → Rp F' v d → E (.ref C) (some dx) H'
/-- how the own lists among the arguments stand at the end -/
def Wb (pn : List Nat) (args args' δ' : List DV) : Prop := args'.length = args.length ∧ ∀ k x, args[k]? = some x → (∃ xs ys, x = .ow xs ∧ args'[k]? = some (.ow ys) ∧ δ'[k]? = some (.ow ys) ∧ k ∈ pn) ∨ ((∀ xs, x ≠ .ow xs) ∧ args'[k]? = some x)
def noOw : List DV → Bool
  | [] => true
  | .ow _ :: _ => false
  | _ :: r => noOw r
theorem noOw_get : ∀ {l : List DV} {k : Nat} {x : DV}, noOw l = true → l[k]? = some x → ∀ xs, x ≠ .ow xs
  | [], _, _, _, h => by simp at h
  | .ow _ :: _, _, _, h, _ => by cases h
  | .un :: r, 0, x, h, e => by simp at e; subst e; exact fun _ h => nomatch h
  | .d _ :: r, 0, x, h, e => by simp at e; subst e; exact fun _ h => nomatch h
  | .raw _ :: r, 0, x, h, e => by simp at e; subst e; exact fun _ h => nomatch h
  | .pr _ :: r, 0, x, h, e => by simp at e; subst e; exact fun _ h => nomatch h
  | .un :: r, k + 1, x, h, e => noOw_get (l := r) (k := k) h (by simpa using e)
  | .d _ :: r, k + 1, x, h, e => noOw_get (l := r) (k := k) h (by simpa using e)
  | .raw _ :: r, k + 1, x, h, e => noOw_get (l := r) (k := k) h (by simpa using e)
  | .pr _ :: r, k + 1, x, h, e => noOw_get (l := r) (k := k) h (by simpa using e)
theorem wb_no {args δ' : List DV} (h : noOw args = true) : Wb [] args args δ' := ⟨rfl, fun k x e => .inr ⟨noOw_get h e, e⟩⟩
theorem wb_one {xs ys : List D} {r δ' : List DV} (h : noOw r = true) (h0 : δ'[0]? = some (.ow ys)) : Wb [0] (.ow xs :: r) (.ow ys :: r) δ' := ⟨rfl, fun k x e => by
  cases k with
  | zero => simp at e; exact .inl ⟨xs, ys, e.symm, rfl, h0, by simp⟩
  | succ k => exact .inr ⟨noOw_get (l := r) (k := k) h (by simpa using e), e⟩⟩

section
variable {F H F' H' : Hp} {vs : List V} {args args' δ' : List DV} {σ' : L2.St} {N ps : List Str} {pn : List Nat}
/-- the frame at a def's entry -/
abbrev ent (args : List DV) (n : Nat) : List DV := args ++ List.replicate n .un
theorem start_get {k : Nat} (h : k < vs.length) : (L2.start N vs)[k]? = (vs.map some)[k]? := by
  unfold L2.start
  rw [List.getElem?_append_left (by simpa using h)]
theorem Rs.enter (r : Rs F H (vs.map some) args) {n : Nat} (hn : N.length - vs.length = n) : Rs F H (L2.start N vs) (ent args n) := by
  have hl : vs.length = args.length := by have := r.len; simpa using this
  have key : ∀ {k : Nat} {xs : List D}, (ent args n)[k]? = some (.ow xs) → k < vs.length ∧ args[k]? = some (.ow xs) := fun {k xs} h => by
    by_cases hk : k < args.length
    · rw [List.getElem?_append_left hk] at h
      exact ⟨by omega, h⟩
    · rw [List.getElem?_append_right (by omega), List.getElem?_replicate] at h
      split at h <;> cases h
  refine ⟨r.sub, by unfold L2.start; simp [hl, ← hn], fun k x h => ?_, fun i j xs ys o hij h1 h2 h3 h4 => ?_, r.tb, r.nt⟩
  · by_cases hk : k < args.length
    · rw [List.getElem?_append_left hk] at h
      obtain ⟨o, e, q⟩ := r.at_ k x h
      exact ⟨o, by rw [start_get (by omega)]; exact e, q⟩
    · rw [List.getElem?_append_right (by omega), List.getElem?_replicate] at h
      split at h
      · cases h
        rename_i hlt
        refine ⟨none, ?_, trivial⟩
        unfold L2.start
        rw [List.getElem?_append_right (by simp; omega), List.getElem?_replicate, if_pos (by simp; omega)]
      · cases h
  · obtain ⟨a1, a2⟩ := key h1
    obtain ⟨b1, b2⟩ := key h2
    rw [start_get a1] at h3
    rw [start_get b1] at h4
    exact r.ap i j xs ys o hij a2 b2 h3 h4
theorem own_enter {n : Nat} {a : Addr} : Own (L2.start N vs) (ent args n) a → vs.length = args.length → Own (vs.map some) args a := fun ⟨k, xs, h1, h2⟩ hl => by
  by_cases hk : k < args.length
  · rw [List.getElem?_append_left hk] at h1
    rw [start_get (by omega)] at h2
    exact ⟨k, xs, h1, h2⟩
  · rw [List.getElem?_append_right (by omega), List.getElem?_replicate] at h1
    split at h1 <;> cases h1
/-- back from the body -/
theorem leave_ {n : Nat} (r : Rs F H (vs.map some) args) (hn : N.length - vs.length = n) (A : Aft pn (L2.start N vs) (ent args n) F H σ' δ' F' H') (W : Wb pn args args' δ') :
    Go (Own (vs.map some) args) (Own (vs.map some) args') F H F' H' ∧ Rs F' H' (vs.map some) args' ∧ ∀ a, Own (vs.map some) args' a → Own σ' δ' a := by
  have hl : vs.length = args.length := by have := r.len; simpa using this
  obtain ⟨w1, w2⟩ := W
  have nth : ∀ {k : Nat} {y : DV}, args'[k]? = some y → ∃ x, args[k]? = some x := fun {k y} h => by
    have hk : k < args.length := by rw [← w1]; exact (List.getElem?_eq_some_iff.mp h).1
    exact ⟨_, List.getElem?_eq_getElem hk⟩
  have own : ∀ {k : Nat} {ys : List D}, args'[k]? = some (.ow ys) → (∃ xs, args[k]? = some (.ow xs)) ∧ δ'[k]? = some (.ow ys) ∧ σ'[k]? = (vs.map some)[k]? := fun {k ys} h => by
    obtain ⟨x, e⟩ := nth h
    have hk : k < args.length := (List.getElem?_eq_some_iff.mp e).1
    rcases w2 k x e with ⟨xs, ys', rfl, h1, h2, h3⟩ | ⟨h1, h2⟩
    · rw [h] at h1; cases h1
      refine ⟨⟨xs, e⟩, h2, ?_⟩
      rw [A.pin k h3, start_get (by omega)]
    · rw [h] at h2; exact absurd (Option.some.inj h2).symm (h1 ys)
  have oo : ∀ a, Own (vs.map some) args' a → Own σ' δ' a := fun a ⟨k, ys, h1, h2⟩ => by
    obtain ⟨_, q2, q3⟩ := own h1
    exact ⟨k, ys, q2, by rw [q3]; exact h2⟩
  refine ⟨⟨A.go.ff, fun a o h n nt => A.go.keep a o h (fun z => n (own_enter z hl)) nt, fun a o h => (A.go.new a o h).imp id (Or.imp id fun z => own_enter z hl), A.go.there, fun a ⟨k, ys, h1, h2⟩ => ?_⟩, ⟨A.rs.sub, ?_, fun k y h => ?_, fun i j xs ys o hij h1 h2 h3 h4 => ?_, A.rs.tb, A.rs.nt⟩, oo⟩
  · obtain ⟨⟨xs, q1⟩, _, _⟩ := own h1
    exact .inl ⟨k, xs, q1, h2⟩
  · rw [w1]; simpa using hl
  · obtain ⟨x, e⟩ := nth h
    rcases w2 k x e with ⟨xs, ys', rfl, h1, h2, h3⟩ | ⟨h1, h2⟩
    · rw [h] at h1; cases h1
      obtain ⟨o, q1, q2⟩ := A.rs.at_ k _ h2
      obtain ⟨_, _, q3⟩ := own h
      exact ⟨o, by rw [← q3]; exact q1, q2⟩
    · rw [h] at h2; cases h2
      obtain ⟨o, q1, q2⟩ := r.at_ k _ e
      refine ⟨o, q1, ?_⟩
      cases y with
      | un => trivial
      | d x => obtain ⟨v, k1, k2⟩ := q2; exact ⟨v, k1, k2.ex A.go.ff⟩
      | raw v => exact q2
      | pr P => obtain ⟨v, k1, k2⟩ := q2; exact ⟨v, k1, fun F2 e2 => k2 F2 (A.go.ff.trans e2)⟩
      | ow xs => exact absurd rfl (h1 xs)
  · obtain ⟨⟨xs', q1⟩, _, _⟩ := own h1
    obtain ⟨⟨ys', q2⟩, _, _⟩ := own h2
    exact r.ap i j xs' ys' o hij q1 q2 h3 h4
end

/-- a def keeps its promise -/
def Out.ret (r : DV) (δ' : List DV) (o : Out) : Prop := o = .rt r δ' ∨ (o = .nx δ' ∧ r = .d .non)
section
variable {P : Program} {w : World} {K : PySem.W.Frag} {mg : Str → Option Value} {base : Heap} {x qual : Str} {params : Arguments} {body : List Stmt} {scope : Scope} {dvs : List V} {kws : List (Str × V)} {f : Addr} {fd : FuncData} {N ps : List Str} {k : Nat} {R : RelD} {RX : RelX}
theorem Go.frame {O O' : Addr → Prop} {F H F' H' : Hp} {σ : L2.St} {δ : List DV} (R : Rs F H σ δ) (g : Go O O' F H F' H') (ho : ∀ a, ¬ O a) (e : Ex F' H') (tb : LamX.Tabs TL.T H') (nt : ∀ a ps, F' a ≠ some (.tbl ps)) : Go (Own σ δ) (Own σ δ) F H F' H' ∧ Rs F' H' σ δ := by
  refine ⟨⟨g.ff, fun a o h _ nt => g.keep a o h (ho a) nt, fun a o h => (g.new a o h).imp id (Or.imp id fun z => absurd z (ho a)), g.there, fun a h => .inl h⟩, e, R.len, fun k x h => ?_, R.ap, tb, nt⟩
  obtain ⟨o, e, q⟩ := R.at_ k x h
  refine ⟨o, e, ?_⟩
  cases x with
  | un => trivial
  | d x => obtain ⟨v, k1, k2⟩ := q; exact ⟨v, k1, k2.ex g.ff⟩
  | raw v => exact q
  | pr P => obtain ⟨v, k1, k2⟩ := q; exact ⟨v, k1, fun F2 e2 => k2 F2 (g.ff.trans e2)⟩
  | ow xs =>
    obtain ⟨p, us, k1, k2, k3, k4⟩ := q
    refine ⟨p, us, k1, ?_, g.keep p _ k3 (ho p) (fun _ h => nomatch h), k4.ex g.ff⟩
    cases z : F' p with
    | none => rfl
    | some o =>
      rcases g.new p o z with z | z | z
      · rw [k2] at z; cases z
      · exact (z.lst k3).elim
      · exact absurd z (ho p)
theorem noOw_own {l : List DV} (h : noOw l = true) {σ : L2.St} {a : Addr} : ¬ Own σ l a := fun ⟨_, xs, h1, _⟩ => noOw_get h h1 xs rfl
theorem fn_rel (F : FunD K x qual params body scope dvs kws f fd) (S : FnScope N ps scope) (hl : ∀ args r args', R args r args' → args.length = ps.length) (hlx : ∀ args C d, RX args C d → args.length = ps.length ∧ noOw args = true)
    (hb : ∀ (cdv : Value) (A : Around) (outer : List Env) (s : Shared) (H : Hp) (E : XK), Room k (A.deeper (envOfC qual scope s.heap.objs.size f cdv)) → ∀ args r args', R args r args' →
      ∃ pn δ' o, DSs (cxOf (L2.CX P w) P w K mg base N qual scope f cdv A outer s H E) pn (ent args (N.length - ps.length)) body o ∧ Out.ret r δ' o ∧ Wb pn args args' δ')
    (hx : ∀ (cdv : Value) (A : Around) (outer : List Env) (s : Shared) (H : Hp) (E : XK), Room k (A.deeper (envOfC qual scope s.heap.objs.size f cdv)) → ∀ args C d, RX args C d →
      DSs (cxOf (L2.CX P w) P w K mg base N qual scope f cdv A outer s H E) [] (ent args (N.length - ps.length)) body (.ex C d)) :
    FnOk P w K mg base (L2.CX P w) (k + 1) f fd ps (spD R RX) := by
  have len : ∀ vs H Q E, spD R RX vs H Q E → vs.length = ps.length := fun vs H Q E h => by
    rcases h with ⟨args, r, args', hR, F, r1, _⟩ | ⟨args, C, d, hR, F, r1, _⟩
    · rw [← hl _ _ _ hR]; simpa using r1.len
    · rw [← (hlx _ _ _ hR).1]; simpa using r1.len
  refine F.ok S len fun cdv A outer s H vs Q E hr h => ?_
  have hlen := len _ _ _ _ h
  rcases h with ⟨args, r, args', hR, F, r1, kk⟩ | ⟨args, C, d, hR, F, r1, kk⟩
  · obtain ⟨pn, δ', o, ds, ho, W⟩ := hb cdv A outer s H E hr args r args' hR
    have en : N.length - vs.length = N.length - ps.length := by rw [hlen]
    have hl' : vs.length = args.length := by simpa using r1.len
    refine ⟨_, ds, F, r1.enter en, ?_⟩
    rcases ho with rfl | ⟨rfl, rfl⟩
    · intro v σ' F' H' A' r'
      obtain ⟨g, R', oo⟩ := leave_ r1 en A' W
      refine kk v F' H' g R' ?_
      cases r with
      | un => trivial
      | d x => exact r'
      | raw v => exact r'
      | pr P => exact r'
      | ow xs =>
        obtain ⟨p, us, e, h1, h2, h3, h4, h5⟩ := r'
        exact ⟨p, us, e, h1, h2, h3, fun z => h4 (oo p z), h5.imp id fun z => own_enter z hl'⟩
    · intro σ' F' H' A'
      obtain ⟨g, R', oo⟩ := leave_ r1 en A' W
      exact kk .non F' H' g R' .non
  · have ds := hx cdv A outer s H E hr args C d hR
    have en : N.length - vs.length = N.length - ps.length := by rw [hlen]
    have hl' : vs.length = args.length := by simpa using r1.len
    have no := (hlx _ _ _ hR).2
    refine ⟨_, ds, F, r1.enter en, fun dx v σ' δ' F' H' A' hxd hv => ?_⟩
    have noE : ∀ a, ¬ Own (L2.start N vs) (ent args (N.length - ps.length)) a := fun a z => noOw_own no (own_enter z hl')
    obtain ⟨g, R'⟩ := Go.frame r1 A'.go noE A'.rs.sub A'.rs.tb A'.rs.nt
    exact Wx.of (takes_of (X := cxOf (L2.CX P w) P w K mg base N qual scope f cdv A outer s H E) rfl rfl rfl rfl) (kk dx v F' H' g R' hxd hv)
/-- .. a def that raises nothing -/
theorem fn_rel0 (F : FunD K x qual params body scope dvs kws f fd) (S : FnScope N ps scope) (hl : ∀ args r args', R args r args' → args.length = ps.length)
    (hb : ∀ (cdv : Value) (A : Around) (outer : List Env) (s : Shared) (H : Hp) (E : XK), Room k (A.deeper (envOfC qual scope s.heap.objs.size f cdv)) → ∀ args r args', R args r args' →
      ∃ pn δ' o, DSs (cxOf (L2.CX P w) P w K mg base N qual scope f cdv A outer s H E) pn (ent args (N.length - ps.length)) body o ∧ Out.ret r δ' o ∧ Wb pn args args' δ') :
    FnOk P w K mg base (L2.CX P w) (k + 1) f fd ps (spD R noX) := fn_rel F S hl (fun _ _ _ h => h.elim) hb fun _ _ _ _ _ _ _ _ _ _ h => h.elim
end

/-! ### a def as it is called -/
structure FD (P : Program) (w : World) (K : PySem.W.Frag) (mg : Str → Option Value) (base : Heap) (k : Nat) (x : Str) (ps : List Str) (R : RelD) (RX : RelX) : Prop where
  ex : ∃ f fd, FnOk P w K mg base (L2.CX P w) k f fd ps (spD R RX) ∧ mg x = some (.ref f) ∧ PySem.W.keepIn K (.ref f) = true ∧ L2.Binds K fd ps []
theorem FD.mono {P : Program} {w : World} {K : PySem.W.Frag} {mg : Str → Option Value} {base : Heap} {k j : Nat} {x : Str} {ps : List Str} {R R' : RelD} {RX RX' : RelX} (h : FD P w K mg base k x ps R RX) (hj : k ≤ j) (hR : ∀ a r a', R' a r a' → R a r a') (hX : ∀ a C d, RX' a C d → RX a C d) : FD P w K mg base j x ps R' RX' := by
  obtain ⟨f, fd, h1, h2, h3, h4⟩ := h.ex
  refine ⟨f, fd, (h1.mono hj).imp fun vs H Q E q => ?_, h2, h3, h4⟩
  rcases q with ⟨a, r, a', q1, q2⟩ | ⟨a, C, d, q1, q2⟩
  · exact .inl ⟨a, r, a', hR _ _ _ q1, q2⟩
  · exact .inr ⟨a, C, d, hX _ _ _ q1, q2⟩
def AV.dv (δ : List DV) : AV → DV
  | .d x => .d x
  | .sl i => δ.getD i .un
  | .raw v => .raw v
  | .pr P => .pr P
def AV.noSl : List AV → Bool
  | [] => true
  | .sl _ :: _ => false
  | _ :: r => AV.noSl r
section
variable {X : Cx} {δ δ1 δ2 : List DV} {e : Expr} {es : List Expr} {as : List AV} {pos p1 : Pos} {F H : Hp} {σ : L2.St}
theorem AVs.at_ {δ : List DV} : ∀ {vs : List V} {as : List AV} {k : Nat} {y : DV}, AVs F σ vs as → AV.noSl as = true → (as.map (AV.dv δ))[k]? = some y → ∃ v, (vs.map some)[k]? = some (some v) ∧ At F H (some v) y ∧ ∀ xs, y ≠ .ow xs
  | _, _, _, _, .nil, _, h => by simp at h
  | _, .sl _ :: _, _, _, .cons _ _, h, _ => by cases h
  | _, .d x :: _, 0, y, .cons r t, h, e => by simp at e; subst e; exact ⟨_, rfl, ⟨_, rfl, r⟩, fun _ h => nomatch h⟩
  | _, .raw x :: _, 0, y, .cons r t, h, e => by simp at e; subst e; exact ⟨_, rfl, congrArg some r, fun _ h => nomatch h⟩
  | _, .pr x :: _, 0, y, .cons r t, h, e => by simp at e; subst e; exact ⟨_, rfl, ⟨_, rfl, r⟩, fun _ h => nomatch h⟩
  | _, .d x :: as, k + 1, y, .cons r t, h, e => by
    obtain ⟨v, h1, h2⟩ := AVs.at_ (as := as) (k := k) t h (by simpa using e)
    exact ⟨v, by simpa using h1, h2⟩
  | _, .raw x :: as, k + 1, y, .cons r t, h, e => by
    obtain ⟨v, h1, h2⟩ := AVs.at_ (as := as) (k := k) t h (by simpa using e)
    exact ⟨v, by simpa using h1, h2⟩
  | _, .pr x :: as, k + 1, y, .cons r t, h, e => by
    obtain ⟨v, h1, h2⟩ := AVs.at_ (as := as) (k := k) t h (by simpa using e)
    exact ⟨v, by simpa using h1, h2⟩
theorem AVs.len {vs : List V} {as : List AV} (h : AVs F σ vs as) : vs.length = as.length := Paired.length h
theorem AVs.rs {vs : List V} (h : AVs F σ vs as) (hn : AV.noSl as = true) (R : Rs F H σ δ) : Rs F H (vs.map some) (as.map (AV.dv δ)) := by
  refine ⟨R.sub, by simp [h.len], fun k y e => ?_, fun i j xs ys o hij h1 => ?_, R.tb, R.nt⟩
  · obtain ⟨v, h1, h2, _⟩ := AVs.at_ (H := H) h hn e
    exact ⟨_, h1, h2⟩
  · obtain ⟨v, _, _, h3⟩ := AVs.at_ (H := H) h hn h1
    exact absurd rfl (h3 xs)
theorem AVs.noOwn {vs : List V} (h : AVs F σ vs as) (hn : AV.noSl as = true) {a : Addr} : ¬ Own (vs.map some) (as.map (AV.dv δ)) a := fun ⟨k, xs, h1, _⟩ => by
  obtain ⟨v, _, _, h3⟩ := AVs.at_ (H := fun _ => none) h hn h1
  exact h3 xs rfl
/-- the answer of a call without own lists handed in -/
theorem call_fin {R : RelD} {RX : RelX} {vs : List V} {r : DV} {Q : VK} {E : XK} (Rf : Rs F H σ δ) (ra : AVs F σ vs as) (hn : AV.noSl as = true) (hR : R (as.map (AV.dv δ)) r (as.map (AV.dv δ)))
    (k : ∀ v F' H', Go (Own σ δ) (Own σ δ) F H F' H' → Rs F' H' σ δ → Res F' H' (Own σ δ) H (Own σ δ) v r → Q v H') : spD R RX vs H Q E :=
  .inl ⟨_, r, _, hR, F, ra.rs hn Rf, fun v F' H' g R' q => by
    obtain ⟨g2, R2⟩ := Go.frame Rf g (fun a => ra.noOwn hn) R'.sub R'.tb R'.nt
    refine k v F' H' g2 R2 ?_
    cases r with
    | un => trivial
    | d x => exact q
    | raw v => exact q
    | pr P => exact q
    | ow xs =>
      obtain ⟨p, us, e, h1, h2, h3, h4, h5⟩ := q
      have hp : Fre H p := h5.resolve_right (ra.noOwn hn)
      exact ⟨p, us, e, h1, h2, h3, Rf.own_fre hp, .inl hp⟩⟩
theorem de_call {k : Nat} {x : Str} {ps : List Str} {R : RelD} {RX : RelX} {r : DV} (G : FD X.prog X.w X.K X.mg X.base k x ps R RX) (hr : Room k X.A) (hg : Gl X x) (ha : DA X δ (e :: es) as δ1) (hn : AV.noSl as = true) (hR : R (as.map (AV.dv δ1)) r (as.map (AV.dv δ1)))
    (hdb : (x == ("__debug__" : Str)) = false := by decide) (he : starEach (e :: es) X.env = (false, eval e X.env) :: starEach es X.env := by rfl) (hpl : (backTo pos (starEach es X.env)).any (·.1) = false := by rfl) : DE X δ (.Call (.Name x p1) (e :: es) [] pos) r δ1 := by
  obtain ⟨f, fd, h1, h2, h3, h4⟩ := G.ex
  refine (pe_call h1 hr hg h2 h3 h4 .nil passL ha hdb he hpl).imp fun σ H Q ⟨F, Rf, k⟩ => ⟨F, Rf, fun vs F1 H1 g1 R1 ra => ?_⟩
  show spD R RX (vs ++ []) H1 Q E0
  rw [List.append_nil]
  exact call_fin R1 ra hn hR fun v F2 H2 g2 R2 q => k v F2 H2 (g1.trans g2) R2 (Res.back g1 q)
/-- the first argument a list of the frame's own, by its slot -/
theorem de_callP {k i : Nat} {x : Str} {ps : List Str} {R : RelD} {RX : RelX} {r : DV} {xs ys : List D} (G : FD X.prog X.w X.K X.mg X.base k x ps R RX) (hr : Room k X.A) (hg : Gl X x) (ha : DA X δ (e :: es) (.sl i :: as) δ1) (hn : AV.noSl as = true) (hi : δ1[i]? = some (.ow xs))
    (hR : R (.ow xs :: as.map (AV.dv δ1)) r (.ow ys :: as.map (AV.dv δ1)))
    (hdb : (x == ("__debug__" : Str)) = false := by decide) (he : starEach (e :: es) X.env = (false, eval e X.env) :: starEach es X.env := by rfl) (hpl : (backTo pos (starEach es X.env)).any (·.1) = false := by rfl) : DE X δ (.Call (.Name x p1) (e :: es) [] pos) r (δ1.set i (.ow ys)) := by
  obtain ⟨f, fd, h1, h2, h3, h4⟩ := G.ex
  refine (pe_call h1 hr hg h2 h3 h4 .nil passL ha hdb he hpl).imp fun σ H Q ⟨F, Rf, k⟩ => ⟨F, Rf, fun vs F1 H1 g1 R1 ra => ?_⟩
  show spD R RX (vs ++ []) H1 Q E0
  rw [List.append_nil]
  cases ra with
  | @cons v0 _ vs' _ r0 ra =>
  have r0 : σ[i]? = some (some v0) := r0
  obtain ⟨o, e0, p, us, q1, q2, q3, q4⟩ := R1.at_ i _ hi
  rw [r0] at e0
  have ev : v0 = .ref p := by cases e0; exact Option.some.inj q1
  subst ev
  have hil : i < δ1.length := (List.getElem?_eq_some_iff.mp hi).1
  have RA := AVs.rs ra hn R1
  have rs1 : Rs F1 H1 ((V.ref p :: vs').map some) (.ow xs :: as.map (AV.dv δ1)) := by
    refine ⟨R1.sub, by have := RA.len; simp at this ⊢; exact this, fun k y e => ?_, fun k j as1 bs1 o hkj h1 h2 => ?_, R1.tb, R1.nt⟩
    · cases k with
      | zero => simp at e; subst e; exact ⟨_, rfl, p, us, rfl, q2, q3, q4⟩
      | succ k =>
        obtain ⟨o, k1, k2⟩ := RA.at_ k y (by simpa using e)
        exact ⟨o, by simpa using k1, k2⟩
    · have no : ∀ {k : Nat} {as' : List D}, (DV.ow xs :: as.map (AV.dv δ1))[k]? = some (.ow as') → k = 0 := fun {k as'} h => by
        cases k with
        | zero => rfl
        | succ k =>
          obtain ⟨v, _, _, h3⟩ := AVs.at_ (H := H1) (k := k) ra hn (by simpa using h)
          exact absurd rfl (h3 as')
      exact absurd ((no h1).trans (no h2).symm) hkj
  have ownc : ∀ {zs : List D} {a : Addr}, Own ((V.ref p :: vs').map some) (.ow zs :: as.map (AV.dv δ1)) a ↔ a = p := fun {zs a} => by
    constructor
    · rintro ⟨k, ws, h1, h2⟩
      cases k with
      | zero => simp at h2; exact h2.symm
      | succ k =>
        obtain ⟨v, _, _, h3⟩ := AVs.at_ (H := H1) (k := k) ra hn (by simpa using h1)
        exact absurd rfl (h3 ws)
    · rintro rfl
      exact ⟨0, zs, rfl, rfl⟩
  have ownp : Own σ δ1 p := ⟨i, xs, hi, r0⟩
  refine .inl ⟨_, r, _, hR, F1, rs1, fun v F2 H2 g2 R2 q => ?_⟩
  obtain ⟨o2, e2, p2, us2, k1, k2, k3, k4⟩ := R2.at_ 0 (.ow ys) rfl
  have ep : p2 = p := by
    simp at e2
    rw [← e2] at k1
    exact (V.ref.inj (Option.some.inj k1)).symm
  subst ep
  have own' : ∀ a, Own σ (δ1.set i (.ow ys)) a → Own σ δ1 a := fun a => own_same hi
  have G2 : Go (Own σ δ1) (Own σ (δ1.set i (.ow ys))) F1 H1 F2 H2 := ⟨g2.ff, fun a o h n nt => g2.keep a o h (fun z => n (by rw [ownc.mp z]; exact ownp)) nt, fun a o h => (g2.new a o h).imp id (Or.imp id fun z => by rw [ownc.mp z]; exact ownp), g2.there, fun a h => .inl (own' a h)⟩
  have RR : Rs F2 H2 σ (δ1.set i (.ow ys)) := by
    refine ⟨R2.sub, by rw [List.length_set]; exact R1.len, fun k y h => ?_, fun k j as bs o hkj h1 h2 h3 => ?_, R2.tb, R2.nt⟩
    · by_cases z : i = k
      · subst z
        rw [List.getElem?_set_self hil] at h
        cases h
        exact ⟨_, r0, p2, us2, rfl, k2, k3, k4⟩
      · rw [List.getElem?_set_ne z] at h
        obtain ⟨o, e, q⟩ := R1.at_ k y h
        refine ⟨o, e, ?_⟩
        cases y with
        | un => trivial
        | d x => obtain ⟨v, k1, k2⟩ := q; exact ⟨v, k1, k2.ex g2.ff⟩
        | raw v => exact q
        | pr P => obtain ⟨v, k1, k2⟩ := q; exact ⟨v, k1, fun F3 e3 => k2 F3 (g2.ff.trans e3)⟩
        | ow zs =>
          obtain ⟨b, ws, m1, m2, m3, m4⟩ := q
          have nb : b ≠ p2 := fun w => R1.ap i k xs zs _ z hi h r0 (by rw [e, m1, w])
          refine ⟨b, ws, m1, ?_, g2.keep b _ m3 (fun w => nb (ownc.mp w)) (fun _ h => nomatch h), m4.ex g2.ff⟩
          cases w : F2 b with
          | none => rfl
          | some o =>
            rcases g2.new b o w with w | w | w
            · rw [m2] at w; cases w
            · exact (w.lst m3).elim
            · exact absurd (ownc.mp w) nb
    · have ne : ∀ {m : Nat} {ws : List D}, (δ1.set i (.ow ys))[m]? = some (.ow ws) → ∃ zs, δ1[m]? = some (.ow zs) := fun {m ws} q => by
        by_cases z : i = m
        · subst z; exact ⟨xs, hi⟩
        · rw [List.getElem?_set_ne z] at q; exact ⟨ws, q⟩
      obtain ⟨a1, w1⟩ := ne h1
      obtain ⟨a2, w2⟩ := ne h2
      exact R1.ap k j a1 a2 o hkj w1 w2 h3
  refine k v F2 H2 (g1.trans G2) RR (Res.back g1 ?_)
  cases r with
  | un => trivial
  | d x => exact q
  | raw v => exact q
  | pr P => exact q
  | ow zs =>
    obtain ⟨b, ws, e, h1, h2, h3, h4, h5⟩ := q
    have nb : b ≠ p2 := fun z => h4 (ownc.mpr z)
    have hb : Fre H1 b := h5.resolve_right fun z => nb (ownc.mp z)
    exact ⟨b, ws, e, h1, h2, h3, fun z => R1.own_fre hb (own' b z), .inl hb⟩
end
end DL
end
section
set_option Elab.async false
set_option linter.all false
set_option maxRecDepth 100000
set_option maxHeartbeats 2000000
/-! DLx: own errors with super().__init__() and one field. -/
namespace PySem
namespace DLX
open PySem.W PySem.Calls PyProof.Rows PySem.HandSPX
/-! ### the text of __init__ -/
def vA (p1 p2 p3 : Pos) : Arguments := { posonlyargs := [], args := [{ arg := "self", annotation := none, pos := p1 }, { arg := "value", annotation := none, pos := p2 }], vararg := none, kwonlyargs := [], kw_defaults := [], kwarg := none, defaults := [(.Constant .none 0 p3)] }
def vB (p0 p1 p2 p3 p4 q1 q2 q3 q4 : Pos) : List Stmt := [.Expr (.Call (.Attribute (.Call (.Name "super" p0) [] [] p1) "__init__" p2) [] [] p3) p4, .Assign [.Attribute (.Name "self" q1) "value" q2] (.Name "value" q3) q4]
def vS : Scope := { kind := .function, names := [(PySem.Str.ofString "self", .local), (PySem.Str.ofString "value", .local), (PySem.Str.ofString "__class__", .free), (PySem.Str.ofString "super", .globalImplicit)], isGenerator := false, isCoroutine := false, more := [] }
abbrev veB : List Value := [.type "ValueError", .type "Exception", .type "BaseException", .type "object"]
/-- what the written part says of the error x at C and of its __init__ at fI -/
structure ErrT (P : Program) (K : Frag) (x : Str) (C fI : Addr) : Prop where
  oex : L2.OexC K C
  xf : L2.XfC K C
  noV : findIn K (.ref C) "value" = some none
  iC : findIn K (.ref C) "__init__" = some (some (.ref fI))
  tI : typeIn K (.ref fI) = some (.type "function")
  ini : excInitIn K C veB "ValueError.__new__" = true
  sup : ks_superIn K C C "__init__" = some (some (.builtin "ValueError.__init__"))
  opq : nsIn K cStatics "thirdparty.any" = some none
  sub : mroIn K C (.ref C) = some true
  subV : subIn K (.ref C) (.type "ValueError") = some true
  clC : findIn K (.ref C) "__class__" = some (some (.builtin "object.__class__"))
  spC : specialIn K (.builtin "object.__class__") "__get__" = some (some (.builtin "getset_descriptor.__get__"))
  tkC : takesIn K (.builtin "object.__class__") = some true
  moC : mroIn K C (.type "object") = some true
  top : (P.main.scope.names.lookup ("super" : Str)).isSome = false
  fn : ∃ (oc : Value) (od : Option Addr) (Td : Addr) (kV doc pm : Value) (an : Option Addr) (cda : Addr) (ct : Value) (cc : Addr) (osl : Array (Option Value)) (a1 a2 a3 p0 p1 p2 p3 p4 q1 q2 q3 q4 : Pos),
    K.lookup fI = some ⟨oc, od, .func (ksFn "__init__" (x ++ ".__init__") (vA a1 a2 a3) (vB p0 p1 p2 p3 p4 q1 q2 q3 q4) vS (.ref Td) kV doc pm an (.ref cda) ct cc), osl⟩ ∧ (∃ (o : Obj) (it : Value) (n : Nat), K.lookup Td = some o ∧ o.data = .seq #[it] n) ∧ codeIn K (.ref cda) (x ++ ".__init__") = true ∧ (p2.endLine == p3.line) = true ∧
    (∃ (cl : Value) (cld : Option Addr) (csl : Array (Option Value)), K.lookup cc = some ⟨cl, cld, .cell (some (.ref C)), csl⟩) ∧
    ∃ (ccl : Value) (cdd : Option Addr) (vs : Array Value) (ccs : Array (Option Value)) (file : Str) (tf : Tok), K.lookup cda = some ⟨ccl, cdd, .fields vs, ccs⟩ ∧ vs[2]? = some (.str file tf) ∧ ((P.main.file : Str) == file) = true
theorem kept_but {K : Frag} {h h' : Heap} {x : Addr} (X : K.In h) (hx : K.lookup x = none) (k : ∀ b o, b ≠ x → h.get? b = some o → h'.get? b = some o) : K.In h' := fun a o e =>
  k a o (fun z => by rw [z, hx] at e; cases e) (X a o e)
theorem ldC {M : Model} {s : Shared} {name : Str} {scope : Scope} {L a : Addr} {cd : Value} {cl : List (Str × Addr)} {m : Str → Option Value} {x : Str} {pos : Pos} {v : Value} {Q : Value → Shared → Prop} {A : Around} {E : Value → Shared → Prop} (hn : s.heap.Ns L m) (hv : m x = some v) (h : Q v s)
    (hk : scope.kind = .function := by rfl) (hl : (envX name scope L a cd cl).kindOf x = some .local := by rfl) (hd : (x == ("__debug__" : Str)) = false := by decide) :
    wpAny M A (eval (.Name x pos) (envX name scope L a cd cl)) Q E s := wpAny_Name (wpAny_loadName_local hk hl hn hv h) hd
/-- what __init__ leaves of a fresh exception at x -/
structure InitEnd (h h' : Heap) (x C dx t1 : Addr) (v : Value) : Prop where
  keep : ∀ b o, b ≠ x → h.get? b = some o → h'.get? b = some o
  obj : h'.get? x = some { cls := .ref C, dict := some dx, data := .fields #[.ref t1, .none, .none, .none, .bool false, .none] }
  dbig : h.objs.size ≤ dx
  dne : dx ≠ x
  ns : h'.Ns1 dx (fun y => if y = "value" then some v else none)
section
variable {prog : Program} {w : World} {A : Around} {R : Result → Shared → Prop} {s : Shared} {K : Frag} {C fI : Addr} {x : Str} {mg mb : Str → Option Value}
theorem vinit (T : ErrT prog K x C fI) {e t0 : Addr} {v : Value} (X : K.In s.heap) (hg : s.heap.Ns mainGlobals mg) (hb : s.heap.Ns builtinsNs mb) (hbb : ∀ x : Str, x ≠ "__name__" → mb x = bootBuiltins x) (hsm : mg "super" = none) (hlim : s.heap.NoLimit)
    (hx : s.heap.get? e = some (excO C t0)) (hnx : K.lookup e = none) (hroom : A.depth < recursionLimit) {fd : FuncData} {args : Args} (hfd : ∃ o, K.lookup fI = some o ∧ o.data = .func fd) (hbind : BindsTo s fd args [("self", .ref e), ("value", v)])
    (hq : ∀ h' tk dx t1, InitEnd s.heap h' e C dx t1 v → R (.ok (.ret .none)) { s with heap := h', toks := tk }) :
    codeAny (model prog w) A (.call (.ref fI) args) R s := by
  obtain ⟨oc, od, Td, kV, doc, pm, an, cda, ct, cc, osl, a1, a2, a3, p0, p1, p2, p3, p4, q1, q2, q3, q4, ho, _, hcd, hln, ⟨cl, cld, csl, hcell⟩, ccl, cdd, vs, ccs, file, tf, hco, hvs, hfile⟩ := T.fn
  obtain ⟨o', e1, e2⟩ := hfd
  rw [ho] at e1; cases e1; cases e2
  obtain ⟨nm, q, N, bs, bm, sn, sub, ab, col, dd, k0, k1, k2, k3, k5, hC, hbm⟩ := T.oex.cls
  have hcl : clsIn K C = some { name := nm, bases := bs, mro := .ref C :: bm, ns := N, qualname := q, hasDict := true, slotNames := sn, subclasses := sub, abstract := ab, collection := col, hasDel := false } := by unfold clsIn; rw [hC] <;> rfl
  refine ks_codeAny_call_defAt (fd := ksFn "__init__" (x ++ ".__init__") (vA a1 a2 a3) (vB p0 p1 p2 p3 p4 q1 q2 q3 q4) vS (.ref Td) kV doc pm an (.ref cda) ct cc) (body := vB p0 p1 p2 p3 p4 q1 q2 q3 q4) (binds := [("self", .ref e), ("value", v)]) hroom (X _ _ ho) rfl hlim (codeRec_of X hcd) rfl hbind (by show ∀ x ∈ vS.names, x.2 ≠ .cell; decide) (by
    intro y hy
    rcases List.mem_cons.mp hy with rfl | hy
    · rfl
    rcases List.mem_cons.mp hy with rfl | hy
    · rfl
    · cases hy) (fun h₁ hns k => ?_)
  have X₁ : K.In h₁ := X.keeps k
  have hx₁ := k _ _ hx
  have hLe : s.heap.objs.size ≠ e := Nat.ne_of_gt (Heap.lt_size hx)
  have heq : ∀ env : Env, eval (.Call (.Attribute (.Call (.Name "super" p0) [] [] p1) "__init__" p2) [] [] p3) env = (do
      let ov ← attributeBase (.Call (.Name "super" p0) [] [] p1) "__init__" env (eval (.Call (.Name "super" p0) [] [] p1) env)
      standAt p2.atName
      let (f, first) ← holding [ov] (getMethod ov "__init__" (L2.plainOf (.Call (.Name "super" p0) [] [] p1) env))
      callWith p3 f first (backTo p3 (starEach [] env)) []) := fun env => by
    show (attributeBase (.Call (.Name "super" p0) [] [] p1) "__init__" env (eval (.Call (.Name "super" p0) [] [] p1) env) >>= fun ov => standAt p2.atName >>= fun _ => methodCall (.Call (.Name "super" p0) [] [] p1) "__init__" p2 p3 env ov 0 (backTo p3 (starEach [] env)) (backToKw p3 (keywordEach [] env))) = _
    exact congrArg (bind _) (funext fun ov => congrArg (bind _) (funext fun _ => L2.mcall_line rfl hln))
  have X₀ : K.In (hideAll s.heap [e]) := fun b o z => hideAll_get [e] (X b o z) fun hm => by
    rw [List.mem_singleton] at hm
    rw [hm, hnx] at z
    cases z
  have gone : (hideAll s.heap [e]).get? e = none := hideAll_none [e] (List.mem_singleton.mpr rfl)
  have F1 : Fr (hideAll s.heap [e]) s.heap.objs.size h₁ (fun y => ([("self", .ref e), ("value", v)] : List (Str × Value)).reverse.lookup y) := ⟨hns, fun b o z => k b o (of_hideAll [e] z), Nat.le_of_eq (hideAll_size _ _)⟩
  have N1 : News (hideAll s.heap [e]) s.heap.objs.size h₁ [(e, excObj C t0 none .none)] := fun p hp => by
    rw [List.mem_singleton] at hp
    subst hp
    exact ⟨hx₁, Ne.symm hLe, gone⟩
  have I1 : InstAt h₁ e (excObj C t0 none .none) C none := ⟨hx₁, rfl, rfl, trivial⟩
  -- super().__init__()
  refine ks_wpAt_execs_cons (ks_wpAt_Expr_any (ks_wpAt_MethodCall ?_ (heq _)))
  refine ks_wpAt_super_base (of := _) (oc := _) (vs := vs) rfl rfl (by decide) rfl (X₁ _ _ ho) rfl rfl rfl (X₁ _ _ hco) rfl hvs hfile T.top ?_
  refine ks_loadName_global rfl rfl (loadGlobal_builtin (hg.keeps k) hsm (hb.keeps k) ((hbb _ (by decide +kernel)).trans (by kernel_rfl)) ⟨rfl, ?_⟩)
  refine wpAny_loadName_free rfl rfl rfl ⟨_, X₁ _ _ hcell, rfl⟩ ?_
  refine wpAny_loadName_local (v := .ref e) rfl rfl hns rfl ?_
  refine ks_wpAny_isType_cls (X₁ _ _ hC) rfl ⟨rfl, ?_⟩
  refine ks_wpAny_call_super (X₁ _ _ hC) rfl I1.at_ I1.cls (fun c z => by cases z) (looks_mroIn X₁ T.sub) (fun h' z k2 => ?_)
  obtain ⟨F2, N2, l2⟩ := ks_newsPush (s := { s with heap := h₁, toks := s.toks + 2 }) F1 N1 rfl z k2
  have I2 : InstAt h' e (excObj C t0 none .none) C none := ⟨k2 _ _ hx₁, rfl, rfl, trivial⟩
  refine kxs_method kxs_ValueError F2 X₀ N2 (List.mem_cons_self ..) I2 T.opq T.sup T.subV (by decide) (fun q3 h3 F3 N3 l3 => ?_)
  have ne1 : q3 ≠ e := fun z => by have := l3 (e, excObj C t0 none .none) (by simp); rw [z] at this; exact Nat.lt_irrefl _ this
  have ne2 : h₁.objs.size ≠ e := Nat.ne_of_gt (Heap.lt_size hx₁)
  refine kxs_callWith0 N3 (List.mem_cons_self ..) (kxs_call F3 X₀ N3 F.excBase_ValueError T.ini (List.mem_cons_self ..) (.tail ne1 (.tail ne2 (.head (fun p hp => by cases hp)))) (by decide) (fun t4 h4 F4 N4 l4 => ?_))
  have hx4 : h4.get? e = some (excO C t4) := (N4 (e, excObj C t4 none .none) (by simp)).1
  have X4 : K.In h4 := X₀.keeps F4.keep
  -- self.value = value
  show _root_.PySem.wpAt _ _ _ (execs _ _) _ _ _
  refine wpAt_of_wpAny (wpAny_execs_cons (plainObj_wpAny_Assign_Attribute ?_))
  refine ldC (v := v) F4.ns rfl (ldC (v := .ref e) F4.ns rfl ?_)
  refine set_plain X4 (ox := excO C t4) (od := none) ⟨hx4, rfl, rfl, trivial⟩ T.oex.sa ?_
  refine exc_osa X4 hx4 hcl (show refsVE (.ref C :: bm) = true from hbm) rfl T.noV (fun h5 tk5 dx k5 dn dne hx5 hn5 => ?_)
  show wpAny _ _ (execs _ _) _ _ _
  have z4 : s.heap.objs.size < h4.objs.size := F4.ns.lt
  refine wpAny_execs_nil (hq h5 tk5 dx t4 ⟨fun b o hb z => k5 b o hb (F4.keep b o (hideAll_get [e] z fun hm => hb (List.mem_singleton.mp hm))), hx5, Nat.le_of_lt (Nat.lt_of_lt_of_le z4 dn), dne, hn5⟩)
end
end DLX
end PySem
namespace DL
open PySem PySem.Spec PyProof.Rows L2
open PySem.DLX (ErrT)
/-- __init__'s promise -/
def spI (C : Addr) : Sp := fun vs H Q _ => ∃ (a : Addr) (v : V), vs = [.ref a, v] ∧ H a = some (exo a C none) ∧ ∀ dx, H dx = none → dx ≠ a → Q .non (upd (upd H dx (exd dx [("value", v)])) a (exo a C (some dx)))
theorem vinit_ok {P : Program} {w : World} {K : PySem.W.Frag} {mg : Str → Option Value} {base : Heap} {x : Str} {C fI : Addr} {CX : CXT} {fd : FuncData} (T : ErrT P K x C fI) (hfd : ∃ o, K.lookup fI = some o ∧ o.data = .func fd) (hsm : mg "super" = none) : FnOk P w K mg base CX 1 fI fd ["self", "value"] (spI C) := by
  refine ⟨fun vs H Q E h => by obtain ⟨a, v, rfl, _⟩ := h; rfl, fun A outer s H args us vs Q E hr e0 hb hv h => ?_⟩
  obtain ⟨a, v, rfl, ea, k⟩ := h
  cases hv with
  | cons ra rv =>
  rename_i u0 us
  cases rv with
  | cons rv rn =>
  rename_i u us
  cases rn
  cases ra
  have KX : K.In s.heap := e0.mod.kin.keeps fun b o e => (e0.bs b o e).1
  have kp : ∀ b o, base.get? b = some o → s.heap.get? b = some o := fun b o e => (e0.bs b o e).1
  obtain ⟨mb, hb1, hb2⟩ := e0.mod.blt
  obtain ⟨t0, ho⟩ := exo_at e0.hok ea
  have hnx : K.lookup a = none := by
    cases z : K.lookup a with
    | none => rfl
    | some o =>
      have := (e0.bs a o (e0.mod.kin _ _ z)).2
      rw [ea] at this
      cases this
  refine PySem.DLX.vinit T KX (e0.mod.glob.keeps kp) (hb1.keeps kp) hb2 hsm (e0.mod.nolimit.keeps kp) ho hnx hr.depth hfd hb (fun h' tk dx t1 I => ?_)
  have hnd : H dx = none := e0.hok.fresh I.dbig
  have nd : ∀ {b : Addr} {o : Obj}, s.heap.get? b = some o → b ≠ dx := fun {b o} q => Nat.ne_of_lt (Nat.lt_of_lt_of_le (Heap.lt_size q) I.dbig)
  have na : ∀ {b : Addr}, H b = none → b ≠ a := fun {b} n z => by
    rw [z, ea] at n
    cases n
  refine ⟨.non, upd (upd H dx (exd dx [("value", v)])) a (exo a C (some dx)), rfl, e0.bare, ?_, fun b o q => ?_, rfl, k dx hnd I.dne⟩
  · exact {
      keep := fun b o q n _ _ => I.keep b o (na n) q
      slot := fun b o q n _ _ => ⟨o.slots, I.keep b o (na n) q⟩
      free := fun b o q n _ => by rw [upd_ne (na n), upd_ne (nd q)]; exact n
      there := fun b o q _ => by
        by_cases hb : b = a
        · exact ⟨_, by rw [hb]; exact I.obj⟩
        · exact ⟨o, I.keep b o hb q⟩
      tups := fun b xs q => by rw [upd_ne (at_ne ea q exo_tup), upd_ne (ne_of_none q hnd)]; exact q
      frzs := fun b o v q => by rw [upd_ne (at_ne ea q exo_frz), upd_ne (ne_of_none q hnd)]; exact q
      tbls := fun b ps q => ⟨#[], by rw [upd_ne (at_ne ea q exo_tbl), upd_ne (ne_of_none q hnd), q]; simp⟩ }
  · by_cases hb : b = a
    · subst hb
      rw [upd_same] at q
      cases q
      exact exo_ok I.obj
    · rw [upd_ne hb] at q
      by_cases hd : b = dx
      · subst hd
        rw [upd_same] at q
        cases q
        exact exd_ok I.ns (relO_put (fs := []) rv fun g => True.intro)
      · rw [upd_ne hd] at q
        exact (e0.hok b o q).stay (fun c v hc z => I.keep c v (by
            rcases hc with hc | hc
            · rw [hc]
              exact hb
            · exact at_ne ea hc exo_own) z)
          (fun c hc => by rw [upd_ne (at_ne ea hc exo_own), upd_ne (ne_of_none hc hnd)]; exact hc) (fun c xs hc => by rw [upd_ne (at_ne ea hc exo_tup), upd_ne (ne_of_none hc hnd)]; exact hc)
variable [TL]
section
variable {X : Cx} {pn : List Nat} {δ δ1 δ2 : List DV} {a e : Expr} {x : Str} {C fI : Addr} {d : D} {p p1 p2 pos pos2 : Pos}
/-- an error of the text, as it is raised -/
structure Err (P : Program) (K : PySem.W.Frag) (mg : Str → Option Value) (x : Str) (C : Addr) : Prop where
  t : ∃ fI, ErrT P K x C fI
  gC : mg x = some (.ref C)
  sm : mg "super" = none
theorem Err.init {P : Program} {w : World} {K : PySem.W.Frag} {mg : Str → Option Value} {base : Heap} {CX : CXT} (E : Err P K mg x C) : ∃ fI fd, ErrT P K x C fI ∧ FnOk P w K mg base CX 1 fI fd ["self", "value"] (spI C) ∧ L2.Binds K fd ["self", "value"] [] := by
  obtain ⟨fI, T⟩ := E.t
  have T' := T
  obtain ⟨oc, od, Td, kV, doc, pm, an, cda, ct, cc, osl, a1, a2, a3, p0, p1, p2, p3, p4, q1, q2, q3, q4, ho, ⟨o, it, n, lT, oT⟩, _⟩ := T.fn
  exact ⟨fI, _, T', vinit_ok T' ⟨_, ho, rfl⟩ E.sm, fun s us X hl => BindsTo.of_looks fun M => by
    match us, hl with
    | [u1, u2], _ => exact looks_items (k := fun o => _) X lT oT (.of_pure rfl)⟩
theorem ds_raise (E : Err X.prog X.K X.mg x C) (hc : X.calm = true) (hr : Room 2 X.A) (hg : Gl X x) (he : DE X δ e (.d d) δ1) (hdb : (x == ("__debug__" : Str)) = false := by decide)
    (hs : starEach [e] X.env = (false, eval e X.env) :: starEach [] X.env := by rfl) (hpl : (backTo pos (starEach [] X.env)).any (·.1) = false := by rfl) :
    DS X pn δ (.Raise (some (.Call (.Name x p) [e] [] pos)) none pos2) (.ex C d) := by
  obtain ⟨fI, fd, T, F, hb⟩ := E.init (w := X.w) (base := X.base) (CX := CX0)
  refine (ps_raise (pos := pos2) hc (takes_wx X) (pmk_oex (p := p) T.oex T.iC T.tI F hr hb .nil (fun _ _ _ _ _ _ _ z => z.elim) hg E.gC (pa_cons he pa_nil hs) hdb hs hpl)).imp fun D σ H ⟨F0, R0, k⟩ => ?_
  refine ⟨F0, R0, fun v F1 H1 g1 R1 r1 => ⟨by show 1 ≤ 1000; decide, fun a ha => ⟨a, v, rfl, upd_same, fun dx h1 h2 => ⟨rfl, dx, [("value", v)], upd_same, ?_, ?_, ?_⟩⟩⟩⟩
  · rw [upd_ne h2, upd_same]
  · rw [upd_ne h2] at h1; exact h1
  · have hd1 : H1 dx = none := by rw [upd_ne h2] at h1; exact h1
    have eH : upd (del (upd (upd (upd H1 a (exo a C none)) dx (exd dx [("value", v)])) a (exo a C (some dx))) a) dx (.xd [("value", v)]) = upd H1 dx (.xd [("value", v)]) := by
      funext b
      by_cases hb : b = dx
      · rw [hb, upd_same, upd_same]
      · rw [upd_ne hb, upd_ne hb]
        by_cases hba : b = a
        · rw [hba, del_same, ha]
        · rw [del_ne hba, upd_ne hba, upd_ne hb, upd_ne hba]
    rw [eH]
    exact k dx v σ δ1 (upd F1 dx (.xd [("value", v)])) _ ((aft_of g1 R1).trans ⟨Go.new_ hd1 (R1.sub.none hd1), R1.new hd1, fun _ _ => rfl⟩) (.inl upd_same) (r1.ex (.new (R1.sub.none hd1)))
/-- a held error's field -/
theorem exV_at {P : Program} {w : World} {H : Hp} {h : Heap} {a C dx : Addr} (hok : HOk P w H h) (he : H a = some (exV a C dx)) : ∃ (ob : Obj) (vs : Array Value), h.get? a = some ob ∧ ob.cls = .ref C ∧ ob.dict = some dx ∧ ob.data = .fields vs := by
  have x : ObjOk P w H h a (.ext fun h => ∃ (ob : Obj) (vs : Array Value), h.get? a = some ob ∧ ob.cls = .ref C ∧ ob.dict = some dx ∧ ob.data = .fields vs) := hok a _ he
  exact x.1
theorem xdAt_at {P : Program} {w : World} {F H : Hp} {h : Heap} {dx : Addr} {fs : List (Str × V)} (hok : HOk P w H h) (e : Ex F H) (he : XdAt F dx fs) : ∃ mA, h.Ns1 dx mA ∧ ∀ f, RelO (fs.lookup f) (mA f) := by
  rcases he with he | he
  · exact hok dx _ (e _ _ he)
  · exact exd_at hok (e _ _ he)
theorem inst_at {P : Program} {w : World} {F H : Hp} {h : Heap} {a C dx : Addr} {fs : List (Str × V)} (hok : HOk P w H h) (e : Ex F H) (h1 : F a = some (exV a C dx)) (h2 : XdAt F dx fs) :
    ∃ (ob : Obj) (od : Obj), PySem.W.InstAt h a ob C (some od) ∧ ∀ f v, fs.lookup f = some v → ∃ u, RelV v u ∧ PySem.W.lookIn f od = some (some u) := by
  obtain ⟨ob, vs, ho, hc, hd, hdat⟩ := exV_at hok (e _ _ h1)
  obtain ⟨mA, hns, hr⟩ := xdAt_at hok e h2
  obtain ⟨od, ho2, hl⟩ := lookIn_ns hns
  refine ⟨ob, od, ⟨ho, hc, by unfold PySem.W.notCls; rw [hdat] <;> rfl, by rw [hd]; exact ho2⟩, fun f v l => ?_⟩
  obtain ⟨u, hu, ru⟩ := RelO.some_of (v := v) (o := mA f) (by rw [← l]; exact hr f)
  exact ⟨u, ru, by rw [hl, hu]⟩
theorem de_fld (T : Err X.prog X.K X.mg x C) (he : DE X δ e (.d (.exc C d)) δ1) (hb : attributeBase e "value" X.env (eval e X.env) = eval e X.env := by rfl) : DE X δ (.Attribute e "value" pos) (.d d) δ1 := by
  obtain ⟨fI, T⟩ := T.t
  refine ⟨fun pins s σ H Q I ⟨F, R, k⟩ => ?_⟩
  refine attr_of hb (thn (he.run pins s σ H (fun v H1 => ∃ F1, Go (Own σ δ) (Own σ δ1) F H F1 H1 ∧ Rs F1 H1 σ δ1 ∧ Rp F1 v (.exc C d)) I ⟨F, R, fun v F1 H1 g R1 r => ⟨F1, g, R1, r⟩⟩) fun u s1 ⟨v, H1, I1, rv, F1, g, R1, r⟩ => ?_)
  cases r with
  | @exc a dx _ v d h1 h2 h3 =>
    obtain rfl : u = Value.ref a := rv
    obtain ⟨ob, od, J, hl⟩ := inst_at I1.hok R1.sub h1 h2
    obtain ⟨u, ru, l⟩ := hl "value" v (by simp [List.lookup])
    exact HandSPX.exc_get I1.kIn J T.xf.ga T.xf.gg T.xf.exC (PySem.W.findObj_own T.xf.hdC T.noV rfl l) (handed_of ru) ⟨v, H1, I1.tok _, ru, k v F1 H1 g R1 h3⟩
/-- isinstance of an error, of anything -/
def rIsX (X : Cx) (T : Addr → Prop) (C2 : Addr) : List V → Hp → VK → Prop := fun xs H Q => ∃ (a C dx : Addr) (b : Bool) (F : Hp) (fs : List (Str × V)), xs = [.ref a, .ref C2] ∧ T C ∧ Ex F H ∧ F a = some (exV a C dx) ∧ XdAt F dx fs ∧ PySem.W.kitOne X.K (.ref C) (.ref C2) = some b ∧ Q (.bl b) H
theorem call_isX {T : Addr → Prop} {C2 : Addr} (hT : ∀ C, T C → ∃ x, Err X.prog X.K X.mg x C) : CallR X (.builtin "isinstance") (rIsX X T C2) := by
  intro pins s σ H xs us Q I r h
  obtain ⟨a, C, dx, b, F, fs, rfl, tc, ex, h1, h2, hk, q⟩ := h
  obtain ⟨x, E⟩ := hT C tc
  obtain ⟨fI, T⟩ := E.t
  cases r with
  | cons rx rr =>
    cases rr with
    | cons rt rr =>
      cases rr
      cases rx
      cases rt
      obtain ⟨ob, od, J, _⟩ := inst_at I.hok ex h1 h2
      obtain ⟨cd, hcd, _⟩ := PySem.W.any_some T.xf.hdC
      exact PySem.W.kia_one (PySem.W.kitx_exc (by rw [hcd]; rfl) T.xf.ga T.xf.gg T.xf.exC T.clC T.spC T.tkC T.moC) I.kIn J hk (fun z => nomatch z) fun tk => ⟨.bl b, H, I.kept (t' := tk) fun _ _ z => z, rfl, q⟩
theorem de_isX {C C2 : Addr} {y : Str} {b : Bool} (E : Err X.prog X.K X.mg x C) (hg : Gl X "isinstance") (hm : X.mg "isinstance" = none) (ha : DE X δ a (.d (.exc C d)) δ1) (hg2 : Gl X y) (hm2 : X.mg y = some (.ref C2)) (hk : PySem.W.kitOne X.K (.ref C) (.ref C2) = some b)
    (hdb : (y == ("__debug__" : Str)) = false := by decide)
    (he : starEach [a, .Name y p2] X.env = (false, eval a X.env) :: starEach [.Name y p2] X.env := by rfl) (he2 : starEach [Expr.Name y p2] X.env = (false, eval (.Name y p2) X.env) :: starEach [] X.env := by rfl) (hpl : (backTo pos (starEach [Expr.Name y p2] X.env)).any (·.1) = false := by rfl) :
    DE X δ (.Call (.Name "isinstance" p1) [a, .Name y p2] [] pos) (.d (.bl b)) δ1 :=
  de_bi (call_isX (T := fun C' => C' = C) (C2 := C2) (fun C' z => by subst z; exact ⟨x, E⟩)) hg hm (by decide +kernel) (da_cons ha (da_c (pe_glob (v := .ref C2) hg2 hm2 rfl hdb) da_nil he2) he) (fun F H σ vs Q ex h k => by
    cases h with
    | cons r t =>
      cases t with
      | cons r2 t =>
        cases t
        cases (show _ = V.ref C2 from r2)
        cases (show Rp F _ (.exc C d) from r) with
        | exc h1 h2 h3 => exact ⟨_, C, _, b, F, _, rfl, rfl, ex, h1, h2, hk, k _ (.bl _)⟩) (he := he) (hpl := hpl)
end
end DL
end
section
set_option Elab.async false
set_option linter.all false
set_option maxRecDepth 100000
set_option maxHeartbeats 2000000
/-! DLy: a caught error held; lambdas handed to the def that hears. -/
namespace DL
open PySem PySem.Spec PyProof.Rows L2
/-! ### try: body / except x as n: m = n -/
section
variable {X : Cx} {pins : List (Addr × Obj)} {σ : L2.St} {H : Hp} {s : Shared}
/-- the pinned exception is tracked from now on -/
theorem inv_hold {a C dx : Addr} {oe : Obj} {vs : Array Value} (I : Inv X ((a, oe) :: pins) σ H s) (hc : oe.cls = .ref C) (hd : oe.dict = some dx) (hv : oe.data = .fields vs) (h0 : ∀ o, X.s_0.heap.get? a ≠ some o) (hp : ∀ p ∈ X.pn ++ pins, p.1 ≠ a) :
    Inv X pins σ (upd H a (exV a C dx)) s := by
  have hm : (a, oe) ∈ X.pn ++ (a, oe) :: pins := List.mem_append_right _ (List.mem_cons_self ..)
  obtain ⟨ha, na, nL, nF, nc⟩ := I.pin (a, oe) hm
  have ha : s.heap.get? a = some oe := ha
  have na : H a = none := na
  have ne0 : ∀ {b : Addr} {o : Obj}, X.s_0.heap.get? b = some o → b ≠ a := fun {b o} e z => h0 o (z ▸ e)
  refine ⟨I.ok, I.os, I.bare, ⟨I.base.keep, I.base.slot, fun b o e n hx => ?_, I.base.there, fun b xs e => ?_, fun b o u e => ?_, fun b ps e => ?_⟩, I.loc, I.cell, ?_, fun y c e => ?_, fun p hp' => ?_, fun b u e => ?_, I.len⟩
  · rw [upd_ne (ne0 e)]; exact I.base.free b o e n hx
  · have q := I.base.tups b xs e
    rw [upd_ne (ne_of_none q na)]; exact q
  · have q := I.base.frzs b o u e
    rw [upd_ne (ne_of_none q na)]; exact q
  · obtain ⟨m, q⟩ := I.base.tbls b ps e
    exact ⟨m, by rw [upd_ne (ne_of_none q na)]; exact q⟩
  · rw [upd_ne (Ne.symm nL)]; exact I.free
  · have ne : c ≠ a := fun z => by
      obtain ⟨w', o, e1, e2⟩ := I.cell y c e
      rw [z, ha] at e1; cases e1
      rw [hv] at e2; cases e2
    rw [upd_ne ne]; exact I.freeC y c e
  · have hm' : p ∈ X.pn ++ (a, oe) :: pins := by
      rcases List.mem_append.mp hp' with q | q
      · exact List.mem_append_left _ q
      · exact List.mem_append_right _ (List.mem_cons_of_mem _ q)
    obtain ⟨e, n, r⟩ := I.pin p hm'
    exact ⟨e, by rw [upd_ne (hp p hp')]; exact n, r⟩
  · by_cases hb : b = a
    · subst hb
      rw [upd_same] at e
      cases e
      exact ⟨⟨oe, vs, ha, hc, hd, hv⟩, ⟨oe, ha⟩, fun h1 h2 ⟨ob, ws, a1, a2, a3, a4⟩ st => ⟨ob, ws, st _ a1, a2, a3, a4⟩⟩
    · rw [upd_ne hb] at e
      exact (I.hok b u e).stay (fun c v _ q => q) (fun c q => by rw [upd_ne (ne_of_none q na)]; exact q) fun c xs q => by rw [upd_ne (ne_of_none q na)]; exact q
end
/-- what the clause 'except x as n: m = n' wishes: slot i is n's, j is m's -/
def wHeld (K : PySem.W.Frag) (c : Value) (n i j : Nat) (Wout : WX) (D : Ends) : WX := fun cls d σ H =>
  ∃ b, PySem.W.exmOne K cls c = some b ∧ (b = true → ∃ C dx, cls = .ref C ∧ d = some dx ∧ ∀ a, H a = none → σ.length = n → D.nx (((σ.set i (some (.ref a))).set j (some (.ref a))).set i none) (upd H a (exV a C dx))) ∧ (b = false → Wout cls d σ H)
section
variable {X : Cx} {x n m : Str} {c : Value} {i j : Nat} {body : List Stmt} {np pos pos' p1 p2 p3 : Pos} {tb : WX → TS} {Wout : WX}
theorem ps_try_held (hs : X.stack = X.env :: X.outer) (hex : X.ex = []) (hf : X.env.frame = some X.env.locals) (hN : X.N.Nodup) (hi : X.N[i]? = some n) (hln : X.env.kindOf n = some .local) (hj : X.N[j]? = some m) (hlm : X.env.kindOf m = some .local) (hc : Names X x c) (tk : Takes X Wout)
    (hb : ∀ (W : WX) (pn : List (Addr × Obj)) (xe : Value → Shared → Prop), Takes (X.tr pn xe) W → PassesOwn (model X.prog X.w) X.A X.env xe → PSs (X.tr pn xe) body (tb W))
    (hd : (n == ("__debug__" : Str)) = false := by decide) (hcd : (n == ("__classdict__" : Str)) = false := by decide) (hsw : swapsWith (.Name n p2) (some (.Name m p1)) p3.line X.env = pure false := by rfl) (hil : ∀ σ : L2.St, σ.length = X.N.length → i < σ.length := by intro σ h; rw [h]; decide) :
    PS X (.Try body [.ExceptHandler (some (.Name x np)) (some n) [.Assign [.Name m p1] (.Name n p2) p3] pos'] [] [] pos) (fun D σ H => tb (wHeld X.K c X.N.length i j Wout D) D σ H) := by
  refine ⟨fun pins s σ H D I h => ?_⟩
  have ok := I.ok
  have hfr : X.A.frames = some (X.env :: X.outer) := by rw [ok.frames, hs]
  have hloc : Loc X.env.scope n := .inl hln
  refine wpAny_Try_except ?_
  refine wpAny_mono ((hb (wHeld X.K c X.N.length i j Wout D) (X.pn ++ pins) (fun e s₁ => wpAny (model X.prog X.w) X.A (noteFrame e X.env) (fun _ s₂ => wpAny (model X.prog X.w) X.A (setFlight e none) (fun _ s₃ =>
    wpAny (model X.prog X.w) X.A (handleBy e X.env [.ExceptHandler (some (.Name x np)) (some n) [.Assign [.Name m p1] (.Name n p2) p3] pos']) (SP X pins D) X.xe s₃) X.xe s₂) X.xe s₁) (fun u s' xx => ?_) PassesOwn.looking).run [] s σ H D (I.toTry _) h) (fun f s1 hsp => ?_) (fun e s1 he => he)
  · -- the catch
    obtain ⟨a, B, sI, pins', σ', H', cls, d, rfl, J', nb, up, sky, na, os, ag, b, hb1, hyes, hno⟩ := xx
    have J : Inv X pins σ' H' sI := J'.ofTry ok
    have nB : B.get? a = none := by
      rcases sky with ⟨_, q, _⟩ | q | q
      · exact q
      · exact q.2.1
      · exact q.2.1
    have sky' : Sky B (X.env :: X.outer) a (Zc cls d) X.env.locals s'.heap := by rw [← hs]; exact sky
    show wpAny (model X.prog X.w) X.A (noteFrame (.ref a) X.env) _ _ _
    refine Sky.land Zc.steady hfr hf sky' fun h3 fl3 up3 => ?_
    have J3 : Inv X pins σ' H' { s' with heap := h3 } := J.landed nb fl3.1 (up.trans up3) os ag
    obtain ⟨oe3, vs3, he3, hz3, hd3⟩ := fl3.there
    have notFr : ∀ {h : Heap} {o : Obj} {vs : Array Value}, h.FunFrames B (X.env :: X.outer) → h.get? a = some o → o.data = .fields vs → a ∉ frs (X.env :: X.outer) := fun {h o vs} ff e dd hm => by
      obtain ⟨_, o', e', hnf⟩ := ff.mem hm
      rw [e] at e'; cases e'
      exact hnf _ dd
    have nfr := notFr fl3.2.2.1 he3 hd3
    have nL : a ≠ X.env.locals := fun z => nfr (List.mem_filterMap.mpr ⟨X.env, List.mem_cons_self, by rw [hf, z]⟩)
    have nF : a ∉ X.fs := fun hm => by
      obtain ⟨e, he, q⟩ := List.mem_filterMap.mp hm
      exact nfr (List.mem_filterMap.mpr ⟨e, List.mem_cons_of_mem _ he, q⟩)
    have notI : ∀ o, sI.heap.get? a ≠ some o := fun o e => by
      have := nb a o e (by rw [hs]; exact nfr)
      rw [nB] at this; cases this
    have not0 : ∀ o, X.s_0.heap.get? a ≠ some o := fun o e => by
      obtain ⟨o', e'⟩ := J.base.there a o e (by rw [hex]; simp)
      exact notI o' e'
    have notP : ∀ p ∈ X.pn ++ pins, p.1 ≠ a := fun p hp z => by
      obtain ⟨e, _⟩ := J.pin p hp
      rw [z] at e
      exact notI _ e
    have S3 := J3.suite he3 hd3 na nL nF
    refine wpAny_handleBy_cons (codeAny_handlers_test ?_) (by intro q; cases q)
    have LT : PySem.W.Looks (model X.prog X.w) h3 (typeOf (.ref a)) cls := fun A Q E s k q => wpAny_typeOf_ref (k _ _ he3) (by rw [hz3.1]; exact q)
    have LM := PySem.W.exm_one (M := model X.prog X.w) (J3.kIn) LT hb1
    have test : ∀ {Q : Value → Shared → Prop} {E : Value → Shared → Prop}, Q c { s' with heap := h3 } → wpAny (model X.prog X.w) (X.A.mark (some (.ref a))) (eval (.Name x np) X.env) Q E { s' with heap := h3 } := fun {Q E} q => by
      obtain ⟨hg, hdbg, hm | ⟨hm, hv, hnn⟩⟩ := hc
      · exact ld_glob (X := X.suite a ((a, oe3) :: (X.pn ++ pins))) S3 hg hm q hdbg
      · exact ld_blt (X := X.suite a ((a, oe3) :: (X.pn ++ pins))) S3 hg hm hv q hnn hdbg
    refine test (LM.here ?_)
    cases b with
    | true =>
      obtain ⟨C, dx, ec, ed, hgo⟩ := hyes rfl
      subst ec
      subst ed
      refine codeAny_handlers_suite_as ?_
      refine HandSPX.lands_againZ fl3 fun h4 fl4 up4 => ?_
      have J4 : Inv X pins σ' H' { s' with heap := h4 } := J.landed nb fl4.1 ((up.trans up3).trans up4) os ag
      obtain ⟨oe4, vs4, he4, hz4, hd4⟩ := fl4.there
      have S4 := J4.suite he4 hd4 na nL nF
      refine store_ok (X := X.suite a ((a, oe4) :: (X.pn ++ pins))) (v := .ref a) S4 hN hi hloc rfl (fun s5 S5 => ?_) (.inr hln)
      have hsu : PSs (X.suite a ((a, oe4) :: (X.pn ++ pins))) [.Assign [.Name m p1] (.Name n p2) p3] _ := pss_one (ps_set (i := j) hN hj (.inl hlm) (pe_var (X := X.suite a ((a, oe4) :: (X.pn ++ pins))) (i := i) hi (.inl hln) hd hcd) hsw (.inr hlm))
      have len5 : (σ'.set i (some (.ref a))).length = X.N.length := S5.len
      refine wpAny_mono (hsu.run [] s5 _ H' { nx := fun σ6 H6 => σ6 = (σ'.set i (some (.ref a))).set j (some (.ref a)) ∧ H6 = H', rt := fun _ _ => False, bk := fun _ _ => False, ct := fun _ _ => False } S5 ⟨.ref a, by rw [List.getElem?_set_self (by have := hil _ len5; simpa using this)], rfl, rfl⟩) (fun f s6 hsp => ?_) (fun _ _ z => False.elim z)
      cases f with
      | next =>
        obtain ⟨σ6, H6, S6, rfl, rfl⟩ := hsp
        have S7 : Inv X ((a, oe4) :: pins) _ H6 s6 := ⟨ok, S6.os, S6.bare, S6.base, S6.loc, S6.cell, S6.free, S6.freeC, fun p hp => S6.pin p (by
          rcases List.mem_append.mp hp with q | q
          · exact List.mem_append_left _ (List.mem_cons_of_mem _ (List.mem_append_left _ q))
          · rcases List.mem_cons.mp q with q | q
            · rw [q]; exact List.mem_append_left _ (List.mem_cons_self ..)
            · exact List.mem_append_left _ (List.mem_cons_of_mem _ (List.mem_append_right _ q))), S6.hok, S6.len⟩
        exact gone_ok S7 hN hi hln fun s7 J7 => ⟨_, _, inv_hold J7 hz4.1 hz4.2 hd4 not0 notP, hgo a na J.len⟩
      | ret u =>
        obtain ⟨_, _, _, _, _, z⟩ := hsp
        exact z.elim
      | brk =>
        obtain ⟨_, _, _, z⟩ := hsp
        exact z.elim
      | cont =>
        obtain ⟨_, _, _, z⟩ := hsp
        exact z.elim
    | false =>
      show wpAny _ X.A (handleBy (.ref a) X.env []) _ _ _
      refine wpAny_handleBy_nil ?_
      obtain ⟨k1, k2, k3, oe, vs, T, oT, ts', he, hz, hd, h1, hr⟩ := id fl3
      unfold PySem.passOn
      refine wpAny_bind (wpAny_field he hd h1 ?_)
      rw [if_neg (show ¬ ((Value.ref T == Value.none) = true) from by simp)]
      have fin : wpAny (model X.prog X.w) X.A (setFlight (.ref a) X.env.frame) (fun _ s4 => wpAny (model X.prog X.w) X.A (throw (.ref a) : Sem Flow) (SP X pins D) X.xe s4) X.xe { s' with heap := h3 } := by
        rw [hf]
        refine HandSPX.setFlight_upZ fl3 fun h4 hh4 up4 => wpAny_throw (tk _ _ ?_)
        exact ⟨a, B, sI, pins, σ', H', cls, d, rfl, J, nb, (up.trans up3).trans up4, .inr (.inr (by rw [hs]; exact hh4)), na, os, ag, hno rfl⟩
      first
        | exact wpAny_bind (wpAny_pure (wpAny_bind fin))
        | exact wpAny_bind fin
  · cases f with
    | next =>
      obtain ⟨σ', H', J', q⟩ := hsp
      exact wpAny_execs_nil ⟨σ', H', J'.ofTry ok, q⟩
    | brk =>
      obtain ⟨σ', H', J', q⟩ := hsp
      exact ⟨σ', H', J'.ofTry ok, q⟩
    | cont =>
      obtain ⟨σ', H', J', q⟩ := hsp
      exact ⟨σ', H', J'.ofTry ok, q⟩
    | ret u =>
      obtain ⟨v, σ', H', J', r, q⟩ := hsp
      exact ⟨v, σ', H', J'.ofTry ok, r, q⟩
end

/-! ### what a lambda gives -/
/-- told: the def that hears: None, or the error -/
def TTheard (K : PySem.W.Frag) (CS : Addr) : (XK → Hp → VK → Prop) → Hp → VK → Prop := fun tl H Q =>
  tl (fun cls d H' => ∃ b, PySem.W.exmOne K cls (.ref CS) = some b ∧ (b = true → ∃ C dx, cls = .ref C ∧ d = some dx ∧ ∀ a, H' a = none → Q (.ref a) (upd H' a (exV a C dx))) ∧ (b = false → False)) H (fun _ H' => ∃ v, (some (some V.non) : Option (Option V)) = some (some v) ∧ Q v H')
abbrev heardB (e : Str) (j : Nat) (p1 p2 p3 p4 p5 p6 p7 p8 p9 p10 p11 p12 p13 p14 : Pos) : List Stmt := [.Assign [.Name "caught" p1] (.Constant .none j p2) p3, .Try [.Expr (.Call (.Name "call" p4) [] [] p5) p6] [.ExceptHandler (some (.Name e p7)) (some "error") [.Assign [.Name "caught" p8] (.Name "error" p9) p10] p11] [] [] p12, .Return (some (.Name "caught" p13)) p14]
theorem heard_gives {X : Cx} {x e q : Str} {sg : Scope} {g CS : Addr} {cdv : Value} {j : Nat} {p1 p2 p3 p4 p5 p6 p7 p8 p9 p10 p11 p12 p13 p14 : Pos} (hge : sg.names.lookup e = some .globalImplicit) (hme : X.mg e = some (.ref CS)) (hde : (e == ("__debug__" : Str)) = false)
    (h1 : sg.names.lookup ("caught" : Str) = some .local) (h2 : sg.names.lookup ("error" : Str) = some .local) :
    LamX.GivesTo X ["call", "caught", "error"] x sg g cdv (heardB e j p1 p2 p3 p4 p5 p6 p7 p8 p9 p10 p11 p12 p13 p14) "call" q (TTheard X.K CS) := by
  intro f c' s H Q tl act hc h
  have hgl : Gl (cxOf C8.CX0 X.prog X.w X.K X.mg X.base ["call", "caught", "error"] x sg g cdv X.A X.stack s H C8.E0).nox e := hge
  have nd : ((["call", "caught", "error"] : List Str)).Nodup := by decide +kernel
  refine ⟨_, pss_cons (ps_set (X := (cxOf C8.CX0 X.prog X.w X.K X.mg X.base ["call", "caught", "error"] x sg g cdv X.A X.stack s H C8.E0).nox) (i := 1) nd rfl (.inl h1) pe_non rfl (.inr h1)) (pss_cons (ps_try_held (X := (cxOf C8.CX0 X.prog X.w X.K X.mg X.base ["call", "caught", "error"] x sg g cdv X.A X.stack s H C8.E0).nox) (i := 2) (j := 1) (c := .ref CS) (Wout := fun _ _ _ _ => False)
      (tb := fun W D σ H => ∃ Ech : XK, (∀ cls d σ' H', Ech cls d H' → W cls d σ' H') ∧ σ[0]? = some (some (.ref f)) ∧ H c' = some (LamX.CodeO c' q) ∧ tl Ech H (fun _ H' => D.nx σ H'))
      rfl rfl rfl nd rfl h2 rfl h1 ⟨hgl, hde, .inl hme⟩ LamX.takes0 (fun W pn xe tk _ => ?_) (hil := fun σ h => by rw [h]; exact (by decide : 2 < 3))) (pss_one (ps_ret (pe_var (i := 1) rfl (.inl h1))))), ?_⟩
  · refine ⟨fun pins s' σ H' D I h' => ?_⟩
    obtain ⟨Ech, hW, h1', h2', h3⟩ := h'
    have hp := act W pn xe Ech p4 p5 tk hW
    have hq := pss_one (ps_expr (pos := p6) hp rfl)
    exact hq.run pins s' σ H' D I ⟨h1', h2', h3⟩
  · refine ⟨fun cls d H' => ∃ b, PySem.W.exmOne X.K cls (.ref CS) = some b ∧ (b = true → ∃ C dx, cls = .ref C ∧ d = some dx ∧ ∀ a, H' a = none → Q (.ref a) (upd H' a (exV a C dx))) ∧ (b = false → False), fun cls d σ' H' ⟨b, e1, e2, e3⟩ => ⟨b, e1, fun hb => ?_, fun hb => e3 hb⟩, rfl, hc, ?_⟩
    · obtain ⟨C, dx, a1, a2, a3⟩ := e2 hb
      refine ⟨C, dx, a1, a2, fun a ha hl => ⟨.ref a, ?_, a3 a ha⟩⟩
      match σ', hl with
      | [_, _, _], _ => rfl
    · exact h
variable [TL]
section
variable {X : Cx} {δ δ1 δ2 : List DV} {a e : Expr} {x : Str} {C CS : Addr} {d x0 : D} {p p1 p2 pos pos2 lpos : Pos} {F H H1 : Hp} {σ : L2.St}
theorem Rs.extN (R : Rs F H σ δ) (e : LamX.ExtN H H1) (T1 : LamX.Tabs TL.T H1) : Rs F H1 σ δ := by
  refine ⟨fun a o h => e a o (R.sub a o h) fun ps z => R.nt a ps (by rw [h, z]), R.len, fun i x h => ?_, R.ap, T1, R.nt⟩
  obtain ⟨o, q, k⟩ := R.at_ i x h
  refine ⟨o, q, ?_⟩
  cases x with
  | un => trivial
  | d x => exact k
  | raw v => exact k
  | pr P => exact k
  | ow xs =>
    obtain ⟨p, vs, k1, k2, k3, k4⟩ := k
    exact ⟨p, vs, k1, k2, e _ _ k3 (fun _ z => nomatch z), k4⟩
theorem Go.extN {O : Addr → Prop} (e : LamX.ExtN H H1) : Go O O F H F H1 :=
  ⟨.refl F, fun a o h _ nt => e a o h nt, fun _ _ h => .inl h, fun a h o q => Classical.byContradiction fun z => by
    have nt : ∀ ps, o ≠ .tbl ps := fun ps w => z ⟨ps, w⟩
    exact h.not (e a o q nt) nt, fun _ h => .inl h⟩
/-- an expression that lets an error out -/
def tDX (X : Cx) (δ : List DV) (C : Addr) (d : D) : TE := fun σ H _ => ∃ F, Rs F H σ δ ∧ ∀ dx v F' H', Go (Own σ δ) (Own σ δ) F H F' H' → Rs F' H' σ δ → XdAt F' dx [("value", v)] → Rp F' v d → Wx X (.ref C) (some dx) σ H'
abbrev DX (X : Cx) (δ : List DV) (e : Expr) (C : Addr) (d : D) : Prop := PE X e (tDX X δ C d)
theorem de_callX {k : Nat} {ps : List Str} {R : RelD} {RX : RelX} {es : List Expr} {as : List AV} (G : FD X.prog X.w X.K X.mg X.base k x ps R RX) (hr : Room k X.A) (hg : Gl X x) (ha : DA X δ (e :: es) as δ) (hn : AV.noSl as = true) (hR : RX (as.map (AV.dv δ)) C d)
    (hdb : (x == ("__debug__" : Str)) = false := by decide) (he : starEach (e :: es) X.env = (false, eval e X.env) :: starEach es X.env := by rfl) (hpl : (backTo pos (starEach es X.env)).any (·.1) = false := by rfl) : DX X δ (.Call (.Name x p1) (e :: es) [] pos) C d := by
  obtain ⟨f, fd, h1, h2, h3, h4⟩ := G.ex
  refine (pe_callS (E := WE (Wx X)) h1 hr hg h2 h3 h4 (fun σ => passAt (takes_wx X) σ) ha hdb he hpl).imp fun σ H Q ⟨F, Rf, k⟩ => ⟨F, Rf, fun vs F1 H1 g1 R1 ra => ?_⟩
  refine .inr ⟨_, C, d, hR, F1, ra.rs hn R1, fun dx v F2 H2 g2 R2 hxd hv => ?_⟩
  obtain ⟨g3, R3⟩ := Go.frame R1 g2 (fun a => ra.noOwn hn) R2.sub R2.tb R2.nt
  exact k dx v F2 H2 (g1.trans g3) R3 hxd hv
theorem ds_retX {pn : List Nat} (h : DX X δ e C d) : DS X pn δ (.Return (some e) pos) (.ex C d) := (ps_ret h).imp fun D σ H ⟨F, R, k⟩ => ⟨F, R, fun dx v F' H' g R' hxd hv => k dx v σ δ F' H' (aft_of g R') hxd hv⟩
theorem ds_exprX {pn : List Nat} (h : DX X δ e C d) (hs : swapsWith e none pos.line X.env = pure false := by rfl) : DS X pn δ (.Expr e pos) (.ex C d) := (ps_expr h hs).imp fun D σ H ⟨F, R, k⟩ => ⟨F, R, fun dx v F' H' g R' hxd hv => k dx v σ δ F' H' (aft_of g R') hxd hv⟩
theorem XdAt.ex {F F' : Hp} {dx : Addr} {fs : List (Str × V)} (e : Ex F F') (h : XdAt F dx fs) : XdAt F' dx fs := h.imp (e _ _) (e _ _)
/-- the def that hears, as it stands -/
structure HeardT (K : PySem.W.Frag) (mg : Str → Option Value) (x : Str) (CS : Addr) : Prop where
  ex : ∃ (g : Addr) (oc : Value) (od : Option Addr) (pg : Arguments) (sg : Scope) (dV kV doc pm cdv ct : Value) (an : Option Addr) (osl : Array (Option Value)) (e : Str) (j : Nat) (p1 p2 p3 p4 p5 p6 p7 p8 p9 p10 p11 p12 p13 p14 : Pos),
    mg x = some (.ref g) ∧ PySem.W.keepIn K (.ref g) = true ∧ K.lookup g = some ⟨oc, od, .func (PySem.W.fnOf x x pg (heardB e j p1 p2 p3 p4 p5 p6 p7 p8 p9 p10 p11 p12 p13 p14) sg dV kV doc pm an cdv ct), osl⟩ ∧ PySem.W.codeIn K cdv x = true ∧
    L2.Binds K (PySem.W.fnOf x x pg (heardB e j p1 p2 p3 p4 p5 p6 p7 p8 p9 p10 p11 p12 p13 p14) sg dV kV doc pm an cdv ct) ["call"] [] ∧ FnScope ["call", "caught", "error"] ["call"] sg ∧ Vis sg ("call" : Str) ∧
    sg.names.lookup e = some .globalImplicit ∧ mg e = some (.ref CS) ∧ (e == ("__debug__" : Str)) = false ∧ sg.names.lookup ("caught" : Str) = some .local ∧ sg.names.lookup ("error" : Str) = some .local
/-- the maker's table -/
structure LamT (X : Cx) : Prop where
  ex : ∃ c P, LamX.TabB X.base X.mg c P ∧ X.env.code = .ref c ∧ (P, X.env.qual ++ "<lambda>") ∈ TL.T ∧ ∀ p ∈ TL.T, p.1 = P → p.2 = X.env.qual ++ "<lambda>"
variable {params : Arguments} {body : Expr} {scope : Scope} {k : Nat}
/-- x(lambda: body), body lets an error out -/
theorem de_heardX (Hd : HeardT X.K X.mg x CS) (hg : Gl X x) (LT : LamT X) (hr : Room (k + 2) X.A) (L : LamX.LamS X.env.scope scope) (hk : PySem.W.exmOne X.K (.ref C) (.ref CS) = some true)
    (hbody : ∀ (A : Around) (outer : List Env) (s : Shared) (H : Hp) (E : XK) (f c' : Addr), Room k (A.deeper (LamX.lamEnv X scope s.heap.objs.size f c')) → DX (LamX.lamCx X A outer s H E scope f c') δ body C d)
    (hdef : defaultsOf params X.env = ([], []) := by rfl)
    (hbind : ∀ (q : Str) (cl : List (Str × Addr)) (pm cv ctv : Value), bindArgs (PySem.W.kla_fn "<lambda>" q params body scope cl pm cv ctv) ⟨[], []⟩ = pure [] := by intros; rfl)
    (hdb : (x == ("__debug__" : Str)) = false := by decide) :
    DE X δ (.Call (.Name x p) [.Lambda params body scope lpos] [] pos) (.d (.exc C d)) δ := by
  obtain ⟨g, oc, od, pg, sg, dV, kV, doc, pm, cdv, ct, an, osl, e, j, q1, q2, q3, q4, q5, q6, q7, q8, q9, q10, q11, q12, q13, q14, hm, hkp, lk, hcg, hb, Sg, hva, hge, hme, hde, h1, h2⟩ := Hd.ex
  obtain ⟨c, P, TB, hcode, hmT, hu⟩ := LT.ex
  refine (LamX.pe_lamcall (T := TL.T) (TT := TTheard X.K CS) (t := fun E => fun σ H _ => ∃ F, Rs F H σ δ ∧ ∀ dx v F' H', Go (Own σ δ) (Own σ δ) F H F' H' → Rs F' H' σ δ → XdAt F' dx [("value", v)] → Rp F' v d → E (.ref C) (some dx) H') hg hm hkp lk hcg hb Sg rfl hva (heard_gives hge hme hde h1 h2) TB hcode hmT hu hr L hdef hbind (fun A outer s H E f c' hr' => (hbody A outer s H E f c' hr').imp fun σ H Q ⟨F, R, k⟩ => ⟨F, R, fun dx v F' H' g R' hxd hv => Wx.of (takes_of rfl rfl rfl rfl) (k dx v F' H' g R' hxd hv)⟩) hdb).imp fun σ H Q ⟨F, R, k⟩ => ?_
  refine ⟨R.tb, fun H1 eN T1 => ⟨F, R.extN eN T1, fun dx v F' H' g' R' hxd hv => ⟨true, hk, fun _ => ⟨C, dx, rfl, rfl, fun a ha => ?_⟩, fun z => nomatch z⟩⟩⟩
  have hF : F' a = none := R'.sub.none ha
  exact k (.ref a) _ _ ((Go.extN eN).trans (g'.trans (Go.new_ ha hF))) (R'.new ha (fun _ z => by unfold exV at z; cases z)) (.exc upd_same (hxd.ex (.new hF)) (hv.ex (.new hF)))
/-- x(lambda: body), body comes back -/
theorem de_heardN (Hd : HeardT X.K X.mg x CS) (hg : Gl X x) (LT : LamT X) (hr : Room (k + 2) X.A) (L : LamX.LamS X.env.scope scope)
    (hbody : ∀ (A : Around) (outer : List Env) (s : Shared) (H : Hp) (E : XK) (f c' : Addr), Room k (A.deeper (LamX.lamEnv X scope s.heap.objs.size f c')) → DE (LamX.lamCx X A outer s H E scope f c') δ body (.d d) δ)
    (hdef : defaultsOf params X.env = ([], []) := by rfl)
    (hbind : ∀ (q : Str) (cl : List (Str × Addr)) (pm cv ctv : Value), bindArgs (PySem.W.kla_fn "<lambda>" q params body scope cl pm cv ctv) ⟨[], []⟩ = pure [] := by intros; rfl)
    (hdb : (x == ("__debug__" : Str)) = false := by decide) :
    DE X δ (.Call (.Name x p) [.Lambda params body scope lpos] [] pos) (.d .non) δ := by
  obtain ⟨g, oc, od, pg, sg, dV, kV, doc, pm, cdv, ct, an, osl, e, j, q1, q2, q3, q4, q5, q6, q7, q8, q9, q10, q11, q12, q13, q14, hm, hkp, lk, hcg, hb, Sg, hva, hge, hme, hde, h1, h2⟩ := Hd.ex
  obtain ⟨c, P, TB, hcode, hmT, hu⟩ := LT.ex
  refine (LamX.pe_lamcall (T := TL.T) (TT := TTheard X.K CS) (t := fun _ => tD δ (.d d) δ) hg hm hkp lk hcg hb Sg rfl hva (heard_gives hge hme hde h1 h2) TB hcode hmT hu hr L hdef hbind (fun A outer s H E f c' hr' => hbody A outer s H E f c' hr') hdb).imp fun σ H Q ⟨F, R, k⟩ => ?_
  refine ⟨R.tb, fun H1 eN T1 => ⟨F, R.extN eN T1, fun v F' H' g' R' _ => ?_⟩⟩
  exact ⟨.non, rfl, k .non F' H' ((Go.extN eN).trans g') R' .non⟩
end
end DL
end
section
set_option Elab.async false
set_option linter.all false
set_option maxRecDepth 100000
set_option maxHeartbeats 2000000
/-! DLz: repr of data (no guard stands around). -/
namespace DL
open PySem PySem.Spec PyProof.Rows L2
section
variable {P : Program} {w : World} {F H : Hp} {h : Heap}
mutual
theorem Rp.reads (hok : HOk P w H h) (e : Ex F H) : ∀ {d : D} {v : V} {u : Value}, d.ok = true → Rp F v d → RelV v u → ∃ as, Reads h u d.py as
  | .non, _, u, _, .non, r => by cases (show u = Value.none from r); exact ⟨_, .none⟩
  | .bl b, _, u, _, .bl _, r => by cases (show u = Value.bool b from r); exact ⟨_, .bool b⟩
  | .int i, _, u, _, .int _, r => by obtain ⟨t, rfl⟩ := (show ∃ t, u = Value.int i t from r); exact ⟨_, .int i t⟩
  | .str s, _, u, _, .str _, r => by obtain ⟨t, rfl⟩ := (show ∃ t, u = Value.str s t from r); exact ⟨_, .str s t⟩
  | .lst xs, _, u, k, @Rp.lst _ a vs _ h1 h2, r => by
    cases (show u = Value.ref a from r)
    obtain ⟨_, its, n, rv, ho⟩ := hok _ _ (e _ _ h1)
    obtain ⟨as, ra⟩ := RpA.reads hok e (by simpa [D.ok] using k) h2 rv
    exact ⟨_, .list ho rfl rfl ra⟩
  | .tup xs, _, u, k, @Rp.tup _ a vs _ h1 h2, r => by
    cases (show u = Value.ref a from r)
    obtain ⟨_, its, rv, o, ho, hc, n, hd⟩ := hok _ _ (e _ _ h1)
    obtain ⟨as, ra⟩ := RpA.reads hok e (by simpa [D.ok] using k) h2 rv
    exact ⟨_, .tuple ho hc hd ra⟩
  | .dct _ _, _, _, k, _, _ => by simp [D.ok] at k
  | .exc _ _, _, _, k, _, _ => by simp [D.ok] at k
  | .fn _, _, _, k, _, _ => by simp [D.ok] at k
theorem RpA.reads (hok : HOk P w H h) (e : Ex F H) : ∀ {ds : List D} {vs : List V} {us : List Value}, D.okA ds = true → RpA F vs ds → Vals vs us → ∃ as, ReadsAll h us (D.pyA ds) as
  | [], _, us, _, .nil, r => by cases r; exact ⟨_, .nil⟩
  | d :: ds, _, us, k, .cons q t, r => by
    cases r with
    | cons r1 r2 =>
    have k' := k
    simp only [D.okA, Bool.and_eq_true] at k'
    obtain ⟨as, a⟩ := Rp.reads hok e k'.1 q r1
    obtain ⟨bs, b⟩ := RpA.reads hok e k'.2 t r2
    exact ⟨_, .cons a b⟩
end
end
/-- data that is shown whole -/
structure D.Shows (d : D) : Prop where
  ok : d.ok = true
  dep : d.dep ≤ 64
  sh : d.py.showable = true
  len : d.py.shown.length ≤ sizeLine
def D.rep (d : D) : Str := d.py.shown
section
variable {X : Cx}
/-- repr's reading -/
def rRepr : List V → Hp → VK → Prop := fun xs H Q => ∃ (F : Hp) (v : V) (d : D), xs = [v] ∧ Ex F H ∧ Rp F v d ∧ (d.Shows ∨ d = .dct [] []) ∧ Q (.str d.rep) H
theorem call_reprD {k : Nat} (hg : X.A.guards = some []) (hr : Room k X.A) : CallR X (.builtin "repr") rRepr := by
  intro pins s σ H xs us Q I r h
  obtain ⟨F, v, d, rfl, ex, rp, hs, q⟩ := h
  have un := hr.un
  cases r with
  | cons r0 rn =>
  rename_i u us'
  cases rn
  have fin : ∀ (h' : Heap) (tk u : Nat), (∀ b o, s.heap.get? b = some o → h'.get? b = some o) → EP X pins σ Q (.str d.rep u) { s with heap := h', toks := tk } := fun h' tk u kk => ⟨.str d.rep, H, I.kept (t' := tk) kk, ⟨u, rfl⟩, q⟩
  rcases hs with hs | rfl
  · obtain ⟨as, rd⟩ := rp.reads I.hok ex hs.ok r0
    have hd : d.py.hasDict = false := PyData.hasDict_of_canLay _ (D.py_can _ hs.ok)
    cases rp with
    | non =>
      cases (show u = Value.none from r0)
      exact PySem.P.repr_of_none (fin _ _ _ fun _ _ z => z)
    | bl b =>
      cases (show u = Value.bool b from r0)
      exact PySem.P.repr_of_bool (fin _ _ _ fun _ _ z => z)
    | int i =>
      obtain ⟨t, rfl⟩ := (show ∃ t, u = Value.int i t from r0)
      have z := hs.sh
      exact PySem.P.repr_of_int (by simpa [D.py, PyData.showable] using z) (fin _ _ _ fun _ _ z => z)
    | str x =>
      obtain ⟨t, rfl⟩ := (show ∃ t, u = Value.str x t from r0)
      exact PySem.P.repr_of_str (fin _ _ _ fun _ _ z => z) (by have z := hs.len; simpa [D.py, PyData.shown] using z)
    | @lst a vs ds h1 h2 =>
      cases (show u = Value.ref a from r0)
      exact repr_of_reads' rd hs.sh (PyData.noDict_hsm hd) hg (by rw [D.py_dep _ hs.ok]; have := hs.dep; omega) (fun _ _ z => z) (fun h' u tk kk => fin h' tk u kk) hs.len
    | @tup a vs ds h1 h2 =>
      cases (show u = Value.ref a from r0)
      exact repr_of_reads' rd hs.sh (PyData.noDict_hsm hd) hg (by rw [D.py_dep _ hs.ok]; have := hs.dep; omega) (fun _ _ z => z) (fun h' u tk kk => fin h' tk u kk) hs.len
    | dct _ _ _ => have z := hs.ok; simp [D.ok] at z
    | exc _ _ _ => have z := hs.ok; simp [D.ok] at z
    | fn _ => have z := hs.ok; simp [D.ok] at z
  · cases rp with
    | @dct a kvs ds ks h1 h2 h3 =>
      cases (show u = Value.ref a from r0)
      have e0 : kvs = [] := by
        cases kvs with
        | nil => rfl
        | cons _ _ => cases h2
      subst e0
      obtain ⟨_, nsm, vs, rv, hdo⟩ := I.hok _ _ (ex _ _ h1)
      cases rv
      obtain ⟨o, es, ep, ho, he, hd, _, hes, _⟩ := hdo
      have e1 : es = #[] := by
        apply Array.toList_inj.mp
        generalize es.toList = l at hes
        cases hes
        rfl
      subst e1
      refine repr_of_reads' (d := .dict []) (as := _) (.dict ho (by exact he.1) hd .nil .nil) rfl (fun _ z => ?_) hg (by simp [PyData.depth, PyData.depthKv]; omega) (fun _ _ z => z) (fun h' u tk kk => fin h' tk u kk) (by decide +kernel)
      simp at z
      rw [← z] at nsm
      simp at nsm
end
variable [TL]
section
variable {X : Cx} {δ δ1 : List DV} {a : Expr} {x : D} {p1 pos : Pos} {k : Nat}
theorem de_repr (hG : X.A.guards = some []) (hr : Room k X.A) (hg : Gl X "repr") (hm : X.mg "repr" = none) (ha : DE X δ a (.d x) δ1) (hs : x.Shows ∨ x = .dct [] []) (he : starEach [a] X.env = (false, eval a X.env) :: starEach [] X.env := by rfl) : DE X δ (.Call (.Name "repr" p1) [a] [] pos) (.d (.str x.rep)) δ1 :=
  de_bi (call_reprD hG hr) hg hm (by decide +kernel) (da_cons ha da_nil he) (fun F H σ vs Q ex h k => by
    obtain ⟨v, rfl, rv⟩ := AVs.one h
    exact ⟨F, v, x, rfl, ex, rv, hs, k _ (.str _)⟩) (he := he)
end
end DL
end
section
set_option Elab.async false
set_option linter.all false
set_option maxRecDepth 100000
/-! DLv: the rules by the syntax alone; what they ask of the values stands behind. -/
namespace DL
open PySem PySem.Spec PyProof.Rows L2
variable [TL]

/-- as data -/
def frz : DV → DV
  | .ow xs => .d (.lst xs)
  | r => r
section
variable {X : Cx} {δ δ1 δ2 δ3 δ' : List DV} {a b c e : Expr} {x y z : D} {pos p1 p2 : Pos} {es : List Expr} {as : List AV} {r : DV}
theorem de_frzr (h : DE X δ e r δ') : DE X δ e (frz r) δ' := by
  cases r with
  | ow xs => exact de_frz h
  | _ => exact h
theorem de_fz {x : D} (h : DE X δ e r δ') (hr : frz r = .d x) : DE X δ e (.d x) δ' := hr ▸ de_frzr h
/-! ### names -/
theorem de_v (i : Nat) {n : Str} (hN : X.N[i]? = some n := by rfl) (hv : Vis X.env.scope n := by first | exact Or.inl rfl | exact Or.inr (Or.inl rfl) | exact Or.inr (Or.inr rfl)) (h : δ[i]? = some (.d x) := by rfl) (hd : (n == ("__debug__" : Str)) = false := by decide) (hcd : (n == ("__classdict__" : Str)) = false := by decide) : DE X δ (.Name n pos) (.d x) δ := de_var hN hv h hd hcd
theorem de_vp (i : Nat) {n : Str} {P : Hp → V → Prop} (hN : X.N[i]? = some n := by rfl) (hv : Vis X.env.scope n := by first | exact Or.inl rfl | exact Or.inr (Or.inl rfl) | exact Or.inr (Or.inr rfl)) (h : δ[i]? = some (.pr P) := by rfl) (hd : (n == ("__debug__" : Str)) = false := by decide) (hcd : (n == ("__classdict__" : Str)) = false := by decide) : DE X δ (.Name n pos) (.pr P) δ := de_pr hN hv h hd hcd
theorem de_vm (i : Nat) {n : Str} {xs : List D} (hN : X.N[i]? = some n := by rfl) (hv : Vis X.env.scope n := by first | exact Or.inl rfl | exact Or.inr (Or.inl rfl) | exact Or.inr (Or.inr rfl)) (h : δ[i]? = some (.ow xs) := by rfl) (hd : (n == ("__debug__" : Str)) = false := by decide) (hcd : (n == ("__classdict__" : Str)) = false := by decide) : DE X δ (.Name n pos) (.ow xs) (δ.set i .un) := de_mv hN hv h hd hcd
theorem da_o (i : Nat) {n : Str} {xs : List D} (hr : DA X δ es as δ2) (hN : X.N[i]? = some n := by rfl) (hv : Vis X.env.scope n := by first | exact Or.inl rfl | exact Or.inr (Or.inl rfl) | exact Or.inr (Or.inr rfl)) (h : δ[i]? = some (.ow xs) := by rfl) (hs : starEach (.Name n pos :: es) X.env = (false, eval (.Name n pos) X.env) :: starEach es X.env := by rfl)
    (hd : (n == ("__debug__" : Str)) = false := by decide) (hcd : (n == ("__classdict__" : Str)) = false := by decide) : DA X δ (.Name n pos :: es) (.sl i :: as) δ2 := da_sl hN hv h hr hs hd hcd
/-! ### a + b, a * b -/
inductive AddOk : D → D → DV → Prop where
  | int (i j : Int) : AddOk (.int i) (.int j) (.d (.int (i + j)))
  | str {s t : Str} (h : s.length + t.length ≤ sizeLine) : AddOk (.str s) (.str t) (.d (.str (s ++ t)))
  | lst {xs ys : List D} (h : xs.length + ys.length ≤ sizeLine) : AddOk (.lst xs) (.lst ys) (.ow (xs ++ ys))
  | tup {xs ys : List D} (h : xs.length + ys.length ≤ sizeLine) (hx : xs ≠ []) (hy : ys ≠ []) : AddOk (.tup xs) (.tup ys) (.d (.tup (xs ++ ys)))
theorem de_addR (ha : DE X δ a (.d x) δ1) (hb : DE X δ1 b (.d y) δ2) (h : AddOk x y r) : DE X δ (.BinOp a .Add b pos) r δ2 := by
  cases h with
  | int => exact de_add ha hb
  | str h => exact de_addS ha hb h
  | lst h => exact de_cat ha hb h
  | tup h hx hy => exact de_catT ha hb h hx hy
inductive MulOk : D → D → DV → Prop where
  | int {i j : Int} (h : CMul i j) : MulOk (.int i) (.int j) (.d (.int (i * j)))
  | intW {i j : Int} (h : CMulW i j) : MulOk (.int i) (.int j) (.d (.int (i * j)))
  | lst {xs : List D} {k : Int} (h1 : -(2 ^ 63) ≤ k) (h2 : k < 2 ^ 63) (h3 : xs.length * k.toNat ≤ sizeLine) : MulOk (.lst xs) (.int k) (.ow (List.replicate k.toNat xs).flatten)
theorem de_mulR (ha : DE X δ a (.d x) δ1) (hb : DE X δ1 b (.d y) δ2) (h : MulOk x y r) : DE X δ (.BinOp a .Mult b pos) r δ2 := by
  cases h with
  | int h => exact de_mul ha hb h
  | intW h => exact de_mulW ha hb h
  | lst h1 h2 h3 => exact de_rep ha hb h1 h2 h3
/-! ### subscripts -/
inductive IxOk : D → Int → D → Prop where
  | lst {xs : List D} {i : Int} {d : D} (h : L2.atI xs i = some d) : IxOk (.lst xs) i d
  | tup {xs : List D} {i : Int} {d : D} (h : L2.atI xs i = some d) : IxOk (.tup xs) i d
theorem de_ixR {i : Int} (ha : DE X δ a (.d x) δ1) (hb : DE X δ1 b (.d (.int i)) δ2) (h : IxOk x i z) (hp : PlainIx b := by exact fun _ _ => rfl) : DE X δ (.Subscript a b pos) (.d z) δ2 := by
  cases h with
  | lst h => exact de_ixL ha hb h hp
  | tup h => exact de_ixT ha hb h hp
theorem de_ixo (i : Nat) {n : Str} {xs : List D} {j : Int} (hb : DE X δ b (.d (.int j)) δ) (hi : L2.atI xs j = some z) (hN : X.N[i]? = some n := by rfl) (hv : Vis X.env.scope n := by first | exact Or.inl rfl | exact Or.inr (Or.inl rfl) | exact Or.inr (Or.inr rfl)) (h : δ[i]? = some (.ow xs) := by rfl) (hp : PlainIx b := by exact fun _ _ => rfl) (hd : (n == ("__debug__" : Str)) = false := by decide) (hcd : (n == ("__classdict__" : Str)) = false := by decide) :
    DE X δ (.Subscript (.Name n p2) b pos) (.d z) δ := de_ixO hN hv hb h hi ⟨xs, h⟩ hp hd hcd
/-! ### and, or -/
/-- True and e, False and e -/
def andD (p q : Bool) : D := .bl (p && q)
theorem de_not' {p : Bool} (ha : DE X δ a (.d (.bl p)) δ1) : DE X δ (.UnaryOp .Not a pos) (.d (.bl (!p))) δ1 := de_not ha
end
end DL
end
section
set_option Elab.async false
set_option linter.all false
set_option maxRecDepth 100000
set_option maxHeartbeats 2000000
/-! DLw: comprehensions over data by a function; pairs stored; keyword calls; a list of one's own lent. -/
namespace DL
open PySem PySem.Spec PyProof.Rows L2
variable [TL]
/-! ### comprehensions -/
theorem unw_one {δ : List DV} {i : Nat} (h : δ[i]? = some .un) : unw δ (δ.set i .un) [i] = δ := by
  refine List.ext_getElem? fun k => ?_
  unfold unw
  rw [List.getElem?_mapIdx]
  by_cases z : k = i
  · subst z
    have hl : k < δ.length := (List.getElem?_eq_some_iff.mp h).1
    rw [List.getElem?_set_self hl, h]
    simp [List.getD_eq_getElem?_getD, h]
  · rw [List.getElem?_set_ne (Ne.symm z)]
    cases e : δ[k]? with
    | none => rfl
    | some x => simp [z]
theorem unw_two {δ : List DV} {i j : Nat} (h : δ[i]? = some .un) (h2 : δ[j]? = some .un) : unw δ ((δ.set i .un).set j .un) [i, j] = δ := by
  refine List.ext_getElem? fun k => ?_
  unfold unw
  rw [List.getElem?_mapIdx]
  have hl : i < δ.length := (List.getElem?_eq_some_iff.mp h).1
  have hl2 : j < δ.length := (List.getElem?_eq_some_iff.mp h2).1
  by_cases z : k = i
  · subst z
    by_cases w : j = k
    · subst w
      rw [List.getElem?_set_self (by rw [List.length_set]; exact hl), h]
      simp [List.getD_eq_getElem?_getD, h]
    · rw [List.getElem?_set_ne w, List.getElem?_set_self hl, h]
      simp [List.getD_eq_getElem?_getD, h]
  · by_cases w : k = j
    · subst w
      rw [List.getElem?_set_self (by rw [List.length_set]; exact hl2), h2]
      simp [List.getD_eq_getElem?_getD, h2]
    · rw [List.getElem?_set_ne (Ne.symm w), List.getElem?_set_ne (Ne.symm z)]
      cases e : δ[k]? with
      | none => rfl
      | some x => simp [z, w]
theorem took_map {items : List D} (f : D → D) : took (fun _ => true) (fun j => f (items.getD j .non)) items.length = items.map f := by
  have key : ∀ n, n ≤ items.length → took (fun _ => true) (fun j => f (items.getD j .non)) n = (items.take n).map f := fun n => by
    induction n with
    | zero => intro _; simp [took]
    | succ n ih =>
      intro hn
      rw [took_succ, ih (by omega), List.take_add_one, List.map_append]
      have e : items[n]? = some (items[n]'(by omega)) := List.getElem?_eq_getElem (by omega)
      rw [List.getD_eq_getElem?_getD, e]
      simp
  rw [key _ (Nat.le_refl _), List.take_length]
theorem took_fmap {items : List D} (p : D → Bool) (f : D → D) : took (fun j => p (items.getD j .non)) (fun j => f (items.getD j .non)) items.length = (items.filter p).map f := by
  have key : ∀ n, n ≤ items.length → took (fun j => p (items.getD j .non)) (fun j => f (items.getD j .non)) n = ((items.take n).filter p).map f := fun n => by
    induction n with
    | zero => intro _; simp [took]
    | succ n ih =>
      intro hn
      have e : items[n]? = some (items[n]'(by omega)) := List.getElem?_eq_getElem (by omega)
      rw [took_succ, ih (by omega), List.take_add_one, List.filter_append, List.map_append]
      simp only [List.getD_eq_getElem?_getD, e, Option.getD_some, Option.toList_some, List.filter_cons, List.filter_nil]
      split <;> simp
  rw [key _ (Nat.le_refl _), List.take_length]
theorem getD_of {items : List D} {j : Nat} {d : D} (h : items[j]? = some d) : items.getD j .non = d := by rw [List.getD_eq_getElem?_getD, h]; rfl
section
variable {X : Cx} {δ δ1 : List DV} {elt iter c : Expr} {scope : Scope} {n m : Str} {p q pos p2 : Pos} {items : List D} {i j : Nat} {f : D → D}
/-- [elt for n in iter] -/
theorem de_lcM (i : Nat) (hc : X.calm = true) (hN : X.N.Nodup) (hi : DI X δ (.Name n p) iter items δ1) (ok : BlkOk X.N X.env.scope scope [(n, i)]) (hX : X.N[i]? = some n) (hu : δ1[i]? = some .un) (hloc : ∀ (s : Shared) (H : Hp) (C : Addr) (cl : List (Str × Addr)) (fp : List Addr), Loc (X.blk s H scope (compEnvC scope cl C X.env) fp).env.scope n)
    (hfl : ∀ (s : Shared) (H : Hp) (C : Addr) (cl : List (Str × Addr)) (fp : List Addr), (X.blk s H scope (compEnvC scope cl C X.env) fp).fn n = true ∨ (X.blk s H scope (compEnvC scope cl C X.env) fp).env.scope.names.lookup n = some .local)
    (he : ∀ (s : Shared) (H : Hp) (C : Addr) (cl : List (Str × Addr)) (fp : List Addr) (d : D), d ∈ items → DE (X.blk s H scope (compEnvC scope cl C X.env) fp) (δ1.set i (.d d)) elt (.d (f d)) (δ1.set i (.d d)))
    (hsz : items.length < sizeLine) (hs : ∀ x, foldedSetIterable iter X.env x = pure x := by intro _; rfl) :
    DE X δ (.ListComp elt [⟨.Name n p, iter, [], 0⟩] scope pos) (.ow (items.map f)) δ1 := by
  rw [← took_map f]
  have hil : i < δ1.length := (List.getElem?_eq_some_iff.mp hu).1
  refine de_lc_ (own := [(n, i)]) hc hN hi ok (fun _ => δ1.set i .un) (fun j => δ1.set i (.d (items.getD j .non))) (fun j => δ1.set i (.d (items.getD j .non))) (fun j => δ1.set i (.d (items.getD j .non))) (fun _ => true) (fun j => f (items.getD j .non)) rfl (fun j => by rw [List.length_set])
    (fun s H C cl fp j d e => ?_) (fun s H C cl fp j d e => pts_yes) (fun s H C cl fp j d e _ => ?_) (fun j _ => ?_) hsz (fun v hv xs => ?_) (unw_one hu) hs
  · have := dg_name (X := X.blk s H scope (compEnvC scope cl C X.env) fp) (pn := pnv δ1.length [i]) (δ := δ1.set i .un) (x := d) (pos := p) hN hX (hloc s H C cl fp) (fun z => by have := (mem_pnv.mp z).2; simp at this) (hfl s H C cl fp)
    rw [List.set_set] at this
    rw [getD_of e]
    exact this
  · rw [getD_of e]
    exact he s H C cl fp d (List.mem_of_getElem? e)
  · show (δ1.set i _).set i .un = _
    rw [List.set_set]
  · rw [List.mem_singleton.mp hv, hu]; exact fun h => nomatch (Option.some.inj h)
/-- [elt for n in iter if c] -/
theorem de_lcF (i : Nat) (pr : D → Bool) (hc : X.calm = true) (hN : X.N.Nodup) (hi : DI X δ (.Name n p) iter items δ1) (ok : BlkOk X.N X.env.scope scope [(n, i)]) (hX : X.N[i]? = some n) (hu : δ1[i]? = some .un) (hloc : ∀ (s : Shared) (H : Hp) (C : Addr) (cl : List (Str × Addr)) (fp : List Addr), Loc (X.blk s H scope (compEnvC scope cl C X.env) fp).env.scope n)
    (hfl : ∀ (s : Shared) (H : Hp) (C : Addr) (cl : List (Str × Addr)) (fp : List Addr), (X.blk s H scope (compEnvC scope cl C X.env) fp).fn n = true ∨ (X.blk s H scope (compEnvC scope cl C X.env) fp).env.scope.names.lookup n = some .local)
    (ht : ∀ (s : Shared) (H : Hp) (C : Addr) (cl : List (Str × Addr)) (fp : List Addr) (d : D), d ∈ items → DT (X.blk s H scope (compEnvC scope cl C X.env) fp) (δ1.set i (.d d)) c (pr d) (δ1.set i (.d d)))
    (he : ∀ (s : Shared) (H : Hp) (C : Addr) (cl : List (Str × Addr)) (fp : List Addr) (d : D), d ∈ items → pr d = true → DE (X.blk s H scope (compEnvC scope cl C X.env) fp) (δ1.set i (.d d)) elt (.d (f d)) (δ1.set i (.d d)))
    (hsz : items.length < sizeLine) (hs : ∀ x, foldedSetIterable iter X.env x = pure x := by intro _; rfl) :
    DE X δ (.ListComp elt [⟨.Name n p, iter, [c], 0⟩] scope pos) (.ow ((items.filter pr).map f)) δ1 := by
  rw [← took_fmap pr f]
  have hil : i < δ1.length := (List.getElem?_eq_some_iff.mp hu).1
  refine de_lc_ (own := [(n, i)]) hc hN hi ok (fun _ => δ1.set i .un) (fun j => δ1.set i (.d (items.getD j .non))) (fun j => δ1.set i (.d (items.getD j .non))) (fun j => δ1.set i (.d (items.getD j .non))) (fun j => pr (items.getD j .non)) (fun j => f (items.getD j .non)) rfl (fun j => by rw [List.length_set])
    (fun s H C cl fp j d e => ?_) (fun s H C cl fp j d e => ?_) (fun s H C cl fp j d e hb => ?_) (fun j _ => ?_) hsz (fun v hv xs => ?_) (unw_one hu) hs
  · have := dg_name (X := X.blk s H scope (compEnvC scope cl C X.env) fp) (pn := pnv δ1.length [i]) (δ := δ1.set i .un) (x := d) (pos := p) hN hX (hloc s H C cl fp) (fun z => by have := (mem_pnv.mp z).2; simp at this) (hfl s H C cl fp)
    rw [List.set_set] at this
    rw [getD_of e]
    exact this
  · rw [getD_of e]
    exact pts_of (ht s H C cl fp d (List.mem_of_getElem? e))
  · rw [getD_of e] at hb ⊢
    exact he s H C cl fp d (List.mem_of_getElem? e) hb
  · have ee : (if pr (items.getD j .non) = true then δ1.set i (.d (items.getD j .non)) else δ1.set i (.d (items.getD j .non))) = δ1.set i (.d (items.getD j .non)) := by split <;> rfl
    rw [ee]
    show (δ1.set i _).set i .un = _
    rw [List.set_set]
  · rw [List.mem_singleton.mp hv, hu]; exact fun h => nomatch (Option.some.inj h)
/-- [elt for n, m in iter], pairs -/
theorem de_lcZ {kk : Nat} {ps : List (D × D)} {g : D → D → D} (i j : Nat) (hij : i ≠ j) (hc : X.calm = true) (hN : X.N.Nodup) (hi : DI X δ (.Tuple [.Name n p, .Name m q] kk p2) iter (ps.map fun x => .tup [x.1, x.2]) δ1) (ok : BlkOk X.N X.env.scope scope [(n, i), (m, j)]) (hX : X.N[i]? = some n) (hX2 : X.N[j]? = some m) (hu : δ1[i]? = some .un) (hu2 : δ1[j]? = some .un)
    (hloc : ∀ (s : Shared) (H : Hp) (C : Addr) (cl : List (Str × Addr)) (fp : List Addr), Loc (X.blk s H scope (compEnvC scope cl C X.env) fp).env.scope n ∧ Loc (X.blk s H scope (compEnvC scope cl C X.env) fp).env.scope m)
    (hfl : ∀ (s : Shared) (H : Hp) (C : Addr) (cl : List (Str × Addr)) (fp : List Addr), ((X.blk s H scope (compEnvC scope cl C X.env) fp).fn n = true ∨ (X.blk s H scope (compEnvC scope cl C X.env) fp).env.scope.names.lookup n = some .local) ∧ ((X.blk s H scope (compEnvC scope cl C X.env) fp).fn m = true ∨ (X.blk s H scope (compEnvC scope cl C X.env) fp).env.scope.names.lookup m = some .local))
    (he : ∀ (s : Shared) (H : Hp) (C : Addr) (cl : List (Str × Addr)) (fp : List Addr) (x y : D), (x, y) ∈ ps → DE (X.blk s H scope (compEnvC scope cl C X.env) fp) ((δ1.set i (.d x)).set j (.d y)) elt (.d (g x y)) ((δ1.set i (.d x)).set j (.d y)))
    (hsz : ps.length < sizeLine) (hs : ∀ x, foldedSetIterable iter X.env x = pure x := by intro _; rfl) :
    DE X δ (.ListComp elt [⟨.Tuple [.Name n p, .Name m q] kk p2, iter, [], 0⟩] scope pos) (.ow (ps.map fun x => g x.1 x.2)) δ1 := by
  obtain ⟨gt, hgt⟩ : ∃ gt : D → D, ∀ x y, gt (.tup [x, y]) = g x y := ⟨fun t => match t with | .tup [x, y] => g x y | _ => .non, fun _ _ => rfl⟩
  have e1 : (ps.map fun x => g x.1 x.2) = (ps.map fun x => D.tup [x.1, x.2]).map gt := by rw [List.map_map]; exact List.map_congr_left fun x _ => (hgt _ _).symm
  rw [e1, ← took_map gt]
  have hil : i < δ1.length := (List.getElem?_eq_some_iff.mp hu).1
  have hjl : j < δ1.length := (List.getElem?_eq_some_iff.mp hu2).1
  let it : List D := ps.map fun x => D.tup [x.1, x.2]
  have at_ : ∀ {k : Nat} {d : D}, it[k]? = some d → ∃ x y, (x, y) ∈ ps ∧ d = .tup [x, y] ∧ ps.getD k (.non, .non) = (x, y) := fun {k d} e => by
    rw [List.getElem?_map] at e
    obtain ⟨⟨x, y⟩, h1, h2⟩ := Option.map_eq_some_iff.mp e
    exact ⟨x, y, List.mem_of_getElem? h1, h2.symm, by rw [List.getD_eq_getElem?_getD, h1]; rfl⟩
  refine de_lc_ (own := [(n, i), (m, j)]) (items := it) hc hN hi ok (fun _ => (δ1.set j .un).set i .un) (fun k => (δ1.set i (.d (ps.getD k (.non, .non)).1)).set j (.d (ps.getD k (.non, .non)).2)) (fun k => (δ1.set i (.d (ps.getD k (.non, .non)).1)).set j (.d (ps.getD k (.non, .non)).2)) (fun k => (δ1.set i (.d (ps.getD k (.non, .non)).1)).set j (.d (ps.getD k (.non, .non)).2)) (fun _ => true) (fun k => gt (it.getD k .non)) rfl (fun k => by rw [List.length_set, List.length_set])
    (fun s H C cl fp k d e => ?_) (fun s H C cl fp k d e => pts_yes) (fun s H C cl fp k d e _ => ?_) (fun k _ => ?_) (by rw [List.length_map]; exact hsz) (fun v hv xs => ?_) ?_ hs
  · obtain ⟨x, y, hm, rfl, ep⟩ := at_ e
    have := dg_two (X := X.blk s H scope (compEnvC scope cl C X.env) fp) (pn := pnv δ1.length [i, j]) (δ := (δ1.set j .un).set i .un) (x := x) (y := y) (pos := p2) (p1 := p) (p2 := q) (kk := kk) hc hN hX (hloc s H C cl fp).1 hX2 (hloc s H C cl fp).2 (fun z => by have := (mem_pnv.mp z).2; simp at this) (fun z => by have := (mem_pnv.mp z).2; simp at this) (hfl s H C cl fp).1 (hfl s H C cl fp).2
    have e2 : ((((δ1.set j .un).set i .un).set i (.d x)).set j (.d y)) = (δ1.set i (.d x)).set j (.d y) := by
      rw [List.set_set, List.set_comm _ _ (Ne.symm hij), List.set_set]
    rw [e2] at this
    rw [ep]
    exact this
  · obtain ⟨x, y, hm, rfl, ep⟩ := at_ e
    rw [ep, getD_of e, hgt]
    exact he s H C cl fp x y hm
  · show (((δ1.set i _).set j _).set j .un).set i .un = _
    rw [List.set_set, List.set_comm _ _ (Ne.symm hij), List.set_set, List.set_comm _ _ hij]
  · rcases List.mem_cons.mp hv with z | z
    · rw [z]; show δ1[i]? ≠ _; rw [hu]; exact fun h => nomatch (Option.some.inj h)
    · rw [List.mem_singleton.mp z]; show δ1[j]? ≠ _; rw [hu2]; exact fun h => nomatch (Option.some.inj h)
  · show unw δ1 ((δ1.set j .un).set i .un) [i, j] = δ1
    rw [List.set_comm _ _ (Ne.symm hij)]
    exact unw_two hu hu2
end
end DL
end
section
set_option Elab.async false
set_option linter.all false
set_option maxRecDepth 100000
set_option maxHeartbeats 2000000
/-! DLu: pairs stored; keyword calls; a list of one's own lent. -/
namespace DL
open PySem PySem.Spec PyProof.Rows L2
variable [TL]
section
variable {X : Cx} {pn : List Nat} {δ δ1 δ2 δ3 : List DV} {a b c e : Expr} {x y z r : D} {ra rb : DV} {pos p1 p2 px py pz pt pt2 : Pos} {kt k2 : Nat} {i j l : Nat} {n m o : Str} {σ : L2.St} {F H : Hp}
/-- a result stays through what comes behind it -/
theorem Res.on {O O1 O2 : Addr → Prop} {F H F1 H1 F2 H2 : Hp} {v : V} {ra : DV} (r : Res F1 H1 O H O1 v ra) (g : Go O1 O2 F1 H1 F2 H2) : Res F2 H2 O H O2 v ra := by
  cases ra with
  | un => trivial
  | d x => exact Rp.ex g.ff r
  | raw w => exact r
  | pr P => exact fun F3 e => r F3 (g.ff.trans e)
  | ow xs =>
    obtain ⟨p, vs, e, h1, h2, h3, h4, h5⟩ := r
    refine ⟨p, vs, e, ?_, g.keep p _ h2 h4 (fun _ h => nomatch h), h3.ex g.ff, fun z => (g.own p z).elim h4 fun q => q.lst h2, h5⟩
    cases q : F2 p with
    | none => rfl
    | some o =>
      rcases g.new p o q with w | w | w
      · rw [h1] at w; cases w
      · exact (w.lst h2).elim
      · exact absurd w h4
/-- a result stored -/
theorem aft_store {F1 H1 : Hp} {v : V} (hu : ra ≠ .un) (g : Go (Own σ δ) (Own σ δ1) F H F1 H1) (R1 : Rs F1 H1 σ δ1) (r : Res F1 H1 (Own σ δ) H (Own σ δ1) v ra) (hp : i ∉ pn) : Aft pn σ δ F H (σ.set i (some v)) (δ1.set i ra) F1 H1 := by
  cases ra with
  | un => exact absurd rfl hu
  | d x => exact (aft_of g R1).trans (Aft.set_ R1 (fun _ h => nomatch h) ⟨v, rfl, r⟩ hp)
  | raw w => exact (aft_of g R1).trans (Aft.set_ R1 (fun _ h => nomatch h) (congrArg some (show v = w from r)) hp)
  | pr P => exact (aft_of g R1).trans (Aft.set_ R1 (fun _ h => nomatch h) ⟨v, rfl, r⟩ hp)
  | ow xs => exact aft_setO g R1 r hp
/-- n, m = a, b -/
theorem ds_par2 (hua : ra ≠ .un) (hub : rb ≠ .un) (hc : X.calm = true) (hN : X.N.Nodup) (hi : X.N[i]? = some n) (hj : X.N[j]? = some m) (hij : i ≠ j) (hx : X.env.scope.names.lookup n = some .local) (hy : X.env.scope.names.lookup m = some .local) (hp : i ∉ pn) (hq : j ∉ pn)
    (ha : DE X δ a ra δ1) (hb : DE X δ1 b rb δ2)
    (hw : swappedStores [.Tuple [.Name n px, .Name m py] kt pt] (.Tuple [a, b] k2 pt2) X.env = pure (some [n, m]))
    (hs : swapsWithSole [.Tuple [.Name n px, .Name m py] kt pt] (.Tuple [a, b] k2 pt2) pos.line X.env = pure false := by rfl)
    (hs1 : starEach [a, b] X.env = (false, eval a X.env) :: starEach [b] X.env := by rfl) (hs2 : starEach [b] X.env = (false, eval b X.env) :: starEach [] X.env := by rfl) :
    DS X pn δ (.Assign [.Tuple [.Name n px, .Name m py] kt pt] (.Tuple [a, b] k2 pt2) pos) (.nx ((δ2.set i ra).set j rb)) := by
  refine (ps_par hc hN hi hj hij hx hy (pa_cons ha (pa_cons hb pa_nil hs2) hs1) hw hs).imp fun D σ H ⟨F, R, k⟩ => ⟨F, R, fun v F1 H1 g1 R1 r1 => ⟨F1, R1, fun w F2 H2 g2 R2 r2 => ⟨v, w, rfl, ?_⟩⟩⟩
  have A1 : Aft pn σ δ F H (σ.set i (some v)) (δ2.set i ra) F2 H2 := aft_store hua (g1.trans g2) R2 (Res.on (F := F) r1 g2) hp
  have r2' : Res F2 H2 (Own (σ.set i (some v)) (δ2.set i ra)) H2 (Own (σ.set i (some v)) (δ2.set i ra)) w rb ∨ True := .inr trivial
  -- the second, told from the first's store
  have A2 : Aft pn σ δ F H ((σ.set i (some v)).set j (some w)) ((δ2.set i ra).set j rb) F2 H2 := by
    cases rb with
    | un => exact absurd rfl hub
    | d x => exact A1.trans (Aft.set_ A1.rs (fun _ h => nomatch h) ⟨w, rfl, r2⟩ hq)
    | raw u => exact A1.trans (Aft.set_ A1.rs (fun _ h => nomatch h) (congrArg some (show w = u from r2)) hq)
    | pr P => exact A1.trans (Aft.set_ A1.rs (fun _ h => nomatch h) ⟨w, rfl, r2⟩ hq)
    | ow xs =>
      obtain ⟨p, vs, rfl, h1, h2, h3, h4, h5⟩ := r2
      have no : ¬ Own (σ.set i (some v)) (δ2.set i ra) p := fun z => by
        cases ra with
        | ow ys =>
          obtain ⟨q, us, rfl, k1, k2, k3, k4, k5⟩ := r1
          rcases own_setO z with z | z
          · subst z
            rcases h5 with h5 | h5
            · exact h5.lst k2
            · exact k4 h5
          · exact h4 z
        | un => exact absurd rfl hua
        | d x => exact h4 (own_set (x := .d x) (fun _ h => nomatch h) z)
        | raw x => exact h4 (own_set (x := .raw x) (fun _ h => nomatch h) z)
        | pr x => exact h4 (own_set (x := .pr x) (fun _ h => nomatch h) z)
      have h5' : Fre H p ∨ Own σ δ p := by
        rcases h5 with h5 | h5
        · exact .inl (g1.there p h5)
        · exact (g1.own p h5).elim .inr .inl
      refine ⟨⟨A1.go.ff, A1.go.keep, A1.go.new, A1.go.there, fun q hq' => ?_⟩, A1.rs.setO h1 h2 h3 no, fun k hk => by rw [List.getElem?_set_ne (by rintro rfl; exact hq hk)]; exact A1.pin k hk⟩
      rcases own_setO hq' with rfl | z
      · exact h5'.elim .inr .inl
      · exact A1.go.own q z
  exact k _ F2 H2 A2
/-- n, m, o = a, b, c: data -/
theorem ds_par3 (hc : X.calm = true) (hN : X.N.Nodup) (hi : X.N[i]? = some n) (hj : X.N[j]? = some m) (hl : X.N[l]? = some o) (hij : i ≠ j) (hil : i ≠ l) (hjl : j ≠ l)
    (hx : X.env.scope.names.lookup n = some .local) (hy : X.env.scope.names.lookup m = some .local) (hz : X.env.scope.names.lookup o = some .local) (hp : i ∉ pn) (hq : j ∉ pn) (hr : l ∉ pn)
    (ha : DA X δ [a, b, c] [.d x, .d y, .d z] δ1)
    (hw : swappedStores [.Tuple [.Name n px, .Name m py, .Name o pz] kt pt] (.Tuple [a, b, c] k2 pt2) X.env = pure (some [n, m, o]))
    (hs : swapsWithSole [.Tuple [.Name n px, .Name m py, .Name o pz] kt pt] (.Tuple [a, b, c] k2 pt2) pos.line X.env = pure false := by rfl) :
    DS X pn δ (.Assign [.Tuple [.Name n px, .Name m py, .Name o pz] kt pt] (.Tuple [a, b, c] k2 pt2) pos) (.nx (((δ1.set i (.d x)).set j (.d y)).set l (.d z))) := by
  refine (ps_par3 hc hN hi hj hl hij hil hjl hx hy hz ha hw hs).imp fun D σ H ⟨F, R, k⟩ => ⟨F, R, fun vs F1 H1 g1 R1 r1 => ?_⟩
  cases r1 with
  | cons u r1 =>
  cases r1 with
  | cons v r1 =>
  cases r1 with
  | cons w r1 =>
  cases r1
  refine ⟨_, _, _, rfl, k _ F1 H1 ?_⟩
  have A1 := (aft_of (pn := pn) g1 R1).trans (Aft.set_ (i := i) R1 (x := .d x) (fun _ h => nomatch h) ⟨_, rfl, u⟩ hp)
  have A2 := A1.trans (Aft.set_ (i := j) A1.rs (x := .d y) (fun _ h => nomatch h) ⟨_, rfl, v⟩ hq)
  exact A2.trans (Aft.set_ (i := l) A2.rs (x := .d z) (fun _ h => nomatch h) ⟨_, rfl, w⟩ hr)
end
section
variable {X : Cx} {δ δ1 : List DV} {e : Expr} {x nm : Str} {p p1 pos kpos : Pos} {d : D} {r : DV}
/-- a def as it is called by its one parameter's name -/
structure FDk (P : Program) (w : World) (K : PySem.W.Frag) (mg : Str → Option Value) (base : Heap) (k : Nat) (x nm : Str) (R : RelD) (RX : RelX) : Prop where
  ex : ∃ f fd, FnOk P w K mg base (L2.CX P w) k f fd [nm] (spD R RX) ∧ mg x = some (.ref f) ∧ PySem.W.keepIn K (.ref f) = true ∧ ∀ w, bindArgs fd ⟨[], [(nm, w)]⟩ = pure [(nm, w)]
/-- f(nm = e) -/
theorem de_callK1 {k : Nat} {R : RelD} {RX : RelX} (G : FDk X.prog X.w X.K X.mg X.base k x nm R RX) (hr : Room k X.A) (hg : Gl X x) (he : DE X δ e (.d d) δ1) (hR : R [.d d] r [.d d])
    (hdb : (x == ("__debug__" : Str)) = false := by decide) (hall : (backToKw pos (keywordEach [⟨some nm, e, kpos⟩] X.env)).all (·.1.isSome) = true := by rfl) (hks : (backToKw pos (keywordEach [⟨some nm, e, kpos⟩] X.env)).filterMap (·.1) = [nm] := by rfl)
    (hpl : ((backTo pos (starEach [] X.env)).any (·.1) || (backToKw pos (keywordEach [⟨some nm, e, kpos⟩] X.env)).any (·.1.isNone)) = false := by rfl) :
    DE X δ (.Call (.Name x p1) [] [⟨some nm, e, kpos⟩] pos) r δ1 := by
  obtain ⟨f, fd, h1, h2, h3, hbb⟩ := G.ex
  refine ⟨fun pins s σ H Q I ⟨F, Rf, k⟩ => ?_⟩
  refine wpAny_Call_Name_kw (ld_glob I hg h2 ?_ hdb)
  refine PySem.W.callWith_KW0 (h₀ := X.base) I.ok.mod.kin h3 hall ?_ hpl
  refine thn ((pk_cons (nm := some nm) (kpos := kpos) he pk_nil).run pos pins s σ H (fun vs H1 => ∃ v F1, vs = [v] ∧ Go (Own σ δ) (Own σ δ1) F H F1 H1 ∧ Rs F1 H1 σ δ1 ∧ Rp F1 v d) I ⟨F, Rf, fun v F1 H1 g R1 r1 => ⟨v, F1, rfl, g, R1, r1⟩⟩) fun ws s2 ⟨vs, H1, I1, rv, v, F1, ev, g1, R1, r1⟩ => ⟨I1.kIn, ?_⟩
  subst ev
  rw [hks]
  obtain ⟨u, rfl, rv2⟩ : ∃ u, ws = [u] ∧ RelV v u := by
    cases rv with
    | cons rv rn => cases rn; exact ⟨_, rfl, rv⟩
  show wpAny _ _ (call (.ref f) [] [(nm, u)]) _ _ _
  have hsp : spD R RX [v] H1 (fun v' H2 => Q v' H2) E0 := call_fin (as := [.d d]) (σ := σ) R1 (.cons (show Rp F1 v d from r1) .nil) rfl hR fun v' F2 H2 g2 R2 q => k v' F2 H2 (g1.trans g2) R2 (Res.back g1 q)
  refine wpAny_call (codeAny_mono (h1.run X.A X.stack s2 H1 ⟨[], [(nm, u)]⟩ [u] [v] _ E0 hr I1.env0 (.of_eq (hbb u)) (.cons rv2 .nil) hsp) fun r' s' hq => ?_)
  cases r' with
  | error e => exact passL (X := X) pins σ H1 s2 e s' I1 hq
  | ok fl =>
    cases fl with
    | ret u => exact I1.after hq
    | next => exact False.elim hq
    | brk => exact False.elim hq
    | cont => exact False.elim hq
end
end DL
end
section
set_option Elab.async false
set_option linter.all false
set_option maxRecDepth 100000
/-! DLs: data of a size that fits everywhere. -/
namespace DL
open PySem PySem.Spec PyProof.Rows L2
mutual
def D.wt : D → Nat
  | .str s => s.length
  | .int i => if i == 0 then 0 else i.natAbs.log2 + 1
  | .lst xs => D.wtA xs
  | .tup xs => D.wtA xs
  | _ => 0
def D.wtA : List D → Nat
  | [] => 0
  | d :: ds => d.wt + 1 + D.wtA ds
end
mutual
def D.sm : D → Bool
  | .int i => decide (i.natAbs < 10 ^ 50)
  | .lst xs => D.smA xs
  | .tup xs => D.smA xs
  | _ => true
def D.smA : List D → Bool
  | [] => true
  | d :: ds => d.sm && D.smA ds
end
theorem int_short {i : Int} (h : i.natAbs < 10 ^ 50) : (PyData.shown (.int i)).length ≤ 52 := by
  have e := int_text_length_le10 (k := 50) (by decide) h
  show (Str.ofString (toString i)).length ≤ 52
  rw [PySem.ofString_length]; omega
theorem shown_fits52 {d : PyData} (hl : d.leavesShort 52 = true) (hw : d.weight ≤ 2 ^ 18) : d.shown.length ≤ sizeLine := by
  have h := PyData.shown_le 52 (by decide) d hl
  have e : (2 : Nat) ^ 18 = 262144 := by decide
  rw [sizeLine_eq]
  omega
mutual
theorem D.wt_py : ∀ d : D, d.ok = true → d.py.weight = d.wt
  | .non, _ => by simp [D.py, PyData.weight, D.wt]
  | .bl _, _ => by simp [D.py, PyData.weight, D.wt]
  | .int i, _ => by simp [D.py, PyData.weight, D.wt]
  | .str s, _ => by simp [D.py, PyData.weight, D.wt, Str.length]
  | .lst xs, h => by simp only [D.py, PyData.weight, D.wt]; exact D.wt_pyA xs (by simpa [D.ok] using h)
  | .tup xs, h => by simp only [D.py, PyData.weight, D.wt]; exact D.wt_pyA xs (by simpa [D.ok] using h)
  | .dct _ _, h => by simp [D.ok] at h
  | .exc _ _, h => by simp [D.ok] at h
  | .fn _, h => by simp [D.ok] at h
theorem D.wt_pyA : ∀ ds : List D, D.okA ds = true → PyData.weightAll (D.pyA ds) = D.wtA ds
  | [], _ => by simp [D.pyA, PyData.weightAll, D.wtA]
  | d :: ds, h => by
    simp only [D.okA, Bool.and_eq_true] at h
    simp only [D.pyA, PyData.weightAll, D.wtA, D.wt_py d h.1, D.wt_pyA ds h.2]
end
mutual
theorem D.short_py : ∀ d : D, d.ok = true → d.sm = true → d.py.intsShort 52 = true
  | .non, _, _ => rfl
  | .bl _, _, _ => rfl
  | .int i, _, h => by
    simp only [D.py, PyData.intsShort, decide_eq_true_eq]
    exact int_short (by simpa [D.sm] using h)
  | .str s, _, _ => rfl
  | .lst xs, h, k => by simp only [D.py, PyData.intsShort]; exact D.short_pyA xs (by simpa [D.ok] using h) (by simpa [D.sm] using k)
  | .tup xs, h, k => by simp only [D.py, PyData.intsShort]; exact D.short_pyA xs (by simpa [D.ok] using h) (by simpa [D.sm] using k)
  | .dct _ _, h, _ => by simp [D.ok] at h
  | .exc _ _, h, _ => by simp [D.ok] at h
  | .fn _, h, _ => by simp [D.ok] at h
theorem D.short_pyA : ∀ ds : List D, D.okA ds = true → D.smA ds = true → PyData.intsShortAll 52 (D.pyA ds) = true
  | [], _, _ => rfl
  | d :: ds, h, k => by
    simp only [D.okA, Bool.and_eq_true] at h
    simp only [D.smA, Bool.and_eq_true] at k
    simp only [D.pyA, PyData.intsShortAll, Bool.and_eq_true]
    exact ⟨D.short_py d h.1 k.1, D.short_pyA ds h.2 k.2⟩
end
mutual
theorem D.sm_showable : ∀ d : D, d.ok = true → d.sm = true → d.py.showable = true
  | .non, _, _ => rfl
  | .bl _, _, _ => rfl
  | .int i, _, h => by
    simp only [D.py, PyData.showable, decide_eq_true_eq]
    have h : i.natAbs < 10 ^ 50 := by simpa [D.sm] using h
    by_cases z : i.natAbs = 0
    · rw [z]; decide
    · exact Nat.lt_of_lt_of_le ((Nat.log2_lt z).mpr (Nat.lt_of_lt_of_le h (by decide : 10 ^ 50 ≤ 2 ^ 170))) (by decide)
  | .str s, _, _ => rfl
  | .lst xs, h, k => by simp only [D.py, PyData.showable]; exact D.sm_showableA xs (by simpa [D.ok] using h) (by simpa [D.sm] using k)
  | .tup xs, h, k => by simp only [D.py, PyData.showable]; exact D.sm_showableA xs (by simpa [D.ok] using h) (by simpa [D.sm] using k)
  | .dct _ _, h, _ => by simp [D.ok] at h
  | .exc _ _, h, _ => by simp [D.ok] at h
  | .fn _, h, _ => by simp [D.ok] at h
theorem D.sm_showableA : ∀ ds : List D, D.okA ds = true → D.smA ds = true → PyData.showableAll (D.pyA ds) = true
  | [], _, _ => rfl
  | d :: ds, h, k => by
    simp only [D.okA, Bool.and_eq_true] at h
    simp only [D.smA, Bool.and_eq_true] at k
    simp only [D.pyA, PyData.showableAll, Bool.and_eq_true]
    exact ⟨D.sm_showable d h.1 k.1, D.sm_showableA ds h.2 k.2⟩
end
/-- good data: plain, of depth at most n, of a weight that fits -/
structure Gd (n : Nat) (d : D) : Prop where
  ok : d.ok = true
  dep : d.dep ≤ n
  wt : d.wt ≤ 2 ^ 18
  sm : d.sm = true
structure GdA (n : Nat) (ds : List D) : Prop where
  ok : D.okA ds = true
  dep : D.depA ds ≤ n
  wt : D.wtA ds ≤ 2 ^ 18
  sm : D.smA ds = true
theorem Gd.mono {n m : Nat} {d : D} (h : Gd n d) (l : n ≤ m) : Gd m d := ⟨h.ok, Nat.le_trans h.dep l, h.wt, h.sm⟩
theorem Gd.plain {n : Nat} {d : D} (h : Gd n d) : d.plain = true := by
  have := h.ok
  cases d <;> first | rfl | (simp [D.ok] at this)
theorem Gd.sh {n : Nat} {d : D} (h : Gd n d) (l : n ≤ 64) : d.sh := ⟨h.ok, Nat.le_trans h.dep l⟩
theorem Gd.shows {n : Nat} {d : D} (h : Gd n d) (l : n ≤ 64) : d.Shows := ⟨h.ok, Nat.le_trans h.dep l, D.sm_showable d h.ok h.sm,
  shown_fits52 (PyData.leavesShort_of_canLay0 52 _ (D.py_can _ h.ok) (D.short_py _ h.ok h.sm)) (by rw [D.wt_py _ h.ok]; exact h.wt)⟩
theorem Gd.tupA {n : Nat} {xs : List D} (h : Gd n (.tup xs)) : GdA (n - 1) xs ∧ 1 ≤ n := by
  have d := h.dep
  simp only [D.dep] at d
  exact ⟨⟨by simpa [D.ok] using h.ok, by omega, by simpa [D.wt] using h.wt, by simpa [D.sm] using h.sm⟩, by omega⟩
theorem Gd.lstA {n : Nat} {xs : List D} (h : Gd n (.lst xs)) : GdA (n - 1) xs ∧ 1 ≤ n := by
  have d := h.dep
  simp only [D.dep] at d
  exact ⟨⟨by simpa [D.ok] using h.ok, by omega, by simpa [D.wt] using h.wt, by simpa [D.sm] using h.sm⟩, by omega⟩
theorem GdA.tup {n : Nat} {xs : List D} (h : GdA n xs) : Gd (n + 1) (.tup xs) := ⟨by simpa [D.ok] using h.ok, by simp only [D.dep]; have := h.dep; omega, by simpa [D.wt] using h.wt, by simpa [D.sm] using h.sm⟩
theorem GdA.lst {n : Nat} {xs : List D} (h : GdA n xs) : Gd (n + 1) (.lst xs) := ⟨by simpa [D.ok] using h.ok, by simp only [D.dep]; have := h.dep; omega, by simpa [D.wt] using h.wt, by simpa [D.sm] using h.sm⟩
theorem GdA.head {n : Nat} {d : D} {ds : List D} (h : GdA n (d :: ds)) : Gd n d ∧ GdA n ds := by
  obtain ⟨h1, h2, h3, h4⟩ := h
  simp only [D.okA, D.depA, D.wtA, D.smA, Bool.and_eq_true] at h1 h2 h3 h4
  exact ⟨⟨h1.1, by omega, by omega, h4.1⟩, ⟨h1.2, by omega, by omega, h4.2⟩⟩
theorem GdA.mem {n : Nat} : ∀ {ds : List D} {d : D}, GdA n ds → d ∈ ds → Gd n d
  | [], _, _, h => by cases h
  | e :: ds, d, g, h => by
    rcases List.mem_cons.mp h with rfl | h
    · exact g.head.1
    · exact g.head.2.mem h
theorem D.wtA_len : ∀ ds : List D, ds.length ≤ D.wtA ds
  | [] => Nat.zero_le _
  | d :: ds => by have := D.wtA_len ds; simp only [List.length_cons, D.wtA]; omega
theorem GdA.len {n : Nat} {ds : List D} (h : GdA n ds) : ds.length < sizeLine := Nat.lt_of_le_of_lt (Nat.le_trans (D.wtA_len ds) h.wt) (by decide)
theorem Gd.str {n : Nat} {s : Str} (h : Gd n (.str s)) : s.length < sizeLine := Nat.lt_of_le_of_lt (by simpa [D.wt] using h.wt) (by decide)
theorem D.wtA_append (a b : List D) : D.wtA (a ++ b) = D.wtA a + D.wtA b := by
  induction a with
  | nil => simp [D.wtA]
  | cons x a ih => simp only [List.cons_append, D.wtA, ih]; omega
theorem D.okA_append (a b : List D) : D.okA (a ++ b) = (D.okA a && D.okA b) := by
  induction a with
  | nil => simp [D.okA]
  | cons x a ih => simp only [List.cons_append, D.okA, ih, Bool.and_assoc]
theorem D.smA_append (a b : List D) : D.smA (a ++ b) = (D.smA a && D.smA b) := by
  induction a with
  | nil => simp [D.smA]
  | cons x a ih => simp only [List.cons_append, D.smA, ih, Bool.and_assoc]
theorem D.depA_append (a b : List D) : D.depA (a ++ b) = max (D.depA a) (D.depA b) := by
  induction a with
  | nil => simp [D.depA]
  | cons x a ih => simp only [List.cons_append, D.depA, ih]; omega
theorem eqv_str (s t : Str) : (D.str s).eqv (.str t) = decide (s = t) := by
  simp only [D.eqv, D.py, PyData.eqv]
  by_cases h : s = t
  · subst h; simp
  · rw [decide_eq_false h]; exact beq_eq_false_iff_ne.mpr h
end DL
end
section
set_option Elab.async false
set_option linter.all false
set_option maxRecDepth 100000
set_option maxHeartbeats 2000000
/-! DLt: zip of tuples; a list of one's own compared; a slot forgotten. -/
namespace DL
open PySem PySem.Spec PyProof.Rows L2 RZ
theorem walk_zipT {K : PySem.W.Frag} {a b : Addr} {xs ys : List V} {n : Nat} (hn : n = min xs.length ys.length) : Walk (ItzT K a b) n (fun H => SqT K H a xs ∧ SqT K H b ys) (YPair (fun i => xs[i]?) (fun i => ys[i]?)) := by
  subst hn
  refine ⟨fun i _ hi q => ?_, fun _ q => ⟨xs, ys, q.1, q.2, by omega⟩, fun i H v H' _ q y => ?_⟩
  · have h1 : i < xs.length := by omega
    have h2 : i < ys.length := by omega
    exact ⟨xs, ys, xs[i], ys[i], q.1, q.2, by simp [h1], by simp [h2]⟩
  · obtain ⟨T, x, z, h1, h2, h3, h4, h5⟩ := y
    exact ⟨T, x, z, h1, h2, h3, h4 xs q.1, h5 ys q.2⟩
variable [TL]
section
variable {X : Cx} {pn : List Nat} {δ δ1 δ2 δ3 : List DV} {a b c e : Expr} {x y z r : D} {pos p1 p2 : Pos}
theorem di_zipT {xs ys : List D} {es : List Expr} {kk : Nat} (hg : Gl X "zip") (hm : X.mg "zip" = none) (ha : DE X δ a (.d (.tup xs)) δ1) (hb : DE X δ1 b (.d (.tup ys)) δ2) (hs : starEach [a, b] X.env = (false, eval a X.env) :: starEach [b] X.env := by rfl) (hs2 : starEach [b] X.env = (false, eval b X.env) :: starEach [] X.env := by rfl) (hpl : ((backTo pos (starEach [b] X.env)).any fun x => x.1) = false := by rfl) :
    DI X δ (.Tuple es kk p2) (.Call (.Name "zip" p1) [a, b] [] pos) (List.zipWith (fun x y => D.tup [x, y]) xs ys) δ2 :=
  (pi_zipA hg hm (pa_cons ha (pa_cons hb pa_nil hs2) hs) hs hpl).imp fun σ H R ⟨F, Rf, k⟩ => ⟨F, Rf, fun v F1 H1 g R1 r1 => ⟨F1, R1, fun w F2 H2 g2 R2 r2 => by
    replace r1 := Rp.ex g2.ff r1
    cases r1 with
    | tup h1 ra =>
      cases r2 with
      | tup h2 rb =>
        refine ⟨_, _, _, _, rfl, .inr ⟨SqT.of (R2.sub _ _ h1), SqT.of (R2.sub _ _ h2), k _ F2 H2 (g.trans g2) R2 ?_⟩⟩
        unfold WkD
        refine Walk.mono (walk_zipT (by rw [List.length_zipWith, ra.length, rb.length])) (fun H' e => ⟨SqT.of (e _ _ h1), SqT.of (e _ _ h2)⟩) fun i H v H' _ _ ⟨T, x, y, e1, e2, e3, e4, e5⟩ => ?_
        obtain ⟨dx, k1, k2⟩ := ra.getV e4
        obtain ⟨dy, k3, k4⟩ := rb.getV e5
        refine ⟨.tup [dx, dy], by rw [List.getElem?_zipWith, k1, k3], .inr ⟨T, _, e2, e3, (fun _ h => nomatch h), fun F3 ex hn => ?_⟩⟩
        rw [e1]
        exact .tup upd_same (.cons (k2.ex (ex.trans (.new hn))) (.cons (k4.ex (ex.trans (.new hn))) .nil))⟩⟩
/-- own op data -/
theorem de_cmpO {op : CmpOp} {q : R2} {i : Nat} {n : Str} {xs : List D} {k : Bool} (ho : OpR X (compareOp op) q) (hN : X.N[i]? = some n) (hv : Vis X.env.scope n) (h : δ[i]? = some (.ow xs)) (hb : DE X δ b (.d y) δ) (hr : OpD q (.lst xs) y (.bl k)) (hm : behindInMarks op b = false)
    (hd : (n == ("__debug__" : Str)) = false := by decide) (hcd : (n == ("__classdict__" : Str)) = false := by decide) : DE X δ (.Compare (.Name n p1) [op] [b] pos) (.d (.bl k)) δ :=
  (pe_cmpR ho (pe_var (i := i) hN hv hd hcd) hb hm).imp fun σ H Q ⟨F, R, kk⟩ => by
    obtain ⟨o, e, p, vs, q1, q2, q3, q4⟩ := R.at_ i _ h
    refine ⟨.ref p, by rw [e, q1], F, R, fun u F2 H2 g2 R2 r2 => ?_⟩
    obtain ⟨o', e', p', vs', k1, k2, k3, k4⟩ := R2.at_ i _ h
    rw [e] at e'; cases e'
    rw [q1] at k1; cases k1
    refine hr (upd F2 p (.lst vs')) H2 _ _ _ (fun a u e => ?_) (.lst upd_same (k4.ex (.new k2))) (r2.ex (.new k2)) fun w rw' => ?_
    · by_cases z : a = p
      · subst z; rw [upd_same] at e; rw [k3, e]
      · rw [upd_ne z] at e; exact R2.sub a u e
    · cases rw'
      exact kk _ F2 H2 g2 R2 (.bl k)
theorem de_neO {i k : Nat} {n : Str} {xs : List D} (hr : Room k X.A) (hx : (D.lst xs).sh) (hy : y.sh) (hN : X.N[i]? = some n) (hv : Vis X.env.scope n) (h : δ[i]? = some (.ow xs)) (hb : DE X δ b (.d y) δ)
    (hd : (n == ("__debug__" : Str)) = false := by decide) (hcd : (n == ("__classdict__" : Str)) = false := by decide) : DE X δ (.Compare (.Name n p1) [.NotEq] [b] pos) (.d (.bl (!(D.lst xs).eqv y))) δ :=
  de_cmpO (op_neD hr.units) hN hv h hb (fun F H v u Q e rv ru k => ⟨(D.lst xs).py, y.py, rv.dp e hx.1, ru.dp e hy.1, hx.py, hy.py, k _ (.bl _)⟩) (nomark _) hd hcd
theorem dt_cmpO {op : CmpOp} {q : R2} {i : Nat} {n : Str} {xs : List D} {k : Bool} (ho : OpR X (compareOp op) q) (hN : X.N[i]? = some n) (hv : Vis X.env.scope n) (h : δ[i]? = some (.ow xs)) (hb : DE X δ b (.d y) δ) (hr : OpD q (.lst xs) y (.bl k)) (hm : behindInMarks op b = false)
    (hd : (n == ("__debug__" : Str)) = false := by decide) (hcd : (n == ("__classdict__" : Str)) = false := by decide) : DT X δ (.Compare (.Name n p1) [op] [b] pos) k δ :=
  (pt_cmpR ho (pe_var (i := i) hN hv hd hcd) hb hm).imp fun σ H Q ⟨F, R, kk⟩ => by
    obtain ⟨o, e, p, vs, q1, q2, q3, q4⟩ := R.at_ i _ h
    refine ⟨.ref p, by rw [e, q1], F, R, fun u F2 H2 g2 R2 r2 => ?_⟩
    obtain ⟨o', e', p', vs', k1, k2, k3, k4⟩ := R2.at_ i _ h
    rw [e] at e'; cases e'
    rw [q1] at k1; cases k1
    refine hr (upd F2 p (.lst vs')) H2 _ _ _ (fun a u e => ?_) (.lst upd_same (k4.ex (.new k2))) (r2.ex (.new k2)) fun w rw' => ?_
    · by_cases z : a = p
      · subst z; rw [upd_same] at e; rw [k3, e]
      · rw [upd_ne z] at e; exact R2.sub a u e
    · cases rw'
      exact ⟨k, rfl, kk F2 H2 g2 R2⟩
theorem dt_neO {i m : Nat} {n : Str} {xs : List D} {k : Bool} (hr : Room m X.A) (hx : (D.lst xs).sh) (hy : y.sh) (hN : X.N[i]? = some n) (hv : Vis X.env.scope n) (h : δ[i]? = some (.ow xs)) (hb : DE X δ b (.d y) δ) (hk : (!(D.lst xs).eqv y) = k)
    (hd : (n == ("__debug__" : Str)) = false := by decide) (hcd : (n == ("__classdict__" : Str)) = false := by decide) : DT X δ (.Compare (.Name n p1) [.NotEq] [b] pos) k δ :=
  dt_cmpO (op_neD hr.units) hN hv h hb (fun F H v u Q e rv ru k' => ⟨(D.lst xs).py, y.py, rv.dp e hx.1, ru.dp e hy.1, hx.py, hy.py, k' _ (by rw [← hk]; exact .bl _)⟩) (nomark _) hd hcd
theorem Rs.forget {F H : Hp} {σ : L2.St} {i : Nat} (R : Rs F H σ δ) (hi : ∀ xs, δ[i]? ≠ some (.ow xs)) : Rs F H σ (δ.set i .un) := by
  have key : ∀ {k : Nat} {xs : List D}, (δ.set i .un)[k]? = some (.ow xs) → δ[k]? = some (.ow xs) := fun {k xs} h => by
    by_cases z : i = k
    · subst z
      by_cases hl : i < δ.length
      · rw [List.getElem?_set_self hl] at h; cases h
      · rw [List.getElem?_eq_none (by rw [List.length_set]; omega)] at h; cases h
    · rw [List.getElem?_set_ne z] at h; exact h
  refine ⟨R.sub, by rw [List.length_set]; exact R.len, fun k x h => ?_, fun k j xs ys o hkj h1 h2 => R.ap k j xs ys o hkj (key h1) (key h2), R.tb, R.nt⟩
  by_cases z : i = k
  · subst z
    by_cases hl : i < δ.length
    · rw [List.getElem?_set_self hl] at h
      cases h
      exact ⟨_, List.getElem?_eq_getElem (by rw [R.len]; exact hl), trivial⟩
    · rw [List.getElem?_eq_none (by rw [List.length_set]; omega)] at h; cases h
  · rw [List.getElem?_set_ne z] at h; exact R.at_ k x h
theorem own_forget {σ : L2.St} {i : Nat} (hi : ∀ xs, δ[i]? ≠ some (.ow xs)) {a : Addr} : Own σ (δ.set i .un) a ↔ Own σ δ a := by
  constructor
  · rintro ⟨k, xs, h1, h2⟩
    by_cases z : i = k
    · subst z
      by_cases hl : i < δ.length
      · rw [List.getElem?_set_self hl] at h1; cases h1
      · rw [List.getElem?_eq_none (by rw [List.length_set]; omega)] at h1; cases h1
    · rw [List.getElem?_set_ne z] at h1; exact ⟨k, xs, h1, h2⟩
  · rintro ⟨k, xs, h1, h2⟩
    have z : i ≠ k := fun z => by subst z; exact hi xs h1
    exact ⟨k, xs, by rw [List.getElem?_set_ne z]; exact h1, h2⟩
/-- the frame is known less well -/
theorem dss_forget {i : Nat} {sts : List Stmt} {o : Out} (hi : ∀ xs, δ[i]? ≠ some (.ow xs)) (h : DSs X pn (δ.set i .un) sts o) : DSs X pn δ sts o := h.imp fun D σ H ⟨F, R, k⟩ => by
  refine ⟨F, R.forget hi, ?_⟩
  have ow : Own σ (δ.set i .un) = Own σ δ := funext fun a => propext (own_forget hi)
  have af : ∀ {σ' : L2.St} {δ' : List DV} {F' H' : Hp}, Aft pn σ (δ.set i .un) F H σ' δ' F' H' → Aft pn σ δ F H σ' δ' F' H' := fun A => ⟨ow ▸ A.go, A.rs, A.pin⟩
  cases o with
  | nx δ' => exact fun σ' F' H' A => k σ' F' H' (af A)
  | rt r δ' => exact fun v σ' F' H' A q => k v σ' F' H' (af A) (ow ▸ q)
  | bk δ' => exact fun σ' F' H' A => k σ' F' H' (af A)
  | ct δ' => exact fun σ' F' H' A => k σ' F' H' (af A)
  | ex C d => exact fun dx v σ' δ' F' H' A => k dx v σ' δ' F' H' (af A)
end
end DL
end
section
set_option Elab.async false
set_option linter.all false
set_option maxRecDepth 100000
set_option maxHeartbeats 2000000
/-! DLq: frames known by what is true of them. -/
namespace DL
open PySem PySem.Spec PyProof.Rows L2
variable [TL]
section
variable {X : Cx} {pn : List Nat} {δ δ1 δ2 δ' δ'' : List DV} {tg iter : Expr} {pos : Pos} {body rest sts : List Stmt} {st : Stmt} {items : List D} {o : Out} {Q : Out → Prop}
/-- some statements come to an end of which Q is true -/
def DQ (X : Cx) (pn : List Nat) (δ : List DV) (sts : List Stmt) (Q : Out → Prop) : Prop := ∃ o, DSs X pn δ sts o ∧ Q o
theorem dq_nil (h : Q (.nx δ)) : DQ X pn δ [] Q := ⟨_, dss_nil, h⟩
theorem dq_cons (h1 : DS X pn δ st (.nx δ1)) (h2 : DQ X pn δ1 rest Q) : DQ X pn δ (st :: rest) Q := let ⟨o, a, b⟩ := h2; ⟨o, dss_cons h1 a, b⟩
theorem dq_of (h : DSs X pn δ sts o) (q : Q o) : DQ X pn δ sts Q := ⟨o, h, q⟩
/-- the last statement is not left -/
theorem dq_stop (h : DS X pn δ st o) (ho : ∀ δ', o ≠ .nx δ') (q : Q o) : DQ X pn δ (st :: rest) Q := ⟨o, dss_stop h ho, q⟩
/-- a loop by an invariant on frames -/
theorem ds_forI {Iv : Nat → List DV → Prop} (hp : PassesOwn (model X.prog X.w) X.A X.env X.xe) (hc : X.calm = true) (hi : DI X δ tg iter items δ1) (h0 : Iv 0 δ1)
    (hs : ∀ j d δ, j < items.length → items[j]? = some d → Iv j δ → ∃ t, DG X pn tg d δ t ∧ DQ X pn t body fun o => ∃ δ', o = .nx δ' ∧ Iv (j + 1) δ')
    (hf : ∀ x, foldedSetIterable iter X.env x = pure x := by intro _; rfl) : ∃ δ', DS X pn δ (.For tg iter body [] pos) (.nx δ') ∧ Iv items.length δ' := by
  have step : ∀ (j : Nat) (δ : List DV), ∃ p : List DV × List DV, ∀ d, j < items.length → items[j]? = some d → Iv j δ → DG X pn tg d δ p.1 ∧ DSs X pn p.1 body (.nx p.2) ∧ Iv (j + 1) p.2 := fun j δ => by
    by_cases hj : j < items.length
    · by_cases hv : Iv j δ
      · obtain ⟨t, h1, o, h2, δ', rfl, h3⟩ := hs j _ δ hj (List.getElem?_eq_getElem hj) hv
        refine ⟨(t, δ'), fun d _ hd _ => ?_⟩
        rw [List.getElem?_eq_getElem hj] at hd
        cases hd
        exact ⟨h1, h2, h3⟩
      · exact ⟨([], []), fun _ _ _ h => absurd h hv⟩
    · exact ⟨([], []), fun _ h => absurd h hj⟩
  let nxt : Nat → List DV → List DV × List DV := fun j δ => Classical.choose (step j δ)
  have nx_ : ∀ j δ d, j < items.length → items[j]? = some d → Iv j δ → DG X pn tg d δ (nxt j δ).1 ∧ DSs X pn (nxt j δ).1 body (.nx (nxt j δ).2) ∧ Iv (j + 1) (nxt j δ).2 := fun j δ => Classical.choose_spec (step j δ)
  let fr : Nat → List DV := fun j => Nat.rec δ1 (fun j δ => (nxt j δ).2) j
  have frs : ∀ j, fr (j + 1) = (nxt j (fr j)).2 := fun j => rfl
  have iv : ∀ j, j ≤ items.length → Iv j (fr j) := fun j => by
    induction j with
    | zero => intro _; exact h0
    | succ j ih =>
      intro hj
      rw [frs]
      exact (nx_ j (fr j) _ (by omega) (List.getElem?_eq_getElem (by omega)) (ih (by omega))).2.2
  refine ⟨fr items.length, ds_for hp hc hi fr (fun j => (nxt j (fr j)).1) rfl (fun j d hd => ?_) (fun j d hj hd => ?_) hf, iv _ (Nat.le_refl _)⟩
  · have hj : j < items.length := (List.getElem?_eq_some_iff.mp hd).1
    exact (nx_ j (fr j) d hj hd (iv j (by omega))).1
  · rw [frs]
    exact (nx_ j (fr j) d hj hd (iv j (by omega))).2.1
/-- less is known of the frame -/
theorem Rs.drop {F H : Hp} {σ : L2.St} (R : Rs F H σ δ') (hl : δ''.length = δ'.length) (h : ∀ (i : Nat) (x : DV), δ''[i]? = some x → x = .un ∨ δ'[i]? = some x) : Rs F H σ δ'' := by
  have key : ∀ {k : Nat} {xs : List D}, δ''[k]? = some (.ow xs) → δ'[k]? = some (.ow xs) := fun {k xs} e => (h k _ e).resolve_left fun z => nomatch z
  refine ⟨R.sub, by rw [hl]; exact R.len, fun i x e => ?_, fun k j xs ys o hkj h1 h2 => R.ap k j xs ys o hkj (key h1) (key h2), R.tb, R.nt⟩
  rcases h i x e with rfl | q
  · have hi : i < σ.length := by rw [R.len, ← hl]; exact (List.getElem?_eq_some_iff.mp e).1
    exact ⟨_, List.getElem?_eq_getElem hi, trivial⟩
  · exact R.at_ i x q
theorem own_drop {σ : L2.St} (h : ∀ (i : Nat) (x : DV), δ''[i]? = some x → x = .un ∨ δ'[i]? = some x) {a : Addr} (q : Own σ δ'' a) : Own σ δ' a := by
  obtain ⟨i, xs, h1, h2⟩ := q
  exact ⟨i, xs, (h i _ h1).resolve_left (fun z => nomatch z), h2⟩
theorem dss_drop (hl : δ''.length = δ'.length) (h : ∀ (i : Nat) (x : DV), δ''[i]? = some x → x = .un ∨ δ'[i]? = some x) (hd : DSs X pn δ sts (.nx δ')) : DSs X pn δ sts (.nx δ'') := hd.imp fun D σ H ⟨F, R, k⟩ =>
  ⟨F, R, fun σ' F' H' A => k σ' F' H' ⟨⟨A.go.ff, A.go.keep, A.go.new, A.go.there, fun a q => A.go.own a (own_drop h q)⟩, A.rs.drop hl h, A.pin⟩⟩
theorem dq_drop (hl : δ''.length = δ'.length) (h : ∀ (i : Nat) (x : DV), δ''[i]? = some x → x = .un ∨ δ'[i]? = some x) (hd : DQ X pn δ sts fun o => o = .nx δ') : DQ X pn δ sts fun o => o = .nx δ'' := by
  obtain ⟨o, a, rfl⟩ := hd
  exact ⟨_, dss_drop hl h a, rfl⟩
end
end DL
end
section
set_option Elab.async false
set_option linter.all false
set_option maxRecDepth 100000
set_option maxHeartbeats 2000000
/-! DLo: a list that is lent as data, changed, lent again; lists of new lists; the loop over odd things. -/
namespace DL
open PySem PySem.Spec PyProof.Rows L2
/-- the list at p, known -/
def atP (p : Addr) (xs : List D) : Hp → V → Prop := fun F v => v = .ref p ∧ Rp F v (.lst xs)
/-- data that leans on no list -/
def D.free : D → Bool
  | .non => true
  | .bl _ => true
  | .int _ => true
  | .str _ => true
  | .fn _ => true
  | .exc _ (.fn _) => true
  | _ => false
def DV.free : DV → Bool
  | .un => true
  | .d x => x.free
  | .ow xs => xs.all D.free
  | .raw _ => true
  | .pr _ => false
theorem del_ex {F FB : Hp} {p : Addr} (e : Ex FB F) (h : FB p = none) : Ex FB (del F p) := fun a o q => by
  rw [del_ne (fun z => by rw [z, h] at q; cases q)]
  exact e a o q
theorem Rp.del {F : Hp} {p : Addr} {ws : List V} {v : V} {d : D} (r : Rp F v d) (hf : d.free = true) (hp : F p = some (.lst ws)) : Rp (del F p) v d := by
  cases r with
  | non => exact .non
  | bl b => exact .bl b
  | int i => exact .int i
  | str s => exact .str s
  | fn a => exact .fn a
  | @exc a dx C v d h1 h2 h3 =>
    cases h3 with
    | fn b =>
      have n1 : a ≠ p := fun z => by rw [z, hp] at h1; exact absurd (Option.some.inj h1) (fun w => by unfold exV at w; cases w)
      have n2 : dx ≠ p := fun z => by
        rcases h2 with h2 | h2
        · rw [z, hp] at h2; cases h2
        · rw [z, hp] at h2; exact absurd (Option.some.inj h2) (fun w => by unfold exd at w; cases w)
      exact .exc (by rw [del_ne n1]; exact h1) (h2.imp (fun q => by rw [del_ne n2]; exact q) (fun q => by rw [del_ne n2]; exact q)) (.fn b)
    | _ => simp [D.free] at hf
  | _ => simp [D.free] at hf
theorem RpA.del {F : Hp} {p : Addr} {ws : List V} (hp : F p = some (.lst ws)) : ∀ {vs : List V} {ds : List D}, RpA F vs ds → ds.all D.free = true → RpA (del F p) vs ds
  | _, _, .nil, _ => .nil
  | _, _, .cons r t, h => by
    simp only [List.all_cons, Bool.and_eq_true] at h
    exact .cons (r.del h.1 hp) (RpA.del hp t h.2)
variable [TL]
section
variable {F H FB : Hp} {σ : L2.St} {δ δ1 : List DV} {p : Addr} {ws : List V} {xs : List D} {i : Nat}
theorem get_set {α : Type} {l : List α} {i k : Nat} {x y : α} (h : (l.set i x)[k]? = some y) : (i = k ∧ y = x) ∨ (i ≠ k ∧ l[k]? = some y) := by
  by_cases z : i = k
  · subst z
    by_cases hl : i < l.length
    · rw [List.getElem?_set_self hl] at h; cases h; exact .inl ⟨rfl, rfl⟩
    · rw [List.getElem?_eq_none (by rw [List.length_set]; omega)] at h; cases h
  · rw [List.getElem?_set_ne z] at h; exact .inr ⟨z, h⟩
theorem own_set2 {x y : DV} (hx : ∀ xs, x ≠ .ow xs) (hy : ∀ xs, y ≠ .ow xs) {a : Addr} (h : Own σ (δ.set i x) a) : Own σ (δ.set i y) a := by
  obtain ⟨k, zs, h1, h2⟩ := h
  rcases get_set h1 with ⟨_, e⟩ | ⟨z, e⟩
  · exact absurd e.symm (hx zs)
  · exact ⟨k, zs, by rw [List.getElem?_set_ne z]; exact e, h2⟩
/-- the slot's list, in no one's hand, is lent as data -/
theorem Rs.lend (R : Rs FB H σ (δ.set i (.raw (.ref p)))) (hp : FB p = none) (hH : H p = some (.lst ws)) (ra : RpA FB ws xs) (no : ¬ Own σ (δ.set i (.raw (.ref p))) p) : Rs (upd FB p (.lst ws)) H σ (δ.set i (.pr (atP p xs))) := by
  refine ⟨fun a o e => ?_, by have := R.len; rw [List.length_set] at this ⊢; exact this, fun k x e => ?_, fun k j as bs o hkj h1 h2 => ?_, R.tb, nt_upd R.nt (fun _ h => nomatch h)⟩
  · by_cases z : a = p
    · subst z; rw [upd_same] at e; rw [hH, e]
    · rw [upd_ne z] at e; exact R.sub a o e
  · rcases get_set e with ⟨rfl, rfl⟩ | ⟨z, e⟩
    · have hl : i < δ.length := by have := (List.getElem?_eq_some_iff.mp e).1; rwa [List.length_set] at this
      obtain ⟨o, q1, q2⟩ := R.at_ i _ (List.getElem?_set_self hl)
      exact ⟨o, q1, .ref p, q2, fun F' ex => ⟨rfl, .lst (ex _ _ upd_same) (ra.ex ((Ex.new hp).trans ex))⟩⟩
    · obtain ⟨o, q1, q2⟩ := R.at_ k x (by rw [List.getElem?_set_ne z]; exact e)
      refine ⟨o, q1, ?_⟩
      cases x with
      | un => trivial
      | d x => obtain ⟨v, k1, k2⟩ := q2; exact ⟨v, k1, k2.ex (.new hp)⟩
      | raw v => exact q2
      | pr P => obtain ⟨v, k1, k2⟩ := q2; exact ⟨v, k1, fun F2 e => k2 F2 ((Ex.new hp).trans e)⟩
      | ow ys =>
        obtain ⟨b, us, k1, k2, k3, k4⟩ := q2
        have nb : b ≠ p := fun w => no ⟨k, ys, by rw [List.getElem?_set_ne z]; exact e, by rw [q1, k1, w]⟩
        exact ⟨b, us, k1, by rw [upd_ne nb]; exact k2, k3, k4.ex (.new hp)⟩
  · have key : ∀ {m : Nat} {zs : List D}, (δ.set i (.pr (atP p xs)))[m]? = some (.ow zs) → (δ.set i (.raw (.ref p)))[m]? = some (.ow zs) := fun {m zs} h => by
      rcases get_set h with ⟨_, e⟩ | ⟨z, e⟩
      · cases e
      · rw [List.getElem?_set_ne z]; exact e
    exact R.ap k j as bs o hkj (key h1) (key h2)
/-- it comes back: the other slots stand as they stood, or lean on no list -/
theorem Rs.back {F1 H1 H0 : Hp} {σ0 : L2.St} {δ0 : List DV} (R0 : Rs FB H0 σ0 (δ0.set i (.raw (.ref p)))) (hp : FB p = none) (R : Rs F1 H1 σ (δ1.set i (.pr (atP p xs)))) (e1 : Ex FB F1) (h1 : F1 p = some (.lst ws))
    (hs : ∀ (k : Nat) (x : DV), k ≠ i → δ1[k]? = some x → x.free = true ∨ ((∀ ys, x ≠ .ow ys) ∧ δ0[k]? = some x ∧ σ[k]? = σ0[k]?)) (hi : σ[i]? = some (some (.ref p))) : Rs (del F1 p) H1 σ (δ1.set i (.raw (.ref p))) := by
  refine ⟨fun a o e => ?_, by have := R.len; rw [List.length_set] at this ⊢; exact this, fun k x e => ?_, fun k j as bs o hkj q1 q2 => ?_, R.tb, fun a ps z => ?_⟩
  · by_cases z : a = p
    · subst z; rw [del_same] at e; cases e
    · rw [del_ne z] at e; exact R.sub a o e
  · rcases get_set e with ⟨rfl, rfl⟩ | ⟨z, e⟩
    · exact ⟨_, hi, rfl⟩
    · obtain ⟨o, q1, q2⟩ := R.at_ k x (by rw [List.getElem?_set_ne z]; exact e)
      refine ⟨o, q1, ?_⟩
      rcases hs k x (Ne.symm z) e with hf | ⟨no, h0, hσ⟩
      · cases x with
        | un => trivial
        | d x => obtain ⟨v, k1, k2⟩ := q2; exact ⟨v, k1, k2.del hf h1⟩
        | raw v => exact q2
        | pr P => cases hf
        | ow ys =>
          obtain ⟨b, us, k1, k2, k3, k4⟩ := q2
          exact ⟨b, us, k1, by by_cases w : b = p; · rw [w, del_same]
                               · rw [del_ne w]; exact k2, k3, k4.del h1 hf⟩
      · obtain ⟨o', w1, w2⟩ := R0.at_ k x (by rw [List.getElem?_set_ne z]; exact h0)
        rw [← hσ, q1] at w1
        cases w1
        cases x with
        | un => trivial
        | d x => obtain ⟨v, k1, k2⟩ := w2; exact ⟨v, k1, k2.ex (del_ex e1 hp)⟩
        | raw v => exact w2
        | pr P => obtain ⟨v, k1, k2⟩ := w2; exact ⟨v, k1, fun F2 e => k2 F2 ((del_ex e1 hp).trans e)⟩
        | ow ys => exact absurd rfl (no ys)
  · have key : ∀ {m : Nat} {zs : List D}, (δ1.set i (.raw (.ref p)))[m]? = some (.ow zs) → (δ1.set i (.pr (atP p xs)))[m]? = some (.ow zs) := fun {m zs} h => by
      rcases get_set h with ⟨_, e⟩ | ⟨z, e⟩
      · cases e
      · rw [List.getElem?_set_ne z]; exact e
    exact R.ap k j as bs o hkj (key q1) (key q2)
  · by_cases w : a = p
    · rw [w, del_same] at z; cases z
    · rw [del_ne w] at z; exact R.nt a ps z
/-- taken into the frame's own hand; out of it -/
theorem Rs.forget_raw (R : Rs F H σ (δ.set i (.ow xs))) (hi : i < δ.length) (hp : σ[i]? = some (some (.ref p))) : Rs F H σ (δ.set i (.raw (.ref p))) := by
  refine ⟨R.sub, by have := R.len; rw [List.length_set] at this ⊢; exact this, fun k x e => ?_, fun k j as bs o hkj q1 q2 => ?_, R.tb, R.nt⟩
  · rcases get_set e with ⟨rfl, rfl⟩ | ⟨z, e⟩
    · exact ⟨_, hp, rfl⟩
    · exact R.at_ k x (by rw [List.getElem?_set_ne z]; exact e)
  · have key : ∀ {m : Nat} {zs : List D}, (δ.set i (.raw (.ref p)))[m]? = some (.ow zs) → (δ.set i (.ow xs))[m]? = some (.ow zs) := fun {m zs} h => by
      rcases get_set h with ⟨_, e⟩ | ⟨z, e⟩
      · cases e
      · rw [List.getElem?_set_ne z]; exact e
    exact R.ap k j as bs o hkj (key q1) (key q2)
theorem Rs.take_ (R : Rs FB H σ (δ.set i (.raw (.ref p)))) (hi : i < δ.length) (hp : FB p = none) (hH : H p = some (.lst ws)) (ra : RpA FB ws xs) (no : ¬ Own σ (δ.set i (.raw (.ref p))) p) : Rs FB H σ (δ.set i (.ow xs)) := by
  have := R.setO (i := i) hp hH ra no
  rw [List.set_set] at this
  have e : σ.set i (some (.ref p)) = σ := by
    obtain ⟨o, q1, q2⟩ := R.at_ i _ (List.getElem?_set_self hi)
    have q2 : o = some (.ref p) := q2
    subst q2
    exact List.ext_getElem? fun k => by
      by_cases z : i = k
      · subst z; rw [List.getElem?_set_self (List.getElem?_eq_some_iff.mp q1).1, q1]
      · rw [List.getElem?_set_ne z]
  rw [e] at this
  exact this
theorem Rs.give (R : Rs F H σ (δ.set i (.ow xs))) (hi : i < δ.length) (hp : σ[i]? = some (some (.ref p))) : Rs F H σ (δ.set i (.raw (.ref p))) ∧ F p = none ∧ (∃ ws, H p = some (.lst ws) ∧ RpA F ws xs) ∧ ¬ Own σ (δ.set i (.raw (.ref p))) p := by
  obtain ⟨o, q1, b, us, k1, k2, k3, k4⟩ := R.at_ i _ (List.getElem?_set_self hi)
  rw [hp] at q1; cases q1; cases k1
  refine ⟨?_, k2, ⟨us, k3, k4⟩, fun ⟨k, zs, h1, h2⟩ => ?_⟩
  · have := R.forget_raw hi hp
    exact this
  · rcases get_set h1 with ⟨_, e⟩ | ⟨z, e⟩
    · cases e
    · exact R.ap i k xs zs _ z (List.getElem?_set_self hi) (by rw [List.getElem?_set_ne z]; exact e) hp h2
end
end DL
end
section
set_option Elab.async false
set_option linter.all false
set_option maxRecDepth 100000
set_option maxHeartbeats 2000000
/-! DLn: a turn over a list that is lent, changed, lent. -/
namespace DL
open PySem PySem.Spec PyProof.Rows L2
variable [TL]
section
variable {F H F1 H1 F' H' FB : Hp} {σ σ' : L2.St} {δ δ' δL : List DV} {p : Addr} {ws : List V} {xs ys : List D} {i c : Nat} {l : HO}
/-- the frame's lists and the one at p -/
def OO (σ : L2.St) (δ : List DV) (i : Nat) (p : Addr) (a : Addr) : Prop := Own σ (δ.set i (.raw (.ref p))) a ∨ a = p
theorem go_lend (g : Go (Own σ (δ.set i (.pr (atP p xs)))) (Own σ' (δ'.set i (.pr (atP p ys)))) (upd F p l) H F1 H1) (hp : F p = none) : Go (OO σ δ i p) (OO σ' δ' i p) F H (del F1 p) H1 := by
  have raw : ∀ {v : V} {ys : List D}, DV.raw v ≠ .ow ys := fun h => nomatch h
  have prn : ∀ {P : Hp → V → Prop} {ys : List D}, DV.pr P ≠ .ow ys := fun h => nomatch h
  refine ⟨del_ex ((Ex.new hp).trans g.ff) hp, fun a o h n nt => g.keep a o h (fun z => n (.inl (own_set2 (fun _ => prn) (fun _ => raw) z))) nt, fun a o h => ?_, g.there, fun a h => ?_⟩
  · by_cases z : a = p
    · exact .inr (.inr (.inr z))
    · rw [del_ne z] at h
      rcases g.new a o h with q | q | q
      · rw [upd_ne z] at q; exact .inl q
      · exact .inr (.inl q)
      · exact .inr (.inr (.inl (own_set2 (fun _ => prn) (fun _ => raw) q)))
  · rcases h with h | h
    · rcases g.own a (own_set2 (fun _ => raw) (fun _ => prn) h) with q | q
      · exact .inl (.inl (own_set2 (fun _ => prn) (fun _ => raw) q))
      · exact .inr q
    · exact .inl (.inr h)
theorem go_take (g : Go (Own σ (δ.set i (.ow xs))) (Own σ' (δ'.set i (.ow ys))) F H F' H') (hi : σ[i]? = some (some (.ref p))) (hi' : σ'[i]? = some (some (.ref p))) (hl : i < δ.length) (hl' : i < δ'.length) : Go (OO σ δ i p) (OO σ' δ' i p) F H F' H' := by
  have to : ∀ {σ : L2.St} {δ : List DV} {xs : List D} {a : Addr}, σ[i]? = some (some (.ref p)) → Own σ (δ.set i (.ow xs)) a → OO σ δ i p a := fun {σ δ xs a} hi ⟨k, zs, h1, h2⟩ => by
    rcases get_set h1 with ⟨rfl, _⟩ | ⟨z, e⟩
    · rw [hi] at h2; cases h2; exact .inr rfl
    · exact .inl ⟨k, zs, by rw [List.getElem?_set_ne z]; exact e, h2⟩
  have fro : ∀ {σ : L2.St} {δ : List DV} {xs : List D} {a : Addr}, σ[i]? = some (some (.ref p)) → i < δ.length → OO σ δ i p a → Own σ (δ.set i (.ow xs)) a := fun {σ δ xs a} hi hl h => by
    rcases h with ⟨k, zs, h1, h2⟩ | rfl
    · rcases get_set h1 with ⟨_, e⟩ | ⟨z, e⟩
      · cases e
      · exact ⟨k, zs, by rw [List.getElem?_set_ne z]; exact e, h2⟩
    · exact ⟨i, xs, List.getElem?_set_self hl, hi⟩
  exact ⟨g.ff, fun a o h n nt => g.keep a o h (fun z => n (to hi z)) nt, fun a o h => (g.new a o h).imp id (Or.imp id (to hi)), g.there, fun a h => (g.own a (fro hi' hl' h)).imp (to hi) id⟩
end
section
variable {X : Cx} {pn : List Nat} {δL : List DV} {xs xs' : List D} {i c : Nat} {C : Addr} {s1 s2 s3 s4 : Stmt}
theorem turn_list (hic : i ≠ c) (hi : i < δL.length) (hui : δL[i]? = some .un) (huc : δL[c]? = some .un) (hpn : ∀ k, k < δL.length → k ≠ c → k ∈ pn) (hfree : ∀ (k : Nat) (ys : List D), δL[k]? = some (DV.ow ys) → ys.all D.free = true)
    (h1 : ∀ p, DS X pn (δL.set i (.pr (atP p xs))) s1 (.nx ((δL.set c (.d (.exc C (.fn p)))).set i (.pr (atP p xs)))))
    (h2 : ∀ p, DS X pn ((δL.set c (.d (.exc C (.fn p)))).set i (.pr (atP p xs))) s2 (.nx ((δL.set c (.d (.exc C (.fn p)))).set i (.pr (atP p xs)))))
    (h3 : ∀ p, DS X pn ((δL.set c (.d (.exc C (.fn p)))).set i (.ow xs)) s3 (.nx ((δL.set c (.d (.exc C (.fn p)))).set i (.ow xs'))))
    (h4 : ∀ p, DS X pn ((δL.set c (.d (.exc C (.fn p)))).set i (.pr (atP p xs'))) s4 (.nx ((δL.set c (.d (.exc C (.fn p)))).set i (.pr (atP p xs'))))) (p : Addr) :
    PSs X [s1, s2, s3, s4] (fun D σ H => ∃ FB ws, Rs FB H σ (δL.set i (.raw (.ref p))) ∧ FB p = none ∧ H p = some (.lst ws) ∧ RpA FB ws xs ∧ ¬ Own σ (δL.set i (.raw (.ref p))) p ∧
      ∀ σ' F' H', Go (fun a => Own σ δL a ∨ a = p) (Own σ' δL) FB H F' H' → Rs F' H' σ' δL → (∀ k ∈ pn, σ'[k]? = σ[k]?) → D.nx σ' H') := by
  obtain ⟨δM, hM⟩ : ∃ δM, δM = δL.set c (.d (.exc C (.fn p))) := ⟨_, rfl⟩
  have h1 := h1 p; have h2 := h2 p; have h3 := h3 p; have h4 := h4 p
  rw [← hM] at h1 h2 h3 h4
  have lM : i < δM.length := by rw [hM, List.length_set]; exact hi
  have getM : ∀ {k : Nat} {x : DV}, δM[k]? = some x → x.free = true ∨ ((∀ ys, x ≠ .ow ys) ∧ δL[k]? = some x ∧ k ∈ pn) := fun {k x} e => by
    rw [hM] at e
    rcases get_set e with ⟨_, rfl⟩ | ⟨z, e⟩
    · exact .inl rfl
    · cases x with
      | ow ys => exact .inl (hfree k ys e)
      | _ => exact .inr ⟨fun _ h => (nomatch h), e, hpn k (List.getElem?_eq_some_iff.mp e).1 (Ne.symm z)⟩
  have getM2 : ∀ {k : Nat} {x : DV}, δM[k]? = some x → x.free = true ∨ ((∀ ys, x ≠ .ow ys) ∧ δM[k]? = some x ∧ k ∈ pn) := fun {k x} e => (getM e).imp id fun ⟨a, _, b⟩ => ⟨a, e, b⟩
  have owM : ∀ {σ σ' : L2.St} {a : Addr}, (∀ k ∈ pn, σ'[k]? = σ[k]?) → Own σ' (δM.set i (.raw (.ref p))) a → Own σ (δL.set i (.raw (.ref p))) a := fun {σ σ' a} hs ⟨k, zs, q1, q2⟩ => by
    rcases get_set q1 with ⟨_, e⟩ | ⟨z, e⟩
    · cases e
    · rw [hM] at e
      rcases get_set e with ⟨_, e⟩ | ⟨z2, e⟩
      · cases e
      · exact ⟨k, zs, by rw [List.getElem?_set_ne z]; exact e, by rw [← hs k (hpn k (List.getElem?_eq_some_iff.mp e).1 (Ne.symm z2))]; exact q2⟩
  refine (pss_cons h1 (pss_cons h2 (pss_cons h3 (pss_cons h4 pss_nil)))).imp fun D σ H ⟨FB, ws, R, hp, hH, ra, no, k⟩ => ?_
  have hσ : σ[i]? = some (some (.ref p)) := by
    obtain ⟨o, q1, q2⟩ := R.at_ i _ (List.getElem?_set_self hi)
    have q2 : o = some (.ref p) := q2
    rw [q1, q2]
  refine ⟨upd FB p (.lst ws), R.lend hp hH ra no, fun σ1 F1 H1 A1 => ⟨F1, A1.rs, fun σ2 F2 H2 A2 => ?_⟩⟩
  have A12 := A1.trans A2
  have hF2 : F2 p = some (.lst ws) := A12.go.ff _ _ upd_same
  have ex2 : Ex FB F2 := (Ex.new hp).trans A12.go.ff
  have hσ2 : σ2[i]? = some (some (.ref p)) := by rw [A12.pin i (hpn i hi hic), hσ]
  have R2 := Rs.back (δ0 := δL) (δ1 := δM) R hp A12.rs ex2 hF2 (fun k x hk e => (getM e).imp id fun ⟨a, b, m⟩ => ⟨a, b, A12.pin k m⟩) hσ2
  have no2 : ¬ Own σ2 (δM.set i (.raw (.ref p))) p := fun z => no (owM A12.pin z)
  have ra2 : RpA (del F2 p) ws xs := ra.ex (del_ex ex2 hp)
  refine ⟨del F2 p, R2.take_ lM del_same (A12.rs.sub _ _ hF2) ra2 no2, fun σ3 F3 H3 A3 => ?_⟩
  have hσ3 : σ3[i]? = some (some (.ref p)) := by rw [A3.pin i (hpn i hi hic), hσ2]
  obtain ⟨R3, hp3, ⟨ws3, hH3, ra3⟩, no3⟩ := A3.rs.give lM hσ3
  refine ⟨upd F3 p (.lst ws3), R3.lend hp3 hH3 ra3 no3, fun σ4 F4 H4 A4 => ?_⟩
  have hF4 : F4 p = some (.lst ws3) := A4.go.ff _ _ upd_same
  have ex4 : Ex F3 F4 := (Ex.new hp3).trans A4.go.ff
  have hσ4 : σ4[i]? = some (some (.ref p)) := by rw [A4.pin i (hpn i hi hic), hσ3]
  have R4 := Rs.back (δ0 := δM) (δ1 := δM) R3 hp3 A4.rs ex4 hF4 (fun k x hk e => (getM2 e).imp id fun ⟨a, b, m⟩ => ⟨a, b, A4.pin k m⟩) hσ4
  have G : Go (OO σ δL i p) (OO σ4 δM i p) FB H (del F4 p) H4 := (go_lend A12.go hp).trans ((go_take A3.go hσ2 hσ3 lM lM).trans (go_lend A4.go hp3))
  have low : ∀ {a : Addr}, Own σ (δL.set i (.raw (.ref p))) a → Own σ δL a := fun {a} ⟨k, zs, q1, q2⟩ => by
    rcases get_set q1 with ⟨_, e⟩ | ⟨z, e⟩
    · cases e
    · exact ⟨k, zs, e, q2⟩
  have up : ∀ {a : Addr}, Own σ4 δL a → Own σ4 (δM.set i (.raw (.ref p))) a := fun {a} ⟨k, zs, q1, q2⟩ => by
    have n1 : i ≠ k := fun z => by subst z; rw [hui] at q1; cases q1
    have n2 : c ≠ k := fun z => by subst z; rw [huc] at q1; cases q1
    exact ⟨k, zs, by rw [List.getElem?_set_ne n1, hM, List.getElem?_set_ne n2]; exact q1, q2⟩
  refine k σ4 (del F4 p) H4 ⟨G.ff, fun a o h n nt => G.keep a o h (fun z => n (z.imp low id)) nt, fun a o h => (G.new a o h).imp id (Or.imp id (Or.imp low id)), G.there, fun a h => (G.own a (.inl (up h))).imp (Or.imp low id) id⟩
    (R4.drop (by rw [hM, List.length_set, List.length_set]) fun k x e => ?_) fun k hk => ((A4.pin k hk).trans ((A3.pin k hk).trans (A12.pin k hk)))
  by_cases n1 : i = k
  · subst n1; rw [hui] at e; cases e; exact .inl rfl
  · by_cases n2 : c = k
    · subst n2; rw [huc] at e; cases e; exact .inl rfl
    · exact .inr (by rw [List.getElem?_set_ne n1, hM, List.getElem?_set_ne n2]; exact e)
end
end DL
end
section
set_option Elab.async false
set_option linter.all false
set_option maxRecDepth 100000
set_option maxHeartbeats 2000000
/-! DLm: displays of new lists; odds = [..]; for odd in odds + [..]: .. -/
namespace DL
open PySem PySem.Spec PyProof.Rows L2
variable [TL]
/-- a display's values: data, new lists, each apart from the other -/
structure RsR (F H : Hp) (O : Addr → Prop) (H0 : Hp) (O' : Addr → Prop) (vs : List V) (rs : List DV) : Prop where
  len : vs.length = rs.length
  at_ : ∀ (k : Nat) (v : V) (r : DV), vs[k]? = some v → rs[k]? = some r → Res F H O H0 O' v r
  apart : ∀ (k j : Nat) (xs ys : List D) (v : V), k ≠ j → rs[k]? = some (.ow xs) → rs[j]? = some (.ow ys) → vs[k]? = some v → vs[j]? ≠ some v
def tDR (δ : List DV) (rs : List DV) (δ' : List DV) : TA := fun σ H Q => ∃ F, Rs F H σ δ ∧ ∀ vs F' H', Go (Own σ δ) (Own σ δ') F H F' H' → Rs F' H' σ δ' → RsR F' H' (Own σ δ) H (Own σ δ') vs rs → Q vs H'
abbrev DR (X : Cx) (δ : List DV) (es : List Expr) (rs : List DV) (δ' : List DV) : Prop := PA X es (tDR δ rs δ')
section
variable {X : Cx} {δ δ1 δ2 : List DV} {e : Expr} {es : List Expr} {r : DV} {rs : List DV} {F H : Hp} {σ : L2.St}
theorem dr_nil : DR X δ [] [] δ := pa_nil.imp fun σ H Q ⟨F, R, k⟩ => k [] F H (.refl _ F H) R ⟨rfl, fun k v r h => by simp at h, fun k j xs ys v _ h => by simp at h⟩
theorem apart_ {O O' O1 : Addr → Prop} {F1 H1 F2 H2 H0 : Hp} {v w : V} {xs ys : List D} (h1 : Res F1 H1 O H0 O1 v (.ow xs)) (h2 : Res F2 H2 O1 H1 O' w (.ow ys)) : v ≠ w := by
  obtain ⟨p, us, rfl, a1, a2, a3, a4, a5⟩ := h1
  obtain ⟨q, ts, rfl, b1, b2, b3, b4, b5⟩ := h2
  intro e
  cases e
  rcases b5 with b5 | b5
  · exact b5.lst a2
  · exact a4 b5
theorem dr_cons (ha : DE X δ e r δ1) (hr : DR X δ1 es rs δ2) (hs : starEach (e :: es) X.env = (false, eval e X.env) :: starEach es X.env := by rfl) : DR X δ (e :: es) (r :: rs) δ2 := (pa_cons ha hr hs).imp fun σ H Q ⟨F, R, k⟩ => ⟨F, R, fun v F1 H1 g1 R1 r1 => ⟨F1, R1, fun vs F2 H2 g2 R2 rr => k _ F2 H2 (g1.trans g2) R2 (by
  refine ⟨by simp [rr.len], fun k w q h1 h2 => ?_, fun k j xs ys w hkj h1 h2 h3 h4 => ?_⟩
  · cases k with
    | zero => simp at h1 h2; subst h1 h2; exact Res.on (F := F) r1 g2
    | succ k => exact Res.back g1 (rr.at_ k w q (by simpa using h1) (by simpa using h2))
  · cases k with
    | zero =>
      cases j with
      | zero => exact hkj rfl
      | succ j2 =>
        simp at h1 h3
        subst h1 h3
        exact apart_ r1 (rr.at_ j2 _ _ (by simpa using h4) (by simpa using h2)) rfl
    | succ k2 =>
      cases j with
      | zero =>
        simp at h2 h4
        subst h2 h4
        exact apart_ r1 (rr.at_ k2 _ _ (by simpa using h3) (by simpa using h1)) rfl
      | succ j2 => exact rr.apart k2 j2 xs ys w (by omega) (by simpa using h1) (by simpa using h2) (by simpa using h3) (by simpa using h4))⟩⟩
theorem own_un {i : Nat} {v : Option V} (h : δ[i]? = some .un) : Own (σ.set i v) δ = Own σ δ := funext fun a => propext ⟨fun ⟨k, xs, h1, h2⟩ => by
  have n : i ≠ k := fun z => by subst z; rw [h] at h1; cases h1
  exact ⟨k, xs, h1, by rw [List.getElem?_set_ne n] at h2; exact h2⟩, fun ⟨k, xs, h1, h2⟩ => by
  have n : i ≠ k := fun z => by subst z; rw [h] at h1; cases h1
  exact ⟨k, xs, h1, by rw [List.getElem?_set_ne n]; exact h2⟩⟩
theorem set_un {i : Nat} (h : δ[i]? = some .un) : δ.set i .un = δ := List.ext_getElem? fun k => by
  by_cases z : i = k
  · subst z; rw [List.getElem?_set_self (List.getElem?_eq_some_iff.mp h).1, h]
  · rw [List.getElem?_set_ne z]
theorem Rs.set_un (R : Rs F H σ δ) {i : Nat} {v : Option V} (h : δ[i]? = some .un) : Rs F H (σ.set i v) δ := by
  have := R.set_ (i := i) (v := v) (x := .un) (fun _ h => nomatch h) trivial
  rwa [DL.set_un h] at this
theorem own_setd {i : Nat} {x : DV} (h : δ[i]? = some .un) (hx : ∀ xs, x ≠ .ow xs) : Own σ (δ.set i x) = Own σ δ := funext fun a => propext ⟨fun ⟨k, xs, h1, h2⟩ => by
  rcases get_set h1 with ⟨_, e⟩ | ⟨z, e⟩
  · exact absurd e.symm (hx xs)
  · exact ⟨k, xs, e, h2⟩, fun ⟨k, xs, h1, h2⟩ => by
  have n : i ≠ k := fun z => by subst z; rw [h] at h1; cases h1
  exact ⟨k, xs, by rw [List.getElem?_set_ne n]; exact h1, h2⟩⟩
/-- the turn over a list, as turn_list has it -/
def tTurn (pn : List Nat) (δL : List DV) (i : Nat) (p : Addr) (xs : List D) : TS := fun D σ H => ∃ FB ws, Rs FB H σ (δL.set i (.raw (.ref p))) ∧ FB p = none ∧ H p = some (.lst ws) ∧ RpA FB ws xs ∧ ¬ Own σ (δL.set i (.raw (.ref p))) p ∧
      ∀ σ' F' H', Go (fun a => Own σ δL a ∨ a = p) (Own σ' δL) FB H F' H' → Rs F' H' σ' δL → (∀ k ∈ pn, σ'[k]? = σ[k]?) → D.nx σ' H'
def tItem (X : Cx) (pn : List Nat) (δL : List DV) (i : Nat) (p : Addr) : DV → TS
  | .d e => tS X pn (δL.set i (.d e)) (.nx δL)
  | .ow xs => tTurn pn δL i p xs
  | _ => fun _ _ _ => False
theorem ds_odds {pn0 pn : List Nat} {a i : Nat} {na ni : Str} {es1 es2 : List Expr} {rs1 rs2 : List DV} {body rest : List Stmt} {o : Out} {q1 q2 q3 q4 q5 pos1 pos2 : Pos}
    (hp : PassesOwn (model X.prog X.w) X.A X.env X.xe) (hc : X.calm = true) (hN : X.N.Nodup) (ha : X.N[a]? = some na) (hla : X.env.scope.names.lookup na = some .local) (hi : X.N[i]? = some ni) (hxi : Loc X.env.scope ni) (hai : a ≠ i) (hua : δ[a]? = some .un) (hui : δ[i]? = some .un) (hpa : a ∉ pn0) (hpi : i ∉ pn0) (hpn : ∀ k ∈ pn0, k ∈ pn)
    (e1 : DR X δ es1 rs1 δ) (e2 : DR X δ es2 rs2 δ) (hk : ∀ r ∈ rs1 ++ rs2, (∃ e, r = .d e) ∨ ∃ xs, r = .ow xs) (hit : ∀ r ∈ rs1 ++ rs2, ∀ p, PSs X body (tItem X pn δ i p r)) (l1 : rs1.length + rs2.length ≤ sizeLine)
    (hrest : DSs X pn0 δ rest o)
    (hsw : swapsWith (.List es1 q1) (some (.Name na q2)) pos1.line X.env = pure false := by rfl) (hd : (na == ("__debug__" : Str)) = false := by decide) (hcd : (na == ("__classdict__" : Str)) = false := by decide)
    (hfi : X.fn ni = true ∨ X.env.scope.names.lookup ni = some .local := by first | exact .inl rfl | exact .inr rfl | assumption)
    (hs : ∀ x, foldedSetIterable (.BinOp (.Name na q3) .Add (.List es2 q4) q5) X.env x = pure x := by intro _; rfl) {q6 : Pos} :
    DSs X pn0 δ (.Assign [.Name na q2] (.List es1 q1) pos1 :: .For (.Name ni q6) (.BinOp (.Name na q3) .Add (.List es2 q4) q5) body [] pos2 :: rest) o := by
  have B : PSs X body (fun D σ H => ∃ q : { q : DV × Addr // q.1 ∈ rs1 ++ rs2 }, tItem X pn δ i q.1.2 q.1.1 D σ H) := pss_ex fun q => hit q.1.1 q.2 q.1.2
  refine (pss_cons (ps_set (i := a) hN ha (.inl hla) (pe_lst e1) hsw (.inr hla)) (pss_cons (ps_for hp hc (pi_list (pe_op op_cat (pe_var (i := a) ha (.inl hla) hd hcd) (pe_lst e2))) (pg_name (i := i) hN hi hxi hfi) B hs) hrest)).imp fun D σ H ⟨F, R, k⟩ => ?_
  refine ⟨F, R, fun vs1 F1 H1 g1 R1 rr1 => ⟨by rw [rr1.len]; omega, fun L0 hL0 => ?_⟩⟩
  have hF10 : F1 L0 = none := R1.sub.none hL0
  have la : a < σ.length := by rw [R.len]; exact (List.getElem?_eq_some_iff.mp hua).1
  have eO : Own (σ.set a (some (V.ref L0))) δ = Own σ δ := own_un hua
  have R1' : Rs (upd F1 L0 (.lst vs1)) (upd H1 L0 (.lst vs1)) (σ.set a (some (.ref L0))) δ := (R1.new (o := .lst vs1) hL0 (fun _ h => nomatch h)).set_un hua
  have gN : Go (Own σ δ) (Own σ δ) F1 H1 (upd F1 L0 (.lst vs1)) (upd H1 L0 (.lst vs1)) := Go.new_ hL0 hF10
  refine ⟨.ref L0, List.getElem?_set_self la, upd F1 L0 (.lst vs1), R1', fun vs2 F2 H2 g2 R2 rr2 => ⟨by rw [rr2.len]; omega, fun L1 hL1 => ?_⟩⟩
  rw [eO] at g2 rr2
  have hL0' : H2 L0 = some (.lst vs1) := R2.sub _ _ (g2.ff _ _ upd_same)
  have hL01 : L0 ≠ L1 := ne_of_none hL0' hL1
  refine ⟨L0, L1, vs1, vs2, rfl, rfl, by rw [upd_ne hL01]; exact hL0', upd_same, by rw [rr1.len, rr2.len]; exact l1, fun L hL => ⟨L, rfl, ⟨_, SqL.of upd_same⟩, ?_⟩⟩
  have hL2 : H2 L = none := by
    by_cases z : L = L1
    · rw [z, upd_same] at hL; cases hL
    · rw [upd_ne z] at hL; exact hL
  have R2' := R2.newH (o := .lst vs2) hL1
  have g3 : Go (Own σ δ) (Own σ δ) F2 H2 F2 (upd H2 L1 (.lst vs2)) := Go.newH hL1
  have R3 := R2'.new (o := .lst (vs1 ++ vs2)) hL (fun _ h => nomatch h)
  have g4 : Go (Own σ δ) (Own σ δ) F2 (upd H2 L1 (.lst vs2)) (upd F2 L (.lst (vs1 ++ vs2))) (upd (upd H2 L1 (.lst vs2)) L (.lst (vs1 ++ vs2))) := Go.new_ hL (R2'.sub.none hL)
  have gA := (gN.trans g2).trans (g3.trans g4)
  have gB := g3.trans g4
  have gF := g1.trans gA
  -- the items as they stand ahead of the loop
  have rr : RsR (upd F2 L (.lst (vs1 ++ vs2))) (upd (upd H2 L1 (.lst vs2)) L (.lst (vs1 ++ vs2))) (Own σ δ) H (Own σ δ) (vs1 ++ vs2) (rs1 ++ rs2) := by
    have split : ∀ {k : Nat} {v : V} {r : DV}, (vs1 ++ vs2)[k]? = some v → (rs1 ++ rs2)[k]? = some r → (k < rs1.length ∧ vs1[k]? = some v ∧ rs1[k]? = some r) ∨ (rs1.length ≤ k ∧ vs2[k - rs1.length]? = some v ∧ rs2[k - rs1.length]? = some r) := fun {k v r} h1 h2 => by
      by_cases z : k < rs1.length
      · rw [List.getElem?_append_left (by rw [rr1.len]; exact z)] at h1
        rw [List.getElem?_append_left z] at h2
        exact .inl ⟨z, h1, h2⟩
      · rw [List.getElem?_append_right (by rw [rr1.len]; omega), rr1.len] at h1
        rw [List.getElem?_append_right (by omega)] at h2
        exact .inr ⟨by omega, h1, h2⟩
    have one : ∀ {k : Nat} {v : V} {r : DV}, vs1[k]? = some v → rs1[k]? = some r → Res (upd F1 L0 (.lst vs1)) (upd H1 L0 (.lst vs1)) (Own σ δ) H (Own σ δ) v r := fun h1 h2 => Res.on (F := F) (rr1.at_ _ _ _ h1 h2) gN
    refine ⟨by simp [rr1.len, rr2.len], fun k v r h1 h2 => ?_, fun k j xs ys v hkj h1 h2 h3 h4 => ?_⟩
    · rcases split h1 h2 with ⟨_, a1, a2⟩ | ⟨_, a1, a2⟩
      · exact Res.on (F := F) (rr1.at_ _ _ _ a1 a2) gA
      · exact Res.on (F := F) (Res.back (g1.trans gN) (rr2.at_ _ _ _ a1 a2)) gB
    · rcases split h3 h1 with ⟨b1, a1, a2⟩ | ⟨b1, a1, a2⟩
      · rcases split h4 h2 with ⟨b3, a3, a4⟩ | ⟨b3, a3, a4⟩
        · exact rr1.apart k j xs ys v hkj a2 a4 a1 a3
        · exact apart_ (one a1 a2) (rr2.at_ _ _ _ a3 a4) rfl
      · rcases split h4 h2 with ⟨b3, a3, a4⟩ | ⟨b3, a3, a4⟩
        · exact apart_ (one a3 a4) (rr2.at_ _ _ _ a1 a2) rfl
        · exact rr2.apart _ _ xs ys v (by omega) a2 a4 a1 a3
  obtain ⟨vs, hvs⟩ : ∃ vs, vs = vs1 ++ vs2 := ⟨_, rfl⟩
  obtain ⟨rs, hrs⟩ : ∃ rs, rs = rs1 ++ rs2 := ⟨_, rfl⟩
  obtain ⟨F3, hF3⟩ : ∃ F3, F3 = upd F2 L (.lst vs) := ⟨_, rfl⟩
  obtain ⟨H3, hH3⟩ : ∃ H3, H3 = upd (upd H2 L1 (.lst vs2)) L (.lst vs) := ⟨_, rfl⟩
  have hFL : F3 L = some (.lst vs) := by rw [hF3, upd_same]
  rw [← hvs, ← hrs, ← hF3, ← hH3] at rr
  rw [← hvs, ← hF3, ← hH3] at gF R3
  rw [← hvs, ← hH3]
  have hil : i < σ.length := by rw [R.len]; exact (List.getElem?_eq_some_iff.mp hui).1
  refine for_list (K := X.K) (D := { nx := tS X pn0 δ o D, rt := D.rt, bk := D.bk, ct := D.ct }) (g := gName i) (tb := fun D σ H => ∃ q : { q : DV × Addr // q.1 ∈ rs1 ++ rs2 }, tItem X pn δ i q.1.2 q.1.1 D σ H) (a := L) (xs := vs) (fun j σj Hj => ∃ Fj, Rs Fj Hj σj δ ∧ Fj L = some (.lst vs) ∧ (∀ (k : Nat) (v : V) (r : DV), j ≤ k → vs[k]? = some v → rs[k]? = some r → Res Fj Hj (Own σ δ) H (Own σj δ) v r) ∧ Go (Own σ δ) (Own σj δ) F H Fj Hj ∧ (∀ k ∈ pn0, σj[k]? = σ[k]?) ∧ σj.length = σ.length)
    ⟨F3, R3, hFL, fun k v r _ h1 h2 => by rw [eO]; exact rr.at_ k v r h1 h2, by rw [eO]; exact gF, fun k hk => List.getElem?_set_ne (by rintro rfl; exact hpa hk), by rw [List.length_set]⟩
    (fun j σj Hj _ ⟨Fj, Rj, hl, _⟩ => SqL.of (Rj.sub _ _ hl)) ?_ ?_
  · rintro j v σj Hj hv ⟨Fj, Rj, hl, hr, hg, hpj, hlen⟩
    obtain ⟨r, hr1⟩ : ∃ r, rs[j]? = some r := by
      have : j < rs.length := by rw [← rr.len]; exact (List.getElem?_eq_some_iff.mp hv).1
      exact ⟨_, List.getElem?_eq_getElem this⟩
    have hres := hr j v r (Nat.le_refl _) hv hr1
    have hmem : r ∈ rs1 ++ rs2 := by rw [← hrs]; exact List.mem_of_getElem? hr1
    have ej : Own (σj.set i (some v)) δ = Own σj δ := own_un hui
    have pins : ∀ {σ5 : L2.St}, (∀ k ∈ pn, σ5[k]? = (σj.set i (some v))[k]?) → ∀ k ∈ pn0, σ5[k]? = σ[k]? := fun {σ5} h k hk => by
      rw [h k (hpn k hk), List.getElem?_set_ne (by rintro rfl; exact hpi hk), hpj k hk]
    cases r with
    | d e =>
      have hres : Rp Fj v e := hres
      have es : Own (σj.set i (some v)) (δ.set i (.d e)) = Own σj δ := by rw [own_setd (x := .d e) hui (fun _ h => nomatch h), ej]
      refine ⟨⟨(.d e, 0), hmem⟩, Fj, Rj.set_ (fun _ h => nomatch h) ⟨v, rfl, hres⟩, fun σ5 F5 H5 A5 => ?_⟩
      have g5 := A5.go
      rw [es] at g5
      exact ⟨F5, A5.rs, g5.ff _ _ hl, fun k w q hk h1 h2 => Res.on (F := F) (hr k w q (by omega) h1 h2) g5, hg.trans g5, pins A5.pin, by rw [A5.rs.len, ← Rj.len, hlen]⟩
    | ow xs =>
      obtain ⟨p, ws, rfl, f1, f2, f3, f4, f5⟩ := hres
      have er : Own (σj.set i (some (.ref p))) (δ.set i (.raw (.ref p))) = Own σj δ := by rw [own_setd (x := .raw (.ref p)) hui (fun _ h => nomatch h), ej]
      refine ⟨⟨(.ow xs, p), hmem⟩, Fj, ws, Rj.set_ (fun _ h => nomatch h) rfl, f1, f2, f3, by rw [er]; exact f4, fun σ5 F5 H5 G5 R5 p5 => ?_⟩
      rw [ej] at G5
      have gw : Go (Own σ δ) (fun a => Own σj δ a ∨ a = p) F H Fj Hj := ⟨hg.ff, hg.keep, hg.new, hg.there, fun a h => by
        rcases h with h | rfl
        · exact hg.own a h
        · exact f5.symm⟩
      refine ⟨F5, R5, G5.ff _ _ hl, fun k w q hk h1 h2 => ?_, gw.trans G5, pins p5, by rw [R5.len, ← Rj.len, hlen]⟩
      have old := hr k w q (by omega) h1 h2
      cases q with
      | un => trivial
      | d x => exact Rp.ex G5.ff old
      | raw x => exact old
      | pr P => exact fun F6 e6 => old F6 (G5.ff.trans e6)
      | ow ys =>
        obtain ⟨p', ws', rfl, c1, c2, c3, c4, c5⟩ := old
        have np : p' ≠ p := fun z => rr.apart j k xs ys (.ref p) (by omega) hr1 h2 hv (by rw [h1, z])
        have nO : ¬ (Own σj δ p' ∨ p' = p) := fun z => z.elim c4 np
        refine ⟨p', ws', rfl, ?_, G5.keep p' _ c2 nO (fun _ h => nomatch h), c3.ex G5.ff, fun z => (G5.own p' z).elim nO fun q => q.lst c2, c5⟩
        cases z : F5 p' with
        | none => rfl
        | some o5 =>
          rcases G5.new p' o5 z with w | w | w
          · rw [c1] at w; cases w
          · exact (w.lst c2).elim
          · exact absurd w nO
    | un => rcases hk _ hmem with ⟨e, h⟩ | ⟨xs, h⟩ <;> exact nomatch h
    | raw x => rcases hk _ hmem with ⟨e, h⟩ | ⟨xs, h⟩ <;> exact nomatch h
    | pr P => rcases hk _ hmem with ⟨e, h⟩ | ⟨xs, h⟩ <;> exact nomatch h
  · rintro σn Hn ⟨Fn, Rn, hl, _, hg, hpj, _⟩
    exact tS.back (D := D) ⟨hg, Rn, hpj⟩ k
end
end DL
end
section
set_option Elab.async false
set_option linter.all false
set_option maxRecDepth 100000
set_option maxHeartbeats 2000000
/-! DLk: a list lent for one statement; () + t. -/
namespace DL
open PySem PySem.Spec PyProof.Rows L2
variable [TL]
section
variable {X : Cx} {pn pn' : List Nat} {δ δ1 δ2 : List DV} {a b : Expr} {pos : Pos} {st : Stmt} {i : Nat} {xs ys : List D}
theorem de_catT0 (ha : DE X δ a (.d (.tup [])) δ1) (hb : DE X δ1 b (.d (.tup ys)) δ2) (hl : ys.length ≤ sizeLine) : DE X δ (.BinOp a .Add b pos) (.d (.tup ys)) δ2 := de_bin op_catA ha hb fun F H v u Q e rv ru k => by
  cases rv with
  | tup h1 r1 =>
    cases r1
    cases ru with
    | tup h2 r2 => exact ⟨_, _, _, _, rfl, rfl, SqT.of (e _ _ h1), SqT.of (e _ _ h2), by rw [r2.length]; simpa using hl, fun _ => k _ (.tup h2 r2), fun h => absurd rfl h, fun h => absurd rfl h⟩
theorem de_catTA (ha : DE X δ a (.d (.tup xs)) δ1) (hb : DE X δ1 b (.d (.tup ys)) δ2) (hl : xs.length + ys.length ≤ sizeLine) (hy : ys ≠ []) : DE X δ (.BinOp a .Add b pos) (.d (.tup (xs ++ ys))) δ2 := by
  by_cases h : xs = []
  · subst h
    exact de_catT0 ha hb (by simpa using hl)
  · exact de_catT ha hb hl h hy
theorem ds_borrow (i : Nat) (hi : i < δ.length) (hpn : ∀ k, k < δ.length → k ∈ pn') (hfree : ∀ (k : Nat) (ys : List D), k ≠ i → δ[k]? = some (.ow ys) → ys.all D.free = true) (h0 : δ[i]? = some (.ow xs))
    (h : ∀ p, DS X pn' (δ.set i (.pr (atP p xs))) st (.nx (δ.set i (.pr (atP p xs))))) : DS X pn δ st (.nx δ) := by
  refine ⟨fun pins s σ H D I ⟨F, R, k⟩ => ?_⟩
  have eδ : δ.set i (.ow xs) = δ := List.ext_getElem? fun k => by
    by_cases z : i = k
    · subst z; rw [List.getElem?_set_self hi, h0]
    · rw [List.getElem?_set_ne z]
  obtain ⟨o, hσ, p, vs, e1, e2, e3, e4⟩ := R.at_ i _ h0
  subst e1
  obtain ⟨R1, hp1, ⟨ws, hH1, ra1⟩, no1⟩ := Rs.give (xs := xs) (i := i) (eδ.symm ▸ R) hi hσ
  refine (h p).run pins s σ H D I ⟨upd F p (.lst ws), R1.lend hp1 hH1 ra1 no1, fun σ4 F4 H4 A4 => ?_⟩
  have hF4 : F4 p = some (.lst ws) := A4.go.ff _ _ upd_same
  have ex4 : Ex F F4 := (Ex.new hp1).trans A4.go.ff
  have same : ∀ k, σ4[k]? = σ[k]? := fun k => by
    by_cases z : k < δ.length
    · exact A4.pin k (hpn k z)
    · have l4 : σ4.length = δ.length := by have := A4.rs.len; rwa [List.length_set] at this
      rw [List.getElem?_eq_none (by omega), List.getElem?_eq_none (by rw [R.len]; omega)]
  have eσ : σ4 = σ := List.ext_getElem? same
  subst eσ
  have R4 := Rs.back (δ0 := δ) (δ1 := δ) R1 hp1 A4.rs ex4 hF4 (fun k x hk e => by
    cases x with
    | ow ys => exact .inl (hfree k ys hk e)
    | _ => exact .inr ⟨fun _ h => (nomatch h), e, rfl⟩) hσ
  have ra4 : RpA (del F4 p) ws xs := ra1.ex (del_ex ex4 hp1)
  have RT := R4.take_ hi del_same (A4.rs.sub _ _ hF4) ra4 no1
  have G0 := go_lend A4.go hp1
  refine k σ4 (del F4 p) H4 ⟨?_, eδ ▸ RT, fun _ _ => rfl⟩
  have OOo : ∀ {a : Addr}, OO σ4 δ i p a ↔ Own σ4 δ a := fun {a} => ⟨fun z => by
    rcases z with ⟨k, zs, h1, h2⟩ | rfl
    · rcases get_set h1 with ⟨_, e⟩ | ⟨z, e⟩
      · cases e
      · exact ⟨k, zs, e, h2⟩
    · exact ⟨i, xs, h0, hσ⟩, fun ⟨k, zs, h1, h2⟩ => by
    by_cases z : i = k
    · subst z
      rw [hσ] at h2
      cases h2
      exact .inr rfl
    · exact .inl ⟨k, zs, by rw [List.getElem?_set_ne z]; exact h1, h2⟩⟩
  exact ⟨G0.ff, fun a o h n nt => G0.keep a o h (fun z => n (OOo.mp z)) nt, fun a o h => (G0.new a o h).imp id (Or.imp id OOo.mp), G0.there, fun a h => (G0.own a (OOo.mpr h)).imp OOo.mp id⟩
end
end DL
end
section
set_option Elab.async false
set_option linter.all false
set_option maxRecDepth 100000
set_option maxHeartbeats 2000000
/-! DLj: less is known ahead; slots dropped. -/
namespace DL
open PySem PySem.Spec PyProof.Rows L2
variable [TL]
section
variable {X : Cx} {pn : List Nat} {δ δ' δ'' : List DV} {sts : List Stmt} {o : Out}
theorem Go.wk2 {O O2 O' : Addr → Prop} {F H F' H' : Hp} (g : Go O O' F H F' H') (h : ∀ a, O a → O2 a) : Go O2 O' F H F' H' :=
  ⟨g.ff, fun a o e n nt => g.keep a o e (fun z => n (h a z)) nt, fun a o e => (g.new a o e).imp id (Or.imp id (h a)), g.there, fun a e => (g.own a e).imp (h a) id⟩
theorem Res.wk {F' H' H : Hp} {O O2 O' : Addr → Prop} {v : V} {r : DV} (q : Res F' H' O H O' v r) (h : ∀ a, O a → O2 a) : Res F' H' O2 H O' v r := by
  cases r with
  | ow xs =>
    obtain ⟨p, vs, a1, a2, a3, a4, a5, a6⟩ := q
    exact ⟨p, vs, a1, a2, a3, a4, a5, a6.imp id (h p)⟩
  | un => trivial
  | d x => exact q
  | raw v => exact q
  | pr P => exact q
theorem Aft.wk {σ σ' : L2.St} {F H F' H' : Hp} (A : Aft pn σ δ'' F H σ' δ' F' H') (h : ∀ a, Own σ δ'' a → Own σ δ a) : Aft pn σ δ F H σ' δ' F' H' := ⟨A.go.wk2 h, A.rs, A.pin⟩
theorem dss_weak (hl : δ''.length = δ.length) (h : ∀ (i : Nat) (x : DV), δ''[i]? = some x → x = .un ∨ δ[i]? = some x) (hd : DSs X pn δ'' sts o) : DSs X pn δ sts o := hd.imp fun D σ H ⟨F, R, k⟩ => by
  have ow : ∀ a, Own σ δ'' a → Own σ δ a := fun a q => own_drop h q
  refine ⟨F, R.drop hl h, ?_⟩
  cases o with
  | nx δ1 => exact fun σ' F' H' A => k σ' F' H' (A.wk ow)
  | rt r δ1 => exact fun v σ' F' H' A q => k v σ' F' H' (A.wk ow) (q.wk ow)
  | bk δ1 => exact fun σ' F' H' A => k σ' F' H' (A.wk ow)
  | ct δ1 => exact fun σ' F' H' A => k σ' F' H' (A.wk ow)
  | ex C d => exact fun dx v σ' δ1 F' H' A => k dx v σ' δ1 F' H' (A.wk ow)
theorem un_set (i : Nat) : ∀ (k : Nat) (x : DV), (δ.set i .un)[k]? = some x → x = .un ∨ δ[k]? = some x := fun k x e => (get_set e).imp (·.2) (·.2)
/-- slot i is dropped behind, ahead -/
theorem dss_un (i : Nat) (h : DSs X pn δ sts (.nx δ')) : DSs X pn δ sts (.nx (δ'.set i .un)) := dss_drop (by rw [List.length_set]) (un_set i) h
theorem dss_unA (i : Nat) (h : DSs X pn (δ.set i .un) sts o) : DSs X pn δ sts o := dss_weak (by rw [List.length_set]) (un_set i) h
/-! ### slices -/
theorem cut_hi {xs : List D} {n : Nat} (h : n ≤ xs.length) : D.cut xs none (some (n : Int)) = xs.take n := by
  have : ¬ ((n : Int) < 0) := by omega
  unfold D.cut HT.sIx
  simp [this, Nat.min_eq_left h]
theorem cut_lo {xs : List D} {n : Nat} (h : n ≤ xs.length) : D.cut xs (some (n : Int)) none = xs.drop n := by
  unfold D.cut HT.sIx
  simp
  have : min n xs.length = n := by omega
  rw [this]
  exact List.take_of_length_le (by simp)
end
end DL
end
section
set_option Elab.async false
set_option linter.all false
set_option maxRecDepth 100000
set_option maxHeartbeats 2000000
/-! DLi: a slot's own list frozen; name = [elt for n in iter]. -/
namespace DL
open PySem PySem.Spec PyProof.Rows L2
variable [TL]
section
variable {X : Cx} {pn : List Nat} {δ δ' δ1 : List DV} {sts : List Stmt} {o : Out} {F H : Hp} {σ : L2.St} {xs items : List D} {p : Addr} {i : Nat}
theorem Rs.prD (R : Rs F H σ (δ.set i (.pr (atP p xs)))) : Rs F H σ (δ.set i (.d (.lst xs))) := by
  refine ⟨R.sub, by have := R.len; rw [List.length_set] at this ⊢; exact this, fun k x e => ?_, fun k j as bs o hkj q1 q2 => ?_, R.tb, R.nt⟩
  · rcases get_set e with ⟨rfl, rfl⟩ | ⟨z, e⟩
    · have hl : i < δ.length := by have := (List.getElem?_eq_some_iff.mp e).1; rwa [List.length_set] at this
      obtain ⟨o, q1, v, q2, q3⟩ := R.at_ i _ (List.getElem?_set_self hl)
      exact ⟨o, q1, v, q2, (q3 F (.refl F)).2⟩
    · exact R.at_ k x (by rw [List.getElem?_set_ne z]; exact e)
  · have key : ∀ {m : Nat} {zs : List D}, (δ.set i (.d (.lst xs)))[m]? = some (.ow zs) → (δ.set i (.pr (atP p xs)))[m]? = some (.ow zs) := fun {m zs} h => by
      rcases get_set h with ⟨_, e⟩ | ⟨z, e⟩
      · cases e
      · rw [List.getElem?_set_ne z]; exact e
    exact R.ap k j as bs o hkj (key q1) (key q2)
theorem dss_frz (i : Nat) (h0 : δ[i]? = some (.ow xs)) (h : DSs X pn (δ.set i (.d (.lst xs))) sts o) : DSs X pn δ sts o := h.imp fun D σ H ⟨F, R, k⟩ => by
  have hi : i < δ.length := (List.getElem?_eq_some_iff.mp h0).1
  have eδ : δ.set i (.ow xs) = δ := List.ext_getElem? fun k => by
    by_cases z : i = k
    · subst z; rw [List.getElem?_set_self hi, h0]
    · rw [List.getElem?_set_ne z]
  obtain ⟨o', hσ, p, vs, e1, e2, e3, e4⟩ := R.at_ i _ h0
  subst e1
  obtain ⟨R1, hp1, ⟨ws, hH1, ra1⟩, no1⟩ := Rs.give (xs := xs) (i := i) (eδ.symm ▸ R) hi hσ
  have R2 := (R1.lend hp1 hH1 ra1 no1).prD
  refine tS.back (D := D) ⟨⟨.new hp1, fun _ _ h _ _ => h, fun a o e => ?_, fun _ h => h, fun a q => .inl ?_⟩, R2, fun _ _ => rfl⟩ k
  · by_cases z : a = p
    · subst z; exact .inr (.inr ⟨i, xs, h0, hσ⟩)
    · rw [upd_ne z] at e; exact .inl e
  · obtain ⟨k, zs, h1, h2⟩ := q
    rcases get_set h1 with ⟨_, e⟩ | ⟨z, e⟩
    · cases e
    · exact ⟨k, zs, e, h2⟩
variable {elt iter : Expr} {n : Str} {p0 pos : Pos} {f : D → D}
/-- y = [elt for n in iter] -/
theorem ds_setM {scope : Scope} {l : Nat} {y : Str} {py spos : Pos} (i : Nat) (hy : X.N[l]? = some y) (hyl : X.env.scope.names.lookup y = some .local) (hp : l ∉ pn) (hsw : swapsWith (.ListComp elt [⟨.Name n p0, iter, [], 0⟩] scope pos) (some (.Name y py)) spos.line X.env = pure true)
    (hc : X.calm = true) (hN : X.N.Nodup) (hi : DI X δ (.Name n p0) iter items δ1) (ok : BlkOk X.N X.env.scope scope [(n, i)]) (hX : X.N[i]? = some n) (hu : δ1[i]? = some .un) (hloc : ∀ (s : Shared) (H : Hp) (C : Addr) (cl : List (Str × Addr)) (fp : List Addr), Loc (X.blk s H scope (compEnvC scope cl C X.env) fp).env.scope n)
    (hfl : ∀ (s : Shared) (H : Hp) (C : Addr) (cl : List (Str × Addr)) (fp : List Addr), (X.blk s H scope (compEnvC scope cl C X.env) fp).fn n = true ∨ (X.blk s H scope (compEnvC scope cl C X.env) fp).env.scope.names.lookup n = some .local)
    (he : ∀ (s : Shared) (H : Hp) (C : Addr) (cl : List (Str × Addr)) (fp : List Addr) (d : D), d ∈ items → DE (X.blk s H scope (compEnvC scope cl C X.env) fp) (δ1.set i (.d d)) elt (.d (f d)) (δ1.set i (.d d)))
    (hsz : items.length < sizeLine) (hs : ∀ x, foldedSetIterable iter X.env x = pure x := by intro _; rfl) :
    DS X pn δ (.Assign [.Name y py] (.ListComp elt [⟨.Name n p0, iter, [], 0⟩] scope pos) spos) (.nx (δ1.set l (.ow (items.map f)))) := by
  rw [← took_map f]
  have hil : i < δ1.length := (List.getElem?_eq_some_iff.mp hu).1
  refine ds_setLc_ (own := [(n, i)]) hy hyl hp hsw hc hN hi ok (fun _ => δ1.set i .un) (fun j => δ1.set i (.d (items.getD j .non))) (fun j => δ1.set i (.d (items.getD j .non))) (fun j => δ1.set i (.d (items.getD j .non))) (fun _ => true) (fun j => f (items.getD j .non)) rfl (fun j => by rw [List.length_set])
    (fun s H C cl fp j d e => ?_) (fun s H C cl fp j d e => pts_yes) (fun s H C cl fp j d e hb => ?_) (fun j _ => ?_) hsz (fun v hv xs => ?_) (unw_one hu) hs
  · have := dg_name (X := X.blk s H scope (compEnvC scope cl C X.env) fp) (pn := pnv δ1.length [i]) (δ := δ1.set i .un) (x := d) (pos := p0) hN hX (hloc s H C cl fp) (fun z => by have := (mem_pnv.mp z).2; simp at this) (hfl s H C cl fp)
    rw [List.set_set] at this
    rw [getD_of e]
    exact this
  · rw [getD_of e]
    exact he s H C cl fp d (List.mem_of_getElem? e)
  · show wipeD (if true = true then _ else _) _ = _
    rw [if_pos rfl]
    simp [wipeD, List.set_set]
  · have : v = i := by simpa using hv
    subst this
    rw [hu]
    exact fun h => nomatch (Option.some.inj h)
/-- tg = e, e a tuple that is not split -/
theorem ds_asgD {tg e : Expr} {d : D} {δ2 : List DV} (he : DE X δ e (.d d) δ1) (hg : DG X pn tg d δ1 δ2) (hs : swapsWithSole [tg] e pos.line X.env = pure false := by rfl) (hw : swappedStores [tg] e X.env = pure none := by rfl) (h1 : List.map (fun x => x.snd) (assignEach [tg] X.env) = [assign tg X.env] := by rfl) : DS X pn δ (.Assign [tg] e pos) (.nx δ2) :=
  (ps_asg he hg hs hw h1).imp fun D σ H ⟨F, R, k⟩ => ⟨F, R, fun v F1 H1 g R1 r => ⟨F1, R1, r, fun σ' A => k σ' F1 H1 ((aft_of g R1).trans A)⟩⟩
theorem dg_three {x y z : D} {p1 p2 p3 : Pos} {i j l : Nat} {n m o : Str} {kk : Nat} (hc : X.calm = true) (hN : X.N.Nodup) (hi : X.N[i]? = some n) (hx : Loc X.env.scope n) (hj : X.N[j]? = some m) (hy : Loc X.env.scope m) (hl : X.N[l]? = some o) (hz : Loc X.env.scope o) (hp : i ∉ pn) (hq : j ∉ pn) (hr : l ∉ pn)
    (hf : X.fn n = true ∨ X.env.scope.names.lookup n = some .local := by first | exact .inl rfl | exact .inr rfl | assumption) (hf2 : X.fn m = true ∨ X.env.scope.names.lookup m = some .local := by first | exact .inl rfl | exact .inr rfl | assumption) (hf3 : X.fn o = true ∨ X.env.scope.names.lookup o = some .local := by first | exact .inl rfl | exact .inr rfl | assumption)
    (g0 : (assignEach [Expr.Name o p3] X.env).map (·.2) = assign (.Name o p3) X.env :: (assignEach [] X.env).map (·.2) := by rfl)
    (g1 : (assignEach [Expr.Name m p2, .Name o p3] X.env).map (·.2) = assign (.Name m p2) X.env :: (assignEach [.Name o p3] X.env).map (·.2) := by rfl)
    (g2 : (assignEach [Expr.Name n p1, .Name m p2, .Name o p3] X.env).map (·.2) = assign (.Name n p1) X.env :: (assignEach [.Name m p2, .Name o p3] X.env).map (·.2) := by rfl)
    (g3 : (assignEach [Expr.Name n p1, .Name m p2, .Name o p3] X.env).length = 3 := by rfl) (g4 : (assignEach [Expr.Name n p1, .Name m p2, .Name o p3] X.env).findIdx? (·.1) = none := by rfl) :
    DG X pn (.Tuple [.Name n p1, .Name m p2, .Name o p3] kk pos) (.tup [x, y, z]) δ (((δ.set i (.d x)).set j (.d y)).set l (.d z)) :=
  (pg_tup hc (pgs_cons (pg_name (i := i) hN hi hx hf) (pgs_cons (pg_name (i := j) hN hj hy hf2) (pgs_cons (pg_name (i := l) hN hl hz hf3) pgs_nil g0) g1) g2) g3 g4).imp fun v σ H Q ⟨F, R, r, k⟩ => by
    cases r with
    | tup h1 ra =>
      cases ra with
      | cons r1 ra =>
        cases ra with
        | cons r2 ra =>
          cases ra with
          | cons r3 ra =>
            cases ra
            have A1 := Aft.set_ (pn := pn) (i := i) (v := some _) (x := .d x) R (fun _ h => nomatch h) ⟨_, rfl, r1⟩ hp
            have A2 := Aft.set_ (pn := pn) (i := j) (v := some _) (x := .d y) A1.rs (fun _ h => nomatch h) ⟨_, rfl, r2⟩ hq
            have A3 := Aft.set_ (pn := pn) (i := l) (v := some _) (x := .d z) A2.rs (fun _ h => nomatch h) ⟨_, rfl, r3⟩ hr
            exact ⟨_, _, rfl, SqT.of (R.sub _ _ h1), rfl, _, _, rfl, _, _, rfl, _, _, rfl, rfl, k _ (A1.trans (A2.trans A3))⟩
end
end DL
end
section
set_option Elab.async false
set_option linter.all false
set_option maxRecDepth 100000
set_option maxHeartbeats 2000000
/-! DLend: a def called from one place that is known (its guards are known: repr). -/
namespace DL
open PySem PySem.Spec PyProof.Rows L2
/-- a def's call from A0 alone: what F.ok tells of every place -/
theorem fn_at {CX : CXT} {P : Program} {w : World} {K : PySem.W.Frag} {mg : Str → Option Value} {base : Heap} {k : Nat} {f : Addr} {x qual : Str} {params : Arguments} {body : List Stmt} {scope : Scope} {dvs : List V} {kws : List (Str × V)} {fd : FuncData} {N ps : List Str}
    {A0 : Around} {outer : List Env} {s : Shared} {H : Hp} {args : Args} {us : List Value} {vs : List V} {Q : VK} {E : XK}
    (F : FunD K x qual params body scope dvs kws f fd) (S : FnScope N ps scope) (hr : Room (k + 1) A0) (e0 : Env0 P w K mg base A0 outer s H) (hb : BindsTo s fd args (ps.zip us)) (r : Vals vs us) (hl : vs.length = ps.length)
    (hbody : ∀ cdv, PySem.W.codeIn K cdv qual = true → (∃ fd0, K.lookup f = some fd0 ∧ fd0.data = .func fd ∧ fd.code = cdv) → Room k (A0.deeper (envOfC qual scope s.heap.objs.size f cdv)) → ∃ t, PSs (cxOf CX P w K mg base N qual scope f cdv A0 outer s H E) body t ∧ t { nx := fun _ H' => Q .non H', rt := Q } (start N vs) H) :
    codeAny (model P w) A0 (.call (.ref f) args) (CR CX outer P w H s Q E) s := by
  obtain ⟨oc, od, dV, kV, doc, pm, an, cdv, ct, osl, rfl, lk, hcd, _, _⟩ := F.ex
  have KX : K.In s.heap := e0.mod.kin.keeps fun b o e => (e0.bs b o e).1
  refine codeAny_call_function hr.depth (KX _ _ lk) rfl S.co S.gen rfl (PySem.W.codeRec_of KX hcd) (hb _ _ _ _ (wpAny_newFunctionEnv_cells S.kind (fun y hy => ?_) fun env he s1 z => ?_))
  · rcases S.par y.1 (List.of_mem_zip hy).1 with q | q
    · exact .inl q
    · exact .inr ⟨q, PySem.W.cellsFrom_some _ _ _ (.inl q)⟩
  · subst he
    have lim : s.heap.NoLimit := e0.mod.nolimit.keeps fun b o e => (e0.bs b o e).1
    refine ⟨lim.keeps z.toInCall.keep, codeAny_func ?_⟩
    obtain ⟨t, ht, hq⟩ := hbody cdv hcd ⟨_, lk, rfl, rfl⟩ (hr.deeper _)
    refine wpAny_mono (ht.run [] s1 (start N vs) H _ (inv_start S hr.hd e0 hl r z) hq) (fun fl s' hs => ?_) fun e s' hs => hs
    cases fl with
    | ret u => obtain ⟨v, σ', H', J, rv, q⟩ := hs; exact ⟨v, H', J.os, J.bare, J.base, J.hok, rv, q⟩
    | next => obtain ⟨σ', H', J, q⟩ := hs; exact ⟨.non, H', J.os, J.bare, J.base, J.hok, rfl, q⟩
    | brk => exact (hs.choose_spec.choose_spec.2 : False).elim
    | cont => exact (hs.choose_spec.choose_spec.2 : False).elim
/-- the heap tracked ahead of the law: tables, perhaps the script -/
def hp0 (fz : Option HO) (a : Addr) (T : List Addr) : Hp := fun b => if b ∈ T then some (.tbl #[]) else if b = a then fz else none
theorem hp0_T {fz : Option HO} {a b : Addr} {T : List Addr} (h : b ∈ T) : hp0 fz a T b = some (.tbl #[]) := if_pos h
theorem hp0_a {fz : Option HO} {a : Addr} {T : List Addr} (h : a ∉ T) : hp0 fz a T a = fz := by unfold hp0; rw [if_neg h, if_pos rfl]
theorem hp0_cases {fz : Option HO} {a b : Addr} {T : List Addr} {o : HO} (h : hp0 fz a T b = some o) : (b ∈ T ∧ o = .tbl #[]) ∨ (b = a ∧ fz = some o) := by
  unfold hp0 at h
  split at h
  · rename_i m; cases h; exact .inl ⟨m, rfl⟩
  · split at h
    · rename_i e; exact .inr ⟨e, h⟩
    · cases h
open LamX in
theorem law_at {P : Program} {w : World} {K : PySem.W.Frag} {mg mb : Str → Option Value} {CX : CXT} {fa a : Addr} {cs : List (Addr × Addr)} {s₁ : Shared} {vs : List Value} {ns : List Int}
    (KX : K.In s₁.heap) (hns : s₁.heap.Ns mainGlobals mg) (hb : s₁.heap.Ns builtinsNs mb) (hbb : ∀ x : Str, x ≠ "__name__" → mb x = bootBuiltins x) (hlim : s₁.heap.NoLimit) (hg : s₁.gens = #[])
    (hT : ∀ p ∈ cs, s₁.heap.get? p.2 = some { cls := .none, data := .fields #[] }) (nT : ∀ p ∈ cs, K.lookup p.2 = none) (C : ∀ p ∈ cs, PySem.W.CodeHd s₁.heap p.1 p.2)
    (hbm : ∃ (bm : Addr) (ob : Obj), mg "__builtins__" = some (.ref bm) ∧ bm ≠ builtinsNs ∧ s₁.heap.get? bm = some ob ∧ ob.cls = .type "module" ∧ ob.dict = some builtinsNs ∧ ob.data = .plain)
    (ha : s₁.heap.get? a = some { cls := .type "list", data := .seq vs.toArray }) (hi : IntsAre vs ns) (hl : ns.length ≤ sizeLine)
    (F : ∀ (base : Heap) (H : Hp), K.In base → base.Ns mainGlobals mg → (∀ p ∈ cs, TabB base mg p.1 p.2) → Env0 P w K mg base callerA [] s₁ H → (∀ p ∈ cs, H p.2 = some (.tbl #[])) → SqL K H a (ns.map V.int) →
      codeAny (model P w) callerA (.call (.ref fa) ⟨[.ref a], []⟩) (CR CX [] P w H s₁ (fun v _ => v = .bl true) fun _ _ _ => False) s₁)
    (hCX : ∀ H e s', CX [] H s₁ (fun _ _ _ => False) e s' → False) :
    codeAny (model P w) callerA (.call (.ref fa) ⟨[.ref a], []⟩) (fun r s' => r = .ok (.ret (.bool true)) ∧ OldK s₁.heap s'.heap ∧ s'.os = s₁.os ∧ AllBare s'.gens) s₁ := by
  obtain ⟨T, hTd⟩ : ∃ T, T = cs.map (·.2) := ⟨_, rfl⟩
  have isT : ∀ b : Addr, b ∈ T → ∃ p ∈ cs, p.2 = b := fun b hb => by rw [hTd] at hb; exact List.mem_map.mp hb
  have inT : ∀ p ∈ cs, p.2 ∈ T := fun p hp => by rw [hTd]; exact List.mem_map.mpr ⟨p, hp, rfl⟩
  have tabT : ∀ b : Addr, b ∈ T → s₁.heap.get? b = some { cls := .none, data := .fields #[] } := fun b hb => by obtain ⟨p, hp, e⟩ := isT b hb; rw [← e]; exact hT p hp
  have aT : a ∉ T := fun z => by
    have q := tabT a z
    rw [ha] at q
    injection q with q
    have q := congrArg Obj.data q
    cases q
  have rv := vals_ints hi
  have core : ∀ fz : Option HO, (∀ o, fz = some o → o = .frz { cls := .type "list", data := .seq vs.toArray } (.lst (ns.map V.int)) ∧ K.lookup a = none) → SqL K (hp0 fz a T) a (ns.map V.int) →
      codeAny (model P w) callerA (.call (.ref fa) ⟨[.ref a], []⟩) (fun r s' => r = .ok (.ret (.bool true)) ∧ OldK s₁.heap s'.heap ∧ s'.os = s₁.os ∧ AllBare s'.gens) s₁ := by
    intro fz hfz hS
    obtain ⟨H, hH⟩ : ∃ H, H = hp0 fz a T := ⟨_, rfl⟩
    rw [← hH] at hS
    have hC : ∀ {b : Addr} {o : HO}, H b = some o → (b ∈ T ∧ o = .tbl #[]) ∨ (b = a ∧ o = .frz { cls := .type "list", data := .seq vs.toArray } (.lst (ns.map V.int)) ∧ K.lookup a = none) := fun {b o} h => by
      rw [hH] at h
      exact (hp0_cases h).imp id fun q => ⟨q.1, hfz _ q.2⟩
    have hHT : ∀ p ∈ cs, H p.2 = some (.tbl #[]) := fun p hp => by rw [hH]; exact hp0_T (inT p hp)
    have hok : HOk P w H s₁.heap := fun b o e => by
      rcases hC e with ⟨m, rfl⟩ | ⟨rfl, rfl, _⟩
      · exact tabT b m
      · exact ⟨ha, by rw [List.length_map]; exact hl, vs, _, rv, ha⟩
    have out : ∀ {b : Addr} {o : Obj}, s₁.heap.get? b = some o → (∀ us n, o.data ≠ .seq us n) → o.data ≠ .fields #[] → H b = none := fun {b o} e h1 h2 => by
      cases q : H b with
      | none => rfl
      | some u =>
        rcases hC q with ⟨m, _⟩ | ⟨rfl, _, _⟩
        · rw [tabT b m] at e; cases e; exact absurd rfl h2
        · rw [ha] at e; cases e; exact absurd rfl (h1 _ _)
    have nsK : ∀ {b : Addr} {m : Str → Option Value}, s₁.heap.Ns b m → (hidT s₁.heap H).Ns b m := fun {b m} ⟨o, es, ep, e, d, r⟩ => ⟨o, es, ep, hidT_get e (out e (by rw [d]; exact fun _ _ z => nomatch z) (by rw [d]; exact fun z => nomatch z)), d, r⟩
    have KB : K.In (hidT s₁.heap H) := fun b o e => hidT_get (KX b o e) (by
      cases q : H b with
      | none => rfl
      | some u =>
        rcases hC q with ⟨m, _⟩ | ⟨rfl, _, z⟩
        · obtain ⟨p, hp, rfl⟩ := isT b m; rw [nT p hp] at e; cases e
        · rw [z] at e; cases e)
    have gT : ∀ b ∈ T, b ≠ mainGlobals := fun b hb z => by
      obtain ⟨o, es, ep, e, d, _⟩ := hns
      rw [← z, tabT b hb] at e
      cases e
      cases d
    have TB : ∀ p ∈ cs, TabB (hidT s₁.heap H) mg p.1 p.2 := fun p hp => by
      refine ⟨?_, ?_, (gT p.2 (inT p hp)).symm⟩
      · obtain ⟨o, us, file, tf, flags, tg, inF, text, tt, e1, r1, r2, r3, rest⟩ := C p hp
        exact ⟨o, us, file, tf, flags, tg, inF, text, tt, hidT_get e1 (out e1 (by rw [r2]; exact fun _ _ z => nomatch z) (fun z => by rw [r2] at z; injection z with z; subst z; simp at r3)), r1, r2, r3, rest⟩
      · obtain ⟨bm, ob, b1, b2, b3, b4, b5, b6⟩ := hbm
        have n1 : bm ≠ mainGlobals := fun q => by
          obtain ⟨o, es, ep, e, d, _⟩ := hns
          rw [← q, b3] at e
          cases e
          rw [b6] at d
          cases d
        have n2 : bm ≠ p.2 := fun q => by
          rw [q, hT p hp] at b3
          cases b3
          cases b6
        exact ⟨bm, ob, b1, b2, n1, n2, hidT_get b3 (out b3 (by rw [b6]; exact fun _ _ z => nomatch z) (by rw [b6]; exact fun z => nomatch z)), b4, b5, b6⟩
    have e0 : Env0 P w K mg (hidT s₁.heap H) callerA [] s₁ H := ⟨rfl, ⟨KB, nsK hns, ⟨mb, nsK hb, hbb⟩, let ⟨mc, h1, h2⟩ := hlim; ⟨mc, nsK h1, h2⟩⟩, fun b o e => of_hidT e, Nat.le_of_eq (hidT_size _ _), trivial, fun b hb => absurd (show b ∈ ([] : List Addr) from hb) (by simp), hok, .of_eq hg⟩
    refine codeAny_mono (F _ H KB (nsK hns) TB e0 hHT hS) fun r s' h => ?_
    cases r with
    | error e => exact (hCX H e s' h).elim
    | ok fl =>
      cases fl with
      | next => exact False.elim h
      | brk => exact False.elim h
      | cont => exact False.elim h
      | ret u =>
        obtain ⟨v, H', os, bare, un, hok', r', q⟩ := h
        have q : v = .bl true := q
        subst q
        have r' : u = Value.bool true := r'
        subst r'
        have kept : ∀ b o, b ∉ T → s₁.heap.get? b = some o → s'.heap.get? b = some o := fun b o nb e => by
          cases q : H b with
          | none => exact un.keep b o e q (fun z => absurd (show b ∈ ([] : List Addr) from z) (by simp)) (by simp)
          | some u =>
            rcases hC q with ⟨m, _⟩ | ⟨rfl, rfl, _⟩
            · exact absurd m nb
            · rw [ha] at e; cases e
              exact (hok' b _ (un.frzs b _ _ q)).1
        have tab : ∀ p ∈ cs, ∃ more : Array Value, s'.heap.get? p.2 = some { cls := .none, data := .fields more } := fun p hp => by
          obtain ⟨m, z⟩ := un.tbls p.2 #[] (hHT p hp)
          exact ⟨_, hok' p.2 _ z⟩
        refine ⟨rfl, ⟨fun b o e => ?_, fun b o e => ?_⟩, os, bare⟩
        · by_cases m : b ∈ T
          · obtain ⟨p, hp, rfl⟩ := isT b m
            obtain ⟨more, z⟩ := tab p hp
            rw [hT p hp] at e
            cases e
            exact .inr (.inl ⟨((C p hp).tab (hT p hp)).isCodeTable, rfl, #[], more, rfl, by rw [Array.empty_append]; exact z⟩)
          · exact .inl (kept b o m e)
        · by_cases m : b ∈ T
          · obtain ⟨p, hp, rfl⟩ := isT b m
            obtain ⟨more, z⟩ := tab p hp
            exact ⟨_, z⟩
          · exact ⟨o, kept b o m e⟩
  cases hk : K.lookup a with
  | some o =>
    have e := KX a o hk
    rw [ha] at e
    cases e
    exact core none (fun _ h => nomatch h) (.inr ⟨_, vs.toArray, _, hk, rfl, rfl, rfl, by rw [List.size_toArray, hi.length]; exact hl, by simpa using rv⟩)
  | none => exact core (some (.frz { cls := .type "list", data := .seq vs.toArray } (.lst (ns.map V.int)))) (fun o h => by cases h; exact ⟨rfl, hk⟩) (.inl (.inr ⟨_, hp0_a aT⟩))
end DL
end
section
set_option Elab.async false
set_option linter.all false
set_option maxRecDepth 100000
set_option maxHeartbeats 2000000
/-! DLerr: an error class of the text, checked; what is known of it. -/
namespace DX
open PySem PySem.Spec PyProof.Rows L2 PySem.DLX
def oexB (K : PySem.W.Frag) (C : Addr) : Bool := match K.lookup C with
  | some ⟨.type "type", _, .cls cd, sl⟩ => (match cd.mro, sl.toList with
    | .ref C' :: bm, [_, _, _, _, some (.builtin n), _] => C' == C && n == "ValueError.__new__" && !cd.hasDel && cd.hasDict && PySem.HandSPX.refsVE bm
    | _, _ => false)
  | _ => false
theorem oexB_ok {K : PySem.W.Frag} {C : Addr} (q : oexB K C = true) : ∃ nm q N bs bm sn sub ab col dd k0 k1 k2 k3 k5, K.lookup C = some (excClassObj nm q C N bs bm true sn sub ab col dd k0 k1 k2 k3 k5 "ValueError.__new__") ∧ PySem.HandSPX.refsVE bm = true := by
  unfold oexB at q
  split at q
  · rename_i dd cd sl ho
    split at q
    · rename_i C' bm k0 k1 k2 k3 n k5 hm hs
      simp only [Bool.and_eq_true, beq_iff_eq, Bool.not_eq_true'] at q
      obtain ⟨⟨⟨⟨rfl, rfl⟩, h1⟩, h2⟩, h3⟩ := q
      obtain ⟨nm, bs, mro, ns, qn, hd, sn, sub, ab, col, del⟩ := cd
      dsimp only at hm h1 h2
      subst hm h1 h2
      have hsl : sl = #[k0, k1, k2, k3, some (.builtin "ValueError.__new__"), k5] := Array.toList_inj.mp hs
      subst hsl
      exact ⟨_, _, _, _, _, _, _, _, _, _, _, _, _, _, _, ho, h3⟩
    · cases q
  · cases q
def bodyB : List Stmt → Bool
  | [.Expr (.Call (.Attribute (.Call (.Name s _) [] [] _) i p2) [] [] p3) _, .Assign [.Attribute (.Name se _) v _] (.Name v2 _) _] => s == "super" && i == "__init__" && se == "self" && v == "value" && v2 == "value" && (p2.endLine == p3.line)
  | _ => false
theorem bodyB_ok {b : List Stmt} (h : bodyB b = true) : ∃ p0 p1 p2 p3 p4 q1 q2 q3 q4, b = vB p0 p1 p2 p3 p4 q1 q2 q3 q4 ∧ (p2.endLine == p3.line) = true := by
  unfold bodyB at h
  split at h
  · simp only [Bool.and_eq_true] at h
    obtain ⟨⟨⟨⟨⟨h1, h2⟩, h3⟩, h4⟩, h5⟩, h6⟩ := h
    have h1 := eq_of_beq h1; have h2 := eq_of_beq h2; have h3 := eq_of_beq h3; have h4 := eq_of_beq h4; have h5 := eq_of_beq h5
    subst h1 h2 h3 h4 h5
    exact ⟨_, _, _, _, _, _, _, _, _, rfl, h6⟩
  · cases h
def parB : Arguments → Bool
  | ⟨[], [⟨s, none, _⟩, ⟨v, none, _⟩], none, [], [], none, [.Constant .none 0 _]⟩ => s == "self" && v == "value"
  | _ => false
theorem parB_ok {a : Arguments} (h : parB a = true) : ∃ p1 p2 p3, a = vA p1 p2 p3 := by
  unfold parB at h
  split at h
  · simp only [Bool.and_eq_true] at h
    have h1 := eq_of_beq h.1; have h2 := eq_of_beq h.2
    subst h1 h2
    exact ⟨_, _, _, rfl⟩
  · cases h
/-- the function at fI: its parts -/
def iniB (P : Program) (K : PySem.W.Frag) (x : Str) (C fI : Addr) : Bool := match K.lookup fI with
  | some ⟨_, _, .func ⟨nm, qn, pa, .stmts b, sc, g, [(cn, cc)], .ref Td, _, _, _, _, .ref cda, _, bu⟩, _⟩ =>
    nm == "__init__" && qn == x ++ ".__init__" && parB pa && bodyB b && decide (sc = vS) && g == mainGlobals && bu == builtinsNs && cn == "__class__" &&
      (match K.lookup Td with
        | some o => (match o.data with
          | .seq its _ => its.size == 1
          | _ => false)
        | none => false) &&
      PySem.W.codeIn K (.ref cda) (x ++ ".__init__") &&
      (match K.lookup cc with
        | some ⟨_, _, .cell (some v), _⟩ => v == .ref C
        | _ => false) &&
      (match K.lookup cda with
        | some ⟨_, _, .fields vs, _⟩ => (match (vs[2]? : Option Value) with
          | some (Value.str file _) => (P.main.file : Str) == file
          | _ => false)
        | _ => false)
  | _ => false
theorem iniB_ok {P : Program} {K : PySem.W.Frag} {x : Str} {C fI : Addr} (h : iniB P K x C fI = true) : ∃ (oc : Value) (od : Option Addr) (Td : Addr) (kV doc pm : Value) (an : Option Addr) (cda : Addr) (ct : Value) (cc : Addr) (osl : Array (Option Value)) (a1 a2 a3 p0 p1 p2 p3 p4 q1 q2 q3 q4 : Pos),
    K.lookup fI = some ⟨oc, od, .func (PySem.W.ksFn "__init__" (x ++ ".__init__") (vA a1 a2 a3) (vB p0 p1 p2 p3 p4 q1 q2 q3 q4) vS (.ref Td) kV doc pm an (.ref cda) ct cc), osl⟩ ∧ (∃ (o : Obj) (it : Value) (n : Nat), K.lookup Td = some o ∧ o.data = .seq #[it] n) ∧ PySem.W.codeIn K (.ref cda) (x ++ ".__init__") = true ∧ (p2.endLine == p3.line) = true ∧
    (∃ (cl : Value) (cld : Option Addr) (csl : Array (Option Value)), K.lookup cc = some ⟨cl, cld, .cell (some (.ref C)), csl⟩) ∧
    ∃ (ccl : Value) (cdd : Option Addr) (vs : Array Value) (ccs : Array (Option Value)) (file : Str) (tf : Tok), K.lookup cda = some ⟨ccl, cdd, .fields vs, ccs⟩ ∧ vs[2]? = some (.str file tf) ∧ ((P.main.file : Str) == file) = true := by
  unfold iniB at h
  split at h
  · rename_i oc od nm qn pa b sc g cn cc Td kV doc pm an cda ct bu osl hl
    simp only [Bool.and_eq_true, decide_eq_true_eq] at h
    obtain ⟨⟨⟨⟨⟨⟨⟨⟨⟨⟨⟨h1, h2⟩, h3⟩, h4⟩, h5⟩, h6⟩, h7⟩, h8⟩, h9⟩, h10⟩, h11⟩, h12⟩ := h
    have h1 := eq_of_beq h1; have h2 := eq_of_beq h2; have h6 := eq_of_beq h6; have h7 := eq_of_beq h7; have h8 := eq_of_beq h8
    obtain ⟨p0, p1, p2, p3, p4, q1, q2, q3, q4, e4, l4⟩ := bodyB_ok h4
    obtain ⟨a1, a2, a3, e3⟩ := parB_ok h3
    subst h1 h2 h5 h6 h7 h8 e4 e3
    refine ⟨oc, od, Td, kV, doc, pm, an, cda, ct, cc, osl, a1, a2, a3, p0, p1, p2, p3, p4, q1, q2, q3, q4, hl, ?_, h10, l4, ?_, ?_⟩
    · split at h9
      · rename_i o ho
        split at h9
        · rename_i its n hd
          have := eq_of_beq h9
          obtain ⟨it, hi⟩ := Array.size_eq_one_iff.mp this
          subst hi
          exact ⟨o, it, n, ho, hd⟩
        · cases h9
      · cases h9
    · split at h11
      · rename_i cl cld v csl ho
        have := eq_of_beq h11
        subst this
        exact ⟨_, _, _, ho⟩
      · cases h11
    · split at h12
      · rename_i ccl cdd vs ccs ho
        split at h12
        · rename_i file tf hv
          exact ⟨_, _, _, _, _, _, ho, hv, h12⟩
        · cases h12
      · cases h12
  · cases h
abbrev iniA (K : PySem.W.Frag) (x : Str) : Addr := He.ma K (He.ga K x) "__init__"
def errC (P : Program) (K : PySem.W.Frag) (x : Str) : Bool :=
  oexB K (He.ga K x) && He.eqO (PySem.W.findIn K (.ref (He.ga K x)) "__setattr__") (some (some (.builtin "object.__setattr__"))) && decide (PySem.W.subIn K (.ref (He.ga K x)) (.type "BaseException") = some true) && decide (PySem.W.typeIn K (.ref (He.ga K x)) = some (.type "type")) && PySem.W.keepIn K (.ref (He.ga K x))
    && He.eqO (PySem.W.findIn K (.ref (He.ga K x)) "__getattribute__") (some (some (.builtin "BaseException.__getattribute__"))) && He.eqO (PySem.W.findIn K (.ref (He.ga K x)) "__getattr__") (some none) && PySem.W.hasDictIn K (He.ga K x)
    && He.eqO (PySem.W.findIn K (.ref (He.ga K x)) "value") (some none) && He.eqO (PySem.W.findIn K (.ref (He.ga K x)) "__init__") (some (some (.ref (iniA K x)))) && decide (PySem.W.typeIn K (.ref (iniA K x)) = some (.type "function"))
    && PySem.W.excInitIn K (He.ga K x) veB "ValueError.__new__" && He.eqO (PySem.W.ks_superIn K (He.ga K x) (He.ga K x) "__init__") (some (some (.builtin "ValueError.__init__"))) && He.eqO (PySem.W.nsIn K cStatics "thirdparty.any") (some none)
    && decide (PySem.W.mroIn K (He.ga K x) (.ref (He.ga K x)) = some true) && decide (PySem.W.subIn K (.ref (He.ga K x)) (.type "ValueError") = some true) && He.eqO (PySem.W.findIn K (.ref (He.ga K x)) "__class__") (some (some (.builtin "object.__class__")))
    && He.eqO (PySem.W.specialIn K (.builtin "object.__class__") "__get__") (some (some (.builtin "getset_descriptor.__get__"))) && decide (PySem.W.takesIn K (.builtin "object.__class__") = some true) && decide (PySem.W.mroIn K (He.ga K x) (.type "object") = some true)
    && !(P.main.scope.names.lookup ("super" : Str)).isSome && iniB P K x (He.ga K x) (iniA K x)
theorem errC_ok {P : Program} {K : PySem.W.Frag} {x : Str} (h : errC P K x = true) : ErrT P K x (He.ga K x) (iniA K x) := by
  unfold errC at h
  simp only [Bool.and_eq_true, decide_eq_true_eq, Bool.not_eq_true'] at h
  obtain ⟨⟨⟨⟨⟨⟨⟨⟨⟨⟨⟨⟨⟨⟨⟨⟨⟨⟨⟨⟨⟨h1, h2⟩, h3⟩, h4⟩, h5⟩, h6⟩, h7⟩, h8⟩, h9⟩, h10⟩, h11⟩, h12⟩, h13⟩, h14⟩, h15⟩, h16⟩, h17⟩, h18⟩, h19⟩, h20⟩, h21⟩, h22⟩ := h
  have e := @He.eqO_ok
  exact { oex := ⟨oexB_ok h1, e h2, h3, h4, h5⟩, xf := ⟨e h6, e h7, h3, h8⟩, noV := e h9, iC := e h10, tI := h11, ini := h12, sup := e h13, opq := e h14, sub := h15, subV := h16, clC := e h17, spC := e h18, tkC := h19, moC := h20, top := h21, fn := iniB_ok h22 }
end DX
end
section
set_option Elab.async false
set_option linter.all false
set_option maxRecDepth 100000
set_option maxHeartbeats 0
namespace DX
open PySem PySem.Spec PyProof.Rows L2
/-- the objects looked at: those of the names, and cStatics -/
def frC (g : Addr → Option Obj) (n : Nat) : PySem.W.Frag := He.frT g (cStatics :: He.asD g n)
def obsC (n : Nat) (fa : List He.Fa) (fn : List He.DefD) (tf : List He.Defn) (ex : PySem.W.Frag → Bool) (g : Addr → Option Obj) : He.AlX := (He.obsT fa fn [] (frC g n), ex (frC g n) && He.tabsB g tf (frC g n))
theorem saysC_of {n : Nat} {fa : List He.Fa} {fn : List He.DefD} {tf : List He.Defn} {ex : PySem.W.Frag → Bool} {w : World} {h : Heap} (e : obsC n fa fn tf ex h.get? = He.valX fn [] w) : He.SaysX fa fn [] tf ex w h (frC h.get? n) := by
  obtain ⟨K, hK⟩ : ∃ K, K = frC h.get? n := ⟨_, rfl⟩
  have nK : ∀ {a : Addr} {o : Obj}, h.get? a = some o → He.emptyTab o = true → K.lookup a = none := fun q z => by rw [hK]; exact He.frT_none q z
  unfold obsC He.valX at e
  rw [← hK] at e ⊢
  injection e with e1 e2
  obtain ⟨h1, h2⟩ := He.ba e2
  have key : ∀ p ∈ tf, PySem.W.codeHdIn K (He.cT K p).1 (He.cT K p).2 = true ∧ ∃ o, h.get? (He.cT K p).2 = some o ∧ He.emptyTab o = true := fun p hp => by
    obtain ⟨h3, h4⟩ := He.ba (List.all_eq_true.mp h2 p hp)
    split at h4
    · rename_i o q; exact ⟨h3, o, q, h4⟩
    · cases h4
  exact ⟨e1, h1, fun p hp => (key p hp).1, fun p hp => by obtain ⟨_, o, q, z⟩ := key p hp; exact nK q z, fun p hp => by obtain ⟨_, o, q, z⟩ := key p hp; rw [q, He.emptyTab_eq z]⟩
def hookC (n : Nat) (fa : List He.Fa) (fn : List He.DefD) (tf : List He.Defn) (ex : PySem.W.Frag → Bool) : PySem.W.Hook where
  α := He.AlX
  obs := fun s => obsC n fa fn tf ex s.heap.get?
  val := fun w => He.valX fn [] w
  says := fun w h => ∃ K : PySem.W.Frag, K.In h ∧ He.SaysX fa fn [] tf ex w h K
  of := fun _ _ e => ⟨_, He.frT_in, saysC_of e⟩
  keeps := fun _ _ _ ⟨K, hK, c⟩ k => ⟨K, PySem.W.Frag.In.keeps hK k, ⟨c.t, c.more, c.hd, c.out, fun p hp => k _ _ (c.empty p hp)⟩⟩
theorem obsC_eq {n : Nat} {fa : List He.Fa} {fn : List He.DefD} {tf : List He.Defn} {ex : PySem.W.Frag → Bool} {g : Addr → Option Obj} {s : Shared} (h : ∀ a, g a = s.heap.get? a) : obsC n fa fn tf ex g = (hookC n fa fn tf ex).obs s := by
  rw [show g = s.heap.get? from funext h] <;> rfl
end DX
namespace Hd
open PySem PySem.Spec PyProof.Rows L2
def fa2 : List He.Fa := fa ++ [.exm "InvalidPaper" "CutError" true, .exm "InvalidNode" "CutError" true]
def ex2 (K : PySem.W.Frag) : Bool := DX.errC (PySem.Challenge.pw_owntrees_k94_whole_texts_of_nodes) K "InvalidPaper" && DX.errC (PySem.Challenge.pw_owntrees_k94_whole_texts_of_nodes) K "InvalidNode"
abbrev hk2 : PySem.W.Hook := DX.hookC 5 fa2 fn tf ex2
def ob2 (s : PySem.W.SharedT) : He.AlX := DX.obsC 5 fa2 fn tf ex2 (HandSHeadRun.getT s)
theorem ob2_eq (s : PySem.W.SharedT) : ob2 s = hk2.obs s.abs := DX.obsC_eq (HandSHeadRun.getT_eq s)
theorem run2 (w : World) : HandSHeadRun.RunEq R (PySem.W.view R.prog [40]) hk2 ob2 4000 loose w := by
  intro os
  kernel_rfl
end Hd
end
section
set_option Elab.async false
set_option linter.all false
set_option maxRecDepth 100000
namespace DL
open PySem PySem.Spec PyProof.Rows L2
variable [TL]
section
variable {X : Cx} {δ δ1 δ2 : List DV} {a b c e : Expr} {x y z : D} {p1 p2 pos : Pos}
theorem de_allM {xs : List D} {g : D → Bool} (hcm : X.calm = true) (hg : Gl X "all") (hm : X.mg "all" = none) (ha : DE X δ a (.ow (xs.map fun d => D.bl (g d))) δ1) (he : starEach [a] X.env = (false, eval a X.env) :: starEach [] X.env := by rfl) : DE X δ (.Call (.Name "all" p1) [a] [] pos) (.d (.bl (xs.all g))) δ1 := by
  have e1 : (xs.map fun d => D.bl (g d)) = (xs.map g).map D.bl := by rw [List.map_map]; rfl
  have e2 : xs.all g = (xs.map g).all id := by simp
  rw [e2]
  rw [e1] at ha
  exact de_all hcm hg hm (de_frz ha) he
/-- a test of or, its first part true; false -/
theorem dw_orT {rest : List Expr} (ha : DT X δ a true δ1) : DW X δ (.BoolOp .Or (a :: b :: rest) pos) true δ1 := dw_or (q := true) (p := true) ha (fun h => nomatch h) (fun _ => rfl)
theorem dw_orF {rest : List Expr} {q : Bool} (ha : DT X δ a false δ1) (hb : DW X δ1 (.BoolOp .Or (b :: rest) pos) q δ2) : DW X δ (.BoolOp .Or (a :: b :: rest) pos) q δ2 := by
  have := dw_or (p := false) ha (fun _ => hb) (fun h => nomatch h)
  simpa using this
theorem dw_andF {rest : List Expr} (ha : DT X δ a false δ1) : DW X δ (.BoolOp .And (a :: b :: rest) pos) false δ1 := dw_and (q := true) (p := false) ha (fun h => nomatch h) (fun _ => rfl)
theorem dw_andT {rest : List Expr} {q : Bool} (ha : DT X δ a true δ1) (hb : DW X δ1 (.BoolOp .And (b :: rest) pos) q δ2) : DW X δ (.BoolOp .And (a :: b :: rest) pos) q δ2 := by
  have := dw_and (p := true) ha (fun _ => hb) (fun h => nomatch h)
  simpa using this
theorem de_andF {rest : List Expr} (ha : DE X δ a (.d (.bl false)) δ1) : DE X δ (.BoolOp .And (a :: b :: rest) pos) (.d (.bl false)) δ1 := de_to (de_and (q := true) ha (fun h => nomatch h) (fun _ => rfl)) rfl
theorem de_andT {rest : List Expr} {q : Bool} (ha : DE X δ a (.d (.bl true)) δ1) (hb : DE X δ1 (.BoolOp .And (b :: rest) pos) (.d (.bl q)) δ2) : DE X δ (.BoolOp .And (a :: b :: rest) pos) (.d (.bl q)) δ2 := de_to (de_and ha (fun _ => hb) (fun h => nomatch h)) (by simp)
theorem de_orF {rest : List Expr} {q : Bool} (ha : DE X δ a (.d (.bl false)) δ1) (hb : DE X δ1 (.BoolOp .Or (b :: rest) pos) (.d (.bl q)) δ2) : DE X δ (.BoolOp .Or (a :: b :: rest) pos) (.d (.bl q)) δ2 := de_to (de_or ha (fun _ => hb) (fun h => nomatch h)) (by simp)
theorem de_orT {rest : List Expr} (ha : DE X δ a (.d (.bl true)) δ1) : DE X δ (.BoolOp .Or (a :: b :: rest) pos) (.d (.bl true)) δ1 := de_to (de_or (q := true) ha (fun h => nomatch h) (fun _ => rfl)) rfl
theorem de_v' {k k' : Bool} (h : DE X δ a (.d (.bl k)) δ1) (e : k = k') : DE X δ a (.d (.bl k')) δ1 := e ▸ h
/-- the type of data, by the built-in names -/
theorem de_isi' {T : Str} (n : String) {k : Bool} (hg : Gl X "isinstance") (hm : X.mg "isinstance" = none) (ha : DE X δ a (.d x) δ1) (hp : x.plain = true) (hg2 : Gl X T) (hm2 : X.mg T = none) (hv : bootBuiltins T = some (.type n)) (hT : n = "bool" ∨ n = "int" ∨ n = "str" ∨ n = "list" ∨ n = "tuple" ∨ n = "dict") (hk : x.isi n = k)
    (hn : T ≠ "__name__" := by decide) (hdb : (T == ("__debug__" : Str)) = false := by decide)
    (he : starEach [a, .Name T p2] X.env = (false, eval a X.env) :: starEach [.Name T p2] X.env := by rfl) (he2 : starEach [Expr.Name T p2] X.env = (false, eval (.Name T p2) X.env) :: starEach [] X.env := by rfl) (hpl : (backTo pos (starEach [Expr.Name T p2] X.env)).any (·.1) = false := by rfl) :
    DE X δ (.Call (.Name "isinstance" p1) [a, .Name T p2] [] pos) (.d (.bl k)) δ1 := hk ▸ de_isi hg hm ha hp hg2 hm2 hv hT hn hdb he he2 hpl
end
/-! ### defs as they stand -/
section
variable {P : Program} {w : World} {K : PySem.W.Frag} {mg : Str → Option Value} {base : Heap} {x : Str} {s : Stmt} {ps : List Str} {k : Nat} {R : RelD} {RX : RelX}
structure Df (K : PySem.W.Frag) (mg : Str → Option Value) (x : Str) (s : Stmt) : Prop where
  ex : ∃ f fd, FunD K x x (defArgs s) (defBody s) (defScope s) [] [] f fd ∧ mg x = some (.ref f)
theorem Df.fd (D : Df K mg x s) (hb : ∀ (kV doc pm : Value) (an : Option Addr) (cdv ct : Value) (us : List Value), us.length = ps.length → bindArgs (PySem.W.fnOf x x (defArgs s) (defBody s) (defScope s) .none kV doc pm an cdv ct) ⟨us, []⟩ = pure (ps.zip us))
    (h : ∀ f fd, FunD K x x (defArgs s) (defBody s) (defScope s) [] [] f fd → FnOk P w K mg base (L2.CX P w) k f fd ps (spD R RX)) : FD P w K mg base k x ps R RX := by
  obtain ⟨f, fd, F, hm⟩ := D.ex
  exact ⟨f, fd, h f fd F, hm, F.kp, F.bindsN hb⟩
end
theorem ret0 {X : Cx} {args : List DV} {n : Nat} {body : List Stmt} {r : DV} {δ' : List DV} (h : DSs X [] (ent args n) body (.rt r δ')) (hn : noOw args = true) : ∃ pn δ' o, DSs X pn (ent args n) body o ∧ Out.ret r δ' o ∧ Wb pn args args δ' := ⟨[], δ', _, h, .inl rfl, wb_no hn⟩
def blkB (N : List Str) (sc scope : Scope) (own : List (Str × Nat)) : Bool :=
  decide (scope.kind = .function) && (scope.names.all fun y => decide (scope.names.lookup y.1 = some y.2)) && (own.all fun p => decide (N[p.2]? = some p.1)) &&
    (scope.names.all fun y => !decide (y.2 = .free) || decide (sc.names.lookup y.1 = some .cell) || decide (sc.names.lookup y.1 = some .free)) &&
    scope.names.all fun y => !(decide (y.2 = .local) || decide (y.2 = .cell)) || decide (y.1 ∈ own.map (·.1)) || !decide (y.1 ∈ N)
theorem blk_by {X : Cx} {scope : Scope} {own : List (Str × Nat)} (N : List Str) (sc : Scope) (h : blkB N sc scope own = true) (hN : X.N = N := by rfl) (hs : X.env.scope = sc := by rfl) : BlkOk X.N X.env.scope scope own := by
  rw [hN, hs]
  unfold blkB at h
  simp only [Bool.and_eq_true, List.all_eq_true, decide_eq_true_eq, Bool.or_eq_true, Bool.not_eq_true', decide_eq_false_iff_not] at h
  obtain ⟨⟨⟨⟨h1, h2⟩, h3⟩, h4⟩, h5⟩ := h
  refine ⟨h1, h2, h3, fun y hy e => ?_, fun y hy e => ?_⟩
  · rcases h4 y hy with (z | z) | z
    · exact absurd e z
    · exact .inl z
    · exact .inr z
  · rcases h5 y hy with (z | z) | z
    · exact absurd e (by simpa using z)
    · exact .inl z
    · exact .inr z
/-- the built-in names that the text does not bind -/
structure Bn (mg : Str → Option Value) : Prop where
  isi : mg "isinstance" = none
  len : mg "len" = none
  all : mg "all" = none
  rng : mg "range" = none
  int : mg "int" = none
  str : mg "str" = none
  bool : mg "bool" = none
  list : mg "list" = none
  tuple : mg "tuple" = none
  dict : mg "dict" = none
  max : mg "max" = none
  min : mg "min" = none
  sum : mg "sum" = none
  zip : mg "zip" = none
  repr : mg "repr" = none
/-- a def of one datum -/
def R1 (pre : D → Prop) (f : D → D) : RelD := fun args r args' => ∃ d, pre d ∧ args = [.d d] ∧ r = .d (f d) ∧ args' = args
theorem R1.len {pre : D → Prop} {f : D → D} : ∀ args r args', R1 pre f args r args' → args.length = 1 := fun _ _ _ ⟨_, _, h, _⟩ => by rw [h]; rfl
theorem R1.of {pre : D → Prop} {f : D → D} {d : D} (h : pre d) : R1 pre f [.d d] (.d (f d)) [.d d] := ⟨d, h, rfl, rfl, rfl⟩
theorem ok_plain {d : D} (h : d.ok = true) : d.plain = true := by cases d <;> first | rfl | (simp [D.ok] at h)
/-! ### defs with defaults -/
structure DfV (K : PySem.W.Frag) (mg : Str → Option Value) (x : Str) (s : Stmt) (dvs : List V) : Prop where
  ex : ∃ f fd, FunD K x x (defArgs s) (defBody s) (defScope s) dvs [] f fd ∧ mg x = some (.ref f)
/-- a def as it is called by its first arguments, the rest by default -/
structure FDv (P : Program) (w : World) (K : PySem.W.Frag) (mg : Str → Option Value) (base : Heap) (k : Nat) (x : Str) (ps : List Str) (dvs : List V) (R : RelD) (RX : RelX) : Prop where
  ex : ∃ f fd ds, FnOk P w K mg base (L2.CX P w) k f fd ps (spD R RX) ∧ mg x = some (.ref f) ∧ PySem.W.keepIn K (.ref f) = true ∧ L2.Binds K fd ps ds ∧ Vals dvs ds
theorem FDv.mono {P : Program} {w : World} {K : PySem.W.Frag} {mg : Str → Option Value} {base : Heap} {k j : Nat} {x : Str} {ps : List Str} {dvs : List V} {R : RelD} {RX : RelX} (h : FDv P w K mg base k x ps dvs R RX) (hj : k ≤ j) : FDv P w K mg base j x ps dvs R RX := by
  obtain ⟨f, fd, ds, h1, h2, h3, h4, h5⟩ := h.ex
  exact ⟨f, fd, ds, h1.mono hj, h2, h3, h4, h5⟩
theorem AVs.app {F : Hp} {σ : L2.St} : ∀ {vs : List V} {as : List AV} {ws : List V} {ds : List D}, AVs F σ vs as → RpA F ws ds → AVs F σ (vs ++ ws) (as ++ ds.map AV.d)
  | _, _, [], [], h, .nil => by simpa using h
  | _, _, _ :: _, _ :: _, .nil, .cons r t => .cons r (AVs.app .nil t)
  | _, _, _, _, .cons r t, q => .cons r (AVs.app t q)
theorem noSl_app {as : List AV} {ds : List D} (h : AV.noSl as = true) : AV.noSl (as ++ ds.map AV.d) = true := by
  induction as with
  | nil => induction ds with
    | nil => rfl
    | cons d ds ih => exact ih
  | cons a as ih =>
    cases a with
    | sl i => cases h
    | d x => exact ih h
    | raw x => exact ih h
    | pr x => exact ih h
section
variable {X : Cx} {δ δ1 : List DV} {e : Expr} {es : List Expr} {as : List AV} {pos p1 : Pos}
theorem de_callV {k : Nat} {x : Str} {ps : List Str} {R : RelD} {RX : RelX} {r : DV} {dvs : List V} {dds : List D} (G : FDv X.prog X.w X.K X.mg X.base k x ps dvs R RX) (hdv : ∀ F, RpA F dvs dds) (hr : Room k X.A) (hg : Gl X x) (ha : DA X δ (e :: es) as δ1) (hn : AV.noSl as = true)
    (hR : R ((as ++ dds.map AV.d).map (AV.dv δ1)) r ((as ++ dds.map AV.d).map (AV.dv δ1)))
    (hdb : (x == ("__debug__" : Str)) = false := by decide) (he : starEach (e :: es) X.env = (false, eval e X.env) :: starEach es X.env := by rfl) (hpl : (backTo pos (starEach es X.env)).any (·.1) = false := by rfl) : DE X δ (.Call (.Name x p1) (e :: es) [] pos) r δ1 := by
  obtain ⟨f, fd, ds, h1, h2, h3, h4, h5⟩ := G.ex
  refine (pe_call h1 hr hg h2 h3 h4 h5 passL ha hdb he hpl).imp fun σ H Q ⟨F, Rf, k⟩ => ⟨F, Rf, fun vs F1 H1 g1 R1 ra => ?_⟩
  exact call_fin R1 (ra.app (hdv F1)) (noSl_app hn) hR fun v F2 H2 g2 R2 q => k v F2 H2 (g1.trans g2) R2 (Res.back g1 q)
end
theorem sh_int {i : Int} : (D.int i).sh := ⟨rfl, Nat.zero_le _⟩
theorem sh_bl {b : Bool} : (D.bl b).sh := ⟨rfl, Nat.zero_le _⟩
theorem sh_non : D.non.sh := ⟨rfl, Nat.zero_le _⟩
theorem sh_str {s : Str} (h : PyData.strOk s = true) : (D.str s).sh := ⟨by simpa [D.ok] using h, by simp [D.dep]⟩
/-! ### mirrors -/
def signOk : D → Bool
  | .str c => !decide (c.cps.toList < ("a" : Str).cps.toList) && !decide (("z" : Str).cps.toList < c.cps.toList)
  | _ => false
def isWhole : D → Bool
  | .int _ => true
  | _ => false
def isCount : D → Bool
  | .int i => decide (0 ≤ i)
  | _ => false
def isText : D → Bool
  | .str s => (sgns s).all signOk
  | _ => false
def isWord : D → Bool
  | .str s => (sgns s).all signOk && !decide (s = "")
  | _ => false
def isSingle : D → Bool
  | .tup [.str t, x] => decide (t = "bead") && isWord x
  | _ => false
def bareD : D → D
  | .tup (.str t :: x :: r) => if t = "again" then x else .tup (.str t :: x :: r)
  | d => d
def adjOk (xs : List D) (at_ : D) : Bool := match at_ with
  | .int i => !(bareD (xs.getD (i - 1).toNat .non)).eqv (bareD (xs.getD i.toNat .non))
  | _ => false
def isGroupOf (nd : D → Bool) : D → Bool
  | .tup (.str t :: r) => decide (2 ≤ r.length) && (decide (t = "group") && (r.all nd && (irange 2 (r.length - 1)).all (adjOk (.str t :: r))))
  | _ => false
def gt1 : D → Bool
  | .int i => decide (1 < i)
  | _ => false
def isAgainOf (sg : D → Bool) : D → Bool
  | .tup [.str t, x, c] => decide (t = "again") && (isCount c && gt1 c && sg x)
  | _ => false
mutual
def grp : Nat → D → Bool
  | 0, _ => false
  | n + 1, d => isGroupOf (fun x => isSingle x || (grp n x || agn n x)) d
def agn : Nat → D → Bool
  | 0, _ => false
  | n + 1, d => isAgainOf (fun x => isSingle x || grp n x) d
end
def nodeN (n : Nat) (d : D) : Bool := isSingle d || (grp n d || agn n d)

section
variable {X : Cx} {δ δ1 δ2 : List DV} {a b c e : Expr} {x y z : D} {p1 p2 pos : Pos}
theorem dt_notT (h : DT X δ a true δ1) : DT X δ (.UnaryOp .Not a pos) false δ1 := dt_not h
theorem dt_notF (h : DT X δ a false δ1) : DT X δ (.UnaryOp .Not a pos) true δ1 := dt_not h
theorem dt_k {k k' : Bool} (h : DT X δ a k δ1) (e : k = k') : DT X δ a k' δ1 := e ▸ h
theorem di_to {tg : Expr} {xs ys : List D} (h : DI X δ tg a xs δ1) (e : xs = ys) : DI X δ tg a ys δ1 := e ▸ h
end
theorem cut_1 {x : D} {r : List D} : D.cut (x :: r) (some 1) none = r := by
  unfold D.cut HT.sIx
  simp
theorem atI_0 {α : Type} {a : α} {l : List α} : L2.atI (a :: l) 0 = some a := L2.atI_nat (j := 0) rfl
theorem atI_1 {α : Type} {a b : α} {l : List α} : L2.atI (a :: b :: l) 1 = some b := L2.atI_nat (j := 1) rfl
theorem atI_2 {α : Type} {a b c : α} {l : List α} : L2.atI (a :: b :: c :: l) 2 = some c := L2.atI_nat (j := 2) rfl
theorem single_shape {d : D} (h : isSingle d = true) : ∃ t x r, d = .tup (.str t :: x :: r) := by
  unfold isSingle at h
  split at h
  · exact ⟨_, _, _, rfl⟩
  · cases h
theorem again_shape {sg : D → Bool} {d : D} (h : isAgainOf sg d = true) : ∃ t x r, d = .tup (.str t :: x :: r) := by
  unfold isAgainOf at h
  split at h
  · exact ⟨_, _, _, rfl⟩
  · cases h
theorem group_shape {nd : D → Bool} {d : D} (h : isGroupOf nd d = true) : ∃ t x r, d = .tup (.str t :: x :: r) := by
  cases d with
  | tup xs =>
    cases xs with
    | nil => cases h
    | cons a r =>
      cases a with
      | str t =>
        cases r with
        | nil => simp [isGroupOf] at h
        | cons x r => exact ⟨_, _, _, rfl⟩
      | _ => cases h
  | _ => cases h
theorem node_shape {n : Nat} {d : D} (h : nodeN n d = true) : ∃ t x r, d = .tup (.str t :: x :: r) := by
  unfold nodeN at h
  rcases Bool.or_eq_true_iff.mp h with h | h
  · exact single_shape h
  · rcases Bool.or_eq_true_iff.mp h with h | h
    · cases n with
      | zero => simp [grp] at h
      | succ n => rw [grp] at h; exact group_shape h
    · cases n with
      | zero => simp [agn] at h
      | succ n => rw [agn] at h; exact again_shape h
theorem bareD_gd {n : Nat} {d : D} (h : Gd n d) : Gd n (bareD d) := by
  unfold bareD
  split
  · split
    · exact (h.tupA.1.head.2.head.1).mono (by omega)
    · exact h
  · exact h
end DL
end
section
set_option Elab.async false
set_option linter.all false
set_option maxRecDepth 100000
set_option maxHeartbeats 4000000
namespace W76
open PySem PySem.Spec PyProof.Rows L2 DL Hd
variable [TL]
variable {P : Program} {w : World} {K : PySem.W.Frag} {mg : Str → Option Value} {base : Heap}
theorem sc_whole : FnScope ["value"] ["value"] (defScope s_is_whole) := ⟨rfl, rfl, rfl, by decide +kernel, rfl, by decide +kernel, by decide +kernel⟩
theorem fd_whole (B : Bn mg) (Dw : Df K mg "is_whole" s_is_whole) : FD P w K mg base 1 "is_whole" ["value"] (R1 (fun d => d.plain = true) fun d => .bl (isWhole d)) noX :=
  Dw.fd (fun _ _ _ _ _ _ us hl => match us, hl with | [_], _ => rfl) fun f fd F => fn_rel0 F sc_whole R1.len (fun cdv A outer s H E hr args r args' ⟨d, hp, e1, e2, e3⟩ => by
    subst e1 e2 e3
    refine' ret0 (dss_one (ds_ret ?_)) rfl
    rotate_left
    refine de_to (de_and (p := d.isi "int") (q := !d.isi "bool") (de_isi rfl B.isi (de_v 0) hp rfl B.int boot_int (by decide)) (fun _ => de_one (de_not (de_isi rfl B.isi (de_v 0) hp rfl B.bool boot_bool (by decide)))) (fun _ => rfl)) ?_
    cases d <;> rfl)
theorem sc_text : FnScope ["value", "sign"] ["value"] (defScope s_is_text) := ⟨rfl, rfl, rfl, by decide +kernel, rfl, by decide +kernel, by decide +kernel⟩
theorem fd_text (B : Bn mg) (Dw : Df K mg "is_text" s_is_text) : FD P w K mg base 1 "is_text" ["value"] (R1 (fun d => d.plain = true ∧ ∀ s, d = .str s → s.length < sizeLine) fun d => .bl (isText d)) noX :=
  Dw.fd (fun _ _ _ _ _ _ us hl => match us, hl with | [_], _ => rfl) fun f fd F => fn_rel0 F sc_text R1.len (fun cdv A outer s H E hr args r args' ⟨d, ⟨hp, hs⟩, e1, e2, e3⟩ => by
    subst e1 e2 e3
    cases d with
    | str s =>
      refine ret0 (dss_one (ds_ret (de_andT (de_isi' "str" rfl B.isi (de_v 0) hp rfl B.str boot_str (by decide) rfl) (de_one (de_allM rfl rfl B.all (de_lcM 1 rfl sc_text.nd (di_str (de_v 0)) ?_ rfl rfl (fun _ _ _ _ _ => .inl rfl) (fun _ _ _ _ _ => .inr rfl) (fun s' H' C' cl' fp' d hd => ?_) ?_)))))) rfl
      · exact blk_by ["value", "sign"] (defScope s_is_text) (by decide +kernel)
      · obtain ⟨c, _, rfl⟩ := List.mem_map.mp hd
        exact de_chain_le de_str (de_v 1) de_str
      · unfold sgns; rw [List.length_map]; exact hs s rfl
    | _ => exact ret0 (dss_one (ds_ret (de_andF (de_isi' "str" rfl B.isi (de_v 0) hp rfl B.str boot_str (by decide) rfl)))) rfl)

theorem sc_word : FnScope ["value"] ["value"] (defScope s_is_word) := ⟨rfl, rfl, rfl, by decide +kernel, rfl, by decide +kernel, by decide +kernel⟩
theorem fd_word (B : Bn mg) (D1 : Df K mg "is_text" s_is_text) (D2 : Df K mg "is_word" s_is_word) : FD P w K mg base 2 "is_word" ["value"] (R1 (Gd 60) fun d => .bl (isWord d)) noX :=
  D2.fd (fun _ _ _ _ _ _ us hl => match us, hl with | [_], _ => rfl) fun f fd F => fn_rel0 F sc_word R1.len (fun cdv A outer s H E hr args r args' ⟨d, hp, e1, e2, e3⟩ => by
    subst e1 e2 e3
    have hs : ∀ s, d = .str s → s.length < sizeLine := fun s e => by subst e; exact hp.str
    refine ret0 (dss_one (ds_ret (de_to (de_and (p := isText d) (q := (match d with | .str s => !decide (s = "") | _ => true)) (de_call (r := .d (.bl (isText d))) (fd_text B D1) hr rfl (da_cons (de_v 0) da_nil) rfl (R1.of (d := d) ⟨hp.plain, hs⟩)) (fun h => ?_) (fun _ => rfl)) ?_))) rfl
    · cases d with
      | str s => exact de_one (de_to (de_ne hr (hp.sh (by decide)) (sh_str (by decide +kernel)) (de_v 0) de_str) (by rw [eqv_str]))
      | _ => simp [isText] at h
    · cases d <;> rfl)
/-- most: None -/
def RC : RelD := fun args r args' => ∃ d, Gd 60 d ∧ args = [.d d, .d .non] ∧ r = .d (.bl (isCount d)) ∧ args' = args
theorem sc_count : FnScope ["value", "most"] ["value", "most"] (defScope s_is_count) := ⟨rfl, rfl, rfl, by decide +kernel, rfl, by decide +kernel, by decide +kernel⟩
theorem fd_count (B : Bn mg) (D1 : Df K mg "is_whole" s_is_whole) (D2 : DfV K mg "is_count" s_is_count [.non]) : FDv P w K mg base 2 "is_count" ["value", "most"] [.non] RC noX := by
  obtain ⟨f, fd, F, hm⟩ := D2.ex
  obtain ⟨ds, hv, hb⟩ := F.binds1 (ps := ["value", "most"]) 1 0 (by simp) rfl (fun T kV doc pm an cdv ct us its h1 h2 => match us, its, h1, h2 with | [_], [_], _, _ => ⟨_, rfl, rfl⟩)
  refine ⟨f, fd, ds, fn_rel0 F sc_count (fun _ _ _ ⟨_, _, h, _⟩ => by rw [h]; rfl) (fun cdv A outer s H E hr args r args' ⟨d, hp, e1, e2, e3⟩ => ?_), hm, F.kp, hb, hv⟩
  subst e1 e2 e3
  refine ret0 (dss_one (ds_ret (de_to (de_and (p := isWhole d) (q := (match d with | .int i => decide (0 ≤ i) | _ => true)) (de_call (r := .d (.bl (isWhole d))) (fd_whole B D1) hr rfl (da_cons (de_v 0) da_nil) rfl (R1.of (d := d) hp.plain)) (fun h => ?_) (fun _ => rfl)) ?_))) rfl
  · cases d with
    | int i => exact de_to (de_and (p := decide (0 ≤ i)) (q := true) (de_ge (de_v 0) de_int rfl) (fun _ => de_one (de_orT (de_v' (de_isN (x := .non) (de_v 1)) rfl))) (fun _ => rfl)) (by simp)
    | _ => simp [isWhole] at h
  · cases d <;> rfl
theorem sc_single : FnScope ["value"] ["value"] (defScope s_is_single) := ⟨rfl, rfl, rfl, by decide +kernel, rfl, by decide +kernel, by decide +kernel⟩
theorem fd_single (B : Bn mg) (D1 : Df K mg "is_text" s_is_text) (D2 : Df K mg "is_word" s_is_word) (D3 : Df K mg "is_single" s_is_single) : FD P w K mg base 3 "is_single" ["value"] (R1 (Gd 60) fun d => .bl (isSingle d)) noX :=
  D3.fd (fun _ _ _ _ _ _ us hl => match us, hl with | [_], _ => rfl) fun f fd F => fn_rel0 F sc_single R1.len (fun cdv A outer s H E hr args r args' ⟨d, hp, e1, e2, e3⟩ => by
    subst e1 e2 e3
    show ∃ pn δ' o, _ ∧ Out.ret (.d (.bl (isSingle d))) δ' o ∧ _
    have no : ∀ {d : D}, d.isi "tuple" = false → isSingle d = false := fun {d} h => by cases d <;> first | rfl | (simp [D.isi] at h)
    cases hd : d.isi "tuple" with
    | false => exact ret0 (dss_one (ds_ret (de_to (de_andF (de_isi' "tuple" rfl B.isi (de_v 0) hp.plain rfl B.tuple boot_tuple (by decide) hd)) (by rw [no hd])))) rfl
    | true =>
      obtain ⟨xs, rfl⟩ : ∃ xs, d = .tup xs := by cases d <;> first | exact ⟨_, rfl⟩ | (simp [D.isi] at hd)
      have ga := hp.tupA.1
      by_cases hl : xs.length = 2
      · match xs, hl with
        | [a, b], _ =>
          have hA := ga.head.1
          have hB := ga.head.2.head.1
          cases a with
          | str t =>
            refine ret0 (dss_one (ds_ret (de_andT (de_isi' "tuple" rfl B.isi (de_v 0) hp.plain rfl B.tuple boot_tuple (by decide) hd) (de_andT (de_to (de_eq hr sh_int sh_int (de_len rfl B.len (de_v 0) rfl) de_int) rfl)
              (de_andT (de_isi' "str" rfl B.isi (de_ixT (de_v 0) de_int rfl) hA.plain rfl B.str boot_str (by decide) rfl) (de_one (de_to (de_and (p := decide (t = "bead")) (q := isWord b) (de_to (de_eq hr (hA.sh (by decide)) (sh_str (by decide +kernel)) (de_ixT (de_v 0) de_int rfl) de_str) (by rw [eqv_str])) (fun h => de_one (de_call (r := .d (.bl (isWord b))) (fd_word B D1 D2) hr rfl (da_cons (de_ixT (de_v 0) de_int rfl) da_nil) rfl (R1.of (d := b) (hB.mono (by decide))))) (fun _ => rfl)) rfl))))))) rfl
          | _ => exact ret0 (dss_one (ds_ret (de_andT (de_isi' "tuple" rfl B.isi (de_v 0) hp.plain rfl B.tuple boot_tuple (by decide) hd) (de_andT (de_to (de_eq hr sh_int sh_int (de_len rfl B.len (de_v 0) rfl) de_int) rfl)
              (de_andF (de_isi' "str" rfl B.isi (de_ixT (de_v 0) de_int rfl) hA.plain rfl B.str boot_str (by decide) rfl)))))) rfl
      · have e : isSingle (.tup xs) = false := by
          match xs, hl with
          | [], _ => rfl
          | [a], _ => cases a <;> rfl
          | [a, b], h => exact absurd rfl h
          | a :: b :: c :: r, _ => cases a <;> rfl
        exact ret0 (dss_one (ds_ret (de_to (de_andT (de_isi' "tuple" rfl B.isi (de_v 0) hp.plain rfl B.tuple boot_tuple (by decide) hd) (de_andF (de_to (de_eq hr sh_int sh_int (de_len rfl B.len (de_v 0) rfl) de_int) (by simp [D.eqv, D.py, PyData.eqv]; omega)))) (by rw [e])))) rfl)

theorem sc_bare : FnScope ["node"] ["node"] (defScope s_bare) := ⟨rfl, rfl, rfl, by decide +kernel, rfl, by decide +kernel, by decide +kernel⟩
theorem fd_bare (D1 : Df K mg "bare" s_bare) : FD P w K mg base 1 "bare" ["node"] (R1 (fun d => Gd 60 d ∧ ∃ t x r, d = .tup (.str t :: x :: r)) bareD) noX :=
  D1.fd (fun _ _ _ _ _ _ us hl => match us, hl with | [_], _ => rfl) fun f fd F => fn_rel0 F sc_bare R1.len (fun cdv A outer s H E hr args r args' ⟨d, ⟨hp, t, x, l, ed⟩, e1, e2, e3⟩ => by
    subst e1 e2 e3 ed
    have ga := hp.tupA.1
    refine ret0 (dss_one (ds_ret (de_to (de_if (t := decide (t = "again")) (dt_eq hr (ga.head.1.sh (by decide)) (sh_str (by decide +kernel)) (de_ixT (de_v 0) de_int atI_0) de_str (eqv_str _ _)) (fun _ => de_ixT (z := x) (de_v 0) de_int atI_1) (fun _ => de_v 0)) ?_))) rfl
    unfold bareD
    by_cases h : t = "again"
    · simp [h]
    · simp [h])
theorem sc_group : FnScope ["value", "part", "at"] ["value"] (defScope s_is_group) := ⟨rfl, rfl, rfl, by decide +kernel, rfl, by decide +kernel, by decide +kernel⟩
theorem isG_no {nd : D → Bool} {d : D} (h : d.isi "tuple" = false) : isGroupOf nd d = false := by cases d <;> first | rfl | (simp [D.isi] at h)
theorem fd_group (B : Bn mg) {n : Nat} (hn : n + 1 ≤ 60) (D1 : Df K mg "bare" s_bare) (D2 : Df K mg "is_group" s_is_group) (G : FD P w K mg base (2 * n + 6) "is_node" ["value"] (R1 (Gd n) fun d => .bl (nodeN n d)) noX) : FD P w K mg base (2 * n + 7) "is_group" ["value"] (R1 (Gd (n + 1)) fun d => .bl (grp (n + 1) d)) noX :=
  D2.fd (fun _ _ _ _ _ _ us hl => match us, hl with | [_], _ => rfl) fun f fd F => fn_rel0 F sc_group R1.len (fun cdv A outer s H E hr args r args' ⟨d, hp, e1, e2, e3⟩ => by
    subst e1 e2 e3
    show ∃ pn δ' o, _ ∧ Out.ret (.d (.bl (isGroupOf (nodeN n) d))) δ' o ∧ _
    cases hd : d.isi "tuple" with
    | false =>
      rw [isG_no hd]
      exact ret0 (dss_stop (ds_ifT (dt_w (dw_orT (dt_notF (dt_bl (de_isi' "tuple" rfl B.isi (de_v 0) hp.plain rfl B.tuple boot_tuple (by decide) hd))))) rfl (dss_one (ds_ret de_bl))) (fun _ h => nomatch h)) rfl
    | true =>
      obtain ⟨xs, rfl⟩ : ∃ xs, d = .tup xs := by cases d <;> first | exact ⟨_, rfl⟩ | (simp [D.isi] at hd)
      have ga := hp.tupA.1
      have lz : xs.length < sizeLine := ga.len
      by_cases hl : xs.length < 3
      · have e : isGroupOf (nodeN n) (.tup xs) = false := by
          match xs, hl with
          | [], _ => rfl
          | [a], _ => cases a <;> rfl
          | [a, b], h => cases a <;> rfl
        rw [e]
        exact ret0 (dss_stop (ds_ifT (dt_w (dw_orF (dt_notT (dt_bl (de_isi' "tuple" rfl B.isi (de_v 0) hp.plain rfl B.tuple boot_tuple (by decide) hd))) (dw_orT (dt_lt (de_len rfl B.len (de_v 0) rfl) de_int (decide_eq_true (by omega)))))) rfl (dss_one (ds_ret de_bl))) (fun _ h => nomatch h)) rfl
      · match xs, hl with
        | a :: r, hl =>
          have hA := ga.head.1
          have hR := ga.head.2
          have hl' : 2 ≤ r.length := by simp only [List.length_cons] at hl; omega
          cases hs : a.isi "str" with
          | false =>
            have e : isGroupOf (nodeN n) (.tup (a :: r)) = false := by cases a <;> first | rfl | (simp [D.isi] at hs)
            rw [e]
            exact ret0 (dss_stop (ds_ifT (dt_w (dw_orF (dt_notT (dt_bl (de_isi' "tuple" rfl B.isi (de_v 0) hp.plain rfl B.tuple boot_tuple (by decide) hd))) (dw_orF (dt_lt (de_len rfl B.len (de_v 0) rfl) de_int (decide_eq_false (by omega)))
              (dw_orT (dt_notF (dt_bl (de_isi' "str" rfl B.isi (de_ixT (de_v 0) de_int atI_0) hA.plain rfl B.str boot_str (by decide) hs))))))) rfl (dss_one (ds_ret de_bl))) (fun _ h => nomatch h)) rfl
          | true =>
            obtain ⟨t, rfl⟩ : ∃ t, a = .str t := by cases a <;> first | exact ⟨_, rfl⟩ | (simp [D.isi] at hs)
            have ev : isGroupOf (nodeN n) (.tup (.str t :: r)) = (decide (t = "group") && (r.all (nodeN n) && (irange 2 (r.length - 1)).all (adjOk (.str t :: r)))) := by
              show (decide (2 ≤ r.length) && _) = _
              rw [decide_eq_true hl', Bool.true_and]
            rw [ev]
            by_cases ht : t = "group"
            · rw [decide_eq_true ht, Bool.true_and]
              have hk : (!decide (t = ("group" : Str))) = false := by rw [decide_eq_true ht]; rfl
              cases hall : r.all (nodeN n) with
              | false =>
                refine' ret0 (dss_cons (ds_ifF (dt_w (dw_orF (dt_notT (dt_bl (de_isi' "tuple" rfl B.isi (de_v 0) hp.plain rfl B.tuple boot_tuple (by decide) hd))) (dw_orF (dt_lt (de_len rfl B.len (de_v 0) rfl) de_int (decide_eq_false (by omega)))
              (dw_orF (dt_notT (dt_bl (de_isi' "str" rfl B.isi (de_ixT (de_v 0) de_int atI_0) hA.plain rfl B.str boot_str (by decide) hs))) (dw_or1 (dt_ne hr (hA.sh (by omega)) (sh_str (by decide +kernel)) (de_ixT (de_v 0) de_int atI_0) de_str (by rw [eqv_str]; exact hk))))))) rfl dss_nil) (dss_stop (ds_ifT (dt_notF (dt_bl (de_v' (de_allM (xs := r) (g := nodeN n) rfl rfl B.all (de_lcM 1 rfl sc_group.nd (di_to (di_tup (de_slT (de_v 0) (do_some de_int) do_none (by unfold HT.sIx; simp))) cut_1) (blk_by ["value", "part", "at"] (defScope s_is_group) (by decide +kernel)) rfl rfl (fun _ _ _ _ _ => .inl rfl) (fun _ _ _ _ _ => .inr rfl) (fun s' H' C' cl' fp' d hd' => ?_) hR.len)) hall))) rfl (dss_one (ds_ret de_bl))) (fun _ h => nomatch h))) rfl
                exact de_call (r := .d (.bl (nodeN n d))) G hr rfl (da_cons (de_v 1) da_nil) rfl (R1.of (d := d) (hR.mem hd'))
              | true =>
                refine' ret0 (dss_cons (ds_ifF (dt_w (dw_orF (dt_notT (dt_bl (de_isi' "tuple" rfl B.isi (de_v 0) hp.plain rfl B.tuple boot_tuple (by decide) hd))) (dw_orF (dt_lt (de_len rfl B.len (de_v 0) rfl) de_int (decide_eq_false (by omega)))
              (dw_orF (dt_notT (dt_bl (de_isi' "str" rfl B.isi (de_ixT (de_v 0) de_int atI_0) hA.plain rfl B.str boot_str (by decide) hs))) (dw_or1 (dt_ne hr (hA.sh (by omega)) (sh_str (by decide +kernel)) (de_ixT (de_v 0) de_int atI_0) de_str (by rw [eqv_str]; exact hk))))))) rfl dss_nil) (dss_cons (ds_ifF (dt_notT (dt_bl (de_v' (de_allM (xs := r) (g := nodeN n) rfl rfl B.all (de_lcM 1 rfl sc_group.nd (di_to (di_tup (de_slT (de_v 0) (do_some de_int) do_none (by unfold HT.sIx; simp))) cut_1) (blk_by ["value", "part", "at"] (defScope s_is_group) (by decide +kernel)) rfl rfl (fun _ _ _ _ _ => .inl rfl) (fun _ _ _ _ _ => .inr rfl) (fun s' H' C' cl' fp' d hd' => ?_) hR.len)) hall))) rfl dss_nil)
                  (dss_one (ds_ret (de_to (de_allM (xs := irange 2 (r.length - 1)) (g := adjOk (.str t :: r)) rfl rfl B.all (de_lcM 2 rfl sc_group.nd (di_to (di_range2 rfl B.rng de_int (de_len rfl B.len (de_v 0) rfl) (by decide) ?_) ?_) (blk_by ["value", "part", "at"] (defScope s_is_group) (by decide +kernel)) rfl rfl (fun _ _ _ _ _ => .inl rfl) (fun _ _ _ _ _ => .inr rfl) (fun s' H' C' cl' fp' d hd' => ?_) ?_)) (by simp)))))) rfl
                · exact de_call (r := .d (.bl (nodeN n d))) G hr rfl (da_cons (de_v 1) da_nil) rfl (R1.of (d := d) (hR.mem hd'))
                · have := hR.len
                  have sz : sizeLine = 16777216 := by decide
                  simp only [List.length_cons]; omega
                · simp only [List.length_cons]; congr 1; omega
                · obtain ⟨j, hj, rfl⟩ := List.mem_map.mp hd'
                  have hj : j < r.length - 1 := by simpa using hj
                  have g1 : r[j]? = some (r[j]'(by omega)) := List.getElem?_eq_getElem (by omega)
                  have g2 : r[j + 1]? = some (r[j + 1]'(by omega)) := List.getElem?_eq_getElem (by omega)
                  have m1 := List.mem_of_getElem? g1
                  have m2 := List.mem_of_getElem? g2
                  have q1 := hR.mem m1
                  have q2 := hR.mem m2
                  have i1 : ((2 : Int) + (j : Int)) - 1 = ((j + 1 : Nat) : Int) := by omega
                  have i2 : ((2 : Int) + (j : Int)) = ((j + 2 : Nat) : Int) := by omega
                  have ex : adjOk (.str t :: r) (.int ((2 : Int) + (j : Int))) = !(bareD (r[j]'(by omega))).eqv (bareD (r[j + 1]'(by omega))) := by
                    show (!(bareD ((D.str t :: r).getD (((2 : Int) + (j : Int)) - 1).toNat .non)).eqv (bareD ((D.str t :: r).getD ((2 : Int) + (j : Int)).toNat .non))) = _
                    rw [i1, i2, Int.toNat_natCast, Int.toNat_natCast, List.getD_eq_getElem?_getD, List.getD_eq_getElem?_getD, List.getElem?_cons_succ, List.getElem?_cons_succ, g1, g2]
                    rfl
                  rw [ex]
                  exact de_ne hr ((bareD_gd q1).sh (by omega)) ((bareD_gd q2).sh (by omega))
                    (de_call (r := .d (bareD (r[j]'(by omega)))) (fd_bare D1) (hr.mono (by omega)) rfl (da_cons (de_ixT (de_v 0) (de_sub (de_v 2) de_int) (by rw [i1]; exact atI_nat (by rw [List.getElem?_cons_succ]; exact g1))) da_nil) rfl (R1.of ⟨q1.mono (by omega), node_shape (List.all_eq_true.mp hall _ m1)⟩))
                    (de_call (r := .d (bareD (r[j + 1]'(by omega)))) (fd_bare D1) (hr.mono (by omega)) rfl (da_cons (de_ixT (de_v 0) (de_v 2) (by rw [i2]; exact atI_nat (by rw [List.getElem?_cons_succ]; exact g2))) da_nil) rfl (R1.of ⟨q2.mono (by omega), node_shape (List.all_eq_true.mp hall _ m2)⟩))
                · rw [irange_len]; have := hR.len; omega
            · rw [decide_eq_false ht, Bool.false_and]
              have hk : (!decide (t = ("group" : Str))) = true := by rw [decide_eq_false ht]; rfl
              exact ret0 (dss_stop (ds_ifT (dt_w (dw_orF (dt_notT (dt_bl (de_isi' "tuple" rfl B.isi (de_v 0) hp.plain rfl B.tuple boot_tuple (by decide) hd))) (dw_orF (dt_lt (de_len rfl B.len (de_v 0) rfl) de_int (decide_eq_false (by omega)))
              (dw_orF (dt_notT (dt_bl (de_isi' "str" rfl B.isi (de_ixT (de_v 0) de_int atI_0) hA.plain rfl B.str boot_str (by decide) hs))) (dw_or1 (dt_ne hr (hA.sh (by omega)) (sh_str (by decide +kernel)) (de_ixT (de_v 0) de_int atI_0) de_str (by rw [eqv_str]; exact hk))))))) rfl (dss_one (ds_ret de_bl))) (fun _ h => nomatch h)) rfl
        | [], hl => simp at hl)
end W76
end
section
set_option Elab.async false
set_option linter.all false
set_option maxRecDepth 100000
set_option maxHeartbeats 4000000
namespace W76
open PySem PySem.Spec PyProof.Rows L2 DL Hd
variable [TL]
variable {P : Program} {w : World} {K : PySem.W.Frag} {mg : Str → Option Value} {base : Heap}
theorem sc_again : FnScope ["value"] ["value"] (defScope s_is_again) := ⟨rfl, rfl, rfl, by decide +kernel, rfl, by decide +kernel, by decide +kernel⟩
theorem isA_no {sg : D → Bool} {d : D} (h : d.isi "tuple" = false) : isAgainOf sg d = false := by cases d <;> first | rfl | (simp [D.isi] at h)
/-- what the defs of nodes are called by -/
structure DfN (K : PySem.W.Frag) (mg : Str → Option Value) : Prop where
  B : Bn mg
  whole : Df K mg "is_whole" s_is_whole
  count : DfV K mg "is_count" s_is_count [.non]
  text : Df K mg "is_text" s_is_text
  word : Df K mg "is_word" s_is_word
  again : Df K mg "is_again" s_is_again
  single : Df K mg "is_single" s_is_single
  group : Df K mg "is_group" s_is_group
  node : Df K mg "is_node" s_is_node
  bare : Df K mg "bare" s_bare
theorem fd_again (T : DfN K mg) {n : Nat} (hn : n + 1 ≤ 60) (G : FD P w K mg base (2 * n + 5) "is_group" ["value"] (R1 (Gd n) fun d => .bl (grp n d)) noX) : FD P w K mg base (2 * n + 7) "is_again" ["value"] (R1 (Gd (n + 1)) fun d => .bl (agn (n + 1) d)) noX :=
  T.again.fd (fun _ _ _ _ _ _ us hl => match us, hl with | [_], _ => rfl) fun f fd F => fn_rel0 F sc_again R1.len (fun cdv A outer s H E hr args r args' ⟨d, hp, e1, e2, e3⟩ => by
    have B := T.B
    subst e1 e2 e3
    show ∃ pn δ' o, _ ∧ Out.ret (.d (.bl (isAgainOf (fun x => isSingle x || grp n x) d))) δ' o ∧ _
    cases hd : d.isi "tuple" with
    | false =>
      rw [isA_no hd]
      exact ret0 (dss_stop (ds_ifT (dt_w (dw_orT (dt_notF (dt_bl (de_isi' "tuple" rfl B.isi (de_v 0) hp.plain rfl B.tuple boot_tuple (by decide) hd))))) rfl (dss_one (ds_ret de_bl))) (fun _ h => nomatch h)) rfl
    | true =>
      obtain ⟨xs, rfl⟩ : ∃ xs, d = .tup xs := by cases d <;> first | exact ⟨_, rfl⟩ | (simp [D.isi] at hd)
      have ga := hp.tupA.1
      by_cases hl : xs.length = 3
      · match xs, hl with
        | [a, x, c], _ =>
          have hA := ga.head.1
          have hX := ga.head.2.head.1
          have hC := ga.head.2.head.2.head.1
          cases hs : a.isi "str" with
          | false =>
            have e : isAgainOf (fun x => isSingle x || grp n x) (.tup [a, x, c]) = false := by cases a <;> first | rfl | (simp [D.isi] at hs)
            rw [e]
            exact ret0 (dss_stop (ds_ifT (dt_w (dw_orF (dt_notT (dt_bl (de_isi' "tuple" rfl B.isi (de_v 0) hp.plain rfl B.tuple boot_tuple (by decide) hd))) (dw_orF (dt_ne hr sh_int sh_int (de_len rfl B.len (de_v 0) rfl) de_int rfl)
              (dw_orT (dt_notF (dt_bl (de_isi' "str" rfl B.isi (de_ixT (de_v 0) de_int atI_0) hA.plain rfl B.str boot_str (by decide) hs))))))) rfl (dss_one (ds_ret de_bl))) (fun _ h => nomatch h)) rfl
          | true =>
            obtain ⟨t, rfl⟩ : ∃ t, a = .str t := by cases a <;> first | exact ⟨_, rfl⟩ | (simp [D.isi] at hs)
            have ev : isAgainOf (fun x => isSingle x || grp n x) (.tup [.str t, x, c]) = (decide (t = "again") && (isCount c && gt1 c && (isSingle x || grp n x))) := rfl
            rw [ev]
            by_cases ht : t = "again"
            · have hk : (!decide (t = ("again" : Str))) = false := by rw [decide_eq_true ht]; rfl
              rw [decide_eq_true ht, Bool.true_and]
              refine ret0 (dss_cons (ds_ifF (dt_w (dw_orF (dt_notT (dt_bl (de_isi' "tuple" rfl B.isi (de_v 0) hp.plain rfl B.tuple boot_tuple (by decide) hd))) (dw_orF (dt_ne hr sh_int sh_int (de_len rfl B.len (de_v 0) rfl) de_int rfl)
                (dw_orF (dt_notT (dt_bl (de_isi' "str" rfl B.isi (de_ixT (de_v 0) de_int atI_0) hA.plain rfl B.str boot_str (by decide) hs))) (dw_or1 (dt_ne hr (hA.sh (by omega)) (sh_str (by decide +kernel)) (de_ixT (de_v 0) de_int atI_0) de_str (by rw [eqv_str]; exact hk))))))) rfl dss_nil)
                (dss_one (ds_ret (de_to (de_and (p := isCount c) (q := gt1 c && (isSingle x || grp n x)) (de_callV (r := .d (.bl (isCount c))) (dds := [.non]) (fd_count B T.whole T.count) (fun F => .cons .non .nil) (hr.mono (by omega)) rfl (da_cons (de_ixT (de_v 0) de_int atI_2) da_nil) rfl ⟨c, hC.mono (by omega), rfl, rfl, rfl⟩) (fun h => ?_) (fun _ => rfl)) (by rw [Bool.and_assoc]))))) rfl
              cases c with
              | int i =>
                exact de_and (p := decide (1 < i)) (q := isSingle x || grp n x) (de_gt (de_ixT (de_v 0) de_int atI_2) de_int rfl) (fun _ => de_one (de_or (p := isSingle x) (q := grp n x) (de_call (r := .d (.bl (isSingle x))) (fd_single B T.text T.word T.single) (hr.mono (by omega)) rfl (da_cons (de_ixT (de_v 0) de_int atI_1) da_nil) rfl (R1.of (d := x) (hX.mono (by omega))))
                  (fun _ => de_one (de_call (r := .d (.bl (grp n x))) G (hr.mono (by omega)) rfl (da_cons (de_ixT (de_v 0) de_int atI_1) da_nil) rfl (R1.of (d := x) (hX.mono (by omega))))) (fun _ => rfl))) (fun _ => rfl)
              | _ => simp [isCount] at h
            · have hk : (!decide (t = ("again" : Str))) = true := by rw [decide_eq_false ht]; rfl
              rw [decide_eq_false ht, Bool.false_and]
              exact ret0 (dss_stop (ds_ifT (dt_w (dw_orF (dt_notT (dt_bl (de_isi' "tuple" rfl B.isi (de_v 0) hp.plain rfl B.tuple boot_tuple (by decide) hd))) (dw_orF (dt_ne hr sh_int sh_int (de_len rfl B.len (de_v 0) rfl) de_int rfl)
                (dw_orF (dt_notT (dt_bl (de_isi' "str" rfl B.isi (de_ixT (de_v 0) de_int atI_0) hA.plain rfl B.str boot_str (by decide) hs))) (dw_or1 (dt_ne hr (hA.sh (by omega)) (sh_str (by decide +kernel)) (de_ixT (de_v 0) de_int atI_0) de_str (by rw [eqv_str]; exact hk))))))) rfl (dss_one (ds_ret de_bl))) (fun _ h => nomatch h)) rfl
      · have e : isAgainOf (fun x => isSingle x || grp n x) (.tup xs) = false := by
          match xs, hl with
          | [], _ => rfl
          | [a], _ => cases a <;> rfl
          | [a, b], _ => cases a <;> rfl
          | [a, b, c], h => exact absurd rfl h
          | a :: b :: c :: d :: r, _ => cases a <;> rfl
        rw [e]
        exact ret0 (dss_stop (ds_ifT (dt_w (dw_orF (dt_notT (dt_bl (de_isi' "tuple" rfl B.isi (de_v 0) hp.plain rfl B.tuple boot_tuple (by decide) hd))) (dw_orT (dt_ne hr sh_int sh_int (de_len rfl B.len (de_v 0) rfl) de_int (by simp [D.eqv, D.py, PyData.eqv]; omega))))) rfl (dss_one (ds_ret de_bl))) (fun _ h => nomatch h)) rfl)
theorem sc_node : FnScope ["value"] ["value"] (defScope s_is_node) := ⟨rfl, rfl, rfl, by decide +kernel, rfl, by decide +kernel, by decide +kernel⟩
theorem fd_node (T : DfN K mg) {n : Nat} (hn : n ≤ 60) (G : FD P w K mg base (2 * n + 5) "is_group" ["value"] (R1 (Gd n) fun d => .bl (grp n d)) noX) (G2 : FD P w K mg base (2 * n + 5) "is_again" ["value"] (R1 (Gd n) fun d => .bl (agn n d)) noX) : FD P w K mg base (2 * n + 6) "is_node" ["value"] (R1 (Gd n) fun d => .bl (nodeN n d)) noX :=
  T.node.fd (fun _ _ _ _ _ _ us hl => match us, hl with | [_], _ => rfl) fun f fd F => fn_rel0 F sc_node R1.len (fun cdv A outer s H E hr args r args' ⟨d, hp, e1, e2, e3⟩ => by
    subst e1 e2 e3
    exact ret0 (dss_one (ds_ret (de_or (p := isSingle d) (q := grp n d || agn n d) (de_call (r := .d (.bl (isSingle d))) (fd_single T.B T.text T.word T.single) (hr.mono (by omega)) rfl (da_cons (de_v 0) da_nil) rfl (R1.of (d := d) (hp.mono hn)))
      (fun _ => de_or (p := grp n d) (q := agn n d) (de_call (r := .d (.bl (grp n d))) G hr rfl (da_cons (de_v 0) da_nil) rfl (R1.of (d := d) hp)) (fun _ => de_one (de_call (r := .d (.bl (agn n d))) G2 hr rfl (da_cons (de_v 0) da_nil) rfl (R1.of (d := d) hp))) (fun _ => rfl)) (fun _ => rfl)))) rfl)
theorem dep0 {d : D} (h : Gd 0 d) : d.isi "tuple" = false := by
  have := h.dep
  cases d <;> first | rfl | (simp [D.dep] at this)
theorem fd_leaf (T : DfN K mg) : FD P w K mg base 5 "is_group" ["value"] (R1 (Gd 0) fun d => .bl (grp 0 d)) noX ∧ FD P w K mg base 5 "is_again" ["value"] (R1 (Gd 0) fun d => .bl (agn 0 d)) noX := by
  have B := T.B
  refine ⟨T.group.fd (fun _ _ _ _ _ _ us hl => match us, hl with | [_], _ => rfl) fun f fd F => fn_rel0 F sc_group R1.len (fun cdv A outer s H E hr args r args' ⟨d, hp, e1, e2, e3⟩ => ?_), T.again.fd (fun _ _ _ _ _ _ us hl => match us, hl with | [_], _ => rfl) fun f fd F => fn_rel0 F sc_again R1.len (fun cdv A outer s H E hr args r args' ⟨d, hp, e1, e2, e3⟩ => ?_)⟩
  · subst e1 e2 e3
    show ∃ pn δ' o, _ ∧ Out.ret (.d (.bl (grp 0 d))) δ' o ∧ _
    rw [grp]
    exact ret0 (dss_stop (ds_ifT (dt_w (dw_orT (dt_notF (dt_bl (de_isi' "tuple" rfl B.isi (de_v 0) hp.plain rfl B.tuple boot_tuple (by decide) (dep0 hp)))))) rfl (dss_one (ds_ret de_bl))) (fun _ h => nomatch h)) rfl
  · subst e1 e2 e3
    show ∃ pn δ' o, _ ∧ Out.ret (.d (.bl (agn 0 d))) δ' o ∧ _
    rw [agn]
    exact ret0 (dss_stop (ds_ifT (dt_w (dw_orT (dt_notF (dt_bl (de_isi' "tuple" rfl B.isi (de_v 0) hp.plain rfl B.tuple boot_tuple (by decide) (dep0 hp)))))) rfl (dss_one (ds_ret de_bl))) (fun _ h => nomatch h)) rfl
theorem fd_ga (T : DfN K mg) : ∀ n, n ≤ 60 → FD P w K mg base (2 * n + 5) "is_group" ["value"] (R1 (Gd n) fun d => .bl (grp n d)) noX ∧ FD P w K mg base (2 * n + 5) "is_again" ["value"] (R1 (Gd n) fun d => .bl (agn n d)) noX
  | 0, _ => fd_leaf T
  | n + 1, h => by
    obtain ⟨g1, g2⟩ := fd_ga T n (by omega)
    exact ⟨fd_group T.B h T.bare T.group (fd_node T (by omega) g1 g2), fd_again T h g1⟩
theorem fd_nodeN (T : DfN K mg) (n : Nat) (h : n ≤ 60) : FD P w K mg base (2 * n + 6) "is_node" ["value"] (R1 (Gd n) fun d => .bl (nodeN n d)) noX := fd_node T h (fd_ga T n h).1 (fd_ga T n h).2
end W76
end
section
set_option Elab.async false
set_option linter.all false
set_option maxRecDepth 100000
namespace DL
open PySem PySem.Spec PyProof.Rows L2
/-! ### data of texts and tuples alone -/
mutual
def D.st : D → Bool
  | .str s => PyData.strOk s
  | .tup xs => D.stA xs
  | _ => false
def D.stA : List D → Bool
  | [] => true
  | d :: ds => d.st && D.stA ds
end
mutual
theorem eqv_st : ∀ {d e : D}, d.st = true → e.st = true → d.eqv e = true → d = e
  | .str s, .str t, _, _, h => by rw [eqv_str] at h; rw [of_decide_eq_true h]
  | .tup xs, .tup ys, h1, h2, h => by
    simp only [D.st] at h1 h2
    simp only [D.eqv, D.py, PyData.eqv] at h
    rw [eqv_stA h1 h2 h]
  | .str _, .tup _, _, _, h => by simp [D.eqv, D.py, PyData.eqv] at h
  | .tup _, .str _, _, _, h => by simp [D.eqv, D.py, PyData.eqv] at h
  | .non, _, h, _, _ => by simp [D.st] at h
  | .bl _, _, h, _, _ => by simp [D.st] at h
  | .int _, _, h, _, _ => by simp [D.st] at h
  | .lst _, _, h, _, _ => by simp [D.st] at h
  | .dct _ _, _, h, _, _ => by simp [D.st] at h
  | .exc _ _, _, h, _, _ => by simp [D.st] at h
  | .fn _, _, h, _, _ => by simp [D.st] at h
  | .str _, .non, _, h, _ => by simp [D.st] at h
  | .str _, .bl _, _, h, _ => by simp [D.st] at h
  | .str _, .int _, _, h, _ => by simp [D.st] at h
  | .str _, .lst _, _, h, _ => by simp [D.st] at h
  | .str _, .dct _ _, _, h, _ => by simp [D.st] at h
  | .str _, .exc _ _, _, h, _ => by simp [D.st] at h
  | .str _, .fn _, _, h, _ => by simp [D.st] at h
  | .tup _, .non, _, h, _ => by simp [D.st] at h
  | .tup _, .bl _, _, h, _ => by simp [D.st] at h
  | .tup _, .int _, _, h, _ => by simp [D.st] at h
  | .tup _, .lst _, _, h, _ => by simp [D.st] at h
  | .tup _, .dct _ _, _, h, _ => by simp [D.st] at h
  | .tup _, .exc _ _, _, h, _ => by simp [D.st] at h
  | .tup _, .fn _, _, h, _ => by simp [D.st] at h
theorem eqv_stA : ∀ {ds es : List D}, D.stA ds = true → D.stA es = true → PyData.eqvAll (D.pyA ds) (D.pyA es) = true → ds = es
  | [], [], _, _, _ => rfl
  | [], e :: es, _, _, h => by simp [D.pyA, PyData.eqvAll] at h
  | d :: ds, [], _, _, h => by simp [D.pyA, PyData.eqvAll] at h
  | d :: ds, e :: es, h1, h2, h => by
    simp only [D.stA, Bool.and_eq_true] at h1 h2
    simp only [D.pyA, PyData.eqvAll, Bool.and_eq_true] at h
    rw [eqv_st h1.1 h2.1 h.1, eqv_stA h1.2 h2.2 h.2]
end
mutual
/-- data equals itself -/
theorem eqv_self : ∀ d : D, d.ok = true → d.eqv d = true
  | .non, _ => rfl
  | .bl b, _ => by simp [D.eqv, D.py, PyData.eqv]
  | .int i, _ => by simp [D.eqv, D.py, PyData.eqv]
  | .str s, _ => by simp [D.eqv, D.py, PyData.eqv]
  | .lst xs, h => by simp only [D.eqv, D.py, PyData.eqv]; exact eqv_selfA xs (by simpa [D.ok] using h)
  | .tup xs, h => by simp only [D.eqv, D.py, PyData.eqv]; exact eqv_selfA xs (by simpa [D.ok] using h)
  | .dct _ _, h => by simp [D.ok] at h
  | .exc _ _, h => by simp [D.ok] at h
  | .fn _, h => by simp [D.ok] at h
theorem eqv_selfA : ∀ ds : List D, D.okA ds = true → PyData.eqvAll (D.pyA ds) (D.pyA ds) = true
  | [], _ => rfl
  | d :: ds, h => by
    simp only [D.okA, Bool.and_eq_true] at h
    simp only [D.pyA, PyData.eqvAll, Bool.and_eq_true]
    exact ⟨eqv_self d h.1, eqv_selfA ds h.2⟩
end
/-- a node of a row that is no 'again': a tagged tuple of texts and tuples -/
structure Nd (d : D) : Prop where
  gd : Gd 3 d
  st : d.st = true
  nd : nodeN 6 d = true
  tag : ∃ t x r, d = .tup (.str t :: x :: r) ∧ t ≠ "again"
  len : d.wt ≤ 60
theorem Nd.bare {d : D} (h : Nd d) : bareD d = d := by
  obtain ⟨t, x, r, rfl, ht⟩ := h.tag
  simp [bareD, ht]
theorem Nd.eq {d e : D} (h : Nd d) (k : Nd e) (q : d.eqv e = true) : d = e := eqv_st h.st k.st q
theorem Nd.self {d : D} (h : Nd d) : d.eqv d = true := eqv_self d h.gd.ok
/-! ### runs -/
def enc (p : D × Nat) : D := if p.2 = 1 then p.1 else .tup [.str "again", p.1, .int p.2]
theorem enc_bare {p : D × Nat} (h : Nd p.1) : bareD (enc p) = p.1 := by
  unfold enc
  by_cases e : p.2 = 1
  · rw [if_pos e, h.bare]
  · rw [if_neg e]; simp [bareD]
theorem enc_shape {p : D × Nat} (h : Nd p.1) : ∃ t x r, enc p = .tup (.str t :: x :: r) := by
  unfold enc
  by_cases e : p.2 = 1
  · rw [if_pos e]; obtain ⟨t, x, r, q, _⟩ := h.tag; exact ⟨t, x, r, q⟩
  · rw [if_neg e]; exact ⟨_, _, _, rfl⟩
theorem enc_eqv {p : D × Nat} {x : D} (h : Nd p.1) (hx : Nd x) (e : p.1 = x) : (enc p).eqv x = decide (p.2 = 1) := by
  unfold enc
  by_cases q : p.2 = 1
  · rw [if_pos q, e, hx.self, decide_eq_true q]
  · rw [if_neg q, decide_eq_false q]
    obtain ⟨t, y, r, rfl, ht⟩ := hx.tag
    simp only [D.eqv, D.py, D.pyA, PyData.eqv, PyData.eqvAll]
    have : ((("again" : Str) == t)) = false := beq_eq_false_iff_ne.mpr (Ne.symm ht)
    rw [this, Bool.false_and]
theorem enc_gd {p : D × Nat} (h : Nd p.1) (hp : p.2 < 10 ^ 9) : Gd 4 (enc p) := by
  unfold enc
  by_cases q : p.2 = 1
  · rw [if_pos q]; exact h.gd.mono (by decide)
  · rw [if_neg q]
    have g := h.gd
    have l := h.len
    have d := g.dep
    have lg : (if ((p.2 : Int) == 0) = true then 0 else (p.2 : Int).natAbs.log2 + 1) ≤ 40 := by
      split
      · decide
      · rename_i z
        have z' : p.2 ≠ 0 := by simpa using z
        have := (Nat.log2_lt (n := p.2) (k := 30) z').mpr (Nat.lt_trans hp (by decide))
        rw [Int.natAbs_natCast]
        omega
    refine ⟨?_, ?_, ?_, ?_⟩
    · simp only [D.ok, D.okA, g.ok, Bool.and_true, Bool.true_and]; decide +kernel
    · simp only [D.dep, D.depA]; omega
    · simp only [D.wt, D.wtA]
      have : ("again" : Str).length = 5 := by decide +kernel
      omega
    · simp only [D.sm, D.smA, g.sm, Bool.true_and, Bool.and_true, Int.natAbs_natCast, decide_eq_true_eq]; omega
/-- one more of the row -/
def rl (acc : List (D × Nat)) (x : D) : List (D × Nat) := match acc.getLast? with
  | none => [(x, 1)]
  | some p => if p.1.eqv x then acc.dropLast ++ [(x, p.2 + 1)] else acc ++ [(x, 1)]
def rls (row : List D) (n : Nat) : List (D × Nat) := (row.take n).foldl rl []
theorem rls_succ {row : List D} {n : Nat} {x : D} (h : row[n]? = some x) : rls row (n + 1) = rl (rls row n) x := by
  unfold rls
  rw [List.take_add_one, h, List.foldl_append]
  rfl
structure RlOk (row : List D) (n : Nat) (acc : List (D × Nat)) : Prop where
  nd : ∀ p ∈ acc, Nd p.1 ∧ 1 ≤ p.2 ∧ p.2 ≤ n
  len : acc.length ≤ n
theorem rls_ok {row : List D} (h : ∀ d ∈ row, Nd d) : ∀ n, RlOk row n (rls row n)
  | 0 => ⟨fun p hp => by simp [rls] at hp, by simp [rls]⟩
  | n + 1 => by
    cases e : row[n]? with
    | none =>
      have : rls row (n + 1) = rls row n := by unfold rls; rw [List.take_add_one, e]; simp
      rw [this]
      have k := rls_ok h n
      exact ⟨fun p hp => ⟨(k.nd p hp).1, (k.nd p hp).2.1, Nat.le_succ_of_le (k.nd p hp).2.2⟩, Nat.le_succ_of_le k.len⟩
    | some x =>
      rw [rls_succ e]
      have k := rls_ok h n
      have hx := h x (List.mem_of_getElem? e)
      unfold rl
      cases q : (rls row n).getLast? with
      | none => exact ⟨fun p hp => by simp at hp; subst hp; exact ⟨hx, Nat.le_refl _, by omega⟩, by simp⟩
      | some y =>
        have hy := k.nd y (List.mem_of_getLast? q)
        have ne : rls row n ≠ [] := fun z => by rw [z] at q; simp at q
        simp only
        by_cases c : y.1.eqv x = true
        · rw [if_pos c]
          refine ⟨fun p hp => ?_, by have := List.length_pos_iff.mpr ne; have := k.len; simp; omega⟩
          rcases List.mem_append.mp hp with hp | hp
          · have := k.nd p (List.dropLast_subset _ hp)
            exact ⟨this.1, this.2.1, Nat.le_succ_of_le this.2.2⟩
          · rw [List.mem_singleton] at hp; subst hp; exact ⟨hx, by simp, by have := hy.2.2; simp; omega⟩
        · rw [if_neg c]
          refine ⟨fun p hp => ?_, by have := k.len; simp; omega⟩
          rcases List.mem_append.mp hp with hp | hp
          · have := k.nd p hp
            exact ⟨this.1, this.2.1, Nat.le_succ_of_le this.2.2⟩
          · rw [List.mem_singleton] at hp; subst hp; exact ⟨hx, Nat.le_refl _, by omega⟩
def runsD (row : List D) : List D := (rls row row.length).map enc
end DL
end
section
set_option Elab.async false
set_option linter.all false
set_option maxRecDepth 100000
namespace DL
open PySem PySem.Spec PyProof.Rows L2
/-! ### wide powers -/
def CPowW (i j : Int) : Prop := 0 ≤ j ∧ (Builtin.Int.intBits i : Int) * j ≤ 2 ^ 27
theorem op_powW {X : Cx} : OpR X (binaryOp .Pow) (rI CPowW fun i j => .int (i ^ j.toNat)) := opI fun _ _ _ _ _ _ _ hc q => pow_int hc.1 hc.2 q
/-- the script -/
def prS (K : PySem.W.Frag) (ns : List Int) : Hp → V → Prop := fun F v => ∃ a, v = .ref a ∧ SqL K F a (ns.map V.int)
variable [TL]
theorem ret1 {X : Cx} {xs ys : List D} {args : List DV} {n : Nat} {body : List Stmt} {r : DV} {δ' : List DV} (h : DSs X [0] (ent (.ow xs :: args) n) body (.rt r δ')) (hn : noOw args = true) (h0 : δ'[0]? = some (.ow ys)) : ∃ pn δ' o, DSs X pn (ent (.ow xs :: args) n) body o ∧ Out.ret r δ' o ∧ Wb pn (.ow xs :: args) (.ow ys :: args) δ' := ⟨[0], δ', _, h, .inl rfl, wb_one hn h0⟩
theorem dss_to {X : Cx} {pn : List Nat} {δ δ' δ'' : List DV} {sts : List Stmt} (h : DSs X pn δ sts (.nx δ')) (e : δ' = δ'') : DSs X pn δ sts (.nx δ'') := e ▸ h
section
variable {X : Cx} {δ δ1 δ2 δ3 : List DV} {a b c e : Expr} {p1 p2 pos : Pos} {lo hi : Option Expr} {i j : Option Int} {ns : List Int}
theorem de_powW {i j : Int} (ha : DE X δ a (.d (.int i)) δ1) (hb : DE X δ1 b (.d (.int j)) δ2) (hc : CPowW i j) : DE X δ (.BinOp a .Pow b pos) (.d (.int (i ^ j.toNat))) δ2 := de_bin op_powW ha hb (opd_ic hc fun _ => .int _)
theorem de_slP (ha : DE X δ a (.pr (prS X.K ns)) δ1) (hl : DO X δ1 lo i δ2) (hh : DO X δ2 hi j δ3) : DE X δ (.Subscript a (.Slice lo hi none p2) pos) (.ow (D.cut (ns.map D.int) i j)) δ3 := by
  obtain ⟨t, pt, ht⟩ := hl.run
  obtain ⟨u, pu, hu⟩ := hh.run
  refine (pe_slice sl_list ha pt pu).imp fun σ H Q ⟨F, R, k⟩ => ⟨F, R, fun v F1 H1 g1 R1 r1 => ?_⟩
  refine ht σ H1 _ ⟨F1, R1, fun F2 H2 g2 R2 => ?_⟩
  refine hu σ H2 _ ⟨F2, R2, fun F3 H3 g3 R3 => ?_⟩
  obtain ⟨a, rfl, hs⟩ := r1 H3 ((g2.ff.trans g3.ff).trans R3.sub)
  exact ⟨_, _, rfl, hs, fun p hp => fin_own k (g1.trans (g2.trans g3)) R3 hp (RpA.ints.cut i j)⟩
theorem de_lenP (hg : Gl X "len") (hm : X.mg "len" = none) (ha : DE X δ a (.pr (prS X.K ns)) δ1) (he : starEach [a] X.env = (false, eval a X.env) :: starEach [] X.env := by rfl) : DE X δ (.Call (.Name "len" p1) [a] [] pos) (.d (.int ns.length)) δ1 :=
  de_bi (as := [.pr (prS X.K ns)]) call_len hg hm (by decide +kernel) (da_pr ha da_nil he) (fun F H σ vs Q ex h k => by
    cases h with
    | cons r t =>
      cases t
      obtain ⟨a, rfl, hs⟩ := (show ∀ F2, Ex F F2 → prS X.K ns F2 _ from r) H ex
      refine ⟨_, _, rfl, .inl ⟨_, hs, rfl⟩, ?_⟩
      rw [List.length_map]
      exact k _ (.int _)) (he := he)
end
/-! ### the purse -/
structure Pu where
  a : Int
  b : Int
  c : Int
  d : Int
def pz (p : Pu) : List D := [.int p.a, .int p.b, .int p.c, .int p.d]
structure OkP (L : Nat) (p : Pu) : Prop where
  a0 : 0 ≤ p.a
  b0 : 0 ≤ p.b
  b1 : p.b < 2 ^ 31
  c0 : 0 ≤ p.c
  c1 : p.c ≤ L
  d0 : 0 ≤ p.d
  d1 : p.d ≤ 2 ^ 31
theorem OkP.mono {L M : Nat} {p : Pu} (h : OkP L p) (l : L ≤ M) : OkP M p := ⟨h.a0, h.b0, h.b1, h.c0, by have := h.c1; omega, h.d0, h.d1⟩
def mixN (a b c : Int) : Int := ((((a * 69069 + 104729 * b * b + 7919 * c + b) % 2147483647) * ((a * 69069 + 104729 * b * b + 7919 * c + b) % 2147483647) + 40503) % 2147483629 * 48271) % 2147483587
def drawN (p : Pu) (m : Int) : Int := if 0 < p.a then p.a % m else (0 * 2147483587 + mixN p.b (p.c + 1) p.d) % m
def drawP (p : Pu) (m : Int) : Pu := if 0 < p.a then { p with a := p.a / m } else { p with c := p.c + 1 }
theorem drawN_ge {p : Pu} {m : Int} (h : 0 < m) : 0 ≤ drawN p m ∧ drawN p m < m := by
  unfold drawN
  split
  · exact ⟨Int.emod_nonneg _ (by omega), Int.emod_lt_of_pos _ h⟩
  · exact ⟨Int.emod_nonneg _ (by omega), Int.emod_lt_of_pos _ h⟩
theorem drawP_ok {L : Nat} {p : Pu} {m : Int} (h : OkP L p) (hm : 0 < m) : OkP (L + 1) (drawP p m) := by
  unfold drawP
  split
  · exact ⟨Int.ediv_nonneg h.a0 (by omega), h.b0, h.b1, h.c0, by have := h.c1; show p.c ≤ _; omega, h.d0, h.d1⟩
  · exact ⟨h.a0, h.b0, h.b1, by show 0 ≤ p.c + 1; have := h.c0; omega, by show p.c + 1 ≤ _; have := h.c1; omega, h.d0, h.d1⟩
end DL
end
section
set_option Elab.async false
set_option linter.all false
set_option maxRecDepth 100000
namespace DL
open PySem PySem.Spec PyProof.Rows L2
def rListS : List V → Hp → VK → Prop := fun xs H Q => ∃ s : Str, xs = [.str s] ∧ s.length ≤ sizeLine ∧ ∀ q, H q = none → Q (.ref q) (upd H q (.lst (s.cps.toList.map fun c => V.str ⟨#[c]⟩)))
theorem call_list_S {X : Cx} (hc : X.calm = true) : CallR X (.type "list") rListS := by
  intro pins s σ H xs us Q I r h
  obtain ⟨x, rfl, hl, q⟩ := h
  cases r with
  | cons rx rn =>
  cases rn
  obtain ⟨t, rfl⟩ := (show ∃ t, _ = Value.str x t from rx)
  refine call_list_str (I.ok.hd hc) x t (fun h' tk acc c' hk e' hi => ?_) hl
  refine ⟨.ref s.heap.objs.size, upd H s.heap.objs.size (.lst (x.cps.toList.map fun c => V.str ⟨#[c]⟩)), I.laid hk (Nat.le_refl _) (show ObjOk X.prog X.w _ _ _ (.lst _) from ⟨by rw [List.length_map]; exact hl, acc.toList, c', vals_of_at ?_ fun j y u h1 h2 => ?_, by rw [Array.toArray_toList]; exact e'⟩), rfl, q _ (I.hok.fresh (Nat.le_refl _))⟩
  · rw [List.length_map, Array.length_toList, Array.length_toList, hi.1]
  · obtain ⟨c, tt, e1, rfl⟩ := hi.2 j u (by rw [← h2, Array.getElem?_toList])
    rw [List.getElem?_map] at h1
    rw [Array.getElem?_toList, e1] at h1
    cases h1
    exact ⟨tt, rfl⟩
variable [TL]
theorem RpA.sgns {F : Hp} {l : List Nat} : RpA F (l.map fun c => V.str ⟨#[c]⟩) (l.map fun c => D.str ⟨#[c]⟩) := by
  induction l with
  | nil => exact .nil
  | cons c l ih => exact .cons (.str _) ih
theorem de_listS {X : Cx} {δ δ1 : List DV} {a : Expr} {s : Str} {p1 pos : Pos} (hcm : X.calm = true) (hg : Gl X "list") (hm : X.mg "list" = none) (ha : DE X δ a (.d (.str s)) δ1) (hl : s.length ≤ sizeLine) (he : starEach [a] X.env = (false, eval a X.env) :: starEach [] X.env := by rfl) : DE X δ (.Call (.Name "list" p1) [a] [] pos) (.ow (sgns s)) δ1 :=
  de_tyL (call_list_S hcm) hg hm boot_list (da_cons ha da_nil he) (fun F H σ vs Q ex h k => by
    obtain ⟨v, rfl, rv⟩ := AVs.one h
    cases rv
    exact ⟨s, rfl, hl, fun p hp => k p _ hp RpA.sgns⟩) (he := he)
theorem de_callQ {X : Cx} {δ δ1 δ' : List DV} {e : Expr} {es : List Expr} {as : List AV} {pos p1 : Pos} {k : Nat} {x : Str} {ps : List Str} {R : RelD} {RX : RelX} (i : Nat) (xs ys : List D) (r : DV) (G : FD X.prog X.w X.K X.mg X.base k x ps R RX) (hr : Room k X.A) (hg : Gl X x) (ha : DA X δ (e :: es) (.sl i :: as) δ1) (hn : AV.noSl as = true) (hi : δ1[i]? = some (.ow xs))
    (hR : R (.ow xs :: as.map (AV.dv δ1)) r (.ow ys :: as.map (AV.dv δ1))) (hδ : δ1.set i (.ow ys) = δ' := by rfl)
    (hdb : (x == ("__debug__" : Str)) = false := by decide) (he : starEach (e :: es) X.env = (false, eval e X.env) :: starEach es X.env := by rfl) (hpl : (backTo pos (starEach es X.env)).any (·.1) = false := by rfl) : DE X δ (.Call (.Name x p1) (e :: es) [] pos) r δ' := hδ ▸ de_callP G hr hg ha hn hi hR hdb he hpl
theorem took_all (r : Nat → D) (n : Nat) : took (fun _ => true) r n = (List.range n).map r := by
  unfold took
  simp [List.flatMap_singleton', List.map_eq_flatMap]
theorem sgns_len (s : Str) : (sgns s).length = s.length := by simp [sgns, Str.length]
/-! ### purses, words -/
def cutI (ns : List Int) (i j : Option Int) : List Int := (ns.drop (HT.sIx ns.length 0 i)).take (HT.sIx ns.length ns.length j - HT.sIx ns.length 0 i)
theorem cut_ints {ns : List Int} {i j : Option Int} : D.cut (ns.map D.int) i j = (cutI ns i j).map D.int := by
  unfold D.cut cutI
  rw [List.length_map, List.map_take, List.map_drop]
def seedN (ns : List Int) (at_ : Int) : Int := (cutI ns (some at_) (some (at_ + 1))).sum
def bigM : Int := (10 ^ (60 : Int).toNat) ^ (8 : Int).toNat
def purse0 (ns : List Int) (at_ : Int) : Pu := ⟨max (seedN ns at_ - 10 ^ (18 : Int).toNat) 0 % bigM, seedN ns at_ % 2147483629, 0, at_⟩
theorem purse0_ok {ns : List Int} {at_ : Int} (h0 : 0 ≤ at_) (h1 : at_ ≤ 2 ^ 31) : OkP 0 (purse0 ns at_) :=
  ⟨Int.emod_nonneg _ (by decide +kernel), Int.emod_nonneg _ (by decide), Int.lt_trans (Int.emod_lt_of_pos _ (by decide)) (by decide), Int.le_refl _, Int.le_refl _, h0, h1⟩
/-- one of some -/
def oneOf (p : Pu) (xs : List D) : D := xs.getD (drawN p xs.length).toNat .non
theorem oneOf_at {p : Pu} {xs : List D} (h : 0 < xs.length) : L2.atI xs (drawN p xs.length) = some (oneOf p xs) := by
  obtain ⟨h1, h2⟩ := drawN_ge (p := p) (m := (xs.length : Int)) (by omega)
  have e : drawN p (xs.length : Int) = ((drawN p (xs.length : Int)).toNat : Int) := by omega
  unfold oneOf
  rw [e, Int.toNat_natCast]
  refine L2.atI_nat ?_
  have hl : (drawN p (xs.length : Int)).toNat < xs.length := by omega
  rw [List.getD_eq_getElem?_getD, List.getElem?_eq_getElem hl]
  rfl
theorem oneOf_mem {p : Pu} {xs : List D} (h : 0 < xs.length) : oneOf p xs ∈ xs := by
  obtain ⟨h1, h2⟩ := drawN_ge (p := p) (m := (xs.length : Int)) (by omega)
  have hl : (drawN p (xs.length : Int)).toNat < xs.length := by omega
  unfold oneOf
  rw [List.getD_eq_getElem?_getD, List.getElem?_eq_getElem hl]
  exact List.getElem_mem hl
abbrev alpha : Str := "abcdefghijklmnopqrstuvwxyz"
def kinds : List D := [.int 2, .int 5, .int 26]
def kindN (p : Pu) : Int := match oneOf p kinds with
  | .int i => i
  | _ => 2
theorem kind_eq (p : Pu) : oneOf p kinds = .int (kindN p) ∧ (kindN p = 2 ∨ kindN p = 5 ∨ kindN p = 26) := by
  have := oneOf_mem (p := p) (xs := kinds) (by decide)
  unfold kindN
  simp only [kinds, List.mem_cons, List.mem_singleton, List.not_mem_nil, or_false] at this
  rcases this with e | e | e <;> (rw [show oneOf p kinds = _ from e]; exact ⟨rfl, by simp⟩)
def some_ (p : Pu) : List D := sgns (cutS alpha none (some (kindN p)))
def signN (p : Pu) : D := oneOf (drawP p 3) (some_ p)
def signP (p : Pu) : Pu := drawP (drawP p 3) (some_ p).length
def isSg (d : D) : Prop := ∃ c : Nat, 97 ≤ c ∧ c ≤ 122 ∧ d = .str ⟨#[c]⟩
theorem some_len (p : Pu) : (some_ p).length = (kindN p).toNat ∧ ∀ d ∈ some_ p, isSg d := by
  unfold some_
  rcases (kind_eq p).2 with h | h | h <;> rw [h]
  · exact ⟨by decide +kernel, fun d hd => by
      obtain ⟨c, hc, rfl⟩ := List.mem_map.mp hd
      have : ∀ c ∈ (cutS alpha none (some 2)).cps.toList, 97 ≤ c ∧ c ≤ 122 := by decide +kernel
      exact ⟨c, (this c hc).1, (this c hc).2, rfl⟩⟩
  · exact ⟨by decide +kernel, fun d hd => by
      obtain ⟨c, hc, rfl⟩ := List.mem_map.mp hd
      have : ∀ c ∈ (cutS alpha none (some 5)).cps.toList, 97 ≤ c ∧ c ≤ 122 := by decide +kernel
      exact ⟨c, (this c hc).1, (this c hc).2, rfl⟩⟩
  · exact ⟨by decide +kernel, fun d hd => by
      obtain ⟨c, hc, rfl⟩ := List.mem_map.mp hd
      have : ∀ c ∈ (cutS alpha none (some 26)).cps.toList, 97 ≤ c ∧ c ≤ 122 := by decide +kernel
      exact ⟨c, (this c hc).1, (this c hc).2, rfl⟩⟩
theorem some_pos (p : Pu) : 0 < (some_ p).length ∧ (some_ p).length ≤ 26 := by
  rw [(some_len p).1]
  rcases (kind_eq p).2 with h | h | h <;> rw [h] <;> decide
theorem signN_sg (p : Pu) : isSg (signN p) := (some_len p).2 _ (oneOf_mem (some_pos p).1)
theorem signP_ok {L : Nat} {p : Pu} (h : OkP L p) : OkP (L + 2) (signP p) := drawP_ok (drawP_ok h (by decide)) (by have := (some_pos p).1; omega)
def signPs (p : Pu) : Nat → Pu
  | 0 => p
  | j + 1 => signP (signPs p j)
theorem signPs_ok {L : Nat} {p : Pu} (h : OkP L p) : ∀ j, OkP (L + 2 * j) (signPs p j)
  | 0 => h
  | j + 1 => by have := signP_ok (signPs_ok h j); exact this.mono (by omega)
def strOf : D → Str
  | .str s => s
  | _ => ""
def wordN (p : Pu) (n : Nat) : Str := Txt.join "" ((List.range n).map fun j => strOf (signN (signPs p j)))
end DL
end
section
set_option Elab.async false
set_option linter.all false
set_option maxRecDepth 100000
set_option maxHeartbeats 2000000
/-! M94: the text of a node, in plain Lean. -/
namespace DL
open PySem PySem.Spec PyProof.Rows L2
variable [TL]
/-! ### texts by their signs -/
def ofCs (cs : List Nat) : Str := ⟨cs.toArray⟩
def csOf (s : Str) : List Nat := s.cps.toList
theorem ofCs_csOf (s : Str) : ofCs (csOf s) = s := by cases s; simp [ofCs, csOf]
theorem csOf_ofCs (cs : List Nat) : csOf (ofCs cs) = cs := by simp [ofCs, csOf]
theorem ofCs_app (a b : List Nat) : ofCs a ++ ofCs b = ofCs (a ++ b) := by
  show Str.append _ _ = _
  simp [Str.append, ofCs]
theorem ofCs_len (a : List Nat) : (ofCs a).length = a.length := by simp [ofCs, Str.length]
theorem csOf_len (s : Str) : (csOf s).length = s.length := by simp [csOf, Str.length]
theorem ofCs_inj {a b : List Nat} (h : ofCs a = ofCs b) : a = b := by
  have := congrArg csOf h
  rwa [csOf_ofCs, csOf_ofCs] at this
theorem sjoin_cs : ∀ ts : List (List Nat), Str.join "" (ts.map ofCs) = ofCs ts.flatten
  | [] => by show Str.empty = _; simp [Str.empty, ofCs]
  | [x] => by show ofCs x = _; simp
  | x :: y :: r => by
    have e := sjoin_cs (y :: r)
    show ofCs x ++ ("" : Str) ++ Str.join "" (ofCs y :: r.map ofCs) = _
    rw [show (ofCs y :: r.map ofCs) = (y :: r).map ofCs from rfl, e, show ("" : Str) = ofCs [] from by decide +kernel, ofCs_app, ofCs_app]
    simp
theorem tjoin_cs (ts : List (List Nat)) : Txt.join "" (ts.map ofCs) = ofCs ts.flatten := by
  rw [show Txt.join "" (ts.map ofCs) = Str.join "" (ts.map ofCs) from PySem.StrLaws.glued_eq_join _ _]
  exact sjoin_cs ts
/-! ### numbers by their figures -/
def digL (i : Int) : List Nat := (toString i).toList.map Char.toNat
theorem digS (i : Int) : Str.ofString (toString i) = ofCs (digL i) := Str.ofString_eq_toList _
theorem digL_len {i : Int} {k : Nat} (hk : 0 < k) (h : i.natAbs < 10 ^ k) : (digL i).length ≤ k + 1 := by
  have := int_text_length_le10 hk h
  rw [digL, List.length_map, ← PyProof.Rows.ofString_length, PySem.ofString_length]
  exact this
def wtI (i : Int) : Nat := if i == 0 then 0 else i.natAbs.log2 + 1
theorem wt_int (i : Int) : (D.int i).wt = wtI i := rfl
theorem digL_wt (i : Int) : (digL i).length ≤ wtI i + 2 := by
  unfold wtI
  by_cases h : i = 0
  · subst h; exact by decide
  · rw [if_neg (by simpa using h)]
    have z : i.natAbs ≠ 0 := by omega
    have h1 : i.natAbs < 2 ^ (i.natAbs.log2 + 1) := Nat.lt_log2_self
    have h2 : 2 ^ (i.natAbs.log2 + 1) ≤ 10 ^ (i.natAbs.log2 + 1) := Nat.pow_le_pow_left (by decide) _
    have := digL_len (i := i) (k := i.natAbs.log2 + 1) (by omega) (by omega)
    omega
/-! ### the text of a node -/
def intOf : D → Int
  | .int i => i
  | _ => 0
def codeL : Nat → D → List Nat
  | 0, _ => []
  | n + 1, .tup (.str t :: x :: r) => if t = "bead" then csOf (strOf x) ++ [46] else if t = "again" then [40] ++ codeL n x ++ digL (intOf (r.headD .non)) ++ [41] else [91] ++ ((x :: r).map (codeL n)).flatten ++ [93]
  | _ + 1, _ => []
def codeN (n : Nat) (d : D) : D := .str (ofCs (codeL n d))
theorem node_cases {n : Nat} {d : D} (h : nodeN (n + 1) d = true) : (∃ w, d = .tup [.str "bead", .str w] ∧ isWord (.str w) = true) ∨ (∃ x i, d = .tup [.str "again", x, .int i] ∧ 1 < i ∧ (isSingle x || grp n x) = true) ∨
    ∃ r, d = .tup (.str "group" :: r) ∧ 2 ≤ r.length ∧ r.all (nodeN n) = true ∧ (irange 2 (r.length - 1)).all (adjOk (.str "group" :: r)) = true := by
  unfold nodeN at h
  rcases Bool.or_eq_true_iff.mp h with h | h
  · refine .inl ?_
    unfold isSingle at h
    split at h
    · rename_i t x _
      obtain ⟨a, b⟩ := Bool.and_eq_true_iff.mp h
      have a := of_decide_eq_true a
      subst a
      cases x with
      | str w => exact ⟨w, rfl, b⟩
      | _ => simp [isWord] at b
    · cases h
  · rcases Bool.or_eq_true_iff.mp h with h | h
    · rw [grp] at h
      refine .inr (.inr ?_)
      obtain ⟨t, x, r, rfl⟩ := group_shape h
      unfold isGroupOf at h
      simp only [Bool.and_eq_true, decide_eq_true_eq] at h
      obtain ⟨h1, rfl, h2, h3⟩ := h
      exact ⟨_, rfl, h1, h2, h3⟩
    · rw [agn] at h
      refine .inr (.inl ?_)
      unfold isAgainOf at h
      split at h
      · rename_i t x c _ _
        simp only [Bool.and_eq_true, decide_eq_true_eq] at h
        obtain ⟨rfl, ⟨h1, h2⟩, h3⟩ := h
        cases c with
        | int i => exact ⟨x, i, rfl, of_decide_eq_true h2, h3⟩
        | _ => simp [isCount] at h1
      · cases h
theorem sg_node {n : Nat} {x : D} (h : (isSingle x || grp n x) = true) : nodeN n x = true := by
  unfold nodeN
  rcases Bool.or_eq_true_iff.mp h with h | h
  · rw [h]; rfl
  · rw [h]; simp
theorem node0 {d : D} (h : nodeN 0 d = true) : ∃ w, d = .tup [.str "bead", .str w] ∧ isWord (.str w) = true := by
  unfold nodeN at h
  rcases Bool.or_eq_true_iff.mp h with h | h
  · unfold isSingle at h
    split at h
    · rename_i t x _
      obtain ⟨a, b⟩ := Bool.and_eq_true_iff.mp h
      have a := of_decide_eq_true a
      subst a
      cases x with
      | str w => exact ⟨w, rfl, b⟩
      | _ => simp [isWord] at b
    · cases h
  · simp [grp, agn] at h
theorem code_bead (n : Nat) (w : Str) : codeL (n + 1) (.tup [.str "bead", .str w]) = csOf w ++ [46] := by
  rw [codeL, if_pos rfl]; rfl
theorem code_again (n : Nat) (x : D) (i : Int) : codeL (n + 1) (.tup [.str "again", x, .int i]) = [40] ++ codeL n x ++ digL i ++ [41] := by
  rw [codeL, if_neg (by decide +kernel), if_pos rfl]; rfl
theorem code_group (n : Nat) (r : List D) (h : 2 ≤ r.length) : codeL (n + 1) (.tup (.str "group" :: r)) = [91] ++ (r.map (codeL n)).flatten ++ [93] := by
  cases r with
  | nil => simp at h
  | cons x r => rw [codeL, if_neg (by decide +kernel), if_neg (by decide +kernel)]
theorem flat_len {f : D → List Nat} : ∀ {r : List D}, (∀ d ∈ r, (f d).length ≤ d.wt) → ((r.map f).map fun x => x.length).sum ≤ D.wtA r
  | [], _ => by simp [D.wtA]
  | d :: r, h => by
    have h1 := h d List.mem_cons_self
    have h2 := flat_len (r := r) fun x hx => h x (List.mem_cons_of_mem _ hx)
    simp only [List.map_cons, List.sum_cons, D.wtA]
    omega
theorem flatten_len {ts : List (List Nat)} : ts.flatten.length = (ts.map fun x => x.length).sum := by
  rw [List.length_flatten]
theorem code_len : ∀ (n : Nat) (d : D), nodeN n d = true → (codeL n d).length ≤ d.wt
  | 0, d, h => by simp [codeL]
  | n + 1, d, h => by
    rcases node_cases h with ⟨w, rfl, hw⟩ | ⟨x, i, rfl, h1, h2⟩ | ⟨r, rfl, h1, h2, _⟩
    · rw [code_bead, List.length_append, csOf_len]
      simp only [D.wt, D.wtA, List.length_cons, List.length_nil]
      omega
    · rw [code_again]
      have k := code_len n x (sg_node h2)
      have k2 := digL_wt i
      have e : (Str.ofString "again").length = 5 := by decide +kernel
      simp only [List.length_append, List.length_cons, List.length_nil, D.wt, D.wtA, e]
      show _ ≤ 5 + 1 + (x.wt + 1 + (wtI i + 1 + 0))
      omega
    · rw [code_group n r h1]
      have e : (Str.ofString "group").length = 5 := by decide +kernel
      simp only [List.length_append, List.length_cons, List.length_nil, D.wt, D.wtA, e, flatten_len]
      have := flat_len (f := codeL n) fun d hd => code_len n d (List.all_eq_true.mp h2 d hd)
      omega
end DL
end
section
set_option Elab.async false
set_option linter.all false
set_option maxRecDepth 100000
set_option maxHeartbeats 4000000
namespace W76
open PySem PySem.Spec PyProof.Rows L2 DL Hd
variable [TL]
variable {P : Program} {w : World} {K : PySem.W.Frag} {mg : Str → Option Value} {base : Heap}
theorem eqS_t {s t : Str} (h : s = t) : (D.str s).eqv (.str t) = true := by rw [eqv_str]; exact decide_eq_true h
theorem eqS_f {s t : Str} (h : s ≠ t) : (D.str s).eqv (.str t) = false := by rw [eqv_str]; exact decide_eq_false h
theorem bead_again : ("bead" : Str) ≠ "again" := by decide +kernel
theorem again_bead : ("again" : Str) ≠ "bead" := by decide +kernel
theorem group_bead : ("group" : Str) ≠ "bead" := by decide +kernel
theorem group_again : ("group" : Str) ≠ "again" := by decide +kernel
theorem sh_lit {s : String} (h : PyData.strOk (Str.ofString s) = true := by decide +kernel) : (D.str (Str.ofString s)).sh := sh_str h
theorem wt_lt {n : Nat} {d : D} (h : Gd n d) : d.wt ≤ 262144 := h.wt
theorem szl : sizeLine = 16777216 := by decide
theorem wt_i {i : Int} {n : Nat} (h : Gd n (.int i)) : i.natAbs.log2 < 1920 := by
  have := h.sm
  simp only [D.sm, decide_eq_true_eq] at this
  by_cases z : i.natAbs = 0
  · rw [z]; decide
  · exact Nat.lt_of_lt_of_le ((Nat.log2_lt z).mpr (Nat.lt_of_lt_of_le this (by decide : 10 ^ 50 ≤ 2 ^ 170))) (by decide)
theorem sc_code : FnScope ["node", "part"] ["node"] (defScope s_code_in) := ⟨rfl, rfl, rfl, by decide +kernel, rfl, by decide +kernel, by decide +kernel⟩
theorem fd_code (B : Bn mg) (D1 : Df K mg "code_in" s_code_in) : ∀ n, n ≤ 60 → FD P w K mg base (n + 1) "code_in" ["node"] (R1 (fun d => Gd n d ∧ nodeN n d = true) (codeN n)) noX
  | 0, _ => D1.fd (fun _ _ _ _ _ _ us hl => match us, hl with | [_], _ => rfl) fun f fd F => fn_rel0 F sc_code R1.len (fun cdv A outer s H E hr args r args' ⟨d, ⟨hp, hn⟩, e1, e2, e3⟩ => by
    obtain ⟨w, rfl, _⟩ := node0 hn
    have := dep0 hp
    simp [D.isi] at this)
  | n + 1, h60 => D1.fd (fun _ _ _ _ _ _ us hl => match us, hl with | [_], _ => rfl) fun f fd F => fn_rel0 F sc_code R1.len (fun cdv A outer s H E hr args r args' ⟨d, ⟨hp, hn⟩, e1, e2, e3⟩ => by
    have G := fd_code B D1 n (by omega)
    subst e1 e2 e3
    have ga := hp
    have hw := wt_lt hp
    have big := szl
    rcases node_cases hn with ⟨w, rfl, hw'⟩ | ⟨x, i, rfl, h1, h2⟩ | ⟨r, rfl, h1, h2, _⟩
    · have ga := hp.tupA.1
      refine ret0 (dss_stop (ds_ifT (dt_eq hr sh_lit sh_lit (de_ixT (de_v 0) de_int atI_0) de_str (eqS_t rfl)) rfl (dss_one (ds_ret (de_to (de_addS (de_ixT (de_v 0) de_int atI_1) de_str ?_) ?_)))) (fun _ h => nomatch h)) rfl
      · have := ga.head.2.head.1.str
        have e : (Str.ofString ".").length = 1 := by decide +kernel
        rw [e]
        simp only [D.wt, D.wtA] at hw
        omega
      · rw [codeN, code_bead, ← ofCs_app, ofCs_csOf]; rfl
    · have ga := hp.tupA.1
      have hX := ga.head.2.head.1
      have hI := ga.head.2.head.2.head.1
      have k := code_len n x (sg_node h2)
      have k2 := digL_wt i
      have e : (Str.ofString "again").length = 5 := by decide +kernel
      have e1 : (Str.ofString "(").length = 1 := by decide +kernel
      have e2 : (Str.ofString ")").length = 1 := by decide +kernel
      simp only [D.wt, D.wtA, e] at hw
      have hw2 : x.wt + wtI i + 8 ≤ 262144 := by have : (if (i == 0) = true then 0 else i.natAbs.log2 + 1) = wtI i := rfl; omega
      refine ret0 (dss_cons (ds_ifF (dt_eq hr sh_lit sh_lit (de_ixT (de_v 0) de_int atI_0) de_str (eqS_f again_bead)) rfl dss_nil)
        (dss_stop (ds_ifT (dt_eq hr sh_lit sh_lit (de_ixT (de_v 0) de_int atI_0) de_str (eqS_t rfl)) rfl (dss_one (ds_ret (de_to (de_addS (de_addS (de_addS de_str (de_call (r := .d (codeN n x)) G hr rfl (da_cons (de_ixT (de_v 0) de_int atI_1) da_nil) rfl (R1.of (d := x) ⟨hX, sg_node h2⟩)) ?_) (de_strI rfl B.str (de_ixT (de_v 0) de_int atI_2) (wt_i hI)) ?_) de_str ?_) ?_)))) (fun _ h => nomatch h))) rfl
      · rw [ofCs_len, e1]; omega
      · rw [digS, ofCs_len, strLen_append, e1, ofCs_len]; omega
      · rw [digS, strLen_append, strLen_append, ofCs_len, e1, e2, ofCs_len]; omega
      · rw [codeN, code_again, ← ofCs_app, ← ofCs_app, ← ofCs_app, digS]; rfl
    · have ga := hp.tupA.1
      have gr := ga.head.2
      have fl := flat_len (f := codeL n) fun d hd => code_len n d (List.all_eq_true.mp h2 d hd)
      have e : (Str.ofString "group").length = 5 := by decide +kernel
      have e1 : (Str.ofString "[").length = 1 := by decide +kernel
      have e2 : (Str.ofString "]").length = 1 := by decide +kernel
      simp only [D.wt, D.wtA, e] at hw
      have el : Txt.join "" (r.map fun d => ofCs (codeL n d)) = ofCs (r.map (codeL n)).flatten := by
        rw [← tjoin_cs, List.map_map]; rfl
      refine ret0 (dss_cons (ds_ifF (dt_eq hr sh_lit sh_lit (de_ixT (de_v 0) de_int atI_0) de_str (eqS_f group_bead)) rfl dss_nil)
        (dss_cons (ds_ifF (dt_eq hr sh_lit sh_lit (de_ixT (de_v 0) de_int atI_0) de_str (eqS_f group_again)) rfl dss_nil)
        (dss_one (ds_ret (de_to (de_addS (de_addS de_str (de_join (ts := r.map fun d => ofCs (codeL n d)) de_str (de_to (de_frz (de_lcM (f := codeN n) 1 rfl sc_code.nd (di_to (di_tup (de_slT (de_v 0) (do_some de_int) do_none (by unfold HT.sIx; simp))) cut_1) (blk_by ["node", "part"] (defScope s_code_in) (by decide +kernel)) rfl rfl (fun _ _ _ _ _ => .inl rfl) (fun _ _ _ _ _ => .inr rfl) (fun s' H' C' cl' fp' d hd' => ?_) gr.len)) ?_) ?_) ?_) de_str ?_) ?_))))) rfl
      · exact de_call (r := .d (codeN n d)) G hr rfl (da_cons (de_v 1) da_nil) rfl (R1.of (d := d) ⟨gr.mem hd', List.all_eq_true.mp h2 d hd'⟩)
      · rw [List.map_map]; rfl
      · rw [List.map_map]
        have : ((r.map ((fun x => x.length) ∘ fun d => ofCs (codeL n d)))).sum = ((r.map (codeL n)).map fun x => x.length).sum := by rw [List.map_map]; congr 1
        rw [this, List.length_map, show (Str.ofString "").length = 0 from by decide +kernel]
        omega
      · rw [el, ofCs_len, e1, flatten_len]; omega
      · rw [el, strLen_append, ofCs_len, e1, e2, flatten_len]; omega
      · rw [el, codeN, code_group n r h1, ← ofCs_app, ← ofCs_app]; rfl)
theorem sc_lcode : FnScope ["node", "part"] ["node"] (defScope s__law_code) := ⟨rfl, rfl, rfl, by decide +kernel, rfl, by decide +kernel, by decide +kernel⟩
theorem fd_lcode (B : Bn mg) (D1 : Df K mg "_law_code" s__law_code) : ∀ n, n ≤ 60 → FD P w K mg base (n + 1) "_law_code" ["node"] (R1 (fun d => Gd n d ∧ nodeN n d = true) (codeN n)) noX
  | 0, _ => D1.fd (fun _ _ _ _ _ _ us hl => match us, hl with | [_], _ => rfl) fun f fd F => fn_rel0 F sc_lcode R1.len (fun cdv A outer s H E hr args r args' ⟨d, ⟨hp, hn⟩, e1, e2, e3⟩ => by
    obtain ⟨w, rfl, _⟩ := node0 hn
    have := dep0 hp
    simp [D.isi] at this)
  | n + 1, h60 => D1.fd (fun _ _ _ _ _ _ us hl => match us, hl with | [_], _ => rfl) fun f fd F => fn_rel0 F sc_lcode R1.len (fun cdv A outer s H E hr args r args' ⟨d, ⟨hp, hn⟩, e1, e2, e3⟩ => by
    have G := fd_lcode B D1 n (by omega)
    subst e1 e2 e3
    have ga := hp
    have hw := wt_lt hp
    have big := szl
    rcases node_cases hn with ⟨w, rfl, hw'⟩ | ⟨x, i, rfl, h1, h2⟩ | ⟨r, rfl, h1, h2, _⟩
    · have ga := hp.tupA.1
      refine ret0 (dss_stop (ds_ifT (dt_eq hr sh_lit sh_lit (de_ixT (de_v 0) de_int atI_0) de_str (eqS_t rfl)) rfl (dss_one (ds_ret (de_to (de_addS (de_ixT (de_v 0) de_int atI_1) de_str ?_) ?_)))) (fun _ h => nomatch h)) rfl
      · have := ga.head.2.head.1.str
        have e : (Str.ofString ".").length = 1 := by decide +kernel
        rw [e]
        simp only [D.wt, D.wtA] at hw
        omega
      · rw [codeN, code_bead, ← ofCs_app, ofCs_csOf]; rfl
    · have ga := hp.tupA.1
      have hX := ga.head.2.head.1
      have hI := ga.head.2.head.2.head.1
      have k := code_len n x (sg_node h2)
      have k2 := digL_wt i
      have e : (Str.ofString "again").length = 5 := by decide +kernel
      have e1 : (Str.ofString "(").length = 1 := by decide +kernel
      have e2 : (Str.ofString ")").length = 1 := by decide +kernel
      simp only [D.wt, D.wtA, e] at hw
      have hw2 : x.wt + wtI i + 8 ≤ 262144 := by have : (if (i == 0) = true then 0 else i.natAbs.log2 + 1) = wtI i := rfl; omega
      refine ret0 (dss_cons (ds_ifF (dt_eq hr sh_lit sh_lit (de_ixT (de_v 0) de_int atI_0) de_str (eqS_f again_bead)) rfl dss_nil)
        (dss_stop (ds_ifT (dt_eq hr sh_lit sh_lit (de_ixT (de_v 0) de_int atI_0) de_str (eqS_t rfl)) rfl (dss_one (ds_ret (de_to (de_addS (de_addS (de_addS de_str (de_call (r := .d (codeN n x)) G hr rfl (da_cons (de_ixT (de_v 0) de_int atI_1) da_nil) rfl (R1.of (d := x) ⟨hX, sg_node h2⟩)) ?_) (de_strI rfl B.str (de_ixT (de_v 0) de_int atI_2) (wt_i hI)) ?_) de_str ?_) ?_)))) (fun _ h => nomatch h))) rfl
      · rw [ofCs_len, e1]; omega
      · rw [digS, ofCs_len, strLen_append, e1, ofCs_len]; omega
      · rw [digS, strLen_append, strLen_append, ofCs_len, e1, e2, ofCs_len]; omega
      · rw [codeN, code_again, ← ofCs_app, ← ofCs_app, ← ofCs_app, digS]; rfl
    · have ga := hp.tupA.1
      have gr := ga.head.2
      have fl := flat_len (f := codeL n) fun d hd => code_len n d (List.all_eq_true.mp h2 d hd)
      have e : (Str.ofString "group").length = 5 := by decide +kernel
      have e1 : (Str.ofString "[").length = 1 := by decide +kernel
      have e2 : (Str.ofString "]").length = 1 := by decide +kernel
      simp only [D.wt, D.wtA, e] at hw
      have el : Txt.join "" (r.map fun d => ofCs (codeL n d)) = ofCs (r.map (codeL n)).flatten := by
        rw [← tjoin_cs, List.map_map]; rfl
      refine ret0 (dss_cons (ds_ifF (dt_eq hr sh_lit sh_lit (de_ixT (de_v 0) de_int atI_0) de_str (eqS_f group_bead)) rfl dss_nil)
        (dss_cons (ds_ifF (dt_eq hr sh_lit sh_lit (de_ixT (de_v 0) de_int atI_0) de_str (eqS_f group_again)) rfl dss_nil)
        (dss_one (ds_ret (de_to (de_addS (de_addS de_str (de_join (ts := r.map fun d => ofCs (codeL n d)) de_str (de_to (de_frz (de_lcM (f := codeN n) 1 rfl sc_lcode.nd (di_to (di_tup (de_slT (de_v 0) (do_some de_int) do_none (by unfold HT.sIx; simp))) cut_1) (blk_by ["node", "part"] (defScope s__law_code) (by decide +kernel)) rfl rfl (fun _ _ _ _ _ => .inl rfl) (fun _ _ _ _ _ => .inr rfl) (fun s' H' C' cl' fp' d hd' => ?_) gr.len)) ?_) ?_) ?_) de_str ?_) ?_))))) rfl
      · exact de_call (r := .d (codeN n d)) G hr rfl (da_cons (de_v 1) da_nil) rfl (R1.of (d := d) ⟨gr.mem hd', List.all_eq_true.mp h2 d hd'⟩)
      · rw [List.map_map]; rfl
      · rw [List.map_map]
        have : ((r.map ((fun x => x.length) ∘ fun d => ofCs (codeL n d)))).sum = ((r.map (codeL n)).map fun x => x.length).sum := by rw [List.map_map]; congr 1
        rw [this, List.length_map, show (Str.ofString "").length = 0 from by decide +kernel]
        omega
      · rw [el, ofCs_len, e1, flatten_len]; omega
      · rw [el, strLen_append, ofCs_len, e1, e2, flatten_len]; omega
      · rw [el, codeN, code_group n r h1, ← ofCs_app, ← ofCs_app]; rfl)

/-! ### check_node, node_text, _law_bare -/
theorem sc_check : FnScope ["value"] ["value"] (defScope s_check_node) := ⟨rfl, rfl, rfl, by decide +kernel, rfl, by decide +kernel, by decide +kernel⟩
theorem sc_lbare : FnScope ["node"] ["node"] (defScope s__law_bare) := ⟨rfl, rfl, rfl, by decide +kernel, rfl, by decide +kernel, by decide +kernel⟩
theorem fd_lbare (D1 : Df K mg "_law_bare" s__law_bare) : FD P w K mg base 1 "_law_bare" ["node"] (R1 (fun d => Gd 60 d ∧ ∃ t x r, d = .tup (.str t :: x :: r)) bareD) noX :=
  D1.fd (fun _ _ _ _ _ _ us hl => match us, hl with | [_], _ => rfl) fun f fd F => fn_rel0 F sc_lbare R1.len (fun cdv A outer s H E hr args r args' ⟨d, ⟨hp, t, x, l, ed⟩, e1, e2, e3⟩ => by
    subst e1 e2 e3 ed
    have ga := hp.tupA.1
    refine ret0 (dss_one (ds_ret (de_to (de_if (t := decide (t = "again")) (dt_eq hr (ga.head.1.sh (by decide)) (sh_str (by decide +kernel)) (de_ixT (de_v 0) de_int atI_0) de_str (eqv_str _ _)) (fun _ => de_ixT (z := x) (de_v 0) de_int atI_1) (fun _ => de_v 0)) ?_))) rfl
    unfold bareD
    by_cases h : t = "again"
    · simp [h]
    · simp [h])
end W76
end
section
set_option Elab.async false
set_option linter.all false
set_option maxRecDepth 100000
set_option maxHeartbeats 4000000
namespace W76
open PySem PySem.Spec PyProof.Rows L2 DL Hd
variable [TL]
variable {P : Program} {w : World} {K : PySem.W.Frag} {mg : Str → Option Value} {base : Heap}
theorem retN {X : Cx} {args : List DV} {n : Nat} {body : List Stmt} {δ' : List DV} (h : DSs X [] (ent args n) body (.nx δ')) (hn : noOw args = true) : ∃ pn δ' o, DSs X pn (ent args n) body o ∧ Out.ret (.d .non) δ' o ∧ Wb pn args args δ' := ⟨[], δ', _, h, .inr ⟨rfl, rfl⟩, wb_no hn⟩
def NodeIn (n : Nat) (d : D) : Prop := Gd n d ∧ nodeN n d = true
def RNX (n : Nat) (C : Addr) : RelX := fun args C' d => (Gd n d ∧ nodeN n d = false) ∧ args = [.d d] ∧ C' = C
theorem fd_check (T : DfN K mg) {C : Addr} (D1 : Df K mg "check_node" s_check_node) (Er : Err P K mg "InvalidNode" C) (n : Nat) (h60 : n ≤ 60) : FD P w K mg base (2 * n + 7) "check_node" ["value"] (R1 (NodeIn n) fun _ => .non) (RNX n C) :=
  D1.fd (fun _ _ _ _ _ _ us hl => match us, hl with | [_], _ => rfl) fun f fd F => by
    refine fn_rel F sc_check R1.len (fun _ _ _ ⟨_, h, _⟩ => by rw [h]; exact ⟨rfl, rfl⟩) (fun cdv A outer s H E hr args r args' ⟨d, ⟨hp, hn⟩, e1, e2, e3⟩ => ?_) (fun cdv A outer s H E hr args C' d ⟨⟨hp, hn⟩, e1, e2⟩ => ?_)
    · subst e1 e2 e3
      exact retN (dss_one (ds_ifF (dt_notT (dt_bl (de_v' (de_call (r := .d (.bl (nodeN n d))) (fd_nodeN T n h60) hr rfl (da_cons (de_v 0) da_nil) rfl (R1.of (d := d) hp)) hn))) rfl dss_nil)) rfl
    · subst e1 e2
      exact dss_one (ds_ifT (dt_notF (dt_bl (de_v' (de_call (r := .d (.bl (nodeN n d))) (fd_nodeN T n h60) hr rfl (da_cons (de_v 0) da_nil) rfl (R1.of (d := d) hp)) hn))) rfl (dss_one (ds_raise Er rfl (hr.mono (by omega)) rfl (de_v 0))))
theorem sc_ntext : FnScope ["node"] ["node"] (defScope s_node_text) := ⟨rfl, rfl, rfl, by decide +kernel, rfl, by decide +kernel, by decide +kernel⟩
theorem ok_ntext (T : DfN K mg) {C f : Addr} {fd : FuncData} (D1 : Df K mg "check_node" s_check_node) (D2 : Df K mg "code_in" s_code_in) (Er : Err P K mg "InvalidNode" C) (n : Nat) (h60 : n ≤ 60) (F : FunD K "node_text" "node_text" (defArgs s_node_text) (defBody s_node_text) (defScope s_node_text) [] [] f fd) : FnOk P w K mg base (L2.CX P w) (2 * n + 8) f fd ["node"] (spD (R1 (NodeIn n) (codeN n)) (RNX n C)) := by
  refine fn_rel F sc_ntext R1.len (fun _ _ _ ⟨_, h, _⟩ => by rw [h]; exact ⟨rfl, rfl⟩) (fun cdv A outer s H E hr args r args' ⟨d, hd, e1, e2, e3⟩ => ?_) (fun cdv A outer s H E hr args C' d ⟨hd, e1, e2⟩ => ?_)
  · subst e1 e2 e3
    exact ret0 (dss_cons (ds_expr (de_call (r := .d .non) (fd_check T D1 Er n h60) hr rfl (da_cons (de_v 0) da_nil) rfl (R1.of (d := d) hd))) (dss_one (ds_ret (de_call (r := .d (codeN n d)) (fd_code T.B D2 n h60) (hr.mono (by omega)) rfl (da_cons (de_v 0) da_nil) rfl (R1.of (d := d) hd))))) rfl
  · subst e1 e2
    exact dss_stop (ds_exprX (de_callX (fd_check T D1 Er n h60) hr rfl (da_cons (de_v 0) da_nil) rfl ⟨hd, rfl, rfl⟩)) (fun _ h => nomatch h)
theorem fd_ntext (T : DfN K mg) {C : Addr} (D1 : Df K mg "check_node" s_check_node) (D2 : Df K mg "code_in" s_code_in) (D3 : Df K mg "node_text" s_node_text) (Er : Err P K mg "InvalidNode" C) (n : Nat) (h60 : n ≤ 60) : FD P w K mg base (2 * n + 8) "node_text" ["node"] (R1 (NodeIn n) (codeN n)) (RNX n C) :=
  D3.fd (fun _ _ _ _ _ _ us hl => match us, hl with | [_], _ => rfl) fun f fd F => ok_ntext T D1 D2 Er n h60 F
theorem fdk_ntext (T : DfN K mg) {C : Addr} (D1 : Df K mg "check_node" s_check_node) (D2 : Df K mg "code_in" s_code_in) (D3 : Df K mg "node_text" s_node_text) (Er : Err P K mg "InvalidNode" C) (n : Nat) (h60 : n ≤ 60) : FDk P w K mg base (2 * n + 8) "node_text" "node" (R1 (NodeIn n) (codeN n)) (RNX n C) := by
  obtain ⟨f, fd, F, hm⟩ := D3.ex
  refine ⟨f, fd, ok_ntext T D1 D2 Er n h60 F, hm, F.kp, fun w => ?_⟩
  obtain ⟨oc, od, dV, kV, doc, pm, an, cdv, ct, osl, rfl, lk, hcd, hD, hK⟩ := F.ex
  rcases hD with ⟨_, rfl⟩ | ⟨e, _⟩
  · rfl
  · exact absurd rfl e
end W76
end
section
set_option Elab.async false
set_option linter.all false
set_option maxRecDepth 100000
set_option maxHeartbeats 2000000
/-! DLp: signs of texts, `in`, `name += e`, a while that is left, a display with a star. -/
namespace DL
open PySem PySem.Spec PyProof.Rows L2
variable [TL]
section
variable {X : Cx} {δ δ1 δ2 δ3 : List DV} {a b c e : Expr} {x y z : D} {p1 p2 pos : Pos} {pn : List Nat}
theorem opd_in {n : Nat} {s : Str} : OpD (fun x y H Q => ∃ (c : Nat) (z : Str), x = .str ⟨#[c]⟩ ∧ y = .str z ∧ Q (.bl (decide (c ∈ z.cps.toList))) H) (.str ⟨#[n]⟩) (.str s) (.bl (decide (n ∈ csOf s))) := fun F H v u Q _ rv ru k => by
  cases rv; cases ru
  exact ⟨n, s, rfl, rfl, k _ (.bl _)⟩
theorem opd_nin {n : Nat} {s : Str} : OpD (fun x y H Q => ∃ (c : Nat) (z : Str), x = .str ⟨#[c]⟩ ∧ y = .str z ∧ Q (.bl (!decide (c ∈ z.cps.toList))) H) (.str ⟨#[n]⟩) (.str s) (.bl (!decide (n ∈ csOf s))) := fun F H v u Q _ rv ru k => by
  cases rv; cases ru
  exact ⟨n, s, rfl, rfl, k _ (.bl _)⟩
theorem dt_in {n : Nat} {s : Str} {k : Bool} (ha : DE X δ a (.d (.str ⟨#[n]⟩)) δ1) (hb : DE X δ1 b (.d (.str s)) δ2) (hk : decide (n ∈ csOf s) = k) (hm : behindInMarks .In b = false := by rfl) : DT X δ (.Compare a [.In] [b] pos) k δ2 := dt_cmp op_in_sign ha hb (hk ▸ opd_in) hm
theorem dt_nin {n : Nat} {s : Str} {k : Bool} (ha : DE X δ a (.d (.str ⟨#[n]⟩)) δ1) (hb : DE X δ1 b (.d (.str s)) δ2) (hk : (!decide (n ∈ csOf s)) = k) (hm : behindInMarks .NotIn b = false := by rfl) : DT X δ (.Compare a [.NotIn] [b] pos) k δ2 := dt_cmp op_notIn_sign ha hb (hk ▸ opd_nin) hm
theorem dt_eqS {s t : Str} {k : Bool} (ha : DE X δ a (.d (.str s)) δ1) (hb : DE X δ1 b (.d (.str t)) δ2) (hk : decide (s = t) = k) : DT X δ (.Compare a [.Eq] [b] pos) k δ2 := dt_cmp op_eq ha hb (fun F H v u Q e rv ru k' => by
  cases rv; cases ru
  refine ⟨rfl, k' _ ?_⟩
  have : decide (V.str s = V.str t) = decide (s = t) := by simp
  show Rp F (.bl (decide (V.str s = V.str t))) _
  rw [this, hk]
  exact .bl k) (nomark _)
theorem de_eqS {s t : Str} {k : Bool} (ha : DE X δ a (.d (.str s)) δ1) (hb : DE X δ1 b (.d (.str t)) δ2) (hk : decide (s = t) = k) : DE X δ (.Compare a [.Eq] [b] pos) (.d (.bl k)) δ2 := de_cmp op_eq ha hb (fun F H v u Q e rv ru k' => by
  cases rv; cases ru
  refine ⟨rfl, k' _ ?_⟩
  have : decide (V.str s = V.str t) = decide (s = t) := by simp
  show Rp F (.bl (decide (V.str s = V.str t))) _
  rw [this, hk]
  exact .bl k) (nomark _)
theorem dt_neS {s t : Str} {k : Bool} (ha : DE X δ a (.d (.str s)) δ1) (hb : DE X δ1 b (.d (.str t)) δ2) (hk : (!decide (s = t)) = k) : DT X δ (.Compare a [.NotEq] [b] pos) k δ2 := dt_cmp op_ne ha hb (fun F H v u Q e rv ru k' => by
  cases rv; cases ru
  refine ⟨rfl, k' _ ?_⟩
  have : decide (V.str s = V.str t) = decide (s = t) := by simp
  show Rp F (.bl (!decide (V.str s = V.str t))) _
  rw [this, hk]
  exact .bl k) (nomark _)
/-- a text that the module binds -/
theorem de_glS {x : Str} {s : Str} {t : Tok} (hg : Gl X x) (hm : X.mg x = some (.str s t)) (hd : (x == ("__debug__" : Str)) = false := by decide) : DE X δ (.Name x pos) (.d (.str s)) δ := de_c (pe_glob (v := .str s) hg hm ⟨t, rfl⟩ hd) fun _ => .str s
/-- int(text of figures) -/
theorem de_intS {f : List Nat} (hg : Gl X "int") (hm : X.mg "int" = none) (ha : DE X δ a (.d (.str (ofCs f))) δ1) (hd : NumText.AllDigits f) (h0 : f ≠ []) (hl : f.length ≤ 640) (he : starEach [a] X.env = (false, eval a X.env) :: starEach [] X.env := by rfl) : DE X δ (.Call (.Name "int" p1) [a] [] pos) (.d (.int ((NumText.digitsVal f : Nat) : Int))) δ1 :=
  de_ty (as := [.d (.str (ofCs f))]) call_int_str hg hm (by decide +kernel) (da_cons ha da_nil he) (fun F H σ vs Q ex h k => by
    obtain ⟨v, rfl, r⟩ := h.one
    cases r
    refine ⟨_, _, rfl, ?_, by rw [ofCs_len]; exact hl, k _ (.int _)⟩
    have := PySem.intText_digits (x := ofCs f) (by rw [show (ofCs f).cps.toList = f from csOf_ofCs f]; exact hd) (by rw [show (ofCs f).cps.toList = f from csOf_ofCs f]; exact h0) (by rw [ofCs_len]; omega)
    rwa [show (ofCs f).cps.toList = f from csOf_ofCs f] at this) (he := he)
/-- a sign of a text -/
theorem de_ixS {s : Str} {i : Int} {n : Nat} (ha : DE X δ a (.d (.str s)) δ1) (hb : DE X δ1 b (.d (.int i)) δ2) (hs : s.length ≤ sizeLine) (hi : L2.atI (csOf s) i = some n) (hp : PlainIx b := by exact fun _ _ => rfl) : DE X δ (.Subscript a b pos) (.d (.str ⟨#[n]⟩)) δ2 := (pe_ix ix_str ha hb hp).imp fun _ _ _ h => op_d (fun F H v u Q e rv ru k => by
  cases ru; cases rv
  exact ⟨_, _, _, rfl, rfl, hs, hi, k _ (.str _)⟩) h
theorem slenD {s : Str} (h : s.length ≤ sizeLine) : (D.str s).len = some s.length := if_pos h
/-- name += int -/
theorem ds_aug {i : Nat} {n : Str} {u v : Int} (hN : X.N.Nodup) (hi : X.N[i]? = some n) (hx : Loc X.env.scope n) (hp : i ∉ pn) (h0 : δ[i]? = some (.d (.int u))) (he : DE X δ e (.d (.int v)) δ) (hf : X.fn n = true ∨ X.env.scope.names.lookup n = some .local := by first | exact .inl rfl | exact .inr rfl | assumption) :
    DS X pn δ (.AugAssign (.Name n p1) .Add e pos) (.nx (δ.set i (.d (.int (u + v))))) := (ps_aug hN hi hx he ip_add hf).imp fun D σ H ⟨F, R, k⟩ => by
  obtain ⟨o, e1, o2, e2, r⟩ := R.at_ i _ h0
  subst e2
  refine ⟨o2, e1, F, R, fun y F1 H1 g R1 r1 => ?_⟩
  cases r1
  cases r
  exact ⟨u, v, rfl, rfl, k _ F1 H1 ((aft_of g R1).trans (Aft.set_ R1 (fun _ h => nomatch h) ⟨_, rfl, .int _⟩ hp))⟩
/-- a while that a turn leaves -/
theorem ds_whileX {body : List Stmt} {o : Out} (hp : PassesOwn (model X.prog X.w) X.A X.env X.xe) (fr tf : Nat → List DV) (m : Nat) (h0 : fr 0 = δ) (hc : ∀ j, j ≤ m → DT X (fr j) c true (tf j)) (hb : ∀ j, j < m → DSs X pn (tf j) body (.nx (fr (j + 1)))) (hl : DSs X pn (tf m) body o) (ho : ∀ D : Ends, (∃ r δ', o = .rt r δ') ∨ ∃ C d, o = .ex C d) :
    DS X pn δ (.While c body [] pos) o := by
  have C : PT X c _ := pt_ex (ι := { j : Nat // j ≤ m }) fun j => hc j.1 j.2
  have B : PSs X body _ := pss_ex (ι := Option { j : Nat // j < m }) (t := fun i => match i with | none => tS X pn (tf m) o | some j => tS X pn (tf j.1) (.nx (fr (j.1 + 1)))) fun j => match j with | none => hl | some j => hb j.1 j.2
  refine (ps_while hp C B).imp fun D σ H ⟨F, R, k⟩ => ?_
  refine ⟨fun n σ' H' => n ≤ m ∧ ∃ F', Aft pn σ δ F H σ' (fr (m - n)) F' H', ⟨m, Nat.le_refl _, F, by rw [Nat.sub_self, h0]; exact .refl R⟩, ?_⟩
  rintro n σ' H' ⟨hn, F', A⟩
  refine ⟨⟨m - n, by omega⟩, F', A.rs, fun F2 H2 g2 R2 => ?_⟩
  have A2 : Aft pn σ δ F H σ' (tf (m - n)) F2 H2 := A.trans ⟨g2, R2, fun _ _ => rfl⟩
  show (if true = true then _ else _)
  rw [if_pos rfl]
  by_cases h : 0 < n
  · refine ⟨fun σ3 H3 => n - 1 ≤ m ∧ ∃ F3, Aft pn σ δ F H σ3 (fr (m - (n - 1))) F3 H3, fun σ3 H3 q => ⟨n - 1, by omega, q⟩, some ⟨m - n, by omega⟩, F2, R2, fun σ3 F3 H3 A3 => ⟨by omega, F3, ?_⟩⟩
    have e : m - (n - 1) = m - n + 1 := by omega
    rw [e]
    exact A2.trans A3
  · have hn0 : n = 0 := by omega
    subst hn0
    refine ⟨fun _ _ => False, fun _ _ z => z.elim, none, ?_⟩
    have A2 : Aft pn σ δ F H σ' (tf m) F2 H2 := by simpa using A2
    rcases ho D with ⟨r, δ', rfl⟩ | ⟨Ca, d, rfl⟩
    · exact tS.back (D := { D with nx := _, bk := _, ct := _ }) (o := .rt r δ') A2 k
    · exact tS.back (D := { D with nx := _, bk := _, ct := _ }) (o := .ex Ca d) A2 k
theorem inV_strs (s : Str) (ts : List Str) : inV (.str s) (ts.map V.str) = ts.any fun t => t == s := by
  unfold inV
  rw [List.any_map]
  rfl
theorem dt_ninT {s : Str} {ts : List Str} {k : Bool} (ha : DE X δ a (.d (.str s)) δ1) (hb : DE X δ1 b (.d (.tup (ts.map D.str))) δ2) (hk : (!ts.any fun t => t == s) = k) (hm : behindInMarks .NotIn b = false := by rfl) : DT X δ (.Compare a [.NotIn] [b] pos) k δ2 := dt_cmp op_notIn_seq ha hb (fun F H v u Q e rv ru k' => by
  cases rv
  cases ru with
  | tup h1 r =>
    rw [r.toStrs] at h1
    refine ⟨_, _, rfl, .inr (SqT.of (e _ _ h1)), rfl, by rw [List.all_eq_true]; intro x hx; obtain ⟨t, _, rfl⟩ := List.mem_map.mp hx; rfl, k' _ ?_⟩
    rw [if_pos rfl, inV_strs, hk]
    exact .bl _) hm
/-- (a, *xs) -/
theorem de_tupSt {xs : List D} {kk : Nat} (ha : DE X δ a (.d x) δ1) (hb : DE X δ1 b (.d (.lst xs)) δ2) (hl : xs.length + 1 ≤ sizeLine) (hs : starEach (a :: [.Starred b p2]) X.env = (false, eval a X.env) :: starEach [.Starred b p2] X.env := by rfl) : DE X δ (.Tuple [a, .Starred b p2] kk pos) (.d (.tup (x :: xs))) δ2 :=
  (pe_tup (pa_cons ha (da_star (ps := []) hb (.inl rfl) da_nil) hs)).imp fun σ H Q ⟨F, R, k⟩ => ⟨F, R, fun v F1 H1 g1 R1 r1 => ⟨F1, R1, fun vs ws F2 H2 g2 R2 ra rb => by
    cases rb
    refine ⟨by simp only [List.append_nil, List.length_cons]; rw [ra.length]; exact hl, fun p hp => ?_⟩
    exact fin_new k (g1.trans g2) R2 hp (.tup upd_same ((RpA.cons (r1.ex g2.ff) (by rw [List.append_nil]; exact ra)).ex (.new (R2.sub.none hp))))⟩⟩
end
end DL
end
section
set_option Elab.async false
set_option linter.all false
set_option maxRecDepth 100000
set_option maxHeartbeats 2000000
/-! N94: a node read off a text, in plain Lean: by its signs from a place on. -/
namespace DL
open PySem PySem.Spec PyProof.Rows L2
variable [TL]
/-! ### cuts -/
theorem cutS_nat (s : Str) (a b : Nat) (h : a ≤ s.length) : cutS s (some (a : Int)) (some (b : Int)) = ofCs (((csOf s).drop a).take (b - a)) := by
  unfold cutS
  rw [HT.sIx_nat, HT.sIx_nat, Nat.min_eq_left h]
  show ofCs _ = ofCs _
  congr 1
  by_cases hb : b ≤ s.length
  · rw [Nat.min_eq_left hb]; rfl
  · have hl : ((csOf s).drop a).length = s.length - a := by rw [List.length_drop, csOf_len]
    rw [Nat.min_eq_right (by omega)]
    rw [List.take_of_length_le (by rw [show (s.cps.toList.drop a) = (csOf s).drop a from rfl, hl]; omega), List.take_of_length_le (by rw [hl]; omega)]
    rfl
theorem take1 {l : List Nat} : l.take 1 = match l with | [] => [] | c :: _ => [c] := by cases l <;> rfl
/-! ### words, figures -/
def figs : List Nat := [48, 49, 50, 51, 52, 53, 54, 55, 56, 57]
def lets : List Nat := [97, 98, 99, 100, 101, 102, 103, 104, 105, 106, 107, 108, 109, 110, 111, 112, 113, 114, 115, 116, 117, 118, 119, 120, 121, 122]
theorem figs_eq : csOf "0123456789" = figs := by decide +kernel
theorem lets_eq : csOf "abcdefghijklmnopqrstuvwxyz" = lets := by decide +kernel
def run (g : List Nat) (s : List Nat) : List Nat := s.takeWhile fun c => decide (c ∈ g)
theorem run_le (g s : List Nat) : (run g s).length ≤ s.length := (List.takeWhile_sublist _).length_le
theorem run_in {g s : List Nat} {a : Nat} (h : a ∈ g) : run g (a :: s) = a :: run g s := by
  unfold run; rw [List.takeWhile_cons_of_pos (by simpa using h)]
theorem run_out {g s : List Nat} {a : Nat} (h : a ∉ g) : run g (a :: s) = [] := by
  unfold run; rw [List.takeWhile_cons_of_neg (by simpa using h)]
theorem run_pre (g : List Nat) : ∀ s : List Nat, s = run g s ++ s.drop (run g s).length
  | [] => rfl
  | a :: s => by
    by_cases h : a ∈ g
    · rw [run_in h, List.length_cons, List.drop_succ_cons, List.cons_append, ← run_pre g s]
    · rw [run_out h]; rfl
theorem run_mem (g : List Nat) : ∀ s : List Nat, ∀ c ∈ run g s, c ∈ g
  | [], c, hc => by simp [run] at hc
  | a :: s, c, hc => by
    by_cases h : a ∈ g
    · rw [run_in h] at hc
      rcases List.mem_cons.mp hc with rfl | hc
      · exact h
      · exact run_mem g s c hc
    · rw [run_out h] at hc; simp at hc
theorem run_take (g s : List Nat) : s.take (run g s).length = run g s := by
  obtain ⟨v, hv⟩ : ∃ v, s = run g s ++ v := ⟨_, run_pre g s⟩
  generalize run g s = u at hv ⊢
  rw [hv]
  exact List.take_left
theorem run_at {g s : List Nat} {j : Nat} (h : j < (run g s).length) : ∃ c, s[j]? = some c ∧ c ∈ g := by
  have e := run_pre g s
  have : s[j]? = some ((run g s)[j]) := by
    conv => lhs; rw [e]
    rw [List.getElem?_append_left h, List.getElem?_eq_getElem h]
  exact ⟨_, this, run_mem g s _ (List.getElem_mem h)⟩
theorem run_end {g : List Nat} : ∀ {s : List Nat} {c : Nat}, s[(run g s).length]? = some c → c ∉ g
  | [], c, h => by simp at h
  | a :: s, c, h => by
    by_cases z : a ∈ g
    · rw [run_in z, List.length_cons, List.getElem?_cons_succ] at h
      exact run_end h
    · rw [run_out z] at h
      simp at h
      rw [← h]; exact z
theorem run_app {g w r : List Nat} (hw : ∀ c ∈ w, c ∈ g) (hr : ∀ c, r.head? = some c → c ∉ g) : run g (w ++ r) = w := by
  unfold run
  rw [List.takeWhile_append_of_pos (by simpa using hw)]
  have : r.takeWhile (fun c => decide (c ∈ g)) = [] := by
    cases r with
    | nil => rfl
    | cons a r => rw [List.takeWhile_cons_of_neg]; simpa using hr a rfl
  rw [this, List.append_nil]
/-! ### nodes -/
abbrev PR := Option (Option (D × List Nat))
def numF (f : List Nat) : Int := ((NumText.digitsVal f : Nat) : Int)
def beadP (s : List Nat) : Option (D × List Nat) := match s.drop (run lets s).length with
  | 46 :: r => some (.tup [.str "bead", .str (ofCs (run lets s))], r)
  | _ => none
def againP : PR → PR
  | some (some (d, t)) => match t.drop (run figs t).length with
    | 41 :: u => if run figs t = [] ∨ 30 < (run figs t).length then some none else some (some (.tup [.str "again", d, .int (numF (run figs t))], u))
    | _ => some none
  | o => o
def gst (f : List Nat → PR) (s : List Nat) : Nat → List Nat × List D
  | 0 => (s, [])
  | j + 1 => match f (gst f s j).1 with
    | some (some (d, r)) => (r, (gst f s j).2 ++ [d])
    | _ => gst f s j
def isGo (f : List Nat → PR) (t : List Nat) : Bool := match t with
  | [] => false
  | 93 :: _ => false
  | t => match f t with
    | some (some _) => true
    | _ => false
def stopAt (f : List Nat → PR) (s : List Nat) : Nat → Nat → Nat
  | 0, j => j
  | k + 1, j => if isGo f (gst f s j).1 then stopAt f s k (j + 1) else j
def gEnd (f : List Nat → PR) (q : List Nat × List D) : PR := match q.1 with
  | [] => some none
  | 93 :: r => some (some (.tup (.str "group" :: q.2), r))
  | t => match f t with
    | some none => some none
    | _ => none
def groupP (f : List Nat → PR) (s : List Nat) : PR := gEnd f (gst f s (stopAt f s (s.length + 1) 0))
def nodeP : Nat → List Nat → PR
  | 0, s => if s.head? = some 91 ∨ s.head? = some 40 then none else some (beadP s)
  | n + 1, s => if s.head? = some 91 then groupP (nodeP n) s.tail else if s.head? = some 40 then againP (nodeP n s.tail) else some (beadP s)
theorem stopAt_go {f : List Nat → PR} {s : List Nat} : ∀ (k j : Nat), (∀ i, i < j → isGo f (gst f s i).1 = true) → ∀ i, i < stopAt f s k j → isGo f (gst f s i).1 = true
  | 0, j, h, i, hi => h i hi
  | k + 1, j, h, i, hi => by
    rw [stopAt] at hi
    split at hi
    · rename_i z
      exact stopAt_go k (j + 1) (fun i' h' => if e : i' = j then e ▸ z else h i' (by omega)) i hi
    · exact h i hi
theorem stopAt_eq {f : List Nat → PR} {s : List Nat} {m : Nat} (h1 : ∀ i, i < m → isGo f (gst f s i).1 = true) (h2 : isGo f (gst f s m).1 = false) : ∀ (k j : Nat), j ≤ m → m ≤ j + k → stopAt f s k j = m
  | 0, j, a, b => by rw [stopAt]; omega
  | k + 1, j, a, b => by
    rw [stopAt]
    by_cases e : j = m
    · subst e; rw [h2]; rfl
    · rw [h1 j (by omega), if_pos rfl]
      exact stopAt_eq h1 h2 k (j + 1) (by omega) (by omega)
theorem beadP_suf {s : List Nat} {d : D} {t : List Nat} (h : beadP s = some (d, t)) : s = run lets s ++ 46 :: t ∧ d = .tup [.str "bead", .str (ofCs (run lets s))] := by
  unfold beadP at h
  split at h
  · rename_i r e
    cases h
    exact ⟨by conv => lhs; rw [run_pre lets s, e], rfl⟩
  · cases h
end DL
end
section
set_option Elab.async false
set_option linter.all false
set_option maxRecDepth 100000
set_option maxHeartbeats 4000000
namespace W76
open PySem PySem.Spec PyProof.Rows L2 DL Hd
variable [TL]
variable {P : Program} {w : World} {K : PySem.W.Frag} {mg : Str → Option Value} {base : Heap}
theorem sc_mixed : FnScope ["seed", "spin", "at", "mixed"] ["seed", "spin", "at"] (defScope s__law_mixed) := ⟨rfl, rfl, rfl, by decide +kernel, rfl, by decide +kernel, by decide +kernel⟩
def RMix : RelD := fun args r args' => ∃ a b c : Int, 0 ≤ b ∧ b < 2 ^ 62 ∧ args = [.d (.int a), .d (.int b), .d (.int c)] ∧ r = .d (.int (mixN a b c)) ∧ args' = args
theorem fd_mixed (B : Bn mg) (D1 : Df K mg "_law_mixed" s__law_mixed) : FD P w K mg base 1 "_law_mixed" ["seed", "spin", "at"] RMix noX :=
  D1.fd (fun _ _ _ _ _ _ us hl => match us, hl with | [_, _, _], _ => rfl) fun f fd F => fn_rel0 F sc_mixed (fun _ _ _ ⟨_, _, _, _, _, h, _⟩ => by rw [h]; rfl) (fun cdv A outer s H E hr args r args' ⟨a, b, c, b0, b1, e1, e2, e3⟩ => by
    subst e1 e2 e3
    have m1 : 0 ≤ (a * 69069 + 104729 * b * b + 7919 * c + b) % 2147483647 ∧ (a * 69069 + 104729 * b * b + 7919 * c + b) % 2147483647 < 2147483647 := ⟨Int.emod_nonneg _ (by decide), Int.emod_lt_of_pos _ (by decide)⟩
    exact ret0 (dss_cons (ds_set (i := 3) sc_mixed.nd rfl (.inl rfl) (by simp) (de_add (de_mul (de_v 0) de_int (.inr (by decide))) (de_mul (de_mul de_int (de_v 1) (.inl (by decide))) (de_v 1) (.inr (by omega)))))
      (dss_cons (ds_set (i := 3) sc_mixed.nd rfl (.inl rfl) (by simp) (de_mod (de_intI rfl B.int (de_add (de_add (de_v 3) (de_mul de_int (de_v 2) (.inl (by decide)))) (de_v 1))) de_int (by decide)))
      (dss_cons (ds_set (i := 3) sc_mixed.nd rfl (.inl rfl) (by simp) (de_mod (de_intI rfl B.int (de_add (de_mul (de_v 3) (de_v 3) (.inl (by omega))) de_int)) de_int (by decide)))
      (dss_one (ds_ret (de_mod (de_intI rfl B.int (de_mul (de_v 3) de_int (.inr (by decide)))) de_int (by decide))))))) rfl)
theorem sc_draw : FnScope ["purse", "many", "drawn", "found", "piece"] ["purse", "many"] (defScope s__law_draw) := ⟨rfl, rfl, rfl, by decide +kernel, rfl, by decide +kernel, by decide +kernel⟩
def RDraw (L : Nat) : RelD := fun args r args' => ∃ (p : Pu) (m : Int), OkP L p ∧ 0 < m ∧ m < 2 ^ 27 ∧ args = [.ow (pz p), .d (.int m)] ∧ r = .d (.int (drawN p m)) ∧ args' = [.ow (pz (drawP p m)), .d (.int m)]
theorem bits_small {m : Int} (h : 0 < m) (h2 : m < 2 ^ 27) : (1 : Int) + (Builtin.Int.intBits m : Nat) / 28 = 1 := by
  have : Builtin.Int.intBits m < 28 := by
    have z : m.natAbs ≠ 0 := by omega
    have := (Nat.log2_lt (n := m.natAbs) (k := 27) z).mpr (by omega)
    unfold Builtin.Int.intBits
    split <;> omega
  omega
theorem fd_draw (B : Bn mg) {L : Nat} (hL : L ≤ 2 ^ 60) (D0 : Df K mg "_law_mixed" s__law_mixed) (D1 : Df K mg "_law_draw" s__law_draw) : FD P w K mg base 2 "_law_draw" ["purse", "many"] (RDraw L) noX :=
  D1.fd (fun _ _ _ _ _ _ us hl => match us, hl with | [_, _], _ => rfl) fun f fd F => fn_rel0 F sc_draw (fun _ _ _ ⟨_, _, _, _, _, h, _⟩ => by rw [h]; rfl) (fun cdv A outer s H E hr args r args' ⟨p, m, op, m0, m1, e1, e2, e3⟩ => by
    subst e1 e2 e3
    have d0 := op.d0
    have d1 := op.d1
    have c0 := op.c0
    have c1 := op.c1
    by_cases h : 0 < p.a
    · have eN : drawN p m = p.a % m := if_pos h
      have eP : drawP p m = { p with a := p.a / m } := if_pos h
      rw [eN, eP]
      exact ret1 (ys := pz { p with a := p.a / m }) (dss_stop (ds_ifT (dt_gt (de_ixo 0 (xs := pz p) (z := .int p.a) de_int rfl) de_int (decide_eq_true h)) rfl
        (dss_cons (ds_set (i := 2) sc_draw.nd rfl (.inl rfl) (by simp) (de_mod (de_intI rfl B.int (de_ixo 0 (xs := pz p) (z := .int p.a) de_int rfl)) (de_v 1) m0))
        (dss_cons (ds_setix (i := 0) (xs := pz p) (m := 0) rfl (.inl rfl) (de_fdiv (de_ixo 0 (xs := pz p) (z := .int p.a) de_int rfl) (de_v 1) ⟨m0, Nat.lt_trans ((Nat.log2_lt (n := m.natAbs) (k := 27) (by omega)).mpr (by omega)) (by decide)⟩) ⟨_, rfl⟩ de_int rfl rfl)
        (dss_one (ds_ret (de_v 2)))))) (fun _ h => nomatch h)) rfl rfl
    · have eN : drawN p m = (0 * 2147483587 + mixN p.b (p.c + 1) p.d) % m := if_neg h
      have eP : drawP p m = { p with c := p.c + 1 } := if_neg h
      rw [eN, eP]
      refine ret1 (ys := pz { p with c := p.c + 1 }) (dss_cons (ds_ifF (dt_gt (de_ixo 0 (xs := pz p) (z := .int p.a) de_int rfl) de_int (decide_eq_false h)) rfl dss_nil)
        (dss_cons (ds_set (i := 3) sc_draw.nd rfl (.inl rfl) (by simp) de_int)
        (dss_cons (ds_for (items := [D.int 0]) (X := cxOf (L2.CX P w) P w K mg base ["purse", "many", "drawn", "found", "piece"] "_law_draw" (defScope s__law_draw) f cdv A outer s H E) (passes_of rfl) rfl (di_to (di_range1 rfl B.rng (de_add de_int (de_fdiv (de_bits (de_v 1)) de_int (by exact ⟨by decide, by decide⟩))) ?_) ?_)
          (fun j => if j = 0 then [.ow (pz p), .d (.int m), .un, .d (.int 0), .un] else [.ow (pz { p with c := p.c + 1 }), .d (.int m), .un, .d (.int (0 * 2147483587 + mixN p.b (p.c + 1) p.d)), .d (.int 0)]) (fun _ => [.ow (pz p), .d (.int m), .un, .d (.int 0), .d (.int 0)]) rfl (fun j d hd => ?_) (fun j d hj hd => ?_))
        (dss_one (ds_ret (de_mod (de_intI rfl B.int (de_v 3)) (de_v 1) m0)))))) rfl rfl
      · have := bits_small m0 m1; omega
      · rw [bits_small m0 m1]; show irange 0 1 = [D.int 0]; rfl
      · have ej : j = 0 := by
          match j, hd with
          | 0, _ => rfl
        subst ej
        cases hd
        exact dg_name (X := cxOf (L2.CX P w) P w K mg base ["purse", "many", "drawn", "found", "piece"] "_law_draw" (defScope s__law_draw) f cdv A outer s H E) (i := 4) sc_draw.nd rfl (.inl rfl) (by simp)
      · have ej : j = 0 := by simpa using hj
        subst ej
        exact dss_to (dss_cons (ds_setix (i := 0) (xs := pz p) (m := 2) rfl (.inl rfl) (de_add (de_ixo 0 (xs := pz p) (z := .int p.c) de_int rfl) de_int) ⟨_, rfl⟩ de_int rfl rfl)
          (dss_one (ds_set (i := 3) sc_draw.nd rfl (.inl rfl) (by simp) (de_add (de_mul (de_v 3) de_int (.inr (by decide))) (de_call (r := .d (.int (mixN p.b (p.c + 1) p.d))) (fd_mixed B D0) hr rfl (da_cons (de_ixo 0 (xs := pz { p with c := p.c + 1 }) (z := .int p.b) de_int rfl) (da_cons (de_ixo 0 (xs := pz { p with c := p.c + 1 }) (z := .int (p.c + 1)) de_int rfl) (da_cons (de_ixo 0 (xs := pz { p with c := p.c + 1 }) (z := .int p.d) de_int rfl) da_nil))) rfl ⟨_, _, _, by omega, by omega, rfl, rfl, rfl⟩))))) rfl)
end W76
end
section
set_option Elab.async false
set_option linter.all false
set_option maxRecDepth 100000
set_option maxHeartbeats 4000000
namespace DL
open PySem PySem.Spec PyProof.Rows L2
/-! ### draws of many pieces -/
def itP (p : Pu) (j : Nat) : Pu := { p with c := p.c + (j : Int) }
def itF (p : Pu) : Nat → Int
  | 0 => 0
  | j + 1 => itF p j * 2147483587 + mixN p.b (p.c + (j : Int) + 1) p.d
def pcs (m : Int) : Nat := 1 + Builtin.Int.intBits m / 28
def drawNG (p : Pu) (m : Int) : Int := if 0 < p.a then p.a % m else itF p (pcs m) % m
def drawPG (p : Pu) (m : Int) : Pu := if 0 < p.a then { p with a := p.a / m } else itP p (pcs m)
theorem drawNG_ge {p : Pu} {m : Int} (h : 0 < m) : 0 ≤ drawNG p m ∧ drawNG p m < m := by
  unfold drawNG
  split
  · exact ⟨Int.emod_nonneg _ (by omega), Int.emod_lt_of_pos _ h⟩
  · exact ⟨Int.emod_nonneg _ (by omega), Int.emod_lt_of_pos _ h⟩
theorem pcs_le {m : Int} (h : 0 < m) (h2 : m < 2 ^ 104) : pcs m ≤ 4 := by
  have z : m.natAbs ≠ 0 := by omega
  have := (Nat.log2_lt (n := m.natAbs) (k := 104) z).mpr (by omega)
  unfold pcs Builtin.Int.intBits
  split <;> omega
theorem drawPG_ok {L : Nat} {p : Pu} {m : Int} (h : OkP L p) (hm : 0 < m) (h2 : m < 2 ^ 104) : OkP (L + 4) (drawPG p m) := by
  have k := pcs_le hm h2
  unfold drawPG
  split
  · exact ⟨Int.ediv_nonneg h.a0 (by omega), h.b0, h.b1, h.c0, by have := h.c1; show p.c ≤ _; omega, h.d0, h.d1⟩
  · exact ⟨h.a0, h.b0, h.b1, by show 0 ≤ p.c + _; have := h.c0; omega, by show p.c + _ ≤ _; have := h.c1; omega, h.d0, h.d1⟩
theorem ds_to [TL] {X : Cx} {pn : List Nat} {δ δ1 δ2 : List DV} {st : Stmt} (h : DS X pn δ st (.nx δ1)) (e : δ1 = δ2) : DS X pn δ st (.nx δ2) := e ▸ h
end DL
namespace W76
open PySem PySem.Spec PyProof.Rows L2 DL Hd
variable [TL]
variable {P : Program} {w : World} {K : PySem.W.Frag} {mg : Str → Option Value} {base : Heap}
def RDrawG (L : Nat) : RelD := fun args r args' => ∃ (p : Pu) (m : Int), OkP L p ∧ 0 < m ∧ m < 2 ^ 104 ∧ args = [.ow (pz p), .d (.int m)] ∧ r = .d (.int (drawNG p m)) ∧ args' = [.ow (pz (drawPG p m)), .d (.int m)]
theorem fd_drawG (B : Bn mg) {L : Nat} (hL : L ≤ 2 ^ 60) (D0 : Df K mg "_law_mixed" s__law_mixed) (D1 : Df K mg "_law_draw" s__law_draw) : FD P w K mg base 2 "_law_draw" ["purse", "many"] (RDrawG L) noX :=
  D1.fd (fun _ _ _ _ _ _ us hl => match us, hl with | [_, _], _ => rfl) fun f fd F => fn_rel0 F sc_draw (fun _ _ _ ⟨_, _, _, _, _, h, _⟩ => by rw [h]; rfl) (fun cdv A outer s H E hr args r args' ⟨p, m, op, m0, m1, e1, e2, e3⟩ => by
    subst e1 e2 e3
    have d0 := op.d0
    have d1 := op.d1
    have c0 := op.c0
    have c1 := op.c1
    by_cases h : 0 < p.a
    · have eN : drawNG p m = p.a % m := if_pos h
      have eP : drawPG p m = { p with a := p.a / m } := if_pos h
      rw [eN, eP]
      exact ret1 (ys := pz { p with a := p.a / m }) (dss_stop (ds_ifT (dt_gt (de_ixo 0 (xs := pz p) (z := .int p.a) de_int rfl) de_int (decide_eq_true h)) rfl
        (dss_cons (ds_set (i := 2) sc_draw.nd rfl (.inl rfl) (by simp) (de_mod (de_intI rfl B.int (de_ixo 0 (xs := pz p) (z := .int p.a) de_int rfl)) (de_v 1) m0))
        (dss_cons (ds_setix (i := 0) (xs := pz p) (m := 0) rfl (.inl rfl) (de_fdiv (de_ixo 0 (xs := pz p) (z := .int p.a) de_int rfl) (de_v 1) ⟨m0, Nat.lt_trans ((Nat.log2_lt (n := m.natAbs) (k := 104) (by omega)).mpr (by omega)) (by decide)⟩) ⟨_, rfl⟩ de_int rfl rfl)
        (dss_one (ds_ret (de_v 2)))))) (fun _ h => nomatch h)) rfl rfl
    · have eN : drawNG p m = itF p (pcs m) % m := if_neg h
      have eP : drawPG p m = itP p (pcs m) := if_neg h
      have kle := pcs_le m0 m1
      rw [eN, eP]
      refine ret1 (ys := pz (itP p (pcs m))) (δ' := [.ow (pz (itP p (pcs m))), .d (.int m), .un, .d (.int (itF p (pcs m))), .d (.int ((pcs m - 1 : Nat) : Int))]) (dss_cons (ds_ifF (dt_gt (de_ixo 0 (xs := pz p) (z := .int p.a) de_int rfl) de_int (decide_eq_false h)) rfl dss_nil)
        (dss_cons (ds_set (i := 3) sc_draw.nd rfl (.inl rfl) (by simp) de_int)
        (dss_cons (δ1 := [.ow (pz (itP p (pcs m))), .d (.int m), .un, .d (.int (itF p (pcs m))), .d (.int ((pcs m - 1 : Nat) : Int))]) (ds_to (ds_for (items := irange 0 (pcs m)) (X := cxOf (L2.CX P w) P w K mg base ["purse", "many", "drawn", "found", "piece"] "_law_draw" (defScope s__law_draw) f cdv A outer s H E) (passes_of rfl) rfl (di_to (di_range1 rfl B.rng (de_add de_int (de_fdiv (de_bits (de_v 1)) de_int (by exact ⟨by decide, by decide⟩))) ?_) ?_)
          (fun j => [.ow (pz (itP p j)), .d (.int m), .un, .d (.int (itF p j)), if j = 0 then .un else .d (.int ((j - 1 : Nat) : Int))]) (fun j => [.ow (pz (itP p j)), .d (.int m), .un, .d (.int (itF p j)), .d (.int (j : Int))]) ?_ (fun j d hd => ?_) (fun j d hj hd => ?_)) ?_)
        (dss_one (ds_ret (de_mod (de_intI rfl B.int (de_v 3)) (de_v 1) m0)))))) rfl rfl
      · have e : (1 : Int) + (Builtin.Int.intBits m : Nat) / 28 = (pcs m : Nat) := by unfold pcs; omega
        rw [e]; omega
      · have e : (1 : Int) + (Builtin.Int.intBits m : Nat) / 28 = (pcs m : Nat) := by unfold pcs; omega
        rw [e]; rfl
      · show [DV.ow (pz (itP p 0)), .d (.int m), .un, .d (.int (itF p 0)), .un] = _
        have : itP p 0 = p := by unfold itP; cases p; simp
        rw [this]; rfl
      · have hj : j < pcs m := by
          have := (List.getElem?_eq_some_iff.mp hd).1
          rwa [irange_len] at this
        rw [irange_get hj] at hd
        cases hd
        exact (by simpa using dg_name (X := cxOf (L2.CX P w) P w K mg base ["purse", "many", "drawn", "found", "piece"] "_law_draw" (defScope s__law_draw) f cdv A outer s H E) (pn := [0]) (x := .int (0 + (j : Int))) (δ := [.ow (pz (itP p j)), .d (.int m), .un, .d (.int (itF p j)), if j = 0 then .un else .d (.int ((j - 1 : Nat) : Int))]) (i := 4) sc_draw.nd rfl (.inl rfl) (by simp))
      · have hj : j < pcs m := by
          rwa [irange_len] at hj
        exact dss_to (dss_cons (ds_setix (i := 0) (xs := pz (itP p j)) (m := 2) rfl (.inl rfl) (de_add (de_ixo 0 (xs := pz (itP p j)) (z := .int (p.c + (j : Int))) de_int rfl) de_int) ⟨_, rfl⟩ de_int rfl rfl)
          (dss_one (ds_set (i := 3) sc_draw.nd rfl (.inl rfl) (by simp) (de_add (de_mul (de_v 3) de_int (.inr (by decide))) (de_call (r := .d (.int (mixN p.b (p.c + (j : Int) + 1) p.d))) (fd_mixed B D0) hr rfl (da_cons (de_ixo 0 (xs := (pz (itP p j)).set 2 (.int (p.c + (j : Int) + 1))) (z := .int p.b) de_int rfl) (da_cons (de_ixo 0 (xs := (pz (itP p j)).set 2 (.int (p.c + (j : Int) + 1))) (z := .int (p.c + (j : Int) + 1)) de_int rfl) (da_cons (de_ixo 0 (xs := (pz (itP p j)).set 2 (.int (p.c + (j : Int) + 1))) (z := .int p.d) de_int rfl) da_nil))) rfl ⟨_, _, _, by omega, by omega, rfl, rfl, rfl⟩))))) (by
            unfold itP pz
            rw [show ((j + 1 : Nat) : Int) = (j : Int) + 1 from rfl, ← Int.add_assoc]
            simp [itF])
      · rw [irange_len, if_neg (show ¬ pcs m = 0 by unfold pcs; omega)]
    )
end W76
end
section
set_option Elab.async false
set_option linter.all false
set_option maxRecDepth 100000
set_option maxHeartbeats 4000000
namespace W76
open PySem PySem.Spec PyProof.Rows L2 DL Hd
variable [TL]
variable {P : Program} {w : World} {K : PySem.W.Frag} {mg : Str → Option Value} {base : Heap}
abbrev NW : List Str := ["text", "at", "signs", "end"]
theorem sc_word_at : FnScope NW ["text", "at", "signs"] (defScope s_word_at) := ⟨rfl, rfl, rfl, by decide +kernel, rfl, by decide +kernel, by decide +kernel⟩
def RWat : RelD := fun args r args' => ∃ (s : Str) (n : Nat) (g : Str), n ≤ s.length ∧ s.length ≤ 2 ^ 20 ∧ args = [.d (.str s), .d (.int n), .d (.str g)] ∧ r = .d (.str (ofCs (DL.run (csOf g) ((csOf s).drop n)))) ∧ args' = args
abbrev forW : Stmt → List Stmt
  | .While _ b _ _ => b
  | _ => []
theorem fd_word_at (B : Bn mg) (D1 : Df K mg "word_at" s_word_at) : FD P w K mg base 1 "word_at" ["text", "at", "signs"] RWat noX :=
  D1.fd (fun _ _ _ _ _ _ us hl => match us, hl with | [_, _, _], _ => rfl) fun f fd F => fn_rel0 F sc_word_at (fun _ _ _ ⟨_, _, _, _, _, h, _⟩ => by rw [h]; rfl) (fun cdv A outer s0 H E hr args r args' ⟨s, n, g, hn, hs, e1, e2, e3⟩ => by
    subst e1 e2 e3
    have big := szl
    obtain ⟨m, hm⟩ : ∃ m, m = (DL.run (csOf g) ((csOf s).drop n)).length := ⟨_, rfl⟩
    have ml : n + m ≤ s.length := by
      have := DL.run_le (csOf g) ((csOf s).drop n)
      rw [List.length_drop, csOf_len] at this
      omega
    refine ret0 (dss_cons (ds_set (i := 3) (x := .int n) sc_word_at.nd rfl (.inl rfl) (by simp) (de_v 1))
      (dss_cons (ds_to (ds_while (X := cxOf (L2.CX P w) P w K mg base NW "word_at" (defScope s_word_at) f cdv A outer s0 H E) (pn := []) (passes_of rfl) (fun j => [.d (.str s), .d (.int n), .d (.str g), .d (.int ((n : Int) + (j : Int)))]) (fun j => [.d (.str s), .d (.int n), .d (.str g), .d (.int ((n : Int) + (j : Int)))]) m ?_ (fun j hj => ?_) (fun j hj => ?_)) rfl)
        (dss_one (ds_ret (de_to (de_slS (de_v 0) (do_some (de_v 1)) (do_some (de_v 3)) (by omega)) ?_))))) rfl
    · show _ = [DV.d (.str s), .d (.int n), .d (.str g), .d (.int n)]
      simp
    · by_cases h : j < m
      · rw [decide_eq_true h]
        obtain ⟨c, h1, h2⟩ := DL.run_at (g := csOf g) (s := (csOf s).drop n) (j := j) (by rw [← hm]; exact h)
        rw [List.getElem?_drop] at h1
        exact dt_w (dw_andT (dt_lt (de_v 3) (de_len (n := s.length) rfl B.len (de_v 0) (slenD (by omega))) (decide_eq_true (by omega))) (dw_and1 (dt_in (n := c) (de_ixS (de_v 0) (de_v 3) (by omega) (by rw [show (n : Int) + (j : Int) = ((n + j : Nat) : Int) from by omega]; exact L2.atI_nat h1)) (de_v 2) (decide_eq_true h2))))
      · have hj : j = m := by omega
        subst hj
        rw [decide_eq_false h]
        by_cases hl : n + j < s.length
        · obtain ⟨c, h1⟩ : ∃ c, (csOf s)[n + j]? = some c := ⟨_, List.getElem?_eq_getElem (by rw [csOf_len]; exact hl)⟩
          have h2 : c ∉ csOf g := DL.run_end (g := csOf g) (s := (csOf s).drop n) (c := c) (by rw [← hm, List.getElem?_drop]; exact h1)
          exact dt_w (dw_andT (dt_lt (de_v 3) (de_len (n := s.length) rfl B.len (de_v 0) (slenD (by omega))) (decide_eq_true (by omega))) (dw_and1 (dt_in (n := c) (de_ixS (de_v 0) (de_v 3) (by omega) (by rw [show (n : Int) + (j : Int) = ((n + j : Nat) : Int) from by omega]; exact L2.atI_nat h1)) (de_v 2) (decide_eq_false h2))))
        · exact dt_w (dw_andF (dt_lt (de_v 3) (de_len (n := s.length) rfl B.len (de_v 0) (slenD (by omega))) (decide_eq_false (by omega))))
    · exact dss_to (dss_one (ds_aug (i := 3) sc_word_at.nd rfl (.inl rfl) (by simp) rfl de_int)) (by
        show [DV.d (.str s), .d (.int n), .d (.str g), .d (.int ((n : Int) + (j : Int) + 1))] = _
        rw [show ((j + 1 : Nat) : Int) = (j : Int) + 1 from rfl, Int.add_assoc])
    · rw [show (n : Int) + (m : Int) = ((n + m : Nat) : Int) from by omega, cutS_nat s n (n + m) hn]
      congr 4
      rw [show n + m - n = m from by omega, hm]
      exact DL.run_take _ _)
end W76
end
section
set_option Elab.async false
set_option linter.all false
set_option maxRecDepth 100000
set_option maxHeartbeats 2000000
namespace DL
open PySem PySem.Spec PyProof.Rows L2
variable [TL]
theorem gst_succ {f : List Nat → PR} {s : List Nat} {j : Nat} {d : D} {r : List Nat} (h : f (gst f s j).1 = some (some (d, r))) : gst f s (j + 1) = (r, (gst f s j).2 ++ [d]) := by
  rw [gst, h]
theorem isGo_some {f : List Nat → PR} {t : List Nat} (h : isGo f t = true) : (∃ d r, f t = some (some (d, r))) ∧ t ≠ [] ∧ t.head? ≠ some 93 := by
  unfold isGo at h
  split at h
  · cases h
  · cases h
  · rename_i t' h1 h2
    split at h
    · rename_i q e
      refine ⟨⟨q.1, q.2, e⟩, h1, fun z => ?_⟩
      cases t with
      | nil => cases z
      | cons a r => cases z; exact h2 _ rfl
    · cases h
/-- the rest is an end of the text -/
def Suf (f : List Nat → PR) : Prop := ∀ s d t, f s = some (some (d, t)) → ∃ u, u ≠ [] ∧ s = u ++ t
theorem gst_suf {f : List Nat → PR} (hf : Suf f) (s : List Nat) : ∀ j, (∃ u, s = u ++ (gst f s j).1) ∧ ((gst f s j).2.length + (gst f s j).1.length ≤ s.length)
  | 0 => ⟨⟨[], rfl⟩, by simp [gst]⟩
  | j + 1 => by
    obtain ⟨⟨u, h1⟩, h2⟩ := gst_suf hf s j
    rw [gst]
    split
    · rename_i d r e
      obtain ⟨v, hv, e2⟩ := hf _ _ _ e
      have lv : 1 ≤ v.length := by cases v with | nil => exact absurd rfl hv | cons _ _ => simp
      have l2 := congrArg List.length e2
      rw [List.length_append] at l2
      exact ⟨⟨u ++ v, by rw [List.append_assoc, ← e2]; exact h1⟩, by simp only [List.length_append, List.length_cons, List.length_nil]; omega⟩
    · exact ⟨⟨u, h1⟩, h2⟩
theorem gst_isgo_len {f : List Nat → PR} (hf : Suf f) (s : List Nat) : ∀ j, (∀ i, i < j → isGo f (gst f s i).1 = true) → j + (gst f s j).1.length ≤ s.length ∧ (gst f s j).2.length = j
  | 0, _ => by simp [gst]
  | j + 1, h => by
    obtain ⟨h1, h2⟩ := gst_isgo_len hf s j fun i hi => h i (by omega)
    obtain ⟨⟨d, r, e⟩, _⟩ := isGo_some (h j (by omega))
    obtain ⟨v, hv, e2⟩ := hf _ _ _ e
    rw [gst_succ e]
    have lv : 1 ≤ v.length := by cases v with | nil => exact absurd rfl hv | cons _ _ => simp
    have l2 := congrArg List.length e2
    rw [List.length_append] at l2
    simp only [List.length_append, List.length_cons, List.length_nil]
    omega
theorem gEnd_cases {f : List Nat → PR} {q : List Nat × List D} {o : Option (D × List Nat)} (h : gEnd f q = some o) : (q.1 = [] ∧ o = none) ∨ (∃ r, q.1 = 93 :: r ∧ o = some (.tup (.str "group" :: q.2), r)) ∨ (q.1 ≠ [] ∧ q.1.head? ≠ some 93 ∧ f q.1 = some none ∧ o = none) := by
  unfold gEnd at h
  split at h
  · rename_i e; cases h; exact .inl ⟨e, rfl⟩
  · rename_i r e; cases h; exact .inr (.inl ⟨r, e, rfl⟩)
  · rename_i t h1 h2
    split at h
    · rename_i e
      cases h
      refine .inr (.inr ⟨h1, fun z => ?_, e, rfl⟩)
      cases hq : q.1 with
      | nil => exact h1 hq
      | cons a r => rw [hq] at z; cases z; exact h2 _ hq
    · cases h
theorem groupP_suf {f : List Nat → PR} (hf : Suf f) {s : List Nat} {d : D} {t : List Nat} (h : groupP f s = some (some (d, t))) : ∃ u, u ≠ [] ∧ s = u ++ t := by
  unfold groupP at h
  obtain ⟨⟨u, h1⟩, _⟩ := gst_suf hf s (stopAt f s (s.length + 1) 0)
  rcases gEnd_cases h with ⟨_, e⟩ | ⟨r, e1, e2⟩ | ⟨_, _, _, e⟩
  · cases e
  · cases e2
    exact ⟨u ++ [93], by simp, by rw [List.append_assoc]; rw [e1] at h1; exact h1⟩
  · cases e
theorem againP_some {o : PR} {d : D} {u : List Nat} (h : againP o = some (some (d, u))) : ∃ d' t, o = some (some (d', t)) ∧ t = run figs t ++ 41 :: u ∧ run figs t ≠ [] ∧ (run figs t).length ≤ 30 ∧ d = .tup [.str "again", d', .int (numF (run figs t))] := by
  unfold againP at h
  split at h
  · rename_i d' t
    split at h
    · rename_i u' e
      split at h
      · cases h
      · rename_i z
        cases h
        exact ⟨d', t, rfl, by conv => lhs; rw [run_pre figs t, e], fun q => z (.inl q), by omega, rfl⟩
    · cases h
  · rename_i z
    exact absurd h (z _ _)
theorem nodeP_suf : ∀ n, Suf (nodeP n)
  | 0, s, d, t, h => by
    rw [nodeP] at h
    split at h
    · cases h
    · have h := Option.some.inj h
      obtain ⟨e, _⟩ := beadP_suf h
      exact ⟨run lets s ++ [46], by simp, by rw [List.append_assoc]; exact e⟩
  | n + 1, s, d, t, h => by
    rw [nodeP] at h
    split at h
    · rename_i z
      obtain ⟨u, _, e⟩ := groupP_suf (nodeP_suf n) h
      cases s with
      | nil => cases z
      | cons a r => exact ⟨a :: u, by simp, by rw [List.cons_append, ← e]; rfl⟩
    · split at h
      · rename_i z
        obtain ⟨d', t', e1, e2, _, _, _⟩ := againP_some h
        obtain ⟨u, _, e⟩ := nodeP_suf n _ _ _ e1
        cases s with
        | nil => cases z
        | cons a r =>
          have e : r = u ++ t' := e
          exact ⟨a :: u ++ run figs t' ++ [41], by simp, by rw [List.append_assoc, List.append_assoc, List.cons_append, List.singleton_append, ← e2, ← e]⟩
      · have h := Option.some.inj h
        obtain ⟨e, _⟩ := beadP_suf h
        exact ⟨run lets s ++ [46], by simp, by rw [List.append_assoc]; exact e⟩
/-! ### signs compared -/
theorem head_at {cs : List Nat} {n : Nat} : ((cs.drop n).take 1) = match (cs.drop n).head? with | none => [] | some c => [c] := by
  cases cs.drop n <;> rfl
theorem take1_eq {t : List Nat} {c : Nat} : decide (ofCs (t.take 1) = ofCs [c]) = decide (t.head? = some c) := by
  cases t with
  | nil => 
    have : ofCs ([] : List Nat) ≠ ofCs [c] := fun z => by have := ofCs_inj z; cases this
    simp [this]
  | cons a r =>
    by_cases h : a = c
    · simp [h]
    · have : ofCs [a] ≠ ofCs [c] := fun z => h (by have := ofCs_inj z; simpa using this)
      simp [this, h]
theorem lit_lb : ("[" : Str) = ofCs [91] := by decide +kernel
theorem lit_rb : ("]" : Str) = ofCs [93] := by decide +kernel
theorem lit_lp : ("(" : Str) = ofCs [40] := by decide +kernel
theorem lit_rp : (")" : Str) = ofCs [41] := by decide +kernel
theorem lit_dot : ("." : Str) = ofCs [46] := by decide +kernel
theorem lit_no : ("" : Str) = ofCs [] := by decide +kernel
theorem drop_suf {cs t : List Nat} {n : Nat} (h : ∃ u, cs.drop n = u ++ t) : cs.drop (cs.length - t.length) = t := by
  obtain ⟨u, e⟩ := h
  have l := congrArg List.length e
  rw [List.length_drop, List.length_append] at l
  have e2 : cs = cs.take n ++ u ++ t := by rw [List.append_assoc, ← e, List.take_append_drop]
  obtain ⟨v, hv⟩ : ∃ v, cs = v ++ t := ⟨cs.take n ++ u, e2⟩
  rw [hv, List.length_append, Nat.add_sub_cancel]
  exact List.drop_left
def resD (L : Nat) : Option (D × List Nat) → D
  | none => .non
  | some (d, t) => .tup [d, .int ((L - t.length : Nat) : Int)]
end DL
end
section
set_option Elab.async false
set_option linter.all false
set_option maxRecDepth 100000
set_option maxHeartbeats 4000000
namespace W76
open PySem PySem.Spec PyProof.Rows L2 DL Hd
variable [TL]
variable {P : Program} {w : World} {K : PySem.W.Frag} {mg : Str → Option Value} {base : Heap}
/-- the reader's defs -/
structure DfR (K : PySem.W.Frag) (mg : Str → Option Value) : Prop where
  B : Bn mg
  word : Df K mg "word_at" s_word_at
  node : Df K mg "node_at" s_node_at
  grp : Df K mg "group_at" s_group_at
  figs : ∃ t, mg "FIGURES" = some (.str "0123456789" t)
  lets : ∃ t, mg "LETTERS" = some (.str "abcdefghijklmnopqrstuvwxyz" t)
def RNat (k : Nat) : RelD := fun args r args' => ∃ (s : Str) (n : Nat) (o : Option (D × List Nat)), n ≤ s.length ∧ s.length ≤ 2 ^ 20 ∧ nodeP k ((csOf s).drop n) = some o ∧ args = [.d (.str s), .d (.int n)] ∧ r = .d (resD s.length o) ∧ args' = args
def RGat (k : Nat) : RelD := fun args r args' => ∃ (s : Str) (n : Nat) (o : Option (D × List Nat)), n ≤ s.length ∧ s.length ≤ 2 ^ 20 ∧ groupP (nodeP k) ((csOf s).drop n) = some o ∧ args = [.d (.str s), .d (.int n)] ∧ r = .d (resD s.length o) ∧ args' = args
abbrev NG : List Str := ["text", "at", "parts", "found"]
theorem sc_group_at : FnScope NG ["text", "at"] (defScope s_group_at) := ⟨rfl, rfl, rfl, by decide +kernel, rfl, by decide +kernel, by decide +kernel⟩
abbrev NN : List Str := ["text", "at", "inner", "figures", "end", "bead"]
theorem sc_node_at : FnScope NN ["text", "at"] (defScope s_node_at) := ⟨rfl, rfl, rfl, by decide +kernel, rfl, by decide +kernel, by decide +kernel⟩
section
variable {X : Cx} {δ δ1 δ2 δ3 : List DV} {a b c e lo hi : Expr} {p1 p2 pos : Pos}
/-- text[p:p + 1] -/
theorem de_sl1 {s : Str} {p : Nat} {q : Int} (ha : DE X δ a (.d (.str s)) δ) (hl : DE X δ lo (.d (.int (p : Int))) δ) (hh : DE X δ hi (.d (.int q)) δ) (hq : q = ((p + 1 : Nat) : Int)) (hp : p ≤ s.length) (hs : s.length ≤ 2 ^ 20) : DE X δ (.Subscript a (.Slice (some lo) (some hi) none p2) pos) (.d (.str (ofCs (((csOf s).drop p).take 1)))) δ := by
  subst hq
  exact de_to (de_slS ha (do_some hl) (do_some hh) (by have := szl; omega)) (by rw [cutS_nat s p (p + 1) hp, Nat.add_sub_cancel_left])
end
theorem one_in {t : List Nat} (h : t ≠ []) (h2 : t.head? ≠ some 93) : (![("]" : Str), ""].any fun x => x == ofCs (t.take 1)) = true := by
  cases t with
  | nil => exact absurd rfl h
  | cons a r =>
    have e1 : ofCs [93] ≠ ofCs [a] := fun z => h2 (by have := ofCs_inj z; simp at this; rw [this]; rfl)
    have e2 : ofCs [] ≠ ofCs [a] := fun z => by have := ofCs_inj z; cases this
    rw [lit_rb, lit_no]
    simp [e1, e2]
theorem one_out {t : List Nat} (h : t = [] ∨ t.head? = some 93) : (![("]" : Str), ""].any fun x => x == ofCs (t.take 1)) = false := by
  rw [lit_rb, lit_no]
  rcases h with rfl | h
  · simp
  · cases t with
    | nil => cases h
    | cons a r => cases h; simp
theorem fd_group_at (T : DfR K mg) {k : Nat} (G : FD P w K mg base (2 * k + 2) "node_at" ["text", "at"] (RNat k) noX) : FD P w K mg base (2 * k + 3) "group_at" ["text", "at"] (RGat k) noX :=
  T.grp.fd (fun _ _ _ _ _ _ us hl => match us, hl with | [_, _], _ => rfl) fun f fd F => fn_rel0 F sc_group_at (fun _ _ _ ⟨_, _, _, _, _, _, h, _⟩ => by rw [h]; rfl) (fun cdv A outer s0 H E hr args r args' ⟨s, n, o, hn, hs, ho, e1, e2, e3⟩ => by
    subst e1 e2 e3
    have B := T.B
    have big := szl
    obtain ⟨g, hg⟩ : ∃ g, g = gst (nodeP k) ((csOf s).drop n) := ⟨_, rfl⟩
    obtain ⟨m, hm⟩ : ∃ m, m = stopAt (nodeP k) ((csOf s).drop n) (((csOf s).drop n).length + 1) 0 := ⟨_, rfl⟩
    have hgo : ∀ i, i < m → isGo (nodeP k) (g i).1 = true := by rw [hm, hg]; exact stopAt_go _ 0 fun i hi => absurd hi (by omega)
    have hend : gEnd (nodeP k) (g m) = some o := by rw [hm, hg]; exact ho
    have suf : ∀ j, ∃ u, (csOf s).drop n = u ++ (g j).1 := fun j => by rw [hg]; exact (gst_suf (nodeP_suf k) _ j).1
    have dr : ∀ j, (csOf s).drop (s.length - (g j).1.length) = (g j).1 := fun j => by have := drop_suf (suf j); rwa [csOf_len] at this
    have gl : ∀ j, j ≤ m → j + (g j).1.length ≤ s.length - n ∧ (g j).2.length = j := fun j hj => by
      have := gst_isgo_len (nodeP_suf k) ((csOf s).drop n) j fun i hi => by have := hgo i (by omega); rwa [hg] at this
      rw [List.length_drop, csOf_len] at this
      rwa [← hg] at this
    obtain ⟨lr, hlr⟩ : ∃ lr : Nat → D × List Nat, ∀ j, j < m → nodeP k (g j).1 = some (some (lr j)) ∧ g (j + 1) = ((lr j).2, (g j).2 ++ [(lr j).1]) := by
      refine ⟨fun j => ((nodeP k (g j).1).getD none).getD (.non, []), fun j hj => ?_⟩
      obtain ⟨⟨d, r, e⟩, _⟩ := isGo_some (hgo j hj)
      show nodeP k (g j).1 = some (some (((nodeP k (g j).1).getD none).getD (.non, []))) ∧ g (j + 1) = ((((nodeP k (g j).1).getD none).getD (.non, [])).2, (g j).2 ++ [(((nodeP k (g j).1).getD none).getD (.non, [])).1])
      rw [e]
      refine ⟨rfl, ?_⟩
      have := gst_succ (f := nodeP k) (s := (csOf s).drop n) (j := j) (by rw [← hg]; exact e)
      rwa [← hg] at this
    obtain ⟨fr, hfr⟩ : ∃ fr : Nat → List DV, fr = fun j => [.d (.str s), .d (.int ((s.length - (g j).1.length : Nat) : Int)), .ow (g j).2, if j = 0 then .un else DV.d (.tup [(lr (j - 1)).1, .int ((s.length - (lr (j - 1)).2.length : Nat) : Int)])] := ⟨_, rfl⟩
    have f0 : fr 0 = [.d (.str s), .d (.int (n : Int)), .ow [], .un] := by
      rw [hfr, hg]
      have : s.length - (gst (nodeP k) ((csOf s).drop n) 0).1.length = n := by
        show s.length - ((csOf s).drop n).length = n
        rw [List.length_drop, csOf_len]; omega
      show [DV.d (.str s), .d (.int ((s.length - (gst (nodeP k) ((csOf s).drop n) 0).1.length : Nat) : Int)), .ow [], .un] = _
      rw [this]
    have cond : ∀ (kb : Bool) (p1 p2 p3 p4 p5 p6 p7 p8 p9 p10 p11 : Pos) (j1 j2 j3 j4 : Nat) (j : Nat), j ≤ m → (![("]" : Str), ""].any fun x => x == ofCs ((g j).1.take 1)) = kb → DT (cxOf (L2.CX P w) P w K mg base NG "group_at" (defScope s_group_at) f cdv A outer s0 H E) (fr j) (.Compare (.Subscript (.Name "text" p1) (.Slice (some (.Name "at" p2)) (some (.BinOp (.Name "at" p3) .Add (.Constant (.int 1) j1 p4) p5)) none p6) p7) [.NotIn] [.Tuple [.Constant (.str "]") j2 p8, .Constant (.str "") j3 p9] j4 p10] p11) kb (fr j) := fun kb _ _ _ _ _ _ _ _ _ _ _ _ _ _ _ j hj hk => by
      rw [hfr]
      have := (gl j hj).1
      refine dt_ninT (ts := ["]", ""]) (s := ofCs ((g j).1.take 1)) (de_to (de_sl1 (p := s.length - (g j).1.length) (de_v 0) (de_v 1) (de_add (de_v 1) de_int) (by omega) (by omega) hs) (by rw [dr j])) (de_tup (da_cons de_str (da_cons de_str da_nil)) rfl (by decide)) hk
    have step : ∀ j, j < m → fr (j + 1) = [.d (.str s), .d (.int ((s.length - (lr j).2.length : Nat) : Int)), .ow ((g j).2 ++ [(lr j).1]), .d (.tup [(lr j).1, .int ((s.length - (lr j).2.length : Nat) : Int)])] := fun j hj => by
      rw [hfr]
      show [DV.d (.str s), .d (.int ((s.length - (g (j + 1)).1.length : Nat) : Int)), .ow (g (j + 1)).2, if j + 1 = 0 then .un else DV.d (.tup [(lr (j + 1 - 1)).1, .int ((s.length - (lr (j + 1 - 1)).2.length : Nat) : Int)])] = _
      rw [(hlr j hj).2, if_neg (by omega), Nat.add_sub_cancel]
    have call : ∀ (j : Nat) (o' : Option (D × List Nat)) (p1 p2 p3 p4 : Pos), j ≤ m → nodeP k (g j).1 = some o' → DE (cxOf (L2.CX P w) P w K mg base NG "group_at" (defScope s_group_at) f cdv A outer s0 H E) (fr j) (.Call (.Name "node_at" p1) [.Name "text" p2, .Name "at" p3] [] p4) (.d (resD s.length o')) (fr j) := fun j o' _ _ _ _ hj ho' => by
      rw [hfr]
      exact de_call (r := .d (resD s.length o')) G hr rfl (da_cons (de_v 0) (da_cons (de_v 1) da_nil)) rfl ⟨s, s.length - (g j).1.length, o', by omega, hs, by rw [dr j]; exact ho', rfl, rfl, rfl⟩
    have rest : ∀ {r : List DV}, True := fun {r} => trivial
    have body : ∀ (j : Nat) (o' : Out) (sts : List Stmt), DSs (cxOf (L2.CX P w) P w K mg base NG "group_at" (defScope s_group_at) f cdv A outer s0 H E) [] (fr j) sts o' → True := fun _ _ _ _ => trivial
    have ctT : ∀ j, j < m → (![("]" : Str), ""].any fun x => x == ofCs ((g j).1.take 1)) = true := fun j h => by
      obtain ⟨_, a, b⟩ := isGo_some (hgo j h)
      exact one_in a b
    have ctF : ((g m).1 = [] ∨ (g m).1.head? = some 93) → ∀ j, j ≤ m → (![("]" : Str), ""].any fun x => x == ofCs ((g j).1.take 1)) = decide (j < m) := fun q1 j hj => by
      by_cases h : j < m
      · rw [decide_eq_true h]; exact ctT j h
      · have : j = m := by omega
        subst this
        rw [decide_eq_false h]; exact one_out q1
    rcases gEnd_cases hend with ⟨q1, rfl⟩ | ⟨t, q1, rfl⟩ | ⟨q1, q2, q3, rfl⟩
    · refine ret0 (δ' := fr m) (dss_cons (ds_setO (i := 2) (xs := []) sc_group_at.nd rfl (.inl rfl) (by simp) (de_lst da_nil rfl (by decide)))
        (dss_cons (ds_while (X := cxOf (L2.CX P w) P w K mg base NG "group_at" (defScope s_group_at) f cdv A outer s0 H E) (pn := []) (passes_of rfl) fr fr m f0 (fun j hj => cond _ _ _ _ _ _ _ _ _ _ _ _ _ _ _ _ j hj (ctF (.inl q1) j hj)) (fun j hj => ?_))
        (dss_one (ds_ret ?_)))) rfl
      · rw [step j hj]
        have c := call j (some (lr j))
        have gj := gl j (by omega)
        rw [hfr] at c ⊢
        exact dss_cons (ds_set (i := 3) (x := .tup [(lr j).1, .int ((s.length - (lr j).2.length : Nat) : Int)]) sc_group_at.nd rfl (.inl rfl) (by simp) (c _ _ _ _ (by omega) (hlr j hj).1))
          (dss_cons (ds_ifF (dt_isN (de_v 3) rfl) rfl dss_nil) (dss_cons (ds_append (i := 2) rfl (.inl rfl) ⟨_, rfl⟩ (de_ixT (de_v 3) de_int atI_0) rfl (by omega)) (dss_one (ds_set (i := 1) sc_group_at.nd rfl (.inl rfl) (by simp) (de_ixT (de_v 3) de_int atI_1)))))
      · rw [hfr]
        have gm := gl m (Nat.le_refl _)
        exact de_ifF (dt_eqS (s := ofCs ((g m).1.take 1)) (de_to (de_sl1 (p := s.length - (g m).1.length) (de_v 0) (de_v 1) (de_add (de_v 1) de_int) (by omega) (by omega) hs) (by rw [dr m])) de_str (by rw [lit_rb, take1_eq, q1]; rfl)) rfl de_non
    · refine ret0 (δ' := (fr m).set 2 .un) (dss_cons (ds_setO (i := 2) (xs := []) sc_group_at.nd rfl (.inl rfl) (by simp) (de_lst da_nil rfl (by decide)))
        (dss_cons (ds_while (X := cxOf (L2.CX P w) P w K mg base NG "group_at" (defScope s_group_at) f cdv A outer s0 H E) (pn := []) (passes_of rfl) fr fr m f0 (fun j hj => cond _ _ _ _ _ _ _ _ _ _ _ _ _ _ _ _ j hj (ctF (.inr (by rw [q1]; rfl)) j hj)) (fun j hj => ?_))
        (dss_one (ds_ret ?_)))) rfl
      · rw [step j hj]
        have c := call j (some (lr j))
        have gj := gl j (by omega)
        rw [hfr] at c ⊢
        exact dss_cons (ds_set (i := 3) (x := .tup [(lr j).1, .int ((s.length - (lr j).2.length : Nat) : Int)]) sc_group_at.nd rfl (.inl rfl) (by simp) (c _ _ _ _ (by omega) (hlr j hj).1))
          (dss_cons (ds_ifF (dt_isN (de_v 3) rfl) rfl dss_nil) (dss_cons (ds_append (i := 2) rfl (.inl rfl) ⟨_, rfl⟩ (de_ixT (de_v 3) de_int atI_0) rfl (by omega)) (dss_one (ds_set (i := 1) sc_group_at.nd rfl (.inl rfl) (by simp) (de_ixT (de_v 3) de_int atI_1)))))
      · rw [hfr]
        have gm := gl m (Nat.le_refl _)
        have lq : (g m).1.length = t.length + 1 := by rw [q1]; rfl
        exact de_ifT (dt_eqS (s := ofCs ((g m).1.take 1)) (de_to (de_sl1 (p := s.length - (g m).1.length) (de_v 0) (de_v 1) (de_add (de_v 1) de_int) (by omega) (by omega) hs) (by rw [dr m])) de_str (by rw [lit_rb, take1_eq, q1]; rfl)) rfl
          (de_to (de_tup (da_cons (de_tupSt de_str (de_frz (de_vm 2)) (by omega)) (da_cons (de_add (de_v 1) de_int) da_nil)) rfl (by show 2 ≤ sizeLine; decide)) (by
            show DV.d (.tup [_, .int (((s.length - (g m).1.length : Nat) : Int) + 1)]) = DV.d (.tup [_, .int ((s.length - t.length : Nat) : Int)])
            rw [lq, show (((s.length - (t.length + 1) : Nat) : Int) + 1) = ((s.length - t.length : Nat) : Int) from by omega]))
    · refine ret0 (δ' := (fr m).set 3 (.d .non)) (dss_cons (ds_setO (i := 2) (xs := []) sc_group_at.nd rfl (.inl rfl) (by simp) (de_lst da_nil rfl (by decide)))
        (dss_stop (ds_whileX (X := cxOf (L2.CX P w) P w K mg base NG "group_at" (defScope s_group_at) f cdv A outer s0 H E) (pn := []) (passes_of rfl) fr fr m f0 (fun j hj => cond _ _ _ _ _ _ _ _ _ _ _ _ _ _ _ _ j hj ?_) (fun j hj => ?_) ?_ (fun _ => .inl ⟨_, _, rfl⟩)) (fun _ h => nomatch h))) rfl
      · by_cases h : j < m
        · exact ctT j h
        · have : j = m := by omega
          subst this
          exact one_in q1 q2
      · rw [step j hj]
        have c := call j (some (lr j))
        have gj := gl j (by omega)
        rw [hfr] at c ⊢
        exact dss_cons (ds_set (i := 3) (x := .tup [(lr j).1, .int ((s.length - (lr j).2.length : Nat) : Int)]) sc_group_at.nd rfl (.inl rfl) (by simp) (c _ _ _ _ (by omega) (hlr j hj).1))
          (dss_cons (ds_ifF (dt_isN (de_v 3) rfl) rfl dss_nil) (dss_cons (ds_append (i := 2) rfl (.inl rfl) ⟨_, rfl⟩ (de_ixT (de_v 3) de_int atI_0) rfl (by omega)) (dss_one (ds_set (i := 1) sc_group_at.nd rfl (.inl rfl) (by simp) (de_ixT (de_v 3) de_int atI_1)))))
      · have c := call m none
        have gm := gl m (Nat.le_refl _)
        rw [hfr] at c ⊢
        exact dss_cons (ds_set (i := 3) (x := .non) sc_group_at.nd rfl (.inl rfl) (by simp) (c _ _ _ _ (by omega) q3))
          (dss_stop (ds_ifT (dt_isN (de_v 3) rfl) rfl (dss_one (ds_ret de_non))) (fun _ h => nomatch h)))
end W76
end
section
set_option Elab.async false
set_option linter.all false
set_option maxRecDepth 100000
set_option maxHeartbeats 4000000
namespace W76
open PySem PySem.Spec PyProof.Rows L2 DL Hd
variable [TL]
variable {P : Program} {w : World} {K : PySem.W.Frag} {mg : Str → Option Value} {base : Heap}
theorem figs_all {f : List Nat} (h : ∀ c ∈ f, c ∈ DL.figs) : NumText.AllDigits f := fun c hc => by
  have := h c hc
  simp [DL.figs] at this
  omega
theorem lit_no_eq {l : List Nat} : decide (ofCs l = ("" : Str)) = decide (l = []) := by
  rw [lit_no]
  by_cases h : l = []
  · simp [h]
  · have : ofCs l ≠ ofCs [] := fun z => h (ofCs_inj z)
    simp [h, this]
theorem drop_run {cs : List Nat} {p : Nat} {g : List Nat} : (cs.drop p).drop (DL.run g (cs.drop p)).length = cs.drop (p + (DL.run g (cs.drop p)).length) := by rw [List.drop_drop]
/-- what stands at a place that is no '[' and no '(' -/
theorem node_bead (T : DfR K mg) {f : Addr} {cdv : Value} {A : Around} {outer : List Env} {s0 : Shared} {H : Hp} {E : XK} {k : Nat} {s : Str} {n : Nat} (hr : Room (k + 1) (cxOf (L2.CX P w) P w K mg base NN "node_at" (defScope s_node_at) f cdv A outer s0 H E).A) (hn : n ≤ s.length) (hs : s.length ≤ 2 ^ 20) (h1 : ((csOf s).drop n).head? ≠ some 91) (h2 : ((csOf s).drop n).head? ≠ some 40) :
    ∃ δ', DSs (cxOf (L2.CX P w) P w K mg base NN "node_at" (defScope s_node_at) f cdv A outer s0 H E) [] [.d (.str s), .d (.int n), .un, .un, .un, .un] (defBody s_node_at) (.rt (.d (resD s.length (beadP ((csOf s).drop n)))) δ') := by
  have B := T.B
  have big := szl
  obtain ⟨tl, hlet⟩ := T.lets
  obtain ⟨u, hu⟩ : ∃ u, u = DL.run DL.lets ((csOf s).drop n) := ⟨_, rfl⟩
  have ul : n + u.length ≤ s.length := by
    have := DL.run_le DL.lets ((csOf s).drop n)
    rw [List.length_drop, csOf_len] at this
    rw [hu]; omega
  refine ⟨[.d (.str s), .d (.int n), .un, .un, .un, .d (.str (ofCs u))], dss_cons (ds_ifF (dt_eqS (s := ofCs (((csOf s).drop n).take 1)) (de_sl1 (p := n) (de_v 0) (de_v 1) (de_add (de_v 1) de_int) (by omega) hn hs) de_str (by rw [lit_lb, take1_eq]; exact decide_eq_false h1)) rfl dss_nil)
    (dss_cons (ds_ifF (dt_eqS (s := ofCs (((csOf s).drop n).take 1)) (de_sl1 (p := n) (de_v 0) (de_v 1) (de_add (de_v 1) de_int) (by omega) hn hs) de_str (by rw [lit_lp, take1_eq]; exact decide_eq_false h2)) rfl dss_nil)
    (dss_cons (ds_set (i := 5) (x := .str (ofCs u)) sc_node_at.nd rfl (.inl rfl) (by simp) (de_to (de_call (r := .d (.str (ofCs (DL.run (csOf "abcdefghijklmnopqrstuvwxyz") ((csOf s).drop n))))) (fd_word_at B T.word) (hr.mono (by omega)) rfl (da_cons (de_v 0) (da_cons (de_v 1) (da_cons (de_glS (s := "abcdefghijklmnopqrstuvwxyz") rfl hlet) da_nil))) rfl ⟨s, n, _, hn, hs, rfl, rfl, rfl⟩) (by rw [lets_eq, hu])))
    (dss_one (ds_ret ?_))))⟩
  have hd : ((csOf s).drop n).drop (DL.run DL.lets ((csOf s).drop n)).length = (csOf s).drop (n + u.length) := by rw [hu]; exact drop_run
  unfold beadP
  rw [hd]
  have lenu : ∀ (q1 q2 q3 : Pos), DE (cxOf (L2.CX P w) P w K mg base NN "node_at" (defScope s_node_at) f cdv A outer s0 H E) [.d (.str s), .d (.int n), .un, .un, .un, .d (.str (ofCs u))] (.Call (.Name "len" q1) [.Name "bead" q2] [] q3) (.d (.int (u.length : Nat))) [.d (.str s), .d (.int n), .un, .un, .un, .d (.str (ofCs u))] := fun _ _ _ => de_len (n := u.length) rfl B.len (de_v 5) (by rw [slenD (by rw [ofCs_len]; omega), ofCs_len])
  split
  · rename_i r e
    have lr : s.length - r.length = n + u.length + 1 := by
      have := congrArg List.length e
      rw [List.length_drop, csOf_len, List.length_cons] at this
      omega
    refine de_ifT (dt_eqS (s := ofCs (((csOf s).drop (n + u.length)).take 1)) (de_sl1 (p := n + u.length) (de_v 0) (de_add (de_v 1) (lenu _ _ _)) (de_add (de_add (de_v 1) (lenu _ _ _)) de_int) (by omega) ul hs) de_str (by rw [lit_dot, take1_eq, e]; rfl)) rfl
      (de_to (de_tup (da_cons (de_tup (ds := [.str "bead", .str (ofCs u)]) (da_cons de_str (da_cons (de_v 5) da_nil)) rfl (by show 2 ≤ sizeLine; decide)) (da_cons (de_add (de_add (de_v 1) (lenu _ _ _)) de_int) da_nil)) rfl (by show 2 ≤ sizeLine; decide)) ?_)
    show DV.d (.tup [.tup [.str "bead", .str (ofCs u)], .int ((n : Int) + (u.length : Int) + 1)]) = DV.d (.tup [.tup [.str "bead", .str (ofCs (DL.run DL.lets ((csOf s).drop n)))], .int ((s.length - r.length : Nat) : Int)])
    rw [lr, ← hu]
    rfl
  · rename_i e
    refine de_ifF (dt_eqS (s := ofCs (((csOf s).drop (n + u.length)).take 1)) (de_sl1 (p := n + u.length) (de_v 0) (de_add (de_v 1) (lenu _ _ _)) (de_add (de_add (de_v 1) (lenu _ _ _)) de_int) (by omega) ul hs) de_str (by
      rw [lit_dot, take1_eq]
      refine decide_eq_false fun z => ?_
      cases q : (csOf s).drop (n + u.length) with
      | nil => rw [q] at z; cases z
      | cons a r => rw [q] at z; cases z; exact e r q)) rfl de_non
theorem nodeP_bead {k : Nat} {t : List Nat} (h1 : t.head? ≠ some 91) (h2 : t.head? ≠ some 40) : nodeP k t = some (beadP t) := by
  cases k with
  | zero => rw [nodeP, if_neg]; intro z; rcases z with z | z; exact h1 z; exact h2 z
  | succ k => rw [nodeP, if_neg h1, if_neg h2]
theorem fd_node0 (T : DfR K mg) : FD P w K mg base 2 "node_at" ["text", "at"] (RNat 0) noX :=
  T.node.fd (fun _ _ _ _ _ _ us hl => match us, hl with | [_, _], _ => rfl) fun f fd F => fn_rel0 F sc_node_at (fun _ _ _ ⟨_, _, _, _, _, _, h, _⟩ => by rw [h]; rfl) (fun cdv A outer s0 H E hr args r args' ⟨s, n, o, hn, hs, ho, e1, e2, e3⟩ => by
    subst e1 e2 e3
    rw [nodeP] at ho
    split at ho
    · cases ho
    · rename_i z
      cases ho
      obtain ⟨δ', h⟩ := node_bead T (P := P) (w := w) (base := base) hr hn hs (fun q => z (.inl q)) (fun q => z (.inr q))
      exact ret0 h rfl)
theorem drop_tail {cs : List Nat} {n : Nat} : (cs.drop n).tail = cs.drop (n + 1) := by rw [List.tail_drop]
theorem head_lt {cs : List Nat} {n c : Nat} (h : (cs.drop n).head? = some c) : n < cs.length := by
  by_cases z : n < cs.length
  · exact z
  · rw [List.drop_eq_nil_of_le (by omega)] at h; cases h
theorem againP_no {d : D} {t : List Nat} (h : DL.run DL.figs t = [] ∨ 30 < (DL.run DL.figs t).length ∨ (t.drop (DL.run DL.figs t).length).head? ≠ some 41) : againP (some (some (d, t))) = some none := by
  show (match t.drop (DL.run DL.figs t).length with | 41 :: u => if DL.run DL.figs t = [] ∨ 30 < (DL.run DL.figs t).length then some none else some (some (D.tup [.str "again", d, .int (numF (DL.run DL.figs t))], u)) | _ => some none : PR) = _
  split
  · rename_i u e
    rw [if_pos]
    rcases h with h | h | h
    · exact .inl h
    · exact .inr h
    · rw [e] at h; exact absurd rfl h
  · rfl
theorem againP_yes {d : D} {t r : List Nat} (h1 : DL.run DL.figs t ≠ []) (h2 : (DL.run DL.figs t).length ≤ 30) (h3 : t.drop (DL.run DL.figs t).length = 41 :: r) : againP (some (some (d, t))) = some (some (D.tup [.str "again", d, .int (numF (DL.run DL.figs t))], r)) := by
  show (match t.drop (DL.run DL.figs t).length with | 41 :: u => if DL.run DL.figs t = [] ∨ 30 < (DL.run DL.figs t).length then some none else some (some (D.tup [.str "again", d, .int (numF (DL.run DL.figs t))], u)) | _ => some none : PR) = _
  rw [h3]
  exact if_neg (by intro z; rcases z with z | z; exact h1 z; omega)
theorem fd_nodeS (T : DfR K mg) {k : Nat} (G : FD P w K mg base (2 * k + 3) "group_at" ["text", "at"] (RGat k) noX) (G2 : FD P w K mg base (2 * k + 2) "node_at" ["text", "at"] (RNat k) noX) : FD P w K mg base (2 * k + 4) "node_at" ["text", "at"] (RNat (k + 1)) noX :=
  T.node.fd (fun _ _ _ _ _ _ us hl => match us, hl with | [_, _], _ => rfl) fun f fd F => fn_rel0 F sc_node_at (fun _ _ _ ⟨_, _, _, _, _, _, h, _⟩ => by rw [h]; rfl) (fun cdv A outer s0 H E hr args r args' ⟨s, n, o, hn, hs, ho, e1, e2, e3⟩ => by
    subst e1 e2 e3
    have B := T.B
    have big := szl
    by_cases h1 : ((csOf s).drop n).head? = some 91
    · rw [nodeP, if_pos h1, drop_tail] at ho
      have hn' := head_lt h1
      rw [csOf_len] at hn'
      exact ret0 (dss_stop (ds_ifT (dt_eqS (s := ofCs (((csOf s).drop n).take 1)) (de_sl1 (p := n) (de_v 0) (de_v 1) (de_add (de_v 1) de_int) (by omega) hn hs) de_str (by rw [lit_lb, take1_eq]; exact decide_eq_true h1)) rfl
        (dss_one (ds_ret (de_call (r := .d (resD s.length o)) G hr rfl (da_cons (de_v 0) (da_cons (de_add (de_v 1) de_int) da_nil)) rfl ⟨s, n + 1, o, by omega, hs, ho, rfl, rfl, rfl⟩)))) (fun _ h => nomatch h)) rfl
    · by_cases h2 : ((csOf s).drop n).head? = some 40
      · rw [nodeP, if_neg h1, if_pos h2, drop_tail] at ho
        have hn' := head_lt h2
        rw [csOf_len] at hn'
        obtain ⟨tf, hfig⟩ := T.figs
        obtain ⟨o1, ho1⟩ : ∃ o1, nodeP k ((csOf s).drop (n + 1)) = some o1 := by
          cases q : nodeP k ((csOf s).drop (n + 1)) with
          | none => rw [q] at ho; cases ho
          | some o1 => exact ⟨o1, rfl⟩
        rw [ho1] at ho
        refine' ret0 (δ' := ?d1) (dss_cons (ds_ifF (dt_eqS (s := ofCs (((csOf s).drop n).take 1)) (de_sl1 (p := n) (de_v 0) (de_v 1) (de_add (de_v 1) de_int) (by omega) hn hs) de_str (by rw [lit_lb, take1_eq]; exact decide_eq_false h1)) rfl dss_nil)
          (dss_stop (ds_ifT (dt_eqS (s := ofCs (((csOf s).drop n).take 1)) (de_sl1 (p := n) (de_v 0) (de_v 1) (de_add (de_v 1) de_int) (by omega) hn hs) de_str (by rw [lit_lp, take1_eq]; exact decide_eq_true h2)) rfl
            (dss_cons (ds_set (i := 2) (x := resD s.length o1) sc_node_at.nd rfl (.inl rfl) (by simp) (de_call (r := .d (resD s.length o1)) G2 (hr.mono (by omega)) rfl (da_cons (de_v 0) (da_cons (de_add (de_v 1) de_int) da_nil)) rfl ⟨s, n + 1, o1, by omega, hs, ho1, rfl, rfl, rfl⟩)) ?_)) (fun _ h => nomatch h))) rfl
        case d1 => exact (match o1 with | none => [.d (.str s), .d (.int n), .d .non, .un, .un, .un] | some q => [.d (.str s), .d (.int n), .d (resD s.length (some q)), .d (.str (ofCs (DL.run DL.figs q.2))), .d (.int ((s.length - q.2.length : Nat) + (DL.run DL.figs q.2).length : Nat)), .un])
        cases o1 with
        | none =>
          cases ho
          exact dss_stop (ds_ifT (dt_isN (de_v 2) rfl) rfl (dss_one (ds_ret de_non))) (fun _ h => nomatch h)
        | some q =>
          obtain ⟨d, t⟩ := q
          obtain ⟨v, _, hv⟩ := nodeP_suf k _ _ _ ho1
          have ht : (csOf s).drop (s.length - t.length) = t := by have := drop_suf ⟨v, hv⟩; rwa [csOf_len] at this
          have lt : t.length ≤ s.length := by
            have := congrArg List.length hv
            rw [List.length_drop, csOf_len, List.length_append] at this
            omega
          obtain ⟨u, hu⟩ : ∃ u, u = DL.run DL.figs t := ⟨_, rfl⟩
          have ul : u.length ≤ t.length := by rw [hu]; exact DL.run_le _ _
          have hd : t.drop u.length = (csOf s).drop (s.length - t.length + u.length) := by
            conv => lhs; rw [← ht]
            rw [List.drop_drop]
          show DSs _ [] _ _ (.rt _ [.d (.str s), .d (.int n), .d (resD s.length (some (d, t))), .d (.str (ofCs (DL.run DL.figs t))), .d (.int ((s.length - t.length : Nat) + (DL.run DL.figs t).length : Nat)), .un])
          rw [← hu]
          refine dss_cons (ds_ifF (dt_isN (x := .tup [d, .int ((s.length - t.length : Nat) : Int)]) (de_v 2) rfl) rfl dss_nil)
            (dss_cons (ds_set (i := 3) (x := .str (ofCs u)) sc_node_at.nd rfl (.inl rfl) (by simp) (de_to (de_call (r := .d (.str (ofCs (DL.run (csOf "0123456789") ((csOf s).drop (s.length - t.length)))))) (fd_word_at B T.word) (hr.mono (by omega)) rfl (da_cons (de_v 0) (da_cons (de_ixT (xs := [d, .int ((s.length - t.length : Nat) : Int)]) (z := .int ((s.length - t.length : Nat) : Int)) (de_v 2) de_int atI_1) (da_cons (de_glS (s := "0123456789") rfl hfig) da_nil))) rfl ⟨s, s.length - t.length, _, by omega, hs, rfl, rfl, rfl⟩) (by rw [figs_eq, ht, hu])))
            (dss_cons (ds_set (i := 4) (x := .int ((s.length - t.length + u.length : Nat) : Int)) sc_node_at.nd rfl (.inl rfl) (by simp) (de_to (de_add (de_ixT (xs := [d, .int ((s.length - t.length : Nat) : Int)]) (z := .int ((s.length - t.length : Nat) : Int)) (de_v 2) de_int atI_1) (de_len (n := u.length) rfl B.len (de_v 3) (by rw [slenD (by rw [ofCs_len]; omega), ofCs_len]))) (by rw [show ((s.length - t.length : Nat) : Int) + (u.length : Int) = ((s.length - t.length + u.length : Nat) : Int) from by omega]))) ?_))
          have lenu : ∀ {δ : List DV} {q1 q2 q3 : Pos}, δ[3]? = some (.d (.str (ofCs u))) → DE (cxOf (L2.CX P w) P w K mg base NN "node_at" (defScope s_node_at) f cdv A outer s0 H E) δ (.Call (.Name "len" q1) [.Name "figures" q2] [] q3) (.d (.int (u.length : Nat))) δ := fun h => de_len (n := u.length) rfl B.len (de_v 3 rfl (.inl rfl) h) (by rw [slenD (by rw [ofCs_len]; omega), ofCs_len])
          by_cases c1 : u = []
          · rw [againP_no (.inl (by rw [← hu]; exact c1))] at ho
            cases ho
            exact dss_stop (ds_ifT (dt_w (dw_orT (dt_eqS (s := ofCs u) (de_v 3) de_str (by rw [lit_no_eq]; exact decide_eq_true c1)))) rfl (dss_one (ds_ret de_non))) (fun _ h => nomatch h)
          · by_cases c2 : 30 < u.length
            · rw [againP_no (.inr (.inl (by rw [← hu]; exact c2)))] at ho
              cases ho
              exact dss_stop (ds_ifT (dt_w (dw_orF (dt_eqS (s := ofCs u) (de_v 3) de_str (by rw [lit_no_eq]; exact decide_eq_false c1)) (dw_orT (dt_gt (lenu rfl) de_int (decide_eq_true (by omega)))))) rfl (dss_one (ds_ret de_non))) (fun _ h => nomatch h)
            · have sl : ∀ (q1 q2 q3 q4 q5 q6 q7 : Pos) (j : Nat), DE (cxOf (L2.CX P w) P w K mg base NN "node_at" (defScope s_node_at) f cdv A outer s0 H E) [.d (.str s), .d (.int n), .d (.tup [d, .int ((s.length - t.length : Nat) : Int)]), .d (.str (ofCs u)), .d (.int ((s.length - t.length + u.length : Nat) : Int)), .un] (.Subscript (.Name "text" q1) (.Slice (some (.Name "end" q2)) (some (.BinOp (.Name "end" q3) .Add (.Constant (.int 1) j q4) q5)) none q6) q7) (.d (.str (ofCs ((t.drop u.length).take 1)))) [.d (.str s), .d (.int n), .d (.tup [d, .int ((s.length - t.length : Nat) : Int)]), .d (.str (ofCs u)), .d (.int ((s.length - t.length + u.length : Nat) : Int)), .un] := fun _ _ _ _ _ _ _ _ => de_to (de_sl1 (p := s.length - t.length + u.length) (de_v 0) (de_v 4) (de_add (de_v 4) de_int) (by omega) (by omega) hs) (by rw [hd])
              by_cases c3 : (t.drop u.length).head? = some 41
              · obtain ⟨r, hr'⟩ : ∃ r, t.drop u.length = 41 :: r := by
                  cases q : t.drop u.length with
                  | nil => rw [q] at c3; cases c3
                  | cons a r => rw [q] at c3; cases c3; exact ⟨r, rfl⟩
                rw [againP_yes (r := r) (by rw [← hu]; exact c1) (by rw [← hu]; omega) (by rw [← hu]; exact hr')] at ho
                cases ho
                have lr : t.length = u.length + 1 + r.length := by
                  have := congrArg List.length hr'
                  rw [List.length_drop, List.length_cons] at this
                  omega
                refine dss_cons (ds_ifF (dt_w (dw_orF (dt_eqS (s := ofCs u) (de_v 3) de_str (by rw [lit_no_eq]; exact decide_eq_false c1)) (dw_orF (dt_gt (lenu rfl) de_int (decide_eq_false (by omega))) (dw_or1 (dt_neS (s := ofCs ((t.drop u.length).take 1)) (sl _ _ _ _ _ _ _ _) de_str (by rw [lit_rp, take1_eq, decide_eq_true c3]; rfl)))))) rfl dss_nil)
                  (dss_one (ds_ret (de_to (de_tup (ds := [.tup [.str "again", d, .int ((NumText.digitsVal u : Nat) : Int)], .int (((s.length - t.length + u.length : Nat) : Int) + 1)]) (da_cons (de_tup (ds := [.str "again", d, .int ((NumText.digitsVal u : Nat) : Int)]) (da_cons de_str (da_cons (de_ixT (xs := [d, .int ((s.length - t.length : Nat) : Int)]) (z := d) (de_v 2) de_int atI_0) (da_cons (de_intS rfl B.int (de_v 3) (figs_all (by rw [hu]; exact DL.run_mem _ _)) c1 (by omega)) da_nil))) rfl (by show 3 ≤ sizeLine; decide)) (da_cons (de_add (de_v 4) de_int) da_nil)) rfl (by show 2 ≤ sizeLine; decide)) ?_)))
                show DV.d (.tup [.tup [.str "again", d, .int ((NumText.digitsVal u : Nat) : Int)], .int (((s.length - t.length + u.length : Nat) : Int) + 1)]) = DV.d (.tup [.tup [.str "again", d, .int (numF (DL.run DL.figs t))], .int ((s.length - r.length : Nat) : Int)])
                rw [← hu, show (((s.length - t.length + u.length : Nat) : Int) + 1) = ((s.length - r.length : Nat) : Int) from by omega]
                rfl
              · rw [againP_no (.inr (.inr (by rw [← hu]; exact c3)))] at ho
                cases ho
                exact dss_stop (ds_ifT (dt_w (dw_orF (dt_eqS (s := ofCs u) (de_v 3) de_str (by rw [lit_no_eq]; exact decide_eq_false c1)) (dw_orF (dt_gt (lenu rfl) de_int (decide_eq_false (by omega))) (dw_or1 (dt_neS (s := ofCs ((t.drop u.length).take 1)) (sl _ _ _ _ _ _ _ _) de_str (by rw [lit_rp, take1_eq, decide_eq_false c3]; rfl)))))) rfl (dss_one (ds_ret de_non))) (fun _ h => nomatch h)
      · rw [nodeP_bead h1 h2] at ho
        cases ho
        obtain ⟨δ', h⟩ := node_bead T (P := P) (w := w) (base := base) (k := 2 * k + 2) hr hn hs h1 h2
        exact ret0 h rfl)
theorem fd_nodeAt (T : DfR K mg) : ∀ k, FD P w K mg base (2 * k + 2) "node_at" ["text", "at"] (RNat k) noX
  | 0 => fd_node0 T
  | k + 1 => fd_nodeS T (fd_group_at T (fd_nodeAt T k)) (fd_nodeAt T k)
end W76
end
section
set_option Elab.async false
set_option linter.all false
set_option maxRecDepth 100000
set_option maxHeartbeats 2000000
namespace DL
open PySem PySem.Spec PyProof.Rows L2
variable [TL]
theorem val_from : ∀ (f : List Nat) (a : Nat), (∀ c ∈ f, c ∈ figs) → f.foldl (fun acc c => acc * 10 + (c - 48)) a < (a + 1) * 10 ^ f.length
  | [], a, _ => by simp
  | c :: f, a, h => by
    have hc := h c List.mem_cons_self
    have hc : c - 48 ≤ 9 := by simp [figs] at hc; omega
    have := val_from f (a * 10 + (c - 48)) fun x hx => h x (List.mem_cons_of_mem _ hx)
    rw [List.foldl_cons, List.length_cons, Nat.pow_succ]
    refine Nat.lt_of_lt_of_le this ?_
    have e : (a + 1) * (10 ^ f.length * 10) = ((a + 1) * 10) * 10 ^ f.length := by rw [Nat.mul_comm (10 ^ f.length) 10, ← Nat.mul_assoc]
    rw [e]
    exact Nat.mul_le_mul_right _ (by omega)
theorem val_lt {f : List Nat} (h : ∀ c ∈ f, c ∈ figs) : NumText.digitsVal f < 10 ^ f.length := by
  have := val_from f 0 h
  simpa [NumText.digitsVal] using this
theorem wtI_le {f : List Nat} (h : ∀ c ∈ f, c ∈ figs) : wtI (numF f) ≤ 4 * f.length + 1 := by
  have l := val_lt h
  unfold wtI numF
  split
  · omega
  · rename_i z
    have z : NumText.digitsVal f ≠ 0 := by intro e; rw [e] at z; exact z rfl
    have l2 : NumText.digitsVal f < 2 ^ (4 * f.length) := by
      rw [Nat.pow_mul]
      exact Nat.lt_of_lt_of_le l (Nat.pow_le_pow_left (by decide) _)
    rw [Int.natAbs_natCast]
    have := (Nat.log2_lt z).mpr l2
    omega
/-- of what is read: what stands in it -/
structure RdOk (k c : Nat) (d : D) : Prop where
  ok : d.ok = true
  dep : d.dep ≤ k
  sm : d.sm = true
  wt : d.wt + 1 ≤ 8 * c
structure RdOkA (k c : Nat) (ds : List D) : Prop where
  ok : D.okA ds = true
  dep : D.depA ds ≤ k
  sm : D.smA ds = true
  wt : D.wtA ds ≤ 8 * c
theorem RdOkA.snoc {k c c2 : Nat} {ds : List D} {d : D} (h : RdOkA k c ds) (g : RdOk k c2 d) : RdOkA k (c + c2) (ds ++ [d]) := by
  refine ⟨by rw [D.okA_append, h.ok]; simp [D.okA, g.ok], by rw [D.depA_append]; have := h.dep; have := g.dep; simp only [D.depA]; omega, by rw [D.smA_append, h.sm]; simp [D.smA, g.sm], by rw [D.wtA_append]; have := h.wt; have := g.wt; simp only [D.wtA]; omega⟩
theorem lets_ok {f : List Nat} (h : ∀ c ∈ f, c ∈ lets) : PyData.strOk (ofCs f) = true := by
  unfold PyData.strOk ofCs
  rw [Array.all_eq_true']
  intro c hc
  have := h c (by simpa using hc)
  simp [lets] at this
  simp; omega
theorem bead_ok {s : List Nat} {d : D} {t : List Nat} {k : Nat} (h : beadP s = some (d, t)) : RdOk (k + 1) (s.length - t.length) d := by
  obtain ⟨e, rfl⟩ := beadP_suf h
  have l := congrArg List.length e
  rw [List.length_append, List.length_cons] at l
  have eb : (Str.ofString "bead").length = 4 := by decide +kernel
  have ok1 : PyData.strOk (Str.ofString "bead") = true := by decide +kernel
  refine ⟨by simp [D.ok, D.okA, ok1, lets_ok (run_mem lets s)], by simp [D.dep, D.depA], by simp [D.sm, D.smA], ?_⟩
  simp only [D.wt, D.wtA, eb, ofCs_len]
  omega
def RdF (k : Nat) (f : List Nat → PR) : Prop := ∀ s d t, f s = some (some (d, t)) → RdOk k (s.length - t.length) d
theorem gst_ok {k : Nat} {f : List Nat → PR} (hf : Suf f) (hk : RdF k f) (s : List Nat) : ∀ j, RdOkA k (s.length - (gst f s j).1.length) (gst f s j).2
  | 0 => ⟨rfl, by simp [gst, D.depA], rfl, by simp [gst, D.wtA]⟩
  | j + 1 => by
    have ih := gst_ok hf hk s j
    obtain ⟨⟨u, h1⟩, _⟩ := gst_suf hf s j
    have l1 := congrArg List.length h1
    rw [List.length_append] at l1
    rw [gst]
    split
    · rename_i d r e
      obtain ⟨v, hv, e2⟩ := hf _ _ _ e
      have l2 := congrArg List.length e2
      rw [List.length_append] at l2
      have := ih.snoc (hk _ _ _ e)
      have q : s.length - (gst f s j).1.length + ((gst f s j).1.length - r.length) = s.length - r.length := by omega
      rwa [q] at this
    · exact ih
theorem groupP_ok {k : Nat} {f : List Nat → PR} (hf : Suf f) (hk : RdF k f) {s : List Nat} {d : D} {t : List Nat} (h : groupP f s = some (some (d, t))) : RdOk (k + 1) (s.length + 1 - t.length) d := by
  unfold groupP at h
  have ih := gst_ok hf hk s (stopAt f s (s.length + 1) 0)
  obtain ⟨⟨u, h1⟩, _⟩ := gst_suf hf s (stopAt f s (s.length + 1) 0)
  rcases gEnd_cases h with ⟨_, e⟩ | ⟨r, e1, e2⟩ | ⟨_, _, _, e⟩
  · cases e
  · cases e2
    rw [e1] at ih h1
    have l1 := congrArg List.length h1
    rw [List.length_append, List.length_cons] at l1
    have eb : (Str.ofString "group").length = 5 := by decide +kernel
    have ok1 : PyData.strOk (Str.ofString "group") = true := by decide +kernel
    refine ⟨by simp [D.ok, D.okA, ok1, ih.ok], by have := ih.dep; simp only [D.dep, D.depA]; omega, by simp [D.sm, D.smA, ih.sm], ?_⟩
    have := ih.wt
    simp only [List.length_cons] at this
    simp only [D.wt, D.wtA, eb]
    omega
  · cases e
theorem nodeP_ok : ∀ k, RdF (k + 1) (nodeP k)
  | 0, s, d, t, h => by
    rw [nodeP] at h
    split at h
    · cases h
    · exact bead_ok (Option.some.inj h)
  | k + 1, s, d, t, h => by
    rw [nodeP] at h
    split at h
    · rename_i z
      have := groupP_ok (nodeP_suf k) (nodeP_ok k) h
      cases s with
      | nil => cases z
      | cons a r => exact this
    · split at h
      · rename_i z
        obtain ⟨d', t', e1, e2, e3, e4, rfl⟩ := againP_some h
        have ih := nodeP_ok k _ _ _ e1
        obtain ⟨u, _, e⟩ := nodeP_suf k _ _ _ e1
        cases s with
        | nil => cases z
        | cons a r =>
          have e : r = u ++ t' := e
          have l1 := congrArg List.length e
          have l2 := congrArg List.length e2
          rw [List.length_append] at l1 l2
          rw [List.length_cons] at l2
          have eb : (Str.ofString "again").length = 5 := by decide +kernel
          have ok1 : PyData.strOk (Str.ofString "again") = true := by decide +kernel
          have vl := val_lt (run_mem figs t')
          have wl := wtI_le (run_mem figs t')
          have f1 : 1 ≤ (run figs t').length := by cases q : run figs t' with | nil => exact absurd q e3 | cons _ _ => simp
          refine ⟨by simp [D.ok, D.okA, ok1, ih.ok], by have := ih.dep; simp only [D.dep, D.depA]; omega, ?_, ?_⟩
          · have : (numF (run figs t')).natAbs < 10 ^ 50 := by
              unfold numF
              rw [Int.natAbs_natCast]
              exact Nat.lt_of_lt_of_le vl (Nat.pow_le_pow_right (by decide) (by omega))
            simp only [D.sm, D.smA, ih.sm, decide_eq_true this, Bool.true_and, Bool.and_true]
          · have := ih.wt
            have this : d'.wt + 1 ≤ 8 * (r.length - t'.length) := this
            show _ ≤ 8 * ((a :: r).length - t.length)
            rw [List.length_cons]
            simp only [D.wt, D.wtA, eb]
            have wi : (if (numF (run figs t') == 0) = true then 0 else (numF (run figs t')).natAbs.log2 + 1) = wtI (numF (run figs t')) := rfl
            omega
      · exact bead_ok (Option.some.inj h)
theorem read_gd {k : Nat} {s : List Nat} {d : D} {t : List Nat} (h : nodeP k s = some (some (d, t))) (hl : s.length ≤ 2 ^ 15) : Gd (k + 1) d := by
  have := nodeP_ok k _ _ _ h
  exact ⟨this.ok, this.dep, by have := this.wt; omega, this.sm⟩
def readP (s : List Nat) : Option D := match nodeP 12 s with
  | some (some (d, [])) => if nodeN 13 d = true ∧ codeL 13 d = s then some d else none
  | _ => none
end DL
end
section
set_option Elab.async false
set_option linter.all false
set_option maxRecDepth 100000
set_option maxHeartbeats 4000000
namespace W76
open PySem PySem.Spec PyProof.Rows L2 DL Hd
variable [TL]
variable {P : Program} {w : World} {K : PySem.W.Frag} {mg : Str → Option Value} {base : Heap}
abbrev NR : List Str := ["text", "found"]
theorem sc_read : FnScope NR ["text"] (defScope s_read_node) := ⟨rfl, rfl, rfl, by decide +kernel, rfl, by decide +kernel, by decide +kernel⟩
/-- a text that may be read -/
def TxOk (s : Str) : Prop := s.length ≤ 2 ^ 15 ∧ PyData.strOk s = true ∧ ∃ o, nodeP 12 (csOf s) = some o
def RRd : RelD := fun args r args' => ∃ (s : Str) (d : D), TxOk s ∧ readP (csOf s) = some d ∧ args = [.d (.str s)] ∧ r = .d d ∧ args' = args
def OddT (d : D) : Prop := d.plain = true ∧ (d.isi "str" = false ∨ ∃ s, d = .str s ∧ TxOk s ∧ readP (csOf s) = none)
def RRdX (C : Addr) : RelX := fun args C' d => OddT d ∧ args = [.d d] ∧ C' = C
theorem readP_some {s : List Nat} {d : D} (h : readP s = some d) : nodeP 12 s = some (some (d, [])) ∧ nodeN 13 d = true ∧ codeL 13 d = s := by
  unfold readP at h
  split at h
  · rename_i d' e
    split at h
    · rename_i z
      cases h
      exact ⟨e, z⟩
    · cases h
  · cases h
theorem dt_isNF {X : Cx} {δ δ1 : List DV} {a : Expr} {x : D} {j : Nat} {p2 pos : Pos} (ha : DE X δ a (.d x) δ1) (hk : x.isNon = false) : DT X δ (.Compare a [.Is] [.Constant .none j p2] pos) false δ1 := dt_isN ha hk
theorem ok_read {C f : Addr} {fd : FuncData} (T : DfN K mg) (TR : DfR K mg) (D1 : Df K mg "code_in" s_code_in) (Er : Err P K mg "InvalidPaper" C) (F : FunD K "read_node" "read_node" (defArgs s_read_node) (defBody s_read_node) (defScope s_read_node) [] [] f fd) : FnOk P w K mg base (L2.CX P w) 33 f fd ["text"] (spD RRd (RRdX C)) := by
  have B := T.B
  have big := szl
  refine fn_rel F sc_read (fun _ _ _ ⟨_, _, _, _, h, _⟩ => by rw [h]; rfl) (fun _ _ _ ⟨_, h, _⟩ => by rw [h]; exact ⟨rfl, rfl⟩) (fun cdv A outer s0 H E hr args r args' ⟨s, d, ⟨hs, hso, o, ho⟩, hd, e1, e2, e3⟩ => ?_) (fun cdv A outer s0 H E hr args C' x ⟨⟨hp, hx⟩, e1, e2⟩ => ?_)
  · subst e1 e2 e3
    obtain ⟨h1, h2, h3⟩ := readP_some hd
    have gd := read_gd h1 (by rw [csOf_len]; exact hs)
    refine ret0 (dss_cons (ds_ifF (dt_notT (dt_bl (de_isi' "str" rfl B.isi (de_v 0) (by rfl) rfl B.str boot_str (by decide) rfl))) rfl dss_nil)
      (dss_cons (ds_set (i := 1) (x := .tup [d, .int ((s.length : Nat) : Int)]) sc_read.nd rfl (.inl rfl) (by simp) (de_call (r := .d (resD s.length (some (d, [])))) (fd_nodeAt TR 12) (hr.mono (by decide)) rfl (da_cons (de_v 0) (da_cons de_int da_nil)) rfl ⟨s, 0, some (d, []), by omega, by omega, h1, rfl, rfl, rfl⟩))
      (dss_cons (ds_ifF (dt_w (dw_orF (dt_isN (de_v 1) rfl) (dw_orF (dt_ne hr sh_int sh_int (de_ixT (xs := [d, .int ((s.length : Nat) : Int)]) (de_v 1) de_int atI_1) (de_len (n := s.length) rfl B.len (de_v 0) (slenD (by omega))) (by simp [D.eqv, D.py, PyData.eqv])) (dw_orF (dt_notT (dt_bl (de_v' (de_call (r := .d (.bl (nodeN 13 d))) (fd_nodeN T 13 (by decide)) hr rfl (da_cons (de_ixT (xs := [d, .int ((s.length : Nat) : Int)]) (z := d) (de_v 1) de_int atI_0) da_nil) rfl (R1.of (d := d) gd)) h2)))
        (dw_or1 (dt_neS (s := ofCs (codeL 13 d)) (t := s) (de_call (r := .d (codeN 13 d)) (fd_code B D1 13 (by decide)) (hr.mono (by decide)) rfl (da_cons (de_ixT (xs := [d, .int ((s.length : Nat) : Int)]) (z := d) (de_v 1) de_int atI_0) da_nil) rfl (R1.of (d := d) ⟨gd, h2⟩)) (de_v 0) (by rw [h3, ofCs_csOf]; simp))))))) rfl dss_nil)
      (dss_one (ds_ret (de_ixT (xs := [d, .int ((s.length : Nat) : Int)]) (z := d) (de_v 1) de_int atI_0)))))) rfl
  · subst e1 e2
    rcases hx with hx | ⟨s, rfl, ⟨hs, hso, o, ho⟩, hd⟩
    · exact dss_stop (ds_ifT (dt_notF (dt_bl (de_isi' "str" rfl B.isi (de_v 0) hp rfl B.str boot_str (by decide) hx))) rfl (dss_one (ds_raise Er rfl (hr.mono (by decide)) rfl (de_v 0)))) (fun _ h => nomatch h)
    · refine dss_cons (ds_ifF (dt_notT (dt_bl (de_isi' "str" rfl B.isi (de_v 0) hp rfl B.str boot_str (by decide) rfl))) rfl dss_nil)
        (dss_cons (ds_set (i := 1) (x := resD s.length o) sc_read.nd rfl (.inl rfl) (by simp) (de_call (r := .d (resD s.length o)) (fd_nodeAt TR 12) (hr.mono (by decide)) rfl (da_cons (de_v 0) (da_cons de_int da_nil)) rfl ⟨s, 0, o, by omega, by omega, ho, rfl, rfl, rfl⟩)) ?_)
      have hraise : ∀ {δ : List DV} {p1 p2 p3 p4 : Pos}, True := fun {δ p1 p2 p3 p4} => trivial
      cases o with
      | none => exact dss_stop (ds_ifT (dt_w (dw_orT (dt_isN (x := .non) (de_v 1) rfl))) rfl (dss_one (ds_raise Er rfl (hr.mono (by decide)) rfl (de_v 0)))) (fun _ h => nomatch h)
      | some q =>
        obtain ⟨d, t⟩ := q
        have gd := read_gd ho (by rw [csOf_len]; exact hs)
        by_cases ht : t = []
        · subst ht
          unfold readP at hd
          rw [ho] at hd
          have hd : (if nodeN 13 d = true ∧ codeL 13 d = csOf s then some d else none) = none := hd
          have hd : ¬ (nodeN 13 d = true ∧ codeL 13 d = csOf s) := fun z => by rw [if_pos z] at hd; cases hd
          cases h2 : nodeN 13 d with
          | false =>
            exact dss_stop (ds_ifT (dt_w (dw_orF (dt_isN (x := .tup [d, .int ((s.length : Nat) : Int)]) (de_v 1) rfl) (dw_orF (dt_ne hr sh_int sh_int (de_ixT (xs := [d, .int ((s.length : Nat) : Int)]) (de_v 1) de_int atI_1) (de_len (n := s.length) rfl B.len (de_v 0) (slenD (by omega))) (by simp [D.eqv, D.py, PyData.eqv])) (dw_orT (dt_notF (dt_bl (de_v' (de_call (r := .d (.bl (nodeN 13 d))) (fd_nodeN T 13 (by decide)) hr rfl (da_cons (de_ixT (xs := [d, .int ((s.length : Nat) : Int)]) (z := d) (de_v 1) de_int atI_0) da_nil) rfl (R1.of (d := d) gd)) h2))))))) rfl (dss_one (ds_raise Er rfl (hr.mono (by decide)) rfl (de_v 0)))) (fun _ h => nomatch h)
          | true =>
            have hc : codeL 13 d ≠ csOf s := fun z => hd ⟨h2, z⟩
            have hc : ofCs (codeL 13 d) ≠ s := fun z => hc (by rw [← z, csOf_ofCs])
            exact dss_stop (ds_ifT (dt_w (dw_orF (dt_isN (x := .tup [d, .int ((s.length : Nat) : Int)]) (de_v 1) rfl) (dw_orF (dt_ne hr sh_int sh_int (de_ixT (xs := [d, .int ((s.length : Nat) : Int)]) (de_v 1) de_int atI_1) (de_len (n := s.length) rfl B.len (de_v 0) (slenD (by omega))) (by simp [D.eqv, D.py, PyData.eqv])) (dw_orF (dt_notT (dt_bl (de_v' (de_call (r := .d (.bl (nodeN 13 d))) (fd_nodeN T 13 (by decide)) hr rfl (da_cons (de_ixT (xs := [d, .int ((s.length : Nat) : Int)]) (z := d) (de_v 1) de_int atI_0) da_nil) rfl (R1.of (d := d) gd)) h2)))
              (dw_or1 (dt_neS (s := ofCs (codeL 13 d)) (t := s) (de_call (r := .d (codeN 13 d)) (fd_code B D1 13 (by decide)) (hr.mono (by decide)) rfl (da_cons (de_ixT (xs := [d, .int ((s.length : Nat) : Int)]) (z := d) (de_v 1) de_int atI_0) da_nil) rfl (R1.of (d := d) ⟨gd, h2⟩)) (de_v 0) (by rw [decide_eq_false hc]; rfl))))))) rfl (dss_one (ds_raise Er rfl (hr.mono (by decide)) rfl (de_v 0)))) (fun _ h => nomatch h)
        · obtain ⟨u, hu, e⟩ := nodeP_suf 12 _ _ _ ho
          have lt : t.length ≤ s.length := by
            have := congrArg List.length e
            rw [csOf_len, List.length_append] at this
            omega
          have t1 : 1 ≤ t.length := by cases t with | nil => exact absurd rfl ht | cons _ _ => simp
          exact dss_stop (ds_ifT (dt_w (dw_orF (dt_isN (x := .tup [d, .int ((s.length - t.length : Nat) : Int)]) (de_v 1) rfl) (dw_orT (dt_ne hr sh_int sh_int (de_ixT (xs := [d, .int ((s.length - t.length : Nat) : Int)]) (de_v 1) de_int atI_1) (de_len (n := s.length) rfl B.len (de_v 0) (slenD (by omega))) (by simp [D.eqv, D.py, PyData.eqv]; omega))))) rfl (dss_one (ds_raise Er rfl (hr.mono (by decide)) rfl (de_v 0)))) (fun _ h => nomatch h)
theorem fd_read {C : Addr} (T : DfN K mg) (TR : DfR K mg) (D1 : Df K mg "code_in" s_code_in) (D2 : Df K mg "read_node" s_read_node) (Er : Err P K mg "InvalidPaper" C) : FD P w K mg base 33 "read_node" ["text"] RRd (RRdX C) :=
  D2.fd (fun _ _ _ _ _ _ us hl => match us, hl with | [_], _ => rfl) fun f fd F => ok_read T TR D1 Er F
theorem fdk_read {C : Addr} (T : DfN K mg) (TR : DfR K mg) (D1 : Df K mg "code_in" s_code_in) (D2 : Df K mg "read_node" s_read_node) (Er : Err P K mg "InvalidPaper" C) : FDk P w K mg base 33 "read_node" "text" RRd (RRdX C) := by
  obtain ⟨f, fd, F, hm⟩ := D2.ex
  refine ⟨f, fd, ok_read T TR D1 Er F, hm, F.kp, fun w => ?_⟩
  obtain ⟨oc, od, dV, kV, doc, pm, an, cdv, ct, osl, rfl, lk, hcd, hD, hK⟩ := F.ex
  rcases hD with ⟨_, rfl⟩ | ⟨e, _⟩
  · rfl
  · exact absurd rfl e
end W76
end
section
set_option Elab.async false
set_option linter.all false
set_option maxRecDepth 100000
set_option maxHeartbeats 2000000
/-! DLr: try, told by an expression; a def called at known guards. -/
namespace DL
open PySem PySem.Spec PyProof.Rows L2
variable [TL]
section
variable {X : Cx} {δ δ1 : List DV} {e : Expr} {x n m : Str} {C CS : Addr} {d : D} {pn : List Nat} {i j : Nat} {body : List Stmt} {np pos pos' p1 p2 p3 : Pos} {F H : Hp} {σ : L2.St}
theorem aft_un (R : Rs F H σ δ) (h : δ[i]? = some .un) (hp : i ∉ pn) (v : Option V) : Aft pn σ δ F H (σ.set i v) δ F H := ⟨by rw [own_un h]; exact .refl _ F H, R.set_un h, fun k hk => by rw [List.getElem?_set_ne (by rintro rfl; exact hp hk)]⟩
/-- an error that a body lets out, its frame as before -/
def tSX (X : Cx) (δ : List DV) (C : Addr) (d : D) : TS := fun _ σ H => tDX X δ C d σ H fun _ _ => False
theorem pss_setX {k : Nat} {y : Str} {q1 q2 : Pos} (hN : X.N.Nodup) (hk : X.N[k]? = some y) (hx : Loc X.env.scope y) (h : DX X δ e C d) (hs : swapsWith e (some (.Name y q1)) q2.line X.env = pure false := by rfl) (hf : X.fn y = true ∨ X.env.scope.names.lookup y = some .local := by first | exact .inl rfl | exact .inr rfl | assumption) :
    PSs X [.Assign [.Name y q1] e q2] (tSX X δ C d) := (pss_one (ps_set (i := k) hN hk hx h hs hf)).imp fun D σ H h => h
theorem pss_exprX {q2 : Pos} (h : DX X δ e C d) (hs : swapsWith e none q2.line X.env = pure false := by rfl) : PSs X [.Expr e q2] (tSX X δ C d) := (pss_one (ps_expr h hs)).imp fun D σ H h => h
/-- try: body / except x as n: m = n, the body lets an error out -/
theorem ds_tryX (hs : X.stack = X.env :: X.outer) (hex : X.ex = []) (hf : X.env.frame = some X.env.locals) (hN : X.N.Nodup) (hi : X.N[i]? = some n) (hln : X.env.kindOf n = some .local) (hj : X.N[j]? = some m) (hlm : X.env.kindOf m = some .local) (hij : i ≠ j) (hc : Names X x (.ref CS))
    (hk : PySem.W.exmOne X.K (.ref C) (.ref CS) = some true) (hu : δ[i]? = some .un) (hpi : i ∉ pn) (hpj : j ∉ pn)
    (hb : ∀ (pn' : List (Addr × Obj)) (xe : Value → Shared → Prop), PSs (X.tr pn' xe) body (tSX (X.tr pn' xe) δ C d))
    (hd : (n == ("__debug__" : Str)) = false := by decide) (hcd : (n == ("__classdict__" : Str)) = false := by decide) (hsw : swapsWith (.Name n p2) (some (.Name m p1)) p3.line X.env = pure false := by rfl) (hil : ∀ σ : L2.St, σ.length = X.N.length → i < σ.length := by intro σ h; rw [h]; decide) :
    DS X pn δ (.Try body [.ExceptHandler (some (.Name x np)) (some n) [.Assign [.Name m p1] (.Name n p2) p3] pos'] [] [] pos) (.nx (δ.set j (.d (.exc C d)))) :=
  (ps_try_held (i := i) (j := j) (c := .ref CS) (Wout := fun _ _ _ _ => False) (tb := fun W _ σ H => ∃ F, Rs F H σ δ ∧ ∀ dx v F' H', Go (Own σ δ) (Own σ δ) F H F' H' → Rs F' H' σ δ → XdAt F' dx [("value", v)] → Rp F' v d → W (.ref C) (some dx) σ H')
    hs hex hf hN hi hln hj hlm hc LamX.takes0 (fun W pn' xe tk _ => (hb pn' xe).imp fun D σ H ⟨F, R, k⟩ => ⟨F, R, fun dx v F' H' g R' hxd hv => Wx.of tk (k dx v F' H' g R' hxd hv)⟩) hd hcd hsw hil).imp fun D σ H ⟨F, R, k⟩ => ⟨F, R, fun dx v F' H' g R' hxd hv => ⟨true, hk, fun _ => ⟨C, dx, rfl, rfl, fun a ha hl => by
    have hF : F' a = none := R'.sub.none ha
    have A0 : Aft pn σ δ F H σ δ (upd F' a (exV a C dx)) (upd H' a (exV a C dx)) := aft_of (g.trans (Go.new_ ha hF)) (R'.new ha (fun _ z => by unfold exV at z; cases z))
    have A1 := aft_un (pn := pn) A0.rs hu hpi (some (.ref a))
    have A2 := Aft.set_ (pn := pn) (i := j) (x := .d (.exc C d)) (v := some (.ref a)) A1.rs (fun _ h => nomatch h) ⟨.ref a, rfl, .exc upd_same (hxd.ex (.new hF)) (hv.ex (.new hF))⟩ hpj
    have A3 := aft_un (pn := pn) (i := i) A2.rs (by rw [List.getElem?_set_ne (Ne.symm hij)]; exact hu) hpi none
    exact k _ _ _ (((A0.trans A1).trans A2).trans A3)⟩, fun z => nomatch z⟩⟩
/-- try: body / except ..: the body comes through -/
theorem ds_tryN (hs : X.stack = X.env :: X.outer) (hex : X.ex = []) (hf : X.env.frame = some X.env.locals) (hN : X.N.Nodup) (hi : X.N[i]? = some n) (hln : X.env.kindOf n = some .local) (hj : X.N[j]? = some m) (hlm : X.env.kindOf m = some .local) (hc : Names X x (.ref CS))
    (hb : ∀ (pn' : List (Addr × Obj)) (xe : Value → Shared → Prop), PassesOwn (model X.prog X.w) X.A X.env xe → DSs (X.tr pn' xe) pn δ body (.nx δ1))
    (hd : (n == ("__debug__" : Str)) = false := by decide) (hcd : (n == ("__classdict__" : Str)) = false := by decide) (hsw : swapsWith (.Name n p2) (some (.Name m p1)) p3.line X.env = pure false := by rfl) (hil : ∀ σ : L2.St, σ.length = X.N.length → i < σ.length := by intro σ h; rw [h]; decide) :
    DS X pn δ (.Try body [.ExceptHandler (some (.Name x np)) (some n) [.Assign [.Name m p1] (.Name n p2) p3] pos'] [] [] pos) (.nx δ1) :=
  (ps_try_held (i := i) (j := j) (c := .ref CS) (Wout := fun _ _ _ _ => False) (tb := fun _ => tS X pn δ (.nx δ1)) hs hex hf hN hi hln hj hlm hc LamX.takes0 (fun W pn' xe tk po => (hb pn' xe po).imp fun D σ H h => h) hd hcd hsw hil).imp fun D σ H h => h
end
/-! ### a def at known guards -/
structure FnAt (P : Program) (w : World) (K : PySem.W.Frag) (mg : Str → Option Value) (base : Heap) (CX : CXT) (A : Around) (f : Addr) (fd : FuncData) (ps : List Str) (sp : Sp) : Prop where
  len : ∀ vs H Q E, sp vs H Q E → vs.length = ps.length
  run : ∀ (outer : List Env) (s : Shared) (H : Hp) (args : Args) (us : List Value) (vs : List V) (Q : VK) (E : XK), Env0 P w K mg base A outer s H → BindsTo s fd args (ps.zip us) → Vals vs us → sp vs H Q E →
    codeAny (model P w) A (.call (.ref f) args) (CR CX outer P w H s Q E) s
section
variable {P : Program} {w : World} {K : PySem.W.Frag} {mg : Str → Option Value} {base : Heap} {k : Nat} {f : Addr} {x qual : Str} {params : Arguments} {body : List Stmt} {scope : Scope} {dvs : List V} {kws : List (Str × V)} {fd : FuncData} {N ps : List Str} {R : RelD} {A : Around}
theorem fn_relA (F : FunD K x qual params body scope dvs kws f fd) (S : FnScope N ps scope) (hr : Room (k + 1) A) (hl : ∀ args r args', R args r args' → args.length = ps.length)
    (hb : ∀ (cdv : Value) (outer : List Env) (s : Shared) (H : Hp) (E : XK), Room k (A.deeper (envOfC qual scope s.heap.objs.size f cdv)) → ∀ args r args', R args r args' →
      ∃ pn δ' o, DSs (cxOf (L2.CX P w) P w K mg base N qual scope f cdv A outer s H E) pn (ent args (N.length - ps.length)) body o ∧ Out.ret r δ' o ∧ Wb pn args args' δ') :
    FnAt P w K mg base (L2.CX P w) A f fd ps (spD R noX) := by
  have len : ∀ vs H Q E, spD R noX vs H Q E → vs.length = ps.length := fun vs H Q E h => by
    rcases h with ⟨args, r, args', hR, F, r1, _⟩ | ⟨args, C, d, hR, _⟩
    · rw [← hl _ _ _ hR]; simpa using r1.len
    · exact hR.elim
  refine ⟨len, fun outer s H args us vs Q E e0 hbt r h => ?_⟩
  have hlen := len _ _ _ _ h
  refine fn_at F S hr e0 hbt r hlen fun cdv hcd hfd hr' => ?_
  rcases h with ⟨args, r, args', hR, F, r1, kk⟩ | ⟨args, C, d, hR, _⟩
  · obtain ⟨pn, δ', o, ds, ho, W⟩ := hb cdv outer s H E hr' args r args' hR
    have en : N.length - vs.length = N.length - ps.length := by rw [hlen]
    have hl' : vs.length = args.length := by simpa using r1.len
    refine ⟨_, ds, F, r1.enter en, ?_⟩
    rcases ho with rfl | ⟨rfl, rfl⟩
    · intro v σ' F' H' A' r'
      obtain ⟨g, R', oo⟩ := leave_ r1 en A' W
      refine kk v F' H' g R' ?_
      cases r with
      | un => trivial
      | d x => exact r'
      | raw v => exact r'
      | pr P => exact r'
      | ow xs =>
        obtain ⟨p, us, e, h1, h2, h3, h4, h5⟩ := r'
        exact ⟨p, us, e, h1, h2, h3, fun z => h4 (oo p z), h5.imp id fun z => own_enter z hl'⟩
    · intro σ' F' H' A'
      obtain ⟨g, R', oo⟩ := leave_ r1 en A' W
      exact kk .non F' H' g R' .non
  · exact hR.elim
end
/-- a def as it is called where the guards are none -/
structure FDg (P : Program) (w : World) (K : PySem.W.Frag) (mg : Str → Option Value) (base : Heap) (k : Nat) (x : Str) (ps : List Str) (R : RelD) : Prop where
  ex : ∃ f fd, (∀ A : Around, A.guards = some [] → Room k A → FnAt P w K mg base (L2.CX P w) A f fd ps (spD R noX)) ∧ mg x = some (.ref f) ∧ PySem.W.keepIn K (.ref f) = true ∧ L2.Binds K fd ps []
section
variable {X : Cx} {δ δ1 : List DV} {e : Expr} {es : List Expr} {as : List AV} {x : Str} {p1 pos : Pos} {k : Nat} {ps : List Str} {R : RelD} {r : DV}
theorem de_callG (G : FDg X.prog X.w X.K X.mg X.base k x ps R) (hG : X.A.guards = some []) (hr : Room k X.A) (hg : Gl X x) (ha : DA X δ (e :: es) as δ1) (hn : AV.noSl as = true) (hR : R (as.map (AV.dv δ1)) r (as.map (AV.dv δ1)))
    (hdb : (x == ("__debug__" : Str)) = false := by decide) (he : starEach (e :: es) X.env = (false, eval e X.env) :: starEach es X.env := by rfl) (hpl : (backTo pos (starEach es X.env)).any (·.1) = false := by rfl) : DE X δ (.Call (.Name x p1) (e :: es) [] pos) r δ1 := by
  obtain ⟨f, fd, h1, h2, h3, h4⟩ := G.ex
  have FA := h1 X.A hG hr
  have core : PE X (.Call (.Name x p1) (e :: es) [] pos) (fun σ H Q => tDA δ as δ1 σ H fun vs H1 => spD R noX vs H1 Q E0) := by
    refine ⟨fun pins s σ H Q I h => ?_⟩
    refine wpAny_Call_Name_kw (ld_glob I hg h2 ?_ hdb)
    refine PySem.W.callWith_K (h₀ := X.base) I.ok.mod.kin h3 (thn (ha.run pos pins s σ H _ I h) fun us s1 ⟨vs, H1, I1, r, q⟩ => ⟨I1.kIn, ?_⟩) he hpl
    have hl : us.length = ps.length := by rw [← r.length]; exact FA.len _ _ _ _ q
    have b := h4 s1 us I1.kIn (by rw [List.append_nil]; exact hl)
    rw [List.append_nil] at b
    refine wpAny_call (codeAny_mono (FA.run X.stack s1 H1 ⟨us, []⟩ us vs Q E0 I1.env0 b r q) fun r s' hq => ?_)
    cases r with
    | error e => exact passL (X := X) _ _ _ _ _ _ I1 hq
    | ok fl =>
      cases fl with
      | ret u => exact I1.after hq
      | next => exact False.elim hq
      | brk => exact False.elim hq
      | cont => exact False.elim hq
  refine core.imp fun σ H Q ⟨F, Rf, k⟩ => ⟨F, Rf, fun vs F1 H1 g1 R1 ra => ?_⟩
  exact call_fin R1 ra hn hR fun v F2 H2 g2 R2 q => k v F2 H2 (g1.trans g2) R2 (Res.back g1 q)
end
end DL
end
section
set_option Elab.async false
set_option linter.all false
set_option maxRecDepth 100000
set_option maxHeartbeats 4000000
namespace W76
open PySem PySem.Spec PyProof.Rows L2 DL Hd
variable [TL]
variable {P : Program} {w : World} {K : PySem.W.Frag} {mg : Str → Option Value} {base : Heap}
/-- the defs about reading, as they stand -/
structure RdT (P : Program) (K : PySem.W.Frag) (mg : Str → Option Value) (CP CS : Addr) : Prop where
  N : DfN K mg
  R : DfR K mg
  code : Df K mg "code_in" s_code_in
  read : Df K mg "read_node" s_read_node
  lread : Df K mg "_law_read" s__law_read
  errP : Err P K mg "InvalidPaper" CP
  cut : mg "CutError" = some (.ref CS)
  exm : PySem.W.exmOne K (.ref CP) (.ref CS) = some true
def readD (C : Addr) : D → D
  | .str s => match readP (csOf s) with
    | some d => .tup [d, .non]
    | none => .tup [.non, .exc C (.str s)]
  | x => .tup [.non, .exc C x]
def InT (x : D) : Prop := x.plain = true ∧ (x.isi "str" = false ∨ ∃ s, x = .str s ∧ TxOk s)
abbrev NLr : List Str := ["text", "told", "caught", "error"]
theorem sc_lread : FnScope NLr ["text"] (defScope s__law_read) := ⟨rfl, rfl, rfl, by decide +kernel, rfl, by decide +kernel, by decide +kernel⟩
theorem fd_lread {CP CS : Addr} (T : RdT P K mg CP CS) : FD P w K mg base 34 "_law_read" ["text"] (R1 InT (readD CP)) noX :=
  T.lread.fd (fun _ _ _ _ _ _ us hl => match us, hl with | [_], _ => rfl) fun f fd F => fn_rel0 F sc_lread R1.len (fun cdv A outer s0 H E hr args r args' ⟨x, ⟨hp, hx⟩, e1, e2, e3⟩ => by
    subst e1 e2 e3
    have st1 : ∀ (p1 p2 p3 p4 p5 p6 p7 : Pos) (j1 j2 j3 j4 : Nat), True := fun _ _ _ _ _ _ _ _ _ _ _ => trivial
    by_cases h : ∃ s d, x = .str s ∧ TxOk s ∧ readP (csOf s) = some d
    · obtain ⟨s, d, rfl, hs, hd⟩ := h
      have e : readD CP (.str s) = .tup [d, .non] := by simp only [readD, hd]
      rw [e]
      exact ret0 (δ' := [.d (.str s), .d d, .d .non, .un]) (dss_cons (ds_asgD (δ1 := [.d (.str s), .un, .un, .un]) (d := .tup [.non, .non]) (δ2 := [.d (.str s), .d .non, .d .non, .un]) (de_tup (da_cons de_non (da_cons de_non da_nil)) rfl (by decide)) (dg_two (i := 1) (j := 2) rfl sc_lread.nd rfl (.inl rfl) rfl (.inl rfl) (by simp) (by simp)))
        (dss_cons (ds_tryN (X := cxOf (L2.CX P w) P w K mg base NLr "_law_read" (defScope s__law_read) f cdv A outer s0 H E) (i := 3) (j := 2) (CS := CS) (δ1 := [.d (.str s), .d d, .d .non, .un]) rfl rfl rfl sc_lread.nd rfl rfl rfl rfl ⟨rfl, by decide, .inl T.cut⟩ (fun pn' xe po => dss_one (ds_set (X := Cx.tr (cxOf (L2.CX P w) P w K mg base NLr "_law_read" (defScope s__law_read) f cdv A outer s0 H E) pn' xe) (i := 1) (x := d) sc_lread.nd rfl (.inl rfl) (by simp) (de_call (r := .d d) (fd_read T.N T.R T.code T.read T.errP) hr rfl (da_cons (de_v 0) da_nil) rfl ⟨s, d, hs, hd, rfl, rfl, rfl⟩))) (hil := fun σ h => by rw [h]; exact (by decide : 3 < 4)))
        (dss_one (ds_ret (de_tup (ds := [d, .non]) (da_cons (de_v 1) (da_cons (de_v 2) da_nil)) rfl (by show 2 ≤ sizeLine; decide)))))) rfl
    · have ho : OddT x := ⟨hp, hx.imp id fun ⟨s, e, hs⟩ => ⟨s, e, hs, by
        cases q : readP (csOf s) with
        | none => rfl
        | some d => exact absurd ⟨s, d, e, hs, q⟩ h⟩⟩
      have e : readD CP x = .tup [.non, .exc CP x] := by
        cases x with
        | str s =>
          rcases ho.2 with z | ⟨s', e, hs, hd⟩
          · simp [D.isi] at z
          · cases e; simp only [readD, hd]
        | _ => rfl
      rw [e]
      exact ret0 (δ' := [.d x, .d .non, .d (.exc CP x), .un]) (dss_cons (ds_asgD (δ1 := [.d x, .un, .un, .un]) (d := .tup [.non, .non]) (δ2 := [.d x, .d .non, .d .non, .un]) (de_tup (da_cons de_non (da_cons de_non da_nil)) rfl (by decide)) (dg_two (i := 1) (j := 2) rfl sc_lread.nd rfl (.inl rfl) rfl (.inl rfl) (by simp) (by simp)))
        (dss_cons (ds_tryX (X := cxOf (L2.CX P w) P w K mg base NLr "_law_read" (defScope s__law_read) f cdv A outer s0 H E) (i := 3) (j := 2) (CS := CS) (C := CP) (d := x) (δ := [.d x, .d .non, .d .non, .un]) rfl rfl rfl sc_lread.nd rfl rfl rfl rfl (by decide) ⟨rfl, by decide, .inl T.cut⟩ T.exm rfl (by simp) (by simp) (fun pn' xe => pss_setX (k := 1) sc_lread.nd rfl (.inl rfl) (de_callX (fd_read T.N T.R T.code T.read T.errP) hr rfl (da_cons (de_v 0) da_nil) rfl ⟨ho, rfl, rfl⟩)) (hil := fun σ h => by rw [h]; exact (by decide : 3 < 4)))
        (dss_one (ds_ret (de_tup (ds := [.non, .exc CP x]) (da_cons (de_v 1) (da_cons (de_v 2) da_nil)) rfl (by show 2 ≤ sizeLine; decide)))))) rfl)
end W76
end
section
set_option Elab.async false
set_option linter.all false
set_option maxRecDepth 100000
set_option maxHeartbeats 2000000
namespace DL
open PySem PySem.Spec PyProof.Rows L2
variable [TL]
theorem sign_let {c : Nat} (h : signOk (.str ⟨#[c]⟩) = true) : c ∈ lets := by
  have ea : ("a" : Str).cps.toList = [97] := by decide +kernel
  have ez : ("z" : Str).cps.toList = [122] := by decide +kernel
  unfold signOk at h
  simp only [ea, ez, Bool.and_eq_true, Bool.not_eq_true', decide_eq_false_iff_not] at h
  obtain ⟨h1, h2⟩ := h
  have a1 : 97 ≤ c := by
    refine Nat.le_of_not_lt fun z => h1 ?_
    show [c] < [97]
    exact List.cons_lt_cons_iff.mpr (.inl z)
  have a2 : c ≤ 122 := by
    refine Nat.le_of_not_lt fun z => h2 ?_
    show [122] < [c]
    exact List.cons_lt_cons_iff.mpr (.inl z)
  simp [lets]
  omega
theorem word_lets {w : Str} (h : isWord (.str w) = true) : (∀ c ∈ csOf w, c ∈ lets) ∧ csOf w ≠ [] := by
  unfold isWord at h
  obtain ⟨h1, h2⟩ := Bool.and_eq_true_iff.mp h
  refine ⟨fun c hc => sign_let (List.all_eq_true.mp h1 _ (List.mem_map.mpr ⟨c, hc, rfl⟩)), fun z => ?_⟩
  simp only [Bool.not_eq_true', decide_eq_false_iff_not] at h2
  apply h2
  rw [← ofCs_csOf w, z]
  decide +kernel
theorem eqv_swap (x y : D) : x.eqv y = y.eqv x := PySem.W.eqv_comm _ _
theorem adj_ok {t : Str} {r : List D} {j : Nat} {x y : D} (h : (irange 2 (r.length - 1)).all (adjOk (.str t :: r)) = true) (hx : r[j]? = some x) (hy : r[j + 1]? = some y) : (bareD y).eqv (bareD x) = false := by
  have hj := (List.getElem?_eq_some_iff.mp hy).1
  have m : D.int (2 + (j : Int)) ∈ irange 2 (r.length - 1) := List.mem_map.mpr ⟨j, List.mem_range.mpr (by omega), rfl⟩
  have q := List.all_eq_true.mp h _ m
  have i1 : ((2 : Int) + (j : Int)) - 1 = ((j + 1 : Nat) : Int) := by omega
  have i2 : ((2 : Int) + (j : Int)) = ((j + 2 : Nat) : Int) := by omega
  have q : (!(bareD ((D.str t :: r).getD (((2 : Int) + (j : Int)) - 1).toNat .non)).eqv (bareD ((D.str t :: r).getD ((2 : Int) + (j : Int)).toNat .non))) = true := q
  rw [i1, i2, Int.toNat_natCast, Int.toNat_natCast, List.getD_eq_getElem?_getD, List.getD_eq_getElem?_getD, List.getElem?_cons_succ, List.getElem?_cons_succ, hx, hy] at q
  rw [eqv_swap]
  simpa using q
end DL
end
section
set_option Elab.async false
set_option linter.all false
set_option maxRecDepth 100000
set_option maxHeartbeats 4000000
namespace W76
open PySem PySem.Spec PyProof.Rows L2 DL Hd
variable [TL]
variable {P : Program} {w : World} {K : PySem.W.Frag} {mg : Str → Option Value} {base : Heap}
theorem filter_none {l : List D} {p : D → Bool} (h : ∀ d ∈ l, p d = false) : (l.filter p).map (fun d : D => d) = [] := by
  rw [List.filter_eq_nil_iff.mpr fun d hd => by rw [h d hd]; decide]
  rfl
def notLet : D → Bool
  | .str s => !decide ((csOf s).headD 0 ∈ csOf "abcdefghijklmnopqrstuvwxyz")
  | _ => false
theorem tag_na {n : Nat} {x : D} (h : (isSingle x || grp n x) = true) : ∃ t l, x = .tup (.str t :: l) ∧ t ≠ "again" := by
  rcases Bool.or_eq_true_iff.mp h with h | h
  · unfold isSingle at h
    split at h
    · rename_i t x _
      obtain ⟨a, b⟩ := Bool.and_eq_true_iff.mp h
      have a := of_decide_eq_true a
      subst a
      exact ⟨_, _, rfl, bead_again⟩
    · cases h
  · cases n with
    | zero => simp [grp] at h
    | succ n =>
      rw [grp] at h
      obtain ⟨t, y, r, rfl⟩ := group_shape h
      unfold isGroupOf at h
      simp only [Bool.and_eq_true, decide_eq_true_eq] at h
      obtain ⟨_, rfl, _⟩ := h
      exact ⟨_, _, rfl, group_again⟩
abbrev NLs : List Str := ["node", "sign", "part", "at"]
theorem sc_sound : FnScope NLs ["node"] (defScope s__law_is_sound) := ⟨rfl, rfl, rfl, by decide +kernel, rfl, by decide +kernel, by decide +kernel⟩
theorem nil_eq : (D.lst []).eqv (.lst []) = true := by decide +kernel
theorem sh_nil : (D.lst []).sh := ⟨rfl, by decide⟩
theorem fd_sound (B : Bn mg) (D0 : Df K mg "_law_bare" s__law_bare) (D1 : Df K mg "_law_is_sound" s__law_is_sound) : ∀ n, n ≤ 60 → FD P w K mg base (n + 2) "_law_is_sound" ["node"] (R1 (NodeIn n) fun _ => .bl true) noX
  | 0, _ => D1.fd (fun _ _ _ _ _ _ us hl => match us, hl with | [_], _ => rfl) fun f fd F => fn_rel0 F sc_sound R1.len (fun cdv A outer s H E hr args r args' ⟨d, ⟨hp, hn⟩, e1, e2, e3⟩ => by
    obtain ⟨w, rfl, _⟩ := node0 hn
    have := dep0 hp
    simp [D.isi] at this)
  | n + 1, h60 => D1.fd (fun _ _ _ _ _ _ us hl => match us, hl with | [_], _ => rfl) fun f fd F => fn_rel0 F sc_sound R1.len (fun cdv A outer s H E hr args r args' ⟨d, ⟨hp, hn⟩, e1, e2, e3⟩ => by
    have G := fd_sound B D0 D1 n (by omega)
    subst e1 e2 e3
    have big := szl
    have hw := wt_lt hp
    rcases node_cases hn with ⟨w, rfl, hw'⟩ | ⟨x, i, rfl, h1, h2⟩ | ⟨r, rfl, h1, h2, h3⟩
    · have ga := hp.tupA.1
      obtain ⟨l1, l2⟩ := word_lets hw'
      have wne : (w : Str) ≠ "" := fun z => l2 (by rw [z]; decide +kernel)
      refine ret0 (dss_stop (ds_ifT (dt_eqS (de_ixT (de_v 0) de_int atI_0) de_str (decide_eq_true rfl)) rfl (dss_one (ds_ret (de_to (de_andT (de_to (de_ne hr (ga.head.2.head.1.sh (by omega)) (sh_str (by decide +kernel)) (de_ixT (z := .str w) (de_v 0) de_int atI_1) de_str) (by rw [eqv_str, decide_eq_false wne]; rfl)) (de_one (de_to (de_eq hr sh_nil sh_nil (de_to (de_frz (de_lcF (f := fun d => d) 1 notLet rfl sc_sound.nd (di_str (de_ixT (z := .str w) (de_v 0) de_int atI_1)) (blk_by NLs (defScope s__law_is_sound) (by decide +kernel)) rfl rfl (fun _ _ _ _ _ => .inl rfl) (fun _ _ _ _ _ => .inr rfl) (fun s' H' C' cl' fp' d hd' => ?_) (fun s' H' C' cl' fp' d hd' _ => de_v 1) ?_)) ?_) (de_frz (de_lst da_nil rfl (by decide)))) (by rw [nil_eq])))) rfl)))) (fun _ h => nomatch h)) rfl
      · obtain ⟨c, hc, rfl⟩ := List.mem_map.mp hd'
        exact dt_nin (n := c) (de_v 1) de_str rfl
      · unfold sgns
        rw [List.length_map]
        exact ga.head.2.head.1.str
      · rw [filter_none]
        intro d hd
        obtain ⟨c, hc, rfl⟩ := List.mem_map.mp hd
        show (!decide (c ∈ csOf "abcdefghijklmnopqrstuvwxyz")) = false
        rw [lets_eq, decide_eq_true (l1 c hc)]
        rfl
    · have ga := hp.tupA.1
      have hX := ga.head.2.head.1
      obtain ⟨t, l, rfl, ht⟩ := tag_na h2
      exact ret0 (dss_cons (ds_ifF (dt_eqS (de_ixT (de_v 0) de_int atI_0) de_str (decide_eq_false again_bead)) rfl dss_nil)
        (dss_stop (ds_ifT (dt_eqS (de_ixT (de_v 0) de_int atI_0) de_str (decide_eq_true rfl)) rfl (dss_one (ds_ret (de_andT (de_gt (de_ixT (de_v 0) de_int atI_2) de_int (decide_eq_true h1)) (de_andT (de_to (de_ne hr (hX.tupA.1.head.1.sh (by omega)) (sh_str (by decide +kernel)) (de_ixT (z := .str t) (de_ixT (z := .tup (.str t :: l)) (de_v 0) de_int atI_1) de_int atI_0) de_str) (by rw [eqv_str, decide_eq_false ht]; rfl))
          (de_one (de_call (r := .d (.bl true)) G hr rfl (da_cons (de_ixT (z := .tup (.str t :: l)) (de_v 0) de_int atI_1) da_nil) rfl (R1.of (d := .tup (.str t :: l)) ⟨hX, sg_node h2⟩)))))))) (fun _ h => nomatch h))) rfl
    · have ga := hp.tupA.1
      have gr := ga.head.2
      have lr := gr.len
      refine ret0 (dss_cons (ds_ifF (dt_eqS (de_ixT (de_v 0) de_int atI_0) de_str (decide_eq_false group_bead)) rfl dss_nil)
        (dss_cons (ds_ifF (dt_eqS (de_ixT (de_v 0) de_int atI_0) de_str (decide_eq_false group_again)) rfl dss_nil)
        (dss_cons (ds_ifF (dt_w (dw_orF (dt_lt (de_len (n := r.length + 1) rfl B.len (de_v 0) rfl) de_int (decide_eq_false (by omega))) (dw_or1 (dt_ne hr sh_nil sh_nil (de_to (de_frz (de_lcF (items := r) (f := fun d => d) 2 (fun _ => false) rfl sc_sound.nd (di_to (di_tup (de_slT (de_v 0) (do_some de_int) do_none (by unfold HT.sIx; simp))) cut_1) (blk_by NLs (defScope s__law_is_sound) (by decide +kernel)) rfl rfl (fun _ _ _ _ _ => .inl rfl) (fun _ _ _ _ _ => .inr rfl) (fun s' H' C' cl' fp' d hd' => ?_) (fun s' H' C' cl' fp' d hd' _ => de_v 2) lr)) ?_) (de_frz (de_lst da_nil rfl (by decide))) (by rw [nil_eq]; rfl))))) rfl dss_nil)
        (dss_one (ds_ret (de_to (de_eq hr sh_nil sh_nil (de_to (de_frz (de_lcF (items := irange 2 (r.length - 1)) (f := fun d => d) 3 (fun _ => false) rfl sc_sound.nd (di_to (di_range2 rfl B.rng de_int (de_len (n := r.length + 1) rfl B.len (de_v 0) rfl) (by decide) ?_) ?_) (blk_by NLs (defScope s__law_is_sound) (by decide +kernel)) rfl rfl (fun _ _ _ _ _ => .inl rfl) (fun _ _ _ _ _ => .inr rfl) (fun s' H' C' cl' fp' d hd' => ?_) (fun s' H' C' cl' fp' d hd' _ => de_v 3) ?_)) ?_) (de_frz (de_lst da_nil rfl (by decide)))) (by rw [nil_eq]))))))) rfl
      · exact dt_notT (dt_bl (de_call (r := .d (.bl true)) G hr rfl (da_cons (de_v 2) da_nil) rfl (R1.of (d := d) ⟨gr.mem hd', List.all_eq_true.mp h2 d hd'⟩)))
      · rw [filter_none fun _ _ => rfl]
      · omega
      · show irange 2 _ = irange 2 (r.length - 1)
        congr 1; omega
      · obtain ⟨j, hj, rfl⟩ := List.mem_map.mp hd'
        have hj : j < r.length - 1 := by simpa using hj
        have g1 : r[j]? = some (r[j]'(by omega)) := List.getElem?_eq_getElem (by omega)
        have g2 : r[j + 1]? = some (r[j + 1]'(by omega)) := List.getElem?_eq_getElem (by omega)
        have m1 := List.mem_of_getElem? g1
        have m2 := List.mem_of_getElem? g2
        have q1 := gr.mem m1
        have q2 := gr.mem m2
        have i1 : ((2 : Int) + (j : Int)) - 1 = ((j + 1 : Nat) : Int) := by omega
        have i2 : ((2 : Int) + (j : Int)) = ((j + 2 : Nat) : Int) := by omega
        exact dt_eq hr ((bareD_gd q2).sh (by omega)) ((bareD_gd q1).sh (by omega))
          (de_call (r := .d (bareD (r[j + 1]'(by omega)))) (fd_lbare D0) (hr.mono (by omega)) rfl (da_cons (de_ixT (de_v 0) (de_v 3) (by rw [i2]; exact atI_nat (by rw [List.getElem?_cons_succ]; exact g2))) da_nil) rfl (R1.of ⟨q2.mono (by omega), node_shape (List.all_eq_true.mp h2 _ m2)⟩))
          (de_call (r := .d (bareD (r[j]'(by omega)))) (fd_lbare D0) (hr.mono (by omega)) rfl (da_cons (de_ixT (de_v 0) (de_sub (de_v 3) de_int) (by rw [i1]; exact atI_nat (by rw [List.getElem?_cons_succ]; exact g1))) da_nil) rfl (R1.of ⟨q1.mono (by omega), node_shape (List.all_eq_true.mp h2 _ m1)⟩))
          (adj_ok h3 g1 g2)
      · rw [irange_len]; omega
      · rw [filter_none fun _ _ => rfl])
end W76
end
section
set_option Elab.async false
set_option linter.all false
set_option maxRecDepth 100000
set_option maxHeartbeats 4000000
namespace W76
open PySem PySem.Spec PyProof.Rows L2 DL Hd
variable [TL]
variable {P : Program} {w : World} {K : PySem.W.Frag} {mg : Str → Option Value} {base : Heap}
abbrev NLt : List Str := ["text", "told", "caught"]
theorem sc_tright : FnScope NLt ["text"] (defScope s__law_text_right) := ⟨rfl, rfl, rfl, by decide +kernel, rfl, by decide +kernel, by decide +kernel⟩
def ShT (x : D) : Prop := x.Shows ∨ x = .dct [] []
structure TrT (P : Program) (K : PySem.W.Frag) (mg : Str → Option Value) (CP CS : Addr) : Prop where
  T : RdT P K mg CP CS
  lcode : Df K mg "_law_code" s__law_code
  lbare : Df K mg "_law_bare" s__law_bare
  sound : Df K mg "_law_is_sound" s__law_is_sound
  tright : Df K mg "_law_text_right" s__law_text_right
  is : PySem.W.kitOne K (.ref CP) (.ref CP) = some true
theorem fdg_tright {CP CS : Addr} (Q : TrT P K mg CP CS) : FDg P w K mg base 36 "_law_text_right" ["text"] (R1 (fun x => InT x ∧ ShT x) fun _ => .bl true) := by
  have T := Q.T
  obtain ⟨f, fd, F, hm⟩ := Q.tright.ex
  refine ⟨f, fd, fun A hG hr => fn_relA (k := 35) F sc_tright hr R1.len fun cdv outer s0 H E hr args r args' ⟨x, ⟨⟨hp, hx⟩, hsh⟩, e1, e2, e3⟩ => ?_, hm, F.kp, F.bindsN fun _ _ _ _ _ _ us hl => match us, hl with | [_], _ => rfl⟩
  subst e1 e2 e3
  have B := T.N.B
  have hG' : (cxOf (L2.CX P w) P w K mg base NLt "_law_text_right" (defScope s__law_text_right) f cdv A outer s0 H E).A.guards = some [] := hG
  by_cases h : ∃ s d, x = .str s ∧ TxOk s ∧ readP (csOf s) = some d
  · obtain ⟨s, d, rfl, hs, hd⟩ := h
    have e : readD CP (.str s) = .tup [d, .non] := by simp only [readD, hd]
    obtain ⟨h1, h2, h3⟩ := readP_some hd
    have gd := read_gd h1 (by rw [csOf_len]; exact hs.1)
    have nn : d.isNon = false := by obtain ⟨t, x, r, rfl⟩ := node_shape h2; rfl
    exact ret0 (δ' := [.d (.str s), .d d, .d .non]) (dss_cons (ds_asgD (δ1 := [.d (.str s), .un, .un]) (d := .tup [d, .non]) (δ2 := [.d (.str s), .d d, .d .non]) (de_to (de_call (r := .d (readD CP (.str s))) (fd_lread T) (hr.mono (by decide)) rfl (da_cons (de_v 0) da_nil) rfl (R1.of (d := .str s) ⟨hp, hx⟩)) (by rw [e])) (dg_two (i := 1) (j := 2) rfl sc_tright.nd rfl (.inl rfl) rfl (.inl rfl) (by simp) (by simp)))
      (dss_cons (ds_ifF (dt_isN (de_v 1) nn) rfl dss_nil)
      (dss_one (ds_ret (de_andT (de_isi' "str" rfl B.isi (de_v 0) hp rfl B.str boot_str (by decide) rfl) (de_andT (de_to (de_eq hr (x := .str (ofCs (codeL 13 d))) (y := .str s) (by rw [h3, ofCs_csOf]; exact sh_str hs.2.1) (sh_str hs.2.1) (de_call (r := .d (codeN 13 d)) (fd_lcode B Q.lcode 13 (by decide)) (hr.mono (by decide)) rfl (da_cons (de_v 1) da_nil) rfl (R1.of (d := d) ⟨gd, h2⟩)) (de_v 0)) (by rw [eqv_str, h3, ofCs_csOf, decide_eq_true rfl]))
        (de_one (de_call (r := .d (.bl true)) (fd_sound B Q.lbare Q.sound 13 (by decide)) (hr.mono (by decide)) rfl (da_cons (de_v 1) da_nil) rfl (R1.of (d := d) ⟨gd, h2⟩)))))))) ) rfl
  · have e : readD CP x = .tup [.non, .exc CP x] := by
      cases x with
      | str s =>
        rcases hx with z | ⟨s', e, hs⟩
        · simp [D.isi] at z
        · cases e
          cases q : readP (csOf s) with
          | none => simp only [readD, q]
          | some d => exact absurd ⟨s, d, rfl, hs, q⟩ h
      | _ => rfl
    exact ret0 (δ' := [.d x, .d .non, .d (.exc CP x)]) (dss_cons (ds_asgD (δ1 := [.d x, .un, .un]) (d := .tup [.non, .exc CP x]) (δ2 := [.d x, .d .non, .d (.exc CP x)]) (de_to (de_call (r := .d (readD CP x)) (fd_lread T) (hr.mono (by decide)) rfl (da_cons (de_v 0) da_nil) rfl (R1.of (d := x) ⟨hp, hx⟩)) (by rw [e])) (dg_two (i := 1) (j := 2) rfl sc_tright.nd rfl (.inl rfl) rfl (.inl rfl) (by simp) (by simp)))
      (dss_stop (ds_ifT (dt_isN (x := .non) (de_v 1) rfl) rfl
      (dss_one (ds_ret (de_andT (de_isX T.errP rfl B.isi (de_v 2) rfl T.errP.gC Q.is) (de_one (de_eqS (s := x.rep) (t := x.rep) (de_repr hG' hr rfl B.repr (de_fld T.errP (de_v 2)) hsh) (de_repr hG' hr rfl B.repr (de_v 0) hsh) (decide_eq_true rfl))))))) (fun _ h => nomatch h))) rfl
end W76
end
section
set_option Elab.async false
set_option linter.all false
set_option maxRecDepth 100000
set_option maxHeartbeats 4000000
namespace W76
open PySem PySem.Spec PyProof.Rows L2 DL Hd
variable [TL]
variable {P : Program} {w : World} {K : PySem.W.Frag} {mg : Str → Option Value} {base : Heap}
theorem sc_purse : FnScope ["script", "at", "seed"] ["script", "at"] (defScope s__law_purse) := ⟨rfl, rfl, rfl, by decide +kernel, rfl, by decide +kernel, by decide +kernel⟩
def RPur (K : PySem.W.Frag) : RelD := fun args r args' => ∃ (ns : List Int) (a : Int), args = [.pr (prS K ns), .d (.int a)] ∧ r = .ow (pz (purse0 ns a)) ∧ args' = args
theorem fd_purse (B : Bn mg) (D1 : Df K mg "_law_purse" s__law_purse) : FD P w K mg base 1 "_law_purse" ["script", "at"] (RPur K) noX :=
  D1.fd (fun _ _ _ _ _ _ us hl => match us, hl with | [_, _], _ => rfl) fun f fd F => fn_rel0 F sc_purse (fun _ _ _ ⟨_, _, h, _⟩ => by rw [h]; rfl) (fun cdv A outer s H E hr args r args' ⟨ns, a, e1, e2, e3⟩ => by
    subst e1 e2 e3
    exact ret0 (dss_cons (ds_set (x := .int (seedN ns a)) (i := 2) sc_purse.nd rfl (.inl rfl) (by simp) (de_sum (ns := cutI ns (some a) (some (a + 1))) rfl rfl B.sum (de_to (de_frz (de_slP (ns := ns) (de_vp 0) (do_some (de_v 1)) (do_some (de_add (de_v 1) de_int)))) (by rw [cut_ints]))))
      (dss_one (ds_ret (de_lst (da_cons (de_mod (de_intI rfl B.int (de_max2 rfl rfl B.max (de_sub (de_v 2) (de_pow de_int de_int ⟨by decide, by decide, by decide⟩)) de_int)) (de_powW (de_pow de_int de_int ⟨by decide, by decide, by decide⟩) de_int ⟨by decide, by decide +kernel⟩) (by decide +kernel))
        (da_cons (de_mod (de_intI rfl B.int (de_v 2)) de_int (by decide)) (da_cons de_int (da_cons (de_v 1) da_nil)))) rfl (by show 4 ≤ sizeLine; decide))))) rfl)
theorem sc_one_of : FnScope ["purse", "some"] ["purse", "some"] (defScope s__law_one_of) := ⟨rfl, rfl, rfl, by decide +kernel, rfl, by decide +kernel, by decide +kernel⟩
def ROne (L : Nat) : RelD := fun args r args' => ∃ (p : Pu) (xs : List D), OkP L p ∧ 0 < xs.length ∧ xs.length < 2 ^ 20 ∧ args = [.ow (pz p), .d (.lst xs)] ∧ r = .d (oneOf p xs) ∧ args' = [.ow (pz (drawP p xs.length)), .d (.lst xs)]
/-- the purse's defs -/
structure DfP (K : PySem.W.Frag) (mg : Str → Option Value) : Prop where
  B : Bn mg
  mixed : Df K mg "_law_mixed" s__law_mixed
  draw : Df K mg "_law_draw" s__law_draw
  one : Df K mg "_law_one_of" s__law_one_of
  word : Df K mg "_law_word" s__law_word
  pool : Df K mg "_law_pool" s__law_pool
theorem fd_one_of (T : DfP K mg) {L : Nat} (hL : L ≤ 2 ^ 60) : FD P w K mg base 3 "_law_one_of" ["purse", "some"] (ROne L) noX :=
  T.one.fd (fun _ _ _ _ _ _ us hl => match us, hl with | [_, _], _ => rfl) fun f fd F => fn_rel0 F sc_one_of (fun _ _ _ ⟨_, _, _, _, _, h, _⟩ => by rw [h]; rfl) (fun cdv A outer s H E hr args r args' ⟨p, xs, op, h0, h1, e1, e2, e3⟩ => by
    subst e1 e2 e3
    exact ret1 (ys := pz (drawP p xs.length)) (dss_one (ds_ret (de_ixL (de_v 1) (de_callQ 0 (pz p) (pz (drawP p xs.length)) (.d (.int (drawN p xs.length))) (fd_draw T.B hL T.mixed T.draw) hr rfl (da_o 0 (da_cons (de_len rfl T.B.len (de_v 1) rfl) da_nil)) rfl rfl ⟨p, xs.length, op, by omega, by omega, rfl, rfl, rfl⟩) (oneOf_at h0)))) rfl rfl)
theorem sc_word' : FnScope ["purse", "most", "spin"] ["purse", "most"] (defScope s__law_word) := ⟨rfl, rfl, rfl, by decide +kernel, rfl, by decide +kernel, by decide +kernel⟩
def RWord (L : Nat) : RelD := fun args r args' => ∃ (p : Pu) (m : Int), OkP L p ∧ 0 < m ∧ m ≤ 100 ∧ args = [.ow (pz p), .d (.int m)] ∧ r = .d (.str (wordN (drawP p m) (drawN p m + 1).toNat)) ∧ args' = [.ow (pz (signPs (drawP p m) (drawN p m + 1).toNat)), .d (.int m)]
theorem fd_lword (T : DfP K mg) {L : Nat} (hL : L + 300 ≤ 2 ^ 60) : FD P w K mg base 4 "_law_word" ["purse", "most"] (RWord L) noX :=
  T.word.fd (fun _ _ _ _ _ _ us hl => match us, hl with | [_, _], _ => rfl) fun f fd F => fn_rel0 F sc_word' (fun _ _ _ ⟨_, _, _, _, _, h, _⟩ => by rw [h]; rfl) (fun cdv A outer s H E hr args r args' ⟨p, m, op, m0, m1, e1, e2, e3⟩ => by
    subst e1 e2 e3
    have B := T.B
    have dr := drawN_ge (p := p) m0
    have op1 : OkP (L + 1) (drawP p m) := drawP_ok op m0
    have big : sizeLine = 16777216 := by decide
    obtain ⟨n, hn, hn2⟩ : ∃ n : Nat, (drawN p m + 1).toNat = n ∧ n ≤ 100 := ⟨_, rfl, by omega⟩
    rw [hn]
    have hl : ∀ j, (DL.strOf (signN (signPs (drawP p m) j))).length = 1 := fun j => by
      obtain ⟨c, _, _, e⟩ := signN_sg (signPs (drawP p m) j)
      rw [e]; rfl
    refine ret1 (ys := pz (signPs (drawP p m) n)) (dss_one (ds_ret (de_to (de_join (s := "") (ts := (List.range n).map fun j => DL.strOf (signN (signPs (drawP p m) j))) de_str (de_to (de_frz (de_lc_ (own := [("spin", 2)]) (δ1 := [.ow (pz (drawP p m)), .d (.int m), .un]) (items := irange 0 n) (X := cxOf (L2.CX P w) P w K mg base ["purse", "most", "spin"] "_law_word" (defScope s__law_word) f cdv A outer s H E) rfl sc_word'.nd
      (di_to (di_range1 rfl B.rng (de_add de_int (de_callQ 0 (pz p) (pz (drawP p m)) (.d (.int (drawN p m))) (fd_draw B (L := L) (by omega) T.mixed T.draw) (hr.mono (by decide)) rfl (da_o 0 (da_cons (de_v 1) da_nil)) rfl rfl ⟨p, m, op, m0, by omega, rfl, rfl, rfl⟩)) (by omega)) (by rw [← hn]; congr 2; omega))
      (blk_by ["purse", "most", "spin"] (defScope s__law_word) (by decide +kernel))
      (fun j => [.ow (pz (signPs (drawP p m) j)), .d (.int m), .un]) (fun j => [.ow (pz (signPs (drawP p m) j)), .d (.int m), .d (.int (0 + (j : Int)))]) (fun j => [.ow (pz (signPs (drawP p m) j)), .d (.int m), .d (.int (0 + (j : Int)))]) (fun j => [.ow (pz (signPs (drawP p m) (j + 1))), .d (.int m), .d (.int (0 + (j : Int)))]) (fun _ => true) (fun j => signN (signPs (drawP p m) j)) rfl (fun j => rfl)
      (fun s' H' C' cl' fp' j d hd => ?_) (fun s' H' C' cl' fp' j d hd => pts_yes) (fun s' H' C' cl' fp' j d hd _ => ?_) (fun j _ => rfl) (by rw [irange_len]; omega) (fun v hv xs => ?_) (δ' := [.ow (pz (signPs (drawP p m) n)), .d (.int m), .un]) (by rw [irange_len]; rfl))) ?_) ?_) ?_))) rfl rfl
    · have hj : j < n := by have := (List.getElem?_eq_some_iff.mp hd).1; rwa [irange_len] at this
      rw [irange_get hj] at hd
      cases hd
      exact dg_name (X := Cx.blk (cxOf (L2.CX P w) P w K mg base ["purse", "most", "spin"] "_law_word" (defScope s__law_word) f cdv A outer s H E) s' H' _ _ fp') (i := 2) sc_word'.nd rfl (.inl rfl) (fun z => by have := (mem_pnv.mp z).2; simp at this) (.inr rfl)
    · have hj : j < n := by have := (List.getElem?_eq_some_iff.mp hd).1; rwa [irange_len] at this
      have oj := signPs_ok op1 j
      have oj1 := drawP_ok (m := 3) oj (by decide)
      have k := kind_eq (signPs (drawP p m) j)
      have sp := some_pos (signPs (drawP p m) j)
      have hcut : (cutS alpha none (some (kindN (signPs (drawP p m) j)))).length ≤ sizeLine := by have z := sp.2; unfold some_ at z; rw [sgns_len] at z; omega
      exact de_callQ 0 (pz (drawP (signPs (drawP p m) j) 3)) (pz (signP (signPs (drawP p m) j))) (.d (signN (signPs (drawP p m) j))) (fd_one_of T (L := L + 1 + 2 * j + 1) (by omega)) (hr.mono (by decide)) rfl
        (da_o 0 (δ2 := [.ow (pz (drawP (signPs (drawP p m) j) 3)), .d (.int m), .d (.int (0 + (j : Int)))]) (da_cons (de_frz (de_listS rfl rfl B.list (de_slS de_str do_none (do_some (de_to (de_callQ 0 (pz (signPs (drawP p m) j)) (pz (drawP (signPs (drawP p m) j) 3)) (.d (oneOf (signPs (drawP p m) j) kinds)) (fd_one_of T (L := L + 1 + 2 * j) (by omega)) (hr.mono (by decide)) rfl (da_o 0 (da_cons (de_frz (de_lst (da_cons de_int (da_cons de_int (da_cons de_int da_nil))) rfl (by decide))) da_nil)) rfl rfl ⟨_, kinds, oj, by decide, by decide, rfl, rfl, rfl⟩) (by rw [k.1]))) (by decide +kernel)) hcut)) da_nil)) rfl rfl ⟨_, some_ (signPs (drawP p m) j), oj1, sp.1, by omega, rfl, rfl, rfl⟩
    · have : v = 2 := by simpa using hv
      subst this
      exact fun h => nomatch (Option.some.inj h)
    · rw [took_all, irange_len, List.map_map]
      congr 2
      refine List.map_congr_left fun j _ => ?_
      obtain ⟨c, _, _, e⟩ := signN_sg (signPs (drawP p m) j)
      show signN _ = D.str (DL.strOf (signN _))
      rw [e]; rfl
    · have e0 : ("" : Str).length = 0 := rfl
      rw [List.map_map, List.length_map, List.length_range, e0, Nat.mul_zero, Nat.add_zero]
      have : ∀ l : List Nat, (l.map ((fun x => x.length) ∘ fun j => DL.strOf (signN (signPs (drawP p m) j)))).sum = l.length := fun l => by
        induction l with
        | nil => rfl
        | cons a l ih => rw [List.map_cons, List.sum_cons, ih, List.length_cons]; show (DL.strOf _).length + _ = _; rw [hl]; omega
      rw [this, List.length_range]; omega
    · rfl)
/-! ### pools -/
def sizes : List D := [.int 1, .int 3, .int 9]
def sizeN (p : Pu) : Int := match oneOf p sizes with
  | .int i => i
  | _ => 1
theorem size_eq (p : Pu) : oneOf p sizes = .int (sizeN p) ∧ 0 < sizeN p ∧ sizeN p ≤ 9 := by
  have := oneOf_mem (p := p) (xs := sizes) (by decide)
  unfold sizeN
  simp only [sizes, List.mem_cons, List.not_mem_nil, or_false] at this
  rcases this with e | e | e <;> (rw [show oneOf p sizes = _ from e]; exact ⟨rfl, by decide, by decide⟩)
/-- a word of the pool from p; the purse behind it -/
def pw (p : Pu) : Str := wordN (drawP (drawP p 3) (sizeN p)) (drawN (drawP p 3) (sizeN p) + 1).toNat
def pwP (p : Pu) : Pu := signPs (drawP (drawP p 3) (sizeN p)) (drawN (drawP p 3) (sizeN p) + 1).toNat
theorem pwP_ok {L : Nat} {p : Pu} (h : OkP L p) : OkP (L + 20) (pwP p) := by
  have k := size_eq p
  have h1 := drawP_ok (m := 3) h (by decide)
  have h2 := drawP_ok h1 k.2.1
  have d := drawN_ge (p := drawP p 3) k.2.1
  exact (signPs_ok h2 _).mono (by have := k.2.2; omega)
def pwPs (p : Pu) : Nat → Pu
  | 0 => p
  | j + 1 => pwP (pwPs p j)
theorem pwPs_ok {L : Nat} {p : Pu} (h : OkP L p) : ∀ j, OkP (L + 20 * j) (pwPs p j)
  | 0 => h
  | j + 1 => by have := pwP_ok (pwPs_ok h j); exact this.mono (by omega)
def poolN (p : Pu) : List D := (List.range (drawN p 6 + 2).toNat).map fun j => D.str (pw (pwPs (drawP p 6) j))
def poolP (p : Pu) : Pu := pwPs (drawP p 6) (drawN p 6 + 2).toNat
theorem poolP_ok {L : Nat} {p : Pu} (h : OkP L p) : OkP (L + 200) (poolP p) := by
  have h1 := drawP_ok (m := 6) h (by decide)
  have d := drawN_ge (p := p) (m := 6) (by decide)
  exact (pwPs_ok h1 _).mono (by omega)
theorem sc_pool : FnScope ["purse", "spin"] ["purse"] (defScope s__law_pool) := ⟨rfl, rfl, rfl, by decide +kernel, rfl, by decide +kernel, by decide +kernel⟩
def RPool (L : Nat) : RelD := fun args r args' => ∃ p : Pu, OkP L p ∧ args = [.ow (pz p)] ∧ r = .ow (poolN p) ∧ args' = [.ow (pz (poolP p))]
theorem fd_pool (T : DfP K mg) {L : Nat} (hL : L + 3000 ≤ 2 ^ 60) : FD P w K mg base 5 "_law_pool" ["purse"] (RPool L) noX :=
  T.pool.fd (fun _ _ _ _ _ _ us hl => match us, hl with | [_], _ => rfl) fun f fd F => fn_rel0 F sc_pool (fun _ _ _ ⟨_, _, h, _⟩ => by rw [h]; rfl) (fun cdv A outer s H E hr args r args' ⟨p, op, e1, e2, e3⟩ => by
    subst e1 e2 e3
    have B := T.B
    have big : sizeLine = 16777216 := by decide
    have dr := drawN_ge (p := p) (m := 6) (by decide)
    have op1 : OkP (L + 1) (drawP p 6) := drawP_ok op (by decide)
    obtain ⟨n, hn, hn2⟩ : ∃ n : Nat, (drawN p 6 + 2).toNat = n ∧ n ≤ 10 := ⟨_, rfl, by omega⟩
    unfold poolN poolP
    rw [hn]
    refine ret1 (ys := pz (pwPs (drawP p 6) n)) (dss_one (ds_ret (de_to (de_lc_ (own := [("spin", 1)]) (δ1 := [.ow (pz (drawP p 6)), .un]) (items := irange 0 n) (X := cxOf (L2.CX P w) P w K mg base ["purse", "spin"] "_law_pool" (defScope s__law_pool) f cdv A outer s H E) rfl sc_pool.nd
      (di_to (di_range1 rfl B.rng (de_add de_int (de_callQ 0 (pz p) (pz (drawP p 6)) (.d (.int (drawN p 6))) (fd_draw B (L := L) (by omega) T.mixed T.draw) (hr.mono (by decide)) rfl (da_o 0 (da_cons de_int da_nil)) rfl rfl ⟨p, 6, op, by decide, by decide, rfl, rfl, rfl⟩)) (by omega)) (by rw [← hn]; congr 2; omega))
      (blk_by ["purse", "spin"] (defScope s__law_pool) (by decide +kernel))
      (fun j => [.ow (pz (pwPs (drawP p 6) j)), .un]) (fun j => [.ow (pz (pwPs (drawP p 6) j)), .d (.int (0 + (j : Int)))]) (fun j => [.ow (pz (pwPs (drawP p 6) j)), .d (.int (0 + (j : Int)))]) (fun j => [.ow (pz (pwPs (drawP p 6) (j + 1))), .d (.int (0 + (j : Int)))]) (fun _ => true) (fun j => .str (pw (pwPs (drawP p 6) j))) rfl (fun j => rfl)
      (fun s' H' C' cl' fp' j d hd => ?_) (fun s' H' C' cl' fp' j d hd => pts_yes) (fun s' H' C' cl' fp' j d hd _ => ?_) (fun j _ => rfl) (by rw [irange_len]; omega) (fun v hv xs => ?_) (δ' := [.ow (pz (pwPs (drawP p 6) n)), .un]) (by rw [irange_len]; rfl)) ?_))) rfl rfl
    · have hj : j < n := by have := (List.getElem?_eq_some_iff.mp hd).1; rwa [irange_len] at this
      rw [irange_get hj] at hd
      cases hd
      exact dg_name (X := Cx.blk (cxOf (L2.CX P w) P w K mg base ["purse", "spin"] "_law_pool" (defScope s__law_pool) f cdv A outer s H E) s' H' _ _ fp') (i := 1) sc_pool.nd rfl (.inl rfl) (fun z => by have := (mem_pnv.mp z).2; simp at this) (.inr rfl)
    · have hj : j < n := by have := (List.getElem?_eq_some_iff.mp hd).1; rwa [irange_len] at this
      have oj := pwPs_ok op1 j
      have oj1 := drawP_ok (m := 3) oj (by decide)
      have k := size_eq (pwPs (drawP p 6) j)
      exact de_callQ 0 (pz (drawP (pwPs (drawP p 6) j) 3)) (pz (pwP (pwPs (drawP p 6) j))) (.d (.str (pw (pwPs (drawP p 6) j)))) (fd_lword T (L := L + 1 + 20 * j + 1) (by omega)) hr rfl
        (da_o 0 (δ2 := [.ow (pz (drawP (pwPs (drawP p 6) j) 3)), .d (.int (0 + (j : Int)))]) (da_cons (de_to (de_callQ 0 (pz (pwPs (drawP p 6) j)) (pz (drawP (pwPs (drawP p 6) j) 3)) (.d (oneOf (pwPs (drawP p 6) j) sizes)) (fd_one_of T (L := L + 1 + 20 * j) (by omega)) (hr.mono (by decide)) rfl (da_o 0 (da_cons (de_frz (de_lst (da_cons de_int (da_cons de_int (da_cons de_int da_nil))) rfl (by decide))) da_nil)) rfl rfl ⟨_, sizes, oj, by decide, by decide, rfl, rfl, rfl⟩) (by rw [k.1])) da_nil)) rfl rfl ⟨_, sizeN (pwPs (drawP p 6) j), oj1, k.2.1, by have := k.2.2; omega, rfl, rfl, rfl⟩
    · have : v = 1 := by simpa using hv
      subst this
      exact fun h => nomatch (Option.some.inj h)
    · rw [took_all, irange_len])
end W76
end
section
set_option Elab.async false
set_option linter.all false
set_option maxRecDepth 100000
set_option maxHeartbeats 2000000
/-! N94e: the nodes that the law makes. -/
namespace DL
open PySem PySem.Spec PyProof.Rows L2
variable [TL]
/-! ### nodes of a depth are nodes of a greater one -/
theorem isGroup_mono {f g : D → Bool} (h : ∀ x, f x = true → g x = true) {d : D} (hd : isGroupOf f d = true) : isGroupOf g d = true := by
  obtain ⟨t, x, r, rfl⟩ := group_shape hd
  unfold isGroupOf at hd ⊢
  simp only [Bool.and_eq_true] at hd ⊢
  obtain ⟨h1, h2, h3, h4⟩ := hd
  exact ⟨h1, h2, List.all_eq_true.mpr fun y hy => h y (List.all_eq_true.mp h3 y hy), h4⟩
theorem isAgain_mono {f g : D → Bool} (h : ∀ x, f x = true → g x = true) {d : D} (hd : isAgainOf f d = true) : isAgainOf g d = true := by
  unfold isAgainOf at hd ⊢
  split at hd
  · rename_i t x c _ _
    simp only [Bool.and_eq_true] at hd ⊢
    exact ⟨hd.1, hd.2.1, h _ hd.2.2⟩
  · cases hd
theorem ga_mono : ∀ (n : Nat) (d : D), (grp n d = true → grp (n + 1) d = true) ∧ (agn n d = true → agn (n + 1) d = true)
  | 0, d => ⟨fun h => by simp [grp] at h, fun h => by simp [agn] at h⟩
  | n + 1, d => by
    refine ⟨fun h => ?_, fun h => ?_⟩
    · rw [grp] at h ⊢
      refine isGroup_mono (fun x hx => ?_) h
      simp only [Bool.or_eq_true] at hx ⊢
      rcases hx with a | a | a
      · exact .inl a
      · exact .inr (.inl ((ga_mono n x).1 a))
      · exact .inr (.inr ((ga_mono n x).2 a))
    · rw [agn] at h ⊢
      refine isAgain_mono (fun x hx => ?_) h
      simp only [Bool.or_eq_true] at hx ⊢
      exact hx.imp id (ga_mono n x).1
theorem node_mono1 {n : Nat} {d : D} (h : nodeN n d = true) : nodeN (n + 1) d = true := by
  unfold nodeN at h ⊢
  simp only [Bool.or_eq_true] at h ⊢
  exact h.imp id fun z => z.imp (ga_mono n d).1 (ga_mono n d).2
theorem node_mono {n m : Nat} {d : D} (h : nodeN n d = true) (l : n ≤ m) : nodeN m d = true := by
  induction m with
  | zero => have : n = 0 := by omega
            subst this; exact h
  | succ m ih =>
    by_cases e : n = m + 1
    · subst e; exact h
    · exact node_mono1 (ih (by omega))
/-! ### numbers below 10 ** 30 -/
mutual
def D.low : D → Bool
  | .int i => decide (0 ≤ i ∧ i < 10 ^ 30)
  | .lst xs => D.lowA xs
  | .tup xs => D.lowA xs
  | _ => true
def D.lowA : List D → Bool
  | [] => true
  | d :: ds => d.low && D.lowA ds
end
theorem lowA_mem {ds : List D} {d : D} (h : D.lowA ds = true) (hd : d ∈ ds) : d.low = true := by
  induction ds with
  | nil => simp at hd
  | cons a r ih =>
    simp only [D.lowA, Bool.and_eq_true] at h
    rcases List.mem_cons.mp hd with rfl | hd
    · exact h.1
    · exact ih h.2 hd
theorem lowA_of {ds : List D} (h : ∀ d ∈ ds, d.low = true) : D.lowA ds = true := by
  induction ds with
  | nil => rfl
  | cons a r ih => simp only [D.lowA, Bool.and_eq_true]; exact ⟨h a List.mem_cons_self, ih fun d hd => h d (List.mem_cons_of_mem _ hd)⟩
theorem bareD_tag (t : Str) (x : D) (r : List D) : bareD (.tup (.str t :: x :: r)) = if t = "again" then x else .tup (.str t :: x :: r) := rfl
/-- what the law makes at a depth -/
structure MdOk (k W : Nat) (d : D) : Prop where
  nd : nodeN k d = true
  ok : d.ok = true
  dep : d.dep ≤ k + 1
  sm : d.sm = true
  wt : d.wt ≤ W
  low : d.low = true
theorem MdOk.gd {k W : Nat} {d : D} (h : MdOk k W d) (hw : W ≤ 2 ^ 18) : Gd (k + 1) d := ⟨h.ok, h.dep, Nat.le_trans h.wt hw, h.sm⟩
theorem bare_cases {k : Nat} {d : D} (h : nodeN k d = true) : (bareD d = d ∧ (isSingle d || grp k d) = true) ∨ ∃ x i n, k = n + 1 ∧ d = .tup [.str "again", x, .int i] ∧ bareD d = x ∧ (isSingle x || grp n x) = true := by
  cases k with
  | zero =>
    obtain ⟨w, rfl, hw⟩ := node0 h
    refine .inl ⟨?_, ?_⟩
    · rw [bareD_tag, if_neg (by decide +kernel)]
    · unfold isSingle; simp [hw]
  | succ n =>
    rcases node_cases h with ⟨w, rfl, hw⟩ | ⟨x, i, rfl, h1, h2⟩ | ⟨r, rfl, h1, h2, h3⟩
    · refine .inl ⟨?_, ?_⟩
      · rw [bareD_tag, if_neg (by decide +kernel)]
      · unfold isSingle; simp [hw]
    · exact .inr ⟨x, i, n, rfl, rfl, by rw [bareD_tag, if_pos rfl], h2⟩
    · refine .inl ⟨?_, ?_⟩
      · cases r with
        | nil => simp at h1
        | cons a r => rw [bareD_tag, if_neg (by decide +kernel)]
      · have z : grp (n + 1) (.tup (.str "group" :: r)) = true := by
          rw [grp]
          unfold isGroupOf
          simp only [Bool.and_eq_true, decide_eq_true_eq]
          exact ⟨h1, trivial, h2, h3⟩
        rw [z, Bool.or_true]
theorem bare_ok {k W : Nat} {d : D} (h : MdOk k W d) : (isSingle (bareD d) || grp k (bareD d)) = true ∧ (bareD d).ok = true ∧ (bareD d).dep ≤ k + 1 ∧ (bareD d).sm = true ∧ (bareD d).wt ≤ W ∧ (bareD d).low = true := by
  rcases bare_cases h.nd with ⟨e, z⟩ | ⟨x, i, n, rfl, rfl, e, z⟩
  · rw [e]; exact ⟨z, h.ok, h.dep, h.sm, h.wt, h.low⟩
  · rw [e]
    have a := h.ok
    have b := h.dep
    have c := h.sm
    have f := h.wt
    have g := h.low
    simp only [D.ok, D.okA, Bool.and_eq_true] at a
    simp only [D.dep, D.depA] at b
    simp only [D.sm, D.smA, Bool.and_eq_true] at c
    simp only [D.wt, D.wtA] at f
    simp only [D.low, D.lowA, Bool.and_eq_true] at g
    refine ⟨?_, a.2.1, by omega, c.2.1, by omega, g.2.1⟩
    rcases Bool.or_eq_true_iff.mp z with z | z
    · rw [z]; rfl
    · rw [(ga_mono n x).1 z, Bool.or_true]
/-! ### the mirror -/
def cnts : List D := [.int 3, .int 30, .int (10 ^ 30 - 2)]
def cntM (q : Pu) : Int := intOf (oneOf q cnts)
theorem cntM_eq (q : Pu) : oneOf q cnts = .int (cntM q) ∧ 0 < cntM q ∧ cntM q ≤ 10 ^ 30 - 2 := by
  have := oneOf_mem (p := q) (xs := cnts) (by decide)
  unfold cntM
  simp only [cnts, List.mem_cons, List.not_mem_nil, or_false] at this
  rcases this with e | e | e <;> (rw [show oneOf q cnts = _ from e]; exact ⟨rfl, by decide, by decide⟩)
def few : List D := [.int 4, .int 9]
theorem few_eq (q : Pu) : oneOf q few = .int (intOf (oneOf q few)) ∧ 4 ≤ intOf (oneOf q few) ∧ intOf (oneOf q few) ≤ 9 := by
  have := oneOf_mem (p := q) (xs := few) (by decide)
  simp only [few, List.mem_cons, List.not_mem_nil, or_false] at this
  rcases this with e | e <;> (rw [show oneOf q few = _ from e]; exact ⟨rfl, by decide, by decide⟩)
def gM (k : Nat) (p : Pu) : Int × Pu := if k = 0 then (intOf (oneOf p few), drawP p 2) else (4, p)
theorem gM_ge (k : Nat) (p : Pu) : 4 ≤ (gM k p).1 ∧ (gM k p).1 ≤ (if k = 0 then 9 else 4) := by
  unfold gM
  split
  · exact (few_eq p).2
  · exact ⟨Int.le_refl 4, Int.le_refl 4⟩
def gN (k : Nat) (p : Pu) : Nat := (2 + drawN (gM k p).2 (gM k p).1).toNat
def gP (k : Nat) (p : Pu) : Pu := drawP (gM k p).2 (gM k p).1
def keep (ps : List D) (d : D) : Bool := match ps.getLast? with
  | none => true
  | some l => !(bareD l).eqv (bareD d)
def grpS (f : Pu → D × Pu) (p : Pu) : Nat → List D × Pu
  | 0 => ([], p)
  | j + 1 => (if keep (grpS f p j).1 (f (grpS f p j).2).1 then (grpS f p j).1 ++ [(f (grpS f p j).2).1] else (grpS f p j).1, (f (grpS f p j).2).2)
def bdN (p : Pu) (pool : List D) : D × Pu := (.tup [.str "bead", oneOf p pool], drawP p pool.length)
def madeN : Nat → List D → Pu → D × Pu
  | 0, pool, p => bdN p pool
  | k + 1, pool, p =>
    if drawN p 4 = 0 then bdN (drawP p 4) pool
    else if drawN p 4 = 1 then
      (.tup [.str "again", bareD (madeN k pool (drawP p 4)).1, .int (2 + drawNG (drawP (madeN k pool (drawP p 4)).2 3) (cntM (madeN k pool (drawP p 4)).2))], drawPG (drawP (madeN k pool (drawP p 4)).2 3) (cntM (madeN k pool (drawP p 4)).2))
    else
      (if 1 < (grpS (madeN k pool) (gP k (drawP p 4)) (gN k (drawP p 4))).1.length then .tup (.str "group" :: (grpS (madeN k pool) (gP k (drawP p 4)) (gN k (drawP p 4))).1) else (grpS (madeN k pool) (gP k (drawP p 4)) (gN k (drawP p 4))).1.headD .non,
        (grpS (madeN k pool) (gP k (drawP p 4)) (gN k (drawP p 4))).2)
end DL
end
section
set_option Elab.async false
set_option linter.all false
set_option maxRecDepth 100000
set_option maxHeartbeats 4000000
namespace DL
open PySem PySem.Spec PyProof.Rows L2
variable [TL]
structure WdOk (s : Str) : Prop where
  ex : ∃ cs : List Nat, 1 ≤ cs.length ∧ cs.length ≤ 20 ∧ (∀ c ∈ cs, 97 ≤ c ∧ c ≤ 122) ∧ s = ofCs cs
theorem join_cs (cs : List Nat) : Txt.join "" (cs.map fun n => (⟨#[n]⟩ : Str)) = ofCs cs := by
  rw [show Txt.join "" (cs.map fun n => (⟨#[n]⟩ : Str)) = Str.join "" (cs.map fun n => (⟨#[n]⟩ : Str)) from PySem.StrLaws.glued_eq_join _ _]
  have := PyProof.Rows.join_nil_signs (ofCs cs)
  have e : PyProof.Rows.signs (ofCs cs) = cs.map fun n => (⟨#[n]⟩ : Str) := by unfold PyProof.Rows.signs ofCs; simp
  rw [e] at this
  exact this
def sgnC : D → Nat
  | .str s => s.cps.toList.headD 97
  | _ => 97
theorem word_ok (p : Pu) {n : Nat} (h1 : 1 ≤ n) (h2 : n ≤ 20) : WdOk (wordN p n) := by
  refine ⟨(List.range n).map fun j => sgnC (signN (signPs p j)), by simpa using h1, by simpa using h2, fun c hc => ?_, ?_⟩
  · obtain ⟨j, _, rfl⟩ := List.mem_map.mp hc
    obtain ⟨c, a, b, e⟩ := signN_sg (signPs p j)
    rw [e]
    exact ⟨a, b⟩
  · unfold wordN
    rw [← join_cs, List.map_map]
    congr 1
    refine List.map_congr_left fun j _ => ?_
    obtain ⟨c, a, b, e⟩ := signN_sg (signPs p j)
    show DL.strOf _ = (⟨#[sgnC (signN (signPs p j))]⟩ : Str)
    rw [e]
    rfl
theorem sgn_ok {c : Nat} (h : 97 ≤ c ∧ c ≤ 122) : signOk (.str ⟨#[c]⟩) = true := by
  have ea : ("a" : Str).cps.toList = [97] := by decide +kernel
  have ez : ("z" : Str).cps.toList = [122] := by decide +kernel
  unfold signOk
  simp only [ea, ez, Bool.and_eq_true, Bool.not_eq_true', decide_eq_false_iff_not]
  refine ⟨fun z => ?_, fun z => ?_⟩
  · have z : [c] < [97] := z
    rw [List.cons_lt_cons_iff] at z
    rcases z with z | ⟨_, z⟩
    · omega
    · exact absurd z (by simp)
  · have z : [122] < [c] := z
    rw [List.cons_lt_cons_iff] at z
    rcases z with z | ⟨_, z⟩
    · omega
    · exact absurd z (by simp)
theorem WdOk.word {s : Str} (h : WdOk s) : isWord (.str s) = true := by
  obtain ⟨cs, h1, h2, h3, rfl⟩ := h.ex
  unfold isWord
  rw [Bool.and_eq_true]
  refine ⟨List.all_eq_true.mpr fun d hd => ?_, ?_⟩
  · obtain ⟨c, hc, rfl⟩ := List.mem_map.mp hd
    exact sgn_ok (h3 c (by simpa [ofCs] using hc))
  · simp only [Bool.not_eq_true', decide_eq_false_iff_not]
    intro z
    have := congrArg Str.length z
    rw [show (ofCs cs).length = cs.length from by simp [ofCs, Str.length], show ("" : Str).length = 0 from rfl] at this
    omega
theorem WdOk.len {s : Str} (h : WdOk s) : s.length ≤ 20 := by
  obtain ⟨cs, h1, h2, h3, rfl⟩ := h.ex
  rw [show (ofCs cs).length = cs.length from by simp [ofCs, Str.length]]
  exact h2
theorem WdOk.ok {s : Str} (h : WdOk s) : PyData.strOk s = true := by
  obtain ⟨cs, h1, h2, h3, rfl⟩ := h.ex
  unfold PyData.strOk ofCs
  rw [Array.all_eq_true']
  intro c hc
  have := h3 c (by simpa using hc)
  simp; omega

end DL
end
section
set_option Elab.async false
set_option linter.all false
set_option maxRecDepth 100000
set_option maxHeartbeats 4000000
namespace DL
open PySem PySem.Spec PyProof.Rows L2
variable [TL]
/-! ### what the law makes is a node -/
structure PoolOk (pool : List D) : Prop where
  l0 : 1 ≤ pool.length
  l1 : pool.length ≤ 10
  wd : ∀ d ∈ pool, ∃ s, d = .str s ∧ WdOk s
def WW : Nat → Nat
  | 0 => 26
  | 1 => 380
  | 2 => 2015
  | _ => 10190
def CC : Nat → Nat
  | 0 => 2
  | k + 1 => 10 * CC k + 20
theorem strOk_lit {s : String} (h : PyData.strOk (Str.ofString s) = true := by decide +kernel) : PyData.strOk (Str.ofString s) = true := h
theorem bd_ok {pool : List D} (hp : PoolOk pool) (p : Pu) (k W : Nat) (hW : 26 ≤ W) : MdOk k W (bdN p pool).1 := by
  obtain ⟨s, e, hs⟩ := hp.wd _ (oneOf_mem (p := p) hp.l0)
  have l := hs.len
  have eb : (Str.ofString "bead").length = 4 := by decide +kernel
  have ok1 : PyData.strOk (Str.ofString "bead") = true := by decide +kernel
  unfold bdN
  rw [e]
  refine ⟨?_, by simp [D.ok, D.okA, ok1, hs.ok], by simp [D.dep, D.depA], by simp [D.sm, D.smA], by simp only [D.wt, D.wtA, eb]; omega, by simp [D.low, D.lowA]⟩
  have : isSingle (.tup [.str "bead", .str s]) = true := by unfold isSingle; simp [hs.word]
  unfold nodeN
  rw [this]; rfl
theorem ag_ok {k W W' : Nat} {d : D} {v : Int} (h : MdOk k W d) (hW : W + 108 ≤ W') (v0 : 0 ≤ v) (v1 : v ≤ 10 ^ 30 - 3) : MdOk (k + 1) W' (.tup [.str "again", bareD d, .int (2 + v)]) := by
  obtain ⟨b1, b2, b3, b4, b5, b6⟩ := bare_ok h
  have eb : (Str.ofString "again").length = 5 := by decide +kernel
  have ok1 : PyData.strOk (Str.ofString "again") = true := by decide +kernel
  have lt : (2 + v).natAbs < 10 ^ 30 := by omega
  have lg : wtI (2 + v) ≤ 100 := by
    unfold wtI
    split
    · omega
    · have z : (2 + v).natAbs ≠ 0 := by omega
      have := (Nat.log2_lt (n := (2 + v).natAbs) (k := 100) z).mpr (Nat.lt_of_lt_of_le lt (by decide))
      omega
  refine ⟨?_, by simp [D.ok, D.okA, ok1, b2], by simp only [D.dep, D.depA]; omega, ?_, ?_, ?_⟩
  · have : agn (k + 1) (.tup [.str "again", bareD d, .int (2 + v)]) = true := by
      rw [agn]
      unfold isAgainOf
      simp only [Bool.and_eq_true, decide_eq_true_eq]
      exact ⟨trivial, ⟨decide_eq_true (by omega), decide_eq_true (by omega)⟩, b1⟩
    unfold nodeN
    rw [this]; simp
  · have : (2 + v).natAbs < 10 ^ 50 := Nat.lt_of_lt_of_le lt (by decide)
    simp only [D.sm, D.smA, b4, decide_eq_true this, Bool.true_and, Bool.and_true]
  · have wi : (if ((2 + v) == 0) = true then 0 else (2 + v).natAbs.log2 + 1) = wtI (2 + v) := rfl
    simp only [D.wt, D.wtA, eb]
    omega
  · have : (0 : Int) ≤ 2 + v ∧ 2 + v < 10 ^ 30 := by omega
    simp only [D.low, D.lowA, b6, decide_eq_true this, Bool.true_and, Bool.and_true]
def Adj (ps : List D) : Prop := ∀ i x y, ps[i]? = some x → ps[i + 1]? = some y → (bareD x).eqv (bareD y) = false
theorem adj_snoc {ps : List D} {d : D} (h : Adj ps) (hk : keep ps d = true) : Adj (ps ++ [d]) := by
  intro i x y hx hy
  have hi := (List.getElem?_eq_some_iff.mp hy).1
  rw [List.length_append, List.length_singleton] at hi
  by_cases e : i + 1 < ps.length
  · rw [List.getElem?_append_left (by omega)] at hx
    rw [List.getElem?_append_left e] at hy
    exact h i x y hx hy
  · have e : i + 1 = ps.length := by omega
    rw [List.getElem?_append_left (by omega)] at hx
    rw [List.getElem?_append_right (by omega), e, Nat.sub_self] at hy
    simp at hy
    subst hy
    unfold keep at hk
    have : ps.getLast? = some x := by rw [List.getLast?_eq_getElem?, ← e, Nat.add_sub_cancel]; exact hx
    rw [this] at hk
    simpa using hk
theorem gr_ok {k W W' n : Nat} {ps : List D} (h : ∀ d ∈ ps, MdOk k W d) (ha : Adj ps) (h2 : 2 ≤ ps.length) (hn : ps.length ≤ n) (hW : 6 + n * (W + 1) ≤ W') : MdOk (k + 1) W' (.tup (.str "group" :: ps)) := by
  have eb : (Str.ofString "group").length = 5 := by decide +kernel
  have ok1 : PyData.strOk (Str.ofString "group") = true := by decide +kernel
  have key : ∀ l : List D, (∀ d ∈ l, MdOk k W d) → D.okA l = true ∧ D.depA l ≤ k + 1 ∧ D.wtA l ≤ l.length * (W + 1) ∧ D.smA l = true ∧ D.lowA l = true := fun l => by
    induction l with
    | nil => intro _; simp [D.okA, D.depA, D.wtA, D.smA, D.lowA]
    | cons d l ih =>
      intro hh
      obtain ⟨a, b, c, e, f⟩ := ih fun x hx => hh x (List.mem_cons_of_mem _ hx)
      have hd := hh d (List.mem_cons_self ..)
      have w := hd.wt
      have dd := hd.dep
      refine ⟨by simp only [D.okA, hd.ok, a, Bool.and_self], by simp only [D.depA]; omega, ?_, by simp only [D.smA, hd.sm, e, Bool.and_self], by simp only [D.lowA, hd.low, f, Bool.and_self]⟩
      simp only [D.wtA, List.length_cons, Nat.add_mul]
      omega
  obtain ⟨a, b, c, e, f⟩ := key ps h
  have c2 : ps.length * (W + 1) ≤ n * (W + 1) := Nat.mul_le_mul_right _ hn
  refine ⟨?_, by simp [D.ok, D.okA, ok1, a], by simp only [D.dep, D.depA]; omega, by simp [D.sm, D.smA, e], by simp only [D.wt, D.wtA, eb]; omega, by simp [D.low, D.lowA, f]⟩
  have : grp (k + 1) (.tup (.str "group" :: ps)) = true := by
    rw [grp]
    unfold isGroupOf
    simp only [Bool.and_eq_true, decide_eq_true_eq]
    refine ⟨h2, trivial, List.all_eq_true.mpr fun d hd => (h d hd).nd, List.all_eq_true.mpr fun z hz => ?_⟩
    obtain ⟨j, hj, rfl⟩ := List.mem_map.mp hz
    have hj : j < ps.length - 1 := by simpa using hj
    have g1 : ps[j]? = some (ps[j]'(by omega)) := List.getElem?_eq_getElem (by omega)
    have g2 : ps[j + 1]? = some (ps[j + 1]'(by omega)) := List.getElem?_eq_getElem (by omega)
    have i1 : ((2 : Int) + (j : Int)) - 1 = ((j + 1 : Nat) : Int) := by omega
    have i2 : ((2 : Int) + (j : Int)) = ((j + 2 : Nat) : Int) := by omega
    show (!(bareD ((D.str "group" :: ps).getD (((2 : Int) + (j : Int)) - 1).toNat .non)).eqv (bareD ((D.str "group" :: ps).getD ((2 : Int) + (j : Int)).toNat .non))) = true
    rw [i1, i2, Int.toNat_natCast, Int.toNat_natCast, List.getD_eq_getElem?_getD, List.getD_eq_getElem?_getD, List.getElem?_cons_succ, List.getElem?_cons_succ, g1, g2]
    show (!(bareD (ps[j]'(by omega))).eqv (bareD (ps[j + 1]'(by omega)))) = true
    rw [ha j _ _ g1 g2]
    rfl
  unfold nodeN
  rw [this]; simp
theorem MdOk.up {k W W' : Nat} {d : D} (h : MdOk k W d) (hW : W ≤ W') : MdOk (k + 1) W' d := ⟨node_mono1 h.nd, h.ok, by have := h.dep; omega, h.sm, Nat.le_trans h.wt hW, h.low⟩
/-- a maker of parts -/
structure FOk (k W C : Nat) (f : Pu → D × Pu) : Prop where
  md : ∀ p, MdOk k W (f p).1
  pu : ∀ (L : Nat) (p : Pu), OkP L p → OkP (L + C) (f p).2
theorem grpS_md {k W C : Nat} {f : Pu → D × Pu} (F : FOk k W C f) {p : Pu} : ∀ j, (∀ d ∈ (grpS f p j).1, MdOk k W d) ∧ Adj (grpS f p j).1 ∧ (grpS f p j).1.length ≤ j ∧ (1 ≤ j → 1 ≤ (grpS f p j).1.length)
  | 0 => ⟨fun d hd => by simp [grpS] at hd, fun i x y hx _ => by simp [grpS] at hx, by simp [grpS], fun h => absurd h (by decide)⟩
  | j + 1 => by
    obtain ⟨a, b, c, g⟩ := grpS_md F (p := p) j
    rw [grpS]
    by_cases hk : keep (grpS f p j).1 (f (grpS f p j).2).1 = true
    · rw [if_pos hk]
      refine ⟨fun d hd => ?_, adj_snoc b hk, by simp only [List.length_append, List.length_singleton]; omega, fun _ => by simp⟩
      rcases List.mem_append.mp hd with hd | hd
      · exact a d hd
      · rw [List.mem_singleton.mp hd]; exact F.md _
    · rw [if_neg hk]
      refine ⟨a, b, Nat.le_succ_of_le c, fun _ => ?_⟩
      cases q : (grpS f p j).1 with
      | nil => rw [q] at hk; exact absurd rfl hk
      | cons _ _ => simp
theorem grpS_pu {k W C L : Nat} {f : Pu → D × Pu} (F : FOk k W C f) {p : Pu} (op : OkP L p) : ∀ j, OkP (L + j * C) (grpS f p j).2
  | 0 => by simpa [grpS] using op
  | j + 1 => by
    have e2 := F.pu _ _ (grpS_pu F op j)
    exact e2.mono (by rw [Nat.add_mul]; omega)
theorem gN_le (k : Nat) (p : Pu) : 2 ≤ gN k p ∧ gN k p ≤ (if k = 0 then 10 else 5) := by
  have g := gM_ge k p
  have d := drawN_ge (p := (gM k p).2) (m := (gM k p).1) (by omega)
  unfold gN
  split
  · rename_i z; rw [if_pos z] at g; omega
  · rename_i z; rw [if_neg z] at g; omega
theorem gP_ok {L : Nat} (k : Nat) {p : Pu} (h : OkP L p) : OkP (L + 2) (gP k p) := by
  have g := gM_ge k p
  unfold gP
  refine (drawP_ok (L := L + 1) ?_ (by omega)).mono (by omega)
  unfold gM
  split
  · exact drawP_ok h (by decide)
  · exact h.mono (by omega)
theorem made_ok {pool : List D} (hp : PoolOk pool) : ∀ k, k ≤ 3 → FOk k (WW k) (CC k) (madeN k pool)
  | 0, _ => ⟨fun p => bd_ok hp p 0 26 (Nat.le_refl _), fun L p h => (drawP_ok h (by have := hp.l0; omega)).mono (by show L + 1 ≤ L + 2; omega)⟩
  | k + 1, h3 => by
    have F := made_ok hp k (by omega)
    have w : 26 ≤ WW (k + 1) ∧ WW k + 108 ≤ WW (k + 1) ∧ 6 + (if k = 0 then 10 else 5) * (WW k + 1) ≤ WW (k + 1) := by
      match k, h3 with
      | 0, _ => decide
      | 1, _ => decide
      | 2, _ => decide
    have pl : (0 : Int) < pool.length := by have := hp.l0; omega
    refine ⟨fun p => ?_, fun L p h => ?_⟩
    · rw [madeN]
      split
      · exact bd_ok hp _ _ _ w.1
      · split
        · have c := cntM_eq (madeN k pool (drawP p 4)).2
          have d := drawNG_ge (p := drawP (madeN k pool (drawP p 4)).2 3) c.2.1
          exact ag_ok (F.md _) w.2.1 d.1 (by omega)
        · obtain ⟨a, b, c, e⟩ := grpS_md F (p := gP k (drawP p 4)) (gN k (drawP p 4))
          have g := gN_le k (drawP p 4)
          show MdOk _ _ (if _ then _ else _)
          split
          · rename_i z
            exact gr_ok a b z (Nat.le_trans c g.2) w.2.2
          · have e1 := e (by omega)
            cases q : (grpS (madeN k pool) (gP k (drawP p 4)) (gN k (drawP p 4))).1 with
            | nil => rw [q] at e1; simp at e1
            | cons x r => exact (a x (by rw [q]; exact List.mem_cons_self)).up (by omega)
    · have h1 := drawP_ok (m := 4) h (by decide)
      rw [madeN]
      split
      · exact (drawP_ok h1 pl).mono (by show _ ≤ L + (10 * CC k + 20); omega)
      · split
        · have c := cntM_eq (madeN k pool (drawP p 4)).2
          have h2 := F.pu _ _ h1
          have h3 := drawP_ok (m := 3) h2 (by decide)
          exact (drawPG_ok h3 c.2.1 (by have := c.2.2; omega)).mono (by show _ ≤ L + (10 * CC k + 20); omega)
        · have h2 := gP_ok k h1
          have g := gN_le k (drawP p 4)
          have := grpS_pu F h2 (gN k (drawP p 4))
          refine this.mono ?_
          show _ ≤ L + (10 * CC k + 20)
          have : gN k (drawP p 4) * CC k ≤ 10 * CC k := Nat.mul_le_mul_right _ (by have := g.2; split at this <;> omega)
          omega
end DL
end
section
set_option Elab.async false
set_option linter.all false
set_option maxRecDepth 100000
set_option maxHeartbeats 4000000
namespace DL
open PySem PySem.Spec PyProof.Rows L2
variable [TL]
section
variable {X : Cx} {δ δ1 : List DV} {a b : Expr} {pos p1 : Pos} {y : D}
theorem de_neg {i : Int} (h : DE X δ a (.d (.int i)) δ1) : DE X δ (.UnaryOp .USub a pos) (.d (.int (-i))) δ1 := (pe_un un_neg h).imp fun σ H Q ⟨F, R, k⟩ => ⟨F, R, fun v F1 H1 g R1 r => by
  cases r
  exact ⟨i, rfl, k _ F1 H1 g R1 (.int _)⟩⟩
theorem dt_eqO {i m : Nat} {n : Str} {xs : List D} {k : Bool} (hr : Room m X.A) (hx : (D.lst xs).sh) (hy : y.sh) (hN : X.N[i]? = some n) (hv : Vis X.env.scope n) (h : δ[i]? = some (.ow xs)) (hb : DE X δ b (.d y) δ) (hk : (D.lst xs).eqv y = k)
    (hd : (n == ("__debug__" : Str)) = false := by decide) (hcd : (n == ("__classdict__" : Str)) = false := by decide) : DT X δ (.Compare (.Name n p1) [.Eq] [b] pos) k δ :=
  dt_cmpO (op_eqD hr.units) hN hv h hb (fun F H v u Q e rv ru k' => ⟨(D.lst xs).py, y.py, rv.dp e hx.1, ru.dp e hy.1, hx.py, hy.py, k' _ (by rw [← hk]; exact .bl _)⟩) (nomark _) hd hcd
end
theorem ixN_last {n : Nat} : L2.ixN (n + 1) (-1) = some n := by
  unfold L2.ixN
  rw [if_neg (by decide), if_pos (by omega)]
  congr 1
  omega
theorem atI_lastO {α : Type} {xs : List α} {z : α} (h : xs.getLast? = some z) : L2.atI xs (-1) = some z := by
  obtain ⟨ys, rfl⟩ := List.getLast?_eq_some_iff.mp h
  have e : L2.ixN (ys ++ [z]).length (-1) = some ys.length := by rw [List.length_append]; exact ixN_last
  unfold L2.atI
  rw [e]
  simp
theorem int_eqv (i j : Int) : (D.int i).eqv (.int j) = decide (i = j) := by
  simp [D.eqv, D.py, PyData.eqv]
  by_cases h : i = j <;> simp [h]
theorem lst_nil_eqv (xs : List D) : (D.lst xs).eqv (.lst []) = decide (xs = []) := by
  cases xs <;> simp [D.eqv, D.py, D.pyA, PyData.eqv, PyData.eqvAll]
theorem made_shape {k W : Nat} {d : D} (h : MdOk k W d) : ∃ t x r, d = .tup (.str t :: x :: r) := node_shape h.nd
end DL
namespace W76
open PySem PySem.Spec PyProof.Rows L2 DL Hd
variable [TL]
variable {P : Program} {w : World} {K : PySem.W.Frag} {mg : Str → Option Value} {base : Heap}
abbrev NLm : List Str := ["purse", "pool", "deep", "way", "node", "parts", "spin", "part"]
theorem sc_made : FnScope NLm ["purse", "pool", "deep"] (defScope s__law_made) := ⟨rfl, rfl, rfl, by decide +kernel, rfl, by decide +kernel, by decide +kernel⟩
def RMade (k L : Nat) : RelD := fun args r args' => ∃ (p : Pu) (pool : List D), OkP L p ∧ PoolOk pool ∧ args = [.ow (pz p), .d (.lst pool), .d (.int (k : Int))] ∧ r = .d (madeN k pool p).1 ∧ args' = [.ow (pz (madeN k pool p).2), .d (.lst pool), .d (.int (k : Int))]
theorem WW_le (k : Nat) : WW k ≤ 10190 := by
  match k with
  | 0 => decide
  | 1 => decide
  | 2 => decide
  | _ + 3 => exact Nat.le_refl _
theorem made_bead (T : DfP K mg) {f : Addr} {cdv : Value} {A : Around} {outer : List Env} {s0 : Shared} {H : Hp} {E : XK} {j L : Nat} (hL : L ≤ 2 ^ 60) (hr : Room (j + 3) (cxOf (L2.CX P w) P w K mg base NLm "_law_made" (defScope s__law_made) f cdv A outer s0 H E).A) {p : Pu} {pool : List D} (op : OkP L p) (hp : PoolOk pool) {k v : Int} {p1 p2 p3 p4 p5 p6 : Pos} {j1 j2 : Nat} :
    DE (cxOf (L2.CX P w) P w K mg base NLm "_law_made" (defScope s__law_made) f cdv A outer s0 H E) [.ow (pz p), .d (.lst pool), .d (.int k), .d (.int v), .un, .un, .un, .un] (.Tuple [.Constant (.str "bead") j1 p1, .Call (.Name "_law_one_of" p2) [.Name "purse" p3, .Name "pool" p4] [] p5] j2 p6) (.d (bdN p pool).1) [.ow (pz (bdN p pool).2), .d (.lst pool), .d (.int k), .d (.int v), .un, .un, .un, .un] :=
  de_tup (ds := [.str "bead", oneOf p pool]) (da_cons de_str (da_cons (de_callQ 0 (pz p) (pz (drawP p pool.length)) (.d (oneOf p pool)) (fd_one_of T (L := L) hL) (hr.mono (by omega)) rfl (da_o 0 (da_cons (de_v 1) da_nil)) rfl rfl ⟨p, pool, op, hp.l0, by have := hp.l1; omega, rfl, rfl, rfl⟩) da_nil)) rfl (by show 2 ≤ sizeLine; decide)
theorem fd_made0 (T : DfP K mg) (Dm : Df K mg "_law_made" s__law_made) {L : Nat} (hL : L ≤ 2 ^ 60) : FD P w K mg base 5 "_law_made" ["purse", "pool", "deep"] (RMade 0 L) noX :=
  Dm.fd (fun _ _ _ _ _ _ us hl => match us, hl with | [_, _, _], _ => rfl) fun f fd F => fn_rel0 F sc_made (fun _ _ _ ⟨_, _, _, _, h, _⟩ => by rw [h]; rfl) (fun cdv A outer s0 H E hr args r args' ⟨p, pool, op, hp, e1, e2, e3⟩ => by
    subst e1 e2 e3
    exact ret1 (ys := pz (madeN 0 pool p).2) (dss_cons (ds_set (i := 3) (x := .int 0) sc_made.nd rfl (.inl rfl) (by simp) (de_ifF (dt_gt (de_v 2) de_int (decide_eq_false (by decide))) rfl de_int))
      (dss_stop (ds_ifT (dt_eq hr sh_int sh_int (de_v 3) de_int (by rw [int_eqv]; rfl)) rfl (dss_one (ds_ret (made_bead T hL (j := 1) hr op hp)))) (fun _ h => nomatch h))) rfl rfl)
end W76
end
section
set_option Elab.async false
set_option linter.all false
set_option maxRecDepth 100000
set_option maxHeartbeats 4000000
namespace W76
open PySem PySem.Spec PyProof.Rows L2 DL Hd
variable [TL]
variable {P : Program} {w : World} {K : PySem.W.Frag} {mg : Str → Option Value} {base : Heap}
section
variable {f : Addr} {cdv : Value} {A : Around} {outer : List Env} {s0 : Shared} {H : Hp} {E : XK} {j L : Nat}
theorem made_few (T : DfP K mg) (hL : L + 2 ≤ 2 ^ 60) (hr : Room (j + 3) (cxOf (L2.CX P w) P w K mg base NLm "_law_made" (defScope s__law_made) f cdv A outer s0 H E).A) {p : Pu} {pool : List D} (op : OkP L p) {k : Nat} {v : Int} {p1 p2 p3 p4 p5 p6 p7 p8 p9 p10 p11 : Pos} {j1 j2 j3 j4 : Nat} :
    DE (cxOf (L2.CX P w) P w K mg base NLm "_law_made" (defScope s__law_made) f cdv A outer s0 H E) [.ow (pz p), .d (.lst pool), .d (.int ((k + 1 : Nat) : Int)), .d (.int v), .un, .ow [], .un, .un] (.IfExp (.Compare (.Name "deep" p1) [.Eq] [.Constant (.int 1) j1 p2] p3) (.Call (.Name "_law_one_of" p4) [.Name "purse" p5, .List [.Constant (.int 4) j2 p6, .Constant (.int 9) j3 p7] p8] [] p9) (.Constant (.int 4) j4 p10) p11) (.d (.int (gM k p).1)) [.ow (pz (gM k p).2), .d (.lst pool), .d (.int ((k + 1 : Nat) : Int)), .d (.int v), .un, .ow [], .un, .un] := by
  by_cases h : k = 0
  · subst h
    exact de_ifT (dt_eq hr sh_int sh_int (de_v 2) de_int (by rw [int_eqv]; rfl)) rfl (de_to (de_callQ 0 (pz p) (pz (drawP p 2)) (.d (oneOf p few)) (fd_one_of T (L := L) (by omega)) (hr.mono (by omega)) rfl (da_o 0 (da_cons (de_frz (de_lst (da_cons de_int (da_cons de_int da_nil)) rfl (by decide))) da_nil)) rfl rfl ⟨p, few, op, by decide, by decide, rfl, rfl, rfl⟩) (by rw [(few_eq p).1]; rfl))
  · have e1 : (gM k p).1 = 4 := by unfold gM; rw [if_neg h]
    have e2 : (gM k p).2 = p := by unfold gM; rw [if_neg h]
    rw [e1, e2]
    exact de_ifF (dt_eq hr sh_int sh_int (de_v 2) de_int (by rw [int_eqv]; exact decide_eq_false (by omega))) rfl de_int
theorem cnt30 : (10 : Int) ^ ((30 : Int).toNat) - 2 = 10 ^ 30 - 2 := by decide
theorem made_cnt (T : DfP K mg) (hL : L + 2 ≤ 2 ^ 60) (hr : Room (j + 3) (cxOf (L2.CX P w) P w K mg base NLm "_law_made" (defScope s__law_made) f cdv A outer s0 H E).A) {p : Pu} {pool : List D} (op : OkP L p) {k : Int} {v : Int} {x : D} {p1 p2 p3 p4 p5 p6 p7 p8 p9 p10 p11 p12 p13 pos : Pos} {j1 j2 j3 j4 j5 : Nat} :
    DE (cxOf (L2.CX P w) P w K mg base NLm "_law_made" (defScope s__law_made) f cdv A outer s0 H E) [.ow (pz p), .d (.lst pool), .d (.int k), .d (.int v), .d x, .un, .un, .un] (.Call (.Name "_law_draw" p1) [.Name "purse" p2, .Call (.Name "_law_one_of" p3) [.Name "purse" p4, .List [.Constant (.int 3) j1 p5, .Constant (.int 30) j2 p6, .BinOp (.BinOp (.Constant (.int 10) j3 p7) .Pow (.Constant (.int 30) j4 p8) p9) .Sub (.Constant (.int 2) j5 p10) p11] p12] [] p13] [] pos) (.d (.int (drawNG (drawP p 3) (cntM p)))) [.ow (pz (drawPG (drawP p 3) (cntM p))), .d (.lst pool), .d (.int k), .d (.int v), .d x, .un, .un, .un] := by
  have c := cntM_eq p
  have o3 := drawP_ok (m := 3) op (by decide)
  exact de_callQ 0 (pz (drawP p 3)) (pz (drawPG (drawP p 3) (cntM p))) (.d (.int (drawNG (drawP p 3) (cntM p)))) (fd_drawG T.B (L := L + 1) (by omega) T.mixed T.draw) (hr.mono (by omega)) rfl
    (da_o 0 (δ2 := [.ow (pz (drawP p 3)), .d (.lst pool), .d (.int k), .d (.int v), .d x, .un, .un, .un]) (da_cons (de_to (de_callQ 0 (pz p) (pz (drawP p 3)) (.d (oneOf p cnts)) (fd_one_of T (L := L) (by omega)) (hr.mono (by omega)) rfl (da_o 0 (da_cons (de_frz (de_lst (ds := cnts) (da_cons de_int (da_cons de_int (da_cons (de_to (de_sub (de_pow de_int de_int ⟨by decide, by decide, by decide⟩) de_int) (by rw [cnt30])) da_nil))) rfl (by decide))) da_nil)) rfl rfl ⟨p, cnts, op, by decide, by decide, rfl, rfl, rfl⟩) (by rw [c.1])) da_nil)) rfl rfl ⟨drawP p 3, cntM p, o3, c.2.1, by have := c.2.2; omega, rfl, rfl, rfl⟩
end
end W76
end
section
set_option Elab.async false
set_option linter.all false
set_option maxRecDepth 100000
set_option maxHeartbeats 4000000
namespace W76
open PySem PySem.Spec PyProof.Rows L2 DL Hd
variable [TL]
variable {P : Program} {w : World} {K : PySem.W.Frag} {mg : Str → Option Value} {base : Heap}
abbrev forB : Stmt → List Stmt
  | .For _ _ b _ _ => b
  | _ => []
theorem pre1 {k : Nat} : (((k + 1 : Nat) : Int) - 1) = (k : Int) := by omega
abbrev sl6 : Nat → DV
  | 0 => .un
  | i + 1 => .d (.int (0 + (i : Int)))
abbrev sl7 (g : Pu → D × Pu) (q : Pu) : Nat → DV
  | 0 => .un
  | i + 1 => .d (g (grpS g q i).2).1
theorem mds_sh {k W : Nat} {ps : List D} (h : ∀ d ∈ ps, MdOk k W d) (hk : k ≤ 60) : (D.lst ps).sh := by
  have key : ∀ l : List D, (∀ d ∈ l, MdOk k W d) → D.okA l = true ∧ D.depA l ≤ k + 1 := fun l => by
    induction l with
    | nil => intro _; simp [D.okA, D.depA]
    | cons d l ih =>
      intro hh
      obtain ⟨a, b⟩ := ih fun x hx => hh x (List.mem_cons_of_mem _ hx)
      have hd := hh d (List.mem_cons_self ..)
      have dd := hd.dep
      exact ⟨by simp only [D.okA, hd.ok, a, Bool.and_self], by simp only [D.depA]; omega⟩
  obtain ⟨a, b⟩ := key ps h
  exact ⟨by simpa [D.ok] using a, by simp only [D.dep]; omega⟩
theorem fd_madeS (T : DfP K mg) (D0 : Df K mg "_law_bare" s__law_bare) (Dm : Df K mg "_law_made" s__law_made) {k L : Nat} (hk : k + 1 ≤ 3) (hL : L + CC (k + 1) + 10 ≤ 2 ^ 60) (G : ∀ L', L' + CC k + 10 ≤ 2 ^ 60 → FD P w K mg base (k + 5) "_law_made" ["purse", "pool", "deep"] (RMade k L') noX) : FD P w K mg base (k + 6) "_law_made" ["purse", "pool", "deep"] (RMade (k + 1) L) noX :=
  Dm.fd (fun _ _ _ _ _ _ us hl => match us, hl with | [_, _, _], _ => rfl) fun f fd F => fn_rel0 F sc_made (fun _ _ _ ⟨_, _, _, _, h, _⟩ => by rw [h]; rfl) (fun cdv A outer s0 H E hr args r args' ⟨p, pool, op, hp, e1, e2, e3⟩ => by
    subst e1 e2 e3
    have B := T.B
    have big := szl
    have hCC : CC (k + 1) = 10 * CC k + 20 := rfl
    have FO := made_ok hp k (by omega)
    have wk : WW k ≤ 2 ^ 18 := Nat.le_trans (WW_le k) (by decide)
    have o1 := drawP_ok (m := 4) op (by decide)
    have d4 := drawN_ge (p := p) (m := 4) (by decide)
    have way : ∀ {p1 p2 p3 p4 p5 p6 p7 p8 p9 : Pos} {j1 j2 j3 : Nat}, DE (cxOf (L2.CX P w) P w K mg base NLm "_law_made" (defScope s__law_made) f cdv A outer s0 H E) [.ow (pz p), .d (.lst pool), .d (.int ((k + 1 : Nat) : Int)), .un, .un, .un, .un, .un] (.IfExp (.Compare (.Name "deep" p1) [.Gt] [.Constant (.int 0) j1 p2] p3) (.Call (.Name "_law_draw" p4) [.Name "purse" p5, .Constant (.int 4) j2 p6] [] p7) (.Constant (.int 0) j3 p8) p9) (.d (.int (drawN p 4))) [.ow (pz (drawP p 4)), .d (.lst pool), .d (.int ((k + 1 : Nat) : Int)), .un, .un, .un, .un, .un] := fun {_ _ _ _ _ _ _ _ _ _ _ _} =>
      de_ifT (dt_gt (de_v 2) de_int (decide_eq_true (by omega))) rfl (de_callQ 0 (pz p) (pz (drawP p 4)) (.d (.int (drawN p 4))) (fd_draw B (L := L) (by omega) T.mixed T.draw) (hr.mono (by omega)) rfl (da_o 0 (da_cons de_int da_nil)) rfl rfl ⟨p, 4, op, by decide, by decide, rfl, rfl, rfl⟩)
    have e0 : ∀ z, (D.int (drawN p 4)).eqv (.int z) = decide (drawN p 4 = z) := fun z => int_eqv _ _
    by_cases h0 : drawN p 4 = 0
    · have eq : madeN (k + 1) pool p = bdN (drawP p 4) pool := by rw [madeN, if_pos h0]
      rw [eq]
      exact ret1 (ys := pz (bdN (drawP p 4) pool).2) (dss_cons (ds_set (i := 3) (x := .int (drawN p 4)) sc_made.nd rfl (.inl rfl) (by simp) way)
        (dss_stop (ds_ifT (dt_eq hr sh_int sh_int (de_v 3) de_int (by rw [e0]; exact decide_eq_true h0)) rfl (dss_one (ds_ret (made_bead T (L := L + 1) (by omega) (j := k + 2) hr o1 hp)))) (fun _ h => nomatch h))) rfl rfl
    · by_cases h1 : drawN p 4 = 1
      · have eq : madeN (k + 1) pool p = (.tup [.str "again", bareD (madeN k pool (drawP p 4)).1, .int (2 + drawNG (drawP (madeN k pool (drawP p 4)).2 3) (cntM (madeN k pool (drawP p 4)).2))], drawPG (drawP (madeN k pool (drawP p 4)).2 3) (cntM (madeN k pool (drawP p 4)).2)) := by rw [madeN, if_neg h0, if_pos h1]
        rw [eq]
        have m1 := FO.md (drawP p 4)
        have o2 := FO.pu _ _ o1
        generalize hq : madeN k pool (drawP p 4) = q at *
        have shq := made_shape m1
        exact ret1 (ys := pz (drawPG (drawP q.2 3) (cntM q.2))) (dss_cons (ds_set (i := 3) (x := .int (drawN p 4)) sc_made.nd rfl (.inl rfl) (by simp) way)
          (dss_cons (ds_ifF (dt_eq hr sh_int sh_int (de_v 3) de_int (by rw [e0]; exact decide_eq_false h0)) rfl dss_nil)
          (dss_stop (ds_ifT (dt_eq hr sh_int sh_int (de_v 3) de_int (by rw [e0]; exact decide_eq_true h1)) rfl
            (dss_cons (ds_set (i := 4) (x := q.1) sc_made.nd rfl (.inl rfl) (by simp) (de_callQ 0 (pz (drawP p 4)) (pz q.2) (.d q.1) (G (L + 1) (by omega)) hr rfl (da_o 0 (da_cons (de_v 1) (da_cons (de_to (de_sub (de_v 2) de_int) (by rw [pre1])) da_nil))) rfl rfl ⟨drawP p 4, pool, o1, hp, rfl, by rw [hq], by rw [hq]; rfl⟩))
            (dss_one (ds_ret (de_tup (ds := [.str "again", bareD q.1, .int (2 + drawNG (drawP q.2 3) (cntM q.2))]) (da_cons de_str (da_cons (de_call (r := .d (bareD q.1)) (fd_lbare D0) (hr.mono (by omega)) rfl (da_cons (de_v 4) da_nil) rfl (R1.of ⟨(m1.gd wk).mono (by omega), shq⟩)) (da_cons (de_add de_int (made_cnt T (L := L + 1 + CC k) (by omega) (j := k + 2) hr o2)) da_nil))) rfl (by show 3 ≤ sizeLine; decide))))) ) (fun _ h => nomatch h)))) rfl rfl
      · have eq : madeN (k + 1) pool p = (if 1 < (grpS (madeN k pool) (gP k (drawP p 4)) (gN k (drawP p 4))).1.length then .tup (.str "group" :: (grpS (madeN k pool) (gP k (drawP p 4)) (gN k (drawP p 4))).1) else (grpS (madeN k pool) (gP k (drawP p 4)) (gN k (drawP p 4))).1.headD .non, (grpS (madeN k pool) (gP k (drawP p 4)) (gN k (drawP p 4))).2) := by rw [madeN, if_neg h0, if_neg h1]
        rw [eq]
        have gm := gM_ge k (drawP p 4)
        have gn := gN_le k (drawP p 4)
        have gp := gP_ok k o1
        have og : OkP (L + 1 + 1) (gM k (drawP p 4)).2 := by
          unfold gM
          split
          · exact drawP_ok o1 (by decide)
          · exact o1.mono (by omega)
        have dg := drawN_ge (p := (gM k (drawP p 4)).2) (m := (gM k (drawP p 4)).1) (by omega)
        have gm9 : (gM k (drawP p 4)).1 ≤ 9 := by have := gm.2; split at this <;> omega
        have gn10 : gN k (drawP p 4) ≤ 10 := by have := gn.2; split at this <;> omega
        have hcall : ∀ j, j ≤ 10 → OkP (L + 3 + j * CC k) (grpS (madeN k pool) (gP k (drawP p 4)) j).2 := fun j hj => (grpS_pu FO gp j).mono (by omega)
        have hmul : ∀ j, j ≤ 10 → j * CC k ≤ 10 * CC k := fun j hj => Nat.mul_le_mul_right _ hj
        obtain ⟨n, hn⟩ : ∃ n, n = gN k (drawP p 4) := ⟨_, rfl⟩
        obtain ⟨q, hq⟩ : ∃ q, q = gP k (drawP p 4) := ⟨_, rfl⟩
        obtain ⟨g, hg⟩ : ∃ g, g = madeN k pool := ⟨_, rfl⟩
        rw [← hn, ← hq, ← hg]
        rw [← hq, ← hg] at hcall
        rw [← hg] at FO
        rw [← hn] at gn10
        have fm := grpS_md FO (p := q) n
        have rest : ∀ (r : D) (δ' : List DV) (st : Stmt), DS (cxOf (L2.CX P w) P w K mg base NLm "_law_made" (defScope s__law_made) f cdv A outer s0 H E) [0] [.ow (pz (grpS g q n).2), .d (.lst pool), .d (.int ((k + 1 : Nat) : Int)), .d (.int (drawN p 4)), .un, .ow (grpS g q n).1, sl6 n, sl7 g q n] st (.rt (.d r) δ') → True := fun _ _ _ _ => trivial
        have loop : ∀ (st : Stmt) (r : DV) (δ' : List DV), st = (defBody s__law_made).getD 5 default → DS (cxOf (L2.CX P w) P w K mg base NLm "_law_made" (defScope s__law_made) f cdv A outer s0 H E) [0] [.ow (pz (grpS g q n).2), .d (.lst pool), .d (.int ((k + 1 : Nat) : Int)), .d (.int (drawN p 4)), .un, .ow (grpS g q n).1, sl6 n, sl7 g q n] st (.rt r δ') →
            DSs (cxOf (L2.CX P w) P w K mg base NLm "_law_made" (defScope s__law_made) f cdv A outer s0 H E) [0] (ent [.ow (pz p), .d (.lst pool), .d (.int ((k + 1 : Nat) : Int))] 5) (defBody s__law_made) (.rt r δ') := fun st r δ' hst hfin => by
          subst hst
          refine dss_cons (ds_set (i := 3) (x := .int (drawN p 4)) sc_made.nd rfl (.inl rfl) (by simp) way)
            (dss_cons (ds_ifF (dt_eq hr sh_int sh_int (de_v 3) de_int (by rw [e0]; exact decide_eq_false h0)) rfl dss_nil)
            (dss_cons (ds_ifF (dt_eq hr sh_int sh_int (de_v 3) de_int (by rw [e0]; exact decide_eq_false h1)) rfl dss_nil)
            (dss_cons (ds_setO (i := 5) (xs := []) sc_made.nd rfl (.inl rfl) (by simp) (de_lst da_nil rfl (by decide)))
            (dss_cons (δ1 := [.ow (pz (grpS g q n).2), .d (.lst pool), .d (.int ((k + 1 : Nat) : Int)), .d (.int (drawN p 4)), .un, .ow (grpS g q n).1, sl6 n, sl7 g q n]) (ds_to (ds_for (items := irange 0 n) (δ1 := [.ow (pz q), .d (.lst pool), .d (.int ((k + 1 : Nat) : Int)), .d (.int (drawN p 4)), .un, .ow [], .un, .un]) (X := cxOf (L2.CX P w) P w K mg base NLm "_law_made" (defScope s__law_made) f cdv A outer s0 H E) (pn := [0]) (passes_of rfl) rfl
              (di_to (di_range1 (n := 2 + drawN (gM k (drawP p 4)).2 (gM k (drawP p 4)).1) rfl B.rng (de_add de_int (de_callQ 0 (pz (gM k (drawP p 4)).2) (pz q) (.d (.int (drawN (gM k (drawP p 4)).2 (gM k (drawP p 4)).1))) (fd_draw B (L := L + 2) (by omega) T.mixed T.draw) (hr.mono (by omega)) rfl
                (da_o 0 (δ2 := [.ow (pz (gM k (drawP p 4)).2), .d (.lst pool), .d (.int ((k + 1 : Nat) : Int)), .d (.int (drawN p 4)), .un, .ow [], .un, .un]) (da_cons (made_few T (L := L + 1) (by omega) (j := k + 2) hr o1) da_nil)) rfl rfl ⟨(gM k (drawP p 4)).2, (gM k (drawP p 4)).1, og, by omega, by omega, rfl, rfl, by rw [hq]; rfl⟩ (by rw [hq]; rfl))) (by omega)) (by rw [hn]; rfl))
              (fun j => [.ow (pz (grpS g q j).2), .d (.lst pool), .d (.int ((k + 1 : Nat) : Int)), .d (.int (drawN p 4)), .un, .ow (grpS g q j).1, sl6 j, sl7 g q j]) (fun j => [.ow (pz (grpS g q j).2), .d (.lst pool), .d (.int ((k + 1 : Nat) : Int)), .d (.int (drawN p 4)), .un, .ow (grpS g q j).1, .d (.int (0 + (j : Int))), sl7 g q j]) rfl (fun j d hd => ?_) (fun j d hj hd => ?_)) ?_)
            (dss_one hfin)))))
          · have hj : j < n := by
              have := (List.getElem?_eq_some_iff.mp hd).1
              rwa [irange_len] at this
            rw [irange_get hj] at hd
            cases hd
            exact dg_name (X := cxOf (L2.CX P w) P w K mg base NLm "_law_made" (defScope s__law_made) f cdv A outer s0 H E) (pn := [0]) (x := .int (0 + (j : Int))) (δ := [.ow (pz (grpS g q j).2), .d (.lst pool), .d (.int ((k + 1 : Nat) : Int)), .d (.int (drawN p 4)), .un, .ow (grpS g q j).1, sl6 j, sl7 g q j]) (i := 6) sc_made.nd rfl (.inl rfl) (by simp)
          · have hj : j < n := by rwa [irange_len] at hj
            have oj := hcall j (by omega)
            have hm : j * CC k + CC k ≤ 10 * CC k := by have := hmul (j + 1) (by omega); rwa [Nat.succ_mul] at this
            have mj := FO.md (grpS g q j).2
            have pj := grpS_md FO (p := q) j
            have st1 : ∀ {p1 p2 p3 p4 p5 p6 p7 p8 p9 : Pos} {j1 : Nat}, DS (cxOf (L2.CX P w) P w K mg base NLm "_law_made" (defScope s__law_made) f cdv A outer s0 H E) [0] [.ow (pz (grpS g q j).2), .d (.lst pool), .d (.int ((k + 1 : Nat) : Int)), .d (.int (drawN p 4)), .un, .ow (grpS g q j).1, .d (.int (0 + (j : Int))), sl7 g q j] (.Assign [.Name "part" p1] (.Call (.Name "_law_made" p2) [.Name "purse" p3, .Name "pool" p4, .BinOp (.Name "deep" p5) .Sub (.Constant (.int 1) j1 p6) p7] [] p8) p9) (.nx [.ow (pz (g (grpS g q j).2).2), .d (.lst pool), .d (.int ((k + 1 : Nat) : Int)), .d (.int (drawN p 4)), .un, .ow (grpS g q j).1, .d (.int (0 + (j : Int))), .d (g (grpS g q j).2).1]) := fun {_ _ _ _ _ _ _ _ _ _} => ds_to (ds_set (X := cxOf (L2.CX P w) P w K mg base NLm "_law_made" (defScope s__law_made) f cdv A outer s0 H E) (pn := [0]) (δ := [.ow (pz (grpS g q j).2), .d (.lst pool), .d (.int ((k + 1 : Nat) : Int)), .d (.int (drawN p 4)), .un, .ow (grpS g q j).1, .d (.int (0 + (j : Int))), sl7 g q j]) (i := 7) (x := (g (grpS g q j).2).1) sc_made.nd rfl (.inl rfl) (by simp) (de_callQ 0 (pz (grpS g q j).2) (pz (g (grpS g q j).2).2) (.d (g (grpS g q j).2).1) (G (L + 3 + j * CC k) (by omega)) hr rfl (da_o 0 (da_cons (de_v 1) (da_cons (de_to (de_sub (de_v 2) de_int) (by rw [pre1])) da_nil))) rfl rfl ⟨(grpS g q j).2, pool, oj, hp, rfl, by rw [hg], by rw [hg]; rfl⟩)) rfl
            have cond : ∀ {kb : Bool} {p1 p2 p3 p4 p5 p6 p7 p8 p9 p10 p11 p12 p13 p14 : Pos} {j1 : Nat}, keep (grpS g q j).1 (g (grpS g q j).2).1 = kb → DT (cxOf (L2.CX P w) P w K mg base NLm "_law_made" (defScope s__law_made) f cdv A outer s0 H E) [.ow (pz (g (grpS g q j).2).2), .d (.lst pool), .d (.int ((k + 1 : Nat) : Int)), .d (.int (drawN p 4)), .un, .ow (grpS g q j).1, .d (.int (0 + (j : Int))), .d (g (grpS g q j).2).1] (.BoolOp .Or [.Compare (.Name "parts" p1) [.Eq] [.List [] p2] p3, .Compare (.Call (.Name "_law_bare" p4) [.Subscript (.Name "parts" p5) (.UnaryOp .USub (.Constant (.int 1) j1 p6) p7) p8] [] p9) [.NotEq] [.Call (.Name "_law_bare" p10) [.Name "part" p11] [] p12] p13] p14) kb [.ow (pz (g (grpS g q j).2).2), .d (.lst pool), .d (.int ((k + 1 : Nat) : Int)), .d (.int (drawN p 4)), .un, .ow (grpS g q j).1, .d (.int (0 + (j : Int))), .d (g (grpS g q j).2).1] := fun {kb _ _ _ _ _ _ _ _ _ _ _ _ _ _ _} hkb => by
              unfold keep at hkb
              cases hl : (grpS g q j).1.getLast? with
              | none =>
                rw [hl] at hkb
                have hnil : (grpS g q j).1 = [] := by simpa using hl
                subst hkb
                exact dt_w (dw_orT (dt_eqO (i := 5) hr (mds_sh pj.1 (by omega)) sh_nil rfl (.inl rfl) rfl (de_frz (de_lst da_nil rfl (by decide))) (by rw [lst_nil_eqv]; exact decide_eq_true hnil)))
              | some l =>
                rw [hl] at hkb
                have hne : (grpS g q j).1 ≠ [] := by intro z; rw [z] at hl; cases hl
                have ml := pj.1 l (List.mem_of_getLast? hl)
                exact dt_w (dw_orF (dt_eqO (i := 5) hr (mds_sh pj.1 (by omega)) sh_nil rfl (.inl rfl) rfl (de_frz (de_lst da_nil rfl (by decide))) (by rw [lst_nil_eqv]; exact decide_eq_false hne)) (dw_or1 (dt_ne hr ((bareD_gd (ml.gd wk)).sh (by omega)) ((bareD_gd (mj.gd wk)).sh (by omega)) (de_call (r := .d (bareD l)) (fd_lbare D0) (hr.mono (by omega)) rfl (da_cons (de_ixo 5 (xs := (grpS g q j).1) (z := l) (de_neg de_int) (atI_lastO hl)) da_nil) rfl (R1.of ⟨(ml.gd wk).mono (by omega), made_shape ml⟩))
                  (de_call (r := .d (bareD (g (grpS g q j).2).1)) (fd_lbare D0) (hr.mono (by omega)) rfl (da_cons (de_v 7) da_nil) rfl (R1.of ⟨(mj.gd wk).mono (by omega), made_shape mj⟩)) hkb)))
            show DSs _ [0] _ _ (.nx [.ow (pz (grpS g q (j + 1)).2), .d (.lst pool), .d (.int ((k + 1 : Nat) : Int)), .d (.int (drawN p 4)), .un, .ow (grpS g q (j + 1)).1, .d (.int (0 + (j : Int))), .d (g (grpS g q j).2).1])
            by_cases hk : keep (grpS g q j).1 (g (grpS g q j).2).1 = true
            · have es : grpS g q (j + 1) = ((grpS g q j).1 ++ [(g (grpS g q j).2).1], (g (grpS g q j).2).2) := by rw [grpS, if_pos hk]
              rw [es]
              exact dss_cons st1 (dss_one (ds_ifT (cond hk) rfl (dss_one (ds_append (i := 5) rfl (.inl rfl) ⟨_, rfl⟩ (de_v 7) rfl (by have := pj.2.2.1; omega)))))
            · have es : grpS g q (j + 1) = ((grpS g q j).1, (g (grpS g q j).2).2) := by rw [grpS, if_neg hk]
              rw [es]
              exact dss_cons st1 (dss_one (ds_ifF (cond (by simpa using hk)) rfl dss_nil))
          · rw [irange_len]
        have lp := fm.2.2.1
        by_cases h2 : 1 < (grpS g q n).1.length
        · rw [if_pos h2]
          refine ret1 (ys := pz (grpS g q n).2) (loop _ _ _ rfl (ds_ret (de_ifT (dt_gt (de_lenO (i := 5) rfl B.len rfl (.inl rfl) rfl) de_int (decide_eq_true (by omega))) rfl (de_tuple rfl B.tuple (de_frz (de_cat (xs := [.str "group"]) (ys := (grpS g q n).1) (de_frz (de_lst (da_cons de_str da_nil) rfl (by decide))) (de_frz (de_vm 5)) (by simp only [List.length_singleton]; omega))))))) rfl rfl
        · rw [if_neg h2]
          have h1 := fm.2.2.2 (by omega)
          refine ret1 (ys := pz (grpS g q n).2) (loop _ _ _ rfl (ds_ret (de_ifF (dt_gt (de_lenO (i := 5) rfl B.len rfl (.inl rfl) rfl) de_int (decide_eq_false (by omega))) rfl (de_ixo 5 (xs := (grpS g q n).1) (z := (grpS g q n).1.headD .non) de_int (by
            cases hx : (grpS g q n).1 with
            | nil => rw [hx] at h1; simp at h1
            | cons x r => exact atI_0))))) rfl rfl)
theorem fd_made (T : DfP K mg) (D0 : Df K mg "_law_bare" s__law_bare) (Dm : Df K mg "_law_made" s__law_made) : ∀ k, k ≤ 3 → ∀ L, L + CC k + 10 ≤ 2 ^ 60 → FD P w K mg base (k + 5) "_law_made" ["purse", "pool", "deep"] (RMade k L) noX
  | 0, _, L, hL => fd_made0 T Dm (by omega)
  | k + 1, h, L, hL => fd_madeS T D0 Dm h hL (fun L' h' => fd_made T D0 Dm k (by omega) L' h')
end W76
end
section
set_option Elab.async false
set_option linter.all false
set_option maxRecDepth 100000
set_option maxHeartbeats 4000000
namespace DL
open PySem PySem.Spec PyProof.Rows L2
variable [TL]
/-! ### bent texts -/
def lit1 : List D := [.str "", .str "a", .str ".", .str "[]", .str "[a.]", .str "[a.a.]", .str "[a.(a.2)]", .str "(a.1)", .str "(a.0)", .str "(a.02)", .str "(a.)"]
def lit2 : List D := [.str "((a.2)2)", .str "(a.2", .str "[a.b.", .str "a.b.", .str "A.", .str "a .", .str "[a. b.]", .str "(a.-2)", .str "(a.2)."]
def tx (l : List Nat) : D := .str (ofCs l)
def dyn1 (cs : List Nat) (a c : Nat) : List (List Nat) := [cs.take a ++ cs.drop (a + 1), cs.take a ++ [c] ++ cs.drop a, cs.take a, cs.drop a, cs ++ [93], [91] ++ cs ++ [93]]
def dyn2 (cs : List Nat) : List (List Nat) := [[91] ++ cs ++ cs ++ [93], cs ++ [32], [10] ++ cs, cs.map PyProof.Rows.up1 ++ [65]]
def dyn3 (cs : List Nat) (a : Nat) (g : Nat) : List (List Nat) := [cs.take a ++ [g] ++ cs.drop (a + 1), cs.take a ++ [g] ++ cs.drop a]
def sg6 : List Nat := [97, 46, 50, 91, 93, 40]
theorem sg6_eq : sgns "a.2[](" = sg6.map fun c => D.str ⟨#[c]⟩ := by
  have : csOf "a.2[](" = sg6 := by decide +kernel
  unfold sgns
  rw [show ("a.2[](" : Str).cps.toList = sg6 from this]
def bent0 (cs : List Nat) (a c : Nat) : List D := lit1 ++ lit2 ++ (dyn1 cs a c).map tx ++ (dyn2 cs).map tx
def bentJ (cs : List Nat) (a c : Nat) (j : Nat) : List D := bent0 cs a c ++ ((sg6.take j).map fun g => (dyn3 cs a g).map tx).flatten
def bentD (cs : List Nat) (a : Nat) : List D := bentJ cs a (cs.getD a 0) 6
theorem bentJ_succ {cs : List Nat} {a c j g : Nat} (h : sg6[j]? = some g) : bentJ cs a c (j + 1) = bentJ cs a c j ++ (dyn3 cs a g).map tx := by
  unfold bentJ
  have e : sg6.take (j + 1) = sg6.take j ++ [g] := by rw [List.take_succ, h]; rfl
  rw [e, List.map_append, List.flatten_append, List.append_assoc]
  simp
theorem bent_len (cs : List Nat) (a c j : Nat) (hj : j ≤ 6) : (bentJ cs a c j).length ≤ 42 := by
  match j, hj with
  | 0, _ => simp [bentJ, bent0, lit1, lit2, dyn1, dyn2, dyn3, sg6]
  | 1, _ => simp [bentJ, bent0, lit1, lit2, dyn1, dyn2, dyn3, sg6]
  | 2, _ => simp [bentJ, bent0, lit1, lit2, dyn1, dyn2, dyn3, sg6]
  | 3, _ => simp [bentJ, bent0, lit1, lit2, dyn1, dyn2, dyn3, sg6]
  | 4, _ => simp [bentJ, bent0, lit1, lit2, dyn1, dyn2, dyn3, sg6]
  | 5, _ => simp [bentJ, bent0, lit1, lit2, dyn1, dyn2, dyn3, sg6]
  | 6, _ => simp [bentJ, bent0, lit1, lit2, dyn1, dyn2, dyn3, sg6]
section
variable {X : Cx} {δ δ1 δ2 : List DV} {a b e : Expr} {pos apos p2 : Pos} {x y : List Nat}
theorem de_catS (ha : DE X δ a (.d (tx x)) δ1) (hb : DE X δ1 b (.d (tx y)) δ2) (hl : x.length + y.length ≤ sizeLine) : DE X δ (.BinOp a .Add b pos) (.d (tx (x ++ y))) δ2 := de_to (de_addS ha hb (by rw [ofCs_len, ofCs_len]; exact hl)) (by rw [ofCs_app]; rfl)
theorem de_hi {cs : List Nat} {n : Nat} (ha : DE X δ a (.d (tx cs)) δ) (hb : DE X δ b (.d (.int (n : Int))) δ) (hl : cs.length ≤ sizeLine) (hn : n ≤ cs.length) : DE X δ (.Subscript a (.Slice none (some b) none p2) pos) (.d (tx (cs.take n))) δ := de_to (de_slS ha do_none (do_some hb) (by rw [ofCs_len]; exact hl)) (by
  unfold cutS
  rw [HT.sIx_nat]
  show DV.d (.str (ofCs ((((ofCs cs).cps.toList).drop 0).take (min n (ofCs cs).length - 0)))) = _
  rw [ofCs_len, Nat.min_eq_left hn, show (ofCs cs).cps.toList = cs from csOf_ofCs cs]
  rfl)
theorem de_lo {cs : List Nat} {n : Nat} {i : Int} (ha : DE X δ a (.d (tx cs)) δ) (hb : DE X δ b (.d (.int i)) δ) (hi : i = (n : Int)) (hl : cs.length ≤ sizeLine) (hn : n ≤ cs.length) : DE X δ (.Subscript a (.Slice (some b) none none p2) pos) (.d (tx (cs.drop n))) δ := by
  subst hi
  exact de_to (de_slS ha (do_some hb) do_none (by rw [ofCs_len]; exact hl)) (by
    unfold cutS
    rw [HT.sIx_nat]
    show DV.d (.str (ofCs ((((ofCs cs).cps.toList).drop (min n (ofCs cs).length)).take ((ofCs cs).length - min n (ofCs cs).length)))) = _
    rw [ofCs_len, Nat.min_eq_left hn, show (ofCs cs).cps.toList = cs from csOf_ofCs cs, List.take_of_length_le (by rw [List.length_drop]; exact Nat.le_refl _)]
    rfl)
theorem de_upper {cs : List Nat} (ha : DE X δ a (.d (tx cs)) δ1) (h : ∀ c ∈ cs, c < 128) (hl : cs.length ≤ 5592405) (hbase : attributeBase a "upper" X.env (eval a X.env) = eval a X.env := by rfl) (hline : (apos.endLine == pos.line) = true := by rfl) : DE X δ (.Call (.Attribute a "upper" apos) [] [] pos) (.d (tx (cs.map PyProof.Rows.up1))) δ1 :=
  (pe_upper ha hbase hline).imp fun σ H Q ⟨F, R, k⟩ => ⟨F, R, fun v F1 H1 g1 R1 r1 => by
    cases r1
    refine ⟨⟨_, rfl⟩, _, rfl, rfl, by rw [ofCs_len]; exact hl, ?_⟩
    have e : Txt.upper (ofCs cs) = ofCs (cs.map PyProof.Rows.up1) := by
      rw [PyProof.Rows.upper_ascii (x := ofCs cs) (by rw [show (ofCs cs).cps.toList = cs from csOf_ofCs cs]; exact h)]
      simp [ofCs]
    rw [e]
    exact k _ F1 H1 g1 R1 (.str _)⟩
theorem de_lit {s : String} {l : List Nat} {j : Nat} (h : Str.ofString s = ofCs l) : DE X δ (.Constant (.str (Str.ofString s)) j pos) (.d (tx l)) δ := de_to de_str (by rw [h]; rfl)
end
end DL
end
section
set_option Elab.async false
set_option linter.all false
set_option maxRecDepth 100000
set_option maxHeartbeats 4000000
namespace W76
open PySem PySem.Spec PyProof.Rows L2 DL Hd
variable [TL]
variable {P : Program} {w : World} {K : PySem.W.Frag} {mg : Str → Option Value} {base : Heap}
abbrev NLb : List Str := ["purse", "text", "at", "found", "sign"]
theorem sc_bent : FnScope NLb ["purse", "text"] (defScope s__law_bent) := ⟨rfl, rfl, rfl, by decide +kernel, rfl, by decide +kernel, by decide +kernel⟩
def RBent (L : Nat) : RelD := fun args r args' => ∃ (p : Pu) (cs : List Nat), OkP L p ∧ 0 < cs.length ∧ cs.length ≤ 2 ^ 14 ∧ (∀ c ∈ cs, c < 128) ∧ args = [.ow (pz p), .d (tx cs)] ∧ r = .ow (bentD cs (drawN p cs.length).toNat) ∧ args' = [.ow (pz (drawP p cs.length)), .d (tx cs)]
theorem lit_sp : (" " : Str) = ofCs [32] := by decide +kernel
theorem lit_nl : ("\n" : Str) = ofCs [10] := by decide +kernel
theorem lit_A : ("A" : Str) = ofCs [65] := by decide +kernel
theorem tx_len {cs : List Nat} (h : cs.length ≤ sizeLine) : (tx cs).len = some cs.length := by
  unfold tx
  rw [slenD (by rw [ofCs_len]; exact h), ofCs_len]
theorem fd_bent (T : DfP K mg) (D1 : Df K mg "_law_bent" s__law_bent) {L : Nat} (hL : L ≤ 2 ^ 60) : FD P w K mg base 3 "_law_bent" ["purse", "text"] (RBent L) noX :=
  D1.fd (fun _ _ _ _ _ _ us hl => match us, hl with | [_, _], _ => rfl) fun f fd F => fn_rel0 F sc_bent (fun _ _ _ ⟨_, _, _, _, _, _, h, _⟩ => by rw [h]; rfl) (fun cdv A outer s0 H E hr args r args' ⟨p, cs, op, l0, l1, h7, e1, e2, e3⟩ => by
    subst e1 e2 e3
    have B := T.B
    have big := szl
    have dr := drawN_ge (p := p) (m := (cs.length : Int)) (by omega)
    obtain ⟨a, ha⟩ : ∃ a : Nat, a = (drawN p cs.length).toNat := ⟨_, rfl⟩
    have ha2 : drawN p cs.length = (a : Int) := by omega
    have al : a < cs.length := by omega
    rw [← ha]
    obtain ⟨c, hc⟩ : ∃ c, cs[a]? = some c := ⟨_, List.getElem?_eq_getElem al⟩
    have hcd : cs.getD a 0 = c := by rw [List.getD_eq_getElem?_getD, hc]; rfl
    have ca : L2.atI (csOf (ofCs cs)) (a : Int) = some c := by rw [csOf_ofCs]; exact L2.atI_nat hc
    have t1 : (cs.take a).length ≤ 2 ^ 14 := by rw [List.length_take]; omega
    have t2 : (cs.drop a).length ≤ 2 ^ 14 := by rw [List.length_drop]; omega
    have t3 : (cs.drop (a + 1)).length ≤ 2 ^ 14 := by rw [List.length_drop]; omega
    unfold bentD
    rw [hcd]
    have lenD : ∀ {δ : List DV} {q1 q2 q3 : Pos}, δ[1]? = some (.d (tx cs)) → DE (cxOf (L2.CX P w) P w K mg base NLb "_law_bent" (defScope s__law_bent) f cdv A outer s0 H E) δ (.Call (.Name "len" q1) [.Name "text" q2] [] q3) (.d (.int (cs.length : Nat))) δ := fun h => de_len (n := cs.length) rfl B.len (de_v 1 rfl (.inl rfl) h) (tx_len (by omega))
    refine ret1 (ys := pz (drawP p cs.length)) (δ' := [.ow (pz (drawP p cs.length)), .d (tx cs), .d (.int (a : Int)), .un, .d (.str ⟨#[40]⟩)])
      (dss_cons (ds_par2 (i := 2) (j := 3) (ra := .d (.int (a : Int))) (rb := .ow lit1) (by simp) (by simp) rfl sc_bent.nd rfl rfl (by decide) rfl rfl (by simp) (by simp)
        (de_to (de_callQ 0 (pz p) (pz (drawP p cs.length)) (.d (.int (drawN p cs.length))) (fd_draw B hL T.mixed T.draw) hr rfl (da_o 0 (da_cons (lenD rfl) da_nil)) rfl rfl ⟨p, cs.length, op, by omega, by omega, rfl, rfl, rfl⟩) (by rw [ha2]))
        (de_lst (da_cons de_str (da_cons de_str (da_cons de_str (da_cons de_str (da_cons de_str (da_cons de_str (da_cons de_str (da_cons de_str (da_cons de_str (da_cons de_str (da_cons de_str da_nil))))))))))) rfl (by decide)) rfl)
      (dss_cons (ds_setO (i := 3) (xs := lit1 ++ lit2) sc_bent.nd rfl (.inl rfl) (by simp) (de_cat (de_frz (de_vm 3)) (de_frz (de_lst (ds := lit2) (da_cons de_str (da_cons de_str (da_cons de_str (da_cons de_str (da_cons de_str (da_cons de_str (da_cons de_str (da_cons de_str (da_cons de_str da_nil))))))))) rfl (by decide))) (by decide)))
      (dss_cons (ds_setO (i := 3) (xs := lit1 ++ lit2 ++ (dyn1 cs a c).map tx) sc_bent.nd rfl (.inl rfl) (by simp) (de_cat (de_frz (de_vm 3)) (de_frz (de_lst (ds := (dyn1 cs a c).map tx)
        (da_cons (de_catS (de_hi (de_v 1) (de_v 2) (by omega) (by omega)) (de_lo (n := a + 1) (de_v 1) (de_add (de_v 2) de_int) rfl (by omega) (by omega)) (by omega))
        (da_cons (de_catS (de_catS (de_hi (de_v 1) (de_v 2) (by omega) (by omega)) (y := [c]) (de_ixS (de_v 1) (de_v 2) (by rw [ofCs_len]; omega) ca) (by simp only [List.length_singleton]; omega)) (de_lo (n := a) (de_v 1) (de_v 2) rfl (by omega) (by omega)) (by simp only [List.length_append, List.length_singleton]; omega))
        (da_cons (de_hi (de_v 1) (de_v 2) (by omega) (by omega)) (da_cons (de_lo (n := a) (de_v 1) (de_v 2) rfl (by omega) (by omega))
        (da_cons (de_catS (de_v 1) (de_lit lit_rb) (by simp only [List.length_singleton]; omega)) (da_cons (de_catS (de_catS (de_lit lit_lb) (de_v 1) (by simp only [List.length_singleton]; omega)) (de_lit lit_rb) (by simp only [List.length_append, List.length_singleton]; omega)) da_nil)))))) rfl (by rw [big]; simp [dyn1]))) (by rw [big]; simp [dyn1, lit1, lit2])))
      (dss_cons (ds_setO (i := 3) (xs := bentJ cs a c 0) sc_bent.nd rfl (.inl rfl) (by simp) (de_to (de_cat (de_frz (de_vm 3)) (de_frz (de_lst (ds := (dyn2 cs).map tx)
        (da_cons (de_catS (de_catS (de_catS (de_lit lit_lb) (de_v 1) (by simp only [List.length_singleton]; omega)) (de_v 1) (by simp only [List.length_append, List.length_singleton]; omega)) (de_lit lit_rb) (by simp only [List.length_append, List.length_singleton]; omega))
        (da_cons (de_catS (de_v 1) (de_lit lit_sp) (by simp only [List.length_singleton]; omega)) (da_cons (de_catS (de_lit lit_nl) (de_v 1) (by simp only [List.length_singleton]; omega)) (da_cons (de_catS (de_upper (de_v 1) h7 (by omega)) (de_lit lit_A) (by simp only [List.length_map, List.length_singleton]; omega)) da_nil)))) rfl (by rw [big]; simp [dyn2]))) (by rw [big]; simp [dyn1, lit1, lit2, dyn2])) (by unfold bentJ bent0; simp)))
      (dss_cons (δ1 := [.ow (pz (drawP p cs.length)), .d (tx cs), .d (.int (a : Int)), .ow (bentJ cs a c 6), .d (.str ⟨#[40]⟩)]) ?_ (dss_one (ds_ret (de_vm 3))))))) ) rfl rfl
    have fr : ∀ {j : Nat}, True := fun {_} => trivial
    refine ds_to (ds_for (items := sg6.map fun c => D.str ⟨#[c]⟩) (δ1 := [.ow (pz (drawP p cs.length)), .d (tx cs), .d (.int (a : Int)), .ow (bentJ cs a c 0), .un]) (X := cxOf (L2.CX P w) P w K mg base NLb "_law_bent" (defScope s__law_bent) f cdv A outer s0 H E) (pn := [0]) (passes_of rfl) rfl (di_to (di_str de_str) sg6_eq)
      (fun j => [.ow (pz (drawP p cs.length)), .d (tx cs), .d (.int (a : Int)), .ow (bentJ cs a c j), if j = 0 then .un else .d (.str ⟨#[sg6.getD (j - 1) 0]⟩)]) (fun j => [.ow (pz (drawP p cs.length)), .d (tx cs), .d (.int (a : Int)), .ow (bentJ cs a c j), .d (.str ⟨#[sg6.getD j 0]⟩)]) rfl (fun j d hd => ?_) (fun j d hj hd => ?_)) rfl
    · rw [List.getElem?_map] at hd
      obtain ⟨g, hg, rfl⟩ := Option.map_eq_some_iff.mp hd
      have e : sg6.getD j 0 = g := by rw [List.getD_eq_getElem?_getD, hg]; rfl
      rw [e]
      exact dg_name (X := cxOf (L2.CX P w) P w K mg base NLb "_law_bent" (defScope s__law_bent) f cdv A outer s0 H E) (pn := [0]) (x := .str ⟨#[g]⟩) (δ := [.ow (pz (drawP p cs.length)), .d (tx cs), .d (.int (a : Int)), .ow (bentJ cs a c j), if j = 0 then .un else .d (.str ⟨#[sg6.getD (j - 1) 0]⟩)]) (i := 4) sc_bent.nd rfl (.inl rfl) (by simp)
    · rw [List.getElem?_map] at hd
      obtain ⟨g, hg, rfl⟩ := Option.map_eq_some_iff.mp hd
      have e : sg6.getD j 0 = g := by rw [List.getD_eq_getElem?_getD, hg]; rfl
      have j6 : j < 6 := (List.getElem?_eq_some_iff.mp hg).1
      have bl := bent_len cs a c j (by omega)
      show DSs _ [0] [.ow (pz (drawP p cs.length)), .d (tx cs), .d (.int (a : Int)), .ow (bentJ cs a c j), .d (.str ⟨#[sg6.getD j 0]⟩)] _ (.nx [.ow (pz (drawP p cs.length)), .d (tx cs), .d (.int (a : Int)), .ow (bentJ cs a c (j + 1)), .d (.str ⟨#[sg6.getD j 0]⟩)])
      rw [e, bentJ_succ hg]
      have sgn : ∀ {δ : List DV} {q1 : Pos}, δ[4]? = some (.d (.str ⟨#[g]⟩)) → DE (cxOf (L2.CX P w) P w K mg base NLb "_law_bent" (defScope s__law_bent) f cdv A outer s0 H E) δ (.Name "sign" q1) (.d (tx [g])) δ := fun h => de_v 4 rfl (.inl rfl) h
      exact dss_one (ds_setO (i := 3) (xs := bentJ cs a c j ++ (dyn3 cs a g).map tx) sc_bent.nd rfl (.inl rfl) (by simp) (de_cat (de_frz (de_vm 3)) (de_frz (de_lst (ds := (dyn3 cs a g).map tx)
        (da_cons (de_catS (de_catS (de_hi (de_v 1) (de_v 2) (by omega) (by omega)) (sgn rfl) (by simp only [List.length_singleton]; omega)) (de_lo (n := a + 1) (de_v 1) (de_add (de_v 2) de_int) rfl (by omega) (by omega)) (by simp only [List.length_append, List.length_singleton]; omega))
        (da_cons (de_catS (de_catS (de_hi (de_v 1) (de_v 2) (by omega) (by omega)) (sgn rfl) (by simp only [List.length_singleton]; omega)) (de_lo (n := a) (de_v 1) (de_v 2) rfl (by omega) (by omega)) (by simp only [List.length_append, List.length_singleton]; omega)) da_nil)) rfl (by rw [big]; simp [dyn3]))) (by rw [big]; simp [dyn3]; omega))))
end W76
end
section
set_option Elab.async false
set_option linter.all false
set_option maxRecDepth 100000
set_option maxHeartbeats 4000000
namespace DL
open PySem PySem.Spec PyProof.Rows L2
variable [TL]
section
variable {X : Cx} {δ δ1 : List DV} {a : Expr} {x : D} {p1 p2 p3 p4 p5 pos : Pos} {j : Nat} {T U W : Str} {n m o : String} {k : Bool}
theorem de_isT2 (hg : Gl X "isinstance") (hm : X.mg "isinstance" = none) (ha : DE X δ a (.d x) δ1) (hp : x.plain = true) (g1 : Gl X T) (m1 : X.mg T = none) (v1 : bootBuiltins T = some (.type n)) (g2 : Gl X U) (m2 : X.mg U = none) (v2 : bootBuiltins U = some (.type m))
    (hT : n = "bool" ∨ n = "int" ∨ n = "str" ∨ n = "list" ∨ n = "tuple" ∨ n = "dict") (hU : m = "bool" ∨ m = "int" ∨ m = "str" ∨ m = "list" ∨ m = "tuple" ∨ m = "dict") (hk : (x.isi n || x.isi m) = k)
    (n1 : T ≠ "__name__" := by decide) (d1 : (T == ("__debug__" : Str)) = false := by decide) (n2 : U ≠ "__name__" := by decide) (d2 : (U == ("__debug__" : Str)) = false := by decide)
    (s1 : starEach [Expr.Name T p3, .Name U p4] X.env = (false, eval (.Name T p3) X.env) :: starEach [.Name U p4] X.env := by rfl) (s2 : starEach [Expr.Name U p4] X.env = (false, eval (.Name U p4) X.env) :: starEach [] X.env := by rfl)
    (he : starEach [a, .Tuple [.Name T p3, .Name U p4] j p2] X.env = (false, eval a X.env) :: starEach [.Tuple [.Name T p3, .Name U p4] j p2] X.env := by rfl) (he2 : starEach [Expr.Tuple [.Name T p3, .Name U p4] j p2] X.env = (false, eval (.Tuple [.Name T p3, .Name U p4] j p2) X.env) :: starEach [] X.env := by rfl) (hpl : (backTo pos (starEach [Expr.Tuple [.Name T p3, .Name U p4] j p2] X.env)).any (·.1) = false := by rfl) :
    DE X δ (.Call (.Name "isinstance" p1) [a, .Tuple [.Name T p3, .Name U p4] j p2] [] pos) (.d (.bl k)) δ1 :=
  de_isT (cs := [.ty n, .ty m]) (us := [.type n, .type m]) hg hm ha hp (pa_cons (pe_bltn (v := .ty n) g1 m1 v1 rfl n1 d1) (pa_cons (pe_bltn (v := .ty m) g2 m2 v2 rfl n2 d2) pa_nil s2) s1) (fun _ _ _ h => h) (by show 2 ≤ sizeLine; decide) (.cons (.ty n) (.cons (.ty m) .nil)) (fun K => by rw [kit_any hT hU hp, hk]) he he2 hpl
theorem de_isT3 (hg : Gl X "isinstance") (hm : X.mg "isinstance" = none) (ha : DE X δ a (.d x) δ1) (hp : x.plain = true) (g1 : Gl X T) (m1 : X.mg T = none) (v1 : bootBuiltins T = some (.type n)) (g2 : Gl X U) (m2 : X.mg U = none) (v2 : bootBuiltins U = some (.type m)) (g3 : Gl X W) (m3 : X.mg W = none) (v3 : bootBuiltins W = some (.type o))
    (hT : n = "bool" ∨ n = "int" ∨ n = "str" ∨ n = "list" ∨ n = "tuple" ∨ n = "dict") (hU : m = "bool" ∨ m = "int" ∨ m = "str" ∨ m = "list" ∨ m = "tuple" ∨ m = "dict") (hW : o = "bool" ∨ o = "int" ∨ o = "str" ∨ o = "list" ∨ o = "tuple" ∨ o = "dict") (hk : (x.isi n || x.isi m || x.isi o) = k)
    (n1 : T ≠ "__name__" := by decide) (d1 : (T == ("__debug__" : Str)) = false := by decide) (n2 : U ≠ "__name__" := by decide) (d2 : (U == ("__debug__" : Str)) = false := by decide) (n3 : W ≠ "__name__" := by decide) (d3 : (W == ("__debug__" : Str)) = false := by decide)
    (s1 : starEach [Expr.Name T p3, .Name U p4, .Name W p5] X.env = (false, eval (.Name T p3) X.env) :: starEach [.Name U p4, .Name W p5] X.env := by rfl) (s2 : starEach [Expr.Name U p4, .Name W p5] X.env = (false, eval (.Name U p4) X.env) :: starEach [.Name W p5] X.env := by rfl) (s3 : starEach [Expr.Name W p5] X.env = (false, eval (.Name W p5) X.env) :: starEach [] X.env := by rfl)
    (he : starEach [a, .Tuple [.Name T p3, .Name U p4, .Name W p5] j p2] X.env = (false, eval a X.env) :: starEach [.Tuple [.Name T p3, .Name U p4, .Name W p5] j p2] X.env := by rfl) (he2 : starEach [Expr.Tuple [.Name T p3, .Name U p4, .Name W p5] j p2] X.env = (false, eval (.Tuple [.Name T p3, .Name U p4, .Name W p5] j p2) X.env) :: starEach [] X.env := by rfl) (hpl : (backTo pos (starEach [Expr.Tuple [.Name T p3, .Name U p4, .Name W p5] j p2] X.env)).any (·.1) = false := by rfl) :
    DE X δ (.Call (.Name "isinstance" p1) [a, .Tuple [.Name T p3, .Name U p4, .Name W p5] j p2] [] pos) (.d (.bl k)) δ1 :=
  de_isT (cs := [.ty n, .ty m, .ty o]) (us := [.type n, .type m, .type o]) hg hm ha hp (pa_cons (pe_bltn (v := .ty n) g1 m1 v1 rfl n1 d1) (pa_cons (pe_bltn (v := .ty m) g2 m2 v2 rfl n2 d2) (pa_cons (pe_bltn (v := .ty o) g3 m3 v3 rfl n3 d3) pa_nil s3) s2) s1) (fun _ _ _ h => h) (by show 3 ≤ sizeLine; decide) (.cons (.ty n) (.cons (.ty m) (.cons (.ty o) .nil))) (fun K => by rw [kit_any3 hT hU hW hp, hk]) he he2 hpl
end
end DL
namespace W76
open PySem PySem.Spec PyProof.Rows L2 DL Hd
variable [TL]
variable {P : Program} {w : World} {K : PySem.W.Frag} {mg : Str → Option Value} {base : Heap}
theorem sc_exact : FnScope ["mine", "theirs", "is_like", "a", "b"] ["mine", "theirs"] (defScope s__law_exact) := ⟨rfl, rfl, rfl, by decide +kernel, rfl, by decide +kernel, by decide +kernel⟩
def REx (n : Nat) : RelD := fun args r args' => ∃ d, Gd n d ∧ args = [.d d, .d d] ∧ r = .d (.bl true) ∧ args' = args
theorem bl_self {b : Bool} : (D.bl b).eqv (.bl b) = true := eqv_self _ rfl
theorem int_self {i : Int} : (D.int i).eqv (.int i) = true := eqv_self _ rfl
theorem zip_self (xs : List D) : List.zipWith (fun x y => D.tup [x, y]) xs xs = (xs.map fun x => (x, x)).map fun x => D.tup [x.1, x.2] := by
  induction xs with
  | nil => rfl
  | cons a l ih => simp only [List.zipWith_cons_cons, List.map_cons]; rw [ih]
theorem all_true (xs : List D) : ((xs.map fun x => (x, x)).map fun _ => D.bl true) = xs.map fun _ => D.bl true := by rw [List.map_map]; rfl
theorem fd_exact (B : Bn mg) (D1 : Df K mg "_law_exact" s__law_exact) : ∀ n, n ≤ 60 → FD P w K mg base (n + 1) "_law_exact" ["mine", "theirs"] (REx n) noX
  | n, hn => D1.fd (fun _ _ _ _ _ _ us hl => match us, hl with | [_, _], _ => rfl) fun f fd F => fn_rel0 F sc_exact (fun _ _ _ ⟨_, _, h, _⟩ => by rw [h]; rfl) (fun cdv A outer s H E hr args r args' ⟨d, hp, e1, e2, e3⟩ => by
    subst e1 e2 e3
    have pl := hp.plain
    have sd := hp.sh (by omega)
    cases hd : (d.isi "list" || d.isi "tuple") with
    | false =>
      have h3 : (d.isi "list" || d.isi "tuple" || d.isi "dict") = false := by
        have := hp.ok
        cases d <;> first | rfl | (simp [D.ok] at this; done) | (simp [D.isi] at hd; done)
      refine ret0 (dss_cons (ds_ifF (dt_bl (de_isT2 rfl B.isi (de_v 0) pl rfl B.list boot_list rfl B.tuple boot_tuple (by decide) (by decide) hd)) rfl dss_nil)
        (dss_cons (ds_ifF (dt_w (dw_orF (dt_bl (de_isT3 rfl B.isi (de_v 1) pl rfl B.list boot_list rfl B.tuple boot_tuple rfl B.dict boot_dict (by decide) (by decide) (by decide) h3)) (dw_or1 (dt_ne hr sh_bl sh_bl (de_isN (de_v 0)) (de_isN (de_v 1)) (by rw [bl_self]; rfl))))) rfl dss_nil)
        (dss_cons (ds_set (x := .bl true) (i := 2) sc_exact.nd rfl (.inl rfl) (by simp) (de_andT (de_v' (de_eq hr sh_bl sh_bl (de_isi rfl B.isi (de_v 0) pl rfl B.int boot_int (by decide)) (de_isi rfl B.isi (de_v 1) pl rfl B.int boot_int (by decide))) bl_self) (de_one (de_v' (de_eq hr sh_bl sh_bl (de_isi rfl B.isi (de_v 0) pl rfl B.str boot_str (by decide)) (de_isi rfl B.isi (de_v 1) pl rfl B.str boot_str (by decide))) bl_self))))
        (dss_one (ds_ret (de_andT (de_v 2) (de_andT (de_v' (de_eq hr sh_bl sh_bl (de_isi rfl B.isi (de_v 0) pl rfl B.bool boot_bool (by decide)) (de_isi rfl B.isi (de_v 1) pl rfl B.bool boot_bool (by decide))) bl_self) (de_one (de_v' (de_eq hr sd sd (de_v 0) (de_v 1)) (eqv_self d hp.ok))))))))))  rfl
    | true =>
      have like : ∀ {X : Cx}, True := fun {X} => trivial
      obtain ⟨n', rfl⟩ : ∃ n', n = n' + 1 := ⟨n - 1, by
        have := hp.dep
        cases d <;> first | (simp [D.isi] at hd; done) | (simp only [D.dep] at this; omega)⟩
      have G := fd_exact B D1 n' (by omega)
      cases d with
      | lst xs =>
        have ga := hp.lstA.1
        refine' ret0 (dss_stop (ds_ifT (dt_bl (de_isT2 rfl B.isi (de_v 0) pl rfl B.list boot_list rfl B.tuple boot_tuple (by decide) (by decide) hd)) rfl
          (dss_cons (ds_set (x := .bl true) (i := 2) sc_exact.nd rfl (.inl rfl) (by simp) (de_andT (de_v' (de_eq hr sh_bl sh_bl (de_isi rfl B.isi (de_v 1) pl rfl B.list boot_list (by decide)) (de_isi rfl B.isi (de_v 0) pl rfl B.list boot_list (by decide))) bl_self) (de_one (de_v' (de_eq hr sh_bl sh_bl (de_isi rfl B.isi (de_v 1) pl rfl B.tuple boot_tuple (by decide)) (de_isi rfl B.isi (de_v 0) pl rfl B.tuple boot_tuple (by decide))) bl_self))))
          (dss_one (ds_ret (de_andT (de_v 2) (de_andT (de_v' (de_eq hr sh_int sh_int (de_len rfl B.len (de_v 0) rfl) (de_len rfl B.len (de_v 1) rfl)) int_self) (de_one (de_v' (de_allM (xs := xs) (g := fun _ => true) rfl rfl B.all (de_to (de_lcZ (n := "a") (m := "b") 3 4 (by decide) (g := fun _ _ => .bl true) (ps := xs.map fun x => (x, x)) rfl sc_exact.nd (di_to (δ1 := [.d (.lst xs), .d (.lst xs), .d (.bl true), .un, .un]) ?zz (zip_self xs)) (blk_by ["mine", "theirs", "is_like", "a", "b"] (defScope s__law_exact) (by decide +kernel)) rfl rfl rfl rfl (fun _ _ _ _ _ => ⟨.inl rfl, .inl rfl⟩) (fun _ _ _ _ _ => ⟨.inr rfl, .inr rfl⟩) (fun s' H' C' cl' fp' x y hxy => ?_) ?_) (by rw [all_true]))) (by simp))))))))) (fun _ h => nomatch h)) rfl
        case zz => exact di_zip rfl B.zip (de_v 0) (de_v 1)
        · obtain ⟨z, hz, e⟩ := List.mem_map.mp hxy
          obtain rfl : z = x := congrArg Prod.fst e
          obtain rfl : z = y := congrArg Prod.snd e
          exact de_call (r := .d (.bl true)) G hr rfl (da_cons (de_v 3) (da_cons (de_v 4) da_nil)) rfl ⟨z, (ga.mem hz), rfl, rfl, rfl⟩
        · rw [List.length_map]; exact ga.len
      | tup xs =>
        have ga := hp.tupA.1
        refine' ret0 (dss_stop (ds_ifT (dt_bl (de_isT2 rfl B.isi (de_v 0) pl rfl B.list boot_list rfl B.tuple boot_tuple (by decide) (by decide) hd)) rfl
          (dss_cons (ds_set (x := .bl true) (i := 2) sc_exact.nd rfl (.inl rfl) (by simp) (de_andT (de_v' (de_eq hr sh_bl sh_bl (de_isi rfl B.isi (de_v 1) pl rfl B.list boot_list (by decide)) (de_isi rfl B.isi (de_v 0) pl rfl B.list boot_list (by decide))) bl_self) (de_one (de_v' (de_eq hr sh_bl sh_bl (de_isi rfl B.isi (de_v 1) pl rfl B.tuple boot_tuple (by decide)) (de_isi rfl B.isi (de_v 0) pl rfl B.tuple boot_tuple (by decide))) bl_self))))
          (dss_one (ds_ret (de_andT (de_v 2) (de_andT (de_v' (de_eq hr sh_int sh_int (de_len rfl B.len (de_v 0) rfl) (de_len rfl B.len (de_v 1) rfl)) int_self) (de_one (de_v' (de_allM (xs := xs) (g := fun _ => true) rfl rfl B.all (de_to (de_lcZ (n := "a") (m := "b") 3 4 (by decide) (g := fun _ _ => .bl true) (ps := xs.map fun x => (x, x)) rfl sc_exact.nd (di_to (δ1 := [.d (.tup xs), .d (.tup xs), .d (.bl true), .un, .un]) ?zz (zip_self xs)) (blk_by ["mine", "theirs", "is_like", "a", "b"] (defScope s__law_exact) (by decide +kernel)) rfl rfl rfl rfl (fun _ _ _ _ _ => ⟨.inl rfl, .inl rfl⟩) (fun _ _ _ _ _ => ⟨.inr rfl, .inr rfl⟩) (fun s' H' C' cl' fp' x y hxy => ?_) ?_) (by rw [all_true]))) (by simp))))))))) (fun _ h => nomatch h)) rfl
        case zz => exact di_zipT rfl B.zip (de_v 0) (de_v 1)
        · obtain ⟨z, hz, e⟩ := List.mem_map.mp hxy
          obtain rfl : z = x := congrArg Prod.fst e
          obtain rfl : z = y := congrArg Prod.snd e
          exact de_call (r := .d (.bl true)) G hr rfl (da_cons (de_v 3) (da_cons (de_v 4) da_nil)) rfl ⟨z, (ga.mem hz), rfl, rfl, rfl⟩
        · rw [List.length_map]; exact ga.len
      | _ => simp [D.isi] at hd)
end W76
end
section
set_option Elab.async false
set_option linter.all false
set_option maxRecDepth 100000
set_option maxHeartbeats 4000000
/-! N94h: brackets counted: the reader needs no more depth than they tell. -/
namespace DL
open PySem PySem.Spec PyProof.Rows L2
variable [TL]
def br (c : Nat) : Int := if c = 91 ∨ c = 40 then 1 else if c = 93 ∨ c = 41 then -1 else 0
def bal (s : List Nat) : Int := (s.map br).sum
theorem bal_app (s t : List Nat) : bal (s ++ t) = bal s + bal t := by simp [bal]
theorem bal_cons (c : Nat) (t : List Nat) : bal (c :: t) = br c + bal t := by simp [bal]
theorem bal_nil : bal [] = 0 := rfl
theorem br_le (c : Nat) : br c ≤ 1 := by unfold br; split <;> (try split) <;> decide
theorem br_let {c : Nat} (h : c ∈ lets) : br c = 0 := by
  simp [lets] at h
  unfold br
  rw [if_neg (by omega), if_neg (by omega)]
theorem br_fig {c : Nat} (h : c ∈ figs) : br c = 0 := by
  simp [figs] at h
  unfold br
  rw [if_neg (by omega), if_neg (by omega)]
theorem bal_zero {s : List Nat} (h : ∀ c ∈ s, br c = 0) : bal s = 0 := by
  induction s with
  | nil => rfl
  | cons a s ih => rw [bal_cons, h a List.mem_cons_self, ih fun c hc => h c (List.mem_cons_of_mem _ hc)]; rfl
def PB (n : Nat) (s : List Nat) : Prop := ∀ k, bal (s.take k) ≤ n
theorem PB.tail {n : Nat} {a : Nat} {s : List Nat} (h : PB (n + 1) (a :: s)) (ha : br a = 1) : PB n s := fun k => by
  have := h (k + 1)
  rw [List.take_succ_cons, bal_cons, ha] at this
  omega
theorem PB.rest {n : Nat} {u t : List Nat} (h : PB n (u ++ t)) (hu : bal u = 0) : PB n t := fun k => by
  have := h (u.length + k)
  rw [List.take_append, List.take_of_length_le (by omega), bal_app, hu, Nat.add_sub_cancel_left] at this
  omega
/-- a reader that comes to an end where the brackets are no deeper than n -/
def BalF (n : Nat) (f : List Nat → PR) : Prop := ∀ s, PB n s → f s ≠ none ∧ ∀ d t, f s = some (some (d, t)) → ∃ u, s = u ++ t ∧ bal u = 0
theorem gst_bal {n : Nat} {f : List Nat → PR} (hf : BalF n f) {s : List Nat} (hs : PB n s) : ∀ j, ∃ u, s = u ++ (gst f s j).1 ∧ bal u = 0
  | 0 => ⟨[], rfl, rfl⟩
  | j + 1 => by
    obtain ⟨u, h1, h2⟩ := gst_bal hf hs j
    rw [gst]
    split
    · rename_i d r e
      obtain ⟨v, e2, e3⟩ := (hf _ (PB.rest (by rw [← h1]; exact hs) h2)).2 _ _ e
      exact ⟨u ++ v, by rw [List.append_assoc, ← e2]; exact h1, by rw [bal_app, h2, e3]; rfl⟩
    · exact ⟨u, h1, h2⟩
theorem stopAt_out {f : List Nat → PR} {s : List Nat} : ∀ (k j : Nat), isGo f (gst f s (stopAt f s k j)).1 = false ∨ stopAt f s k j = j + k
  | 0, j => .inr rfl
  | k + 1, j => by
    rw [stopAt]
    cases h : isGo f (gst f s j).1 with
    | true => rw [if_pos rfl]; rcases stopAt_out (f := f) (s := s) k (j + 1) with q | q
              · exact .inl q
              · exact .inr (by omega)
    | false => rw [if_neg (by decide)]; exact .inl h
theorem stop_not {f : List Nat → PR} (hsuf : Suf f) (s : List Nat) : isGo f (gst f s (stopAt f s (s.length + 1) 0)).1 = false := by
  rcases stopAt_out (f := f) (s := s) (s.length + 1) 0 with q | q
  · exact q
  · have := gst_isgo_len hsuf s (stopAt f s (s.length + 1) 0) (stopAt_go _ 0 fun i hi => absurd hi (by omega))
    omega
theorem groupP_bal {n : Nat} {f : List Nat → PR} (hf : BalF n f) (hsuf : Suf f) {s : List Nat} (hs : PB n s) : groupP f s ≠ none ∧ ∀ d t, groupP f s = some (some (d, t)) → ∃ u, s = u ++ t ∧ bal u = -1 := by
  have st := stop_not hsuf s
  obtain ⟨u, h1, h2⟩ := gst_bal hf hs (stopAt f s (s.length + 1) 0)
  unfold groupP
  generalize gst f s (stopAt f s (s.length + 1) 0) = q at st h1
  obtain ⟨t, ps⟩ := q
  refine ⟨fun z => ?_, fun d t' h => ?_⟩
  · unfold gEnd at z
    split at z
    · cases z
    · cases z
    · rename_i t' n1 n2
      have hp : PB n t := PB.rest (by rw [← h1]; exact hs) h2
      split at z
      · cases z
      · rename_i n3
        have ft := (hf t hp).1
        cases e : f t with
        | none => exact ft e
        | some o =>
          cases o with
          | none => exact n3 e
          | some q =>
            have : isGo f t = true := by
              unfold isGo
              split
              · exact absurd rfl n1
              · exact absurd rfl (n2 _)
              · rw [e]
            rw [this] at st
            cases st
  · rcases gEnd_cases h with ⟨_, e⟩ | ⟨r, e1, e2⟩ | ⟨_, _, _, e⟩
    · cases e
    · cases e2
      have e1 : t = 93 :: t' := e1
      exact ⟨u ++ [93], by rw [List.append_assoc, h1, e1]; rfl, by rw [bal_app, h2]; rfl⟩
    · cases e
theorem bead_bal {s : List Nat} {d : D} {t : List Nat} (h : beadP s = some (d, t)) : ∃ u, s = u ++ t ∧ bal u = 0 := by
  obtain ⟨e, _⟩ := beadP_suf h
  exact ⟨run lets s ++ [46], by rw [List.append_assoc]; exact e, by rw [bal_app, bal_zero fun c hc => br_let (run_mem lets s c hc)]; rfl⟩
theorem nodeP_bal : ∀ n, BalF n (nodeP n)
  | 0, s, hs => by
    rw [nodeP]
    have h1 := hs 1
    have n1 : ¬ (s.head? = some 91 ∨ s.head? = some 40) := fun z => by
      cases s with
      | nil => rcases z with z | z <;> cases z
      | cons a s =>
        have ha : br a = 1 := by
          rcases z with z | z <;> (cases z; rfl)
        rw [List.take_succ_cons, bal_cons, ha] at h1
        simp [bal] at h1
    rw [if_neg n1]
    exact ⟨fun z => (nomatch z), fun d t h => bead_bal (Option.some.inj h)⟩
  | n + 1, s, hs => by
    rw [nodeP]
    split
    · rename_i z
      cases s with
      | nil => cases z
      | cons a s =>
        cases z
        have hs' : PB n s := hs.tail rfl
        obtain ⟨g1, g2⟩ := groupP_bal (nodeP_bal n) (nodeP_suf n) hs'
        refine ⟨g1, fun d t h => ?_⟩
        obtain ⟨u, e, b⟩ := g2 d t h
        have e : s = u ++ t := e
        exact ⟨91 :: u, by rw [e]; rfl, by rw [bal_cons, b]; rfl⟩
    · split
      · rename_i z
        cases s with
        | nil => cases z
        | cons a s =>
          cases z
          have hs' : PB n s := hs.tail rfl
          obtain ⟨g1, g2⟩ := nodeP_bal n s hs'
          refine ⟨fun z => ?_, fun d t h => ?_⟩
          · show False
            cases e : nodeP n s with
            | none => exact g1 e
            | some o =>
              have z : againP (nodeP n s) = none := z
              rw [e] at z
              cases o with
              | none => cases z
              | some q =>
                obtain ⟨d, t⟩ := q
                unfold againP at z
                simp only at z
                split at z
                · split at z <;> cases z
                · cases z
          · obtain ⟨d', t', e1, e2, _, _, _⟩ := againP_some h
            obtain ⟨u, e3, b⟩ := g2 _ _ e1
            have e3 : s = u ++ t' := e3
            refine ⟨40 :: (u ++ (run figs t' ++ [41])), ?_, ?_⟩
            · rw [e3]
              conv => lhs; rw [e2]
              simp
            · rw [bal_cons, bal_app, bal_app, b, bal_zero fun c hc => br_fig (run_mem figs t' c hc)]
              rfl
      · exact ⟨fun z => (nomatch z), fun d t h => bead_bal (Option.some.inj h)⟩
/-! ### brackets of stretches -/
def UB (n : Nat) (s : List Nat) : Prop := ∀ i k, bal ((s.drop i).take k) ≤ n
theorem UB.pb {n : Nat} {s : List Nat} (h : UB n s) : PB n s := fun k => h 0 k
theorem UB.mono {n m : Nat} {s : List Nat} (h : UB n s) (l : n ≤ m) : UB m s := fun i k => by have := h i k; omega
theorem UB.app {n m : Nat} {s t : List Nat} (h : UB n s) (g : UB m t) : UB (n + m) (s ++ t) := fun i k => by
  rw [List.drop_append, List.take_append, bal_app]
  have h1 := h i k
  have h2 := g (i - s.length) (k - (s.drop i).length)
  omega
theorem UB.take {n : Nat} {s : List Nat} (h : UB n s) (a : Nat) : UB n (s.take a) := fun i k => by
  rw [List.drop_take, List.take_take]
  exact h i _
theorem UB.drop {n : Nat} {s : List Nat} (h : UB n s) (a : Nat) : UB n (s.drop a) := fun i k => by
  rw [List.drop_drop]
  exact h _ _
theorem UB.one (c : Nat) : UB 1 [c] := fun i k => by
  cases i with
  | zero =>
    cases k with
    | zero => rw [List.take_zero, bal_nil]; decide
    | succ k => rw [List.drop_zero, List.take_succ_cons, List.take_nil, bal_cons, bal_nil]; have := br_le c; omega
  | succ i => rw [List.drop_succ_cons, List.drop_nil, List.take_nil]; decide
theorem UB.map {n : Nat} {s : List Nat} {g : Nat → Nat} (h : UB n s) (hg : ∀ c ∈ s, br (g c) = br c) : UB n (s.map g) := fun i k => by
  rw [← List.map_drop, ← List.map_take]
  have e : ∀ l : List Nat, (∀ c ∈ l, br (g c) = br c) → bal (l.map g) = bal l := fun l hl => by
    induction l with
    | nil => rfl
    | cons a l ih => rw [List.map_cons, bal_cons, bal_cons, hl a List.mem_cons_self, ih fun c hc => hl c (List.mem_cons_of_mem _ hc)]
  rw [e _ fun c hc => hg c (List.mem_of_mem_drop (List.mem_of_mem_take hc))]
  exact h i k
/-- well bracketed, no deeper than n -/
structure WB (n : Nat) (s : List Nat) : Prop where
  z : bal s = 0
  lo : ∀ k, 0 ≤ bal (s.take k)
  hi : ∀ k, bal (s.take k) ≤ n
theorem WB.ub {n : Nat} {s : List Nat} (h : WB n s) : UB n s := fun i k => by
  have e : s.take (i + k) = s.take i ++ (s.drop i).take k := by rw [List.take_add]
  have h1 := h.hi (i + k)
  have h2 := h.lo i
  rw [e, bal_app] at h1
  omega
theorem WB.app {n : Nat} {s t : List Nat} (h : WB n s) (g : WB n t) : WB n (s ++ t) := by
  refine ⟨by rw [bal_app, h.z, g.z]; rfl, fun k => ?_, fun k => ?_⟩
  · rw [List.take_append, bal_app]
    have a := h.lo k
    have b := g.lo (k - s.length)
    omega
  · rw [List.take_append, bal_app]
    by_cases hk : k ≤ s.length
    · rw [Nat.sub_eq_zero_of_le hk, List.take_zero, bal_nil]
      have := h.hi k
      omega
    · rw [List.take_of_length_le (by omega), h.z]
      have := g.hi (k - s.length)
      omega
theorem WB.mono {n m : Nat} {s : List Nat} (h : WB n s) (l : n ≤ m) : WB m s := ⟨h.z, h.lo, fun k => by have := h.hi k; omega⟩
theorem WB.zero {n : Nat} {s : List Nat} (h : ∀ c ∈ s, br c = 0) : WB n s := ⟨bal_zero h, fun k => by rw [bal_zero fun c hc => h c (List.mem_of_mem_take hc)]; exact Int.le_refl _, fun k => by rw [bal_zero fun c hc => h c (List.mem_of_mem_take hc)]; omega⟩
theorem WB.brack {n a b : Nat} {s : List Nat} (h : WB n s) (ha : br a = 1) (hb : br b = -1) : WB (n + 1) ([a] ++ s ++ [b]) := by
  refine ⟨by rw [bal_app, bal_app, h.z, bal_cons, bal_cons, bal_nil, ha, hb]; rfl, fun k => ?_, fun k => ?_⟩
  · cases k with
    | zero => exact Int.le_refl _
    | succ k =>
      rw [List.append_assoc, List.singleton_append, List.take_succ_cons, bal_cons, ha, List.take_append, bal_app]
      have := h.lo k
      have : -1 ≤ bal (List.take (k - s.length) [b]) := by
        cases (k - s.length) with
        | zero => rw [List.take_zero, bal_nil]; decide
        | succ m => rw [List.take_succ_cons, List.take_nil, bal_cons, hb]; decide
      omega
  · cases k with
    | zero => rw [List.take_zero, bal_nil]; omega
    | succ k =>
      rw [List.append_assoc, List.singleton_append, List.take_succ_cons, bal_cons, ha, List.take_append, bal_app]
      have := h.hi k
      have : bal (List.take (k - s.length) [b]) ≤ 0 := by
        cases (k - s.length) with
        | zero => rw [List.take_zero, bal_nil]; decide
        | succ m => rw [List.take_succ_cons, List.take_nil, bal_cons, hb]; decide
      omega
theorem WB.flat {n : Nat} : ∀ {ts : List (List Nat)}, (∀ t ∈ ts, WB n t) → WB n ts.flatten
  | [], _ => WB.zero fun c hc => by simp at hc
  | t :: ts, h => by rw [List.flatten_cons]; exact (h t List.mem_cons_self).app (WB.flat fun x hx => h x (List.mem_cons_of_mem _ hx))
end DL
end
section
set_option Elab.async false
set_option linter.all false
set_option maxRecDepth 100000
set_option maxHeartbeats 4000000
/-! N94i: what is written is read. -/
namespace DL
open PySem PySem.Spec PyProof.Rows L2
variable [TL]
theorem dig_num {i : Int} (h0 : 0 ≤ i) : digL i = _root_.TL.numL i.toNat := by
  have e : ((i.toNat : Nat) : Int) = i := by omega
  have := _root_.TL.tl_num i.toNat
  rw [e, digS] at this
  exact (csOf_ofCs _).symm.trans this
theorem dig_facts {i : Int} (h0 : 1 < i) (h1 : i < 10 ^ 30) : (∀ c ∈ digL i, c ∈ figs) ∧ digL i ≠ [] ∧ (digL i).length ≤ 30 ∧ numF (digL i) = i := by
  rw [dig_num (by omega)]
  refine ⟨fun c hc => ?_, _root_.TL.numL_ne _, _root_.TL.numL_len (by decide) (by omega), ?_⟩
  · have := _root_.TL.numL_digits i.toNat c hc
    simp [figs]; omega
  · unfold numF
    rw [_root_.TL.numL_val]; omega
theorem let_head {l : List Nat} (h : ∀ c ∈ l, c ∈ lets) (n : l ≠ []) {r : List Nat} : ∃ c t, l ++ r = c :: t ∧ c ∈ lets := by
  cases l with
  | nil => exact absurd rfl n
  | cons a l => exact ⟨a, l ++ r, rfl, h a List.mem_cons_self⟩
/-- how a node's text begins -/
theorem code_head {n m : Nat} {d : D} (h : nodeN n d = true) (hm : n + 1 ≤ m) : ∃ c t, codeL m d = c :: t ∧ c ≠ 93 := by
  obtain ⟨m, rfl⟩ : ∃ m', m = m' + 1 := ⟨m - 1, by omega⟩
  have h : nodeN (n + 1) d = true := node_mono1 h
  rcases node_cases h with ⟨w, rfl, hw⟩ | ⟨x, i, rfl, h1, h2⟩ | ⟨r, rfl, h1, h2, h3⟩
  · obtain ⟨l1, l2⟩ := word_lets hw
    obtain ⟨c, t, e, hc⟩ := let_head l1 l2 (r := [46])
    refine ⟨c, t, by rw [code_bead]; exact e, fun z => ?_⟩
    subst z; simp [lets] at hc
  · exact ⟨40, _, by rw [code_again]; rfl, by decide⟩
  · exact ⟨91, _, by rw [code_group _ _ h1]; rfl, by decide⟩
theorem isGo_of {f : List Nat → PR} {t : List Nat} {q : D × List Nat} (h : f t = some (some q)) (h1 : ∃ c r, t = c :: r ∧ c ≠ 93) : isGo f t = true := by
  obtain ⟨c, r, rfl, hc⟩ := h1
  unfold isGo
  split
  · rename_i e; cases e
  · rename_i e; cases e; exact absurd rfl hc
  · rw [h]
theorem low_tup {ds : List D} (h : (D.tup ds).low = true) {d : D} (hd : d ∈ ds) : d.low = true := lowA_mem (by simpa [D.low] using h) hd
theorem round_ : ∀ (n m : Nat) (d : D) (rest : List Nat), n + 1 ≤ m → nodeN n d = true → d.low = true → nodeP n (codeL m d ++ rest) = some (some (d, rest))
  | n, 0, d, rest, hm, h, hl => absurd hm (by omega)
  | n, m + 1, d, rest, hm, h, hl => by
    have bead : ∀ w, isWord (.str w) = true → nodeP n (codeL (m + 1) (.tup [.str "bead", .str w]) ++ rest) = some (some (.tup [.str "bead", .str w], rest)) := fun w hw => by
      obtain ⟨l1, l2⟩ := word_lets hw
      rw [code_bead, List.append_assoc, List.singleton_append]
      obtain ⟨c, t, e, hc⟩ := let_head l1 l2 (r := 46 :: rest)
      have nh : ∀ z : Nat, z ∉ lets → (csOf w ++ 46 :: rest).head? ≠ some z := fun z hz q => by
        rw [e] at q; cases q; exact hz hc
      have hb : nodeP n (csOf w ++ 46 :: rest) = some (beadP (csOf w ++ 46 :: rest)) := by
        cases n with
        | zero => rw [nodeP, if_neg]; intro z; rcases z with z | z; exact nh 91 (by decide) z; exact nh 40 (by decide) z
        | succ k => rw [nodeP, if_neg (nh 91 (by decide)), if_neg (nh 40 (by decide))]
      rw [hb]
      have hr : run lets (csOf w ++ 46 :: rest) = csOf w := run_app l1 (fun c hc => by cases hc; decide)
      have hd : (csOf w ++ 46 :: rest).drop (csOf w).length = 46 :: rest := List.drop_left
      unfold beadP
      rw [hr, hd, ofCs_csOf]
      rfl
    cases n with
    | zero =>
      obtain ⟨w, rfl, hw⟩ := node0 h
      exact bead w hw
    | succ n =>
      rcases node_cases h with ⟨w, rfl, hw⟩ | ⟨x, i, rfl, h1, h2⟩ | ⟨r, rfl, h1, h2, h3⟩
      · exact bead w hw
      · have li := low_tup hl (d := .int i) (by simp)
        have lx := low_tup hl (d := x) (by simp)
        have li : 0 ≤ i ∧ i < 10 ^ 30 := by simpa [D.low] using li
        obtain ⟨f1, f2, f3, f4⟩ := dig_facts h1 li.2
        have ih := round_ n m x (digL i ++ 41 :: rest) (by omega) (sg_node h2) lx
        rw [code_again]
        have e : [40] ++ codeL m x ++ digL i ++ [41] ++ rest = 40 :: (codeL m x ++ (digL i ++ 41 :: rest)) := by simp
        rw [e, nodeP, if_neg (by simp), if_pos List.head?_cons]
        show againP (nodeP n (codeL m x ++ (digL i ++ 41 :: rest))) = _
        rw [ih]
        have hr : run figs (digL i ++ 41 :: rest) = digL i := run_app f1 (fun c hc => by cases hc; decide)
        have hd : (digL i ++ 41 :: rest).drop (digL i).length = 41 :: rest := List.drop_left
        show (match (digL i ++ 41 :: rest).drop (run figs (digL i ++ 41 :: rest)).length with | 41 :: u => if run figs (digL i ++ 41 :: rest) = [] ∨ 30 < (run figs (digL i ++ 41 :: rest)).length then some none else some (some (D.tup [.str "again", x, .int (numF (run figs (digL i ++ 41 :: rest)))], u)) | _ => some none : PR) = _
        rw [hr, hd]
        show (if _ then _ else _) = _
        rw [if_neg (by intro z; rcases z with z | z; exact f2 z; omega), f4]
      · have lr : ∀ d ∈ r, d.low = true := fun d hd => low_tup hl (List.mem_cons_of_mem _ hd)
        rw [code_group m r h1]
        have e : [91] ++ (r.map (codeL m)).flatten ++ [93] ++ rest = 91 :: ((r.map (codeL m)).flatten ++ 93 :: rest) := by simp
        rw [e, nodeP, if_pos List.head?_cons]
        show groupP (nodeP n) ((r.map (codeL m)).flatten ++ 93 :: rest) = _
        have g : ∀ j, j ≤ r.length → gst (nodeP n) ((r.map (codeL m)).flatten ++ 93 :: rest) j = (((r.drop j).map (codeL m)).flatten ++ 93 :: rest, r.take j) := fun j hj => by
          induction j with
          | zero => simp [gst]
          | succ j ih =>
            have ih := ih (by omega)
            have hj' : j < r.length := by omega
            have ed : r.drop j = r[j] :: r.drop (j + 1) := List.drop_eq_getElem_cons hj'
            have mem : r[j] ∈ r := List.getElem_mem hj'
            have step : nodeP n (gst (nodeP n) ((r.map (codeL m)).flatten ++ 93 :: rest) j).1 = some (some (r[j], ((r.drop (j + 1)).map (codeL m)).flatten ++ 93 :: rest)) := by
              rw [ih, ed, List.map_cons, List.flatten_cons, List.append_assoc]
              exact round_ n m r[j] _ (by omega) (List.all_eq_true.mp h2 _ mem) (lr _ mem)
            rw [gst_succ step, ih]
            show (_, r.take j ++ [r[j]]) = _
            rw [List.take_succ, List.getElem?_eq_getElem hj']
            rfl
        have go : ∀ j, j < r.length → isGo (nodeP n) (gst (nodeP n) ((r.map (codeL m)).flatten ++ 93 :: rest) j).1 = true := fun j hj => by
          have ed : r.drop j = r[j] :: r.drop (j + 1) := List.drop_eq_getElem_cons hj
          have mem : r[j] ∈ r := List.getElem_mem hj
          have hnd := List.all_eq_true.mp h2 _ mem
          rw [g j (by omega), ed, List.map_cons, List.flatten_cons, List.append_assoc]
          obtain ⟨c, t, ec, hc⟩ := code_head hnd (m := m) (by omega)
          exact isGo_of (round_ n m r[j] _ (by omega) hnd (lr _ mem)) ⟨c, _, by rw [ec]; rfl, hc⟩
        have gl := g r.length (Nat.le_refl _)
        rw [List.drop_length, List.take_length] at gl
        have fin : isGo (nodeP n) (gst (nodeP n) ((r.map (codeL m)).flatten ++ 93 :: rest) r.length).1 = false := by rw [gl]; rfl
        have lenr : r.length ≤ ((r.map (codeL m)).flatten ++ 93 :: rest).length := by
          have := gst_isgo_len (nodeP_suf n) ((r.map (codeL m)).flatten ++ 93 :: rest) r.length go
          omega
        unfold groupP
        rw [stopAt_eq go fin _ 0 (by omega) (by omega), gl]
        rfl
end DL
end
section
set_option Elab.async false
set_option linter.all false
set_option maxRecDepth 100000
set_option maxHeartbeats 4000000
namespace DL
open PySem PySem.Spec PyProof.Rows L2
variable [TL]
theorem code_wb : ∀ (n m : Nat) (d : D), n + 1 ≤ m → nodeN n d = true → d.low = true → WB n (codeL m d) ∧ ∀ c ∈ codeL m d, c < 128
  | n, 0, d, hm, h, hl => absurd hm (by omega)
  | n, m + 1, d, hm, h, hl => by
    have bead : ∀ w, isWord (.str w) = true → WB n (codeL (m + 1) (.tup [.str "bead", .str w])) ∧ ∀ c ∈ codeL (m + 1) (.tup [.str "bead", .str w]), c < 128 := fun w hw => by
      obtain ⟨l1, l2⟩ := word_lets hw
      rw [code_bead]
      refine ⟨WB.zero fun c hc => ?_, fun c hc => ?_⟩
      · rcases List.mem_append.mp hc with hc | hc
        · exact br_let (l1 c hc)
        · rw [List.mem_singleton.mp hc]; rfl
      · rcases List.mem_append.mp hc with hc | hc
        · have := l1 c hc; simp [lets] at this; omega
        · rw [List.mem_singleton.mp hc]; decide
    cases n with
    | zero =>
      obtain ⟨w, rfl, hw⟩ := node0 h
      exact bead w hw
    | succ n =>
      rcases node_cases h with ⟨w, rfl, hw⟩ | ⟨x, i, rfl, h1, h2⟩ | ⟨r, rfl, h1, h2, h3⟩
      · exact bead w hw
      · have li := low_tup hl (d := .int i) (by simp)
        have lx := low_tup hl (d := x) (by simp)
        have li : 0 ≤ i ∧ i < 10 ^ 30 := by simpa [D.low] using li
        obtain ⟨f1, f2, f3, f4⟩ := dig_facts h1 li.2
        obtain ⟨a, b⟩ := code_wb n m x (by omega) (sg_node h2) lx
        rw [code_again]
        refine ⟨?_, fun c hc => ?_⟩
        · have e : [40] ++ codeL m x ++ digL i ++ [41] = [40] ++ (codeL m x ++ digL i) ++ [41] := by simp
          rw [e]
          exact (a.app (WB.zero fun c hc => br_fig (f1 c hc))).brack rfl rfl
        · simp only [List.mem_append, List.mem_singleton] at hc
          rcases hc with ((hc | hc) | hc) | hc
          · omega
          · exact b c hc
          · have := f1 c hc; simp [figs] at this; omega
          · omega
      · rw [code_group m r h1]
        have ih : ∀ t ∈ r.map (codeL m), WB n t ∧ ∀ c ∈ t, c < 128 := fun t ht => by
          obtain ⟨d, hd, rfl⟩ := List.mem_map.mp ht
          exact code_wb n m d (by omega) (List.all_eq_true.mp h2 d hd) (low_tup hl (List.mem_cons_of_mem _ hd))
        refine ⟨(WB.flat fun t ht => (ih t ht).1).brack rfl rfl, fun c hc => ?_⟩
        simp only [List.mem_append, List.mem_singleton] at hc
        rcases hc with (hc | hc) | hc
        · omega
        · obtain ⟨t, ht, hc⟩ := List.mem_flatten.mp hc
          exact (ih t ht).2 c hc
        · omega
/-- a text that may be read, by its signs -/
def TxL (l : List Nat) : Prop := l.length ≤ 2 ^ 15 ∧ (∀ c ∈ l, c < 128) ∧ UB 12 l
theorem str_ascii {l : List Nat} (h : ∀ c ∈ l, c < 128) : PyData.strOk (ofCs l) = true := by
  unfold PyData.strOk ofCs
  rw [Array.all_eq_true']
  intro c hc
  have := h c (by simpa using hc)
  simp; omega
theorem node_in {l : List Nat} (h : UB 12 l) : ∃ o, nodeP 12 l = some o := by
  cases e : nodeP 12 l with
  | none => exact absurd e (nodeP_bal 12 l h.pb).1
  | some o => exact ⟨o, rfl⟩
/-- what the law knows of a node's text -/
structure CdOk (d : D) (cs : List Nat) : Prop where
  e : codeL 13 d = cs
  wb : WB 3 cs
  asc : ∀ c ∈ cs, c < 128
  l0 : 0 < cs.length
  l1 : cs.length ≤ 10190
  rd : readP cs = some d
theorem made_code {d : D} (h : MdOk 3 10190 d) : CdOk d (codeL 13 d) := by
  obtain ⟨a, b⟩ := code_wb 3 13 d (by decide) h.nd h.low
  have n13 : nodeN 13 d = true := node_mono h.nd (by decide)
  have cl := code_len 13 d n13
  obtain ⟨c, t, e, _⟩ := code_head h.nd (m := 13) (by decide)
  have rt := round_ 12 13 d [] (by decide) (node_mono h.nd (by decide)) h.low
  rw [List.append_nil] at rt
  refine ⟨rfl, a, b, by rw [e]; simp, Nat.le_trans cl h.wt, ?_⟩
  unfold readP
  rw [rt]
  exact if_pos ⟨n13, rfl⟩
theorem up1_facts {c : Nat} (h : c < 128) : PyProof.Rows.up1 c < 128 ∧ br (PyProof.Rows.up1 c) = br c := by
  revert c
  decide +kernel
def okTx : D → Bool
  | .str s => decide (s.length ≤ 2 ^ 15) && (PyData.strOk s && (nodeP 12 (csOf s)).isSome)
  | _ => false
theorem lits_ok : (lit1 ++ lit2).all okTx = true := by decide +kernel
theorem dyn_ok {d : D} {cs : List Nat} (h : CdOk d cs) {a c : Nat} (hc : c ∈ cs) : ∀ l ∈ dyn1 cs a c ++ dyn2 cs ++ (sg6.map fun g => dyn3 cs a g).flatten, TxL l := by
  have u := h.wb.ub
  have l1 := h.l1
  have tl : (cs.take a).length ≤ 10190 := by rw [List.length_take]; omega
  have dl : ∀ b, (cs.drop b).length ≤ 10190 := fun b => by rw [List.length_drop]; omega
  have ta : ∀ x ∈ cs.take a, x < 128 := fun x hx => h.asc x (List.mem_of_mem_take hx)
  have da : ∀ b, ∀ x ∈ cs.drop b, x < 128 := fun b x hx => h.asc x (List.mem_of_mem_drop hx)
  have app : ∀ {n m : Nat} {s t : List Nat}, n + m ≤ 12 → (s.length ≤ 20384 ∧ (∀ x ∈ s, x < 128) ∧ UB n s) → (t.length ≤ 10200 ∧ (∀ x ∈ t, x < 128) ∧ UB m t) → (s ++ t).length ≤ s.length + 10200 ∧ (∀ x ∈ s ++ t, x < 128) ∧ UB (n + m) (s ++ t) := fun {n m s t} hn hs ht => by
    refine ⟨by rw [List.length_append]; omega, fun x hx => ?_, hs.2.2.app ht.2.2⟩
    rcases List.mem_append.mp hx with hx | hx
    · exact hs.2.1 x hx
    · exact ht.2.1 x hx
  have one : ∀ {g : Nat}, g < 128 → ([g].length ≤ 1 ∧ (∀ x ∈ [g], x < 128) ∧ UB 1 [g]) := fun {g} hg => ⟨Nat.le_refl _, fun x hx => by rw [List.mem_singleton.mp hx]; exact hg, UB.one g⟩
  have asc2 : ∀ {s t : List Nat}, (∀ x ∈ s, x < 128) → (∀ x ∈ t, x < 128) → ∀ x ∈ s ++ t, x < 128 := fun hs ht x hx => (List.mem_append.mp hx).elim (hs x) (ht x)
  have o1 : ∀ {g : Nat}, g < 128 → ∀ x ∈ [g], x < 128 := fun hg x hx => by rw [List.mem_singleton.mp hx]; exact hg
  have d3 : ∀ g, g < 128 → ∀ l ∈ dyn3 cs a g, TxL l := fun g hg l hl => by
    simp only [dyn3, List.mem_cons, List.not_mem_nil, or_false] at hl
    rcases hl with rfl | rfl
    · exact ⟨by simp only [List.length_append, List.length_singleton]; have := dl (a + 1); omega, asc2 (asc2 ta (o1 hg)) (da _), (((u.take a).app (UB.one g)).app (u.drop _)).mono (by decide)⟩
    · exact ⟨by simp only [List.length_append, List.length_singleton]; have := dl a; omega, asc2 (asc2 ta (o1 hg)) (da _), (((u.take a).app (UB.one g)).app (u.drop _)).mono (by decide)⟩
  intro l hl
  rcases List.mem_append.mp hl with hl | hl
  · rcases List.mem_append.mp hl with hl | hl
    · simp only [dyn1, List.mem_cons, List.not_mem_nil, or_false] at hl
      rcases hl with rfl | rfl | rfl | rfl | rfl | rfl
      · exact ⟨by simp only [List.length_append]; have := dl (a + 1); omega, asc2 ta (da _), ((u.take a).app (u.drop _)).mono (by decide)⟩
      · exact ⟨by simp only [List.length_append, List.length_singleton]; have := dl a; omega, asc2 (asc2 ta (o1 (h.asc c hc))) (da _), (((u.take a).app (UB.one c)).app (u.drop _)).mono (by decide)⟩
      · exact ⟨by omega, ta, (u.take a).mono (by decide)⟩
      · exact ⟨by have := dl a; omega, da _, (u.drop a).mono (by decide)⟩
      · exact ⟨by simp only [List.length_append, List.length_singleton]; omega, asc2 h.asc (o1 (by decide)), (u.app (UB.one _)).mono (by decide)⟩
      · exact ⟨by simp only [List.length_append, List.length_singleton]; omega, asc2 (asc2 (o1 (by decide)) h.asc) (o1 (by decide)), (((UB.one _).app u).app (UB.one _)).mono (by decide)⟩
    · simp only [dyn2, List.mem_cons, List.not_mem_nil, or_false] at hl
      rcases hl with rfl | rfl | rfl | rfl
      · exact ⟨by simp only [List.length_append, List.length_singleton]; omega, asc2 (asc2 (asc2 (o1 (by decide)) h.asc) h.asc) (o1 (by decide)), ((((UB.one _).app u).app u).app (UB.one _)).mono (by decide)⟩
      · exact ⟨by simp only [List.length_append, List.length_singleton]; omega, asc2 h.asc (o1 (by decide)), (u.app (UB.one _)).mono (by decide)⟩
      · exact ⟨by simp only [List.length_append, List.length_singleton]; omega, asc2 (o1 (by decide)) h.asc, ((UB.one _).app u).mono (by decide)⟩
      · refine ⟨by simp only [List.length_append, List.length_singleton, List.length_map]; omega, asc2 (fun x hx => ?_) (o1 (by decide)), ((UB.map u fun c hc => (up1_facts (h.asc c hc)).2).app (UB.one _)).mono (by decide)⟩
        obtain ⟨y, hy, rfl⟩ := List.mem_map.mp hx
        exact (up1_facts (h.asc y hy)).1
  · obtain ⟨ls, hls, hl⟩ := List.mem_flatten.mp hl
    obtain ⟨g, hg, rfl⟩ := List.mem_map.mp hls
    exact d3 g (by simp [sg6] at hg; omega) l hl
end DL
end
section
set_option Elab.async false
set_option linter.all false
set_option maxRecDepth 100000
set_option maxHeartbeats 4000000
namespace DL
open PySem PySem.Spec PyProof.Rows L2
variable [TL]
section
variable {X : Cx} {δ δ1 δ2 : List DV} {a b e : Expr} {pos apos p2 : Pos}
theorem op_mulS : OpR X (binaryOp .Mult) (fun x y H Q => ∃ s n, x = .str s ∧ y = .int n ∧ _root_.PySem.MulOk s n ∧ Q (.str (Txt.mul s n)) H) := by
  intro pins s σ H x y v u Q I rx ry h
  obtain ⟨z, n, rfl, rfl, hok, q⟩ := h
  obtain ⟨t, rfl⟩ := rx
  obtain ⟨t', rfl⟩ := ry
  exact PySem.SB.mul hok fun t'' k => ⟨.str (Txt.mul z n), H, I.tok _, ⟨_, rfl⟩, q⟩
theorem de_mulS {s : Str} {n : Int} (ha : DE X δ a (.d (.str s)) δ1) (hb : DE X δ1 b (.d (.int n)) δ2) (h : _root_.PySem.MulOk s n) : DE X δ (.BinOp a .Mult b pos) (.d (.str (Txt.mul s n))) δ2 := de_bin op_mulS ha hb fun F H v u Q e rv ru k => by
  cases rv; cases ru
  exact ⟨s, n, rfl, rfl, h, k _ (.str _)⟩
end
/-! ### what the law asks to be read -/
theorem gd_str {s : Str} {n : Nat} (h : s.length ≤ 2 ^ 15) (hk : PyData.strOk s = true) : Gd n (.str s) := ⟨by simpa [D.ok] using hk, by simp [D.dep], by simp only [D.wt]; omega, rfl⟩
end DL
end
section
set_option Elab.async false
set_option linter.all false
set_option maxRecDepth 100000
set_option maxHeartbeats 4000000
namespace W76
open PySem PySem.Spec PyProof.Rows L2 DL Hd
variable [TL]
variable {P : Program} {w : World} {K : PySem.W.Frag} {mg : Str → Option Value} {base : Heap}
abbrev NL : List Str := ["script", "at", "purse", "pool", "spin", "node", "text", "odd", "bead", "other", "caught", "error"]
abbrev LX (P : Program) (w : World) (K : PySem.W.Frag) (mg : Str → Option Value) (base : Heap) (f : Addr) (cdv : Value) (A : Around) (outer : List Env) (s : Shared) (H : Hp) (E : XK) : Cx := cxOf (L2.CX P w) P w K mg base NL "law" (defScope s_law) f cdv A outer s H E
theorem nl_nd : NL.Nodup := by decide +kernel
theorem sc_law : FnScope NL ["script"] (defScope s_law) := ⟨rfl, rfl, rfl, by decide +kernel, rfl, by decide +kernel, by decide +kernel⟩
structure LawT (P : Program) (K : PySem.W.Frag) (mg : Str → Option Value) (CP CN CS : Addr) : Prop where
  Q : TrT P K mg CP CS
  Pu : DfP K mg
  purse : Df K mg "_law_purse" s__law_purse
  exact_ : Df K mg "_law_exact" s__law_exact
  made : Df K mg "_law_made" s__law_made
  bent : Df K mg "_law_bent" s__law_bent
  check : Df K mg "check_node" s_check_node
  ntext : Df K mg "node_text" s_node_text
  errN : Err P K mg "InvalidNode" CN
  exmN : PySem.W.exmOne K (.ref CN) (.ref CS) = some true
  isN : PySem.W.kitOne K (.ref CN) (.ref CN) = some true
/-! ### odd things -/
def OddOk (x : D) : Prop := InT x ∧ ShT x
theorem odd_gd {x : D} {n : Nat} (h : Gd n x) (hn : n ≤ 64) (hs : x.isi "str" = false) : OddOk x := ⟨⟨h.plain, .inl hs⟩, .inl (h.shows hn)⟩
theorem odd_str {s : Str} (h : TxOk s) : OddOk (.str s) := ⟨⟨rfl, .inr ⟨s, rfl, h⟩⟩, .inl ((gd_str (n := 1) h.1 h.2.1).shows (by decide))⟩
theorem tx_of {l : List Nat} (h : TxL l) : TxOk (ofCs l) := ⟨by rw [ofCs_len]; exact h.1, str_ascii h.2.1, by rw [csOf_ofCs]; exact node_in h.2.2⟩
theorem okTx_of {x : D} (h : okTx x = true) : ∃ s, x = .str s ∧ TxOk s := by
  unfold okTx at h
  split at h
  · rename_i s
    simp only [Bool.and_eq_true, decide_eq_true_eq] at h
    exact ⟨s, rfl, h.1, h.2.1, Option.isSome_iff_exists.mp h.2.2⟩
  · cases h
theorem bent_ok {d : D} {cs : List Nat} (h : CdOk d cs) {a : Nat} (ha : a < cs.length) : ∀ x ∈ bentD cs a, OddOk x := by
  have hc : cs.getD a 0 ∈ cs := by
    rw [List.getD_eq_getElem?_getD, List.getElem?_eq_getElem ha]
    exact List.getElem_mem ha
  have dyn := dyn_ok h (a := a) hc
  intro x hx
  unfold bentD bentJ bent0 at hx
  have e6 : sg6.take 6 = sg6 := rfl
  rw [e6] at hx
  have hx : x ∈ lit1 ++ lit2 ∨ x ∈ (dyn1 cs a (cs.getD a 0) ++ dyn2 cs ++ (sg6.map fun g => dyn3 cs a g).flatten).map tx := by
    simp only [List.map_append, List.map_flatten, List.map_map, List.mem_append] at hx ⊢
    rcases hx with (((hx | hx) | hx) | hx) | hx
    · exact .inl (.inl hx)
    · exact .inl (.inr hx)
    · exact .inr (.inl (.inl hx))
    · exact .inr (.inl (.inr hx))
    · exact .inr (.inr hx)
  rcases hx with hx | hx
  · obtain ⟨s, rfl, hs⟩ := okTx_of (List.all_eq_true.mp lits_ok x hx)
    exact odd_str hs
  · obtain ⟨l, hl, rfl⟩ := List.mem_map.mp hx
    exact odd_str (tx_of (dyn l hl))
def odds0 (d : D) : List D := [.non, .int 5, .lst [], .lst [.str "a."], .tup [.str "a."], .dct [] [], .bl true, d]
theorem odds0_ok {d : D} (h : MdOk 3 10190 d) : ∀ x ∈ odds0 d, OddOk x := by
  intro x hx
  have st : PyData.strOk (Str.ofString "a.") = true := by decide +kernel
  have gs : GdA 1 [.str "a."] := ⟨by simp [D.okA, D.ok, st], by simp [D.depA, D.dep], by decide +kernel, rfl⟩
  simp only [odds0, List.mem_cons, List.not_mem_nil, or_false] at hx
  rcases hx with rfl | rfl | rfl | rfl | rfl | rfl | rfl | rfl
  · exact odd_gd (n := 1) ⟨rfl, by decide, by decide, rfl⟩ (by decide) rfl
  · exact odd_gd (n := 1) ⟨rfl, by decide, by decide +kernel, rfl⟩ (by decide) rfl
  · exact odd_gd (n := 1) ⟨rfl, by decide, by decide, rfl⟩ (by decide) rfl
  · exact odd_gd (n := 2) gs.lst (by decide) rfl
  · exact odd_gd (n := 2) gs.tup (by decide) rfl
  · exact ⟨⟨rfl, .inl rfl⟩, .inr rfl⟩
  · exact odd_gd (n := 1) ⟨rfl, by decide, by decide, rfl⟩ (by decide) rfl
  · obtain ⟨t, y, r, rfl⟩ := node_shape h.nd
    exact odd_gd (n := 4) (h.gd (by decide)) (by decide) rfl
end W76
end
section
set_option Elab.async false
set_option linter.all false
set_option maxRecDepth 100000
set_option maxHeartbeats 4000000
namespace W76
open PySem PySem.Spec PyProof.Rows L2 DL Hd
variable [TL]
variable {P : Program} {w : World} {K : PySem.W.Frag} {mg : Str → Option Value} {base : Heap}
abbrev lawO : Stmt := (defBody s_law).headD default
abbrev lawS : Stmt := (forB lawO).getD 2 default
abbrev lawI : Stmt := (forB lawS).getD 3 default
abbrev F1 (S : Hp → V → Prop) (a : D) (p : Pu) (pool : List D) (x4 : DV) (d : D) (cs : List Nat) (x7 : DV) : List DV := [.pr S, .d a, .ow (pz p), .d (.lst pool), x4, .d d, .d (tx cs), x7, .un, .un, .un, .un]
section
variable {f : Addr} {cdv : Value} {A : Around} {outer : List Env} {s : Shared} {H : Hp} {E : XK} {CP CN CS : Addr}
theorem inner (T : LawT P K mg CP CN CS) (hG : (LX P w K mg base f cdv A outer s H E).A.guards = some []) (hr : Room 40 (LX P w K mg base f cdv A outer s H E).A) {L : Nat} (hL : L ≤ 2 ^ 60) {p : Pu} (op : OkP L p) {S : Hp → V → Prop} {a d : D} {pool : List D} {x4 x7 : DV} {cs : List Nat} (hd : MdOk 3 10190 d) (hc : CdOk d cs) :
    ∃ y, DS (LX P w K mg base f cdv A outer s H E) [] (F1 S a p pool x4 d cs x7) lawI (.nx (F1 S a (drawP p cs.length) pool x4 d cs y)) := by
  have B := T.Q.T.N.B
  have big := szl
  have l0 := hc.l0
  have l1 := hc.l1
  have dr := drawN_ge (p := p) (m := (cs.length : Int)) (by omega)
  have bl := bent_len cs (drawN p cs.length).toNat (cs.getD (drawN p cs.length).toNat 0) 6 (by decide)
  have odd : ∀ x ∈ odds0 d ++ bentD cs (drawN p cs.length).toNat, OddOk x := fun x hx => (List.mem_append.mp hx).elim (odds0_ok hd x) (bent_ok hc (by omega) x)
  have key : ∃ δ', DS (LX P w K mg base f cdv A outer s H E) [] (F1 S a p pool x4 d cs x7) lawI (.nx δ') ∧ ∃ y, δ' = F1 S a (drawP p cs.length) pool x4 d cs y :=
    ds_forI (X := LX P w K mg base f cdv A outer s H E) (pn := []) (δ1 := F1 S a (drawP p cs.length) pool x4 d cs x7) (items := odds0 d ++ bentD cs (drawN p cs.length).toNat) (Iv := fun j δ => ∃ y, δ = F1 S a (drawP p cs.length) pool x4 d cs y) (passes_of rfl) rfl
      (di_list (de_frz (de_cat (xs := odds0 d) (ys := bentD cs (drawN p cs.length).toNat) (de_frz (de_lst (ds := odds0 d) (da_cons de_non (da_cons de_int (da_cons (de_frz (de_lst da_nil rfl (by decide))) (da_cons (de_frz (de_lst (ds := [.str "a."]) (da_cons de_str da_nil) rfl (by decide))) (da_cons (de_tup (ds := [.str "a."]) (da_cons de_str da_nil) rfl (by decide)) (da_cons de_dct0 (da_cons de_bl (da_cons (de_v 5) da_nil)))))))) rfl (by show 8 ≤ sizeLine; decide)))
        (de_frz (de_callQ 2 (pz p) (pz (drawP p cs.length)) (.ow (bentD cs (drawN p cs.length).toNat)) (fd_bent T.Pu T.bent (L := L) hL) (hr.mono (by decide)) rfl (da_o 2 (da_cons (de_v 6) da_nil)) rfl rfl ⟨p, cs, op, l0, by omega, hc.asc, rfl, rfl, rfl⟩)) (by show 8 + (bentD _ _).length ≤ sizeLine; unfold bentD; omega)))) ⟨x7, rfl⟩
      (fun j x δ hj hx ⟨y, e⟩ => by
        subst e
        have ox := odd x (List.mem_of_getElem? hx)
        refine ⟨_, dg_name (X := LX P w K mg base f cdv A outer s H E) (i := 7) nl_nd rfl (.inl rfl) (by simp), ?_⟩
        exact ⟨.nx (F1 S a (drawP p cs.length) pool x4 d cs (.d x)), dss_one (ds_ifF (dt_notT (dt_bl (de_callG (r := .d (.bl true)) (fdg_tright T.Q) hG (hr.mono (by decide)) rfl (da_cons (de_v 7) da_nil) rfl (R1.of (d := x) ox)))) rfl dss_nil), _, rfl, _, rfl⟩)
  obtain ⟨δ', h, y, rfl⟩ := key
  exact ⟨y, h⟩
end
end W76
end
section
set_option Elab.async false
set_option linter.all false
set_option maxRecDepth 100000
set_option maxHeartbeats 4000000
namespace W76
open PySem PySem.Spec PyProof.Rows L2 DL Hd
variable [TL]
variable {P : Program} {w : World} {K : PySem.W.Frag} {mg : Str → Option Value} {base : Heap}
abbrev F0 (S : Hp → V → Prop) (a : D) (p : Pu) (pool : List D) (x4 x5 x6 x7 : DV) : List DV := [.pr S, .d a, .ow (pz p), .d (.lst pool), x4, x5, x6, x7, .un, .un, .un, .un]
theorem four_gd {d : D} {cs : List Nat} (hd : MdOk 3 10190 d) (hc : CdOk d cs) : Gd 5 (.lst [tx cs, tx cs, d, d]) := by
  have l1 := hc.l1
  have wd := hd.wt
  have dd := hd.dep
  have st : (tx cs).ok = true := str_ascii hc.asc
  have sd : (tx cs).dep = 0 := rfl
  have sw : (tx cs).wt = cs.length := by show (ofCs cs).length = _; rw [ofCs_len]
  have ss : (tx cs).sm = true := rfl
  have g : GdA 4 [tx cs, tx cs, d, d] := ⟨by simp [D.okA, st, hd.ok], by simp only [D.depA, sd]; omega, by simp only [D.wtA, sw]; omega, by simp only [D.smA, ss, hd.sm]; rfl⟩
  exact g.lst
theorem txl_code {d : D} {cs : List Nat} (hc : CdOk d cs) : TxL cs := ⟨by have := hc.l1; omega, hc.asc, hc.wb.ub.mono (by decide)⟩
section
variable {f : Addr} {cdv : Value} {A : Around} {outer : List Env} {s : Shared} {H : Hp} {E : XK} {CP CN CS : Addr}
theorem spin_turn (T : LawT P K mg CP CN CS) (hG : (LX P w K mg base f cdv A outer s H E).A.guards = some []) (hr : Room 40 (LX P w K mg base f cdv A outer s H E).A) {L : Nat} (hL : L + 5000 ≤ 2 ^ 60) {p : Pu} (op : OkP L p) {S : Hp → V → Prop} {a : D} {pool : List D} (hp : PoolOk pool) {x4 x5 x6 x7 : DV} :
    DQ (LX P w K mg base f cdv A outer s H E) [] (F0 S a p pool x4 x5 x6 x7) (forB lawS) fun o => ∃ δ', o = .nx δ' ∧ ∃ p' y5 y6 y7, OkP (L + 5000) p' ∧ δ' = F0 S a p' pool x4 y5 y6 y7 := by
  have B := T.Q.T.N.B
  have big := szl
  have c3 : CC 3 = 4220 := rfl
  have FO := made_ok hp 3 (by decide)
  have hd0 : MdOk 3 10190 (madeN 3 pool p).1 := FO.md p
  have o1 := FO.pu _ _ op
  rw [c3] at o1
  obtain ⟨d, ed⟩ : ∃ d, d = (madeN 3 pool p).1 := ⟨_, rfl⟩
  obtain ⟨q, eq⟩ : ∃ q, q = (madeN 3 pool p).2 := ⟨_, rfl⟩
  rw [← ed] at hd0
  rw [← eq] at o1
  have hc := made_code hd0
  obtain ⟨cs, ec⟩ : ∃ cs, cs = codeL 13 d := ⟨_, rfl⟩
  rw [← ec] at hc
  have gd : Gd 13 d := (hd0.gd (by decide)).mono (by decide)
  have nd : nodeN 13 d = true := node_mono hd0.nd (by decide)
  have tk : TxOk (ofCs cs) := tx_of (txl_code hc)
  have rd : readP (csOf (ofCs cs)) = some d := by rw [csOf_ofCs]; exact hc.rd
  have ctx : codeN 13 d = tx cs := by rw [ec]; rfl
  have fg := four_gd hd0 hc
  have l1 := hc.l1
  have l0 := hc.l0
  obtain ⟨y, hin⟩ := inner (f := f) (cdv := cdv) (A := A) (outer := outer) (s := s) (H := H) (E := E) (w := w) (base := base) T hG hr (L := L + 4220) (by omega) o1 (S := S) (a := a) (pool := pool) (x4 := x4) (x7 := x7) hd0 hc
  have o2 := drawP_ok (m := (cs.length : Int)) o1 (by omega)
  refine dq_of (dss_cons (δ1 := F0 S a q pool x4 (.d d) x6 x7) (ds_to (ds_set (i := 5) (x := d) nl_nd rfl (.inl rfl) (by simp) (de_to (de_callQ (δ' := F0 S a q pool x4 x5 x6 x7) 2 (pz p) (pz (madeN 3 pool p).2) (.d (madeN 3 pool p).1) (fd_made T.Pu T.Q.lbare T.made 3 (by decide) L (by rw [c3]; omega)) (hr.mono (by decide)) rfl (da_o 2 (da_cons (de_v 3) (da_cons de_int da_nil))) rfl rfl ⟨p, pool, op, hp, rfl, rfl, rfl⟩ (by rw [eq]; rfl)) (by rw [ed]))) rfl)
    (dss_cons (δ1 := F1 S a q pool x4 d cs x7) (ds_to (ds_set (i := 6) (x := tx cs) nl_nd rfl (.inl rfl) (by simp) (de_to (de_call (r := .d (codeN 13 d)) (fd_lcode B T.Q.lcode 13 (by decide)) (hr.mono (by decide)) rfl (da_cons (de_v 5) da_nil) rfl (R1.of (d := d) ⟨gd, nd⟩)) (by rw [ctx]))) rfl)
    (dss_cons (ds_ifF (dt_notT (dt_bl (de_call (r := .d (.bl true)) (fd_exact B T.exact_ 5 (by decide)) (hr.mono (by decide)) rfl (da_cons (de_frz (de_lst (ds := [tx cs, tx cs, d, d]) (da_cons (de_v 6) (da_cons (de_v 6) (da_cons (de_v 5) (da_cons (de_v 5) da_nil)))) rfl (by show 4 ≤ sizeLine; decide)))
      (da_cons (de_frz (de_lst (ds := [tx cs, tx cs, d, d]) (da_cons (de_to (de_call (r := .d (codeN 13 d)) (fd_ntext T.Q.T.N T.check T.Q.T.code T.ntext T.errN 13 (by decide)) (hr.mono (by decide)) rfl (da_cons (de_v 5) da_nil) rfl (R1.of (d := d) ⟨gd, nd⟩)) (by rw [ctx])) (da_cons (de_to (de_callK1 (r := .d (codeN 13 d)) (fdk_ntext T.Q.T.N T.check T.Q.T.code T.ntext T.errN 13 (by decide)) (hr.mono (by decide)) rfl (de_v 5) (R1.of (d := d) ⟨gd, nd⟩)) (by rw [ctx]))
        (da_cons (de_call (r := .d d) (fd_read T.Q.T.N T.Q.T.R T.Q.T.code T.Q.T.read T.Q.T.errP) (hr.mono (by decide)) rfl (da_cons (de_v 6) da_nil) rfl ⟨ofCs cs, d, tk, rd, rfl, rfl, rfl⟩) (da_cons (de_callK1 (r := .d d) (fdk_read T.Q.T.N T.Q.T.R T.Q.T.code T.Q.T.read T.Q.T.errP) (hr.mono (by decide)) rfl (de_v 6) ⟨ofCs cs, d, tk, rd, rfl, rfl, rfl⟩) da_nil)))) rfl (by show 4 ≤ sizeLine; decide))) da_nil)) rfl ⟨_, fg, rfl, rfl, rfl⟩))) rfl dss_nil)
    (dss_one hin)))) ⟨_, rfl, _, _, _, _, o2.mono (by omega), rfl⟩
end
end W76
end
section
set_option Elab.async false
set_option linter.all false
set_option maxRecDepth 100000
set_option maxHeartbeats 4000000
namespace W76
open PySem PySem.Spec PyProof.Rows L2 DL Hd
variable [TL]
variable {P : Program} {w : World} {K : PySem.W.Frag} {mg : Str → Option Value} {base : Heap}
/-! ### the three loops over what the law writes itself -/
def goods : List D := [tx ([40, 97, 46] ++ List.replicate 30 57 ++ [41]), .str "[a.b.]", .str "([a.b.]2)", .str "[(a.2)b.]", .str "(a.10)", .str "[[a.b.]c.]", .str "zz."]
def bads : List D := [.str "", .str "a", .str "[]", .str "[a.]", .str "[a.a.]", .str "[a.(a.2)]", .str "(a.1)", .str "(a.02)", .str "((a.2)2)", .str "(a.2", .str "a.b.", .str "A."]
def bdA : D := .tup [.str "bead", .str "a"]
def bdB : D := .tup [.str "bead", .str "b"]
def unn : List D := [.non, .tup [], .str "a.", .tup [.str "bead", .str ""], .tup [.str "again", bdA, .int 1], .tup [.str "group", .tup [.str "again", bdA, .int 1], bdB], .tup [.str "again", .tup [.str "group", bdA, bdA], .int 2]]
def readB (x : D) (k : Bool) : Bool := match x with
  | .str s => okTx (.str s) && (readP (csOf s)).isSome == k
  | _ => false
theorem goods_ok : goods.all (fun x => readB x true) = true := by decide +kernel
theorem bads_ok : bads.all (fun x => readB x false) = true := by decide +kernel
def unB (x : D) : Bool := x.ok && (decide (x.dep ≤ 13) && (decide (x.wt ≤ 2 ^ 18) && (x.sm && !nodeN 13 x)))
theorem unn_ok : unn.all unB = true := by decide +kernel
theorem readB_of {x : D} {k : Bool} (h : readB x k = true) : ∃ s, x = .str s ∧ TxOk s ∧ (readP (csOf s)).isSome = k := by
  unfold readB at h
  split at h
  · rename_i s
    simp only [Bool.and_eq_true, beq_iff_eq] at h
    obtain ⟨s', e, hs⟩ := okTx_of h.1
    cases e
    exact ⟨s, rfl, hs, h.2⟩
  · cases h
theorem nine30 : Txt.mul "9" 30 = ofCs (List.replicate 30 57) := by decide +kernel
theorem lit_op : ("(a." : Str) = ofCs [40, 97, 46] := by decide +kernel
abbrev G0 (S : Hp → V → Prop) (a : D) (p : Pu) (pool : List D) (x4 x5 x6 x7 x8 x9 x10 : DV) : List DV := [.pr S, .d a, .ow (pz p), .d (.lst pool), x4, x5, x6, x7, x8, x9, x10, .un]
abbrev lawG : Stmt := (forB lawO).getD 3 default
abbrev lawB : Stmt := (forB lawO).getD 4 default
abbrev lawU : Stmt := (forB lawO).getD 6 default
section
variable {f : Addr} {cdv : Value} {A : Around} {outer : List Env} {s : Shared} {H : Hp} {E : XK} {CP CN CS : Addr} {S : Hp → V → Prop} {a : D} {p : Pu} {pool : List D} {x4 x5 x6 x7 x8 x9 x10 : DV}
theorem readD_yes {s : Str} {d : D} (h : readP (csOf s) = some d) : readD CP (.str s) = .tup [d, .non] := by simp only [readD, h]
theorem readD_no {s : Str} (h : readP (csOf s) = none) : readD CP (.str s) = .tup [.non, .exc CP (.str s)] := by simp only [readD, h]
theorem loopG (T : LawT P K mg CP CN CS) (hG : (LX P w K mg base f cdv A outer s H E).A.guards = some []) (hr : Room 40 (LX P w K mg base f cdv A outer s H E).A) :
    ∃ y, DS (LX P w K mg base f cdv A outer s H E) [] (G0 S a p pool x4 x5 x6 x7 x8 x9 x10) lawG (.nx (G0 S a p pool x4 x5 x6 y x8 x9 x10)) := by
  have B := T.Q.T.N.B
  have key : ∃ δ', DS (LX P w K mg base f cdv A outer s H E) [] (G0 S a p pool x4 x5 x6 x7 x8 x9 x10) lawG (.nx δ') ∧ ∃ y, δ' = G0 S a p pool x4 x5 x6 y x8 x9 x10 :=
    ds_forI (X := LX P w K mg base f cdv A outer s H E) (pn := []) (δ1 := G0 S a p pool x4 x5 x6 x7 x8 x9 x10) (items := goods) (Iv := fun j δ => ∃ y, δ = G0 S a p pool x4 x5 x6 y x8 x9 x10) (passes_of rfl) rfl
      (di_list (de_frz (de_lst (ds := goods) (da_cons (de_catS (de_catS (de_lit lit_op) (de_to (de_mulS de_str de_int ⟨by decide, fun _ _ => by decide, fun _ _ => by decide⟩) (by rw [nine30]; rfl)) (by decide)) (de_lit lit_rp) (by decide)) (da_cons de_str (da_cons de_str (da_cons de_str (da_cons de_str (da_cons de_str (da_cons de_str da_nil))))))) rfl (by show 7 ≤ sizeLine; decide)))) ⟨x7, rfl⟩
      (fun j x δ hj hx ⟨y, e⟩ => by
        subst e
        obtain ⟨t, rfl, tk, hd⟩ := readB_of (List.all_eq_true.mp goods_ok x (List.mem_of_getElem? hx))
        obtain ⟨d, hd⟩ := Option.isSome_iff_exists.mp hd
        have nn : d.isNon = false := by obtain ⟨t, x, r, rfl⟩ := node_shape (readP_some hd).2.1; rfl
        refine ⟨_, dg_name (X := LX P w K mg base f cdv A outer s H E) (i := 7) nl_nd rfl (.inl rfl) (by simp), ?_⟩
        exact ⟨.nx (G0 S a p pool x4 x5 x6 (.d (.str t)) x8 x9 x10), dss_one (ds_ifF (dt_w (dw_orF (dt_isN (x := d) (de_ixT (xs := [d, .non]) (de_to (de_call (r := .d (readD CP (.str t))) (fd_lread T.Q.T) (hr.mono (by decide)) rfl (da_cons (de_v 7) da_nil) rfl (R1.of (d := .str t) (odd_str tk).1)) (by rw [readD_yes hd])) de_int atI_0) nn)
          (dw_or1 (dt_notT (dt_bl (de_callG (r := .d (.bl true)) (fdg_tright T.Q) hG (hr.mono (by decide)) rfl (da_cons (de_v 7) da_nil) rfl (R1.of (d := .str t) (odd_str tk)))))))) rfl dss_nil), _, rfl, _, rfl⟩)
  obtain ⟨δ', h, y, rfl⟩ := key
  exact ⟨y, h⟩
theorem loopB (T : LawT P K mg CP CN CS) (hr : Room 40 (LX P w K mg base f cdv A outer s H E).A) :
    ∃ y, DS (LX P w K mg base f cdv A outer s H E) [] (G0 S a p pool x4 x5 x6 x7 x8 x9 x10) lawB (.nx (G0 S a p pool x4 x5 x6 y x8 x9 x10)) := by
  have B := T.Q.T.N.B
  have key : ∃ δ', DS (LX P w K mg base f cdv A outer s H E) [] (G0 S a p pool x4 x5 x6 x7 x8 x9 x10) lawB (.nx δ') ∧ ∃ y, δ' = G0 S a p pool x4 x5 x6 y x8 x9 x10 :=
    ds_forI (X := LX P w K mg base f cdv A outer s H E) (pn := []) (δ1 := G0 S a p pool x4 x5 x6 x7 x8 x9 x10) (items := bads) (Iv := fun j δ => ∃ y, δ = G0 S a p pool x4 x5 x6 y x8 x9 x10) (passes_of rfl) rfl
      (di_list (de_frz (de_lst (ds := bads) (da_cons de_str (da_cons de_str (da_cons de_str (da_cons de_str (da_cons de_str (da_cons de_str (da_cons de_str (da_cons de_str (da_cons de_str (da_cons de_str (da_cons de_str (da_cons de_str da_nil)))))))))))) rfl (by show 12 ≤ sizeLine; decide)))) ⟨x7, rfl⟩
      (fun j x δ hj hx ⟨y, e⟩ => by
        subst e
        obtain ⟨t, rfl, tk, hd⟩ := readB_of (List.all_eq_true.mp bads_ok x (List.mem_of_getElem? hx))
        have hd : readP (csOf t) = none := by simpa using hd
        refine ⟨_, dg_name (X := LX P w K mg base f cdv A outer s H E) (i := 7) nl_nd rfl (.inl rfl) (by simp), ?_⟩
        exact ⟨.nx (G0 S a p pool x4 x5 x6 (.d (.str t)) x8 x9 x10), dss_one (ds_ifF (dt_notN (x := .non) (de_ixT (xs := [.non, .exc CP (.str t)]) (de_to (de_call (r := .d (readD CP (.str t))) (fd_lread T.Q.T) (hr.mono (by decide)) rfl (da_cons (de_v 7) da_nil) rfl (R1.of (d := .str t) (odd_str tk).1)) (by rw [readD_no hd])) de_int atI_0) rfl) rfl dss_nil), _, rfl, _, rfl⟩)
  obtain ⟨δ', h, y, rfl⟩ := key
  exact ⟨y, h⟩
theorem loopU (T : LawT P K mg CP CN CS) (hG : (LX P w K mg base f cdv A outer s H E).A.guards = some []) (hr : Room 40 (LX P w K mg base f cdv A outer s H E).A) :
    ∃ y z, DS (LX P w K mg base f cdv A outer s H E) [] (G0 S a p pool x4 x5 x6 x7 (.d bdA) (.d bdB) x10) lawU (.nx (G0 S a p pool x4 x5 x6 y (.d bdA) (.d bdB) z)) := by
  have B := T.Q.T.N.B
  have key : ∃ δ', DS (LX P w K mg base f cdv A outer s H E) [] (G0 S a p pool x4 x5 x6 x7 (.d bdA) (.d bdB) x10) lawU (.nx δ') ∧ ∃ y z, δ' = G0 S a p pool x4 x5 x6 y (.d bdA) (.d bdB) z :=
    ds_forI (X := LX P w K mg base f cdv A outer s H E) (pn := []) (δ1 := G0 S a p pool x4 x5 x6 x7 (.d bdA) (.d bdB) x10) (items := unn) (Iv := fun j δ => ∃ y z, δ = G0 S a p pool x4 x5 x6 y (.d bdA) (.d bdB) z) (passes_of rfl) rfl
      (di_list (de_frz (de_lst (ds := unn) (da_cons de_non (da_cons (de_tup (ds := []) da_nil rfl (by decide)) (da_cons de_str (da_cons (de_tup (ds := [.str "bead", .str ""]) (da_cons de_str (da_cons de_str da_nil)) rfl (by show 2 ≤ sizeLine; decide)) (da_cons (de_tup (ds := [.str "again", bdA, .int 1]) (da_cons de_str (da_cons (de_v 8) (da_cons de_int da_nil))) rfl (by show 3 ≤ sizeLine; decide))
        (da_cons (de_tup (ds := [.str "group", .tup [.str "again", bdA, .int 1], bdB]) (da_cons de_str (da_cons (de_tup (ds := [.str "again", bdA, .int 1]) (da_cons de_str (da_cons (de_v 8) (da_cons de_int da_nil))) rfl (by show 3 ≤ sizeLine; decide)) (da_cons (de_v 9) da_nil))) rfl (by show 3 ≤ sizeLine; decide))
        (da_cons (de_tup (ds := [.str "again", .tup [.str "group", bdA, bdA], .int 2]) (da_cons de_str (da_cons (de_tup (ds := [.str "group", bdA, bdA]) (da_cons de_str (da_cons (de_v 8) (da_cons (de_v 8) da_nil))) rfl (by show 3 ≤ sizeLine; decide)) (da_cons de_int da_nil))) rfl (by show 3 ≤ sizeLine; decide)) da_nil))))))) rfl (by show 7 ≤ sizeLine; decide)))) ⟨x7, x10, rfl⟩
      (fun j x δ hj hx ⟨y, z, e⟩ => by
        subst e
        have ub := List.all_eq_true.mp unn_ok x (List.mem_of_getElem? hx)
        unfold unB at ub
        simp only [Bool.and_eq_true, decide_eq_true_eq, Bool.not_eq_true'] at ub
        have gd : Gd 13 x := ⟨ub.1, ub.2.1, ub.2.2.1, ub.2.2.2.1⟩
        have nn : nodeN 13 x = false := ub.2.2.2.2
        have sh := gd.shows (by decide)
        refine ⟨_, dg_name (X := LX P w K mg base f cdv A outer s H E) (i := 7) nl_nd rfl (.inl rfl) (by simp), ?_⟩
        refine ⟨.nx (G0 S a p pool x4 x5 x6 (.d x) (.d bdA) (.d bdB) (.d (.exc CN x))), dss_cons (δ1 := G0 S a p pool x4 x5 x6 (.d x) (.d bdA) (.d bdB) (.d .non)) (ds_to (ds_set (i := 10) (x := .non) nl_nd rfl (.inl rfl) (by simp) de_non) rfl)
          (dss_cons (δ1 := G0 S a p pool x4 x5 x6 (.d x) (.d bdA) (.d bdB) (.d (.exc CN x))) (ds_to (ds_tryX (X := LX P w K mg base f cdv A outer s H E) (i := 11) (j := 10) (CS := CS) (C := CN) (d := x) (δ := G0 S a p pool x4 x5 x6 (.d x) (.d bdA) (.d bdB) (.d .non)) rfl rfl rfl nl_nd rfl rfl rfl rfl (by decide) ⟨rfl, by decide, .inl T.Q.T.cut⟩ T.exmN rfl (by simp) (by simp) (fun pn' xe => pss_exprX (de_callX (fd_ntext T.Q.T.N T.check T.Q.T.code T.ntext T.errN 13 (by decide)) (hr.mono (by decide)) rfl (da_cons (de_v 7) da_nil) rfl ⟨⟨gd, nn⟩, rfl, rfl⟩)) (hil := fun σ h => by rw [h]; exact (by decide : 11 < 12))) rfl)
          (dss_one (ds_ifF (dt_w (dw_orF (dt_notT (dt_bl (de_isX T.errN rfl B.isi (de_v 10) rfl T.errN.gC T.isN))) (dw_or1 (dt_neS (s := x.rep) (t := x.rep) (de_repr hG hr rfl B.repr (de_fld T.errN (de_v 10)) (.inl sh)) (de_repr hG hr rfl B.repr (de_v 7) (.inl sh)) (by simp))))) rfl dss_nil))), _, rfl, _, _, rfl⟩)
  obtain ⟨δ', h, y, z, rfl⟩ := key
  exact ⟨y, z, h⟩
end
end W76
end
section
set_option Elab.async false
set_option linter.all false
set_option maxRecDepth 100000
set_option maxHeartbeats 4000000
namespace W76
open PySem PySem.Spec PyProof.Rows L2 DL Hd
variable [TL]
variable {P : Program} {w : World} {K : PySem.W.Frag} {mg : Str → Option Value} {base : Heap}
abbrev frO (S : Hp → V → Prop) : List DV := [.pr S, .un, .un, .un, .un, .un, .un, .un, .un, .un, .un, .un]
theorem pool_ok (p : Pu) : PoolOk (poolN p) := by
  have d := drawN_ge (p := p) (m := 6) (by decide)
  have e : (poolN p).length = (drawN p 6 + 2).toNat := by unfold poolN; rw [List.length_map, List.length_range]
  refine ⟨by omega, by omega, fun x hx => ?_⟩
  unfold poolN at hx
  obtain ⟨j, _, rfl⟩ := List.mem_map.mp hx
  refine ⟨_, rfl, ?_⟩
  unfold pw
  have k := size_eq (pwPs (drawP p 6) j)
  have d2 := drawN_ge (p := drawP (pwPs (drawP p 6) j) 3) k.2.1
  exact word_ok _ (by omega) (by have := k.2.2; omega)
section
variable {f : Addr} {cdv : Value} {A : Around} {outer : List Env} {s : Shared} {H : Hp} {E : XK} {CP CN CS : Addr}
theorem spins (T : LawT P K mg CP CN CS) (hG : (LX P w K mg base f cdv A outer s H E).A.guards = some []) (hr : Room 40 (LX P w K mg base f cdv A outer s H E).A) {L : Nat} (hL : L + 30000 ≤ 2 ^ 60) {p : Pu} (op : OkP L p) {S : Hp → V → Prop} {a : D} {pool : List D} (hp : PoolOk pool) :
    ∃ q y4 y5 y6 y7, DS (LX P w K mg base f cdv A outer s H E) [] (F0 S a p pool .un .un .un .un) lawS (.nx (F0 S a q pool y4 y5 y6 y7)) := by
  have B := T.Q.T.N.B
  have key : ∃ δ', DS (LX P w K mg base f cdv A outer s H E) [] (F0 S a p pool .un .un .un .un) lawS (.nx δ') ∧ ∃ q y4 y5 y6 y7, OkP (L + 5000 * (irange 0 4).length) q ∧ δ' = F0 S a q pool y4 y5 y6 y7 :=
    ds_forI (X := LX P w K mg base f cdv A outer s H E) (pn := []) (δ1 := F0 S a p pool .un .un .un .un) (items := irange 0 4) (Iv := fun j δ => ∃ q y4 y5 y6 y7, OkP (L + 5000 * j) q ∧ δ = F0 S a q pool y4 y5 y6 y7) (passes_of rfl) rfl
      (di_to (di_range1 (n := 4) rfl B.rng de_int ⟨by decide, by decide⟩) rfl) ⟨p, .un, .un, .un, .un, op, rfl⟩
      (fun j d δ hj hd ⟨q, y4, y5, y6, y7, oq, e⟩ => by
        subst e
        have hj : j < 4 := by rwa [irange_len] at hj
        refine ⟨_, dg_name (X := LX P w K mg base f cdv A outer s H E) (i := 4) nl_nd rfl (.inl rfl) (by simp), ?_⟩
        obtain ⟨o, h, δ', e, p', z5, z6, z7, op', e2⟩ := spin_turn (f := f) (cdv := cdv) (A := A) (outer := outer) (s := s) (H := H) (E := E) (w := w) (base := base) T hG hr (L := L + 5000 * j) (by omega) oq (S := S) (a := a) hp (x4 := .d d) (x5 := y5) (x6 := y6) (x7 := y7)
        exact ⟨o, h, δ', e, p', _, z5, z6, z7, op'.mono (by omega), e2⟩)
  obtain ⟨δ', h, q, y4, y5, y6, y7, _, rfl⟩ := key
  exact ⟨q, y4, y5, y6, y7, h⟩
theorem at_turn (T : LawT P K mg CP CN CS) (hG : (LX P w K mg base f cdv A outer s H E).A.guards = some []) (hr : Room 40 (LX P w K mg base f cdv A outer s H E).A) {scr : List Int} {a : Int} (h0 : 0 ≤ a) (h1 : a ≤ 100) :
    DSs (LX P w K mg base f cdv A outer s H E) [] ((frO (prS K scr)).set 1 (.d (.int a))) (forB lawO) (.nx (frO (prS K scr))) := by
  have B := T.Q.T.N.B
  have big := szl
  obtain ⟨p, hp⟩ : ∃ p, p = purse0 scr a := ⟨_, rfl⟩
  have o0 : OkP 0 p := by rw [hp]; exact purse0_ok h0 (by omega)
  have o1 : OkP 200 (poolP p) := poolP_ok o0
  have po := pool_ok p
  obtain ⟨q, y4, y5, y6, y7, hsp⟩ := spins (f := f) (cdv := cdv) (A := A) (outer := outer) (s := s) (H := H) (E := E) (w := w) (base := base) T hG hr (L := 200) (by decide) o1 (S := prS K scr) (a := .int a) po
  obtain ⟨z7, hg⟩ := loopG (f := f) (cdv := cdv) (A := A) (outer := outer) (s := s) (H := H) (E := E) (w := w) (base := base) T hG hr (S := prS K scr) (a := .int a) (p := q) (pool := poolN p) (x4 := y4) (x5 := y5) (x6 := y6) (x7 := y7) (x8 := .un) (x9 := .un) (x10 := .un)
  obtain ⟨w7, hb⟩ := loopB (f := f) (cdv := cdv) (A := A) (outer := outer) (s := s) (H := H) (E := E) (w := w) (base := base) T hr (S := prS K scr) (a := .int a) (p := q) (pool := poolN p) (x4 := y4) (x5 := y5) (x6 := y6) (x7 := z7) (x8 := .un) (x9 := .un) (x10 := .un)
  obtain ⟨v7, v10, hu⟩ := loopU (f := f) (cdv := cdv) (A := A) (outer := outer) (s := s) (H := H) (E := E) (w := w) (base := base) T hG hr (S := prS K scr) (a := .int a) (p := q) (pool := poolN p) (x4 := y4) (x5 := y5) (x6 := y6) (x7 := w7) (x10 := .un)
  refine dss_to (dss_un 1 (dss_un 2 (dss_un 3 (dss_un 4 (dss_un 5 (dss_un 6 (dss_un 7 (dss_un 8 (dss_un 9 (dss_un 10 (δ' := G0 (prS K scr) (.int a) q (poolN p) y4 y5 y6 v7 (.d bdA) (.d bdB) v10) ?_)))))))))) rfl
  exact dss_cons (δ1 := [.pr (prS K scr), .d (.int a), .ow (pz p), .un, .un, .un, .un, .un, .un, .un, .un, .un]) (ds_to (ds_setO (i := 2) (xs := pz p) nl_nd rfl (.inl rfl) (by simp) (de_call (r := .ow (pz p)) (fd_purse B T.purse) (hr.mono (by omega)) rfl (da_pr (de_vp 0) (da_cons (de_v 1) da_nil)) rfl ⟨scr, a, rfl, by rw [hp], rfl⟩)) rfl)
    (dss_cons (δ1 := F0 (prS K scr) (.int a) (poolP p) (poolN p) .un .un .un .un) (ds_to (ds_set (i := 3) (x := .lst (poolN p)) nl_nd rfl (.inl rfl) (by simp) (de_frz (de_callQ 2 (pz p) (pz (poolP p)) (.ow (poolN p)) (fd_pool T.Pu (L := 0) (by decide)) (hr.mono (by decide)) rfl (da_o 2 da_nil) rfl rfl ⟨p, o0, rfl, rfl, rfl⟩))) rfl)
    (dss_cons hsp
    (dss_cons hg
    (dss_cons hb
    (dss_cons (δ1 := G0 (prS K scr) (.int a) q (poolN p) y4 y5 y6 w7 (.d bdA) (.d bdB) .un) (ds_asgD (δ1 := G0 (prS K scr) (.int a) q (poolN p) y4 y5 y6 w7 .un .un .un) (d := .tup [bdA, bdB]) (de_tup (ds := [bdA, bdB]) (da_cons (de_tup (ds := [.str "bead", .str "a"]) (da_cons de_str (da_cons de_str da_nil)) rfl (by show 2 ≤ sizeLine; decide)) (da_cons (de_tup (ds := [.str "bead", .str "b"]) (da_cons de_str (da_cons de_str da_nil)) rfl (by show 2 ≤ sizeLine; decide)) da_nil)) rfl (by show 2 ≤ sizeLine; decide)) (dg_two (i := 8) (j := 9) rfl nl_nd rfl (.inl rfl) rfl (.inl rfl) (by simp) (by simp)))
    (dss_one hu))))))
theorem law_body (T : LawT P K mg CP CN CS) (hG : (LX P w K mg base f cdv A outer s H E).A.guards = some []) (hr : Room 40 (LX P w K mg base f cdv A outer s H E).A) {scr : List Int} :
    DSs (LX P w K mg base f cdv A outer s H E) [] (ent [.pr (prS K scr)] 11) (defBody s_law) (.rt (.d (.bl true)) (frO (prS K scr))) := by
  have B := T.Q.T.N.B
  obtain ⟨k, hk, hk2⟩ : ∃ k : Nat, (max 1 (min (scr.length : Int) 4)).toNat = k ∧ k ≤ 4 := ⟨_, rfl, by omega⟩
  have key : ∃ δ', DS (LX P w K mg base f cdv A outer s H E) [] (frO (prS K scr)) lawO (.nx δ') ∧ δ' = frO (prS K scr) :=
    ds_forI (X := LX P w K mg base f cdv A outer s H E) (pn := []) (δ1 := frO (prS K scr)) (items := irange 0 k) (Iv := fun j δ => δ = frO (prS K scr)) (passes_of rfl) rfl
      (di_to (di_range1 (n := max 1 (min (scr.length : Int) 4)) rfl B.rng (de_max2 rfl rfl B.max de_int (de_min2 rfl rfl B.min (de_lenP rfl B.len (de_vp 0)) de_int)) (by omega)) (by rw [hk])) rfl
      (fun j d δ hj hd e => by
        subst e
        have hj : j < k := by rwa [irange_len] at hj
        rw [irange_get hj] at hd
        cases hd
        exact ⟨_, dg_name (X := LX P w K mg base f cdv A outer s H E) (i := 1) nl_nd rfl (.inl rfl) (by simp), dq_of (at_turn T hG hr (by omega) (by omega)) ⟨_, rfl, rfl⟩⟩)
  obtain ⟨δ', h, rfl⟩ := key
  exact dss_cons h (dss_one (ds_ret de_bl))
end
end W76
end
section
set_option Elab.async false
set_option linter.all false
set_option maxRecDepth 100000
set_option maxHeartbeats 4000000
namespace W76
open PySem PySem.Spec PyProof.Rows L2 DL Hd
abbrev PW : Program := PySem.Challenge.pw_owntrees_k94_whole_texts_of_nodes
section
variable {w : World} {h : Heap} {K : PySem.W.Frag} {mg : Str → Option Value}
theorem gl_of (X : K.In h) (G : h.Ns mainGlobals mg) (c : He.SaysX fa2 fn [] tf ex2 w h K) {x : Str} (hx : He.Fa.glo x ∈ fa2) : mg x = some (.ref (He.ga K x)) := He.glo_ok X G (c.t.d.facts hx)
theorem fr_of (X : K.In h) (G : h.Ns mainGlobals mg) (c : He.SaysX fa2 fn [] tf ex2 w h K) {x : Str} (hx : He.Fa.free x ∈ fa2) : mg x = none := He.free_ok X G (c.t.d.facts hx)
theorem bn_of (X : K.In h) (G : h.Ns mainGlobals mg) (c : He.SaysX fa2 fn [] tf ex2 w h K) : Bn mg := by
  have F : ∀ {x : Str}, He.Fa.free x ∈ fa2 → mg x = none := fun hx => fr_of X G c hx
  constructor <;> exact F (by simp [fa2, fa, fa1, fa0])
theorem dfN_of (X : K.In h) (G : h.Ns mainGlobals mg) (c : He.SaysX fa2 fn [] tf ex2 w h K) : DfN K mg := by
  have g : ∀ {x : Str}, He.Fa.glo x ∈ fa2 → mg x = some (.ref (He.ga K x)) := fun hx => gl_of X G c hx
  refine ⟨bn_of X G c, ?_, ?_, ?_, ?_, ?_, ?_, ?_, ?_, ?_⟩
  · obtain ⟨fd, F⟩ := c.t.d.def_ 0 (d := d_is_whole) rfl; exact ⟨_, fd, F, g (by simp [fa2, fa, fa1, fa0])⟩
  · obtain ⟨fd, F⟩ := c.t.d.def_ 1 (d := d_is_count) rfl; exact ⟨_, fd, F, g (by simp [fa2, fa, fa1, fa0])⟩
  · obtain ⟨fd, F⟩ := c.t.d.def_ 2 (d := d_is_text) rfl; exact ⟨_, fd, F, g (by simp [fa2, fa, fa1, fa0])⟩
  · obtain ⟨fd, F⟩ := c.t.d.def_ 3 (d := d_is_word) rfl; exact ⟨_, fd, F, g (by simp [fa2, fa, fa1, fa0])⟩
  · obtain ⟨fd, F⟩ := c.t.d.def_ 4 (d := d_is_again) rfl; exact ⟨_, fd, F, g (by simp [fa2, fa, fa1, fa0])⟩
  · obtain ⟨fd, F⟩ := c.t.d.def_ 5 (d := d_is_single) rfl; exact ⟨_, fd, F, g (by simp [fa2, fa, fa1, fa0])⟩
  · obtain ⟨fd, F⟩ := c.t.d.def_ 6 (d := d_is_group) rfl; exact ⟨_, fd, F, g (by simp [fa2, fa, fa1, fa0])⟩
  · obtain ⟨fd, F⟩ := c.t.d.def_ 7 (d := d_is_node) rfl; exact ⟨_, fd, F, g (by simp [fa2, fa, fa1, fa0])⟩
  · obtain ⟨fd, F⟩ := c.t.d.def_ 9 (d := d_bare) rfl; exact ⟨_, fd, F, g (by simp [fa2, fa, fa1, fa0])⟩
theorem dfP_of (X : K.In h) (G : h.Ns mainGlobals mg) (c : He.SaysX fa2 fn [] tf ex2 w h K) : DfP K mg := by
  have g : ∀ {x : Str}, He.Fa.glo x ∈ fa2 → mg x = some (.ref (He.ga K x)) := fun hx => gl_of X G c hx
  refine ⟨bn_of X G c, ?_, ?_, ?_, ?_, ?_⟩
  · obtain ⟨fd, F⟩ := c.t.d.def_ 17 (d := d__law_mixed) rfl; exact ⟨_, fd, F, g (by simp [fa2, fa, fa1, fa0])⟩
  · obtain ⟨fd, F⟩ := c.t.d.def_ 18 (d := d__law_draw) rfl; exact ⟨_, fd, F, g (by simp [fa2, fa, fa1, fa0])⟩
  · obtain ⟨fd, F⟩ := c.t.d.def_ 19 (d := d__law_one_of) rfl; exact ⟨_, fd, F, g (by simp [fa2, fa, fa1, fa0])⟩
  · obtain ⟨fd, F⟩ := c.t.d.def_ 22 (d := d__law_word) rfl; exact ⟨_, fd, F, g (by simp [fa2, fa, fa1, fa0])⟩
  · obtain ⟨fd, F⟩ := c.t.d.def_ 23 (d := d__law_pool) rfl; exact ⟨_, fd, F, g (by simp [fa2, fa, fa1, fa0])⟩
theorem df_of (X : K.In h) (G : h.Ns mainGlobals mg) (c : He.SaysX fa2 fn [] tf ex2 w h K) (x : Str) (s : Stmt) (i : Nat) (hx : He.Fa.glo x ∈ fa2) (hi : fn[i]? = some ⟨(x, none), x, x, defArgs s, defBody s, defScope s, [], []⟩) : Df K mg x s := by
  obtain ⟨fd, F⟩ := c.t.d.def_ i hi
  exact ⟨_, fd, F, gl_of X G c hx⟩
theorem errs_of (c : He.SaysX fa2 fn [] tf ex2 w h K) : DX.errC PW K "InvalidPaper" = true ∧ DX.errC PW K "InvalidNode" = true := Bool.and_eq_true_iff.mp c.more
theorem lawT_of (X : K.In h) (G : h.Ns mainGlobals mg) (c : He.SaysX fa2 fn [] tf ex2 w h K) : LawT PW K mg (He.ga K "InvalidPaper") (He.ga K "InvalidNode") (He.ga K "CutError") := by
  have g : ∀ {x : Str}, He.Fa.glo x ∈ fa2 → mg x = some (.ref (He.ga K x)) := fun hx => gl_of X G c hx
  have N := dfN_of X G c
  have sm := fr_of X G c (x := "super") (by simp [fa2, fa, fa1, fa0])
  have u1 : He.Fa.ok K (.exm "InvalidPaper" "CutError" true) = true := c.t.d.facts (by simp [fa2, fa, fa1, fa0])
  have u2 : He.Fa.ok K (.exm "InvalidNode" "CutError" true) = true := c.t.d.facts (by simp [fa2, fa, fa1, fa0])
  obtain ⟨e1, e2⟩ := errs_of c
  have R : DfR K mg := ⟨bn_of X G c, df_of X G c "word_at" s_word_at 12 (by simp [fa2, fa, fa1, fa0]) rfl, df_of X G c "node_at" s_node_at 13 (by simp [fa2, fa, fa1, fa0]) rfl, df_of X G c "group_at" s_group_at 14 (by simp [fa2, fa, fa1, fa0]) rfl, He.str_ok X G (c.t.d.facts (by simp [fa2, fa, fa1, fa0])), He.str_ok X G (c.t.d.facts (by simp [fa2, fa, fa1, fa0]))⟩
  have Rd : RdT PW K mg (He.ga K "InvalidPaper") (He.ga K "CutError") := ⟨N, R, df_of X G c "code_in" s_code_in 10 (by simp [fa2, fa, fa1, fa0]) rfl, df_of X G c "read_node" s_read_node 15 (by simp [fa2, fa, fa1, fa0]) rfl, df_of X G c "_law_read" s__law_read 26 (by simp [fa2, fa, fa1, fa0]) rfl, ⟨⟨_, DX.errC_ok e1⟩, g (by simp [fa2, fa, fa1, fa0]), sm⟩, g (by simp [fa2, fa, fa1, fa0]), of_decide_eq_true u1⟩
  have Q : TrT PW K mg (He.ga K "InvalidPaper") (He.ga K "CutError") := ⟨Rd, df_of X G c "_law_code" s__law_code 21 (by simp [fa2, fa, fa1, fa0]) rfl, df_of X G c "_law_bare" s__law_bare 24 (by simp [fa2, fa, fa1, fa0]) rfl, df_of X G c "_law_is_sound" s__law_is_sound 28 (by simp [fa2, fa, fa1, fa0]) rfl, df_of X G c "_law_text_right" s__law_text_right 27 (by simp [fa2, fa, fa1, fa0]) rfl, by unfold PySem.W.kitOne; rw [if_pos (by simp)]⟩
  exact ⟨Q, dfP_of X G c, df_of X G c "_law_purse" s__law_purse 16 (by simp [fa2, fa, fa1, fa0]) rfl, df_of X G c "_law_exact" s__law_exact 20 (by simp [fa2, fa, fa1, fa0]) rfl, df_of X G c "_law_made" s__law_made 25 (by simp [fa2, fa, fa1, fa0]) rfl, df_of X G c "_law_bent" s__law_bent 29 (by simp [fa2, fa, fa1, fa0]) rfl, df_of X G c "check_node" s_check_node 8 (by simp [fa2, fa, fa1, fa0]) rfl, df_of X G c "node_text" s_node_text 11 (by simp [fa2, fa, fa1, fa0]) rfl, ⟨⟨_, DX.errC_ok e2⟩, g (by simp [fa2, fa, fa1, fa0]), sm⟩, of_decide_eq_true u2, by unfold PySem.W.kitOne; rw [if_pos (by simp)]⟩
end
end W76
end
section
set_option Elab.async false
set_option linter.all false
set_option maxRecDepth 100000
set_option maxHeartbeats 4000000
namespace W76
open PySem PySem.Spec PyProof.Rows L2 DL Hd
/-- the heap without its tables -/
def noTb (H : Hp) : Hp := fun b => match H b with
  | some (.tbl _) => none
  | o => o
theorem noTb_of {H : Hp} {b : Addr} {o : HO} (h : H b = some o) (n : ∀ ps, o ≠ .tbl ps) : noTb H b = some o := by
  unfold noTb
  rw [h]
  cases o <;> first | rfl | exact absurd rfl (n _)
theorem noTb_sub {H : Hp} : Ex (noTb H) H := fun b o h => by
  unfold noTb at h
  split at h
  · cases h
  · exact h
theorem noTb_nt {H : Hp} : ∀ a ps, noTb H a ≠ some (.tbl ps) := fun a ps h => by
  unfold noTb at h
  split at h
  · cases h
  · rename_i n; exact n ps h
theorem sql_noTb {K : PySem.W.Frag} {H F : Hp} {a : Addr} {xs : List V} (h : SqL K H a xs) (e : Ex (noTb H) F) : SqL K F a xs := by
  rcases h with (h | ⟨o, h⟩) | h
  · exact .inl (.inl (e _ _ (noTb_of h fun _ z => nomatch z)))
  · exact .inl (.inr ⟨o, e _ _ (noTb_of h fun _ z => nomatch z)⟩)
  · exact .inr h
section
variable {w : World} {h : Heap} {K : PySem.W.Frag} {mg : Str → Option Value}
theorem rs_start [TL] {H : Hp} {a : Addr} {ns : List Int} (ht : TL.T = []) (S : SqL K H a (ns.map V.int)) : Rs (noTb H) H ([V.ref a].map some) [.pr (prS K ns)] := by
  refine ⟨noTb_sub, rfl, fun i x hx => ?_, fun i j xs ys o _ h1 => ?_, fun p hp => ?_, noTb_nt⟩
  · match i, hx with
    | 0, hx => cases hx; exact ⟨_, rfl, _, rfl, fun F' e => ⟨a, rfl, sql_noTb S e⟩⟩
    | i + 1, hx => cases hx
  · match i, h1 with
    | 0, h1 => cases h1
    | i + 1, h1 => cases h1
  · rw [ht] at hp
    simp at hp
theorem room_law : Room 41 callerA := ⟨rfl, by decide +kernel, by decide +kernel⟩
theorem law_Fb {CP CN CS : Addr} (T : LawT PW K mg CP CN CS) {fa' : Addr} {fd : FuncData} (F : FunD K "law" "law" (defArgs s_law) (defBody s_law) (defScope s_law) [] [] fa' fd) {ns : List Int} {s₁ : Shared} {base : Heap} {H : Hp} {a : Addr}
    (e0 : Env0 PW w K mg base callerA [] s₁ H) (S : SqL K H a (ns.map V.int)) :
    codeAny (model PW w) callerA (.call (.ref fa') ⟨[.ref a], []⟩) (CR (L2.CX PW w) [] PW w H s₁ (fun v _ => v = .bl true) fun _ _ _ => False) s₁ := by
  letI : TL := ⟨[]⟩
  have b := FunD.bindsA (ps := ["script"]) F fun _ _ _ _ _ _ us hl => match us, hl with | [_], _ => rfl
  refine fn_at (k := 40) (vs := [.ref a]) (us := [.ref a]) F sc_law room_law e0 (b s₁ [.ref a] rfl) (.cons rfl .nil) rfl ?_
  intro cdv hcd hfd hr'
  have B := law_body (P := PW) (w := w) (base := base) (f := fa') (cdv := cdv) (A := callerA) (outer := []) (s := s₁) (H := H) (E := fun _ _ _ => False) T rfl hr' (scr := ns)
  refine ⟨_, B, noTb H, ?_, fun v σ' F' H' A q => ?_⟩
  · exact (rs_start rfl S).enter rfl
  · have q : Rp F' v (.bl true) := q
    cases q
    rfl
theorem hmg_of {fa : Addr} (hmg : mg (HandSHeadRun.topDef R.prog 40).name = some (.ref fa)) : mg ("law" : Str) = some (.ref fa) := by
  have e : (HandSHeadRun.topDef R.prog 40).name = ("law" : Str) := by kernel_rfl
  rw [← e]
  exact hmg
end
end W76
end
set_option Elab.async false
set_option linter.all false
set_option maxRecDepth 100000
set_option maxHeartbeats 4000000
open PySem PySem.W PySem.Calls PyProof.Rows
set_option maxHeartbeats 0 in
theorem PySem.Challenge.cw_owntrees_k94_whole_texts_of_nodes_holds : PySem.Challenge.rw_owntrees_k94_whole_texts_of_nodes.Holds := by
  w_on; o_law
  refine HandSHeadRun.head_any (r := OpenLaw.row PySem.Challenge.rw_owntrees_k94_whole_texts_of_nodes) (q := view (OpenLaw.row PySem.Challenge.rw_owntrees_k94_whole_texts_of_nodes).prog [40]) (H := Hd.hk2) (ob := Hd.ob2) (M := 4000) (loose := Hd.loose) (d := HandSHeadRun.topDef (OpenLaw.row PySem.Challenge.rw_owntrees_k94_whole_texts_of_nodes).prog 40) (kwd := []) Hd.ob2_eq
    (by kernel_rfl) (fun s => by kernel_rfl) Hd.run2 (by kernel_rfl) (by kernel_rfl) (by kernel_rfl) (by rfl) (by first | assumption | decide +kernel) (by decide +kernel) ⟨rfl, rfl, rfl, rfl, rfl, by decide +kernel⟩ ?hw ?hc
  case hw => w_witness2
  case hc =>
    refine Att.attach_callB (n := 63) rfl (by kernel_rfl) fun w s₀ s₁ mg mb fa o pm cd doc a vs ns G Y ho hd hcd hmg hobj hints hlen hbits hg => ?_
    obtain ⟨K, KX, c⟩ := Y
    have hmg := W76.hmg_of hmg
    have T := W76.lawT_of KX G.T.g c
    obtain ⟨fd, F⟩ := c.t.d.def_ 30 (d := Hd.d_law) rfl
    have e : fa = He.fAd K ("law", none) := by
      have h1 := W76.gl_of KX G.T.g c (x := "law") (by simp [Hd.fa2, Hd.fa, Hd.fa1, Hd.fa0])
      exact Value.ref.inj (Option.some.inj (hmg.symm.trans h1))
    subst e
    refine DL.law_at (cs := []) KX G.T.g G.T.b G.T.builtins G.T.nolimit hg (fun p hp => ?_) (fun p hp => ?_) (fun p hp => ?_) G.T.bmain hobj hints (Nat.le_trans hlen (by decide)) (fun base H _ _ TB e0 HT S => W76.law_Fb T F e0 S) (fun H e s' z => ?_)
    · simp at hp
    · simp at hp
    · simp at hp
    · obtain ⟨_, _, _, _, _, _, _, _, _, _, _, _, z⟩ := z
      exact z
